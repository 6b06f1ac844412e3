import PyProof.Rows.All
import Wide.All
import OpenK.AllK
import Wide.FinOn
import HandS.ForMost
import HandS.ForExc
import HandS.EndTab
import HandS.HeadWalk
import HandS.HeadHook4
import HandS.Head2
import HandS.HeadEnd
import HandS.Defaults
import HandS.IsInst
import HandS.Deep
import HandS.TupAny
import HandS.Style
import HandS.Flow
import HandS.ExcValue
import HandS.SortOrd
import HandS.SortKw
import HandS.SetKeys
import HandS.StrMore
import HandS.Wide
import HandS.Small
import HandS.ExcIs
import PySem.Challenge.RW_everyfind_k87_lines_of_texts
set_option Elab.async false
set_option linter.all false
set_option maxRecDepth 100000
set_option maxHeartbeats 0
/-! TL: a second layer over HandS: values as trees (T), slots that hold trees (Sl), readings of trees (plain Lean, no heap). -/
namespace TL
open PySem PySem.Spec PyProof.Rows L2
/-! ### trees -/
inductive T where
  | non | bl (b : Bool) | int (i : Int) | str (s : Str)
  | lst (xs : List T) | tup (xs : List T) | fls (xs : List T) | dct (kvs : List (Key × T))
  | raw (v : V) | ob (f : Addr → HO)
mutual
inductive Is (K : PySem.W.Frag) (G : Hp) : V → T → Prop
  | non : Is K G .non .non
  | bl {b} : Is K G (.bl b) (.bl b)
  | int {i} : Is K G (.int i) (.int i)
  | str {s} : Is K G (.str s) (.str s)
  | lst {a vs ts} : G a = some (.lst vs) → IsAll K G vs ts → Is K G (.ref a) (.lst ts)
  | tup {a vs ts} : SqT K G a vs → IsAll K G vs ts → Is K G (.ref a) (.tup ts)
  | fls {a vs ts} : SqL K G a vs → IsAll K G vs ts → Is K G (.ref a) (.fls ts)
  | dct {a kvs kts} : G a = some (.dK kvs) → IsKv K G kvs kts → Is K G (.ref a) (.dct kts)
  | raw {v} : Is K G v (.raw v)
  | ob {a f} : G a = some (f a) → Is K G (.ref a) (.ob f)
inductive IsAll (K : PySem.W.Frag) (G : Hp) : List V → List T → Prop
  | nil : IsAll K G [] []
  | cons {v vs t ts} : Is K G v t → IsAll K G vs ts → IsAll K G (v :: vs) (t :: ts)
inductive IsKv (K : PySem.W.Frag) (G : Hp) : List (Key × V) → List (Key × T) → Prop
  | nil : IsKv K G [] []
  | cons {k v vs t ts} : Is K G v t → IsKv K G vs ts → IsKv K G ((k, v) :: vs) ((k, t) :: ts)
end
def Sub (G H : Hp) : Prop := ∀ a o, G a = some o → H a = some o
theorem Sub.refl (G : Hp) : Sub G G := fun _ _ h => h
theorem Sub.trans {G H I : Hp} (a : Sub G H) (b : Sub H I) : Sub G I := fun x o h => b x o (a x o h)
theorem Sub.rd {G H : Hp} {a : Addr} {u : HO} (s : Sub G H) (h : Rd G a u) : Rd H a u := by
  rcases h with h | ⟨o, h⟩
  · exact .inl (s _ _ h)
  · exact .inr ⟨o, s _ _ h⟩
theorem Sub.sqT {K : PySem.W.Frag} {G H : Hp} {a : Addr} {xs : List V} (s : Sub G H) (h : SqT K G a xs) : SqT K H a xs := h.elim (fun h => .inl (s.rd h)) .inr
theorem Sub.sqL {K : PySem.W.Frag} {G H : Hp} {a : Addr} {xs : List V} (s : Sub G H) (h : SqL K G a xs) : SqL K H a xs := h.elim (fun h => .inl (s.rd h)) .inr
theorem Sub.upd {G : Hp} {a : Addr} {o : HO} (h : G a = none) : Sub G (upd G a o) := fun b u e => by rw [upd_ne (ne_of_none e h)]; exact e
theorem Sub.none {G H : Hp} {a : Addr} (s : Sub G H) (h : H a = none) : G a = none := by
  cases e : G a with
  | none => rfl
  | some o => rw [s a o e] at h; cases h
mutual
theorem Is.mono {K : PySem.W.Frag} {G H : Hp} (s : Sub G H) : ∀ {v t}, Is K G v t → Is K H v t
  | _, _, .non => .non
  | _, _, .bl => .bl
  | _, _, .int => .int
  | _, _, .str => .str
  | _, _, .lst h r => .lst (s _ _ h) (IsAll.mono s r)
  | _, _, .tup h r => .tup (s.sqT h) (IsAll.mono s r)
  | _, _, .fls h r => .fls (s.sqL h) (IsAll.mono s r)
  | _, _, .dct h r => .dct (s _ _ h) (IsKv.mono s r)
  | _, _, .raw => .raw
  | _, _, .ob h => .ob (s _ _ h)
theorem IsAll.mono {K : PySem.W.Frag} {G H : Hp} (s : Sub G H) : ∀ {vs ts}, IsAll K G vs ts → IsAll K H vs ts
  | _, _, .nil => .nil
  | _, _, .cons h r => .cons (Is.mono s h) (IsAll.mono s r)
theorem IsKv.mono {K : PySem.W.Frag} {G H : Hp} (s : Sub G H) : ∀ {vs ts}, IsKv K G vs ts → IsKv K H vs ts
  | _, _, .nil => .nil
  | _, _, .cons h r => .cons (Is.mono s h) (IsKv.mono s r)
end
theorem IsAll.length {K : PySem.W.Frag} {G : Hp} : ∀ {vs ts}, IsAll K G vs ts → vs.length = ts.length
  | _, _, .nil => rfl
  | _, _, .cons _ r => congrArg (· + 1) r.length
theorem IsAll.get {K : PySem.W.Frag} {G : Hp} : ∀ {vs ts} {i : Nat} {t : T}, IsAll K G vs ts → ts[i]? = some t → ∃ v, vs[i]? = some v ∧ Is K G v t
  | _, _, _, _, .nil, e => by simp at e
  | _, _, 0, _, .cons h _, e => by simp at e; subst e; exact ⟨_, rfl, h⟩
  | _, _, i + 1, _, .cons _ r, e => by
    obtain ⟨v, h1, h2⟩ := r.get (i := i) (by simpa using e)
    exact ⟨v, by simpa using h1, h2⟩
theorem IsAll.getV {K : PySem.W.Frag} {G : Hp} : ∀ {vs ts} {i : Nat} {v : V}, IsAll K G vs ts → vs[i]? = some v → ∃ t, ts[i]? = some t ∧ Is K G v t
  | _, _, _, _, .nil, e => by simp at e
  | _, _, 0, _, .cons h _, e => by simp at e; subst e; exact ⟨_, rfl, h⟩
  | _, _, i + 1, _, .cons _ r, e => by
    obtain ⟨v, h1, h2⟩ := r.getV (i := i) (by simpa using e)
    exact ⟨v, by simpa using h1, h2⟩
theorem IsAll.append {K : PySem.W.Frag} {G : Hp} : ∀ {vs ts us ws}, IsAll K G vs ts → IsAll K G us ws → IsAll K G (vs ++ us) (ts ++ ws)
  | _, _, _, _, .nil, s => s
  | _, _, _, _, .cons h r, s => .cons h (r.append s)
theorem IsAll.one {K : PySem.W.Frag} {G : Hp} {v : V} {t : T} (h : Is K G v t) : IsAll K G [v] [t] := .cons h .nil
theorem IsAll.take {K : PySem.W.Frag} {G : Hp} : ∀ {vs ts} (n : Nat), IsAll K G vs ts → IsAll K G (vs.take n) (ts.take n)
  | _, _, 0, _ => .nil
  | _, _, _ + 1, .nil => .nil
  | _, _, n + 1, .cons h r => .cons h (r.take n)
theorem IsAll.drop {K : PySem.W.Frag} {G : Hp} : ∀ {vs ts} (n : Nat), IsAll K G vs ts → IsAll K G (vs.drop n) (ts.drop n)
  | _, _, 0, r => r
  | _, _, _ + 1, .nil => .nil
  | _, _, n + 1, .cons _ r => r.drop n
theorem IsAll.flat {K : PySem.W.Frag} {G : Hp} : ∀ {n : Nat} {vs ts}, IsAll K G vs ts → IsAll K G (List.replicate n vs).flatten (List.replicate n ts).flatten
  | 0, _, _, _ => .nil
  | n + 1, _, _, r => by
    rw [List.replicate_succ, List.replicate_succ, List.flatten_cons, List.flatten_cons]
    exact r.append r.flat
/-! ### what may change besides: the mode -/
def Mu (o : HO) : Prop := (∃ vs, o = .lst vs) ∨ ∃ kvs, o = .dK kvs
structure Mode where
  S : Addr → Prop
  U : Addr → Prop
  J : Hp → Prop
  st : ∀ H H', J H → (∀ a o, H a = some o → H' a = some o) → J H'
  wr : ∀ H a o o', J H → ¬ U a → H a = some o → Mu o → J (upd H a o')
  su : ∀ a, S a → U a
def M0 : Mode := ⟨fun _ => False, fun _ => False, fun _ => True, fun _ _ _ _ => trivial, fun _ _ _ _ _ _ _ _ => trivial, fun _ h => h⟩
structure Ok (M : Mode) (G H : Hp) : Prop where
  sub : Sub G H
  j : M.J H
  s : ∀ a, M.S a → G a = none
  u : ∀ a, M.U a → H a ≠ none
structure Go (M : Mode) (G H G' H' : Hp) : Prop where
  gg : Sub G G'
  sub : Sub G' H'
  keep : ∀ a o, ¬ M.S a → H a = some o → H' a = some o
  there : ∀ a, H a ≠ none → H' a ≠ none
  new : ∀ a, G a = none → H a ≠ none → G' a = none
  j : M.J H'
section
variable {M : Mode} {G H G' H' G1 H1 G2 H2 : Hp}
theorem Go.refl (ok : Ok M G H) : Go M G H G H := ⟨.refl _, ok.sub, fun _ _ _ h => h, fun _ h => h, fun _ h _ => h, ok.j⟩
theorem Go.trans (a : Go M G H G1 H1) (b : Go M G1 H1 G2 H2) : Go M G H G2 H2 :=
  ⟨a.gg.trans b.gg, b.sub, fun x o n h => b.keep x o n (a.keep x o n h), fun x h => b.there x (a.there x h), fun x h n => b.new x (a.new x h n) (a.there x n), b.j⟩
theorem Ok.go (ok : Ok M G H) (g : Go M G H G' H') : Ok M G' H' :=
  ⟨g.sub, g.j, fun a h => g.new a (ok.s a h) (ok.u a (M.su a h)), fun a h => g.there a (ok.u a h)⟩
theorem Go.back (g : Go M G H G' H') {a : Addr} (h : H' a = none) : H a = none := by
  cases e : H a with
  | none => rfl
  | some o => exact absurd h (g.there a (by rw [e]; simp))
theorem Ok.noS (ok : Ok M G H) {a : Addr} (h : H a = none) : ¬ M.S a := fun s => ok.u a (M.su a s) h
theorem Ok.noU (ok : Ok M G H) {a : Addr} (h : H a = none) : ¬ M.U a := fun s => ok.u a s h
/-- a new object, not data (yet) -/
theorem Go.lay (ok : Ok M G H) {a : Addr} {o : HO} (h : H a = none) : Go M G H G (upd H a o) :=
  ⟨.refl _, ok.sub.trans (Sub.upd h), fun b u _ e => Sub.upd h b u e, fun b e => by
    by_cases q : b = a
    · subst q; rw [upd_same]; simp
    · rw [upd_ne q]; exact e, fun _ e _ => e, M.st _ _ ok.j (Sub.upd h)⟩
/-- what is new since (G, H) becomes data -/
theorem Go.data (g : Go M G H G' H') {a : Addr} {o : HO} (h : H a = none) (e : H' a = some o) (n : G' a = none) : Go M G H (upd G' a o) H' :=
  ⟨g.gg.trans (Sub.upd n), fun b u q => by
    by_cases z : b = a
    · subst z; rw [upd_same] at q; cases q; exact e
    · rw [upd_ne z] at q; exact g.sub b u q, g.keep, g.there, fun b q k => by
    have z : b ≠ a := fun z => by subst z; exact k h
    rw [upd_ne z]; exact g.new b q k, g.j⟩
/-- a change of what is new since (G, H), no data -/
theorem Go.write (ok : Ok M G H) (g : Go M G H G' H') {a : Addr} {o o' : HO} (h : H a = none) (e : H' a = some o) (m : Mu o) (n : G' a = none) : Go M G H G' (upd H' a o') :=
  ⟨g.gg, fun b u q => by rw [upd_ne (ne_of_none q n)]; exact g.sub b u q, fun b u s q => by rw [upd_ne (ne_of_none q h)]; exact g.keep b u s q, fun b q => by
    by_cases z : b = a
    · subst z; rw [upd_same]; simp
    · rw [upd_ne z]; exact g.there b q, g.new, M.wr _ _ _ _ g.j (ok.noU h) e m⟩
/-- garbage is no data -/
theorem Go.drop (g : Go M G H G' H') (s : Sub G H) (hs : ∀ a, M.S a → G a = none) : Go M G H G H' := ⟨.refl _, fun a o e => g.keep a o (fun z => by rw [hs a z] at e; cases e) (s a o e), g.keep, g.there, fun _ h _ => h, g.j⟩
end
theorem mem_ne {a b : Addr} {os : List Addr} (h : b ∈ os) (n : a ∉ os) : b ≠ a := fun z => n (by rw [← z]; exact h)
/-! ### slots -/
inductive Sl where
  | no | sh (t : T) | ol (ts : List T) | od (kts : List (Key × T))
def Sl.fz : Sl → T
  | .no => .non
  | .sh t => t
  | .ol ts => .lst ts
  | .od kts => .dct kts
/-- a result: data, or a new list (dict) that nobody else holds -/
def Rs (K : PySem.W.Frag) (G H G' H' : Hp) (v : V) : Sl → Prop
  | .no => False
  | .sh t => Is K G' v t
  | .ol ts => ∃ a vs, v = .ref a ∧ H a = none ∧ H' a = some (.lst vs) ∧ G' a = none ∧ IsAll K G' vs ts
  | .od kts => ∃ a vs, v = .ref a ∧ H a = none ∧ H' a = some (.dK vs) ∧ G' a = none ∧ IsKv K G' vs kts
theorem Rs.fz {K : PySem.W.Frag} {M : Mode} {G H G' H' : Hp} {v : V} {s : Sl} (r : Rs K G H G' H' v s) (g : Go M G H G' H') : ∃ G'', Go M G H G'' H' ∧ Sub G' G'' ∧ Is K G'' v s.fz := by
  cases s with
  | no => exact r.elim
  | sh t => exact ⟨G', g, .refl _, r⟩
  | ol ts =>
    obtain ⟨a, vs, rfl, h, e, n, i⟩ := r
    exact ⟨_, g.data h e n, Sub.upd n, .lst upd_same (i.mono (Sub.upd n))⟩
  | od ts =>
    obtain ⟨a, vs, rfl, h, e, n, i⟩ := r
    exact ⟨_, g.data h e n, Sub.upd n, .dct upd_same (i.mono (Sub.upd n))⟩
/-- seen from earlier -/
theorem Rs.early {K : PySem.W.Frag} {M : Mode} {G H G1 H1 G' H' : Hp} {v : V} {s : Sl} (r : Rs K G1 H1 G' H' v s) (g : Go M G H G1 H1) : Rs K G H G' H' v s := by
  cases s with
  | no => exact r
  | sh t => exact r
  | ol ts => obtain ⟨a, vs, e, h, r⟩ := r; exact ⟨a, vs, e, g.back h, r⟩
  | od ts => obtain ⟨a, vs, e, h, r⟩ := r; exact ⟨a, vs, e, g.back h, r⟩
inductive En (K : PySem.W.Frag) (G H : Hp) : List (Option V) → List Sl → List Addr → Prop
  | nil : En K G H [] [] []
  | no {x σ τ os} : En K G H σ τ os → En K G H (x :: σ) (.no :: τ) os
  | sh {v t σ τ os} : Is K G v t → En K G H σ τ os → En K G H (some v :: σ) (.sh t :: τ) os
  | ol {a vs ts σ τ os} : H a = some (.lst vs) → G a = none → IsAll K G vs ts → a ∉ os → En K G H σ τ os → En K G H (some (.ref a) :: σ) (.ol ts :: τ) (a :: os)
  | od {a vs ts σ τ os} : H a = some (.dK vs) → G a = none → IsKv K G vs ts → a ∉ os → En K G H σ τ os → En K G H (some (.ref a) :: σ) (.od ts :: τ) (a :: os)
section
variable {K : PySem.W.Frag} {M : Mode} {G H G' H' : Hp} {σ : List (Option V)} {τ : List Sl} {os : List Addr}
theorem En.mono (hg : Sub G G') (hk : ∀ a ∈ os, ∀ o, H a = some o → H' a = some o) (hn : ∀ a ∈ os, G' a = none) (e : En K G H σ τ os) : En K G' H' σ τ os := by
  induction e with
  | nil => exact .nil
  | no _ ih => exact .no (ih hk hn)
  | sh h _ ih => exact .sh (h.mono hg) (ih hk hn)
  | ol h1 h2 h3 h4 _ ih => exact .ol (hk _ List.mem_cons_self _ h1) (hn _ List.mem_cons_self) (h3.mono hg) h4 (ih (fun a h => hk a (List.mem_cons_of_mem _ h)) fun a h => hn a (List.mem_cons_of_mem _ h))
  | od h1 h2 h3 h4 _ ih => exact .od (hk _ List.mem_cons_self _ h1) (hn _ List.mem_cons_self) (h3.mono hg) h4 (ih (fun a h => hk a (List.mem_cons_of_mem _ h)) fun a h => hn a (List.mem_cons_of_mem _ h))
theorem En.own (e : En K G H σ τ os) : ∀ a ∈ os, G a = none ∧ H a ≠ none := by
  induction e with
  | nil => exact fun _ h => nomatch h
  | no _ ih => exact ih
  | sh _ _ ih => exact ih
  | ol h1 h2 _ _ _ ih =>
    intro a h
    rcases List.mem_cons.mp h with rfl | h
    · exact ⟨h2, by rw [h1]; simp⟩
    · exact ih a h
  | od h1 h2 _ _ _ ih =>
    intro a h
    rcases List.mem_cons.mp h with rfl | h
    · exact ⟨h2, by rw [h1]; simp⟩
    · exact ih a h
theorem En.go (e : En K G H σ τ os) (hs : ∀ a ∈ os, ¬ M.S a) (g : Go M G H G' H') : En K G' H' σ τ os :=
  e.mono g.gg (fun a h o q => g.keep a o (hs a h) q) fun a h => g.new a (e.own a h).1 (e.own a h).2
theorem En.length (e : En K G H σ τ os) : σ.length = τ.length := by
  induction e with
  | nil => rfl
  | no _ ih => exact congrArg (· + 1) ih
  | sh _ _ ih => exact congrArg (· + 1) ih
  | ol _ _ _ _ _ ih => exact congrArg (· + 1) ih
  | od _ _ _ _ _ ih => exact congrArg (· + 1) ih
theorem En.get (e : En K G H σ τ os) : ∀ {i : Nat} {t : T}, τ[i]? = some (.sh t) → ∃ v, σ[i]? = some (some v) ∧ Is K G v t := by
  induction e with
  | nil => intro i t h; simp at h
  | no _ ih =>
    intro i t h
    cases i with
    | zero => simp at h
    | succ i => obtain ⟨v, h1, h2⟩ := ih (i := i) (t := t) (by simpa using h); exact ⟨v, by simpa using h1, h2⟩
  | sh q _ ih =>
    intro i t h
    cases i with
    | zero => simp at h; subst h; exact ⟨_, rfl, q⟩
    | succ i => obtain ⟨v, h1, h2⟩ := ih (i := i) (t := t) (by simpa using h); exact ⟨v, by simpa using h1, h2⟩
  | ol _ _ _ _ _ ih =>
    intro i t h
    cases i with
    | zero => simp at h
    | succ i => obtain ⟨v, h1, h2⟩ := ih (i := i) (t := t) (by simpa using h); exact ⟨v, by simpa using h1, h2⟩
  | od _ _ _ _ _ ih =>
    intro i t h
    cases i with
    | zero => simp at h
    | succ i => obtain ⟨v, h1, h2⟩ := ih (i := i) (t := t) (by simpa using h); exact ⟨v, by simpa using h1, h2⟩
/-- an own list: where it stands; what replaces it -/
theorem En.getL (e : En K G H σ τ os) : ∀ {i : Nat} {ts : List T}, τ[i]? = some (.ol ts) → ∃ a vs, σ[i]? = some (some (.ref a)) ∧ a ∈ os ∧ H a = some (.lst vs) ∧ G a = none ∧ IsAll K G vs ts ∧
    ∀ vs' ts', IsAll K G vs' ts' → En K G (upd H a (.lst vs')) σ (τ.set i (.ol ts')) os := by
  induction e with
  | nil => intro i t h; simp at h
  | no _ ih =>
    intro i t h
    cases i with
    | zero => simp at h
    | succ i => obtain ⟨a, vs, h1, h2, h3, h4, h5, h6⟩ := ih (i := i) (ts := t) (by simpa using h); exact ⟨a, vs, by simpa using h1, h2, h3, h4, h5, fun vs' ts' q => .no (h6 vs' ts' q)⟩
  | sh q _ ih =>
    intro i t h
    cases i with
    | zero => simp at h
    | succ i => obtain ⟨a, vs, h1, h2, h3, h4, h5, h6⟩ := ih (i := i) (ts := t) (by simpa using h); exact ⟨a, vs, by simpa using h1, h2, h3, h4, h5, fun vs' ts' z => .sh q (h6 vs' ts' z)⟩
  | ol q1 q2 q3 q4 r ih =>
    intro i t h
    cases i with
    | zero =>
      simp at h
      subst h
      refine ⟨_, _, rfl, List.mem_cons_self, q1, q2, q3, fun vs' ts' z => .ol upd_same q2 z q4 (r.mono (.refl _) (fun b hb o e => ?_) fun b hb => (r.own b hb).1)⟩
      rw [upd_ne (mem_ne hb q4)]
      exact e
    | succ i =>
      obtain ⟨a, vs, h1, h2, h3, h4, h5, h6⟩ := ih (i := i) (ts := t) (by simpa using h)
      refine ⟨a, vs, by simpa using h1, List.mem_cons_of_mem _ h2, h3, h4, h5, fun vs' ts' z => .ol ?_ q2 q3 q4 (h6 vs' ts' z)⟩
      rw [upd_ne (mem_ne h2 q4).symm]
      exact q1
  | od q1 q2 q3 q4 r ih =>
    intro i t h
    cases i with
    | zero => simp at h
    | succ i =>
      obtain ⟨a, vs, h1, h2, h3, h4, h5, h6⟩ := ih (i := i) (ts := t) (by simpa using h)
      refine ⟨a, vs, by simpa using h1, List.mem_cons_of_mem _ h2, h3, h4, h5, fun vs' ts' z => .od ?_ q2 q3 q4 (h6 vs' ts' z)⟩
      rw [upd_ne (mem_ne h2 q4).symm]
      exact q1
/-- forgetting a slot -/
theorem En.forget (e : En K G H σ τ os) : ∀ (i : Nat) (x : Option V), ∃ os', En K G H (σ.set i x) (τ.set i .no) os' ∧ ∀ a ∈ os', a ∈ os := by
  induction e with
  | nil => exact fun i x => ⟨[], .nil, fun _ h => h⟩
  | no e ih =>
    intro i x
    cases i with
    | zero => exact ⟨_, .no e, fun _ h => h⟩
    | succ i => obtain ⟨os', h1, h2⟩ := ih i x; exact ⟨os', .no h1, h2⟩
  | sh q e ih =>
    intro i x
    cases i with
    | zero => exact ⟨_, .no e, fun _ h => h⟩
    | succ i => obtain ⟨os', h1, h2⟩ := ih i x; exact ⟨os', .sh q h1, h2⟩
  | ol q1 q2 q3 q4 e ih =>
    intro i x
    cases i with
    | zero => exact ⟨_, .no e, fun _ h => List.mem_cons_of_mem _ h⟩
    | succ i =>
      obtain ⟨os', h1, h2⟩ := ih i x
      exact ⟨_, .ol q1 q2 q3 (fun z => q4 (h2 _ z)) h1, fun a h => (List.mem_cons.mp h).elim (fun z => z ▸ List.mem_cons_self) fun z => List.mem_cons_of_mem _ (h2 a z)⟩
  | od q1 q2 q3 q4 e ih =>
    intro i x
    cases i with
    | zero => exact ⟨_, .no e, fun _ h => List.mem_cons_of_mem _ h⟩
    | succ i =>
      obtain ⟨os', h1, h2⟩ := ih i x
      exact ⟨_, .od q1 q2 q3 (fun z => q4 (h2 _ z)) h1, fun a h => (List.mem_cons.mp h).elim (fun z => z ▸ List.mem_cons_self) fun z => List.mem_cons_of_mem _ (h2 a z)⟩
/-- a forgotten slot takes data -/
theorem En.putS (e : En K G H σ τ os) : ∀ {i : Nat} {v : V} {t : T}, τ[i]? = some .no → Is K G v t → En K G H (σ.set i (some v)) (τ.set i (.sh t)) os := by
  induction e with
  | nil => intro i v t h; simp at h
  | no e ih =>
    intro i v t h q
    cases i with
    | zero => exact .sh q e
    | succ i => exact .no (ih (by simpa using h) q)
  | sh z e ih =>
    intro i v t h q
    cases i with
    | zero => simp at h
    | succ i => exact .sh z (ih (by simpa using h) q)
  | ol q1 q2 q3 q4 e ih =>
    intro i v t h q
    cases i with
    | zero => simp at h
    | succ i => exact .ol q1 q2 q3 q4 (ih (by simpa using h) q)
  | od q1 q2 q3 q4 e ih =>
    intro i v t h q
    cases i with
    | zero => simp at h
    | succ i => exact .od q1 q2 q3 q4 (ih (by simpa using h) q)
/-- .. or an own list, dict -/
theorem En.putL (e : En K G H σ τ os) : ∀ {i : Nat} {a : Addr} {vs : List V} {ts : List T}, τ[i]? = some .no → H a = some (.lst vs) → G a = none → IsAll K G vs ts → a ∉ os →
    ∃ os', En K G H (σ.set i (some (.ref a))) (τ.set i (.ol ts)) os' ∧ ∀ b ∈ os', b = a ∨ b ∈ os := by
  induction e with
  | nil => intro i a vs ts h; simp at h
  | no e ih =>
    intro i a vs ts h q1 q2 q3 q4
    cases i with
    | zero => exact ⟨_, .ol q1 q2 q3 q4 e, fun b h => List.mem_cons.mp h⟩
    | succ i => obtain ⟨os', h1, h2⟩ := ih (i := i) (by simpa using h) q1 q2 q3 q4; exact ⟨os', .no h1, h2⟩
  | sh z e ih =>
    intro i a vs ts h q1 q2 q3 q4
    cases i with
    | zero => simp at h
    | succ i => obtain ⟨os', h1, h2⟩ := ih (i := i) (by simpa using h) q1 q2 q3 q4; exact ⟨os', .sh z h1, h2⟩
  | ol z1 z2 z3 z4 e ih =>
    intro i a vs ts h q1 q2 q3 q4
    cases i with
    | zero => simp at h
    | succ i =>
      obtain ⟨os', h1, h2⟩ := ih (i := i) (by simpa using h) q1 q2 q3 (fun z => q4 (List.mem_cons_of_mem _ z))
      refine ⟨_, .ol z1 z2 z3 (fun z => (h2 _ z).elim (fun z => q4 (z ▸ List.mem_cons_self)) z4) h1, fun b h => (List.mem_cons.mp h).elim (fun z => .inr (z ▸ List.mem_cons_self)) fun z => (h2 b z).imp id (List.mem_cons_of_mem _)⟩
  | od z1 z2 z3 z4 e ih =>
    intro i a vs ts h q1 q2 q3 q4
    cases i with
    | zero => simp at h
    | succ i =>
      obtain ⟨os', h1, h2⟩ := ih (i := i) (by simpa using h) q1 q2 q3 (fun z => q4 (List.mem_cons_of_mem _ z))
      refine ⟨_, .od z1 z2 z3 (fun z => (h2 _ z).elim (fun z => q4 (z ▸ List.mem_cons_self)) z4) h1, fun b h => (List.mem_cons.mp h).elim (fun z => .inr (z ▸ List.mem_cons_self)) fun z => (h2 b z).imp id (List.mem_cons_of_mem _)⟩
theorem En.putD (e : En K G H σ τ os) : ∀ {i : Nat} {a : Addr} {vs : List (Key × V)} {ts : List (Key × T)}, τ[i]? = some .no → H a = some (.dK vs) → G a = none → IsKv K G vs ts → a ∉ os →
    ∃ os', En K G H (σ.set i (some (.ref a))) (τ.set i (.od ts)) os' ∧ ∀ b ∈ os', b = a ∨ b ∈ os := by
  induction e with
  | nil => intro i a vs ts h; simp at h
  | no e ih =>
    intro i a vs ts h q1 q2 q3 q4
    cases i with
    | zero => exact ⟨_, .od q1 q2 q3 q4 e, fun b h => List.mem_cons.mp h⟩
    | succ i => obtain ⟨os', h1, h2⟩ := ih (i := i) (by simpa using h) q1 q2 q3 q4; exact ⟨os', .no h1, h2⟩
  | sh z e ih =>
    intro i a vs ts h q1 q2 q3 q4
    cases i with
    | zero => simp at h
    | succ i => obtain ⟨os', h1, h2⟩ := ih (i := i) (by simpa using h) q1 q2 q3 q4; exact ⟨os', .sh z h1, h2⟩
  | ol z1 z2 z3 z4 e ih =>
    intro i a vs ts h q1 q2 q3 q4
    cases i with
    | zero => simp at h
    | succ i =>
      obtain ⟨os', h1, h2⟩ := ih (i := i) (by simpa using h) q1 q2 q3 (fun z => q4 (List.mem_cons_of_mem _ z))
      refine ⟨_, .ol z1 z2 z3 (fun z => (h2 _ z).elim (fun z => q4 (z ▸ List.mem_cons_self)) z4) h1, fun b h => (List.mem_cons.mp h).elim (fun z => .inr (z ▸ List.mem_cons_self)) fun z => (h2 b z).imp id (List.mem_cons_of_mem _)⟩
  | od z1 z2 z3 z4 e ih =>
    intro i a vs ts h q1 q2 q3 q4
    cases i with
    | zero => simp at h
    | succ i =>
      obtain ⟨os', h1, h2⟩ := ih (i := i) (by simpa using h) q1 q2 q3 (fun z => q4 (List.mem_cons_of_mem _ z))
      refine ⟨_, .od z1 z2 z3 (fun z => (h2 _ z).elim (fun z => q4 (z ▸ List.mem_cons_self)) z4) h1, fun b h => (List.mem_cons.mp h).elim (fun z => .inr (z ▸ List.mem_cons_self)) fun z => (h2 b z).imp id (List.mem_cons_of_mem _)⟩
end
end TL
namespace TL
open PySem PySem.Spec PyProof.Rows L2
/-! ### readings of trees -/
structure Xn where
  cls : Value
  fs : Option (List (Str × V))
def XR (H : Hp) (c : Value) (d : Option Addr) (x : Xn) : Prop := c = x.cls ∧ match x.fs with
  | none => d = none
  | some l => ∃ p, d = some p ∧ H p = some (.xd l)
abbrev TEx := List Sl → (Sl → Prop) → (Xn → Prop) → Prop
abbrev TTx := List Sl → (Bool → Prop) → (Xn → Prop) → Prop
abbrev TAx := List Sl → (List T → Prop) → (Xn → Prop) → Prop
abbrev TOx := List Sl → (Option Int → Prop) → (Xn → Prop) → Prop
/-- the state, seen by trees -/
structure W1 (K : PySem.W.Frag) (M : Mode) (G H : Hp) (σ : List (Option V)) (τ : List Sl) : Prop where
  en : ∃ os, En K G H σ τ os ∧ ∀ a ∈ os, ¬ M.S a
  ok : Ok M G H
/-- what follows an exception -/
def XP (M : Mode) (G H : Hp) (E : XK) (r : Xn → Prop) : Prop := ∀ x c d G' H', Go M G H G' H' → XR H' c d x → r x → E c d H'
def SimE (K : PySem.W.Frag) (M : Mode) (E : XK) (te : TE) (g : TEx) : Prop :=
  ∀ τ q r, g τ q r → ∀ σ G H, W1 K M G H σ τ → ∀ Q : VK, (∀ v s G' H', Go M G H G' H' → Rs K G H G' H' v s → q s → Q v H') → XP M G H E r → te σ H Q
def SimT (K : PySem.W.Frag) (M : Mode) (E : XK) (te : TT) (g : TTx) : Prop :=
  ∀ τ q r, g τ q r → ∀ σ G H, W1 K M G H σ τ → ∀ Q : Bool → Hp → Prop, (∀ b G' H', Go M G H G' H' → q b → Q b H') → XP M G H E r → te σ H Q
def SimA (K : PySem.W.Frag) (M : Mode) (E : XK) (te : TA) (g : TAx) : Prop :=
  ∀ τ q r, g τ q r → ∀ σ G H, W1 K M G H σ τ → ∀ Q : List V → Hp → Prop, (∀ vs ts G' H', Go M G H G' H' → IsAll K G' vs ts → q ts → Q vs H') → XP M G H E r → te σ H Q
def SimO (K : PySem.W.Frag) (M : Mode) (E : XK) (te : TO) (g : TOx) : Prop :=
  ∀ τ q r, g τ q r → ∀ σ G H, W1 K M G H σ τ → ∀ Q : Option Int → Hp → Prop, (∀ i G' H', Go M G H G' H' → q i → Q i H') → XP M G H E r → te σ H Q
section
variable {K : PySem.W.Frag} {M : Mode} {E : XK} {G H G' H' : Hp} {σ : List (Option V)} {τ : List Sl} {r : Xn → Prop}
theorem W1.go (w : W1 K M G H σ τ) (g : Go M G H G' H') : W1 K M G' H' σ τ :=
  let ⟨os, e, s⟩ := w.en
  ⟨⟨os, e.go s g, s⟩, w.ok.go g⟩
theorem XP.go (x : XP M G H E r) (g : Go M G H G' H') : XP M G' H' E r := fun x' c d G2 H2 g2 h k => x x' c d G2 H2 (g.trans g2) h k
/-- an expression's value, made data -/
theorem SimE.data {te : TE} {g : TEx} (h : SimE K M E te g) {q : Sl → Prop} (e : g τ q r) (w : W1 K M G H σ τ) {Q : VK} (hq : ∀ v G' H' s, Go M G H G' H' → Is K G' v s.fz → q s → Q v H') (hx : XP M G H E r) : te σ H Q :=
  h τ q r e σ G H w Q (fun v s G1 H1 g1 rs qs => by
    obtain ⟨G2, g2, _, i⟩ := rs.fz g1
    exact hq v G2 H1 s g2 i qs) hx
/-! ### names, constants -/
def gVar (i : Nat) : TEx := fun τ q _ => match τ[i]? with
  | some (.sh t) => q (.sh t)
  | _ => False
theorem sim_var {i : Nat} : SimE K M E (tVar i) (gVar i) := fun τ q r e σ G H w Q hq _ => by
  unfold gVar at e
  split at e
  · rename_i t h
    obtain ⟨os, en, _⟩ := w.en
    obtain ⟨v, h1, h2⟩ := en.get h
    exact ⟨v, h1, hq v (.sh t) G H (.refl w.ok) h2 e⟩
  · exact e.elim
def gC (t : T) : TEx := fun _ q _ => q (.sh t)
theorem sim_c {v : V} {t : T} (h : ∀ G, Is K G v t) : SimE K M E (tC v) (gC t) := fun τ q r e σ G H w Q hq _ => hq v (.sh t) G H (.refl w.ok) (h G) e
theorem sim_int {i : Int} : SimE K M E (tC (.int i)) (gC (.int i)) := sim_c fun _ => .int
theorem sim_str {i : Str} : SimE K M E (tC (.str i)) (gC (.str i)) := sim_c fun _ => .str
theorem sim_bl {i : Bool} : SimE K M E (tC (.bl i)) (gC (.bl i)) := sim_c fun _ => .bl
theorem sim_non : SimE K M E (tC .non) (gC .non) := sim_c fun _ => .non
theorem sim_raw {v : V} : SimE K M E (tC v) (gC (.raw v)) := sim_c fun _ => .raw
/-! ### operators -/
abbrev GR2 := T → T → (Sl → Prop) → Prop
def SimR2 (K : PySem.W.Frag) (M : Mode) (r : R2) (g : GR2) : Prop := ∀ tx ty q, g tx ty q → ∀ x y G H, Is K G x tx → Is K G y ty → Ok M G H → ∀ Q : VK, (∀ v s G' H', Go M G H G' H' → Rs K G H G' H' v s → q s → Q v H') → r x y H Q
def gOp (g : GR2) (a b : TEx) : TEx := fun τ q r => a τ (fun s => b τ (fun u => g s.fz u.fz q) r) r
theorem sim_op {rr : R2} {g : GR2} {ta tb : TE} {a b : TEx} (hr : SimR2 K M rr g) (ha : SimE K M E ta a) (hb : SimE K M E tb b) : SimE K M E (tOp rr ta tb) (gOp g a b) := fun τ q r e σ G H w Q hq hx =>
  ha.data e w (fun x G1 H1 s g1 ix e1 => hb.data e1 (w.go g1) (fun y G2 H2 u g2 iy e2 =>
    hr s.fz u.fz q e2 x y G2 H2 (ix.mono g2.gg) iy ((w.ok.go g1).go g2) Q fun v s' G3 H3 g3 rs qs => hq v s' G3 H3 ((g1.trans g2).trans g3) (rs.early (g1.trans g2)) qs) (hx.go g1)) hx
theorem SimR2.or1 {r1 r2 : R2} {g : GR2} (h : SimR2 K M r1 g) : SimR2 K M (fun x y H Q => r1 x y H Q ∨ r2 x y H Q) g := fun tx ty q e x y G H ix iy ok Q hq => .inl (h tx ty q e x y G H ix iy ok Q hq)
/-- by the left operand's kind, say -/
theorem SimR2.or {r1 r2 : R2} {g1 g2 g : GR2} (h1 : SimR2 K M r1 g1) (h2 : SimR2 K M r2 g2) (h : ∀ a b q, g a b q → g1 a b q ∨ g2 a b q) : SimR2 K M (fun x y H Q => r1 x y H Q ∨ r2 x y H Q) g :=
  fun tx ty q e x y G H ix iy ok Q hq => (h tx ty q e).elim (fun e => .inl (h1 tx ty q e x y G H ix iy ok Q hq)) fun e => .inr (h2 tx ty q e x y G H ix iy ok Q hq)
def gI2 (C : Int → Int → Prop) (f : Int → Int → T) : GR2 := fun a b q => match a, b with
  | .int i, .int j => C i j ∧ q (.sh (f i j))
  | _, _ => False
def gI (f : Int → Int → T) : GR2 := fun a b q => match a, b with
  | .int i, .int j => q (.sh (f i j))
  | _, _ => False
theorem simr_I {C : Int → Int → Prop} {f : Int → Int → V} {g : Int → Int → T} (h : ∀ i j G, Is K G (f i j) (g i j)) : SimR2 K M (rI C f) (gI2 C g) := fun tx ty q e x y G H ix iy ok Q hq => by
  unfold gI2 at e
  split at e
  · cases ix; cases iy
    exact ⟨_, _, rfl, rfl, e.1, hq _ (.sh _) G H (.refl ok) (h _ _ G) e.2⟩
  · exact e.elim
theorem simr_I0 {f : Int → Int → V} {g : Int → Int → T} (h : ∀ i j G, Is K G (f i j) (g i j)) : SimR2 K M (rI0 f) (gI g) := fun tx ty q e x y G H ix iy ok Q hq => by
  unfold gI at e
  split at e
  · cases ix; cases iy
    exact ⟨_, _, rfl, rfl, hq _ (.sh _) G H (.refl ok) (h _ _ G) e⟩
  · exact e.elim
/-! ### truth -/
/-- a truth value's way -/
def isB (s : Sl) (k : Bool → Prop) : Prop := match s with
  | .sh (.bl b) => k b
  | _ => False
theorem Is.bl_inv {v : V} {b : Bool} (h : Is K G v (.bl b)) : v = .bl b := by cases h; rfl
def gB (a : TEx) : TTx := fun τ q r => a τ (fun s => isB s q) r
theorem isB_cases {s : Sl} {k : Bool → Prop} (h : isB s k) : ∃ b, s = .sh (.bl b) ∧ k b := by
  cases s with
  | sh t => cases t with
    | bl b => exact ⟨b, rfl, h⟩
    | _ => exact h.elim
  | _ => exact h.elim
theorem simt_test {te : TE} {a : TEx} (h : SimE K M E te a) : SimT K M E (tTest te) (gB a) := fun τ q r e σ G H w Q hq hx => h τ _ r e σ G H w _ (fun v s G1 H1 g1 rs qs => by
  obtain ⟨b, rfl, k⟩ := isB_cases qs
  have rs' : Is K G1 v (.bl b) := rs
  exact ⟨b, rs'.bl_inv, hq b G1 H1 g1 k⟩) hx
theorem simt_B {te : TE} {a : TEx} (h : SimE K M E te a) : SimT K M E (tB te) (gB a) := simt_test h
def gAnd (a b : TTx) : TTx := fun τ q r => a τ (fun c => if c = true then b τ q r else q false) r
def gOr (a b : TTx) : TTx := fun τ q r => a τ (fun c => if c = true then q true else b τ q r) r
def gNot (a : TTx) : TTx := fun τ q r => a τ (fun c => q (!c)) r
theorem simt_and {t u : TT} {a b : TTx} (ha : SimT K M E t a) (hb : SimT K M E u b) : SimT K M E (tAnd t u) (gAnd a b) := fun τ q r e σ G H w Q hq hx => ha τ _ r e σ G H w _ (fun c G1 H1 g1 qs => by
  cases c with
  | true => exact hb τ q r (by simpa using qs) σ G1 H1 (w.go g1) Q (fun b G2 H2 g2 k => hq b G2 H2 (g1.trans g2) k) (hx.go g1)
  | false => exact hq false G1 H1 g1 (by simpa using qs)) hx
theorem simt_or {t u : TT} {a b : TTx} (ha : SimT K M E t a) (hb : SimT K M E u b) : SimT K M E (tOr t u) (gOr a b) := fun τ q r e σ G H w Q hq hx => ha τ _ r e σ G H w _ (fun c G1 H1 g1 qs => by
  cases c with
  | false => exact hb τ q r (by simpa using qs) σ G1 H1 (w.go g1) Q (fun b G2 H2 g2 k => hq b G2 H2 (g1.trans g2) k) (hx.go g1)
  | true => exact hq true G1 H1 g1 (by simpa using qs)) hx
theorem simt_not {t : TT} {a : TTx} (ha : SimT K M E t a) : SimT K M E (tNot t) (gNot a) := fun τ q r e σ G H w Q hq hx => ha τ _ r e σ G H w _ (fun c G1 H1 g1 qs => hq _ G1 H1 g1 qs) hx
def gAndV (a b : TEx) : TEx := fun τ q r => a τ (fun s => isB s fun c => if c = true then b τ q r else q (.sh (.bl false))) r
def gOrV (a b : TEx) : TEx := fun τ q r => a τ (fun s => isB s fun c => if c = true then q (.sh (.bl true)) else b τ q r) r
def gNotV (a : TEx) : TEx := fun τ q r => a τ (fun s => isB s fun c => q (.sh (.bl (!c)))) r
theorem sim_andV {t u : TE} {a b : TEx} (ha : SimE K M E t a) (hb : SimE K M E u b) : SimE K M E (tAndV t u) (gAndV a b) := fun τ q r e σ G H w Q hq hx => ha τ _ r e σ G H w _ (fun v s G1 H1 g1 rs qs => by
  obtain ⟨c, rfl, k⟩ := isB_cases qs
  have rs' : Is K G1 v (.bl c) := rs
  refine ⟨c, rs'.bl_inv, ?_⟩
  cases c with
  | true => exact hb τ q r (by simpa using k) σ G1 H1 (w.go g1) Q (fun v s G2 H2 g2 rs qs => hq v s G2 H2 (g1.trans g2) (rs.early g1) qs) (hx.go g1)
  | false => exact hq _ (.sh (.bl false)) G1 H1 g1 .bl (by simpa using k)) hx
theorem sim_orV {t u : TE} {a b : TEx} (ha : SimE K M E t a) (hb : SimE K M E u b) : SimE K M E (tOrV t u) (gOrV a b) := fun τ q r e σ G H w Q hq hx => ha τ _ r e σ G H w _ (fun v s G1 H1 g1 rs qs => by
  obtain ⟨c, rfl, k⟩ := isB_cases qs
  have rs' : Is K G1 v (.bl c) := rs
  refine ⟨c, rs'.bl_inv, ?_⟩
  cases c with
  | false => exact hb τ q r (by simpa using k) σ G1 H1 (w.go g1) Q (fun v s G2 H2 g2 rs qs => hq v s G2 H2 (g1.trans g2) (rs.early g1) qs) (hx.go g1)
  | true => exact hq _ (.sh (.bl true)) G1 H1 g1 .bl (by simpa using k)) hx
theorem sim_notV {t : TE} {a : TEx} (ha : SimE K M E t a) : SimE K M E (tNotV t) (gNotV a) := fun τ q r e σ G H w Q hq hx => ha τ _ r e σ G H w _ (fun v s G1 H1 g1 rs qs => by
  obtain ⟨c, rfl, k⟩ := isB_cases qs
  have rs' : Is K G1 v (.bl c) := rs
  exact ⟨c, rs'.bl_inv, hq _ (.sh (.bl (!c))) G1 H1 g1 .bl k⟩) hx
def gIf (c : TTx) (a b : TEx) : TEx := fun τ q r => c τ (fun k => if k = true then a τ q r else b τ q r) r
theorem sim_if {t : TT} {ta tb : TE} {c : TTx} {a b : TEx} (hc : SimT K M E t c) (ha : SimE K M E ta a) (hb : SimE K M E tb b) : SimE K M E (tIf t ta tb) (gIf c a b) := fun τ q r e σ G H w Q hq hx => hc τ _ r e σ G H w _ (fun c G1 H1 g1 qs => by
  cases c with
  | true => exact ha τ q r (by simpa using qs) σ G1 H1 (w.go g1) Q (fun v s G2 H2 g2 rs qs => hq v s G2 H2 (g1.trans g2) (rs.early g1) qs) (hx.go g1)
  | false => exact hb τ q r (by simpa using qs) σ G1 H1 (w.go g1) Q (fun v s G2 H2 g2 rs qs => hq v s G2 H2 (g1.trans g2) (rs.early g1) qs) (hx.go g1)) hx
/-- a chain of two comparisons -/
def gChain (g g' : GR2) (a b c : TEx) : TEx := fun τ q r => a τ (fun s => b τ (fun u => g s.fz u.fz fun k => isB k fun d => if d = true then c τ (fun x => g' u.fz x.fz q) r else q (.sh (.bl false))) r) r
theorem sim_chain {r1 r2 : R2} {g1 g2 : GR2} {ta tb tc : TE} {a b c : TEx} (h1 : SimR2 K M r1 g1) (h2 : SimR2 K M r2 g2) (ha : SimE K M E ta a) (hb : SimE K M E tb b) (hc : SimE K M E tc c) : SimE K M E (tChain r1 r2 ta tb tc) (gChain g1 g2 a b c) :=
  fun τ q r e σ G H w Q hq hx => ha.data e w (fun x G1 H1 s k1 ix e1 => hb.data e1 (w.go k1) (fun y G2 H2 u k2 iy e2 =>
    h1 s.fz u.fz _ e2 x y G2 H2 (ix.mono k2.gg) iy ((w.ok.go k1).go k2) _ (fun v s' G3 H3 k3 rs qs => by
      obtain ⟨d, rfl, k⟩ := isB_cases qs
      have rs' : Is K G3 v (.bl d) := rs
      refine ⟨d, rs'.bl_inv, ?_⟩
      cases d with
      | true =>
        refine hc.data (by simpa using k) (((w.go k1).go k2).go k3) (fun z G4 H4 u' k4 iz e4 => ?_) (((hx.go k1).go k2).go k3)
        exact h2 u.fz u'.fz q e4 y z G4 H4 ((iy.mono k3.gg).mono k4.gg) iz ((((w.ok.go k1).go k2).go k3).go k4) Q fun v s' G5 H5 k5 rs qs => hq v s' G5 H5 ((((k1.trans k2).trans k3).trans k4).trans k5) (rs.early (((k1.trans k2).trans k3).trans k4)) qs
      | false => exact hq _ (.sh (.bl false)) G3 H3 ((k1.trans k2).trans k3) .bl (by simpa using k))) (hx.go k1)) hx
/-! ### arguments, calls, displays -/
def aNil : TAx := fun _ q _ => q []
def aCons (a : TEx) (b : TAx) : TAx := fun τ q r => a τ (fun s => b τ (fun ts => q (s.fz :: ts)) r) r
theorem sima_nil : SimA K M E tNil aNil := fun τ q r e σ G H w Q hq _ => hq [] [] G H (.refl w.ok) .nil e
theorem sima_cons {te : TE} {ta : TA} {a : TEx} {b : TAx} (ha : SimE K M E te a) (hb : SimA K M E ta b) : SimA K M E (tCons te ta) (aCons a b) := fun τ q r e σ G H w Q hq hx =>
  ha.data e w (fun x G1 H1 s g1 ix e1 => hb τ _ r e1 σ G1 H1 (w.go g1) _ (fun vs ts G2 H2 g2 i2 q2 => hq (x :: vs) (s.fz :: ts) G2 H2 (g1.trans g2) (.cons (ix.mono g2.gg) i2) q2) (hx.go g1)) hx
/-- a built-in's rule, by trees -/
abbrev GC := List T → (Sl → Prop) → Prop
def SimC (K : PySem.W.Frag) (M : Mode) (r : List V → Hp → VK → Prop) (g : GC) : Prop := ∀ ts q, g ts q → ∀ vs G H, IsAll K G vs ts → Ok M G H → ∀ Q : VK, (∀ v s G' H', Go M G H G' H' → Rs K G H G' H' v s → q s → Q v H') → r vs H Q
def gCB (g : GC) (a : TAx) : TEx := fun τ q r => a τ (fun ts => g ts q) r
theorem sim_CB {rr : List V → Hp → VK → Prop} {g : GC} {ta : TA} {a : TAx} (hr : SimC K M rr g) (ha : SimA K M E ta a) : SimE K M E (tCB rr ta) (gCB g a) := fun τ q r e σ G H w Q hq hx =>
  ha τ _ r e σ G H w _ (fun vs ts G1 H1 g1 i1 q1 => hr ts q q1 vs G1 H1 i1 (w.ok.go g1) Q fun v s G2 H2 g2 rs qs => hq v s G2 H2 (g1.trans g2) (rs.early g1) qs) hx
/-- a method's rule, by trees -/
abbrev GM := T → List T → (Sl → Prop) → Prop
def SimM (K : PySem.W.Frag) (M : Mode) (ty : String) (r : V → List V → Hp → VK → Prop) (g : GM) : Prop := ∀ t ts q, g t ts q → ∀ x vs G H, Is K G x t → IsAll K G vs ts → Ok M G H → tyV K ty x H ∧ ∀ Q : VK, (∀ v s G' H', Go M G H G' H' → Rs K G H G' H' v s → q s → Q v H') → r x vs H Q
def gBM (g : GM) (o : TEx) (a : TAx) : TEx := fun τ q r => o τ (fun s => (∃ ts q', g s.fz ts q') ∧ a τ (fun ts => g s.fz ts q) r) r
theorem sim_BM {ty : String} {rr : V → List V → Hp → VK → Prop} {g : GM} {to : TE} {ta : TA} {o : TEx} {a : TAx} (hty : ∀ t ts q, g t ts q → ∀ x G H, Is K G x t → Ok M G H → tyV K ty x H) (hr : SimM K M ty rr g) (ho : SimE K M E to o) (ha : SimA K M E ta a) : SimE K M E (tBM K ty rr to ta) (gBM g o a) := fun τ q r e σ G H w Q hq hx =>
  ho.data e w (fun x G1 H1 s g1 ix e1 => by
    obtain ⟨⟨ts0, q0, z0⟩, e1⟩ := e1
    exact ⟨hty s.fz ts0 q0 z0 x G1 H1 ix (w.ok.go g1), ha τ _ r e1 σ G1 H1 (w.go g1) _ (fun vs ts G2 H2 g2 i2 q2 => (hr s.fz ts q q2 x vs G2 H2 (ix.mono g2.gg) i2 ((w.ok.go g1).go g2)).2 Q fun v s G3 H3 g3 rs qs => hq v s G3 H3 ((g1.trans g2).trans g3) (rs.early (g1.trans g2)) qs) (hx.go g1)⟩) hx
def gBM0 (g : GM) (o : TEx) : TEx := fun τ q r => o τ (fun s => g s.fz [] q) r
theorem sim_BM0 {ty : String} {rr : V → List V → Hp → VK → Prop} {g : GM} {to : TE} {o : TEx} (hr : SimM K M ty rr g) (ho : SimE K M E to o) : SimE K M E (tBM0 K ty rr to) (gBM0 g o) := fun τ q r e σ G H w Q hq hx =>
  ho.data e w (fun x G1 H1 s g1 ix e1 => by
    obtain ⟨h1, h2⟩ := hr s.fz [] q e1 x [] G1 H1 ix .nil (w.ok.go g1)
    exact ⟨h1, h2 Q fun v s G3 H3 g3 rs qs => hq v s G3 H3 (g1.trans g3) (rs.early g1) qs⟩) hx
def gTup (a : TAx) : TEx := fun τ q r => a τ (fun ts => ts.length ≤ sizeLine ∧ q (.sh (.tup ts))) r
def gLst (a : TAx) : TEx := fun τ q r => a τ (fun ts => ts.length ≤ sizeLine ∧ q (.ol ts)) r
theorem Ok.fresh {p : Addr} (ok : Ok M G H) (h : H p = none) : G p = none := ok.sub.none h
/-- a new list -/
theorem ol_new {p : Addr} {vs : List V} {ts : List T} (ok : Ok M G H) (h : H p = none) (i : IsAll K G vs ts) : Go M G H G (upd H p (.lst vs)) ∧ Rs K G H G (upd H p (.lst vs)) (.ref p) (.ol ts) :=
  ⟨.lay ok h, p, vs, rfl, h, upd_same, ok.fresh h, i⟩
theorem tup_new {p : Addr} {vs : List V} {ts : List T} (ok : Ok M G H) (h : H p = none) (i : IsAll K G vs ts) : Go M G H (upd G p (.tup vs)) (upd H p (.tup vs)) ∧ Is K (upd G p (.tup vs)) (.ref p) (.tup ts) :=
  ⟨(Go.lay ok h).data h upd_same (ok.fresh h), .tup (SqT.of upd_same) (i.mono (Sub.upd (ok.fresh h)))⟩
theorem sim_tup {ta : TA} {a : TAx} (h : SimA K M E ta a) : SimE K M E (tTup ta) (gTup a) := fun τ q r e σ G H w Q hq hx =>
  h τ _ r e σ G H w _ (fun vs ts G1 H1 g1 i1 ⟨z, q1⟩ => ⟨by rw [i1.length]; exact z, fun p hp => by
    obtain ⟨g2, i2⟩ := tup_new (w.ok.go g1) hp i1
    exact hq _ (.sh _) _ _ (g1.trans g2) i2 q1⟩) hx
theorem sim_lst {ta : TA} {a : TAx} (h : SimA K M E ta a) : SimE K M E (tLst ta) (gLst a) := fun τ q r e σ G H w Q hq hx =>
  h τ _ r e σ G H w _ (fun vs ts G1 H1 g1 i1 ⟨z, q1⟩ => ⟨by rw [i1.length]; exact z, fun p hp => by
    obtain ⟨g2, i2⟩ := ol_new (w.ok.go g1) hp i1
    exact hq _ (.ol ts) _ _ (g1.trans g2) (i2.early g1) q1⟩) hx
/-! ### a def's promise, by trees -/
abbrev SpX := Mode → List T → (Sl → Prop) → (Xn → Prop) → Prop
def lift (K : PySem.W.Frag) (sp : SpX) : Sp := fun vs H Q E => ∃ M G ts q r, Ok M G H ∧ IsAll K G vs ts ∧ sp M ts q r ∧ (∀ v s G' H', Go M G H G' H' → Rs K G H G' H' v s → q s → Q v H') ∧ XP M G H E r
def gCall (M : Mode) (sp : SpX) (a : TAx) : TEx := fun τ q r => a τ (fun ts => sp M ts q r) r
theorem sim_call {sp : SpX} {ta : TA} {a : TAx} (ha : SimA K M E ta a) : SimE K M E (tCall (lift K sp) [] E ta) (gCall M sp a) := fun τ q r e σ G H w Q hq hx =>
  ha τ _ r e σ G H w _ (fun vs ts G1 H1 g1 i1 q1 => by
    rw [List.append_nil]
    exact ⟨M, G1, ts, q, r, w.ok.go g1, i1, q1, fun v s G2 H2 g2 rs qs => hq v s G2 H2 (g1.trans g2) (rs.early g1) qs, hx.go g1⟩) hx
/-- with keywords: p puts the values in the parameters' order -/
def gCallK (M : Mode) (sp : SpX) (p : List T → List T → List T) (a b : TAx) : TEx := fun τ q r => a τ (fun ts => b τ (fun us => sp M (p ts us) q r) r) r
theorem sim_callK {sp : SpX} {gV : List V → List V → List V} {p : List T → List T → List T} {ta tb : TA} {a b : TAx} (hp : ∀ G vs ts us ws, IsAll K G vs ts → IsAll K G us ws → IsAll K G (gV vs us) (p ts ws)) (ha : SimA K M E ta a) (hb : SimA K M E tb b) :
    SimE K M E (tCallK (lift K sp) gV E ta tb) (gCallK M sp p a b) := fun τ q r e σ G H w Q hq hx =>
  ha τ _ r e σ G H w _ (fun vs ts G1 H1 g1 i1 q1 => hb τ _ r q1 σ G1 H1 (w.go g1) _ (fun us ws G2 H2 g2 i2 q2 =>
    ⟨M, G2, p ts ws, q, r, (w.ok.go g1).go g2, hp _ _ _ _ _ (IsAll.mono g2.gg i1) i2, q2, fun v s G3 H3 g3 rs qs => hq v s G3 H3 ((g1.trans g2).trans g3) (rs.early (g1.trans g2)) qs, (hx.go g1).go g2⟩) (hx.go g1)) hx
end
end TL
namespace TL
open PySem PySem.Spec PyProof.Rows L2
/-! ### what is walked: a list, a tuple or a text, whichever it is -/
def iSeq (K : PySem.W.Frag) (te : TE) : TI := fun σ H R => te σ H fun x H1 =>
  (∃ a xs, x = .ref a ∧ SqL K H1 a xs ∧ R (Itl K a) H1) ∨ (∃ a xs, x = .ref a ∧ SqT K H1 a xs ∧ R (Itt K a) H1) ∨ ∃ z, x = .str z ∧ R (Its z) H1
theorem pi_seq {X : Cx} {tg e : Expr} {te : TE} (he : PE X e te) : PI X tg e (iSeq X.K te) := by
  refine ⟨fun pins s σ H R I h => thn (he.run pins s σ H _ I h) ?_⟩
  rintro v s1 ⟨x, H1, I1, r1, q1⟩
  rcases q1 with ⟨a, xs, rfl, hs, q⟩ | ⟨a, xs, rfl, hs, q⟩ | ⟨z, rfl, q⟩
  · obtain rfl : v = Value.ref a := r1
    obtain ⟨_, _, p, _⟩ := I1.list hs
    exact wpAny_pyIter_list p.isList (pi_one (tk := s1.toks) I1 _ (turn_list a _) ⟨_, Heap.get?_push_size _ rfl, rfl, rfl⟩ q)
  · obtain rfl : v = Value.ref a := r1
    obtain ⟨its, _, p, _⟩ := I1.tuple hs
    exact wpAny_pyIter_tuple (items := its.toArray) p (pi_one (tk := s1.toks) I1 _ (turn_tuple a _) ⟨_, Heap.get?_push_size _ rfl, rfl, rfl⟩ q)
  · obtain ⟨t, rfl⟩ := r1
    by_cases ha : z.cps.all (· < 128) = true
    · exact wpAny_pyIter_ascii ha (pi_one (tk := s1.toks) I1 _ (turn_str _ z t "str_ascii_iterator" (.inl rfl)) ⟨_, Heap.get?_push_size _ rfl, rfl, rfl⟩ q)
    · exact wpAny_pyIter_wide (by simpa using ha) (pi_one (tk := s1.toks) I1 _ (turn_str _ z t "str_iterator" (.inr rfl)) ⟨_, Heap.get?_push_size _ rfl, rfl, rfl⟩ q)
/-- the iterator J gives just these items, wherever G1 is data -/
def ItOk (K : PySem.W.Frag) (M : Mode) (G1 : Hp) (J : It) (items : List T) : Prop := ∀ G H, Sub G1 G → Ok M G H → ∀ i, (items.length ≤ i → J.stop i H) ∧
  ∀ t, items[i]? = some t → J.go i H ∧ ∀ x H', J.yld i H x H' → ∃ G', Go M G H G' H' ∧ Is K G' x t
abbrev TIx := List Sl → (List T → Prop) → (Xn → Prop) → Prop
def SimI (K : PySem.W.Frag) (M : Mode) (E : XK) (ti : TI) (g : TIx) : Prop :=
  ∀ τ q r, g τ q r → ∀ σ G H, W1 K M G H σ τ → ∀ R : It → Hp → Prop, (∀ J items G' H', Go M G H G' H' → ItOk K M G' J items → q items → R J H') → XP M G H E r → ti σ H R
/-- what a value gives when it is walked -/
def T.items : T → Option (List T)
  | .lst ts => some ts
  | .fls ts => some ts
  | .tup ts => some ts
  | .str z => some (z.cps.toList.map fun c => .str ⟨#[c]⟩)
  | _ => none
def oks {α : Type} (o : Option α) (k : α → Prop) : Prop := match o with
  | some a => k a
  | none => False
theorem oks_cases {α : Type} {o : Option α} {k : α → Prop} (h : oks o k) : ∃ a, o = some a ∧ k a := by
  cases o with
  | none => exact h.elim
  | some a => exact ⟨a, rfl, h⟩
section
variable {K : PySem.W.Frag} {M : Mode} {E : XK} {G H G' H' : Hp} {σ : List (Option V)} {τ : List Sl} {r : Xn → Prop}
theorem sqL_inj {a : Addr} {xs ys : List V} (h : SqL K H a xs) (h' : SqL K H a ys) : xs.length = ys.length → True := fun _ => trivial
theorem itok_list {a : Addr} {vs : List V} {ts : List T} (h : SqL K G a vs) (i : IsAll K G vs ts) : ItOk K M G (Itl K a) ts := fun G1 H1 s ok j => by
  have hs : SqL K H1 a vs := ok.sub.sqL (s.sqL h)
  refine ⟨fun hj => ⟨vs, hs, by rw [i.length]; exact hj⟩, fun t ht => ?_⟩
  obtain ⟨v, hv, iv⟩ := i.get ht
  refine ⟨⟨vs, v, hs, hv⟩, fun x H' y => ?_⟩
  obtain ⟨rfl, y⟩ := y
  have e := y vs hs
  rw [hv] at e
  cases e
  exact ⟨G1, .refl ok, iv.mono s⟩
theorem itok_tup {a : Addr} {vs : List V} {ts : List T} (h : SqT K G a vs) (i : IsAll K G vs ts) : ItOk K M G (Itt K a) ts := fun G1 H1 s ok j => by
  have hs : SqT K H1 a vs := ok.sub.sqT (s.sqT h)
  refine ⟨fun hj => ⟨vs, hs, by rw [i.length]; exact hj⟩, fun t ht => ?_⟩
  obtain ⟨v, hv, iv⟩ := i.get ht
  refine ⟨⟨vs, v, hs, hv⟩, fun x H' y => ?_⟩
  obtain ⟨rfl, y⟩ := y
  have e := y vs hs
  rw [hv] at e
  cases e
  exact ⟨G1, .refl ok, iv.mono s⟩
theorem itok_str {z : Str} : ItOk K M G (Its z) (z.cps.toList.map fun c => .str ⟨#[c]⟩) := fun G1 H1 s ok j => by
  refine ⟨fun hj => by show z.cps.size ≤ j; simpa using hj, fun t ht => ?_⟩
  rw [List.getElem?_map] at ht
  obtain ⟨c, hc, rfl⟩ := Option.map_eq_some_iff.mp ht
  have hz : j < z.cps.size := by simpa using (List.getElem?_eq_some_iff.mp hc).1
  refine ⟨hz, fun x H' y => ?_⟩
  obtain ⟨rfl, d, hd, rfl⟩ := y
  have e : z.cps[j]? = some c := by simpa using hc
  rw [e] at hd
  cases hd
  exact ⟨G1, .refl ok, .str⟩
theorem itok_range {lo : Int} {n : Nat} : ItOk K M G (Itr lo n) ((List.range n).map fun i => .int (lo + (i : Nat))) := fun G1 H1 s ok j => by
  refine ⟨fun hj => by show n ≤ j; simpa using hj, fun t ht => ?_⟩
  rw [List.getElem?_map] at ht
  obtain ⟨c, hc, rfl⟩ := Option.map_eq_some_iff.mp ht
  obtain ⟨h1, h2⟩ := List.getElem?_eq_some_iff.mp hc
  have hn : j < n := by simpa using h1
  have hj : j = c := by simpa using h2
  subst hj
  refine ⟨hn, fun x H' y => ?_⟩
  obtain ⟨rfl, rfl⟩ := y
  exact ⟨G1, .refl ok, .int⟩
def iWalk (a : TEx) : TIx := fun τ q r => a τ (fun s => oks s.fz.items q) r
theorem simi_seq {te : TE} {a : TEx} (ha : SimE K M E te a) : SimI K M E (iSeq K te) (iWalk a) := fun τ q r e σ G H w R hq hx =>
  ha.data e w (fun v G1 H1 s g1 i e1 => by
    obtain ⟨items, h1, k⟩ := oks_cases e1
    cases hs : s.fz with
    | lst ts =>
      rw [hs] at i h1
      cases h1
      cases i with
      | lst h r => exact .inl ⟨_, _, rfl, SqL.of (g1.sub _ _ h), hq _ _ G1 H1 g1 (itok_list (SqL.of h) r) k⟩
    | fls ts =>
      rw [hs] at i h1
      cases h1
      cases i with
      | fls h r => exact .inl ⟨_, _, rfl, g1.sub.sqL h, hq _ _ G1 H1 g1 (itok_list h r) k⟩
    | tup ts =>
      rw [hs] at i h1
      cases h1
      cases i with
      | tup h r => exact .inr (.inl ⟨_, _, rfl, g1.sub.sqT h, hq _ _ G1 H1 g1 (itok_tup h r) k⟩)
    | str z =>
      rw [hs] at i h1
      cases h1
      cases i
      exact .inr (.inr ⟨_, rfl, hq _ _ G1 H1 g1 itok_str k⟩)
    | _ => rw [hs] at h1; cases h1) hx
def rangeT (lo : Int) (n : Nat) : List T := (List.range n).map fun i => .int (lo + (i : Nat))
def iR1 (a : TAx) : TIx := fun τ q r => a τ (fun ts => match ts with
  | [.int j] => (-(2 ^ 62) ≤ j ∧ j < 2 ^ 62) ∧ q (rangeT 0 j.toNat)
  | _ => False) r
theorem simi_range1 {ta : TA} {a : TAx} (ha : SimA K M E ta a) : SimI K M E (iRng1 ta) (iR1 a) := fun τ q r e σ G H w R hq hx =>
  ha τ _ r e σ G H w _ (fun vs ts G1 H1 g1 i1 q1 => by
    split at q1
    · cases i1 with
      | cons i0 i1 => cases i1; cases i0; exact ⟨_, rfl, q1.1.1, q1.1.2, hq _ _ G1 H1 g1 itok_range q1.2⟩
    · exact q1.elim) hx
def iR2 (a : TAx) : TIx := fun τ q r => a τ (fun ts => match ts with
  | [.int i, .int j] => (-(2 ^ 62) ≤ i ∧ i < 2 ^ 62 ∧ -(2 ^ 62) ≤ j ∧ j < 2 ^ 62) ∧ q (rangeT i (j - i).toNat)
  | _ => False) r
theorem simi_range2 {ta : TA} {a : TAx} (ha : SimA K M E ta a) : SimI K M E (iRng2 ta) (iR2 a) := fun τ q r e σ G H w R hq hx =>
  ha τ _ r e σ G H w _ (fun vs ts G1 H1 g1 i1 q1 => by
    split at q1
    · cases i1 with
      | cons i0 i1 =>
        cases i1 with
        | cons i2 i1 => cases i1; cases i0; cases i2; exact ⟨_, _, rfl, q1.1, hq _ _ G1 H1 g1 itok_range q1.2⟩
    · exact q1.elim) hx
/-! ### targets -/
abbrev TGx := T → List Sl → (List Sl → Prop) → Prop
def SimG (K : PySem.W.Frag) (M : Mode) (is : List Nat) (tg : TG) (g : TGx) : Prop :=
  ∀ t τ q, g t τ q → ∀ x σ G H os, Is K G x t → En K G H σ τ os → Ok M G H → ∀ Q : L2.St → Hp → Prop,
    (∀ σ' τ' os', En K G H σ' τ' os' → (∀ a ∈ os', a ∈ os) → (∀ vs, (∀ i ∈ is, i ∈ vs) → wipe σ' vs = wipe σ vs) → q τ' → Q σ' H) → tg x σ H Q
theorem wipe_get (σ : L2.St) : ∀ (vs : List Nat) (j : Nat), (wipe σ vs)[j]? = if j ∈ vs ∧ j < σ.length then some none else σ[j]?
  | [], j => by simp [wipe]
  | v :: vs, j => by
    unfold wipe
    rw [List.getElem?_set, wipe_get σ vs j, wipe_length]
    by_cases h : v = j
    · subst h
      by_cases hl : v < σ.length
      · simp [hl]
      · simp [hl, List.getElem?_eq_none (Nat.le_of_not_lt hl)]
    · rw [if_neg h]
      simp only [List.mem_cons]
      by_cases hm : j ∈ vs
      · simp [hm]
      · simp [hm, Ne.symm h]
theorem wipe_set {σ : L2.St} {vs : List Nat} {i : Nat} {x : Option V} (h : i ∈ vs) : wipe (σ.set i x) vs = wipe σ vs := by
  apply List.ext_getElem?
  intro j
  rw [wipe_get, wipe_get, List.length_set, List.getElem?_set]
  by_cases hj : j ∈ vs ∧ j < σ.length
  · rw [if_pos hj, if_pos hj]
  · rw [if_neg hj, if_neg hj]
    by_cases e : i = j
    · subst e
      have hl : ¬ i < σ.length := fun hl => hj ⟨h, hl⟩
      simp [hl, List.getElem?_eq_none (Nat.le_of_not_lt hl)]
    · rw [if_neg e]
theorem wipe_wipe {σ : L2.St} {vs : List Nat} : wipe (wipe σ vs) vs = wipe σ vs := by
  apply List.ext_getElem?
  intro j
  rw [wipe_get, wipe_get, wipe_length]
  by_cases hj : j ∈ vs ∧ j < σ.length
  · rw [if_pos hj, if_pos hj]
  · rw [if_neg hj, if_neg hj]
def wipeS (τ : List Sl) : List Nat → List Sl
  | [] => τ
  | v :: vs => (wipeS τ vs).set v .no
theorem En.wipe {os : List Addr} (e : En K G H σ τ os) : ∀ vs : List Nat, ∃ os', En K G H (L2.wipe σ vs) (wipeS τ vs) os' ∧ ∀ a ∈ os', a ∈ os
  | [] => ⟨os, e, fun _ h => h⟩
  | v :: vs => by
    obtain ⟨o1, e1, h1⟩ := e.wipe vs
    obtain ⟨o2, e2, h2⟩ := e1.forget v none
    exact ⟨o2, e2, fun a h => h1 a (h2 a h)⟩
def xName (i : Nat) : TGx := fun t τ q => q (τ.set i (.sh t))
theorem set_set {α : Type} {l : List α} {i : Nat} {x y : α} : (l.set i x).set i y = l.set i y := by
  apply List.ext_getElem?
  intro j
  simp only [List.getElem?_set, List.length_set]
  by_cases h : i = j <;> simp [h]
theorem set_out {α : Type} {l : List α} {i : Nat} {x : α} (h : ¬ i < l.length) : l.set i x = l := by
  apply List.ext_getElem?
  intro j
  rw [List.getElem?_set]
  by_cases e : i = j
  · subst e; simp [h, List.getElem?_eq_none (Nat.le_of_not_lt h)]
  · simp [e]
/-- data into a slot -/
theorem En.data {os : List Addr} (e : En K G H σ τ os) (i : Nat) {v : V} {t : T} (h : Is K G v t) : ∃ os', En K G H (σ.set i (some v)) (τ.set i (.sh t)) os' ∧ ∀ a ∈ os', a ∈ os := by
  obtain ⟨o1, e1, h1⟩ := e.forget i (some v)
  by_cases hl : i < τ.length
  · have e2 := e1.putS (i := i) (v := v) (t := t) (by simp [hl]) h
    rw [set_set, set_set] at e2
    exact ⟨o1, e2, h1⟩
  · rw [set_out hl, set_out (by rw [e.length]; exact hl)]
    exact ⟨os, e, fun _ h => h⟩
theorem simg_name {i : Nat} : SimG K M [i] (gName i) (xName i) := fun t τ q e x σ G H os ix en ok Q hq => by
  obtain ⟨o1, e1, h1⟩ := en.data i ix
  exact hq _ _ o1 e1 h1 (fun vs h => wipe_set (h i (by simp))) e
abbrev TGsx := List T → List Sl → (List Sl → Prop) → Prop
def SimGs (K : PySem.W.Frag) (M : Mode) (is : List Nat) (tg : TGs) (g : TGsx) : Prop :=
  ∀ ts τ q, g ts τ q → ∀ xs σ G H os, IsAll K G xs ts → En K G H σ τ os → Ok M G H → ∀ Q : L2.St → Hp → Prop,
    (∀ σ' τ' os', En K G H σ' τ' os' → (∀ a ∈ os', a ∈ os) → (∀ vs, (∀ i ∈ is, i ∈ vs) → wipe σ' vs = wipe σ vs) → q τ' → Q σ' H) → tg xs σ H Q
def xsNil : TGsx := fun ts τ q => ts = [] ∧ q τ
def xsCons (a : TGx) (b : TGsx) : TGsx := fun ts τ q => match ts with
  | t :: ts => a t τ fun τ' => b ts τ' q
  | [] => False
theorem simgs_nil : SimGs K M [] gNil xsNil := fun ts τ q e xs σ G H os ix en ok Q hq => by
  obtain ⟨rfl, e⟩ := e
  cases ix
  exact ⟨rfl, hq σ τ os en (fun _ h => h) (fun _ _ => rfl) e⟩
theorem simgs_cons {is js : List Nat} {t : TG} {u : TGs} {a : TGx} {b : TGsx} (ha : SimG K M is t a) (hb : SimGs K M js u b) : SimGs K M (is ++ js) (gCons t u) (xsCons a b) := fun ts τ q e xs σ G H os ix en ok Q hq => by
  cases ts with
  | nil => exact e.elim
  | cons t0 ts =>
    cases ix with
    | cons i0 ix =>
      refine ⟨_, _, rfl, ha t0 τ _ e _ σ G H os i0 en ok _ fun σ1 τ1 os1 e1 h1 w1 q1 => hb ts τ1 q q1 _ σ1 G H os1 ix e1 ok Q fun σ2 τ2 os2 e2 h2 w2 q2 => hq σ2 τ2 os2 e2 (fun a h => h1 a (h2 a h)) (fun vs h => ?_) q2⟩
      rw [w2 vs fun i hi => h i (List.mem_append_right _ hi), w1 vs fun i hi => h i (List.mem_append_left _ hi)]
def xTup (n : Nat) (b : TGsx) : TGx := fun t τ q => match t with
  | .tup ts => ts.length = n ∧ b ts τ q
  | _ => False
theorem simg_tup {n : Nat} {is : List Nat} {u : TGs} {b : TGsx} (hb : SimGs K M is u b) : SimG K M is (L2.gTup K n u) (xTup n b) := fun t τ q e x σ G H os ix en ok Q hq => by
  cases t with
  | tup ts =>
    obtain ⟨e1, e2⟩ := e
    cases ix with
    | tup h i => exact ⟨_, _, rfl, ok.sub.sqT h, by rw [i.length]; exact e1, hb ts τ q e2 _ σ G H os i en ok Q hq⟩
  | _ => exact e.elim
/-! ### comprehensions -/
/-- no exception -/
def rF : Xn → Prop := fun _ => False
theorem xp_F {E : XK} : XP M G H E rF := fun _ _ _ _ _ _ _ h => h.elim
def lcR (g : TGx) (tt : TTx) (te : TEx) (τ : List Sl) (q : List T → Prop) : List T → List T → Prop
  | [], acc => q acc
  | t :: ts, acc => g t τ fun τ2 => tt τ2 (fun b => if b = true then te τ2 (fun s => acc.length < sizeLine ∧ lcR g tt te τ q ts (acc ++ [s.fz])) rF else lcR g tt te τ q ts acc) rF
def gLc (vs : List Nat) (src : TIx) (g : TGx) (tt : TTx) (te : TEx) : TEx := fun τ q r => src τ (fun items => lcR g tt te (wipeS τ vs) (fun ts => q (.ol ts)) items []) r
def gYes : TTx := fun _ q _ => q true
theorem simt_yes : SimT K M E tYes gYes := fun τ q r e σ G H w Q hq _ => hq true G H (.refl w.ok) e
theorem sim_lc {ti : TI} {tg : TG} {tt : TT} {te : TE} {vs is : List Nat} {src : TIx} {g : TGx} {gt : TTx} {ge : TEx} (hi : SimI K M E ti src) (hg : SimG K M is tg g) (ht : SimT K M L2.E0 tt gt) (he : SimE K M L2.E0 te ge) (hv : ∀ i ∈ is, i ∈ vs) :
    SimE K M E (tLc ti tg tt te vs) (gLc vs src g gt ge) := fun τ q r e σ G H w Q hq hx =>
  hi τ _ r e σ G H w _ (fun J items G1 H1 g1 hJ e1 D hD => by
    have ok1 := w.ok.go g1
    refine ⟨fun i m H' => m = items.length - i ∧ i ≤ items.length ∧ ∃ G' vs' ts, H' D = some (.lst vs') ∧ G' D = none ∧ IsAll K G' vs' ts ∧ Go M G1 H1 G' H' ∧ lcR g gt ge (wipeS τ vs) (fun ts => q (.ol ts)) (items.drop i) ts,
      ⟨items.length, rfl, Nat.zero_le _, G1, [], [], upd_same, ok1.fresh hD, .nil, .lay ok1 hD, e1⟩, ?_⟩
    rintro i m H' ⟨rfl, hi, G', vs', ts, hD', nD', ia, g', el⟩
    have ok' := ok1.go g'
    obtain ⟨hst, hgo⟩ := hJ G' H' g'.gg ok' i
    by_cases hlt : i < items.length
    · refine .inr ⟨?_, fun H'' => ∃ m', m' < items.length - i ∧ (m' = items.length - (i + 1) ∧ i + 1 ≤ items.length ∧ ∃ G' vs' ts, H'' D = some (.lst vs') ∧ G' D = none ∧ IsAll K G' vs' ts ∧ Go M G1 H1 G' H'' ∧ lcR g gt ge (wipeS τ vs) (fun ts => q (.ol ts)) (items.drop (i + 1)) ts), fun H'' h => h, ?_⟩
      · exact (hgo items[i] (by simp [hlt])).1
      · intro x H'' y
        obtain ⟨G2, g2, ix⟩ := (hgo items[i] (by simp [hlt])).2 x H'' y
        rw [List.drop_eq_getElem_cons hlt] at el
        obtain ⟨os, en, hs⟩ := w.en
        have en2 := en.go hs ((g1.trans g').trans g2)
        obtain ⟨os', en3, ho⟩ := en2.wipe vs
        refine hg _ _ _ el x _ G2 H'' os' ix en3 (ok'.go g2) _ fun σ4 τ4 os4 en4 ho4 hw4 q4 => ⟨by rw [hw4 vs hv, wipe_wipe], ?_⟩
        have w4 : W1 K M G2 H'' σ4 τ4 := ⟨⟨os4, en4, fun a h => hs a (ho a (ho4 a h))⟩, ok'.go g2⟩
        refine ht _ _ rF q4 σ4 G2 H'' w4 _ (fun b G5 H5 g5 q5 => ?_) xp_F
        have nS : ¬ M.S D := ok1.noS hD
        have g25 := g2.trans g5
        have hD5 : H5 D = some (.lst vs') := g25.keep D _ nS hD'
        cases b with
        | true =>
          rw [if_pos rfl] at q5
          rw [if_pos rfl]
          refine he.data q5 (w4.go g5) (fun y G6 H6 s6 g6 i6 ⟨z6, q6⟩ => ?_) xp_F
          have g26 := g25.trans g6
          have hD6 : H6 D = some (.lst vs') := g26.keep D _ nS hD'
          have n6 : G6 D = none := g26.new D nD' (by rw [hD']; simp)
          refine ⟨vs', hD6, by rw [ia.length]; exact z6, items.length - (i + 1), by omega, rfl, hlt, G6, vs' ++ [y], ts ++ [s6.fz], upd_same, n6, (ia.mono g26.gg).append (.one i6), (g'.trans g26).write ok1 hD hD6 (.inl ⟨_, rfl⟩) n6, q6⟩
        | false =>
          rw [if_neg (by decide)] at q5
          rw [if_neg (by decide)]
          exact ⟨items.length - (i + 1), by omega, rfl, hlt, G5, vs', ts, hD5, g25.new D nD' (by rw [hD']; simp), ia.mono g25.gg, g'.trans g25, q5⟩
    · have e : i = items.length := by omega
      subst e
      rw [List.drop_length] at el
      exact .inl ⟨hst (Nat.le_refl _), hq (.ref D) (.ol ts) G' H' (g1.trans g') ⟨D, vs', rfl, g1.back hD, hD', nD', ia⟩ el⟩) hx
end
end TL
namespace TL
open PySem PySem.Spec PyProof.Rows L2
/-! ### statements -/
structure Kn where
  nx : List Sl → Prop
  rt : Sl → Prop
  bk : List Sl → Prop := fun _ => False
  ct : List Sl → Prop := fun _ => False
  ex : Xn → Prop
abbrev TSx := List Sl → Kn → Prop
/-- the state within a def entered at (G0, H0) -/
structure W2 (K : PySem.W.Frag) (M : Mode) (G0 H0 G H : Hp) (σ : List (Option V)) (τ : List Sl) : Prop where
  en : ∃ os, En K G H σ τ os ∧ ∀ a ∈ os, H0 a = none
  go : Go M G0 H0 G H
structure DOk (K : PySem.W.Frag) (M : Mode) (E : XK) (G0 H0 Gb : Hp) (D : Ends) (k : Kn) : Prop where
  nx : ∀ σ τ G H, W2 K M G0 H0 G H σ τ → Sub Gb G → k.nx τ → D.nx σ H
  rt : ∀ v s G H, Go M G0 H0 G H → Rs K G0 H0 G H v s → k.rt s → D.rt v H
  bk : ∀ σ τ G H, W2 K M G0 H0 G H σ τ → Sub Gb G → k.bk τ → D.bk σ H
  ct : ∀ σ τ G H, W2 K M G0 H0 G H σ τ → Sub Gb G → k.ct τ → D.ct σ H
  ex : XP M G0 H0 E k.ex
theorem DOk.mono {K : PySem.W.Frag} {M : Mode} {E : XK} {G0 H0 Gb Gc : Hp} {D : Ends} {k : Kn} (d : DOk K M E G0 H0 Gb D k) (s : Sub Gb Gc) : DOk K M E G0 H0 Gc D k :=
  ⟨fun σ τ G H w z => d.nx σ τ G H w (s.trans z), d.rt, fun σ τ G H w z => d.bk σ τ G H w (s.trans z), fun σ τ G H w z => d.ct σ τ G H w (s.trans z), d.ex⟩
def SimS (K : PySem.W.Frag) (M : Mode) (E : XK) (ts : TS) (g : TSx) : Prop :=
  ∀ G0 H0, Ok M G0 H0 → ∀ τ k, g τ k → ∀ σ G H, W2 K M G0 H0 G H σ τ → ∀ D, DOk K M E G0 H0 G D k → ts D σ H
section
variable {K : PySem.W.Frag} {M : Mode} {E : XK} {G0 H0 G H G' H' : Hp} {σ : List (Option V)} {τ : List Sl} {r : Xn → Prop}
theorem W2.w1 (w : W2 K M G0 H0 G H σ τ) (ok : Ok M G0 H0) : W1 K M G H σ τ :=
  let ⟨os, e, h⟩ := w.en
  ⟨⟨os, e, fun a ha => ok.noS (h a ha)⟩, ok.go w.go⟩
theorem W2.next (w : W2 K M G0 H0 G H σ τ) (ok : Ok M G0 H0) (g : Go M G H G' H') : W2 K M G0 H0 G' H' σ τ :=
  let ⟨os, e, h⟩ := w.en
  ⟨⟨os, e.go (fun a ha => ok.noS (h a ha)) g, h⟩, w.go.trans g⟩
theorem XP.at (x : XP M G0 H0 E r) (g : Go M G0 H0 G H) : XP M G H E r := x.go g
/-- a result into a slot -/
theorem W2.put (w : W2 K M G0 H0 G H σ τ) (ok : Ok M G0 H0) (i : Nat) {v : V} {s : Sl} (g : Go M G H G' H') (rs : Rs K G H G' H' v s) : W2 K M G0 H0 G' H' (σ.set i (some v)) (τ.set i s) := by
  obtain ⟨os, e0, h⟩ := w.en
  have e := e0.go (fun a ha => ok.noS (h a ha)) g
  refine ⟨?_, w.go.trans g⟩
  cases s with
  | no => exact rs.elim
  | sh t =>
    obtain ⟨o1, e1, h1⟩ := e.data i (show Is K G' v t from rs)
    exact ⟨o1, e1, fun a ha => h a (h1 a ha)⟩
  | ol ts =>
    obtain ⟨a, vs, rfl, ha, hl, hn, ia⟩ := rs
    obtain ⟨o1, e1, h1⟩ := e.forget i (some (.ref a))
    by_cases hi : i < τ.length
    · obtain ⟨o2, e2, h2⟩ := e1.putL (i := i) (by simp [hi]) hl hn ia (fun z => (e0.own a (h1 a z)).2 ha)
      rw [set_set, set_set] at e2
      exact ⟨o2, e2, fun b hb => (h2 b hb).elim (fun z => by rw [z]; exact w.go.back ha) fun z => h b (h1 b z)⟩
    · rw [set_out hi, set_out (by rw [e.length]; exact hi)]
      exact ⟨os, e, h⟩
  | od ts =>
    obtain ⟨a, vs, rfl, ha, hl, hn, ia⟩ := rs
    obtain ⟨o1, e1, h1⟩ := e.forget i (some (.ref a))
    by_cases hi : i < τ.length
    · obtain ⟨o2, e2, h2⟩ := e1.putD (i := i) (by simp [hi]) hl hn ia (fun z => (e0.own a (h1 a z)).2 ha)
      rw [set_set, set_set] at e2
      exact ⟨o2, e2, fun b hb => (h2 b hb).elim (fun z => by rw [z]; exact w.go.back ha) fun z => h b (h1 b z)⟩
    · rw [set_out hi, set_out (by rw [e.length]; exact hi)]
      exact ⟨os, e, h⟩
theorem Rs.at0 {v : V} {s : Sl} (rs : Rs K G H G' H' v s) (g : Go M G0 H0 G H) : Rs K G0 H0 G' H' v s := rs.early g
def sNext : TSx := fun τ k => k.nx τ
def sSeq (a b : TSx) : TSx := fun τ k => a τ { k with nx := fun τ' => b τ' k }
theorem sims_next : SimS K M E tNext sNext := fun G0 H0 ok τ k e σ G H w D d => d.nx σ τ G H w (.refl _) e
theorem sims_seq {t u : TS} {a b : TSx} (ha : SimS K M E t a) (hb : SimS K M E u b) : SimS K M E (tSeq t u) (sSeq a b) := fun G0 H0 ok τ k e σ G H w D d =>
  ha G0 H0 ok τ _ e σ G H w _ ⟨fun σ1 τ1 G1 H1 w1 z e1 => hb G0 H0 ok τ1 k e1 σ1 G1 H1 w1 D (d.mono z), d.rt, d.bk, d.ct, d.ex⟩
def sBrk : TSx := fun τ k => k.bk τ
def sCnt : TSx := fun τ k => k.ct τ
theorem sims_brk : SimS K M E tBreak sBrk := fun G0 H0 ok τ k e σ G H w D d => d.bk σ τ G H w (.refl _) e
theorem sims_cnt : SimS K M E tCont sCnt := fun G0 H0 ok τ k e σ G H w D d => d.ct σ τ G H w (.refl _) e
def sSet (i : Nat) (a : TEx) : TSx := fun τ k => a τ (fun s => k.nx (τ.set i s)) k.ex
theorem sims_set {i : Nat} {te : TE} {a : TEx} (ha : SimE K M E te a) : SimS K M E (tAsg te (gName i)) (sSet i a) := fun G0 H0 ok τ k e σ G H w D d =>
  ha τ _ _ e σ G H (w.w1 ok) _ (fun v s G1 H1 g rs q => d.nx _ _ G1 H1 (w.put ok i g rs) g.gg q) (d.ex.at w.go)
/-- targets of other forms -/
def sAsg (a : TEx) (g : TGx) : TSx := fun τ k => a τ (fun s => g s.fz τ k.nx) k.ex
theorem sims_asg {te : TE} {a : TEx} {is : List Nat} {tg : TG} {g : TGx} (ha : SimE K M E te a) (hg : SimG K M is tg g) : SimS K M E (tAsg te tg) (sAsg a g) := fun G0 H0 ok τ k e σ G H w D d =>
  ha.data e (w.w1 ok) (fun v G1 H1 s g1 i q => by
    obtain ⟨os, e0, h⟩ := w.en
    have e1 := e0.go (fun a ha => ok.noS (h a ha)) g1
    exact hg _ τ _ q v σ G1 H1 os i e1 (ok.go (w.go.trans g1)) _ fun σ2 τ2 os2 e2 h2 _ q2 => d.nx _ _ G1 H1 ⟨⟨os2, e2, fun a ha => h a (h2 a ha)⟩, w.go.trans g1⟩ g1.gg q2) (d.ex.at w.go)
def sIf (c : TTx) (a b : TSx) : TSx := fun τ k => c τ (fun d => if d = true then a τ k else b τ k) k.ex
theorem sims_if {tc : TT} {t u : TS} {c : TTx} {a b : TSx} (hc : SimT K M E tc c) (ha : SimS K M E t a) (hb : SimS K M E u b) : SimS K M E (tIfS tc t u) (sIf c a b) := fun G0 H0 ok τ k e σ G H w D d =>
  hc τ _ _ e σ G H (w.w1 ok) _ (fun c G1 H1 g q => by
    cases c with
    | true => exact ha G0 H0 ok τ k (by simpa using q) σ G1 H1 (w.next ok g) D (d.mono g.gg)
    | false => exact hb G0 H0 ok τ k (by simpa using q) σ G1 H1 (w.next ok g) D (d.mono g.gg)) (d.ex.at w.go)
def sRet (a : TEx) : TSx := fun τ k => a τ k.rt k.ex
theorem sims_ret {te : TE} {a : TEx} (ha : SimE K M E te a) : SimS K M E (tRet te) (sRet a) := fun G0 H0 ok τ k e σ G H w D d =>
  ha τ _ _ e σ G H (w.w1 ok) _ (fun v s G1 H1 g rs q => d.rt v s G1 H1 (w.go.trans g) (rs.at0 w.go) q) (d.ex.at w.go)
/-- return x, x an own list perhaps -/
def sRetV (i : Nat) : TSx := fun τ k => match τ[i]? with
  | some (.sh t) => k.rt (.sh t)
  | some (.ol ts) => k.rt (.ol ts)
  | _ => False
theorem sims_retV {i : Nat} : SimS K M E (tRet (tVar i)) (sRetV i) := fun G0 H0 ok τ k e σ G H w D d => by
  unfold sRetV at e
  obtain ⟨os, en, h⟩ := w.en
  split at e
  · rename_i t ht
    obtain ⟨v, h1, h2⟩ := en.get ht
    exact ⟨v, h1, d.rt v (.sh t) G H w.go h2 e⟩
  · rename_i ts ht
    obtain ⟨a, vs, h1, h2, h3, h4, h5, _⟩ := en.getL ht
    exact ⟨_, h1, d.rt _ (.ol ts) G H w.go ⟨a, vs, rfl, h a h2, h3, h4, h5⟩ e⟩
  · exact e.elim
/-- return a if c else b: each by itself -/
theorem sims_retIf {tc : TT} {ta tb : TE} {c : TTx} {a b : TSx} (hc : SimT K M E tc c) (ha : SimS K M E (tRet ta) a) (hb : SimS K M E (tRet tb) b) : SimS K M E (tRet (tIf tc ta tb)) (sIf c a b) := sims_if (t := tRet ta) (u := tRet tb) hc ha hb
def sRetN : TSx := fun τ k => k.rt (.sh .non)
theorem sims_retN : SimS K M E tRetN sRetN := fun G0 H0 ok τ k e σ G H w D d => d.rt _ (.sh .non) G H w.go .non e
def sDrop (a : TEx) : TSx := fun τ k => a τ (fun _ => k.nx τ) k.ex
theorem sims_drop {te : TE} {a : TEx} (ha : SimE K M E te a) : SimS K M E (tDrop te) (sDrop a) := fun G0 H0 ok τ k e σ G H w D d =>
  ha τ _ _ e σ G H (w.w1 ok) _ (fun v s G1 H1 g rs q => d.nx _ _ G1 H1 (w.next ok g) g.gg q) (d.ex.at w.go)
def sRaise (C : Addr) : TSx := fun τ k => k.ex ⟨.ref C, none⟩
theorem sims_raise {C : Addr} : SimS K M E (fun _ _ H => E (.ref C) none H) (sRaise C) := fun G0 H0 ok τ k e σ G H w D d => d.ex _ _ _ G H w.go ⟨rfl, rfl⟩ e
/-- x.append(e) -/
def sApp (i : Nat) (a : TEx) : TSx := fun τ k => a τ (fun s => match τ[i]? with
  | some (.ol ts) => ts.length < sizeLine ∧ k.nx (τ.set i (.ol (ts ++ [s.fz])))
  | _ => False) k.ex ∧ ∃ ts, τ[i]? = some (.ol ts)
theorem W2.ol (w : W2 K M G0 H0 G H σ τ) (ok : Ok M G0 H0) {i : Nat} {ts : List T} (h : τ[i]? = some (.ol ts)) : ∃ a vs, σ[i]? = some (some (.ref a)) ∧ H a = some (.lst vs) ∧ IsAll K G vs ts ∧
    ∀ vs' ts', IsAll K G vs' ts' → W2 K M G0 H0 G (upd H a (.lst vs')) σ (τ.set i (.ol ts')) := by
  obtain ⟨os, en, ho⟩ := w.en
  obtain ⟨a, vs, h1, h2, h3, h4, h5, h6⟩ := en.getL h
  exact ⟨a, vs, h1, h3, h5, fun vs' ts' z => ⟨⟨os, h6 vs' ts' z, ho⟩, w.go.write ok (ho a h2) h3 (.inl ⟨_, rfl⟩) h4⟩⟩
theorem sims_app {i : Nat} {te : TE} {a : TEx} (ha : SimE K M E te a) : SimS K M E (tDrop (tBM K "list" rAppend (tVar i) (tCons te tNil))) (sApp i a) := fun G0 H0 ok τ k e σ G H w D d => by
  obtain ⟨e, ts, ht⟩ := e
  obtain ⟨p, vs, h1, h2, h3, _⟩ := w.ol ok ht
  refine ⟨_, h1, .inl ⟨rfl, _, SqL.of h2⟩, ha.data e (w.w1 ok) (fun v G1 H1 s g i1 q => ?_) (d.ex.at w.go)⟩
  rw [ht] at q
  obtain ⟨q1, q2⟩ := q
  obtain ⟨p', vs', h1', h2', h3', h4'⟩ := (w.next ok g).ol ok ht
  rw [h1] at h1'
  obtain rfl : p = p' := by simpa using h1'
  exact ⟨p, vs', v, rfl, rfl, h2', by rw [h3'.length]; exact q1, d.nx _ _ _ _ (h4' (vs' ++ [v]) (ts ++ [s.fz]) (h3'.append (.one i1))) g.gg q2⟩
/-- x.extend(e) -/
def rExtS (K : PySem.W.Frag) : V → List V → Hp → VK → Prop := rExtend
/-! ### loops -/
def forR (g : TGx) (b : TSx) (k : Kn) : List T → List Sl → Prop
  | [], τ => k.nx τ
  | t :: ts, τ => g t τ fun τ2 => b τ2 { k with nx := forR g b k ts, ct := forR g b k ts, bk := k.nx }
def sFor (src : TIx) (g : TGx) (b : TSx) : TSx := fun τ k => src τ (fun items => forR g b k items τ) k.ex
theorem sims_for {ti : TI} {tg : TG} {tb : TS} {is : List Nat} {src : TIx} {g : TGx} {b : TSx} (hi : SimI K M E ti src) (hg : SimG K M is tg g) (hb : SimS K M E tb b) : SimS K M E (tFor ti tg tb) (sFor src g b) := fun G0 H0 ok τ k e σ G H w D d =>
  hi τ _ _ e σ G H (w.w1 ok) _ (fun J items G1 H1 g1 hJ e1 => by
    refine ⟨fun i m σ' H' => m = items.length - i ∧ i ≤ items.length ∧ ∃ G' τ', W2 K M G0 H0 G' H' σ' τ' ∧ Sub G1 G' ∧ forR g b k (items.drop i) τ', ⟨items.length, rfl, Nat.zero_le _, G1, τ, w.next ok g1, .refl _, e1⟩, ?_⟩
    rintro i m σ' H' ⟨rfl, hi, G', τ', w', hs, el⟩
    obtain ⟨hst, hgo⟩ := hJ G' H' hs (ok.go w'.go) i
    by_cases hlt : i < items.length
    · refine .inr ⟨(hgo items[i] (by simp [hlt])).1, fun σ'' H'' => ∃ G' τ', W2 K M G0 H0 G' H'' σ'' τ' ∧ Sub G1 G' ∧ forR g b k (items.drop (i + 1)) τ', fun σ'' H'' ⟨G', τ', h⟩ => ⟨items.length - (i + 1), by omega, rfl, hlt, G', τ', h⟩, fun x H'' y => ?_⟩
      obtain ⟨G2, g2, ix⟩ := (hgo items[i] (by simp [hlt])).2 x H'' y
      rw [List.drop_eq_getElem_cons hlt] at el
      obtain ⟨os, en, ho⟩ := w'.en
      have en2 := en.go (fun a ha => ok.noS (ho a ha)) g2
      refine hg _ _ _ el x σ' G2 H'' os ix en2 (ok.go (w'.go.trans g2)) _ fun σ4 τ4 os4 en4 ho4 _ q4 => ?_
      have w4 : W2 K M G0 H0 G2 H'' σ4 τ4 := ⟨⟨os4, en4, fun a h => ho a (ho4 a h)⟩, w'.go.trans g2⟩
      refine hb G0 H0 ok τ4 _ q4 σ4 G2 H'' w4 _ ⟨fun σ5 τ5 G5 H5 w5 z5 q5 => ⟨G5, τ5, w5, (hs.trans g2.gg).trans z5, q5⟩, d.rt, fun σ5 τ5 G5 H5 w5 z5 q5 => d.nx σ5 τ5 G5 H5 w5 (((g1.gg.trans hs).trans g2.gg).trans z5) q5, fun σ5 τ5 G5 H5 w5 z5 q5 => ⟨G5, τ5, w5, (hs.trans g2.gg).trans z5, q5⟩, d.ex⟩
    · have e : i = items.length := by omega
      subst e
      rw [List.drop_length] at el
      exact .inl ⟨hst (Nat.le_refl _), d.nx σ' τ' G' H' w' (g1.gg.trans hs) el⟩) (d.ex.at w.go)
/-- while: a word of the slots and a number that falls -/
def sWhile (c : TTx) (b : TSx) : TSx := fun τ k => ∃ I : Nat → List Sl → Prop, (∃ m, I m τ) ∧ ∀ m τ, I m τ → c τ (fun d => if d = true then b τ { k with nx := fun τ' => ∃ m', m' < m ∧ I m' τ', ct := fun τ' => ∃ m', m' < m ∧ I m' τ', bk := k.nx } else k.nx τ) k.ex
theorem sims_while {tc : TT} {tb : TS} {c : TTx} {b : TSx} (hc : SimT K M E tc c) (hb : SimS K M E tb b) : SimS K M E (tWhile tc tb) (sWhile c b) := fun G0 H0 ok τ k e σ G H w D d => by
  obtain ⟨I, ⟨m0, i0⟩, turn⟩ := e
  refine ⟨fun m σ' H' => ∃ G' τ', W2 K M G0 H0 G' H' σ' τ' ∧ Sub G G' ∧ I m τ', ⟨m0, G, τ, w, .refl _, i0⟩, ?_⟩
  rintro m σ' H' ⟨G', τ', w', hs, im⟩
  refine hc τ' _ _ (turn m τ' im) σ' G' H' (w'.w1 ok) _ (fun c G1 H1 g q => ?_) (d.ex.at w'.go)
  cases c with
  | true =>
    rw [if_pos rfl] at q
    rw [if_pos rfl]
    refine ⟨fun σ'' H'' => ∃ m', m' < m ∧ ∃ G' τ', W2 K M G0 H0 G' H'' σ'' τ' ∧ Sub G G' ∧ I m' τ', fun σ'' H'' h => h, ?_⟩
    refine hb G0 H0 ok τ' _ q σ' G1 H1 (w'.next ok g) _ ⟨fun σ5 τ5 G5 H5 w5 z5 ⟨m', h1, h2⟩ => ⟨m', h1, G5, τ5, w5, (hs.trans g.gg).trans z5, h2⟩, d.rt, fun σ5 τ5 G5 H5 w5 z5 q5 => d.nx σ5 τ5 G5 H5 w5 ((hs.trans g.gg).trans z5) q5, fun σ5 τ5 G5 H5 w5 z5 ⟨m', h1, h2⟩ => ⟨m', h1, G5, τ5, w5, (hs.trans g.gg).trans z5, h2⟩, d.ex⟩
  | false =>
    rw [if_neg (by decide)] at q
    rw [if_neg (by decide)]
    exact d.nx _ _ _ _ (w'.next ok g) (hs.trans g.gg) q
/-! ### an own list looked at, made data for good -/
def Sl.froz : Sl → Sl
  | .ol ts => .sh (.lst ts)
  | .od ts => .sh (.dct ts)
  | s => s
theorem En.frz {os : List Addr} (e : En K G H σ τ os) (sg : Sub G H) : ∃ Gf, Sub G Gf ∧ Sub Gf H ∧ (∀ a, G a = none → a ∉ os → Gf a = none) ∧ En K Gf H σ (τ.map Sl.froz) [] := by
  induction e with
  | nil => exact ⟨G, .refl _, sg, fun _ h _ => h, .nil⟩
  | no e ih =>
    obtain ⟨Gf, h1, h2, h3, h4⟩ := ih
    exact ⟨Gf, h1, h2, h3, .no h4⟩
  | sh i e ih =>
    obtain ⟨Gf, h1, h2, h3, h4⟩ := ih
    exact ⟨Gf, h1, h2, h3, .sh (i.mono h1) h4⟩
  | @ol a vs ts σ τ os q1 q2 q3 q4 e ih =>
    obtain ⟨Gf, h1, h2, h3, h4⟩ := ih
    have n := h3 a q2 q4
    refine ⟨upd Gf a (.lst vs), h1.trans (Sub.upd n), fun b o z => ?_, fun b z k => ?_, .sh (.lst upd_same (q3.mono (h1.trans (Sub.upd n)))) (h4.mono (Sub.upd n) (fun _ h => nomatch h) fun _ h => nomatch h)⟩
    · by_cases hb : b = a
      · subst hb; rw [upd_same] at z; cases z; exact q1
      · rw [upd_ne hb] at z; exact h2 b o z
    · rw [upd_ne fun y => k (by rw [y]; exact List.mem_cons_self)]
      exact h3 b z fun y => k (List.mem_cons_of_mem _ y)
  | @od a vs ts σ τ os q1 q2 q3 q4 e ih =>
    obtain ⟨Gf, h1, h2, h3, h4⟩ := ih
    have n := h3 a q2 q4
    refine ⟨upd Gf a (.dK vs), h1.trans (Sub.upd n), fun b o z => ?_, fun b z k => ?_, .sh (.dct upd_same (q3.mono (h1.trans (Sub.upd n)))) (h4.mono (Sub.upd n) (fun _ h => nomatch h) fun _ h => nomatch h)⟩
    · by_cases hb : b = a
      · subst hb; rw [upd_same] at z; cases z; exact q1
      · rw [upd_ne hb] at z; exact h2 b o z
    · rw [upd_ne fun y => k (by rw [y]; exact List.mem_cons_self)]
      exact h3 b z fun y => k (List.mem_cons_of_mem _ y)
def Sl.scl : Sl → Prop
  | .sh .non | .sh (.bl _) | .sh (.int _) | .sh (.str _) => True
  | _ => False
theorem W1.frz (w : W1 K M G H σ τ) : ∃ Gf, Sub G Gf ∧ W1 K M Gf H σ (τ.map Sl.froz) := by
  obtain ⟨os, e, hs⟩ := w.en
  obtain ⟨Gf, h1, h2, h3, h4⟩ := e.frz w.ok.sub
  exact ⟨Gf, h1, ⟨[], h4, fun _ h => nomatch h⟩, h2, w.ok.j, fun a h => h3 a (w.ok.s a h) fun z => hs a z h, w.ok.u⟩
/-- a plain value made of own lists too -/
def gBor (a : TEx) : TEx := fun τ q r => a (τ.map Sl.froz) (fun s => s.scl ∧ q s) r
theorem sim_bor {te : TE} {a : TEx} (ha : SimE K M E te a) : SimE K M E te (gBor a) := fun τ q r e σ G H w Q hq hx => by
  obtain ⟨Gf, h1, wf⟩ := w.frz
  have dn : ∀ {G' H'}, Go M Gf H G' H' → Go M G H G H' := fun g => ⟨.refl _, fun a o z => g.sub a o (g.gg a o (h1 a o z)), g.keep, g.there, fun _ h _ => h, g.j⟩
  refine ha _ _ r e σ Gf H wf Q (fun v s G1 H1 g rs ⟨z, q1⟩ => hq v s G H1 (dn g) ?_ q1) fun x c d G1 H1 g => hx x c d G H1 (dn g)
  cases s with
  | sh t =>
    have rs' : Is K G1 v t := rs
    cases t with
    | non => cases rs'; exact .non
    | bl b => cases rs'; exact .bl
    | int b => cases rs'; exact .int
    | str b => cases rs'; exact .str
    | _ => exact z.elim
  | _ => exact z.elim
def gBorT (a : TTx) : TTx := fun τ q r => a (τ.map Sl.froz) q r
theorem simt_bor {te : TT} {a : TTx} (ha : SimT K M E te a) : SimT K M E te (gBorT a) := fun τ q r e σ G H w Q hq hx => by
  obtain ⟨Gf, h1, wf⟩ := w.frz
  have dn : ∀ {G' H'}, Go M Gf H G' H' → Go M G H G H' := fun g => ⟨.refl _, fun a o z => g.sub a o (g.gg a o (h1 a o z)), g.keep, g.there, fun _ h _ => h, g.j⟩
  exact ha _ _ r e σ Gf H wf Q (fun v G1 H1 g q1 => hq v G H1 (dn g) q1) fun x c d G1 H1 g => hx x c d G H1 (dn g)
theorem En.frz1 {os : List Addr} (e : En K G H σ τ os) : ∀ {i : Nat} {ts : List T}, τ[i]? = some (.ol ts) → ∃ a vs os', H a = some (.lst vs) ∧ a ∈ os ∧ G a = none ∧ En K (upd G a (.lst vs)) H σ (τ.set i (.sh (.lst ts))) os' ∧ ∀ b ∈ os', b ∈ os ∧ b ≠ a := by
  induction e with
  | nil => intro i ts h; simp at h
  | no e ih =>
    intro i ts h
    cases i with
    | zero => simp at h
    | succ i => obtain ⟨a, vs, os', h1, h2, h3, h4, h5⟩ := ih (i := i) (by simpa using h); exact ⟨a, vs, os', h1, h2, h3, .no h4, h5⟩
  | sh q e ih =>
    intro i ts h
    cases i with
    | zero => simp at h
    | succ i => obtain ⟨a, vs, os', h1, h2, h3, h4, h5⟩ := ih (i := i) (by simpa using h); exact ⟨a, vs, os', h1, h2, h3, .sh (q.mono (Sub.upd h3)) h4, h5⟩
  | @ol a0 vs0 ts0 σ τ os q1 q2 q3 q4 e ih =>
    intro i ts h
    cases i with
    | zero =>
      simp at h
      subst h
      refine ⟨a0, vs0, os, q1, List.mem_cons_self, q2, .sh (.lst upd_same (q3.mono (Sub.upd q2))) (e.mono (Sub.upd q2) (fun _ _ _ z => z) fun b hb => ?_), fun b hb => ⟨List.mem_cons_of_mem _ hb, mem_ne hb q4⟩⟩
      rw [upd_ne (mem_ne hb q4)]
      exact (e.own b hb).1
    | succ i =>
      obtain ⟨a, vs, os', h1, h2, h3, h4, h5⟩ := ih (i := i) (by simpa using h)
      refine ⟨a, vs, a0 :: os', h1, List.mem_cons_of_mem _ h2, h3, .ol q1 ?_ (q3.mono (Sub.upd h3)) (fun z => q4 (h5 _ z).1) h4, fun b hb => ?_⟩
      · rw [upd_ne (mem_ne h2 q4).symm]
        exact q2
      · rcases List.mem_cons.mp hb with rfl | hb
        · exact ⟨List.mem_cons_self, (mem_ne h2 q4).symm⟩
        · exact ⟨List.mem_cons_of_mem _ (h5 b hb).1, (h5 b hb).2⟩
  | @od a0 vs0 ts0 σ τ os q1 q2 q3 q4 e ih =>
    intro i ts h
    cases i with
    | zero => simp at h
    | succ i =>
      obtain ⟨a, vs, os', h1, h2, h3, h4, h5⟩ := ih (i := i) (by simpa using h)
      refine ⟨a, vs, a0 :: os', h1, List.mem_cons_of_mem _ h2, h3, .od q1 ?_ (q3.mono (Sub.upd h3)) (fun z => q4 (h5 _ z).1) h4, fun b hb => ?_⟩
      · rw [upd_ne (mem_ne h2 q4).symm]
        exact q2
      · rcases List.mem_cons.mp hb with rfl | hb
        · exact ⟨List.mem_cons_self, (mem_ne h2 q4).symm⟩
        · exact ⟨List.mem_cons_of_mem _ (h5 b hb).1, (h5 b hb).2⟩
theorem En.frz1D {os : List Addr} (e : En K G H σ τ os) : ∀ {i : Nat} {ts : List (Key × T)}, τ[i]? = some (.od ts) → ∃ a vs os', H a = some (.dK vs) ∧ a ∈ os ∧ G a = none ∧ En K (upd G a (.dK vs)) H σ (τ.set i (.sh (.dct ts))) os' ∧ ∀ b ∈ os', b ∈ os ∧ b ≠ a := by
  induction e with
  | nil => intro i ts h; simp at h
  | no e ih =>
    intro i ts h
    cases i with
    | zero => simp at h
    | succ i => obtain ⟨a, vs, os', h1, h2, h3, h4, h5⟩ := ih (i := i) (by simpa using h); exact ⟨a, vs, os', h1, h2, h3, .no h4, h5⟩
  | sh q e ih =>
    intro i ts h
    cases i with
    | zero => simp at h
    | succ i => obtain ⟨a, vs, os', h1, h2, h3, h4, h5⟩ := ih (i := i) (by simpa using h); exact ⟨a, vs, os', h1, h2, h3, .sh (q.mono (Sub.upd h3)) h4, h5⟩
  | @od a0 vs0 ts0 σ τ os q1 q2 q3 q4 e ih =>
    intro i ts h
    cases i with
    | zero =>
      simp at h
      subst h
      refine ⟨a0, vs0, os, q1, List.mem_cons_self, q2, .sh (.dct upd_same (q3.mono (Sub.upd q2))) (e.mono (Sub.upd q2) (fun _ _ _ z => z) fun b hb => ?_), fun b hb => ⟨List.mem_cons_of_mem _ hb, mem_ne hb q4⟩⟩
      rw [upd_ne (mem_ne hb q4)]
      exact (e.own b hb).1
    | succ i =>
      obtain ⟨a, vs, os', h1, h2, h3, h4, h5⟩ := ih (i := i) (by simpa using h)
      refine ⟨a, vs, a0 :: os', h1, List.mem_cons_of_mem _ h2, h3, .od q1 ?_ (q3.mono (Sub.upd h3)) (fun z => q4 (h5 _ z).1) h4, fun b hb => ?_⟩
      · rw [upd_ne (mem_ne h2 q4).symm]
        exact q2
      · rcases List.mem_cons.mp hb with rfl | hb
        · exact ⟨List.mem_cons_self, (mem_ne h2 q4).symm⟩
        · exact ⟨List.mem_cons_of_mem _ (h5 b hb).1, (h5 b hb).2⟩
  | @ol a0 vs0 ts0 σ τ os q1 q2 q3 q4 e ih =>
    intro i ts h
    cases i with
    | zero => simp at h
    | succ i =>
      obtain ⟨a, vs, os', h1, h2, h3, h4, h5⟩ := ih (i := i) (by simpa using h)
      refine ⟨a, vs, a0 :: os', h1, List.mem_cons_of_mem _ h2, h3, .ol q1 ?_ (q3.mono (Sub.upd h3)) (fun z => q4 (h5 _ z).1) h4, fun b hb => ?_⟩
      · rw [upd_ne (mem_ne h2 q4).symm]
        exact q2
      · rcases List.mem_cons.mp hb with rfl | hb
        · exact ⟨List.mem_cons_self, (mem_ne h2 q4).symm⟩
        · exact ⟨List.mem_cons_of_mem _ (h5 b hb).1, (h5 b hb).2⟩
/-- from here on slot i holds data -/
def frzAt (τ : List Sl) (i : Nat) : List Sl := match τ[i]? with
  | some (.ol ts) => τ.set i (.sh (.lst ts))
  | some (.od ts) => τ.set i (.sh (.dct ts))
  | _ => τ
theorem W2.frzAt (w : W2 K M G0 H0 G H σ τ) (i : Nat) : ∃ G', Sub G G' ∧ W2 K M G0 H0 G' H σ (frzAt τ i) := by
  obtain ⟨os, e, h⟩ := w.en
  unfold TL.frzAt
  split
  · rename_i ts ht
    obtain ⟨a, vs, os', h1, h2, h3, h4, h5⟩ := e.frz1 ht
    exact ⟨_, Sub.upd h3, ⟨os', h4, fun b hb => h b (h5 b hb).1⟩, w.go.data (h a h2) h1 h3⟩
  · rename_i ts ht
    obtain ⟨a, vs, os', h1, h2, h3, h4, h5⟩ := e.frz1D ht
    exact ⟨_, Sub.upd h3, ⟨os', h4, fun b hb => h b (h5 b hb).1⟩, w.go.data (h a h2) h1 h3⟩
  · exact ⟨G, .refl _, w⟩
def sFrz (i : Nat) (a : TSx) : TSx := fun τ k => a (frzAt τ i) k
theorem sims_frz (i : Nat) {t : TS} {a : TSx} (ha : SimS K M E t a) : SimS K M E t (sFrz i a) := fun G0 H0 ok τ k e σ G H w D d => by
  obtain ⟨G', h1, w'⟩ := w.frzAt i
  exact ha G0 H0 ok _ k e σ G' H w' D (d.mono h1)
end
end TL
namespace TL
open PySem PySem.Spec PyProof.Rows L2
/-! ### a rule of the layer and its reading by trees, together -/
structure GE (X : Cx) (M : Mode) (E : XK) (e : Expr) (te : TE) (g : TEx) : Prop where
  p : PE X e te
  s : SimE X.K M E te g
structure GT (X : Cx) (M : Mode) (E : XK) (e : Expr) (te : TT) (g : TTx) : Prop where
  p : PT X e te
  s : SimT X.K M E te g
structure GW (X : Cx) (M : Mode) (E : XK) (e : Expr) (te : TT) (g : TTx) : Prop where
  p : PW X e te
  s : SimT X.K M E te g
structure GTs (X : Cx) (M : Mode) (E : XK) (e : List Expr) (te : TT) (g : TTx) : Prop where
  p : PTs X e te
  s : SimT X.K M E te g
structure GA (X : Cx) (M : Mode) (E : XK) (e : List Expr) (te : TA) (g : TAx) : Prop where
  p : PA X e te
  s : SimA X.K M E te g
structure GK (X : Cx) (M : Mode) (E : XK) (e : List Keyword) (te : TA) (g : TAx) : Prop where
  p : PK X e te
  s : SimA X.K M E te g
structure GI (X : Cx) (M : Mode) (E : XK) (tg e : Expr) (te : TI) (g : TIx) : Prop where
  p : PI X tg e te
  s : SimI X.K M E te g
structure GG (X : Cx) (M : Mode) (is : List Nat) (e : Expr) (te : TG) (g : TGx) : Prop where
  p : PG X e te
  s : SimG X.K M is te g
structure GGs (X : Cx) (M : Mode) (is : List Nat) (e : List Expr) (te : TGs) (g : TGsx) : Prop where
  p : PGs X e te
  s : SimGs X.K M is te g
structure GO (X : Cx) (M : Mode) (E : XK) (e : Option Expr) (te : TO) (g : TOx) : Prop where
  p : PO X e te
  s : SimO X.K M E te g
structure GS (X : Cx) (M : Mode) (E : XK) (e : Stmt) (te : TS) (g : TSx) : Prop where
  p : PS X e te
  s : SimS X.K M E te g
structure GSs (X : Cx) (M : Mode) (E : XK) (e : List Stmt) (te : TS) (g : TSx) : Prop where
  p : PSs X e te
  s : SimS X.K M E te g
section
variable {X : Cx} {M : Mode} {E : XK} {a b c : Expr} {ta tb tc : TE} {ga gb gc : TEx} {pos : Pos}
/-- the name in the i-th slot -/
theorem ge_v (i : Nat) {x : Str} (hN : X.N[i]? = some x := by rfl) (hv : Vis X.env.scope x := by first | exact Or.inl rfl | exact Or.inr (Or.inl rfl) | exact Or.inr (Or.inr rfl)) (hd : (x == ("__debug__" : Str)) = false := by decide)
    (hcd : (x == ("__classdict__" : Str)) = false := by decide) : GE X M E (.Name x pos) (tVar i) (gVar i) := ⟨pe_var hN hv hd hcd, sim_var⟩
theorem ge_int {i : Int} {j} : GE X M E (.Constant (.int i) j pos) (tC (.int i)) (gC (.int i)) := ⟨pe_int, sim_int⟩
theorem ge_str {i : Str} {j} : GE X M E (.Constant (.str i) j pos) (tC (.str i)) (gC (.str i)) := ⟨pe_str, sim_str⟩
theorem ge_bl {i : Bool} {j} : GE X M E (.Constant (.bool i) j pos) (tC (.bl i)) (gC (.bl i)) := ⟨pe_bl, sim_bl⟩
theorem ge_non {j} : GE X M E (.Constant .none j pos) (tC .non) (gC .non) := ⟨pe_non, sim_non⟩
/-- a module's number, text -/
theorem ge_gint {x : Str} {i : Int} (hm : ∃ t, X.mg x = some (.int i t)) (hg : Gl X x := by rfl) (hd : (x == ("__debug__" : Str)) = false := by decide) : GE X M E (.Name x pos) (tC (.int i)) (gC (.int i)) :=
  let ⟨t, h⟩ := hm
  ⟨pe_glob hg h (v := .int i) ⟨t, rfl⟩ hd, sim_int⟩
theorem ge_gstr {x : Str} {i : Str} (hm : ∃ t, X.mg x = some (.str i t)) (hg : Gl X x := by rfl) (hd : (x == ("__debug__" : Str)) = false := by decide) : GE X M E (.Name x pos) (tC (.str i)) (gC (.str i)) :=
  let ⟨t, h⟩ := hm
  ⟨pe_glob hg h (v := .str i) ⟨t, rfl⟩ hd, sim_str⟩
/-- a built-in type as a value; a class of the module's -/
theorem ge_ty {x : Str} {n : String} (hm : X.mg x = none) (hv : bootBuiltins x = some (.type n) := by decide +kernel) (hg : Gl X x := by rfl) (hn : x ≠ "__name__" := by decide) (hd : (x == ("__debug__" : Str)) = false := by decide) : GE X M E (.Name x pos) (tC (.ty n)) (gC (.raw (.ty n))) :=
  ⟨pe_bltn hg hm hv rfl hn hd, sim_raw⟩
theorem ge_cls {x : Str} {C : Addr} (hm : X.mg x = some (.ref C)) (hg : Gl X x := by rfl) (hd : (x == ("__debug__" : Str)) = false := by decide) : GE X M E (.Name x pos) (tC (.ref C)) (gC (.raw (.ref C))) := ⟨pe_glob hg hm rfl hd, sim_raw⟩
/-- an operator: its rule by values, its rule by trees -/
theorem ge_bin {op : Operator} {r : R2} {g : GR2} (ho : OpR X (binaryOp op) r) (hr : SimR2 X.K M r g) (ha : GE X M E a ta ga) (hb : GE X M E b tb gb) : GE X M E (.BinOp a op b pos) (tOp r ta tb) (gOp g ga gb) := ⟨pe_op ho ha.p hb.p, sim_op hr ha.s hb.s⟩
theorem ge_cmp {op : CmpOp} {r : R2} {g : GR2} (ho : OpR X (compareOp op) r) (hr : SimR2 X.K M r g) (ha : GE X M E a ta ga) (hb : GE X M E b tb gb) (hm : behindInMarks op b = false := by first | rfl | exact nomark _) : GE X M E (.Compare a [op] [b] pos) (tOp r ta tb) (gOp g ga gb) := ⟨pe_cmpR ho ha.p hb.p hm, sim_op hr ha.s hb.s⟩
theorem gt_cmp {op : CmpOp} {r : R2} {g : GR2} (ho : OpR X (compareOp op) r) (hr : SimR2 X.K M r g) (ha : GE X M E a ta ga) (hb : GE X M E b tb gb) (hm : behindInMarks op b = false := by first | rfl | exact nomark _) : GT X M E (.Compare a [op] [b] pos) (tTest (tOp r ta tb)) (gB (gOp g ga gb)) := ⟨pt_cmpR ho ha.p hb.p hm, simt_test (sim_op hr ha.s hb.s)⟩
theorem ge_chain {op op' : CmpOp} {r r' : R2} {g g' : GR2} (ho : OpR X (compareOp op) r) (hr : SimR2 X.K M r g) (ho' : OpR X (compareOp op') r') (hr' : SimR2 X.K M r' g') (ha : GE X M E a ta ga) (hb : GE X M E b tb gb) (hc : GE X M E c tc gc) (hm : lastMarks [op, op'] [b, c] = false := by rfl) :
    GE X M E (.Compare a [op, op'] [b, c] pos) (tChain r r' ta tb tc) (gChain g g' ga gb gc) := ⟨pe_chain ho ho' ha.p hb.p hc.p (hm := hm), sim_chain hr hr' ha.s hb.s hc.s⟩
theorem gt_val (ha : GE X M E a ta ga) (he : ∀ whole, isTrue a X.env whole = (do let v ← whole; standAt a.pos; holding [v] (truthy v)) := by intro _; rfl) : GT X M E a (tB ta) (gB ga) := ⟨pt_val ha.p he, simt_B ha.s⟩
variable {tA tB' : TT} {gA gB' : TTx} {rest : List Expr}
theorem gw_and1 (ha : GT X M E a tA gA) : GW X M E (.BoolOp .And [a] pos) tA gA := ⟨pw_and1 ha.p, ha.s⟩
theorem gw_or1 (ha : GT X M E a tA gA) : GW X M E (.BoolOp .Or [a] pos) tA gA := ⟨pw_or1 ha.p, ha.s⟩
theorem gw_and (ha : GT X M E a tA gA) (hb : GW X M E (.BoolOp .And (b :: rest) pos) tB' gB') : GW X M E (.BoolOp .And (a :: b :: rest) pos) (tAnd tA tB') (gAnd gA gB') := ⟨pw_and ha.p hb.p, simt_and ha.s hb.s⟩
theorem gw_or (ha : GT X M E a tA gA) (hb : GW X M E (.BoolOp .Or (b :: rest) pos) tB' gB') : GW X M E (.BoolOp .Or (a :: b :: rest) pos) (tOr tA tB') (gOr gA gB') := ⟨pw_or ha.p hb.p, simt_or ha.s hb.s⟩
theorem GW.t {e : Expr} (h : GW X M E e tA gA) : GT X M E e tA gA := ⟨h.p.pt, h.s⟩
theorem gt_not (ha : GT X M E a tA gA) : GT X M E (.UnaryOp .Not a pos) (tNot tA) (gNot gA) := ⟨pt_not ha.p, simt_not ha.s⟩
theorem ge_one {op} (ha : GE X M E a ta ga) : GE X M E (.BoolOp op [a] pos) ta ga := ⟨pe_one ha.p, ha.s⟩
theorem ge_and (ha : GE X M E a ta ga) (hb : GE X M E (.BoolOp .And (b :: rest) pos) tb gb) : GE X M E (.BoolOp .And (a :: b :: rest) pos) (tAndV ta tb) (gAndV ga gb) := ⟨pe_and ha.p hb.p, sim_andV ha.s hb.s⟩
theorem ge_or (ha : GE X M E a ta ga) (hb : GE X M E (.BoolOp .Or (b :: rest) pos) tb gb) : GE X M E (.BoolOp .Or (a :: b :: rest) pos) (tOrV ta tb) (gOrV ga gb) := ⟨pe_or ha.p hb.p, sim_orV ha.s hb.s⟩
theorem ge_not (ha : GE X M E a ta ga) : GE X M E (.UnaryOp .Not a pos) (tNotV ta) (gNotV ga) := ⟨pe_not ha.p, sim_notV ha.s⟩
theorem ge_if {t : Expr} (hc : GT X M E t tA gA) (ha : GE X M E a ta ga) (hb : GE X M E b tb gb) : GE X M E (.IfExp t a b pos) (tIf tA ta tb) (gIf gA ga gb) := ⟨pe_ifExp hc.p ha.p hb.p, sim_if hc.s ha.s hb.s⟩
theorem ge_bor (ha : GE X M E a ta ga) : GE X M E a ta (gBor ga) := ⟨ha.p, sim_bor ha.s⟩
theorem gt_bor (ha : GT X M E a tA gA) : GT X M E a tA (gBorT gA) := ⟨ha.p, simt_bor ha.s⟩
variable {es : List Expr} {t : TA} {gt : TAx}
theorem ga_nil : GA X M E [] tNil aNil := ⟨pa_nil, sima_nil⟩
theorem ga_cons (ha : GE X M E a ta ga) (hr : GA X M E es t gt) (hs : starEach (a :: es) X.env = (false, eval a X.env) :: starEach es X.env := by rfl) : GA X M E (a :: es) (tCons ta t) (aCons ga gt) := ⟨pa_cons ha.p hr.p hs, sima_cons ha.s hr.s⟩
theorem gk_nil : GK X M E [] tNil aNil := ⟨pk_nil, sima_nil⟩
theorem gk_cons {nm : Option Str} {kpos : Pos} {kws : List Keyword} (ha : GE X M E a ta ga) (hr : GK X M E kws t gt) : GK X M E (⟨nm, a, kpos⟩ :: kws) (tCons ta t) (aCons ga gt) := ⟨pk_cons ha.p hr.p, sima_cons ha.s hr.s⟩
theorem ge_tup {n} (h : GA X M E es t gt) : GE X M E (.Tuple es n pos) (tTup t) (gTup gt) := ⟨pe_tup h.p, sim_tup h.s⟩
theorem ge_lst (h : GA X M E es t gt) : GE X M E (.List es pos) (tLst t) (gLst gt) := ⟨pe_lst h.p, sim_lst h.s⟩
variable {x : Str} {p : Pos} {id : String} {r : List V → Hp → VK → Prop} {g : GC}
theorem ge_callB (hc : CallR X (.builtin id) r) (hr : SimC X.K M r g) (hm : X.mg x = none) (ha : GA X M E (a :: es) t gt) (hv : bootBuiltins x = some (.builtin id) := by decide +kernel) (hg : Gl X x := by rfl) (hn : x ≠ "__name__" := by decide) (hdb : (x == ("__debug__" : Str)) = false := by decide)
    (he : starEach (a :: es) X.env = (false, eval a X.env) :: starEach es X.env := by rfl) (hpl : (backTo pos (starEach es X.env)).any (·.1) = false := by rfl) : GE X M E (.Call (.Name x p) (a :: es) [] pos) (tCB r t) (gCB g gt) := ⟨pe_callB hc hg hm hv ha.p hn hdb he hpl, sim_CB hr ha.s⟩
theorem ge_callTy (hc : CallR X (.type id) r) (hr : SimC X.K M r g) (hm : X.mg x = none) (ha : GA X M E (a :: es) t gt) (hv : bootBuiltins x = some (.type id) := by decide +kernel) (hg : Gl X x := by rfl) (hn : x ≠ "__name__" := by decide) (hdb : (x == ("__debug__" : Str)) = false := by decide)
    (he : starEach (a :: es) X.env = (false, eval a X.env) :: starEach es X.env := by rfl) (hpl : (backTo pos (starEach es X.env)).any (·.1) = false := by rfl) : GE X M E (.Call (.Name x p) (a :: es) [] pos) (tCB r t) (gCB g gt) := ⟨pe_callTy hc hg hm hv ha.p hn hdb he hpl, sim_CB hr ha.s⟩
/-- a def of the text -/
theorem ge_call {CX : CXT} {k : Nat} {f : Addr} {fd : FuncData} {ps : List Str} {sp : SpX} (F : FnOk X.prog X.w X.K X.mg X.base CX k f fd ps (lift X.K sp)) (hr : Room k X.A) (hm : X.mg x = some (.ref f)) (hk : PySem.W.keepIn X.K (.ref f) = true) (hb : Binds X.K fd ps []) (hx : Passes CX X E) (ha : GA X M E (a :: es) t gt)
    (hg : Gl X x := by rfl) (hdb : (x == ("__debug__" : Str)) = false := by decide) (he : starEach (a :: es) X.env = (false, eval a X.env) :: starEach es X.env := by rfl) (hpl : (backTo pos (starEach es X.env)).any (·.1) = false := by rfl) :
    GE X M E (.Call (.Name x p) (a :: es) [] pos) (tCall (lift X.K sp) [] E t) (gCall M sp gt) := ⟨pe_call F hr hg hm hk hb .nil hx ha.p hdb he hpl, sim_call ha.s⟩
/-- a comprehension of one clause; own: its names and their slots -/
abbrev BlkT (α : Type) : Type := Shared → Hp → Addr → List (Str × Addr) → List Addr → α
/-- the reading of a block's part, which hangs on nothing of the block's entry -/
def BlkT.at {α : Type} (t : BlkT α) (s : Shared) : α := t s (fun _ => none) 0 [] []
def BlkT.Same {α : Type} (t : BlkT α) (s : Shared) : Prop := ∀ s' H C cl fp, t s' H C cl fp = t.at s
theorem ge_lc {elt tg iter : Expr} {ifs : List Expr} {scope : Scope} (own : List (Str × Nat)) {wi : TI} {g : BlkT TG} {tt : BlkT TT} {te : BlkT TE} {is : List Nat} {gi : TIx} {gg : TGx} {gtt : TTx} {ge : TEx} (hc : X.calm = true) (hN : X.N.Nodup) (hi : GI X M E tg iter wi gi) (ok : BlkOk X.N X.env.scope scope own)
    (hg : ∀ (s : Shared) (H : Hp) (C : Addr) (cl : List (Str × Addr)) (fp : List Addr), GG (X.blk s H scope (compEnvC scope cl C X.env) fp) M is tg (g s H C cl fp) gg) (ht : ∀ (s : Shared) (H : Hp) (C : Addr) (cl : List (Str × Addr)) (fp : List Addr), GTs (X.blk s H scope (compEnvC scope cl C X.env) fp) M L2.E0 ifs (tt s H C cl fp) gtt)
    (he : ∀ (s : Shared) (H : Hp) (C : Addr) (cl : List (Str × Addr)) (fp : List Addr), GE (X.blk s H scope (compEnvC scope cl C X.env) fp) M L2.E0 elt (te s H C cl fp) ge) (s0 : Shared) (hv : ∀ i ∈ is, i ∈ own.map (·.2) := by decide) (hs : ∀ x, foldedSetIterable iter X.env x = pure x := by intro _; rfl)
    (sg : BlkT.Same g s0 := by exact fun _ _ _ _ _ => rfl) (st : BlkT.Same tt s0 := by exact fun _ _ _ _ _ => rfl) (se : BlkT.Same te s0 := by exact fun _ _ _ _ _ => rfl) :
    GE X M E (.ListComp elt [⟨tg, iter, ifs, 0⟩] scope pos) (tLc wi (g.at s0) (tt.at s0) (te.at s0) (own.map (·.2))) (gLc (own.map (·.2)) gi gg gtt ge) :=
  ⟨pe_lc hc hN hi.p ok (fun s H C cl fp => sg s H C cl fp ▸ (hg s H C cl fp).p) (fun s H C cl fp => st s H C cl fp ▸ (ht s H C cl fp).p) (fun s H C cl fp => se s H C cl fp ▸ (he s H C cl fp).p) hs,
    sim_lc hi.s (hg s0 (fun _ => none) 0 [] []).s (ht s0 (fun _ => none) 0 [] []).s (he s0 (fun _ => none) 0 [] []).s hv⟩
/-! ### walked things, targets, parts of slices -/
theorem gts_nil : GTs X M E [] tYes gYes := ⟨pts_nil, simt_yes⟩
theorem gts_one (h : GT X M E c tA gA) : GTs X M E [c] tA gA := ⟨pts_one h.p, h.s⟩
theorem gi_seq {tg : Expr} (ha : GE X M E a ta ga) : GI X M E tg a (iSeq X.K ta) (iWalk ga) := ⟨pi_seq ha.p, simi_seq ha.s⟩
theorem gi_range1 {tg : Expr} (hm : X.mg "range" = none) (ha : GA X M E [a] t gt) (hg : Gl X "range" := by rfl) (hs : starEach [a] X.env = [(false, eval a X.env)] := by rfl) : GI X M E tg (.Call (.Name "range" p) [a] [] pos) (iRng1 t) (iR1 gt) := ⟨pi_range1 hg hm ha.p hs, simi_range1 ha.s⟩
theorem gi_range2 {tg : Expr} (hm : X.mg "range" = none) (ha : GA X M E [a, b] t gt) (hg : Gl X "range" := by rfl) (hs : starEach [a, b] X.env = [(false, eval a X.env), (false, eval b X.env)] := by rfl) (hs2 : starEach [b] X.env = [(false, eval b X.env)] := by rfl) : GI X M E tg (.Call (.Name "range" p) [a, b] [] pos) (iRng2 t) (iR2 gt) := ⟨pi_range2 hg hm ha.p hs hs2, simi_range2 ha.s⟩
theorem gg_name (i : Nat) {y : Str} (hN : X.N.Nodup) (hi : X.N[i]? = some y := by rfl) (hx : Loc X.env.scope y := by first | exact Or.inl rfl | exact Or.inr rfl) (hf : X.fn y = true ∨ X.env.scope.names.lookup y = some .local := by first | exact .inl rfl | exact .inr rfl) : GG X M [i] (.Name y pos) (gName i) (xName i) := ⟨pg_name hN hi hx hf, simg_name⟩
theorem ggs_nil : GGs X M [] [] gNil xsNil := ⟨pgs_nil, simgs_nil⟩
theorem ggs_cons {e : Expr} {is js : List Nat} {t : TG} {u : TGs} {gx : TGx} {gy : TGsx} (h1 : GG X M is e t gx) (h2 : GGs X M js es u gy) (hs : (assignEach (e :: es) X.env).map (·.2) = assign e X.env :: (assignEach es X.env).map (·.2) := by rfl) : GGs X M (is ++ js) (e :: es) (gCons t u) (xsCons gx gy) := ⟨pgs_cons h1.p h2.p hs, simgs_cons h1.s h2.s⟩
theorem gg_tup {k n : Nat} {is : List Nat} {t : TGs} {gx : TGsx} (hc : X.calm = true) (h : GGs X M is es t gx) (hn : (assignEach es X.env).length = n := by rfl) (hst : (assignEach es X.env).findIdx? (·.1) = none := by rfl) : GG X M is (.Tuple es k pos) (L2.gTup X.K n t) (xTup n gx) := ⟨pg_tup hc h.p hn hst, simg_tup h.s⟩
def oNo : TOx := fun _ q _ => q none
def isI (t : T) (k : Int → Prop) : Prop := match t with
  | .int i => k i
  | _ => False
def oSome (a : TEx) : TOx := fun τ q r => a τ (fun s => isI s.fz fun i => q (some i)) r
theorem go_none : GO X M E none tNoPart oNo := ⟨po_none, fun τ q r e σ G H w Q hq _ => hq none G H (.refl w.ok) e⟩
theorem go_some (ha : GE X M E a ta ga) : GO X M E (some a) (tPart ta) (oSome ga) := ⟨po_some ha.p, fun τ q r e σ G H w Q hq hx => ha.s.data e w (fun v G1 H1 s g1 i e1 => by
  cases hs : s.fz with
  | int j =>
    rw [hs] at e1 i
    cases i
    exact ⟨j, rfl, hq (some j) G1 H1 g1 e1⟩
  | _ => rw [hs] at e1; exact e1.elim) hx⟩
/-- a slice -/
def SimSl (K : PySem.W.Frag) (M : Mode) (r : V → Option Int → Option Int → Hp → VK → Prop) (g : T → Option Int → Option Int → (Sl → Prop) → Prop) : Prop :=
  ∀ t lo hi q, g t lo hi q → ∀ x G H, Is K G x t → Ok M G H → ∀ Q : VK, (∀ v s G' H', Go M G H G' H' → Rs K G H G' H' v s → q s → Q v H') → r x lo hi H Q
def gSli (g : T → Option Int → Option Int → (Sl → Prop) → Prop) (a : TEx) (lo hi : TOx) : TEx := fun τ q r => a τ (fun s => lo τ (fun l => hi τ (fun u => g s.fz l u q) r) r) r
theorem ge_slice {rr : V → Option Int → Option Int → Hp → VK → Prop} {g : T → Option Int → Option Int → (Sl → Prop) → Prop} {lo hi : Option Expr} {tl th : TO} {gl gh : TOx} {p2 : Pos} (hp : SlR X rr) (hr : SimSl X.K M rr g) (ha : GE X M E a ta ga) (hl : GO X M E lo tl gl) (hh : GO X M E hi th gh) :
    GE X M E (.Subscript a (.Slice lo hi none p2) pos) (tSl rr ta tl th) (gSli g ga gl gh) := ⟨pe_slice hp ha.p hl.p hh.p, fun τ q r e σ G H w Q hq hx => ha.s.data e w (fun v G1 H1 s g1 i e1 =>
      hl.s τ _ r e1 σ G1 H1 (w.go g1) _ (fun l G2 H2 g2 e2 => hh.s τ _ r e2 σ G2 H2 ((w.go g1).go g2) _ (fun u G3 H3 g3 e3 => hr s.fz l u q e3 v G3 H3 ((i.mono g2.gg).mono g3.gg) (((w.ok.go g1).go g2).go g3) Q fun v s' G4 H4 g4 rs qs => hq v s' G4 H4 (((g1.trans g2).trans g3).trans g4) (rs.early ((g1.trans g2).trans g3)) qs) ((hx.go g1).go g2)) (hx.go g1)) hx⟩
theorem ge_ix {rr : R2} {g : GR2} (hp : IxR X rr) (hr : SimR2 X.K M rr g) (ha : GE X M E a ta ga) (hb : GE X M E b tb gb) (hs : PlainIx b := by exact fun _ _ => rfl) : GE X M E (.Subscript a b pos) (tOp rr ta tb) (gOp g ga gb) := ⟨pe_ix hp ha.p hb.p hs, sim_op hr ha.s hb.s⟩
/-- methods of built-in types -/
theorem ge_bm {ty id : String} {name : Str} {rr : V → List V → Hp → VK → Prop} {g : GM} {apos : Pos} (pa : PlainAttrs ty) (slot : Slot ty name id) (hty : typeOf (.builtin id) = pure (.type "method_descriptor")) (hm : MtR X id rr) (hr : SimM X.K M ty rr g) (hT : ∀ t ts q, g t ts q → ∀ x G H, Is X.K G x t → Ok M G H → tyV X.K ty x H)
    (ho : GE X M E a ta ga) (ha : GA X M E (b :: es) t gt) (hbase : attributeBase a name X.env (eval a X.env) = eval a X.env := by rfl)
    (hfew : ((backTo pos (starEach (b :: es) X.env)).all (fun x => !x.1) && (backToKw pos (keywordEach [] X.env)).all (fun x => x.1.isSome) && decide ((b :: es).length + ([] : List Keyword).length + (if ([] : List Keyword).isEmpty then 0 else 1) < 30)) = true := by rfl)
    (hline : (apos.endLine == pos.line) = true := by rfl) (hs : starEach (b :: es) X.env = (false, eval b X.env) :: starEach es X.env := by rfl) (hplain : (backTo pos (starEach es X.env)).any (·.1) = false := by rfl) :
    GE X M E (.Call (.Attribute a name apos) (b :: es) [] pos) (tBM X.K ty rr ta t) (gBM g ga gt) := ⟨pe_bm pa slot hty hm ho.p ha.p hbase hfew hline hs hplain, sim_BM hT hr ho.s ha.s⟩
theorem ge_bm0 {ty id : String} {name : Str} {rr : V → List V → Hp → VK → Prop} {g : GM} {apos : Pos} (pa : PlainAttrs ty) (slot : Slot ty name id) (hty : typeOf (.builtin id) = pure (.type "method_descriptor")) (hm : MtR X id rr) (hr : SimM X.K M ty rr g) (ho : GE X M E a ta ga)
    (hbase : attributeBase a name X.env (eval a X.env) = eval a X.env := by rfl) (hline : (apos.endLine == pos.line) = true := by rfl) : GE X M E (.Call (.Attribute a name apos) [] [] pos) (tBM0 X.K ty rr ta) (gBM0 g ga) := ⟨pe_bm0 pa slot hty hm ho.p hbase hline, sim_BM0 hr ho.s⟩
/-! ### statements -/
variable {st : Stmt} {sts sts' : List Stmt} {ts tu : TS} {gs gu : TSx}
theorem gss_nil : GSs X M E [] tNext sNext := ⟨pss_nil, sims_next⟩
theorem gss_one (h : GS X M E st ts gs) : GSs X M E [st] ts gs := ⟨pss_one h.p, h.s⟩
theorem gss_cons (h : GS X M E st ts gs) (h2 : GSs X M E sts tu gu) : GSs X M E (st :: sts) (tSeq ts tu) (sSeq gs gu) := ⟨pss_cons h.p h2.p, sims_seq h.s h2.s⟩
theorem gs_pass : GS X M E (.Pass pos) tNext sNext := ⟨ps_pass, sims_next⟩
theorem gs_brk : GS X M E (.Break pos) tBreak sBrk := ⟨ps_break, sims_brk⟩
theorem gs_cnt : GS X M E (.Continue pos) tCont sCnt := ⟨ps_continue, sims_cnt⟩
theorem gs_set (i : Nat) {y : Str} {pos' : Pos} (hN : X.N.Nodup) (he : GE X M E a ta ga) (hi : X.N[i]? = some y := by rfl) (hx : Loc X.env.scope y := by first | exact Or.inl rfl | exact Or.inr rfl) (hs : swapsWith a (some (.Name y pos')) pos.line X.env = pure false := by rfl)
    (hf : X.fn y = true ∨ X.env.scope.names.lookup y = some .local := by first | exact .inl rfl | exact .inr rfl) : GS X M E (.Assign [.Name y pos'] a pos) (tAsg ta (gName i)) (sSet i ga) := ⟨ps_set hN hi hx he.p hs hf, sims_set he.s⟩
/-- y = [..], y a plain local name -/
theorem gs_setLc (i : Nat) {y : Str} {py spos : Pos} {elt tg iter : Expr} {ifs : List Expr} {scope : Scope} (own : List (Str × Nat)) {wi : TI} {g : BlkT TG} {tt : BlkT TT} {te : BlkT TE} {is : List Nat} {gi : TIx} {gg : TGx} {gtt : TTx} {ge : TEx} (hc : X.calm = true) (hN : X.N.Nodup) (hi : GI X M E tg iter wi gi) (ok : BlkOk X.N X.env.scope scope own)
    (hg : ∀ (s : Shared) (H : Hp) (C : Addr) (cl : List (Str × Addr)) (fp : List Addr), GG (X.blk s H scope (compEnvC scope cl C X.env) fp) M is tg (g s H C cl fp) gg) (ht : ∀ (s : Shared) (H : Hp) (C : Addr) (cl : List (Str × Addr)) (fp : List Addr), GTs (X.blk s H scope (compEnvC scope cl C X.env) fp) M L2.E0 ifs (tt s H C cl fp) gtt)
    (he : ∀ (s : Shared) (H : Hp) (C : Addr) (cl : List (Str × Addr)) (fp : List Addr), GE (X.blk s H scope (compEnvC scope cl C X.env) fp) M L2.E0 elt (te s H C cl fp) ge) (s0 : Shared) (hv : ∀ i ∈ is, i ∈ own.map (·.2) := by decide) (hy : X.N[i]? = some y := by rfl) (hyl : X.env.scope.names.lookup y = some .local := by rfl)
    (hsw : swapsWith (.ListComp elt [⟨tg, iter, ifs, 0⟩] scope pos) (some (.Name y py)) spos.line X.env = pure true := by exact sw_true rfl rfl rfl (by decide +kernel)) (hs : ∀ x, foldedSetIterable iter X.env x = pure x := by intro _; rfl)
    (sg : BlkT.Same g s0 := by exact fun _ _ _ _ _ => rfl) (st : BlkT.Same tt s0 := by exact fun _ _ _ _ _ => rfl) (se : BlkT.Same te s0 := by exact fun _ _ _ _ _ => rfl) :
    GS X M E (.Assign [.Name y py] (.ListComp elt [⟨tg, iter, ifs, 0⟩] scope pos) spos) (tAsg (tLc wi (g.at s0) (tt.at s0) (te.at s0) (own.map (·.2))) (gName i)) (sSet i (gLc (own.map (·.2)) gi gg gtt ge)) :=
  ⟨ps_setLc hc hN hy hyl hsw hi.p ok (fun s H C cl fp => sg s H C cl fp ▸ (hg s H C cl fp).p) (fun s H C cl fp => st s H C cl fp ▸ (ht s H C cl fp).p) (fun s H C cl fp => se s H C cl fp ▸ (he s H C cl fp).p) hs,
    sims_set (sim_lc hi.s (hg s0 (fun _ => none) 0 [] []).s (ht s0 (fun _ => none) 0 [] []).s (he s0 (fun _ => none) 0 [] []).s hv)⟩
theorem gs_asg {tg : Expr} {is : List Nat} {tgt : TG} {g : TGx} (he : GE X M E a ta ga) (hg : GG X M is tg tgt g) (hs : swapsWithSole [tg] a pos.line X.env = pure false := by rfl) (hw : swappedStores [tg] a X.env = pure none := by rfl) (h1 : (assignEach [tg] X.env).map (·.2) = [assign tg X.env] := by rfl) :
    GS X M E (.Assign [tg] a pos) (tAsg ta tgt) (sAsg ga g) := ⟨ps_asg he.p hg.p hs hw h1, sims_asg he.s hg.s⟩
theorem gs_if (hc : GT X M E c tA gA) (ha : GSs X M E sts ts gs) (hb : GSs X M E sts' tu gu) : GS X M E (.If c sts sts' pos) (tIfS tA ts tu) (sIf gA gs gu) := ⟨ps_if hc.p ha.p hb.p, sims_if hc.s ha.s hb.s⟩
theorem gs_ret (he : GE X M E a ta ga) : GS X M E (.Return (some a) pos) (tRet ta) (sRet ga) := ⟨ps_ret he.p, sims_ret he.s⟩
theorem gs_retN : GS X M E (.Return none pos) tRetN sRetN := ⟨ps_retN, sims_retN⟩
/-- a value handed back, own lists as they are: the names and the ifs of a return -/
structure GR (X : Cx) (M : Mode) (E : XK) (e : Expr) (te : TE) (g : TSx) : Prop where
  p : PE X e te
  s : SimS X.K M E (tRet te) g
theorem gr_v (i : Nat) {x : Str} (hN : X.N[i]? = some x := by rfl) (hv : Vis X.env.scope x := by first | exact Or.inl rfl | exact Or.inr (Or.inl rfl) | exact Or.inr (Or.inr rfl)) (hd : (x == ("__debug__" : Str)) = false := by decide)
    (hcd : (x == ("__classdict__" : Str)) = false := by decide) : GR X M E (.Name x pos) (tVar i) (sRetV i) := ⟨pe_var hN hv hd hcd, sims_retV⟩
theorem gr_e (h : GE X M E a ta ga) : GR X M E a ta (sRet ga) := ⟨h.p, sims_ret h.s⟩
theorem gr_if {t : Expr} {ga gb : TSx} (hc : GT X M E t tA gA) (ha : GR X M E a ta ga) (hb : GR X M E b tb gb) : GR X M E (.IfExp t a b pos) (tIf tA ta tb) (sIf gA ga gb) := ⟨pe_ifExp hc.p ha.p hb.p, sims_retIf hc.s ha.s hb.s⟩
theorem gs_retR {ga : TSx} (h : GR X M E a ta ga) : GS X M E (.Return (some a) pos) (tRet ta) ga := ⟨ps_ret h.p, h.s⟩
theorem gs_expr (he : GE X M E a ta ga) (hs : swapsWith a none pos.line X.env = pure false := by rfl) : GS X M E (.Expr a pos) (tDrop ta) (sDrop ga) := ⟨ps_expr he.p hs, sims_drop he.s⟩
/-- x.append(e), x in the i-th slot -/
theorem gs_app (i : Nat) {x : Str} {p1 p2 cpos : Pos} (he : GE X M E a ta ga) (hN : X.N[i]? = some x := by rfl) (hv : Vis X.env.scope x := by first | exact Or.inl rfl | exact Or.inr (Or.inl rfl) | exact Or.inr (Or.inr rfl))
    (hd : (x == ("__debug__" : Str)) = false := by decide) (hcd : (x == ("__classdict__" : Str)) = false := by decide) (hbase : attributeBase (.Name x p1) "append" X.env (eval (.Name x p1) X.env) = eval (.Name x p1) X.env := by rfl)
    (hfew : ((backTo cpos (starEach [a] X.env)).all (fun x => !x.1) && (backToKw cpos (keywordEach [] X.env)).all (fun x => x.1.isSome) && decide (([a] : List Expr).length + ([] : List Keyword).length + (if ([] : List Keyword).isEmpty then 0 else 1) < 30)) = true := by rfl)
    (hline : (p2.endLine == cpos.line) = true := by rfl) (hs : starEach [a] X.env = (false, eval a X.env) :: starEach [] X.env := by rfl) (hplain : (backTo cpos (starEach [] X.env)).any (·.1) = false := by rfl)
    (hsw : swapsWith (.Call (.Attribute (.Name x p1) "append" p2) [a] [] cpos) none pos.line X.env = pure false := by rfl) :
    GS X M E (.Expr (.Call (.Attribute (.Name x p1) "append" p2) [a] [] cpos) pos) (tDrop (tBM X.K "list" rAppend (tVar i) (tCons ta tNil))) (sApp i ga) :=
  ⟨ps_expr (pe_bm PySem.F.plainAttrs_list PySem.F.slot_list_append PySem.F.type_list_append mt_append (pe_var hN hv hd hcd) (pa_cons he.p pa_nil hs) hbase hfew hline hs hplain) hsw, sims_app he.s⟩
theorem gs_for {tg iter : Expr} {wi : TI} {gi : TIx} {is : List Nat} {tgt : TG} {g : TGx} (hp : PassesOwn (model X.prog X.w) X.A X.env X.xe) (hc : X.calm = true) (hi : GI X M E tg iter wi gi) (hg : GG X M is tg tgt g) (hb : GSs X M E sts ts gs) (hs : ∀ x, foldedSetIterable iter X.env x = pure x := by intro _; rfl) :
    GS X M E (.For tg iter sts [] pos) (tFor wi tgt ts) (sFor gi g gs) := ⟨ps_for hp hc hi.p hg.p hb.p hs, sims_for hi.s hg.s hb.s⟩
theorem gs_while (hp : PassesOwn (model X.prog X.w) X.A X.env X.xe) (hc : GT X M E c tA gA) (hb : GSs X M E sts ts gs) : GS X M E (.While c sts [] pos) (tWhile tA ts) (sWhile gA gs) := ⟨ps_while hp hc.p hb.p, sims_while hc.s hb.s⟩
theorem gs_frz (i : Nat) (h : GS X M E st ts gs) : GS X M E st ts (sFrz i gs) := ⟨h.p, sims_frz i h.s⟩
/-- raise C('..'), C an own class without own __init__ -/
theorem gs_raise {C : Addr} {x m : Str} {j : Nat} {p p2 p3 : Pos} (hc : X.calm = true) (tk : Takes X (fun cls d _ H => E cls d H)) (q : PySem.W.excIn X.K C [.type "ValueError", .type "Exception", .type "BaseException", .type "object"] "ValueError.__new__" = true)
    (gC : X.mg x = some (.ref C)) (kC : PySem.W.keepIn X.K (.ref C) = true) (bC : PySem.W.subIn X.K (.ref C) (.type "BaseException") = some true) (tC : PySem.W.typeIn X.K (.ref C) = some (.type "type")) (hg : Gl X x := by rfl) (hd : (x == ("__debug__" : Str)) = false := by decide) :
    GS X M E (.Raise (some (.Call (.Name x p) [.Constant (.str m) j p2] [] p3)) none pos) (fun _ _ H => E (.ref C) none H) (sRaise C) := ⟨ps_raise hc tk (pmk_own PySem.F.excBase_ValueError q gC kC (raises_own bC tC) hg hd), sims_raise⟩
end
/-! ### a def -/
def startS (N : List Str) (ts : List T) : List Sl := ts.map .sh ++ List.replicate (N.length - ts.length) .no
theorem en_start {K : PySem.W.Frag} {G H : Hp} {N : List Str} {vs : List V} {ts : List T} (h : IsAll K G vs ts) : En K G H (L2.start N vs) (startS N ts) [] := by
  unfold L2.start startS
  rw [h.length]
  generalize N.length - ts.length = n
  induction h using IsAll.rec (motive_1 := fun _ _ _ => True) (motive_3 := fun _ _ _ => True) with
  | nil =>
    induction n with
    | zero => exact .nil
    | succ n ih => exact .no ih
  | cons i r ih1 ih2 => exact .sh i ih2
  | _ => trivial
def KnOf (q : Sl → Prop) (r : Xn → Prop) : Kn := { nx := fun _ => q (.sh .non), rt := q, ex := r }
section
variable {P : Program} {w : World} {K : PySem.W.Frag} {mg : Str → Option Value} {base : Heap} {x qual : Str} {params : Arguments} {body : List Stmt} {scope : Scope} {f : Addr} {fd : FuncData}
theorem mk_fn {N ps : List Str} {k : Nat} {sp : SpX} (F : FunD K x qual params body scope [] [] f fd) (S : FnScope N ps scope) (hl : ∀ M ts q r, sp M ts q r → ts.length = ps.length)
    (hbody : ∀ (cdv : Value) (A : Around) (outer : List Env) (s : Shared) (H : Hp) (E : XK) (M : Mode), Room k (A.deeper (envOfC qual scope s.heap.objs.size f cdv)) →
      ∃ t g, GSs (cxOf (L2.CX P w) P w K mg base N qual scope f cdv A outer s H E) M E body t g ∧ ∀ ts q r, sp M ts q r → g (startS N ts) (KnOf q r)) : FnOk P w K mg base (L2.CX P w) (k + 1) f fd ps (lift K sp) := by
  refine F.ok S (fun vs H Q E ⟨M, G, ts, q, r, _, i, hs, _⟩ => by rw [i.length]; exact hl M ts q r hs) fun cdv A outer s H vs Q E hr ⟨M, G, ts, q, r, ok, i, hs, hq, hx⟩ => ?_
  obtain ⟨t, g, hp, hg⟩ := hbody cdv A outer s H E M hr
  refine ⟨t, hp.p, hp.s G H ok (startS N ts) (KnOf q r) (hg ts q r hs) (L2.start N vs) G H ⟨⟨[], en_start i, fun _ h => nomatch h⟩, .refl ok⟩ _ ⟨?_, hq, fun _ _ _ _ _ _ h => h.elim, fun _ _ _ _ _ _ h => h.elim, hx⟩⟩
  exact fun σ τ G1 H1 w1 _ z => hq .non (.sh .non) G1 H1 w1.go .non z
end
end TL
namespace TL
open PySem PySem.Spec PyProof.Rows L2
/-! ### the operators, by trees -/
section
variable {X : Cx} {K : PySem.W.Frag} {M : Mode}
theorem CallR.or {f : Value} {r r' : List V → Hp → VK → Prop} (h : CallR X f r) (h' : CallR X f r') : CallR X f (fun xs H Q => r xs H Q ∨ r' xs H Q) := fun pins s σ H xs us Q I rx q => q.elim (h pins s σ H xs us Q I rx) (h' pins s σ H xs us Q I rx)
theorem OpR.or' {f : Value → Value → Sem Value} {r r' : R2} (h : OpR X f r) (h' : OpR X f r') : OpR X f (fun x y H Q => r x y H Q ∨ r' x y H Q) := fun pins s σ H x y v u Q I rx ry q => q.elim (h pins s σ H x y v u Q I rx ry) (h' pins s σ H x y v u Q I rx ry)
/-- a + b -/
def gAdd : GR2 := fun a b q => match a, b with
  | .int i, .int j => q (.sh (.int (i + j)))
  | .str x, .str y => x.length + y.length ≤ sizeLine ∧ q (.sh (.str (x ++ y)))
  | .lst xs, .lst ys => xs.length + ys.length ≤ sizeLine ∧ q (.ol (xs ++ ys))
  | .tup xs, .tup ys => xs.length + ys.length ≤ sizeLine ∧ q (.sh (.tup (xs ++ ys)))
  | _, _ => False
def rAddU (K : PySem.W.Frag) : R2 := fun x y H Q => rI0 (fun i j => .int (i + j)) x y H Q ∨ ((∃ i j, x = .str i ∧ y = .str j ∧ i.length + j.length ≤ sizeLine ∧ Q (.str (i ++ j)) H) ∨ (rCat x y H Q ∨ rCatA K x y H Q))
theorem op_addU : OpR X (binaryOp .Add) (rAddU X.K) := OpR.or' op_add (OpR.or' op_add_str (OpR.or' op_cat op_catA))
theorem simr_add : SimR2 K M (rAddU K) gAdd := fun tx ty q e x y G H ix iy ok Q hq => by
  unfold gAdd at e
  split at e
  · cases ix; cases iy
    exact .inl ⟨_, _, rfl, rfl, hq _ (.sh _) G H (.refl ok) .int e⟩
  · cases ix; cases iy
    exact .inr (.inl ⟨_, _, rfl, rfl, e.1, hq _ (.sh _) G H (.refl ok) .str e.2⟩)
  · cases ix with
    | lst h1 i1 =>
      cases iy with
      | lst h2 i2 =>
        refine .inr (.inr (.inl ⟨_, _, _, _, rfl, rfl, ok.sub _ _ h1, ok.sub _ _ h2, by rw [i1.length, i2.length]; exact e.1, fun p hp => ?_⟩))
        obtain ⟨g, r⟩ := ol_new ok hp (i1.append i2)
        exact hq _ _ _ _ g r e.2
  · cases ix with
    | tup h1 i1 =>
      cases iy with
      | tup h2 i2 =>
        refine .inr (.inr (.inr ⟨_, _, _, _, rfl, rfl, ok.sub.sqT h1, ok.sub.sqT h2, by rw [i1.length, i2.length]; exact e.1, fun z => ?_, fun _ z => ?_, fun _ _ p hp => ?_⟩))
        · subst z
          cases i1
          exact hq _ (.sh _) G H (.refl ok) (.tup h2 i2) e.2
        · subst z
          cases i2
          have e2 := e.2
          rw [List.append_nil] at e2
          exact hq _ (.sh _) G H (.refl ok) (.tup h1 i1) e2
        · obtain ⟨g, r⟩ := tup_new ok hp (i1.append i2)
          exact hq _ (.sh _) _ _ g r e.2
  · exact e.elim
def gSub : GR2 := gI fun i j => .int (i - j)
theorem simr_sub : SimR2 K M (rI0 fun i j => .int (i - j)) gSub := simr_I0 fun _ _ _ => .int
/-- a * b -/
def mulS (x : Str) (n : Nat) : Str := if n < 1 then Str.empty else if (n == 1 || x.length == 0) = true then x else ⟨(List.replicate n x.cps).foldl (· ++ ·) #[]⟩
theorem op_mul_str : OpR X (binaryOp .Mult) (fun x y H Q => ∃ (z : Str) (n : Nat), x = .str z ∧ y = .int n ∧ n ≤ 1000 ∧ z.length ≤ 1000 ∧ Q (.str (mulS z n)) H) := by
  intro pins s σ H x y v u Q I rx ry h
  obtain ⟨z, n, rfl, rfl, h1, h2, q⟩ := h
  obtain ⟨t, rfl⟩ := rx
  obtain ⟨t', rfl⟩ := ry
  have fin : ∀ tk tok, EP X pins σ Q (.str (mulS z n) tk) { s with toks := tok } := fun tk tok => ⟨.str _, H, I.tok _, ⟨_, rfl⟩, q⟩
  have hm : z.length * n ≤ 1000000 := Nat.mul_le_mul h2 h1
  refine PySem.P.mul_str ?_ (fun h3 _ => ?_) (fun h3 _ => ?_) ?_
  · rw [decide_eq_false (by omega), decide_eq_false (by omega)] <;> rfl
  · have hn : (0 : Int) < n := by omega
    have h4 : (n : Int) ≤ 1000 := by omega
    have h5 : (9223372036854775 : Int) ≤ (2 ^ 63 - 1) / (n : Int) := by
      refine (Int.le_ediv_iff_mul_le hn).mpr ?_
      have : 9223372036854775 * (n : Int) ≤ 9223372036854775 * 1000 := Int.mul_le_mul_of_nonneg_left h4 (by decide)
      omega
    omega
  · have e : (n : Int).toNat = n := by simp
    rw [e]
    have hs : (z.length * n) ≤ sizeLine := Nat.le_trans hm (by decide)
    show decide (_ > _) = false
    simpa using hs
  · have e : (n : Int).toNat = n := by simp
    unfold mulS at fin
    by_cases c1 : n < 1
    · rw [if_pos (by omega)]
      rw [if_pos c1] at fin
      exact ⟨by decide, fin _ _⟩
    · rw [if_neg (by omega)]
      rw [if_neg c1] at fin
      have e2 : (((n : Int) == 1) || z.length == 0) = (n == 1 || z.length == 0) := by
        congr 1
        rw [Bool.eq_iff_iff]
        simp
        omega
      rw [e2]
      cases c2 : (n == 1 || z.length == 0)
      · rw [if_neg (by decide), e]
        rw [c2, if_neg (by decide)] at fin
        refine ⟨?_, fin _ _⟩
        have hl : ∀ (m : Nat) (acc : Array Nat), ((List.replicate m z.cps).foldl (· ++ ·) acc).size = acc.size + m * z.cps.size := by
          intro m
          induction m with
          | zero => intro acc; simp
          | succ m ih => intro acc; rw [List.replicate_succ, List.foldl_cons, ih, Array.size_append, Nat.succ_mul]; omega
        show ((List.replicate n z.cps).foldl (· ++ ·) #[]).size ≤ sizeLine
        rw [hl]
        have : n * z.cps.size ≤ 1000 * 1000 := Nat.mul_le_mul h1 h2
        have hs : (1000 * 1000 : Nat) ≤ sizeLine := by decide
        simp only [Array.size_empty]
        omega
      · rw [if_pos rfl]
        rw [c2, if_pos rfl] at fin
        exact fin _ _
def gMul : GR2 := fun a b q => match a, b with
  | .int i, .int j => CMul i j ∧ q (.sh (.int (i * j)))
  | .str z, .int n => (0 ≤ n ∧ n ≤ 1000 ∧ z.length ≤ 1000) ∧ q (.sh (.str (mulS z n.toNat)))
  | .lst xs, .int n => (0 ≤ n ∧ n ≤ 100000 ∧ xs.length * n.toNat ≤ sizeLine) ∧ q (.ol (List.replicate n.toNat xs).flatten)
  | _, _ => False
def rMulU : R2 := fun x y H Q => rI CMul (fun i j => .int (i * j)) x y H Q ∨ ((∃ (z : Str) (n : Nat), x = .str z ∧ y = .int n ∧ n ≤ 1000 ∧ z.length ≤ 1000 ∧ Q (.str (mulS z n)) H) ∨ rRep x y H Q)
theorem op_mulU : OpR X (binaryOp .Mult) rMulU := OpR.or' op_mul (OpR.or' op_mul_str op_rep)
theorem simr_mul : SimR2 K M rMulU gMul := fun tx ty q e x y G H ix iy ok Q hq => by
  unfold gMul at e
  split at e
  · cases ix; cases iy
    exact .inl ⟨_, _, rfl, rfl, e.1, hq _ (.sh _) G H (.refl ok) .int e.2⟩
  · rename_i z n
    cases ix; cases iy
    obtain ⟨⟨h0, h1, h2⟩, e⟩ := e
    have en : ((n.toNat : Nat) : Int) = n := by omega
    exact .inr (.inl ⟨z, n.toNat, rfl, by rw [en], by omega, h2, hq _ (.sh _) G H (.refl ok) .str e⟩)
  · cases ix with
    | lst h1 i1 =>
      cases iy
      obtain ⟨⟨h0, h3, h2⟩, e⟩ := e
      refine .inr (.inr ⟨_, _, _, rfl, rfl, ok.sub _ _ h1, by omega, by omega, by rw [i1.length]; exact h2, fun p hp => ?_⟩)
      obtain ⟨g, r⟩ := ol_new ok hp (i1.flat (n := Int.toNat _))
      exact hq _ _ _ _ g r e
  · exact e.elim
def gMod : GR2 := gI2 (fun _ j => 0 < j) fun i j => .int (i % j)
theorem simr_mod : SimR2 K M (rI (fun _ j => 0 < j) fun i j => .int (i % j)) gMod := simr_I fun _ _ _ => .int
def gDiv : GR2 := gI2 CDiv fun i j => .int (i / j)
theorem simr_div : SimR2 K M (rI CDiv fun i j => .int (i / j)) gDiv := simr_I fun _ _ _ => .int
def gPow : GR2 := gI2 CPow fun i j => .int (i ^ j.toNat)
theorem simr_pow : SimR2 K M (rI CPow fun i j => .int (i ^ j.toNat)) gPow := simr_I fun _ _ _ => .int
/-! ### data: ==, in, repr -/
end
mutual
def T.py : T → Option PyData
  | .non => some .none
  | .bl b => some (.bool b)
  | .int i => some (.int i)
  | .str x => some (.str x)
  | .lst xs => (pyAll xs).map .list
  | .fls xs => (pyAll xs).map .list
  | .tup xs => (pyAll xs).map .tuple
  | _ => none
def pyAll : List T → Option (List PyData)
  | [] => some []
  | t :: ts => match t.py, pyAll ts with
    | some d, some ds => some (d :: ds)
    | _, _ => none
end
mutual
theorem Is.dp {K : PySem.W.Frag} {G H : Hp} (s : Sub G H) : ∀ {v : V} {t : T} {d : PyData}, Is K G v t → t.py = some d → Dp K H v d
  | _, _, _, .non, e => by simp only [T.py] at e; cases e; exact .non
  | _, _, _, .bl, e => by simp only [T.py] at e; cases e; exact .bl _
  | _, _, _, .int, e => by simp only [T.py] at e; cases e; exact .int _
  | _, _, _, .str, e => by simp only [T.py] at e; cases e; exact .str _
  | _, _, _, .lst h r, e => by
    simp only [T.py] at e
    obtain ⟨ds, h1, rfl⟩ := Option.map_eq_some_iff.mp e
    exact .lst (SqL.of (s _ _ h)) (r.dp s h1)
  | _, _, _, .fls h r, e => by
    simp only [T.py] at e
    obtain ⟨ds, h1, rfl⟩ := Option.map_eq_some_iff.mp e
    exact .lst (s.sqL h) (r.dp s h1)
  | _, _, _, .tup h r, e => by
    simp only [T.py] at e
    obtain ⟨ds, h1, rfl⟩ := Option.map_eq_some_iff.mp e
    exact .tup (s.sqT h) (r.dp s h1)
  | _, _, _, .dct _ _, e => by simp only [T.py] at e; cases e
  | _, _, _, .raw, e => by simp only [T.py] at e; cases e
  | _, _, _, .ob _, e => by simp only [T.py] at e; cases e
theorem IsAll.dp {K : PySem.W.Frag} {G H : Hp} (s : Sub G H) : ∀ {vs : List V} {ts : List T} {ds : List PyData}, IsAll K G vs ts → pyAll ts = some ds → DpAll K H vs ds
  | _, _, _, .nil, e => by simp only [pyAll] at e; cases e; exact .nil
  | _, _, _, .cons (t := t) (ts := ts) h r, e => by
    simp only [pyAll] at e
    cases h1 : t.py with
    | none => simp only [h1] at e; cases e
    | some d =>
      cases h2 : pyAll ts with
      | none => simp only [h1, h2] at e; cases e
      | some ds => simp only [h1, h2] at e; cases e; exact .cons (h.dp s h1) (r.dp s h2)
end
section
variable {X : Cx} {K : PySem.W.Frag} {M : Mode}
/-- two plain values -/
def scl2 : T → T → Option Bool
  | .non, .non => some true
  | .int i, .int j => some (decide (i = j))
  | .bl i, .bl j => some (decide (i = j))
  | .str i, .str j => some (decide (i = j))
  | .non, .int _ | .int _, .non | .non, .bl _ | .bl _, .non | .non, .str _ | .str _, .non | .int _, .str _ | .str _, .int _ | .bl _, .str _ | .str _, .bl _ => some false
  | _, _ => none
def eqD (a b : T) (k : Bool → Prop) : Prop := match scl2 a b with
  | some c => k c
  | none => match a.py, b.py with
    | some d, some e => SeqAt.shaped d = true ∧ SeqAt.shaped e = true ∧ k (PyData.eqv d e)
    | _, _ => False
theorem scl2_ok {K : PySem.W.Frag} {G : Hp} {x y : V} {a b : T} {c : Bool} (h : scl2 a b = some c) (ix : Is K G x a) (iy : Is K G y b) : scal x y = true ∧ decide (x = y) = c := by
  unfold scl2 at h
  split at h <;> first
    | (cases h; cases ix; cases iy; exact ⟨rfl, by first | decide | simp⟩)
    | cases h
def gEq : GR2 := fun a b q => eqD a b fun c => q (.sh (.bl c))
def gNe : GR2 := fun a b q => eqD a b fun c => q (.sh (.bl (!c)))
def rEqU (K : PySem.W.Frag) : R2 := fun x y H Q => rEq x y H Q ∨ rEqD K x y H Q
def rNeU (K : PySem.W.Frag) : R2 := fun x y H Q => rNe x y H Q ∨ rNeD K x y H Q
theorem op_eqU (hu : X.A.units + 64 < cLine) : OpR X (compareOp .Eq) (rEqU X.K) := OpR.or' op_eq (op_eqD hu)
theorem op_neU (hu : X.A.units + 64 < cLine) : OpR X (compareOp .NotEq) (rNeU X.K) := OpR.or' op_ne (op_neD hu)
theorem simr_eq : SimR2 K M (rEqU K) gEq := fun tx ty q e x y G H ix iy ok Q hq => by
  unfold gEq eqD at e
  split at e
  · rename_i c hc
    obtain ⟨h1, h2⟩ := scl2_ok hc ix iy
    exact .inl ⟨h1, hq _ (.sh (.bl _)) G H (.refl ok) .bl (by rw [h2]; exact e)⟩
  · split at e
    · rename_i d d' h1 h2
      exact .inr ⟨d, d', ix.dp ok.sub h1, iy.dp ok.sub h2, e.1, e.2.1, hq _ (.sh (.bl _)) G H (.refl ok) .bl e.2.2⟩
    · exact e.elim
theorem simr_ne : SimR2 K M (rNeU K) gNe := fun tx ty q e x y G H ix iy ok Q hq => by
  unfold gNe eqD at e
  split at e
  · rename_i c hc
    obtain ⟨h1, h2⟩ := scl2_ok hc ix iy
    exact .inl ⟨h1, hq _ (.sh (.bl _)) G H (.refl ok) .bl (by rw [h2]; exact e)⟩
  · split at e
    · rename_i d d' h1 h2
      exact .inr ⟨d, d', ix.dp ok.sub h1, iy.dp ok.sub h2, e.1, e.2.1, hq _ (.sh (.bl _)) G H (.refl ok) .bl e.2.2⟩
    · exact e.elim
/-- order: ints, texts -/
def gLt : GR2 := fun a b q => match a, b with
  | .int i, .int j => q (.sh (.bl (decide (i < j))))
  | .str i, .str j => q (.sh (.bl (decide (i.cps.toList < j.cps.toList))))
  | _, _ => False
def gLe : GR2 := fun a b q => match a, b with
  | .int i, .int j => q (.sh (.bl (decide (i ≤ j))))
  | .str i, .str j => q (.sh (.bl (!decide (j.cps.toList < i.cps.toList))))
  | _, _ => False
def gGt : GR2 := fun a b q => gLt b a q
def gGe : GR2 := fun a b q => gLe b a q
def rLtU : R2 := fun x y H Q => rI0 (fun i j => .bl (decide (i < j))) x y H Q ∨ ∃ i j, x = .str i ∧ y = .str j ∧ Q (.bl (decide (i.cps.toList < j.cps.toList))) H
def rLeU : R2 := fun x y H Q => rI0 (fun i j => .bl (decide (i ≤ j))) x y H Q ∨ ∃ i j, x = .str i ∧ y = .str j ∧ Q (.bl (!decide (j.cps.toList < i.cps.toList))) H
def rGtU : R2 := fun x y H Q => rI0 (fun i j => .bl (decide (j < i))) x y H Q ∨ ∃ i j, x = .str i ∧ y = .str j ∧ Q (.bl (decide (j.cps.toList < i.cps.toList))) H
def rGeU : R2 := fun x y H Q => rI0 (fun i j => .bl (decide (j ≤ i))) x y H Q ∨ ∃ i j, x = .str i ∧ y = .str j ∧ Q (.bl (!decide (i.cps.toList < j.cps.toList))) H
theorem op_ltU : OpR X (compareOp .Lt) rLtU := OpR.or' op_lt op_lt_str
theorem op_leU : OpR X (compareOp .LtE) rLeU := OpR.or' op_le op_le_str
theorem op_gtU : OpR X (compareOp .Gt) rGtU := OpR.or' op_gt op_gt_str
theorem op_geU : OpR X (compareOp .GtE) rGeU := OpR.or' op_ge op_ge_str
theorem simr_lt : SimR2 K M rLtU gLt := fun tx ty q e x y G H ix iy ok Q hq => by
  unfold gLt at e
  split at e
  · cases ix; cases iy; exact .inl ⟨_, _, rfl, rfl, hq _ (.sh _) G H (.refl ok) .bl e⟩
  · cases ix; cases iy; exact .inr ⟨_, _, rfl, rfl, hq _ (.sh _) G H (.refl ok) .bl e⟩
  · exact e.elim
theorem simr_le : SimR2 K M rLeU gLe := fun tx ty q e x y G H ix iy ok Q hq => by
  unfold gLe at e
  split at e
  · cases ix; cases iy; exact .inl ⟨_, _, rfl, rfl, hq _ (.sh _) G H (.refl ok) .bl e⟩
  · cases ix; cases iy; exact .inr ⟨_, _, rfl, rfl, hq _ (.sh _) G H (.refl ok) .bl e⟩
  · exact e.elim
theorem simr_gt : SimR2 K M rGtU gGt := fun tx ty q e x y G H ix iy ok Q hq => by
  unfold gGt gLt at e
  split at e
  · cases ix; cases iy; exact .inl ⟨_, _, rfl, rfl, hq _ (.sh _) G H (.refl ok) .bl e⟩
  · cases ix; cases iy; exact .inr ⟨_, _, rfl, rfl, hq _ (.sh _) G H (.refl ok) .bl e⟩
  · exact e.elim
theorem simr_ge : SimR2 K M rGeU gGe := fun tx ty q e x y G H ix iy ok Q hq => by
  unfold gGe gLe at e
  split at e
  · cases ix; cases iy; exact .inl ⟨_, _, rfl, rfl, hq _ (.sh _) G H (.refl ok) .bl e⟩
  · cases ix; cases iy; exact .inr ⟨_, _, rfl, rfl, hq _ (.sh _) G H (.refl ok) .bl e⟩
  · exact e.elim
/-- x is None, x is not None -/
def T.isN : T → Option Bool
  | .non => some true
  | .raw _ => none
  | _ => some false
def gIsN : GR2 := fun a b q => match b with
  | .non => oks a.isN fun c => q (.sh (.bl c))
  | _ => False
def gNotN : GR2 := fun a b q => match b with
  | .non => oks a.isN fun c => q (.sh (.bl (!c)))
  | _ => False
theorem isN_ok {G : Hp} {x : V} {a : T} {c : Bool} (i : Is K G x a) (h : a.isN = some c) : decide (x = .non) = c := by
  cases i <;> simp only [T.isN] at h <;> first
    | (cases h; done)
    | (cases h; rfl)
    | (injection h with h; subst h; simp)
theorem simr_isN : SimR2 K M (fun x y H Q => y = .non ∧ Q (.bl (decide (x = .non))) H) gIsN := fun tx ty q e x y G H ix iy ok Q hq => by
  unfold gIsN at e
  split at e
  · cases iy
    obtain ⟨c, h, e⟩ := oks_cases e
    exact ⟨rfl, hq _ (.sh (.bl _)) G H (.refl ok) .bl (by rw [isN_ok ix h]; exact e)⟩
  · exact e.elim
theorem simr_notN : SimR2 K M (fun x y H Q => y = .non ∧ Q (.bl (!decide (x = .non))) H) gNotN := fun tx ty q e x y G H ix iy ok Q hq => by
  unfold gNotN at e
  split at e
  · cases iy
    obtain ⟨c, h, e⟩ := oks_cases e
    exact ⟨rfl, hq _ (.sh (.bl _)) G H (.refl ok) .bl (by rw [isN_ok ix h]; exact e)⟩
  · exact e.elim
/-- a sign in a text -/
def gInS : GR2 := fun a b q => match a, b with
  | .str x, .str z => oks (match x.cps.toList with | [c] => some c | _ => none) fun c => q (.sh (.bl (decide (c ∈ z.cps.toList))))
  | _, _ => False
def gNotInS : GR2 := fun a b q => match a, b with
  | .str x, .str z => oks (match x.cps.toList with | [c] => some c | _ => none) fun c => q (.sh (.bl (!decide (c ∈ z.cps.toList))))
  | _, _ => False
theorem one_sign {x : Str} {c : Nat} (h : (match x.cps.toList with | [c] => some c | _ => none) = some c) : x = ⟨#[c]⟩ := by
  split at h
  · rename_i d hd
    cases h
    obtain ⟨a⟩ := x
    congr 1
    apply Array.toList_inj.mp
    simpa using hd
  · cases h
theorem simr_inS : SimR2 K M (fun x y H Q => ∃ (c : Nat) (z : Str), x = .str ⟨#[c]⟩ ∧ y = .str z ∧ Q (.bl (decide (c ∈ z.cps.toList))) H) gInS := fun tx ty q e x y G H ix iy ok Q hq => by
  unfold gInS at e
  split at e
  · cases ix; cases iy
    obtain ⟨c, h, e⟩ := oks_cases e
    exact ⟨c, _, by rw [one_sign h], rfl, hq _ (.sh (.bl _)) G H (.refl ok) .bl e⟩
  · exact e.elim
theorem simr_notInS : SimR2 K M (fun x y H Q => ∃ (c : Nat) (z : Str), x = .str ⟨#[c]⟩ ∧ y = .str z ∧ Q (.bl (!decide (c ∈ z.cps.toList))) H) gNotInS := fun tx ty q e x y G H ix iy ok Q hq => by
  unfold gNotInS at e
  split at e
  · cases ix; cases iy
    obtain ⟨c, h, e⟩ := oks_cases e
    exact ⟨c, _, by rw [one_sign h], rfl, hq _ (.sh (.bl _)) G H (.refl ok) .bl e⟩
  · exact e.elim
end
end TL
namespace TL
open PySem PySem.Spec PyProof.Rows L2
section
variable {X : Cx} {K : PySem.W.Frag} {M : Mode}
/-! ### built-ins -/
/-- a value's type by name -/
def T.tyN : T → Option String
  | .non => some "NoneType" | .bl _ => some "bool" | .int _ => some "int" | .str _ => some "str"
  | .lst _ => some "list" | .fls _ => some "list" | .tup _ => some "tuple" | .dct _ => some "dict"
  | _ => none
theorem Rd.tyL {H : Hp} {a : Addr} {xs : List V} (h : SqL K H a xs) : TyX K H (.ref a) (.type "list") := by
  rcases h with (h | ⟨o, h⟩) | ⟨o, _, _, h, c, _⟩
  · exact .base (.lst h)
  · exact .base (.frz h)
  · exact .kList h c
theorem Rd.tyT {H : Hp} {a : Addr} {xs : List V} (h : SqT K H a xs) : TyX K H (.ref a) (.type "tuple") := by
  rcases h with (h | ⟨o, h⟩) | ⟨o, _, _, h, c, _⟩
  · exact .base (.tup h)
  · exact .fTuple h
  · exact .kTuple h c
theorem Is.tyX {G H : Hp} (s : Sub G H) {x : V} {t : T} {n : String} (i : Is K G x t) (h : t.tyN = some n) : TyX K H x (.type n) := by
  cases i with
  | non => cases h; exact .base .non
  | bl => cases h; exact .base (.bl _)
  | int => cases h; exact .base (.int _)
  | str => cases h; exact .base (.str _)
  | lst g _ => cases h; exact .base (.lst (s _ _ g))
  | fls g _ => cases h; exact Rd.tyL (s.sqL g)
  | tup g _ => cases h; exact Rd.tyT (s.sqT g)
  | dct g _ => cases h; exact .base (.dK (s _ _ g))
  | raw => cases h
  | ob _ => cases h
def kitsB (a : String) : List String → Option Bool
  | [] => some false
  | c :: cs => match kitB a c with
    | some true => some true
    | some false => kitsB a cs
    | none => none
theorem kitsB_ok {a : String} : ∀ {cs : List String} {b : Bool}, kitsB a cs = some b → PySem.W.kitAny K (.type a) (cs.map .type) = some b
  | [], b, h => by cases h; rfl
  | c :: cs, b, h => by
    unfold kitsB at h
    cases hk : kitB a c with
    | none => rw [hk] at h; cases h
    | some d =>
      rw [hk] at h
      cases d with
      | true => cases h; exact kitAny_cons (kit_ty hk) (fun z => nomatch z) fun _ => rfl
      | false => exact kitAny_cons (kit_ty hk) (fun _ => kitsB_ok h) fun z => nomatch z
/-- isinstance(x, T), a built-in type -/
def isiB (t c : T) : Option Bool := match t.tyN with
  | none => none
  | some a => match c with
    | .raw (.ty n) => kitB a n
    | _ => none
def gIsi : GC := fun ts q => match ts with
  | [t, c] => oks (isiB t c) fun b => q (.sh (.bl b))
  | _ => False
theorem simc_isi : SimC K M (rIsi K) gIsi := fun ts q e vs G H i ok Q hq => by
  unfold gIsi at e
  split at e
  · rename_i t c
    obtain ⟨b, hb, e'⟩ := oks_cases e
    cases i with
    | cons i1 i =>
      cases i with
      | cons i2 i =>
        cases i
        unfold isiB at hb
        split at hb
        · cases hb
        · rename_i a ha
          split at hb
          · cases i2
            exact ⟨_, _, _, _, b, rfl, .ty _, i1.tyX ok.sub ha, kit_ty hb, hq _ (.sh _) G H (.refl ok) .bl e'⟩
          · cases hb
  · exact e.elim
/-- isinstance(x, (T, ..)), the types written there -/
def tyArgs : List String → TA
  | [] => tNil
  | n :: ns => tCons (tC (.ty n)) (tyArgs ns)
theorem tyArgs_run {σ : L2.St} {H : Hp} : ∀ {ns : List String} {Q : List V → Hp → Prop}, Q (ns.map V.ty) H → tyArgs ns σ H Q
  | [], _, h => h
  | n :: ns, Q, h => tyArgs_run (ns := ns) (Q := fun xs H2 => Q (.ty n :: xs) H2) h
theorem clsTys : ∀ ns : List String, Paired ClsV (ns.map V.ty) (ns.map Value.type)
  | [] => .nil
  | n :: ns => .cons (.ty n) (clsTys ns)
def gIsiT (ns : List String) (a : TEx) : TEx := fun τ q r => a τ (fun s => oks (s.fz.tyN.bind fun t => kitsB t ns) fun b => q (.sh (.bl b))) r
theorem sim_isiT {E : XK} {te : TE} {a : TEx} {ns : List String} (hn : ns.length ≤ 100) (ha : SimE K M E te a) : SimE K M E (tCB (rIsiT K) (tCons te (tCons (tTup (tyArgs ns)) tNil))) (gIsiT ns a) := fun τ q r e σ G H w Q hq hx =>
  ha.data e w (fun v G1 H1 s g1 i e1 => by
    obtain ⟨b, hb, e1⟩ := oks_cases e1
    obtain ⟨n, hn1, hn2⟩ := Option.bind_eq_some_iff.mp hb
    refine tyArgs_run (ns := ns) ⟨by rw [List.length_map]; exact Nat.le_trans hn (by decide), fun p hp => ?_⟩
    have g2 : Go M G1 H1 G1 (upd H1 p (.tup (ns.map V.ty))) := .lay (w.ok.go g1) hp
    exact ⟨v, p, _, _, _, b, rfl, upd_same, clsTys ns, i.tyX g2.sub hn1, kitsB_ok hn2, hq _ (.sh (.bl b)) _ _ (g1.trans g2) .bl e1⟩) hx
/-- the types' answers -/
theorem kit_str_str : kitB "str" "str" = some true := by decide +kernel
theorem kit_list_str : kitB "list" "str" = some false := by decide +kernel
theorem kit_tuple_str : kitB "tuple" "str" = some false := by decide +kernel
theorem kit_int_str : kitB "int" "str" = some false := by decide +kernel
theorem kit_bool_str : kitB "bool" "str" = some false := by decide +kernel
theorem kit_none_str : kitB "NoneType" "str" = some false := by decide +kernel
theorem kit_dict_str : kitB "dict" "str" = some false := by decide +kernel
theorem kit_str_list : kitB "str" "list" = some false := by decide +kernel
theorem kit_list_list : kitB "list" "list" = some true := by decide +kernel
theorem kit_tuple_list : kitB "tuple" "list" = some false := by decide +kernel
theorem kit_int_list : kitB "int" "list" = some false := by decide +kernel
theorem kit_bool_list : kitB "bool" "list" = some false := by decide +kernel
theorem kit_none_list : kitB "NoneType" "list" = some false := by decide +kernel
theorem kit_dict_list : kitB "dict" "list" = some false := by decide +kernel
theorem kit_str_tuple : kitB "str" "tuple" = some false := by decide +kernel
theorem kit_list_tuple : kitB "list" "tuple" = some false := by decide +kernel
theorem kit_tuple_tuple : kitB "tuple" "tuple" = some true := by decide +kernel
theorem kit_int_tuple : kitB "int" "tuple" = some false := by decide +kernel
theorem kit_bool_tuple : kitB "bool" "tuple" = some false := by decide +kernel
theorem kit_none_tuple : kitB "NoneType" "tuple" = some false := by decide +kernel
theorem kit_dict_tuple : kitB "dict" "tuple" = some false := by decide +kernel
theorem kit_str_int : kitB "str" "int" = some false := by decide +kernel
theorem kit_list_int : kitB "list" "int" = some false := by decide +kernel
theorem kit_tuple_int : kitB "tuple" "int" = some false := by decide +kernel
theorem kit_int_int : kitB "int" "int" = some true := by decide +kernel
theorem kit_bool_int : kitB "bool" "int" = some true := by decide +kernel
theorem kit_none_int : kitB "NoneType" "int" = some false := by decide +kernel
theorem kit_dict_int : kitB "dict" "int" = some false := by decide +kernel
theorem kit_str_bool : kitB "str" "bool" = some false := by decide +kernel
theorem kit_list_bool : kitB "list" "bool" = some false := by decide +kernel
theorem kit_tuple_bool : kitB "tuple" "bool" = some false := by decide +kernel
theorem kit_int_bool : kitB "int" "bool" = some false := by decide +kernel
theorem kit_bool_bool : kitB "bool" "bool" = some true := by decide +kernel
theorem kit_none_bool : kitB "NoneType" "bool" = some false := by decide +kernel
theorem kit_dict_bool : kitB "dict" "bool" = some false := by decide +kernel
theorem kit_str_dict : kitB "str" "dict" = some false := by decide +kernel
theorem kit_list_dict : kitB "list" "dict" = some false := by decide +kernel
theorem kit_tuple_dict : kitB "tuple" "dict" = some false := by decide +kernel
theorem kit_int_dict : kitB "int" "dict" = some false := by decide +kernel
theorem kit_bool_dict : kitB "bool" "dict" = some false := by decide +kernel
theorem kit_none_dict : kitB "NoneType" "dict" = some false := by decide +kernel
theorem kit_dict_dict : kitB "dict" "dict" = some true := by decide +kernel
/-- truths of a list -/
def blAll : List T → Option (List Bool)
  | [] => some []
  | .bl b :: ts => (blAll ts).map (b :: ·)
  | _ => none
theorem blAll_ok {G : Hp} : ∀ {ts : List T} {vs : List V} {bs : List Bool}, IsAll K G vs ts → blAll ts = some bs → vs = bs.map V.bl
  | _, _, _, .nil, h => by simp only [blAll] at h; cases h; rfl
  | _, _, _, .cons (t := t) i r, h => by
    cases t with
    | bl b =>
      simp only [blAll] at h
      obtain ⟨cs, h1, rfl⟩ := Option.map_eq_some_iff.mp h
      cases i
      rw [blAll_ok r h1] <;> rfl
    | _ => simp [blAll] at h
theorem blAll_map {α : Type} (f : α → Bool) : ∀ l : List α, blAll (l.map fun a => .bl (f a)) = some (l.map f)
  | [] => rfl
  | a :: l => by simp only [List.map_cons, blAll, blAll_map f l]; rfl
def gAll : GC := fun ts q => match ts with
  | [.lst xs] => oks (blAll xs) fun bs => q (.sh (.bl (bs.all id)))
  | _ => False
def gAny : GC := fun ts q => match ts with
  | [.lst xs] => oks (blAll xs) fun bs => q (.sh (.bl (bs.any id)))
  | _ => False
theorem simc_all : SimC K M (rAll K) gAll := fun ts q e vs G H i ok Q hq => by
  unfold gAll at e
  split at e
  · obtain ⟨b, hb, e⟩ := oks_cases e
    cases i with
    | cons i1 i =>
      cases i
      cases i1 with
      | lst h r =>
        have z := blAll_ok r hb
        subst z
        exact ⟨_, b, rfl, SqL.of (ok.sub _ _ h), hq _ (.sh _) G H (.refl ok) .bl e⟩
  · exact e.elim
theorem simc_any : SimC K M (rAny K) gAny := fun ts q e vs G H i ok Q hq => by
  unfold gAny at e
  split at e
  · obtain ⟨b, hb, e⟩ := oks_cases e
    cases i with
    | cons i1 i =>
      cases i
      cases i1 with
      | lst h r =>
        have z := blAll_ok r hb
        subst z
        exact ⟨_, b, rfl, SqL.of (ok.sub _ _ h), hq _ (.sh _) G H (.refl ok) .bl e⟩
  · exact e.elim
def gLen : GC := fun ts q => match ts with
  | [.str z] => z.length ≤ sizeLine ∧ q (.sh (.int z.length))
  | [.lst xs] => q (.sh (.int xs.length))
  | [.fls xs] => q (.sh (.int xs.length))
  | [.tup xs] => q (.sh (.int xs.length))
  | _ => False
theorem simc_len : SimC K M (fun xs H Q => ∃ x n, xs = [x] ∧ LenV K x H n ∧ Q (.int n) H) gLen := fun ts q e vs G H i ok Q hq => by
  unfold gLen at e
  split at e
  · cases i with
    | cons i1 i => cases i; cases i1; exact ⟨_, _, rfl, ⟨e.1, rfl⟩, hq _ (.sh _) G H (.refl ok) .int e.2⟩
  · cases i with
    | cons i1 i =>
      cases i
      cases i1 with
      | lst h r => exact ⟨_, _, rfl, .inl ⟨_, SqL.of (ok.sub _ _ h), rfl⟩, by rw [r.length]; exact hq _ (.sh _) G H (.refl ok) .int e⟩
  · cases i with
    | cons i1 i =>
      cases i
      cases i1 with
      | fls h r => exact ⟨_, _, rfl, .inl ⟨_, ok.sub.sqL h, rfl⟩, by rw [r.length]; exact hq _ (.sh _) G H (.refl ok) .int e⟩
  · cases i with
    | cons i1 i =>
      cases i
      cases i1 with
      | tup h r => exact ⟨_, _, rfl, .inr ⟨_, ok.sub.sqT h, rfl⟩, by rw [r.length]; exact hq _ (.sh _) G H (.refl ok) .int e⟩
  · exact e.elim
def gInt1 : GC := fun ts q => match ts with
  | [.int i] => q (.sh (.int i))
  | [.bl b] => q (.sh (.int (if b then 1 else 0)))
  | _ => False
theorem simc_int : SimC K M (fun xs H Q => (∃ i, xs = [.int i] ∧ Q (.int i) H) ∨ ∃ k, xs = [.bl k] ∧ Q (.int (if k then 1 else 0)) H) gInt1 := fun ts q e vs G H i ok Q hq => by
  unfold gInt1 at e
  split at e
  · cases i with
    | cons i1 i => cases i; cases i1; exact .inl ⟨_, rfl, hq _ (.sh _) G H (.refl ok) .int e⟩
  · cases i with
    | cons i1 i => cases i; cases i1; exact .inr ⟨_, rfl, hq _ (.sh _) G H (.refl ok) .int e⟩
  · exact e.elim
def gAbs : GC := fun ts q => match ts with
  | [.int i] => q (.sh (.int (if i < 0 then -i else i)))
  | _ => False
theorem simc_abs : SimC K M (fun xs H Q => ∃ i, xs = [.int i] ∧ Q (.int (if i < 0 then -i else i)) H) gAbs := fun ts q e vs G H i ok Q hq => by
  unfold gAbs at e
  split at e
  · cases i with
    | cons i1 i => cases i; cases i1; exact ⟨_, rfl, hq _ (.sh _) G H (.refl ok) .int e⟩
  · exact e.elim
def gMin2 : GC := fun ts q => match ts with
  | [.int i, .int j] => q (.sh (.int (if j < i then j else i)))
  | _ => False
theorem simc_min2 : SimC K M (fun xs H Q => ∃ i j, xs = [.int i, .int j] ∧ Q (.int (if j < i then j else i)) H) gMin2 := fun ts q e vs G H i ok Q hq => by
  unfold gMin2 at e
  split at e
  · cases i with
    | cons i1 i =>
      cases i with
      | cons i2 i => cases i; cases i1; cases i2; exact ⟨_, _, rfl, hq _ (.sh _) G H (.refl ok) .int e⟩
  · exact e.elim
/-- tuple(..), list(..) -/
def gTupleOf : GC := fun ts q => match ts with
  | [.lst xs] => q (.sh (.tup xs))
  | [.fls xs] => q (.sh (.tup xs))
  | [.tup xs] => q (.sh (.tup xs))
  | _ => False
theorem simc_tuple : SimC K M (fun xs H Q => ∃ p ys, xs = [.ref p] ∧ ((SqL K H p ys ∧ ∀ l, H l = none → Q (.ref l) (upd H l (.tup ys))) ∨ (SqT K H p ys ∧ Q (.ref p) H))) gTupleOf := fun ts q e vs G H i ok Q hq => by
  unfold gTupleOf at e
  split at e
  · cases i with
    | cons i1 i =>
      cases i
      cases i1 with
      | lst h r =>
        refine ⟨_, _, rfl, .inl ⟨SqL.of (ok.sub _ _ h), fun l hl => ?_⟩⟩
        obtain ⟨g, z⟩ := tup_new ok hl r
        exact hq _ (.sh _) _ _ g z e
  · cases i with
    | cons i1 i =>
      cases i
      cases i1 with
      | fls h r =>
        refine ⟨_, _, rfl, .inl ⟨ok.sub.sqL h, fun l hl => ?_⟩⟩
        obtain ⟨g, z⟩ := tup_new ok hl r
        exact hq _ (.sh _) _ _ g z e
  · cases i with
    | cons i1 i =>
      cases i
      cases i1 with
      | tup h r => exact ⟨_, _, rfl, .inr ⟨ok.sub.sqT h, hq _ (.sh _) G H (.refl ok) (.tup h r) e⟩⟩
  · exact e.elim
def gListOf : GC := fun ts q => match ts with
  | [.lst xs] => q (.ol xs)
  | [.fls xs] => q (.ol xs)
  | [.tup xs] => q (.ol xs)
  | _ => False
theorem simc_list : SimC K M (fun xs H Q => ∃ p ys, xs = [.ref p] ∧ (SqL K H p ys ∨ SqT K H p ys) ∧ ∀ l, H l = none → Q (.ref l) (upd H l (.lst ys))) gListOf := fun ts q e vs G H i ok Q hq => by
  unfold gListOf at e
  split at e
  · cases i with
    | cons i1 i =>
      cases i
      cases i1 with
      | lst h r =>
        refine ⟨_, _, rfl, .inl (SqL.of (ok.sub _ _ h)), fun l hl => ?_⟩
        obtain ⟨g, z⟩ := ol_new ok hl r
        exact hq _ _ _ _ g z e
  · cases i with
    | cons i1 i =>
      cases i
      cases i1 with
      | fls h r =>
        refine ⟨_, _, rfl, .inl (ok.sub.sqL h), fun l hl => ?_⟩
        obtain ⟨g, z⟩ := ol_new ok hl r
        exact hq _ _ _ _ g z e
  · cases i with
    | cons i1 i =>
      cases i
      cases i1 with
      | tup h r =>
        refine ⟨_, _, rfl, .inr (ok.sub.sqT h), fun l hl => ?_⟩
        obtain ⟨g, z⟩ := ol_new ok hl r
        exact hq _ _ _ _ g z e
  · exact e.elim
/-! ### methods of texts -/
def strsT : List T → Option (List Str)
  | [] => some []
  | .str z :: ts => (strsT ts).map (z :: ·)
  | _ => none
theorem strsT_ok {G : Hp} : ∀ {ts : List T} {vs : List V} {bs : List Str}, IsAll K G vs ts → strsT ts = some bs → vs = bs.map V.str
  | _, _, _, .nil, h => by simp only [strsT] at h; cases h; rfl
  | _, _, _, .cons (t := t) i r, h => by
    cases t with
    | str b =>
      simp only [strsT] at h
      obtain ⟨cs, h1, rfl⟩ := Option.map_eq_some_iff.mp h
      cases i
      rw [strsT_ok r h1] <;> rfl
    | _ => simp [strsT] at h
theorem strsT_map : ∀ l : List Str, strsT (l.map .str) = some l
  | [] => rfl
  | a :: l => by simp only [List.map_cons, strsT, strsT_map l]; rfl
theorem isAll_strs {G : Hp} : ∀ l : List Str, IsAll K G (l.map V.str) (l.map T.str)
  | [] => .nil
  | a :: l => .cons .str (isAll_strs l)
def okStr : T → Prop
  | .str _ => True
  | _ => False
def gSplit : GM := fun t ts q => match t, ts with
  | .str a, [.str b] => ((b.length == 0) = false ∧ a.length + 2 ≤ sizeLine) ∧ q (.ol ((Txt.split a b).map .str))
  | _, _ => False
def gJoin : GM := fun t ts q => match t, ts with
  | .str a, [.lst xs] => oks (strsT xs) fun ys => (ys.map (·.length)).sum + ys.length * a.length ≤ 16777216 ∧ q (.sh (.str (Txt.join a ys)))
  | .str a, [.tup xs] => oks (strsT xs) fun ys => (ys.map (·.length)).sum + ys.length * a.length ≤ 16777216 ∧ q (.sh (.str (Txt.join a ys)))
  | _, _ => False
def gStr0 (C : Str → Prop) (f : Str → T) : GM := fun t ts q => match t, ts with
  | .str a, [] => C a ∧ q (.sh (f a))
  | _, _ => False
def gStr1 (f : Str → Str → T) : GM := fun t ts q => match t, ts with
  | .str a, [.str b] => q (.sh (f a b))
  | _, _ => False
theorem simm_split : SimM K M "str" (fun x xs H Q => ∃ a b, x = .str a ∧ xs = [.str b] ∧ (b.length == 0) = false ∧ a.length + 2 ≤ sizeLine ∧ rNewStrs (Txt.split a b) H Q) gSplit := fun t ts q e x vs G H i iv ok => by
  unfold gSplit at e
  split at e
  · cases i
    cases iv with
    | cons i1 iv =>
      cases iv; cases i1
      refine ⟨rfl, fun Q hq => ⟨_, _, rfl, rfl, e.1.1, e.1.2, fun p hp => ?_⟩⟩
      obtain ⟨g, z⟩ := ol_new ok hp (isAll_strs (K := K) (Txt.split _ _))
      exact hq _ _ _ _ g z e.2
  · exact e.elim
theorem simm_join : SimM K M "str" (fun x xs H Q => ∃ a p, ∃ ys : List Str, x = .str a ∧ xs = [.ref p] ∧ (SqL K H p (ys.map V.str) ∨ SqT K H p (ys.map V.str)) ∧ (ys.map (·.length)).sum + ys.length * a.length ≤ 16777216 ∧ Q (.str (Txt.join a ys)) H) gJoin := fun t ts q e x vs G H i iv ok => by
  unfold gJoin at e
  split at e
  · obtain ⟨ys, hy, e⟩ := oks_cases e
    cases i
    cases iv with
    | cons i1 iv =>
      cases iv
      cases i1 with
      | lst h r =>
        have z := strsT_ok r hy
        subst z
        exact ⟨rfl, fun Q hq => ⟨_, _, ys, rfl, rfl, .inl (SqL.of (ok.sub _ _ h)), e.1, hq _ (.sh _) G H (.refl ok) .str e.2⟩⟩
  · obtain ⟨ys, hy, e⟩ := oks_cases e
    cases i
    cases iv with
    | cons i1 iv =>
      cases iv
      cases i1 with
      | tup h r =>
        have z := strsT_ok r hy
        subst z
        exact ⟨rfl, fun Q hq => ⟨_, _, ys, rfl, rfl, .inr (ok.sub.sqT h), e.1, hq _ (.sh _) G H (.refl ok) .str e.2⟩⟩
  · exact e.elim
theorem simm_str0 {C : Str → Prop} {f : Str → V} {g : Str → T} (h : ∀ a G, Is K G (f a) (g a)) : SimM K M "str" (fun x xs H Q => ∃ a, x = .str a ∧ xs = [] ∧ C a ∧ Q (f a) H) (gStr0 C g) := fun t ts q e x vs G H i iv ok => by
  unfold gStr0 at e
  split at e
  · cases i; cases iv
    exact ⟨rfl, fun Q hq => ⟨_, rfl, rfl, e.1, hq _ (.sh _) G H (.refl ok) (h _ G) e.2⟩⟩
  · exact e.elim
theorem simm_str1 {f : Str → Str → V} {g : Str → Str → T} (h : ∀ a b G, Is K G (f a b) (g a b)) : SimM K M "str" (fun x xs H Q => ∃ a b, x = .str a ∧ xs = [.str b] ∧ Q (f a b) H) (gStr1 g) := fun t ts q e x vs G H i iv ok => by
  unfold gStr1 at e
  split at e
  · cases i
    cases iv with
    | cons i1 iv =>
      cases iv; cases i1
      exact ⟨rfl, fun Q hq => ⟨_, _, rfl, rfl, hq _ (.sh _) G H (.refl ok) (h _ _ G) e⟩⟩
  · exact e.elim
/-! ### subscripts, slices -/
def gIx : GR2 := fun a b q => match a, b with
  | .lst xs, .int i => oks (atI xs i) fun t => q (.sh t)
  | .fls xs, .int i => oks (atI xs i) fun t => q (.sh t)
  | .tup xs, .int i => oks (atI xs i) fun t => q (.sh t)
  | .str z, .int i => z.length ≤ sizeLine ∧ oks (atI z.cps.toList i) fun c => q (.sh (.str ⟨#[c]⟩))
  | _, _ => False
theorem IsAll.at {G : Hp} {vs : List V} {ts : List T} {i : Int} {t : T} (h : IsAll K G vs ts) (e : atI ts i = some t) : ∃ v, atI vs i = some v ∧ Is K G v t := by
  unfold atI at e ⊢
  rw [h.length]
  obtain ⟨j, h1, h2⟩ := Option.bind_eq_some_iff.mp e
  obtain ⟨v, h3, h4⟩ := h.get h2
  exact ⟨v, by rw [h1]; exact h3, h4⟩
theorem simr_ix : SimR2 K M (rIx K) gIx := fun tx ty q e x y G H ix iy ok Q hq => by
  unfold gIx at e
  split at e
  · obtain ⟨t, ht, e⟩ := oks_cases e
    cases iy
    cases ix with
    | lst h r =>
      obtain ⟨v, h1, h2⟩ := r.at ht
      exact .inl ⟨_, _, _, v, rfl, rfl, SqL.of (ok.sub _ _ h), h1, hq _ (.sh _) G H (.refl ok) h2 e⟩
  · obtain ⟨t, ht, e⟩ := oks_cases e
    cases iy
    cases ix with
    | fls h r =>
      obtain ⟨v, h1, h2⟩ := r.at ht
      exact .inl ⟨_, _, _, v, rfl, rfl, ok.sub.sqL h, h1, hq _ (.sh _) G H (.refl ok) h2 e⟩
  · obtain ⟨t, ht, e⟩ := oks_cases e
    cases iy
    cases ix with
    | tup h r =>
      obtain ⟨v, h1, h2⟩ := r.at ht
      exact .inr (.inl ⟨_, _, _, v, rfl, rfl, ok.sub.sqT h, h1, hq _ (.sh _) G H (.refl ok) h2 e⟩)
  · obtain ⟨e0, e⟩ := e
    obtain ⟨c, hc, e⟩ := oks_cases e
    cases iy; cases ix
    exact .inr (.inr ⟨_, _, c, rfl, rfl, e0, hc, hq _ (.sh _) G H (.refl ok) .str e⟩)
  · exact e.elim
def cutT (xs : List T) (lo hi : Option Int) : List T := (xs.drop (HT.sIx xs.length 0 lo)).take (HT.sIx xs.length xs.length hi - HT.sIx xs.length 0 lo)
theorem IsAll.cut {G : Hp} {vs : List V} {ts : List T} (h : IsAll K G vs ts) (lo hi : Option Int) : IsAll K G (cutV vs lo hi) (cutT ts lo hi) := by
  unfold cutV cutT
  rw [h.length]
  exact (h.drop _).take _
def gCut : T → Option Int → Option Int → (Sl → Prop) → Prop := fun t lo hi q => match t with
  | .str z => z.length ≤ sizeLine ∧ q (.sh (.str (cutS z lo hi)))
  | .lst xs => q (.ol (cutT xs lo hi))
  | .fls xs => q (.ol (cutT xs lo hi))
  | .tup xs => q (.sh (.tup (cutT xs lo hi)))
  | _ => False
def rCutU (K : PySem.W.Frag) : V → Option Int → Option Int → Hp → VK → Prop := fun x lo hi H Q => rSlS x lo hi H Q ∨ (rSlL K x lo hi H Q ∨ rSlA K x lo hi H Q)
theorem sl_U : SlR X (rCutU X.K) := SlR.or sl_str (SlR.or sl_list sl_tupA)
theorem simsl_cut : SimSl K M (rCutU K) gCut := fun t lo hi q e x G H ix ok Q hq => by
  unfold gCut at e
  split at e
  · cases ix
    exact .inl ⟨_, rfl, e.1, hq _ (.sh _) G H (.refl ok) .str e.2⟩
  · cases ix with
    | lst h r =>
      refine .inr (.inl ⟨_, _, rfl, SqL.of (ok.sub _ _ h), fun p hp => ?_⟩)
      obtain ⟨g, z⟩ := ol_new ok hp (r.cut lo hi)
      exact hq _ _ _ _ g z e
  · cases ix with
    | fls h r =>
      refine .inr (.inl ⟨_, _, rfl, ok.sub.sqL h, fun p hp => ?_⟩)
      obtain ⟨g, z⟩ := ol_new ok hp (r.cut lo hi)
      exact hq _ _ _ _ g z e
  · rename_i ts0
    cases ix with
    | tup h r =>
      refine .inr (.inr ⟨_, _, rfl, ok.sub.sqT h, fun hw => ?_, fun _ p hp => ?_⟩)
      · have ez : cutT ts0 lo hi = ts0 := by
          unfold cutT
          rw [r.length] at hw
          rw [hw.1, hw.2, List.drop_zero, Nat.sub_zero, List.take_length]
        rw [ez] at e
        exact hq _ (.sh _) G H (.refl ok) (.tup h r) e
      · obtain ⟨g, z⟩ := tup_new ok hp (r.cut lo hi)
        exact hq _ (.sh _) _ _ g z e
  · exact e.elim
end
end TL
namespace TL
open PySem PySem.Spec PyProof.Rows L2
/-! ### the law's draw: its dict at d, its large numbers at L, its cells at C -/
abbrev Tb := List (Addr × Str)
theorem code_ne {H : Hp} {a c : Addr} {q : Str} {o : HO} (h : H a = some o) (m : Mu o) (e : H c = some (LamX.CodeO c q)) : c ≠ a := fun z => by
  subst z
  rw [h] at e
  cases e
  rcases m with ⟨_, z⟩ | ⟨_, z⟩ <;> cases z
theorem tbl_ne {H : Hp} {a P : Addr} {o : HO} {ps : Array Value} (h : H a = some o) (m : Mu o) (e : H P = some (.tbl ps)) : P ≠ a := fun z => by
  subst z
  rw [h] at e
  cases e
  rcases m with ⟨_, z⟩ | ⟨_, z⟩ <;> cases z
theorem tabs_wr {T : Tb} {H : Hp} {a : Addr} {o o' : HO} (j : LamX.Tabs T H) (h : H a = some o) (m : Mu o) : LamX.Tabs T (upd H a o') := fun p hp => by
  obtain ⟨ps, h1, h2, h3⟩ := j p hp
  refine ⟨ps, by rw [upd_ne (tbl_ne h m h1)]; exact h1, h2, fun pos cv hc => ?_⟩
  obtain ⟨c, e1, e2⟩ := h3 pos cv hc
  exact ⟨c, e1, by rw [upd_ne (code_ne h m e2)]; exact e2⟩
/-- nothing but the tables -/
def MT (T : Tb) : Mode where
  S := fun a => ∃ p ∈ T, p.1 = a
  U := fun a => ∃ p ∈ T, p.1 = a
  J := fun H => LamX.Tabs T H
  st := fun _ _ j s => j.ext s
  wr := fun _ _ _ _ j _ h m => tabs_wr j h m
  su := fun _ h => h
def drwE (L C : Addr) (r t : Int) : List (Key × V) := [(.inr "large", .ref L), (.inr "rest", .int r), (.inr "cells", .ref C), (.inr "turn", .int t)]
structure Drw (d L C : Addr) (cs : List Int) (H : Hp) : Prop where
  ne : L ≠ C
  d : ∃ r t, H d = some (.dK (drwE L C r t))
  l : ∃ ls : List Int, H L = some (.lst (ls.map V.int))
  c : H C = some (.lst (cs.map V.int))
theorem Drw.dL {d L C : Addr} {cs : List Int} {H : Hp} (w : Drw d L C cs H) : L ≠ d := fun z => by
  obtain ⟨r, t, h⟩ := w.d
  obtain ⟨ls, e⟩ := w.l
  subst z
  rw [h] at e
  cases e
theorem Drw.dC {d L C : Addr} {cs : List Int} {H : Hp} (w : Drw d L C cs H) : C ≠ d := fun z => by
  obtain ⟨r, t, h⟩ := w.d
  have e := w.c
  subst z
  rw [h] at e
  cases e
/-- the draw's mode -/
def DM (d L C : Addr) (cs : List Int) (T : Tb) : Mode where
  S := fun a => (a = d ∨ a = L) ∨ ∃ p ∈ T, p.1 = a
  U := fun a => (a = C ∨ a = d ∨ a = L) ∨ ∃ p ∈ T, p.1 = a
  J := fun H => Drw d L C cs H ∧ LamX.Tabs T H
  st := fun _ _ ⟨w, j⟩ s => ⟨⟨w.ne, let ⟨r, t, h⟩ := w.d; ⟨r, t, s _ _ h⟩, let ⟨ls, h⟩ := w.l; ⟨ls, s _ _ h⟩, s _ _ w.c⟩, j.ext s⟩
  wr := fun H a o o' ⟨w, j⟩ u h m => ⟨⟨w.ne, let ⟨r, t, h⟩ := w.d; ⟨r, t, by rw [upd_ne (fun z => u (.inl (.inr (.inl z.symm))))]; exact h⟩, let ⟨ls, h⟩ := w.l; ⟨ls, by rw [upd_ne (fun z => u (.inl (.inr (.inr z.symm))))]; exact h⟩, by rw [upd_ne (fun z => u (.inl (.inl z.symm)))]; exact w.c⟩, tabs_wr j h m⟩
  su := fun a h => h.elim (fun h => .inl (.inr h)) .inr
theorem k_lr : (Sum.inr ("large" : Str) : Key) ≠ Sum.inr ("rest" : Str) := by decide
theorem k_lc : (Sum.inr ("large" : Str) : Key) ≠ Sum.inr ("cells" : Str) := by decide
theorem k_lt : (Sum.inr ("large" : Str) : Key) ≠ Sum.inr ("turn" : Str) := by decide
theorem k_rc : (Sum.inr ("rest" : Str) : Key) ≠ Sum.inr ("cells" : Str) := by decide
theorem k_rt : (Sum.inr ("rest" : Str) : Key) ≠ Sum.inr ("turn" : Str) := by decide
theorem k_ct : (Sum.inr ("cells" : Str) : Key) ≠ Sum.inr ("turn" : Str) := by decide
theorem drw_l {L C : Addr} {r t : Int} : valV (drwE L C r t) (.inr "large") = some (.ref L) := valV_pos rfl
theorem drw_r {L C : Addr} {r t : Int} : valV (drwE L C r t) (.inr "rest") = some (.int r) := (valV_neg k_lr).trans (valV_pos rfl)
theorem drw_c {L C : Addr} {r t : Int} : valV (drwE L C r t) (.inr "cells") = some (.ref C) := ((valV_neg k_lc).trans (valV_neg k_rc)).trans (valV_pos rfl)
theorem drw_t {L C : Addr} {r t : Int} : valV (drwE L C r t) (.inr "turn") = some (.int t) := (((valV_neg k_lt).trans (valV_neg k_rt)).trans (valV_neg k_ct)).trans (valV_pos rfl)
theorem drw_pr {L C : Addr} {r t n : Int} : putK (drwE L C r t) (.inr "rest") (.int n) = drwE L C n t := by
  unfold putK
  rw [valV_any, drw_r]
  simp only [Option.isSome_some, if_true, drwE, List.map_cons, List.map_nil]
  rw [if_neg k_lr, if_neg k_rc.symm, if_neg k_rt.symm]
theorem drw_pt {L C : Addr} {r t n : Int} : putK (drwE L C r t) (.inr "turn") (.int n) = drwE L C r n := by
  unfold putK
  rw [valV_any, drw_t]
  simp only [Option.isSome_some, if_true, drwE, List.map_cons, List.map_nil]
  rw [if_neg k_lt, if_neg k_rt, if_neg k_ct]
section
variable {X : Cx} {K : PySem.W.Frag} {M : Mode} {E : XK} {G H G' H' : Hp} {d L C : Addr} {cs : List Int} {T : Tb} {τ : List Sl}
/-- what may change by others changes -/
theorem Go.alt (ok : Ok M G H) {a : Addr} {o o' : HO} (s : M.S a) (e : H a = some o) (j : M.J (upd H a o')) : Go M G H G (upd H a o') :=
  ⟨.refl _, fun b u q => by rw [upd_ne (ne_of_none q (ok.s a s))]; exact ok.sub b u q, fun b u n q => by rw [upd_ne (fun z => n (by rw [z]; exact s))]; exact q, fun b q => by
    by_cases z : b = a
    · subst z; rw [upd_same]; simp
    · rw [upd_ne z]; exact q, fun _ h _ => h, j⟩
theorem Ok.put (ok : Ok (DM d L C cs T) G H) {r t : Int} : ∃ o, H d = some o ∧ (DM d L C cs T).J (upd H d (.dK (drwE L C r t))) := by
  obtain ⟨w, j⟩ := ok.j
  obtain ⟨r0, t0, h0⟩ := w.d
  exact ⟨_, h0, ⟨w.ne, ⟨r, t, upd_same⟩, let ⟨ls, h⟩ := w.l; ⟨ls, by rw [upd_ne w.dL]; exact h⟩, by rw [upd_ne w.dC]; exact w.c⟩, tabs_wr j h0 (.inr ⟨_, rfl⟩)⟩
theorem Ok.popL (ok : Ok (DM d L C cs T) G H) {ls : List Int} : ∃ o, H L = some o ∧ (DM d L C cs T).J (upd H L (.lst (ls.map V.int))) := by
  obtain ⟨w, j⟩ := ok.j
  obtain ⟨l0, h0⟩ := w.l
  exact ⟨_, h0, ⟨w.ne, let ⟨r, t, h⟩ := w.d; ⟨r, t, by rw [upd_ne w.dL.symm]; exact h⟩, ⟨ls, upd_same⟩, by rw [upd_ne w.ne.symm]; exact w.c⟩, tabs_wr j h0 (.inl ⟨_, rfl⟩)⟩
def IsDM (M : Mode) (d : Addr) : Prop := ∃ L C cs T, M = DM d L C cs T
/-- the draw stands in the i-th slot -/
def atD (M : Mode) (i : Nat) (τ : List Sl) : Prop := ∃ d, τ[i]? = some (.sh (.raw (.ref d))) ∧ IsDM M d
theorem raw_inv {v u : V} (h : Is K G v (.raw u)) : v = u := by cases h; rfl
/-- draw['rest'], draw['turn'] -/
def gDi (M : Mode) (i : Nat) : TEx := fun τ q _ => atD M i τ ∧ ∀ n : Int, q (.sh (.int n))
theorem W1.atD {σ : List (Option V)} (w : W1 K M G H σ τ) {i : Nat} (h : atD M i τ) : ∃ d L C cs T, σ[i]? = some (some (.ref d)) ∧ M = DM d L C cs T := by
  obtain ⟨d, h1, L, C, cs, T, hM⟩ := h
  obtain ⟨os, en, _⟩ := w.en
  obtain ⟨v, h2, h3⟩ := en.get h1
  cases raw_inv h3
  exact ⟨d, L, C, cs, T, h2, hM⟩
theorem sim_di {i : Nat} {x : Str} (hx : x = "rest" ∨ x = "turn") : SimE K M E (tDGet (tVar i) (tC (.str x))) (gDi M i) := fun τ q r e σ G H w Q hq _ => by
  obtain ⟨d, L, C, cs, T, h1, rfl⟩ := w.atD e.1
  obtain ⟨r, t, h⟩ := w.ok.j.1.d
  refine ⟨_, h1, d, ?_⟩
  rcases hx with rfl | rfl
  · exact ⟨.int r, rfl, by rw [← drw_r (L := L) (C := C) (r := r) (t := t)]; exact DGet.k (k := .inr "rest") h, hq _ (.sh (.int r)) G H (.refl w.ok) .int (e.2 r)⟩
  · exact ⟨.int t, rfl, by rw [← drw_t (L := L) (C := C) (r := r) (t := t)]; exact DGet.k (k := .inr "turn") h, hq _ (.sh (.int t)) G H (.refl w.ok) .int (e.2 t)⟩
/-- draw['rest'] = .., draw['turn'] = .. -/
def sDi (M : Mode) (i : Nat) (a : TEx) : TSx := fun τ k => a τ (fun s => atD M i τ ∧ (∃ n : Int, s = .sh (.int n)) ∧ k.nx τ) k.ex
theorem sims_di {i : Nat} {x : Str} {te : TE} {a : TEx} (hx : x = "rest" ∨ x = "turn") (ha : SimE K M E te a) : SimS K M E (sDPut (tVar i) (tC (.str x)) te) (sDi M i a) := fun G0 H0 ok τ k e σ G H w D dk =>
  ha τ _ _ e σ G H (w.w1 ok) _ (fun v s G1 H1 g rs q => by
    obtain ⟨q1, ⟨n, rfl⟩, q3⟩ := q
    have w1 := w.next ok g
    have ok1 := (w1.w1 ok).ok
    obtain ⟨d, L, C, cs, T, h1, rfl⟩ := (w1.w1 ok).atD q1
    obtain ⟨r, t, h⟩ := ok1.j.1.d
    cases rs
    refine ⟨_, h1, d, ?_⟩
    rcases hx with rfl | rfl
    · obtain ⟨o, ho, j⟩ := ok1.put (r := n) (t := t)
      refine ⟨_, rfl, DPut.k (k := .inr "rest") h (by rw [sizeLine_eq]; exact (by decide : (4 : Nat) < 16777216)), ?_⟩
      rw [drw_pr]
      exact dk.nx _ _ G1 _ (w1.next ok (Go.alt ok1 (.inl (.inl rfl)) ho j)) g.gg q3
    · obtain ⟨o, ho, j⟩ := ok1.put (r := r) (t := n)
      refine ⟨_, rfl, DPut.k (k := .inr "turn") h (by rw [sizeLine_eq]; exact (by decide : (4 : Nat) < 16777216)), ?_⟩
      rw [drw_pt]
      exact dk.nx _ _ G1 _ (w1.next ok (Go.alt ok1 (.inl (.inl rfl)) ho j)) g.gg q3) (dk.ex.at w.go)
/-- for .. in draw['cells'] -/
def iDc (M : Mode) (i : Nat) : TIx := fun τ q _ => ∃ d L C cs Z, τ[i]? = some (.sh (.raw (.ref d))) ∧ M = DM d L C cs Z ∧ q (cs.map fun n => .int n)
theorem simi_dc {i : Nat} : SimI K M E (iSeq K (tDGet (tVar i) (tC (.str "cells")))) (iDc M i) := fun τ q r e σ G H w R hq _ => by
  obtain ⟨d, L, C, cs, T, h1, rfl, e⟩ := e
  obtain ⟨os, en, _⟩ := w.en
  obtain ⟨v, h2, h3⟩ := en.get h1
  cases raw_inv h3
  obtain ⟨r, t, h⟩ := w.ok.j.1.d
  refine ⟨_, h2, d, .ref C, rfl, by rw [← drw_c (L := L) (C := C) (r := r) (t := t)]; exact DGet.k (k := .inr "cells") h, .inl ⟨C, _, rfl, SqL.of w.ok.j.1.c, hq _ _ G H (.refl w.ok) (fun G1 H1 s ok j => ?_) e⟩⟩
  have hs : SqL K H1 C (cs.map V.int) := SqL.of ok.j.1.c
  refine ⟨fun hj => ⟨_, hs, by simpa using hj⟩, fun t ht => ?_⟩
  rw [List.getElem?_map] at ht
  obtain ⟨c, hc, rfl⟩ := Option.map_eq_some_iff.mp ht
  have hv : (cs.map V.int)[j]? = some (.int c) := by rw [List.getElem?_map, hc]; rfl
  refine ⟨⟨_, _, hs, hv⟩, fun x H' y => ?_⟩
  obtain ⟨rfl, y⟩ := y
  have e := y _ hs
  rw [hv] at e
  cases e
  exact ⟨G1, .refl ok, .int⟩
/-- draw['large'].pop(0) if draw['large'] != [] else .. -/
def gDpop (M : Mode) (i : Nat) (b : TEx) : TEx := fun τ q r => atD M i τ ∧ (∀ n : Int, q (.sh (.int n))) ∧ b τ q r
theorem dpAll_ints {H : Hp} : ∀ ls : List Int, DpAll K H (ls.map V.int) (ls.map PyData.int)
  | [] => .nil
  | n :: ls => .cons (.int n) (dpAll_ints ls)
theorem pop0 {n : Nat} (h : 0 < n) : seqIndex? 0 n = some 0 := by
  unfold seqIndex?
  simp
  omega
theorem sim_dpop {i : Nat} {tb : TE} {b : TEx} (hb : SimE K M E tb b) : SimE K M E (tIf (tTest (tOp (rNeU K) (tDGet (tVar i) (tC (.str "large"))) (tLst tNil))) (tBM K "list" rPopAt (tDGet (tVar i) (tC (.str "large"))) (tCons (tC (.int 0)) tNil)) tb) (gDpop M i b) := fun τ q r e σ G H w Q hq hx => by
  obtain ⟨e1, e2, e3⟩ := e
  obtain ⟨d, L, C, cs, T, h1, rfl⟩ := w.atD e1
  obtain ⟨r, t, h⟩ := w.ok.j.1.d
  obtain ⟨ls, hl⟩ := w.ok.j.1.l
  refine ⟨_, h1, d, .ref L, rfl, by rw [← drw_l (L := L) (C := C) (r := r) (t := t)]; exact DGet.k (k := .inr "large") h, ⟨Nat.zero_le _, fun p hp => ?_⟩⟩
  have g1 : Go (DM d L C cs T) G H G (upd H p (.lst [])) := .lay w.ok hp
  have hl1 : upd H p (.lst []) L = some (.lst (ls.map V.int)) := by rw [upd_ne (ne_of_none hl hp)]; exact hl
  have h11 : upd H p (.lst []) d = some (.dK (drwE L C r t)) := by rw [upd_ne (ne_of_none h hp)]; exact h
  refine .inr ⟨.list (ls.map PyData.int), .list [], .lst (SqL.of hl1) (dpAll_ints ls), .lst (SqL.of upd_same) .nil, PySem.W.shaped_ints ls, by decide +kernel, ⟨_, rfl, ?_⟩⟩
  cases ls with
  | nil =>
    have z : (!PyData.eqv (.list (([] : List Int).map PyData.int)) (.list [])) = false := by decide +kernel
    rw [z, if_neg (by decide)]
    exact hb τ q _ e3 σ G _ (w.go g1) Q (fun v s G2 H2 g2 rs qs => hq v s G2 H2 (g1.trans g2) (rs.early g1) qs) (hx.go g1)
  | cons l ls =>
    have z : (!PyData.eqv (.list ((l :: ls).map PyData.int)) (.list [])) = true := by simp [PyData.eqv, PyData.eqvAll]
    rw [z, if_pos rfl]
    refine ⟨_, h1, d, .ref L, rfl, by rw [← drw_l (L := L) (C := C) (r := r) (t := t)]; exact DGet.k (k := .inr "large") h11, .inl ⟨rfl, _, SqL.of hl1⟩, ?_⟩
    refine ⟨L, _, 0, 0, .int l, rfl, rfl, hl1, by decide, by decide, pop0 (by simp), rfl, ?_⟩
    obtain ⟨o, ho, j⟩ := (w.ok.go g1).popL (ls := ls)
    have g2 := Go.alt (w.ok.go g1) (.inl (.inr rfl)) ho j
    exact hq _ (.sh (.int l)) G _ (g1.trans g2) .int (e2 l)
end
end TL
namespace TL
open PySem PySem.Spec PyProof.Rows L2
/-! ### repr: no container is being shown already (guards) -/
structure ShOk (d : PyData) : Prop where
  s : d.showable = true
  l : d.leavesShort 13 = true
  b : d.bulk ≤ 2 ^ 20
  p : d.depth ≤ 60
  n : d.hasDict = false
theorem ShOk.fits {d : PyData} (h : ShOk d) : d.shown.length ≤ sizeLine := PyData.shown_fits_bulk (by decide) (by decide) h.l h.b
def rShow (K : PySem.W.Frag) : List V → Hp → VK → Prop := fun xs H Q => ∃ x d, xs = [x] ∧ Dp K H x d ∧ ShOk d ∧ Q (.str d.shown) H
section
variable {X : Cx} {K : PySem.W.Frag} {M : Mode} {E : XK}
theorem call_show (hg : X.A.guards = some []) (hu : X.A.units + 64 < cLine) : CallR X (.builtin "repr") (rShow X.K) := fun pins s σ H xs us Q I rx h => by
  obtain ⟨x, d, rfl, hd, ok, q⟩ := h
  obtain ⟨u, rfl, ru⟩ := rx.one
  have fin : ∀ (h' : Heap) (t tk : Tok), (∀ b o, s.heap.get? b = some o → h'.get? b = some o) → EP X pins σ Q (.str d.shown t) { s with heap := h', toks := tk } := fun h' t tk hk => ⟨.str _, H, I.kept hk, ⟨_, rfl⟩, q⟩
  have one : ∀ t tk : Tok, EP X pins σ Q (.str d.shown t) { s with toks := tk } := fun t tk => fin s.heap t tk fun _ _ e => e
  obtain ⟨as, r⟩ := Dp.reads I d x u hd ru
  have hp : X.A.units + (d.depth + 1) < cLine := by have := ok.p; omega
  cases r with
  | none => exact PySem.P.repr_of_none (one _ _)
  | bool b => exact PySem.P.repr_of_bool (by have e := one s.toks (s.toks + 1); simp only [PyData.shown] at e; exact e)
  | int i t => exact PySem.P.repr_of_int (by have z := ok.s; simpa [PyData.showable] using z) (by have e := one s.toks (s.toks + 1); simp only [PyData.shown] at e; exact e)
  | str y t => exact PySem.P.repr_of_str (by have e := one s.toks (s.toks + 1); simp only [PyData.shown] at e; exact e) (by have z := ok.fits; simpa only [PyData.shown] using z)
  | list h1 h2 h3 h4 => exact repr_of_reads' (.list h1 h2 h3 h4) ok.s (PyData.noDict_hsm ok.n) hg hp (fun _ _ e => e) fin ok.fits
  | tuple h1 h2 h3 h4 => exact repr_of_reads' (.tuple h1 h2 h3 h4) ok.s (PyData.noDict_hsm ok.n) hg hp (fun _ _ e => e) fin ok.fits
  | dict h1 h2 h3 h4 => cases hd
def gShow : GC := fun ts q => match ts with
  | [t] => oks t.py fun d => ShOk d ∧ q (.sh (.str d.shown))
  | _ => False
theorem simc_show : SimC K M (rShow K) gShow := fun ts q e vs G H i ok Q hq => by
  unfold gShow at e
  split at e
  · obtain ⟨d, hd, ok1, e⟩ := oks_cases e
    cases i with
    | cons i1 i =>
      cases i
      exact ⟨_, d, rfl, i1.dp ok.sub hd, ok1, hq _ (.sh _) G H (.refl ok) .str e⟩
  · exact e.elim
end
/-! ### a def that shows: its promise where nothing is being shown -/
structure FnG (P : Program) (w : World) (K : PySem.W.Frag) (mg : Str → Option Value) (base : Heap) (CX : CXT) (k : Nat) (f : Addr) (fd : FuncData) (ps : List Str) (sp : Sp) : Prop where
  len : ∀ vs H Q E, sp vs H Q E → vs.length = ps.length
  run : ∀ (A : Around) (outer : List Env) (s : Shared) (H : Hp) (args : Args) (us : List Value) (vs : List V) (Q : VK) (E : XK), A.guards = some [] → Room k A → Env0 P w K mg base A outer s H →
    BindsTo s fd args (ps.zip us) → Vals vs us → sp vs H Q E → codeAny (model P w) A (.call (.ref f) args) (CR CX outer P w H s Q E) s
theorem FnG.mono {P : Program} {w : World} {K : PySem.W.Frag} {mg : Str → Option Value} {base : Heap} {CX : CXT} {j k : Nat} {f : Addr} {fd : FuncData} {ps : List Str} {sp : Sp} (F : FnG P w K mg base CX j f fd ps sp) (h : j ≤ k) : FnG P w K mg base CX k f fd ps sp :=
  ⟨F.len, fun A outer s H args us vs Q E hg hr => F.run A outer s H args us vs Q E hg (hr.mono h)⟩
section
variable {X : Cx} {CX : CXT} {k : Nat} {f : Addr} {fd : FuncData} {ps : List Str} {sp : Sp} {E : XK} {x : Str} {p pos : Pos} {e : Expr} {es : List Expr} {t : TA} {M : Mode}
theorem run_fnG {pins : List (Addr × Obj)} {σ : L2.St} {H : Hp} {s : Shared} {Q : VK} {us : List Value} {vs : List V} (F : FnG X.prog X.w X.K X.mg X.base CX k f fd ps sp) (hgd : X.A.guards = some []) (hr : Room k X.A) (hb : Binds X.K fd ps [])
    (hx : Passes CX X E) (I : Inv X pins σ H s) (r : Vals vs us) (h : sp vs H Q E) : wpAny (model X.prog X.w) X.A (call (.ref f) us) (EP X pins σ Q) X.xe s := by
  have hl : (us ++ []).length = ps.length := by
    rw [List.append_nil, ← r.length]
    exact F.len _ _ _ _ h
  have b := hb s us I.kIn hl
  rw [List.append_nil] at b
  refine wpAny_call (codeAny_mono (F.run X.A X.stack s H ⟨us, []⟩ us vs Q E hgd hr I.env0 b r h) fun o s2 ho => ?_)
  match o, ho with
  | .error z, ho => exact hx pins σ H s z s2 I ho
  | .ok (.ret u), ho => exact I.after ho
  | .ok .next, ho => exact ho.elim
  | .ok .brk, ho => exact ho.elim
  | .ok .cont, ho => exact ho.elim
theorem pe_callG (F : FnG X.prog X.w X.K X.mg X.base CX k f fd ps sp) (hgd : X.A.guards = some []) (hr : Room k X.A) (hg : Gl X x) (hm : X.mg x = some (.ref f)) (hk : PySem.W.keepIn X.K (.ref f) = true) (hb : Binds X.K fd ps []) (hx : Passes CX X E)
    (ha : PA X (e :: es) t) (hdb : (x == ("__debug__" : Str)) = false := by decide) (he : starEach (e :: es) X.env = (false, eval e X.env) :: starEach es X.env := by rfl) (hpl : (backTo pos (starEach es X.env)).any (·.1) = false := by rfl) :
    PE X (.Call (.Name x p) (e :: es) [] pos) (tCall sp [] E t) := ⟨fun pins s σ H Q I h =>
  wpAny_Call_Name_kw (ld_glob I hg hm (PySem.W.callWith_K (h₀ := X.base) I.ok.mod.kin hk (thn (ha.run pos pins s σ H _ I h) fun us s1 ⟨vs, H1, I1, r, q⟩ => ⟨I1.kIn, run_fnG F hgd hr hb hx I1 r (by have q' : sp (vs ++ []) H1 Q E := q; rw [List.append_nil] at q'; exact q')⟩) he hpl) hdb)⟩
end
section
variable {X : Cx} {M : Mode} {E : XK} {a : Expr} {es : List Expr} {t : TA} {gt : TAx} {x : Str} {p pos : Pos}
theorem ge_callG {CX : CXT} {k : Nat} {f : Addr} {fd : FuncData} {ps : List Str} {sp : SpX} (F : FnG X.prog X.w X.K X.mg X.base CX k f fd ps (lift X.K sp)) (hgd : X.A.guards = some []) (hr : Room k X.A) (hm : X.mg x = some (.ref f)) (hk : PySem.W.keepIn X.K (.ref f) = true)
    (hb : Binds X.K fd ps []) (hx : Passes CX X E) (ha : GA X M E (a :: es) t gt) (hg : Gl X x := by rfl) (hdb : (x == ("__debug__" : Str)) = false := by decide)
    (he : starEach (a :: es) X.env = (false, eval a X.env) :: starEach es X.env := by rfl) (hpl : (backTo pos (starEach es X.env)).any (·.1) = false := by rfl) :
    GE X M E (.Call (.Name x p) (a :: es) [] pos) (tCall (lift X.K sp) [] E t) (gCall M sp gt) := ⟨pe_callG F hgd hr hg hm hk hb hx ha.p hdb he hpl, sim_call ha.s⟩
end
section
variable {P : Program} {w : World} {K : PySem.W.Frag} {mg : Str → Option Value} {base : Heap} {x qual : Str} {params : Arguments} {body : List Stmt} {scope : Scope} {f : Addr} {fd : FuncData}
theorem mk_raw {CX : CXT} {N ps : List Str} {k : Nat} {sp : Sp} (F : FunD K x qual params body scope [] [] f fd) (S : FnScope N ps scope) (hl : ∀ vs H Q E, sp vs H Q E → vs.length = ps.length)
    (hbody : ∀ (cdv : Value) (A : Around) (outer : List Env) (s : Shared) (H : Hp) (vs : List V) (Q : VK) (E : XK), Room k (A.deeper (envOfC qual scope s.heap.objs.size f cdv)) → (A.deeper (envOfC qual scope s.heap.objs.size f cdv)).guards = some [] → sp vs H Q E →
      ∃ t, PSs (cxOf CX P w K mg base N qual scope f cdv A outer s H E) body t ∧ t { nx := fun _ H' => Q .non H', rt := Q } (L2.start N vs) H) : FnG P w K mg base CX (k + 1) f fd ps sp := by
  obtain ⟨oc, od, dV, kV, doc, pm, an, cdv, ct, osl, rfl, lk, hcd, _, _⟩ := F.ex
  refine ⟨hl, fun A outer s H args us vs Q E hg hr e0 hb hv hs => ?_⟩
  refine LamX.run_ofS lk hcd S hr e0 hb hv (hl _ _ _ _ hs) fun hr2 => hbody cdv A outer s H vs Q E hr2 ?_ hs
  have z : (A.deeper (envOfC qual scope s.heap.objs.size f cdv)).guards = A.guards := by rfl
  rw [z]
  exact hg
theorem mk_fnG {N ps : List Str} {k : Nat} {sp : SpX} (F : FunD K x qual params body scope [] [] f fd) (S : FnScope N ps scope) (hl : ∀ M ts q r, sp M ts q r → ts.length = ps.length)
    (hbody : ∀ (cdv : Value) (A : Around) (outer : List Env) (s : Shared) (H : Hp) (E : XK) (M : Mode), Room k (A.deeper (envOfC qual scope s.heap.objs.size f cdv)) → (A.deeper (envOfC qual scope s.heap.objs.size f cdv)).guards = some [] →
      ∃ t g, GSs (cxOf (L2.CX P w) P w K mg base N qual scope f cdv A outer s H E) M E body t g ∧ ∀ ts q r, sp M ts q r → g (startS N ts) (KnOf q r)) : FnG P w K mg base (L2.CX P w) (k + 1) f fd ps (lift K sp) := by
  refine mk_raw F S (fun vs H Q E ⟨M, G, ts, q, r, _, i, hs, _⟩ => by rw [i.length]; exact hl M ts q r hs) fun cdv A outer s H vs Q E hr hg ⟨M, G, ts, q, r, ok, i, hs, hq, hx⟩ => ?_
  obtain ⟨t, g, hp, hg⟩ := hbody cdv A outer s H E M hr hg
  refine ⟨t, hp.p, hp.s G H ok (startS N ts) (KnOf q r) (hg ts q r hs) (L2.start N vs) G H ⟨⟨[], en_start i, fun _ h => nomatch h⟩, .refl ok⟩ _ ⟨?_, hq, fun _ _ _ _ _ _ h => h.elim, fun _ _ _ _ _ _ h => h.elim, hx⟩⟩
  exact fun σ τ G1 H1 w1 _ z => hq .non (.sh .non) G1 H1 w1.go .non z
end
end TL
namespace TL
open PySem PySem.Spec PyProof.Rows L2
/-! ### the end: a law's def that shows, at the head's heap -/
/-- what is tracked there: the tables, and the script unless it is the module's -/
def Hend (K : PySem.W.Frag) (ts : List Addr) (a : Addr) (oa : Obj) (zs : List V) : Hp := fun b => if b ∈ ts then some (.tbl #[]) else if b = a ∧ K.lookup a = none then some (.frz oa (.lst zs)) else none
section
variable {K : PySem.W.Frag} {ts : List Addr} {a b : Addr} {oa : Obj} {zs : List V} {u : HO}
theorem hend_t (h : b ∈ ts) : Hend K ts a oa zs b = some (.tbl #[]) := if_pos h
theorem hend_a (h : a ∉ ts) (k : K.lookup a = none) : Hend K ts a oa zs a = some (.frz oa (.lst zs)) := (if_neg h).trans (if_pos ⟨rfl, k⟩)
theorem hend_some (h : Hend K ts a oa zs b = some u) : (b ∈ ts ∧ u = .tbl #[]) ∨ (b = a ∧ K.lookup a = none ∧ u = .frz oa (.lst zs)) := by
  unfold Hend at h
  split at h
  · rename_i hb
    exact .inl ⟨hb, by cases h; rfl⟩
  · split at h
    · rename_i hb
      exact .inr ⟨hb.1, hb.2, by cases h; rfl⟩
    · cases h
end
abbrev tabO : Obj := { cls := .none, data := .fields #[] }
section
variable {P : Program} {w : World} {K : PySem.W.Frag} {mg mb : Str → Option Value} {CX : CXT} {k : Nat} {fa a : Addr} {cs : List (Addr × Addr)} {fd : FuncData} {x : Str} {sp : Sp} {s₁ : Shared} {vs : List Value} {ns : List Int}
theorem end_call (KX : K.In s₁.heap) (hns : s₁.heap.Ns mainGlobals mg) (hb : s₁.heap.Ns builtinsNs mb) (hbb : ∀ x : Str, x ≠ "__name__" → mb x = bootBuiltins x) (hlim : s₁.heap.NoLimit) (hg : s₁.gens = #[])
    (hT : ∀ p ∈ cs, s₁.heap.get? p.2 = some tabO) (nT : ∀ p ∈ cs, K.lookup p.2 = none) (C : ∀ p ∈ cs, PySem.W.CodeHd s₁.heap p.1 p.2)
    (hbm : ∃ (bm : Addr) (ob : Obj), mg "__builtins__" = some (.ref bm) ∧ bm ≠ builtinsNs ∧ s₁.heap.get? bm = some ob ∧ ob.cls = .type "module" ∧ ob.dict = some builtinsNs ∧ ob.data = .plain)
    (ha : s₁.heap.get? a = some { cls := .type "list", data := .seq vs.toArray }) (hi : IntsAre vs ns) (hl : ns.length ≤ sizeLine) (hr : Room k callerA)
    (F : ∀ base : Heap, K.In base → base.Ns mainGlobals mg → (∀ p ∈ cs, LamX.TabB base mg p.1 p.2) → FnG P w K mg base CX k fa fd [x] sp) (hbind : ∀ (s : Shared) (u : Value), BindsTo s fd ⟨[u], []⟩ [(x, u)])
    (hsp : ∀ H : Hp, (∀ p ∈ cs, H p.2 = some (.tbl #[])) → SqL K H a (ns.map V.int) → sp [.ref a] H (fun v _ => v = .bl true) fun _ _ _ => False)
    (hCX : ∀ H e s', CX [] H s₁ (fun _ _ _ => False) e s' → False) :
    codeAny (model P w) callerA (.call (.ref fa) ⟨[.ref a], []⟩) (fun r s' => r = .ok (.ret (.bool true)) ∧ OldK s₁.heap s'.heap ∧ s'.os = s₁.os ∧ AllBare s'.gens) s₁ := by
  have rels := vals_ints hi
  have tab : ∀ b ∈ cs.map (·.2), s₁.heap.get? b = some tabO ∧ K.lookup b = none := fun b m => by
    obtain ⟨p, hp, rfl⟩ := List.mem_map.mp m
    exact ⟨hT p hp, nT p hp⟩
  have aOut : a ∉ cs.map (·.2) := fun m => by
    have z := (tab a m).1
    rw [ha] at z
    cases congrArg Obj.data (Option.some.inj z)
  -- the abstract heap
  have hOk : HOk P w (Hend K (cs.map (·.2)) a { cls := .type "list", data := .seq vs.toArray } (ns.map V.int)) s₁.heap := fun b u e => by
    rcases hend_some e with ⟨m, rfl⟩ | ⟨rfl, _, rfl⟩
    · exact (tab b m).1
    · exact ⟨ha, by rw [List.length_map]; exact hl, vs, _, rels, ha⟩
  have sq : SqL K (Hend K (cs.map (·.2)) a { cls := .type "list", data := .seq vs.toArray } (ns.map V.int)) a (ns.map V.int) := by
    cases q : K.lookup a with
    | none => exact .inl (.inr ⟨_, hend_a aOut q⟩)
    | some o =>
      have z := KX a o q
      rw [ha] at z
      cases z
      exact .inr ⟨_, vs.toArray, _, q, rfl, rfl, rfl, by rw [List.size_toArray, hi.length]; exact hl, by simpa using rels⟩
  generalize hH : Hend K (cs.map (·.2)) a { cls := .type "list", data := .seq vs.toArray } (ns.map V.int) = H at hOk sq
  have cases' : ∀ {b : Addr} {u : HO}, H b = some u → (b ∈ cs.map (·.2) ∧ u = .tbl #[]) ∨ (b = a ∧ K.lookup a = none ∧ u = .frz { cls := .type "list", data := .seq vs.toArray } (.lst (ns.map V.int))) := fun {b u} e => by
    rw [← hH] at e
    exact hend_some e
  have tabH : ∀ p ∈ cs, H p.2 = some (.tbl #[]) := fun p hp => by
    rw [← hH]
    exact hend_t (List.mem_map.mpr ⟨p, hp, rfl⟩)
  -- what is neither a plain list nor a table is the base's
  have free : ∀ {b : Addr} {o : Obj}, s₁.heap.get? b = some o → (∀ its n, o.data ≠ .seq its n) → o.data ≠ .fields #[] → H b = none := fun {b o} e h1 h2 => by
    cases q : H b with
    | none => rfl
    | some u =>
      rcases cases' q with ⟨m, _⟩ | ⟨rfl, _, _⟩
      · rw [(tab b m).1] at e
        cases e
        exact (h2 rfl).elim
      · rw [ha] at e
        cases e
        exact (h1 _ _ rfl).elim
  have nsB : ∀ {b : Addr} {m : Str → Option Value}, s₁.heap.Ns b m → (hidT s₁.heap H).Ns b m := fun {b m} ⟨o, es, ep, e, d, r⟩ =>
    ⟨o, es, ep, hidT_get e (free e (fun its n z => by rw [d] at z; cases z) fun z => by rw [d] at z; cases z), d, r⟩
  have inB : K.In (hidT s₁.heap H) := fun b o e => hidT_get (KX b o e) (by
    cases q : H b with
    | none => rfl
    | some u =>
      rcases cases' q with ⟨m, _⟩ | ⟨rfl, k0, _⟩
      · rw [(tab b m).2] at e
        cases e
      · rw [k0] at e
        cases e)
  have tabs : ∀ p ∈ cs, LamX.TabB (hidT s₁.heap H) mg p.1 p.2 := fun p hp => by
    have here := hT p hp
    refine ⟨?_, ?_, fun z => ?_⟩
    · obtain ⟨o, us, file, tf, flags, tg, inF, text, tt, e1, r1, r2, r3, r⟩ := C p hp
      exact ⟨o, us, file, tf, flags, tg, inF, text, tt, hidT_get e1 (free e1 (fun its n z => by rw [r2] at z; cases z) fun z => by rw [r2] at z; cases z; simp at r3), r1, r2, r3, r⟩
    · obtain ⟨bm, ob, b1, b2, b3, b4, b5, b6⟩ := hbm
      refine ⟨bm, ob, b1, b2, fun q => ?_, fun q => ?_, hidT_get b3 (free b3 (fun its n z => by rw [b6] at z; cases z) fun z => by rw [b6] at z; cases z), b4, b5, b6⟩
      · obtain ⟨o, es, ep, e, hd, _⟩ := hns
        rw [q, e] at b3
        cases b3
        rw [hd] at b6
        cases b6
      · rw [q, here] at b3
        cases b3
        cases b6
    · obtain ⟨o, es, ep, e, hd, _⟩ := hns
      rw [z, here] at e
      cases e
      cases hd
  have md : L2.Mod K mg (hidT s₁.heap H) := ⟨inB, nsB hns, ⟨mb, nsB hb, hbb⟩, hlim.elim fun mc h => ⟨mc, nsB h.1, h.2⟩⟩
  have e0 : Env0 P w K mg (hidT s₁.heap H) callerA [] s₁ H := by
    refine ⟨rfl, md, fun _ _ => of_hidT, Nat.le_of_eq (hidT_size _ _), trivial, fun b m => ?_, hOk, .of_eq hg⟩
    cases (show b ∈ ([] : List Addr) from m)
  refine codeAny_mono ((F _ inB (nsB hns) tabs).run callerA [] s₁ H ⟨[.ref a], []⟩ [.ref a] [.ref a] _ _ (by rfl) hr e0 (hbind s₁ (.ref a)) (.cons rfl .nil) (hsp H tabH sq)) fun r s2 q => ?_
  match r, q with
  | .error z, q => exact (hCX H z s2 q).elim
  | .ok .next, q => exact q.elim
  | .ok .brk, q => exact q.elim
  | .ok .cont, q => exact q.elim
  | .ok (.ret u), q =>
    obtain ⟨v, H2, os, bare, un, ok2, rv, q1⟩ := q
    have q2 : v = V.bl true := q1
    rw [q2] at rv
    have ru : u = Value.bool true := rv
    have stay : ∀ (b : Addr) (o : Obj), b ∉ cs.map (·.2) → s₁.heap.get? b = some o → s2.heap.get? b = some o := fun b o m e => by
      cases z : H b with
      | none => exact un.keep b o e z (fun h => nomatch (show b ∈ ([] : List Addr) from h)) (fun h => nomatch (show b ∈ ([] : List Addr) from h))
      | some u0 =>
        rcases cases' z with ⟨m', _⟩ | ⟨_, _, hu⟩
        · exact (m m').elim
        · rw [hu] at z
          have e1 := (hOk b _ z).1
          have e2 := (ok2 b _ (un.frzs b _ _ z)).1
          rw [e] at e1
          cases e1
          exact e2
    have more : ∀ p ∈ cs, ∃ xs : Array Value, s2.heap.get? p.2 = some { cls := .none, data := .fields xs } := fun p hp =>
      let ⟨xs, z⟩ := un.tbls p.2 #[] (tabH p hp)
      ⟨_, ok2 p.2 _ z⟩
    refine ⟨by rw [ru], ⟨fun b o e => ?_, fun b o e => ?_⟩, os, bare⟩
    · by_cases m : b ∈ cs.map (·.2)
      · obtain ⟨p, hp, rfl⟩ := List.mem_map.mp m
        obtain ⟨xs, hx⟩ := more p hp
        have z := hT p hp
        rw [e] at z
        cases z
        exact .inr (.inl ⟨((C p hp).tab (hT p hp)).isCodeTable, rfl, #[], xs, rfl, by rw [Array.empty_append]; exact hx⟩)
      · exact .inl (stay b o m e)
    · by_cases m : b ∈ cs.map (·.2)
      · obtain ⟨p, hp, rfl⟩ := List.mem_map.mp m
        exact (more p hp).elim fun xs h => ⟨_, h⟩
      · exact ⟨o, stay b o m e⟩
end
/-- what is known of the law's promise at the head's heap h -/
def LawG (l : PySem.W.OpenLaw) (w : World) (K : PySem.W.Frag) (CX : CXT) (k n : Nat) (x : Str) (mg : Str → Option Value) (fa : Addr) (h : Heap) : Prop :=
  ∃ (fd : FuncData) (cs : List (Addr × Addr)) (sp : Sp), ((∀ p ∈ cs, h.get? p.2 = some tabO) ∧ (∀ p ∈ cs, K.lookup p.2 = none) ∧ ∀ p ∈ cs, PySem.W.CodeHd h p.1 p.2) ∧ (∀ (s : Shared) (u : Value), BindsTo s fd ⟨[u], []⟩ [(x, u)]) ∧
    (∀ (H : Hp) (a : Addr) (ns : List Int), ns.length ≤ n → (∀ z ∈ ns, Builtin.Int.intBits z ≤ 1048576) → (∀ p ∈ cs, H p.2 = some (.tbl #[])) → SqL K H a (ns.map V.int) → sp [.ref a] H (fun v _ => v = .bl true) fun _ _ _ => False) ∧
    ∀ base : Heap, K.In base → base.Ns mainGlobals mg → (∀ p ∈ cs, LamX.TabB base mg p.1 p.2) → FnG l.prog w K mg base CX k fa fd [x] sp
theorem walk_G {l : PySem.W.OpenLaw} {n k : Nat} {q : Program} {loose : List Str} {XP : (Str → Option Value) → Heap → Prop} {YP : World → Heap → Prop} {d : DefRec} {CX : World → CXT} {x : Str}
    (hn : l.most = some n) (hn2 : n ≤ sizeLine) (hdf : d.params.defaults = []) (hr : Room k callerA)
    (F : ∀ (w : World) (mg : Str → Option Value) (fa : Addr) (h : Heap), YP w h → h.Ns mainGlobals mg → mg d.name = some (.ref fa) → ∃ K : PySem.W.Frag, K.In h ∧ LawG l w K (CX w) k n x mg fa h)
    (hCX : ∀ (w : World) (H : Hp) (s : Shared) (e : Value) (s' : Shared), CX w [] H s (fun _ _ _ => False) e s' → False) : PySem.W.WalkO q loose XP YP l.row.toRowW d [] (fun f vs => PySem.call f vs) := by
  refine Att.attach_callB hn hdf fun w s₀ s₁ mg mb fa o pm cd doc a vs ns gr hy ho hd hcd hmg hobj hints hlen hbits hg => ?_
  obtain ⟨K, hK, fd, cs, sp, ⟨h1, h2, h3⟩, hb, hs, hF⟩ := F w mg fa _ hy gr.T.g hmg
  exact end_call hK gr.T.g gr.T.b gr.T.builtins gr.T.nolimit hg h1 h2 h3 gr.T.bmain hobj hints (Nat.le_trans hlen hn2) hr hF hb (fun H t z => hs H a ns hlen hbits t z) fun H e s2 => hCX w H s₁ e s2
end TL
namespace TL
open PySem PySem.Spec PyProof.Rows L2
/-! ### a caught exception as a value -/
/-- an exception object of the class cls at a -/
def ExV (cls : Value) (a : Addr) : HO := .ext fun h => ∃ (oe : Obj) (vs : Array Value), h.get? a = some oe ∧ Zc cls none oe ∧ oe.data = .fields vs
theorem exV_ok {P : Program} {w : World} {H : Hp} {h : Heap} {a : Addr} {cls : Value} {oe : Obj} {vs : Array Value} (e : h.get? a = some oe) (z : Zc cls none oe) (d : oe.data = .fields vs) : ObjOk P w H h a (ExV cls a) :=
  ⟨⟨oe, vs, e, z, d⟩, ⟨oe, e⟩, fun _ _ ⟨o, v, q, r⟩ k => ⟨o, v, k o q, r⟩⟩
section
variable {X : Cx} {pins : List (Addr × Obj)} {σ : L2.St} {H : Hp} {s : Shared} {a : Addr} {o : HO}
/-- what stands in the heap, new since the entry, is tracked from now on -/
theorem inv_track (I : Inv X pins σ H s) (n : H a = none) (n0 : X.s_0.heap.get? a = none) (nL : a ≠ X.env.locals) (nC : ∀ x c, X.env.cells.lookup x = some c → c ≠ a) (nP : ∀ p ∈ X.pn ++ pins, p.1 ≠ a)
    (new : ObjOk X.prog X.w (upd H a o) s.heap a o) : Inv X pins σ (upd H a o) s := by
  refine ⟨I.ok, I.os, I.bare, ⟨I.base.keep, I.base.slot, fun b u e q hx => ?_, I.base.there, fun b xs q => ?_, fun b u xs q => ?_, fun b ps q => ?_⟩, I.loc, I.cell, ?_, fun x c e => ?_, fun p hp => ?_, I.hok.laidN (fun _ _ q => q) n new, I.len⟩
  · rw [upd_ne (fun z => by rw [z, n0] at e; cases e)]
    exact I.base.free b u e q hx
  · have z := I.base.tups b xs q
    rw [upd_ne (ne_of_none z n)]
    exact z
  · have z := I.base.frzs b u xs q
    rw [upd_ne (ne_of_none z n)]
    exact z
  · obtain ⟨m, z⟩ := I.base.tbls b ps q
    exact ⟨m, by rw [upd_ne (ne_of_none z n)]; exact z⟩
  · rw [upd_ne nL.symm]
    exact I.free
  · rw [upd_ne (nC x c e)]
    exact I.freeC x c e
  · obtain ⟨z1, z2, z3⟩ := I.pin p hp
    exact ⟨z1, by rw [upd_ne (nP p hp)]; exact z2, z3⟩
end
/-- what the clause 'except c as n: y = n' wishes of an exception (slots i of n, j of y) -/
def wGot (K : PySem.W.Frag) (c : Value) (i j : Nat) (D : Ends) : WX := fun cls d σ H => PySem.W.exmOne K cls c = some true ∧ d = none ∧ ∀ a, H a = none → D.nx (((σ.set i (some (.ref a))).set j (some (.ref a))).set i none) (upd H a (ExV cls a))
section
variable {X : Cx} {x n y : Str} {c : Value} {i j : Nat} {body : List Stmt} {np pos pos' p1 p2 p3 : Pos} {tb : WX → TS}
theorem ps_got (st : X.stack = X.env :: X.outer) (fr : X.env.frame = some X.env.locals) (nd : X.N.Nodup) (hi : X.N[i]? = some n) (hj : X.N[j]? = some y) (li : X.env.kindOf n = some .local) (lj : X.env.scope.names.lookup y = some .local) (ly : X.env.scope.names.lookup n = some .local) (hc : Names X x c) (ex0 : X.ex = [])
    (dn : (n == ("__debug__" : Str)) = false) (dc : (n == ("__classdict__" : Str)) = false)
    (sw : ∀ a pn, swapsWith (.Name n p1) (some (.Name y p2)) p3.line (X.suite a pn).env = pure false)
    (hb : ∀ (W : WX) (pn : List (Addr × Obj)) (xe : Value → Shared → Prop), Takes (X.tr pn xe) W → PassesOwn (model X.prog X.w) X.A X.env xe → PSs (X.tr pn xe) body (tb W)) :
    PS X (.Try body [.ExceptHandler (some (.Name x np)) (some n) [.Assign [.Name y p2] (.Name n p1) p3] pos'] [] [] pos) (fun D σ H => tb (wGot X.K c i j D) D σ H) := ⟨fun pins s σ H D I h => by
  have ok := I.ok
  have frs0 : X.A.frames = some (X.env :: X.outer) := ok.frames.trans (congrArg some st)
  have lx : Loc X.env.scope n := .inl li
  let after : Value → Shared → Prop := fun e s₁ => wpAny (model X.prog X.w) X.A (noteFrame e X.env) (fun _ s₂ => wpAny (model X.prog X.w) X.A (setFlight e none) (fun _ s₃ =>
    wpAny (model X.prog X.w) X.A (handleBy e X.env [.ExceptHandler (some (.Name x np)) (some n) [.Assign [.Name y p2] (.Name n p1) p3] pos']) (SP X pins D) X.xe s₃) X.xe s₂) X.xe s₁
  have caught : Takes (X.tr (X.pn ++ pins) after) (wGot X.K c i j D) := fun u s' xx => by
    obtain ⟨a, B, sI, pins', σ', H', cls, d, rfl, J', nb, up, sky, na, os, ag, hex, rfl, hgo⟩ := xx
    have J : Inv X pins σ' H' sI := J'.ofTry ok
    have sky' : Sky B (X.env :: X.outer) a (Zc cls none) X.env.locals s'.heap := st ▸ sky
    show wpAny (model X.prog X.w) X.A (noteFrame (.ref a) X.env) _ _ _
    refine Sky.land Zc.steady frs0 fr sky' fun h3 fl3 up3 => ?_
    have J3 : Inv X pins σ' H' { s' with heap := h3 } := J.landed nb fl3.1 (up.trans up3) os ag
    obtain ⟨o3, v3, g3, z3, d3⟩ := fl3.there
    have out : ∀ {hh : Heap} {o : Obj} {vs : Array Value}, hh.FunFrames B (X.env :: X.outer) → hh.get? a = some o → o.data = .fields vs → a ∉ frs (X.env :: X.outer) := fun {hh o vs} ff e dd hm =>
      let ⟨_, o', e', k⟩ := ff.mem hm
      k vs (by rw [e] at e'; cases e'; exact dd)
    have away := out fl3.2.2.1 g3 d3
    have aL : a ≠ X.env.locals := fun z => away (List.mem_filterMap.mpr ⟨X.env, List.mem_cons_self, fr.trans (congrArg some z.symm)⟩)
    have aF : a ∉ X.fs := fun hm =>
      let ⟨e, he, q⟩ := List.mem_filterMap.mp hm
      away (List.mem_filterMap.mpr ⟨e, List.mem_cons_of_mem _ he, q⟩)
    have aB : B.get? a = none := fl3.2.1
    have aI : sI.heap.get? a = none := by
      cases q : sI.heap.get? a with
      | none => rfl
      | some o =>
        have z := nb a o q (by rw [st]; exact away)
        rw [aB] at z
        cases z
    have a0 : X.s_0.heap.get? a = none := by
      cases q : X.s_0.heap.get? a with
      | none => rfl
      | some o =>
        obtain ⟨o', z⟩ := J.base.there a o q (by rw [ex0]; exact fun z => nomatch z)
        rw [aI] at z
        cases z
    have aP : ∀ p ∈ X.pn ++ pins, p.1 ≠ a := fun p hp z => by
      have e := (J.pin p hp).1
      rw [z, aI] at e
      cases e
    have S3 := J3.suite g3 d3 na aL aF
    refine wpAny_handleBy_cons (codeAny_handlers_test ?_) nofun
    have tyA : PySem.W.Looks (model X.prog X.w) h3 (typeOf (.ref a)) cls := fun A Q E s k q => wpAny_typeOf_ref (k _ _ g3) (z3.1.symm ▸ q)
    have meet := PySem.W.exm_one (M := model X.prog X.w) J3.kIn tyA hex
    have test : ∀ {Q E : Value → Shared → Prop}, Q c { s' with heap := h3 } → wpAny (model X.prog X.w) (X.A.mark (some (.ref a))) (eval (.Name x np) X.env) Q E { s' with heap := h3 } := fun {Q E} q => by
      rcases hc with ⟨w1, w2, w3 | ⟨w3, w4, w5⟩⟩
      · exact ld_glob (X := X.suite a ((a, o3) :: (X.pn ++ pins))) S3 w1 w3 q w2
      · exact ld_blt (X := X.suite a ((a, o3) :: (X.pn ++ pins))) S3 w1 w3 w4 q w5 w2
    refine test (meet.here (codeAny_handlers_suite_as (HandSPX.lands_againZ fl3 fun h4 fl4 up4 => ?_)))
    have J4 : Inv X pins σ' H' { s' with heap := h4 } := J.landed nb fl4.1 ((up.trans up3).trans up4) os ag
    obtain ⟨o4, v4, g4, z4, d4⟩ := fl4.there
    refine store_ok (X := X.suite a ((a, o4) :: (X.pn ++ pins))) (v := .ref a) (J4.suite g4 d4 na aL aF) nd hi lx rfl (fun s5 S5 => ?_) (.inr ly)
    have inner : PSs (X.suite a ((a, o4) :: (X.pn ++ pins))) [.Assign [.Name y p2] (.Name n p1) p3] (tAsg (tVar i) (gName j)) :=
      pss_one (ps_set (X := X.suite a ((a, o4) :: (X.pn ++ pins))) nd hj (.inl lj) (pe_var hi (.inl ly) dn dc) (sw _ _) (.inr lj))
    have hil : i < σ'.length := by
      rw [J.len]
      exact (List.getElem?_eq_some_iff.mp hi).1
    refine wpAny_mono (inner.run [] s5 _ H' { nx := fun σ6 H6 => σ6 = (σ'.set i (some (.ref a))).set j (some (.ref a)) ∧ H6 = H', rt := fun _ _ => False } S5 ⟨.ref a, by simp [hil], rfl, rfl⟩) (fun f s6 q => ?_) fun _ _ z => z.elim
    match f, q with
    | .brk, ⟨_, _, _, z⟩ => exact z.elim
    | .cont, ⟨_, _, _, z⟩ => exact z.elim
    | .ret u, ⟨_, _, _, _, _, z⟩ => exact z.elim
    | .next, ⟨σ6, H6, S6, e6, k6⟩ =>
      subst e6 k6
      have here : s6.heap.get? a = some o4 := (S6.pin (a, o4) (List.mem_append_left _ List.mem_cons_self)).1
      have J6 : Inv X pins _ (upd H6 a (ExV cls a)) s6 := inv_track (S6.unsuite ok) na a0 aL (fun y2 c2 e2 z => by
        obtain ⟨v, oo, w1, w2⟩ := S6.cell y2 c2 e2
        rw [z, here] at w1
        cases w1
        rw [d4] at w2
        cases w2) aP (exV_ok here z4 d4)
      exact gone_ok J6 nd hi li fun s7 J7 => ⟨_, _, J7, hgo a na⟩
  refine wpAny_Try_except (wpAny_mono ((hb (wGot X.K c i j D) (X.pn ++ pins) after caught PassesOwn.looking).run [] s σ H D (I.toTry _) h) (fun f s1 q => ?_) fun e s1 he => he)
  match f, q with
  | .next, ⟨σ', H', J, q⟩ => exact wpAny_execs_nil ⟨σ', H', J.ofTry ok, q⟩
  | .brk, ⟨σ', H', J, q⟩ => exact ⟨σ', H', J.ofTry ok, q⟩
  | .cont, ⟨σ', H', J, q⟩ => exact ⟨σ', H', J.ofTry ok, q⟩
  | .ret u, ⟨v, σ', H', J, r, q⟩ => exact ⟨v, σ', H', J.ofTry ok, r, q⟩⟩
end
end TL
namespace TL
open PySem PySem.Spec PyProof.Rows L2
/-! ### isinstance of a caught exception -/
def rIsX (K : PySem.W.Frag) : List V → Hp → VK → Prop := fun xs H Q => ∃ (a D : Addr) (c : V) (u : Value) (b : Bool), xs = [.ref a, c] ∧ ClsV c u ∧ H a = some (ExV (.ref D) a) ∧ ExcC K D ∧ PySem.W.kitOne K (.ref D) u = some b ∧ Q (.bl b) H
def rIsiU (K : PySem.W.Frag) : List V → Hp → VK → Prop := fun xs H Q => rIsi K xs H Q ∨ rIsX K xs H Q
section
variable {X : Cx} {K : PySem.W.Frag} {M : Mode}
theorem call_isX : CallR X (.builtin "isinstance") (rIsX X.K) := fun pins s σ H xs us Q I r h => by
  obtain ⟨a, D, c, u, b, rfl, hc, ha, C, hk, q⟩ := h
  obtain ⟨u1, u2, rfl, r1, r2⟩ := vals2 r
  cases hc.eq r2
  cases (show u1 = Value.ref a from r1)
  obtain ⟨⟨⟨oc, od, dt, sl⟩, vs, e, ⟨z1, z2⟩, d⟩, _⟩ := I.hok a _ ha
  dsimp only at z1 z2 d
  subst z1 z2 d
  have J : PySem.W.InstAt s.heap a ⟨.ref D, none, .fields vs, sl⟩ D none := ⟨e, rfl, rfl, trivial⟩
  exact PySem.W.kia_one (PySem.W.handS_kitx_exc C.hg C.hk C.hs C.hd C.ha C.hn C.ht C.hm) I.kIn J hk nofun fun tk => ⟨.bl b, H, I.tok tk, rfl, q⟩
theorem call_isiU : CallR X (.builtin "isinstance") (rIsiU X.K) := CallR.or call_isi call_isX
/-- isinstance(e, C), e caught or None, C a class of the text -/
def gIsX (K : PySem.W.Frag) : GC := fun ts q => match ts with
  | [.non, .raw (.ref C)] => ∃ b, PySem.W.kitOne K (.type "NoneType") (.ref C) = some b ∧ q (.sh (.bl b))
  | [.ob f, .raw (.ref C)] => ∃ D b, f = ExV (.ref D) ∧ ExcC K D ∧ PySem.W.kitOne K (.ref D) (.ref C) = some b ∧ q (.sh (.bl b))
  | _ => False
theorem simc_isX : SimC K M (rIsiU K) (gIsX K) := fun ts q e vs G H i ok Q hq => by
  unfold gIsX at e
  split at e
  · obtain ⟨b, hb, e⟩ := e
    cases i with
    | cons i1 i =>
      cases i with
      | cons i2 i =>
        cases i; cases i1; cases i2
        exact .inl ⟨_, _, _, _, b, rfl, .own _, .base .non, hb, hq _ (.sh _) G H (.refl ok) .bl e⟩
  · obtain ⟨D, b, rfl, C, hb, e⟩ := e
    cases i with
    | cons i1 i =>
      cases i with
      | cons i2 i =>
        cases i; cases i2
        cases i1 with
        | ob h => exact .inr ⟨_, D, _, _, b, rfl, .own _, ok.sub _ _ h, C, hb, hq _ (.sh _) G H (.refl ok) .bl e⟩
  · exact e.elim
end
/-! ### a lambda handed to a def: what changes besides the one table is nothing -/
def ExtP (P : Addr) (H H' : Hp) : Prop := ∀ b o, b ≠ P → H b = some o → H' b = some o
section
variable {X : Cx} {pins : List (Addr × Obj)} {σ : L2.St} {H : Hp} {s : Shared}
theorem lam_new {T : Tb} {c P : Addr} {q : Str} {params : Arguments} {body : Expr} {scope : Scope} {pos : Pos} {E Q : Value → Shared → Prop} (I : Inv X pins σ H s) (B : LamX.TabB X.base X.mg c P) (hcode : X.env.code = .ref c) (hq : q = X.env.qual ++ "<lambda>")
    (hm : (P, q) ∈ T) (hu : ∀ p ∈ T, p.1 = P → p.2 = q) (hT : LamX.Tabs T H) (hdef : defaultsOf params X.env = ([], [])) (hfree : ∀ y ∈ scope.names, y.2 = .free → ∃ c, X.env.cells.lookup y.1 = some c)
    (h : ∀ (f c' : Addr) (pm ctv : Value) (H1 : Hp) (s' : Shared), Inv X pins σ H1 s' → ExtP P H H1 → LamX.Tabs T H1 → s'.heap.get? f = some (PySem.W.kla_obj "<lambda>" q params body scope (cloFrom X.env.cells scope.names []) pm c' ctv) →
      H1 f = none → f ∉ frs X.stack → H1 c' = some (LamX.CodeO c' q) → Q (.ref f) s') : wpAny (model X.prog X.w) X.A (eval (.Lambda params body scope pos) X.env) Q E s := by
  subst hq
  obtain ⟨ps, tP, tOk, tAll⟩ := hT _ hm
  have bi : s.heap.BuiltinsAt X.mg P := B.bm.keeps I.bk
  have oP : s.heap.get? P = some { cls := .none, data := .fields ps } := I.hok P _ tP
  have far : ∀ f, s.heap.objs.size ≤ f → f ∉ frs X.stack := fun f hf z => (List.mem_cons.mp (I.stkSub _ z)).elim (fun e => absurd (e ▸ I.lt : f < _) (Nat.not_lt.mpr hf)) fun e => I.nofs hf e
  refine PySem.W.kla_eval hdef ?_
  cases hit : codeAmong pos ps.toList with
  | some cv =>
    obtain ⟨c', rfl, known⟩ := tAll pos cv hit
    refine PySem.W.kla_makeFunctionHit (c := c) (P := P) (ps := ps) (closure_ok hfree) I.ok.glob (I.mod.glob.keeps I.bk) hcode (B.code.keeps I.bk) oP tOk hit bi fun ctv h' tk hx hsz => ?_
    exact h h'.objs.size c' _ ctv H _ (I.kept (t' := tk) fun b o e => Heap.get?_push_of_some _ (hx b o e)) (fun _ _ _ z => z) hT (Heap.get?_push_size _ rfl) (I.hok.fresh hsz) (far _ hsz) known
  | none =>
    refine PySem.W.kla_makeFunction (c := c) (P := P) (ps := ps) (closure_ok hfree) I.ok.glob (I.mod.glob.keeps I.bk) hcode (B.code.keeps I.bk) oP tOk hit B.gP bi fun c' ctv h' tk hx hge hlt hrec htb => ?_
    obtain ⟨c2, oc, vs, t, e2, g1, g2, g3⟩ := hrec
    cases e2
    have le : s.heap.objs.size ≤ h'.objs.size := Nat.le_trans hge (Nat.le_of_lt hlt)
    have fr : H c' = none := I.hok.fresh hge
    have J := LamX.inv_table (t' := tk) (more := #[rawInt pos.line, rawInt pos.col, .ref c']) (q := X.env.qual ++ "<lambda>") (h' := h'.push (PySem.W.kla_obj "<lambda>" (X.env.qual ++ "<lambda>") params body scope (cloFrom X.env.cells scope.names []) ((X.mg "__name__").getD .none) c' ctv)) I tP
      (fun b o n e => Heap.get?_push_of_some _ (hx b o n e)) (Heap.get?_push_of_some _ htb) hge ⟨oc, vs, t, Heap.get?_push_of_some _ g1, g2, g3⟩
    have ext : ExtP P H (upd (upd H P (.tbl (ps ++ #[rawInt pos.line, rawInt pos.col, .ref c']))) c' (LamX.CodeO c' (X.env.qual ++ "<lambda>"))) := fun b o n e => by
      rw [upd_ne (ne_of_none e fr), upd_ne n]
      exact e
    have code : ∀ d, H d = some (LamX.CodeO d (X.env.qual ++ "<lambda>")) → d ≠ P := fun d e z => by
      rw [z, tP] at e
      exact LamX.codeO_ne ps (Option.some.inj e).symm
    have codes : ∀ d w, H d = some (LamX.CodeO d w) → d ≠ P := fun d w e z => by
      rw [z, tP] at e
      exact LamX.codeO_ne ps (Option.some.inj e).symm
    refine h h'.objs.size c' _ ctv _ _ J ext (fun p hp => ?_) (Heap.get?_push_size _ rfl) ?_ (far _ le) upd_same
    · by_cases at_ : p.1 = P
      · rw [hu p hp at_, at_]
        refine ⟨_, (upd_ne (ne_of_none tP fr)).trans upd_same, by rw [Array.toList_append]; exact PySem.TriplesOk_snoc _ _ _ _ tOk, fun p' cv hcv => ?_⟩
        rw [Array.toList_append] at hcv
        rcases LamX.among_app _ tOk hcv with z | z
        · obtain ⟨c0, e1, e2⟩ := tAll p' cv z
          exact ⟨c0, e1, ext _ _ (code c0 e2) e2⟩
        · exact ⟨c', z, upd_same⟩
      · obtain ⟨qs, a1, a2, a3⟩ := hT p hp
        refine ⟨qs, ext _ _ at_ a1, a2, fun p' cv hcv => ?_⟩
        obtain ⟨c0, e1, e2⟩ := a3 p' cv hcv
        exact ⟨c0, e1, ext _ _ (codes c0 _ e2) e2⟩
    · rw [upd_ne (Nat.ne_of_gt hlt), upd_ne (Nat.ne_of_gt (Nat.lt_of_lt_of_le (Heap.lt_size oP) le))]
      exact I.hok.fresh le
end
/-- x(lambda: body): P the def's table -/
def tLamP (T : Tb) (P : Addr) (TT : (XK → Hp → VK → Prop) → Hp → VK → Prop) (t : XK → TE) : TE := fun σ H Q => LamX.Tabs T H ∧ ∀ H1, ExtP P H H1 → LamX.Tabs T H1 → TT (fun E H' Q' => t E σ H' Q') H1 Q
section
variable {X : Cx}
theorem pe_lamP {T : Tb} {TT : (XK → Hp → VK → Prop) → Hp → VK → Prop} {x a : Str} {g c P : Addr} {k : Nat} {pg : Arguments} {bg : List Stmt} {sg : Scope} {gd : FuncData} {Ng : List Str} {params : Arguments} {body : Expr} {scope : Scope} {t : XK → TE} {p lpos pos : Pos}
    (hg : Gl X x) (hm : X.mg x = some (.ref g)) (D : FunD X.K x x pg bg sg [] [] g gd) (hb : L2.Binds X.K gd [a] []) (Sg : FnScope Ng [a] sg) (hNg : Ng[0]? = some a) (hva : Vis sg a)
    (hG : ∀ cdv, LamX.GivesTo X Ng x sg g cdv bg a (X.env.qual ++ "<lambda>") TT)
    (B : LamX.TabB X.base X.mg c P) (hcode : X.env.code = .ref c) (hmT : (P, X.env.qual ++ "<lambda>") ∈ T) (hu : ∀ p ∈ T, p.1 = P → p.2 = X.env.qual ++ "<lambda>") (hr : Room (k + 2) X.A) (L : LamX.LamS X.env.scope scope) (hdef : defaultsOf params X.env = ([], []))
    (hbind : ∀ (q : Str) (cl : List (Str × Addr)) (pm cv ctv : Value), bindArgs (PySem.W.kla_fn "<lambda>" q params body scope cl pm cv ctv) ⟨[], []⟩ = pure [])
    (hbody : ∀ (A : Around) (outer : List Env) (s : Shared) (H : Hp) (E : XK) (f c' : Addr), Room k (A.deeper (LamX.lamEnv X scope s.heap.objs.size f c')) → PE (LamX.lamCx X A outer s H E scope f c') body (t E))
    (hdb : (x == ("__debug__" : Str)) = false := by decide) (hd : (a == ("__debug__" : Str)) = false := by decide) (hcd : (a == ("__classdict__" : Str)) = false := by decide) :
    PE X (.Call (.Name x p) [.Lambda params body scope lpos] [] pos) (tLamP T P TT t) := ⟨fun pins s σ H Q I ⟨hT, h⟩ => by
  obtain ⟨oc, od, dV, kV, doc, pm, an, cdv, ct, osl, rfl, lk, hcg, _, _⟩ := D.ex
  refine wpAny_Call_Name_kw (ld_glob I hg hm (PySem.W.callWith_K (h₀ := X.base) I.ok.mod.kin D.kp ?_ (by rfl) (by rfl)) hdb)
  show wpAny _ _ (spliced ((false, eval (.Lambda params body scope lpos) X.env) :: backTo pos (starEach [] X.env))) _ _ s
  refine Calls.spliced_cons (lam_new I B hcode rfl hmT hu hT hdef (L.has I.ok) fun f c' pm' ctv H1 s1 I1 eN T1 hf hfn hfr hco => Calls.spliced_nil ⟨I1.kIn, ?_⟩)
  have run : codeAny (model X.prog X.w) X.A (.call (.ref g) ⟨[.ref f], []⟩) (CR C8.CX0 X.stack X.prog X.w H1 s1 Q C8.E0) s1 :=
    LamX.run_ofS (N := Ng) (ps := [a]) (us := [.ref f]) (vs := [.ref f]) lk hcg Sg hr I1.env0 (hb s1 [.ref f] I1.kIn rfl) (.cons rfl .nil) rfl fun hr2 =>
      let ⟨w, hw, hq⟩ := hG cdv f c' s1 H1 Q (fun E H' Q' => t E σ H' Q') (fun W pn xe E q1 q2 tk hW => LamX.pe_act (i := 0) I1 L hf hfn hfr (hbind _ _ _ _ _) tk hW hr2 (fun A outer s H hr3 => hbody A outer s H E f c' hr3) hNg hva hd hcd) hco (h H1 eN T1)
      ⟨w, hw.nox, hq⟩
  refine wpAny_call (codeAny_mono run fun r s2 q => ?_)
  match r, q with
  | .error e, q => exact (show False from q).elim
  | .ok (.ret u), q => exact I1.after q
  | .ok .next, q => exact q.elim
  | .ok .brk, q => exact q.elim
  | .ok .cont, q => exact q.elim⟩
end
/-! ### caught = None; try: work() except X as error: caught = error; return caught -/
def TTgot (K : PySem.W.Frag) (CS : Addr) : (XK → Hp → VK → Prop) → Hp → VK → Prop := fun tl H Q =>
  tl (fun cls d H' => PySem.W.exmOne K cls (.ref CS) = some true ∧ d = none ∧ ∀ a, H' a = none → Q (.ref a) (upd H' a (ExV cls a))) H fun _ H' => Q .non H'
theorem takes_len {X : Cx} {W : WX} (t : Takes X W) : Takes X (fun c d σ H => σ.length = X.N.length → W c d σ H) := fun u s' ⟨a, B, sI, pins, σ, H, cls, d, e, I, nb, up, sky, na, os, ag, w⟩ =>
  t u s' ⟨a, B, sI, pins, σ, H, cls, d, e, I, nb, up, sky, na, os, ag, w I.len⟩
abbrev gotBody (x : Str) (p1 p2 p3 p4 p5 p6 p7 p8 p9 p10 p11 p12 p13 p14 : Pos) (j : Nat) : List Stmt :=
  [.Assign [.Name "caught" p1] (.Constant .none j p2) p3, .Try [.Expr (.Call (.Name "work" p4) [] [] p5) p6] [.ExceptHandler (some (.Name x p7)) (some "error") [.Assign [.Name "caught" p8] (.Name "error" p9) p10] p11] [] [] p12, .Return (some (.Name "caught" p13)) p14]
theorem pe_up {X : Cx} {e : Expr} {te : TE} (he : PE X e te) : PE X e (fun σ H Q => ∃ R : VK, te σ H R ∧ ∀ v H', R v H' → Q v H') := ⟨fun pins s σ H Q I ⟨R, h, k⟩ => wpAny_mono (he.run pins s σ H R I h) (fun v s1 ⟨x, H1, I1, r, q⟩ => ⟨x, H1, I1, r, k _ _ q⟩) fun _ _ z => z⟩
theorem got_gives {X : Cx} {e x q : Str} {sg : Scope} {g CS : Addr} {cdg : Value} {p1 p2 p3 p4 p5 p6 p7 p8 p9 p10 p11 p12 p13 p14 : Pos} {j : Nat} (hge : sg.names.lookup e = some .globalImplicit) (hme : X.mg e = some (.ref CS)) (hde : (e == ("__debug__" : Str)) = false)
    (l1 : sg.names.lookup ("caught" : Str) = some .local) (l2 : sg.names.lookup ("error" : Str) = some .local) :
    LamX.GivesTo X ["work", "caught", "error"] x sg g cdg (gotBody e p1 p2 p3 p4 p5 p6 p7 p8 p9 p10 p11 p12 p13 p14 j) "work" q (TTgot X.K CS) := by
  intro f c' s H Q tl act hc h
  have nd : (["work", "caught", "error"] : List Str).Nodup := by decide +kernel
  refine ⟨_, pss_cons (ps_set (X := (cxOf C8.CX0 X.prog X.w X.K X.mg X.base ["work", "caught", "error"] x sg g cdg X.A X.stack s H C8.E0).nox) (i := 1) nd rfl (.inl l1) pe_non (by rfl) (.inr l1)) (pss_cons (ps_got (X := (cxOf C8.CX0 X.prog X.w X.K X.mg X.base ["work", "caught", "error"] x sg g cdg X.A X.stack s H C8.E0).nox) (c := .ref CS) (i := 2) (j := 1)
      (tb := fun W D σ H => ∃ Ech : XK, (∀ cls d σ' H', σ'.length = 3 → Ech cls d H' → W cls d σ' H') ∧ σ[0]? = some (some (.ref f)) ∧ H c' = some (LamX.CodeO c' q) ∧ ∃ R : VK, tl Ech H R ∧ ∀ v H', R v H' → D.nx σ H') rfl rfl nd rfl rfl l2 l1 l2 ⟨hge, hde, .inl hme⟩ rfl (by decide) (by decide) (fun _ _ => rfl) (fun W pn xe tk _ => ?_))
      (pss_one (ps_ret (pe_var (i := 1) rfl (.inl l1))))), ?_⟩
  · refine ⟨fun pins s' σ H' D I h' => ?_⟩
    obtain ⟨Ech, hW, h1, h2, R, h3, h4⟩ := h'
    exact (pss_one (ps_expr (pos := p6) (pe_up (act (fun c d σ H => σ.length = 3 → W c d σ H) pn xe Ech p4 p5 (takes_len tk) fun c d σ' H' z l => hW c d σ' H' l z)))).run pins s' σ H' D I ⟨R, ⟨h1, h2, h3⟩, h4⟩
  · exact ⟨fun cls d H' => PySem.W.exmOne X.K cls (.ref CS) = some true ∧ d = none ∧ ∀ a, H' a = none → Q (.ref a) (upd H' a (ExV cls a)), fun cls d σ' H' hl ⟨z1, z2, z3⟩ => ⟨z1, z2, fun a ha => ⟨.ref a, by simp [hl], z3 a ha⟩⟩, rfl, hc, _, h, fun v H' z => ⟨.non, rfl, z⟩⟩
end TL
namespace TL
open PySem PySem.Spec PyProof.Rows L2
/-! ### a, b = (.., ..): each as it is -/
def sAsg2 (i j : Nat) (a b : TEx) : TSx := fun τ k => a τ (fun s => b τ (fun u => k.nx ((τ.set i s).set j u)) k.ex) k.ex
section
variable {K : PySem.W.Frag} {M : Mode} {E : XK} {i j : Nat} {ta tb : TE} {a b : TEx}
theorem sims_par (ha : SimE K M E ta a) (hb : SimE K M E tb b) : SimS K M E (tPar i j (tCons ta (tCons tb tNil))) (sAsg2 i j a b) := fun G0 H0 ok τ k e σ G H w D d =>
  ha τ _ _ e σ G H (w.w1 ok) _ (fun x s1 G1 H1 g1 r1 e1 => by
    have w1 := w.put ok i g1 r1
    refine hb τ _ _ e1 σ G1 H1 ((w.next ok g1).w1 ok) _ (fun y s2 G2 H2 g2 r2 q => ?_) ((d.ex.at w.go).go g1)
    exact ⟨x, y, rfl, d.nx _ _ G2 H2 (w1.put ok j g2 r2) (g1.gg.trans g2.gg) q⟩) (d.ex.at w.go)
theorem sims_par' (ha : SimE K M E ta a) (hb : SimE K M E tb b) : SimS K M E (tAsg (tTup (tCons ta (tCons tb tNil))) (L2.gTup K 2 (gCons (gName i) (gCons (gName j) gNil)))) (sAsg2 i j a b) := fun G0 H0 ok τ k e σ G H w D d =>
  ha τ _ _ e σ G H (w.w1 ok) _ (fun x s1 G1 H1 g1 r1 e1 => by
    have w1 := w.put ok i g1 r1
    refine hb τ _ _ e1 σ G1 H1 ((w.next ok g1).w1 ok) _ (fun y s2 G2 H2 g2 r2 q => ?_) ((d.ex.at w.go).go g1)
    refine ⟨by rw [sizeLine_eq]; exact (by decide : (2 : Nat) ≤ 16777216), fun p hp => ⟨p, [x, y], rfl, SqT.of upd_same, rfl, _, _, rfl, _, _, rfl, rfl, ?_⟩⟩
    have w2 := w1.put ok j g2 r2
    have g3 : Go M G2 H2 G2 (upd H2 p (.tup [x, y])) := .lay (w2.w1 ok).ok hp
    exact d.nx _ _ G2 _ (w2.next ok g3) (g1.gg.trans g2.gg) q) (d.ex.at w.go)
end
section
variable {X : Cx} {M : Mode} {E : XK} {a b : Expr} {ta tb : TE} {ga gb : TEx} {pos px py pt pt2 : Pos} {x y : Str} {kt k2 : Nat}
/-- two plain locals -/
theorem gs_par (i j : Nat) {kt k2} (hc : X.calm = true) (hN : X.N.Nodup) (ha : GE X M E a ta ga) (hb : GE X M E b tb gb) (hi : X.N[i]? = some x := by rfl) (hj : X.N[j]? = some y := by rfl) (hij : i ≠ j := by decide)
    (hx : X.env.scope.names.lookup x = some .local := by rfl) (hy : X.env.scope.names.lookup y = some .local := by rfl) (hw : swappedStores [.Tuple [.Name x px, .Name y py] kt pt] (.Tuple [a, b] k2 pt2) X.env = pure (some [x, y]) := by rfl)
    (hs : swapsWithSole [.Tuple [.Name x px, .Name y py] kt pt] (.Tuple [a, b] k2 pt2) pos.line X.env = pure false := by rfl) (h1 : starEach [a, b] X.env = (false, eval a X.env) :: starEach [b] X.env := by rfl) (h2 : starEach [b] X.env = (false, eval b X.env) :: starEach [] X.env := by rfl) :
    GS X M E (.Assign [.Tuple [.Name x px, .Name y py] kt pt] (.Tuple [a, b] k2 pt2) pos) (tPar i j (tCons ta (tCons tb tNil))) (sAsg2 i j ga gb) := ⟨ps_par hc hN hi hj hij hx hy (pa_cons ha.p (pa_cons hb.p pa_nil h2) h1) hw hs, sims_par ha.s hb.s⟩
/-- others -/
theorem gs_par' (i j : Nat) {kt k2} (hc : X.calm = true) (hN : X.N.Nodup) (ha : GE X M E a ta ga) (hb : GE X M E b tb gb) (hi : X.N[i]? = some x := by rfl) (hj : X.N[j]? = some y := by rfl) (hx : Loc X.env.scope x := by first | exact .inl rfl | exact .inr rfl) (hy : Loc X.env.scope y := by first | exact .inl rfl | exact .inr rfl)
    (fx : X.fn x = true ∨ X.env.scope.names.lookup x = some .local := by first | exact .inl rfl | exact .inr rfl) (fy : X.fn y = true ∨ X.env.scope.names.lookup y = some .local := by first | exact .inl rfl | exact .inr rfl)
    (hs : swapsWithSole [.Tuple [.Name x px, .Name y py] kt pt] (.Tuple [a, b] k2 pt2) pos.line X.env = pure false := by rfl) (hw : swappedStores [.Tuple [.Name x px, .Name y py] kt pt] (.Tuple [a, b] k2 pt2) X.env = pure none := by rfl) (h1 : (assignEach [.Tuple [.Name x px, .Name y py] kt pt] X.env).map (·.2) = [assign (.Tuple [.Name x px, .Name y py] kt pt) X.env] := by rfl)
    (g1 : starEach [a, b] X.env = (false, eval a X.env) :: starEach [b] X.env := by rfl) (g2 : starEach [b] X.env = (false, eval b X.env) :: starEach [] X.env := by rfl) :
    GS X M E (.Assign [.Tuple [.Name x px, .Name y py] kt pt] (.Tuple [a, b] k2 pt2) pos) (tAsg (tTup (tCons ta (tCons tb tNil))) (L2.gTup X.K 2 (gCons (gName i) (gCons (gName j) gNil)))) (sAsg2 i j ga gb) :=
  ⟨ps_asg (pe_tup (pa_cons ha.p (pa_cons hb.p pa_nil g2) g1)) (pg_tup hc (pgs_cons (pg_name hN hi hx fx) (pgs_cons (pg_name hN hj hy fy) pgs_nil))) hs hw h1, sims_par' ha.s hb.s⟩
end
/-! ### f(k = .., ..) -/
def perm {α : Type} (d : α) (is : List Nat) (xs : List α) : List α := is.map fun i => xs.getD i d
theorem vals_perm {vs : List V} {us : List Value} (r : Vals vs us) : ∀ is : List Nat, Vals (perm .non is vs) (perm .none is us)
  | [] => .nil
  | i :: is => .cons (by
    by_cases h : i < vs.length
    · have h' : i < us.length := by rw [← r.length]; exact h
      obtain ⟨u, hu, ru⟩ := r.get (List.getElem?_eq_getElem h)
      have e : us.getD i .none = u := by rw [List.getD_eq_getElem?_getD, hu]; rfl
      have e2 : vs.getD i .non = vs[i] := by rw [List.getD_eq_getElem?_getD, List.getElem?_eq_getElem h]; rfl
      show L2.RelV (vs.getD i .non) (us.getD i .none)
      rw [e, e2]
      exact ru
    · have h' : ¬ i < us.length := by rw [← r.length]; exact h
      have e : us.getD i .none = .none := by rw [List.getD_eq_getElem?_getD, List.getElem?_eq_none (by omega)]; rfl
      have e2 : vs.getD i .non = .non := by rw [List.getD_eq_getElem?_getD, List.getElem?_eq_none (by omega)]; rfl
      show L2.RelV (vs.getD i .non) (us.getD i .none)
      rw [e, e2]
      rfl) (vals_perm r is)
theorem IsAll.perm {K : PySem.W.Frag} {G : Hp} {vs : List V} {ts : List T} (r : IsAll K G vs ts) : ∀ is : List Nat, IsAll K G (perm .non is vs) (perm .non is ts)
  | [] => .nil
  | i :: is => .cons (by
    by_cases h : i < ts.length
    · obtain ⟨v, hv, iv⟩ := r.get (List.getElem?_eq_getElem h)
      have e : vs.getD i .non = v := by rw [List.getD_eq_getElem?_getD, hv]; rfl
      have e2 : ts.getD i .non = ts[i] := by rw [List.getD_eq_getElem?_getD, List.getElem?_eq_getElem h]; rfl
      show Is K G (vs.getD i .non) (ts.getD i .non)
      rw [e, e2]
      exact iv
    · have h' : ¬ i < vs.length := by rw [r.length]; exact h
      have e : vs.getD i .non = .non := by rw [List.getD_eq_getElem?_getD, List.getElem?_eq_none (by omega)]; rfl
      have e2 : ts.getD i .non = .non := by rw [List.getD_eq_getElem?_getD, List.getElem?_eq_none (by omega)]; rfl
      show Is K G (vs.getD i .non) (ts.getD i .non)
      rw [e, e2]
      exact .non) (r.perm is)
def KwB (fd : FuncData) (ps ks : List Str) (is : List Nat) : Prop := ∀ (s : Shared) (ws : List Value), ws.length = ks.length → BindsTo s fd ⟨[], ks.zip ws⟩ (ps.zip (perm .none is ws))
theorem kwB_of {K : PySem.W.Frag} {x qual : Str} {params : Arguments} {body : List Stmt} {scope : Scope} {f : Addr} {fd : FuncData} {ps ks : List Str} {is : List Nat} (F : FunD K x qual params body scope [] [] f fd)
    (h : ∀ (kV doc pm : Value) (an : Option Addr) (cdv ct : Value) (ws : List Value), ws.length = ks.length → bindArgs (PySem.W.fnOf x qual params body scope .none kV doc pm an cdv ct) ⟨[], ks.zip ws⟩ = pure (ps.zip (perm .none is ws))) : KwB fd ps ks is := fun s ws hl => by
  obtain ⟨oc, od, dV, kV, doc, pm, an, cdv, ct, osl, rfl, lk, hcd, hD, hK⟩ := F.ex
  rcases hD with ⟨_, rfl⟩ | ⟨e, _⟩
  · exact .of_eq (h kV doc pm an cdv ct ws hl)
  · exact absurd rfl e
def tCallW (sp : Sp) (is : List Nat) (E : XK) (tk : TA) : TE := fun σ H Q => tk σ H fun zs H1 => zs.length = is.length ∧ sp (perm .non is zs) H1 Q E
def gCallW (M : Mode) (sp : SpX) (is : List Nat) (a : TAx) : TEx := fun τ q r => a τ (fun ts => ts.length = is.length ∧ sp M (perm .non is ts) q r) r
section
variable {X : Cx} {M : Mode} {E : XK} {kws : List Keyword} {t : TA} {gt : TAx} {x : Str} {p pos : Pos} {CX : CXT} {k : Nat} {f : Addr} {fd : FuncData} {ps ks : List Str}
theorem ge_kw {sp : SpX} {is : List Nat} (F : FnOk X.prog X.w X.K X.mg X.base CX k f fd ps (lift X.K sp)) (hr : Room k X.A) (hm : X.mg x = some (.ref f)) (hk : PySem.W.keepIn X.K (.ref f) = true) (hb : KwB fd ps ks is) (hx : Passes CX X E) (ha : GK X M E kws t gt)
    (hl : is.length = ks.length := by rfl) (hg : Gl X x := by rfl) (hdb : (x == ("__debug__" : Str)) = false := by decide) (hall : (backToKw pos (keywordEach kws X.env)).all (·.1.isSome) = true := by rfl) (hks : (backToKw pos (keywordEach kws X.env)).filterMap (·.1) = ks := by rfl)
    (hpl : ((backTo pos (starEach [] X.env)).any (·.1) || (backToKw pos (keywordEach kws X.env)).any (·.1.isNone)) = false := by rfl) : GE X M E (.Call (.Name x p) [] kws pos) (tCallW (lift X.K sp) is E t) (gCallW M sp is gt) :=
  ⟨⟨fun pins s σ H Q I h => by
    refine wpAny_Call_Name_kw (ld_glob I hg hm ?_ hdb)
    refine PySem.W.callWith_KW0 (h₀ := X.base) I.ok.mod.kin hk hall (thn (ha.p.run pos pins s σ H _ I h) fun ws s2 ⟨zs, H2, I2, rz, q1, q2⟩ => ⟨I2.kIn, ?_⟩) hpl
    rw [hks]
    refine wpAny_call (codeAny_mono (F.run X.A X.stack s2 H2 ⟨[], ks.zip ws⟩ (perm .none is ws) (perm .non is zs) Q E hr I2.env0 (hb s2 ws (by rw [← rz.length, q1, hl])) (vals_perm rz is) q2) fun o s3 ho => ?_)
    match o, ho with
    | .error z, ho => exact hx pins σ H2 s2 z s3 I2 ho
    | .ok (.ret u), ho => exact I2.after ho
    | .ok .next, ho => exact ho.elim
    | .ok .brk, ho => exact ho.elim
    | .ok .cont, ho => exact ho.elim⟩, fun τ q r e σ G H w Q hq hxp => ha.s τ _ r e σ G H w _ (fun vs ts G1 H1 g1 i1 ⟨q1, q2⟩ =>
    ⟨by rw [i1.length]; exact q1, M, G1, _, q, r, w.ok.go g1, i1.perm is, q2, fun v s G2 H2 g2 rs qs => hq v s G2 H2 (g1.trans g2) (rs.early g1) qs, hxp.go g1⟩) hxp⟩
/-- {} -/
def gD0 : TEx := fun _ q _ => q (.od [])
theorem ge_d0 : GE X M E (.Dict [] [] pos) tDNewK gD0 := ⟨pe_dnewK, fun τ q r e σ G H w Q hq _ p hp => hq _ (.od []) G _ (.lay w.ok hp) ⟨p, [], rfl, hp, upd_same, w.ok.fresh hp, .nil⟩ e⟩
end
/-! ### x(lambda: ..), x tells what was caught -/
structure LamM (M : Mode) (Z : Tb) (P : Addr) : Prop where
  s : M.S P
  tabs : ∀ H, M.J H → LamX.Tabs Z H
  ext : ∀ H H1, M.J H → ExtP P H H1 → LamX.Tabs Z H1 → M.J H1
  at_ : ∃ q, (P, q) ∈ Z
theorem lamM_T {Z : Tb} {P : Addr} {q : Str} (h : (P, q) ∈ Z) : LamM (MT Z) Z P := ⟨⟨_, h, rfl⟩, fun _ j => j, fun _ _ _ _ j => j, q, h⟩
theorem lamM_D {Z : Tb} {d L C P : Addr} {cs : List Int} {q : Str} (h : (P, q) ∈ Z) : LamM (DM d L C cs Z) Z P := by
  refine ⟨.inr ⟨_, h, rfl⟩, fun _ j => j.2, fun H H1 ⟨w, j⟩ x t => ?_, q, h⟩
  obtain ⟨ps, hP, _⟩ := j _ h
  have hP' : H P = some (.tbl ps) := hP
  obtain ⟨r, t0, hd⟩ := w.d
  obtain ⟨ls, hl⟩ := w.l
  have hc := w.c
  refine ⟨⟨w.ne, ⟨r, t0, x _ _ (fun z => ?_) hd⟩, ⟨ls, x _ _ (fun z => ?_) hl⟩, x _ _ (fun z => ?_) w.c⟩, t⟩
  · rw [← z, hd] at hP'
    cases hP'
  · rw [← z, hl] at hP'
    cases hP'
  · rw [z, hP'] at hc
    cases hc
theorem LamM.go {M : Mode} {Z : Tb} {P : Addr} (l : LamM M Z P) {G H H1 : Hp} (ok : Ok M G H) (x : ExtP P H H1) (t : LamX.Tabs Z H1) : Go M G H G H1 := by
  have nP : G P = none := ok.s P l.s
  refine ⟨.refl _, fun b o e => x b o (ne_of_none e nP) (ok.sub b o e), fun b o n e => x b o (fun z => n (by rw [z]; exact l.s)) e, fun b e => ?_, fun _ h _ => h, l.ext H H1 ok.j x t⟩
  by_cases hb : b = P
  · obtain ⟨q, hq⟩ := l.at_
    obtain ⟨ps, hP, _⟩ := t _ hq
    rw [hb, hP]
    exact fun z => nomatch z
  · cases h : H b with
    | none => exact absurd h e
    | some o =>
      rw [x b o hb h]
      exact fun z => nomatch z
/-- what is handed back for what is caught -/
def gotX (K : PySem.W.Frag) (CS : Addr) (q : Sl → Prop) : Xn → Prop := fun x => PySem.W.exmOne K x.cls (.ref CS) = some true ∧ x.fs = none ∧ q (.sh (.ob (ExV x.cls)))
def gGot (K : PySem.W.Frag) (CS : Addr) (g : TEx) : TEx := fun τ q _ => g τ (fun _ => q (.sh .non)) (gotX K CS q)
theorem exv_new {K : PySem.W.Frag} {M : Mode} {G H : Hp} {a : Addr} {c : Value} (ok : Ok M G H) (h : H a = none) : Go M G H (upd G a (ExV c a)) (upd H a (ExV c a)) ∧ Is K (upd G a (ExV c a)) (.ref a) (.ob (ExV c)) :=
  ⟨(Go.lay ok h).data h upd_same (ok.fresh h), .ob upd_same⟩
theorem sim_got {K : PySem.W.Frag} {M : Mode} {E : XK} {Z : Tb} {P CS : Addr} {t : XK → TE} {g : TEx} (l : LamM M Z P) (h : ∀ E, SimE K M E (t E) g) : SimE K M E (tLamP Z P (TTgot K CS) t) (gGot K CS g) := fun τ q r e σ G H w Q hq _ => by
  refine ⟨l.tabs H w.ok.j, fun H1 x1 t1 => ?_⟩
  have g1 := l.go w.ok x1 t1
  refine h _ τ _ _ e σ G H1 (w.go g1) _ (fun v s G2 H2 g2 _ q2 => hq _ (.sh .non) G2 H2 (g1.trans g2) .non q2) ?_
  rintro x c d G2 H2 g2 ⟨rfl, hd⟩ ⟨z1, z2, z3⟩
  rw [z2] at hd
  refine ⟨z1, hd, fun a ha => ?_⟩
  obtain ⟨g3, i3⟩ := exv_new (K := K) (c := x.cls) ((w.ok.go g1).go g2) ha
  exact hq _ (.sh (.ob (ExV x.cls))) _ _ ((g1.trans g2).trans g3) i3 z3
/-- y = x(lambda: z.append(e)); z in the j-th slot -/
def sGotApp (K : PySem.W.Frag) (CS : Addr) (i j : Nat) (a : TEx) : TSx := fun τ k => a τ (fun s => match τ[j]? with
  | some (.ol ts) => ts.length < sizeLine ∧ k.nx ((τ.set j (.ol (ts ++ [s.fz]))).set i (.sh .non))
  | _ => False) (gotX K CS fun s => k.nx (τ.set i s)) ∧ ∃ ts, τ[j]? = some (.ol ts)
theorem sims_gotApp {K : PySem.W.Frag} {M : Mode} {E : XK} {Z : Tb} {P CS : Addr} {i j : Nat} {t : XK → TE} {a : TEx} (l : LamM M Z P) (h : ∀ E, SimE K M E (t E) a) :
    SimS K M E (tAsg (tLamP Z P (TTgot K CS) fun E => tBM K "list" rAppend (tVar j) (tCons (t E) tNil)) (gName i)) (sGotApp K CS i j a) := fun G0 H0 ok τ k e σ G H w D d => by
  obtain ⟨e, ts, ht⟩ := e
  refine ⟨l.tabs H (w.w1 ok).ok.j, fun H1 x1 t1 => ?_⟩
  have g1 := l.go (w.w1 ok).ok x1 t1
  have w1 := w.next ok g1
  obtain ⟨p, vs, h1, h2, h3, _⟩ := w1.ol ok ht
  refine ⟨_, h1, .inl ⟨rfl, _, SqL.of h2⟩, (h _).data e (w1.w1 ok) (fun v G2 H2 s g2 i2 q => ?_) ?_⟩
  · rw [ht] at q
    obtain ⟨q1, q2⟩ := q
    obtain ⟨p', vs', k1, k2, k3, k4⟩ := (w1.next ok g2).ol ok ht
    rw [h1] at k1
    obtain rfl : p = p' := by simpa using k1
    have w3 := k4 (vs' ++ [v]) (ts ++ [s.fz]) (k3.append (.one i2))
    refine ⟨p, vs', v, rfl, rfl, k2, by rw [k3.length]; exact q1, ?_⟩
    exact d.nx _ _ G2 _ (w3.put ok i (s := .sh .non) (.refl (w3.w1 ok).ok) .non) g2.gg q2
  · rintro x c dd G2 H2 g2 ⟨rfl, hd⟩ ⟨z1, z2, z3⟩
    rw [z2] at hd
    refine ⟨z1, hd, fun b hb => ?_⟩
    have w2 := w1.next ok g2
    obtain ⟨g3, i3⟩ := exv_new (K := K) (c := x.cls) (w2.w1 ok).ok hb
    exact d.nx _ _ _ _ (w2.put ok i (s := .sh (.ob (ExV x.cls))) g3 i3) (g2.gg.trans g3.gg) z3
end TL
namespace TL
open PySem PySem.Spec PyProof.Rows L2
/-! ### defs by name -/
structure Fn (P : Program) (w : World) (K : PySem.W.Frag) (mg : Str → Option Value) (base : Heap) (k : Nat) (x : Str) (ps : List Str) (sp : SpX) : Prop where
  ex : ∃ (f : Addr) (fd : FuncData), FnOk P w K mg base (L2.CX P w) k f fd ps (lift K sp) ∧ mg x = some (.ref f) ∧ PySem.W.keepIn K (.ref f) = true ∧ Binds K fd ps []
structure FnS (P : Program) (w : World) (K : PySem.W.Frag) (mg : Str → Option Value) (base : Heap) (k : Nat) (x : Str) (ps : List Str) (sp : SpX) : Prop where
  ex : ∃ (f : Addr) (fd : FuncData), FnG P w K mg base (L2.CX P w) k f fd ps (lift K sp) ∧ mg x = some (.ref f) ∧ PySem.W.keepIn K (.ref f) = true ∧ Binds K fd ps []
structure FnK (P : Program) (w : World) (K : PySem.W.Frag) (mg : Str → Option Value) (base : Heap) (k : Nat) (x : Str) (ps ks : List Str) (is : List Nat) (sp : SpX) : Prop where
  ex : ∃ (f : Addr) (fd : FuncData), FnOk P w K mg base (L2.CX P w) k f fd ps (lift K sp) ∧ mg x = some (.ref f) ∧ PySem.W.keepIn K (.ref f) = true ∧ KwB fd ps ks is
section
variable {X : Cx} {M : Mode} {E : XK} {a : Expr} {es : List Expr} {t : TA} {gt : TAx} {x : Str} {p pos : Pos} {j k : Nat} {ps ks : List Str} {sp : SpX}
theorem passE {X : Cx} {E : XK} (tk : Takes X (fun cls d _ H => E cls d H)) : Passes (L2.CX X.prog X.w) X E := passes_call tk fun _ _ _ _ h => h
theorem ge_c (C : Fn X.prog X.w X.K X.mg X.base k x ps sp) (hr : Room j X.A) (hx : Passes (L2.CX X.prog X.w) X E) (ha : GA X M E (a :: es) t gt) (hjk : k ≤ j := by decide)
    (hg : Gl X x := by rfl) (hdb : (x == ("__debug__" : Str)) = false := by decide) (he : starEach (a :: es) X.env = (false, eval a X.env) :: starEach es X.env := by rfl) (hpl : (backTo pos (starEach es X.env)).any (·.1) = false := by rfl) :
    GE X M E (.Call (.Name x p) (a :: es) [] pos) (tCall (lift X.K sp) [] E t) (gCall M sp gt) := by
  obtain ⟨f, fd, F, hm, hk, hb⟩ := C.ex
  exact ge_call F (hr.mono hjk) hm hk hb hx ha hg hdb he hpl
theorem ge_s (C : FnS X.prog X.w X.K X.mg X.base k x ps sp) (hgd : X.A.guards = some []) (hr : Room j X.A) (hx : Passes (L2.CX X.prog X.w) X E) (ha : GA X M E (a :: es) t gt) (hjk : k ≤ j := by decide)
    (hg : Gl X x := by rfl) (hdb : (x == ("__debug__" : Str)) = false := by decide) (he : starEach (a :: es) X.env = (false, eval a X.env) :: starEach es X.env := by rfl) (hpl : (backTo pos (starEach es X.env)).any (·.1) = false := by rfl) :
    GE X M E (.Call (.Name x p) (a :: es) [] pos) (tCall (lift X.K sp) [] E t) (gCall M sp gt) := by
  obtain ⟨f, fd, F, hm, hk, hb⟩ := C.ex
  exact ge_callG F hgd (hr.mono hjk) hm hk hb hx ha hg hdb he hpl
theorem ge_k {kws : List Keyword} {is : List Nat} (C : FnK X.prog X.w X.K X.mg X.base k x ps ks is sp) (hr : Room j X.A) (hx : Passes (L2.CX X.prog X.w) X E) (ha : GK X M E kws t gt) (hjk : k ≤ j := by decide)
    (hl : is.length = ks.length := by rfl) (hg : Gl X x := by rfl) (hdb : (x == ("__debug__" : Str)) = false := by decide) (hall : (backToKw pos (keywordEach kws X.env)).all (·.1.isSome) = true := by rfl) (hks : (backToKw pos (keywordEach kws X.env)).filterMap (·.1) = ks := by rfl)
    (hpl : ((backTo pos (starEach [] X.env)).any (·.1) || (backToKw pos (keywordEach kws X.env)).any (·.1.isNone)) = false := by rfl) : GE X M E (.Call (.Name x p) [] kws pos) (tCallW (lift X.K sp) is E t) (gCallW M sp is gt) := by
  obtain ⟨f, fd, F, hm, hk, hb⟩ := C.ex
  exact ge_kw F (hr.mono hjk) hm hk hb hx ha hl hg hdb hall hks hpl
/-- isinstance(x, (T, ..)) -/
theorem pa_tys {X : Cx} : ∀ {ns : List String} {es : List Expr}, (hp : PA X es (tyArgs ns)) → PA X es (tyArgs ns) := fun h => h
theorem ge_isiT {ns : List String} {te : TE} {ga : TEx} {n : Nat} {p2 : Pos} (hm : X.mg ("isinstance" : Str) = none) (ha : GE X M E a te ga) (ht : PA X es (tyArgs ns)) (hn : ns.length ≤ 100 := by decide) (hg : Gl X ("isinstance" : Str) := by rfl)
    (h1 : starEach [a, .Tuple es n p2] X.env = (false, eval a X.env) :: starEach [.Tuple es n p2] X.env := by rfl) (h2 : starEach [.Tuple es n p2] X.env = (false, eval (.Tuple es n p2) X.env) :: starEach [] X.env := by rfl)
    (hpl : (backTo pos (starEach [.Tuple es n p2] X.env)).any (·.1) = false := by rfl) : GE X M E (.Call (.Name "isinstance" p) [a, .Tuple es n p2] [] pos) (tCB (rIsiT X.K) (tCons te (tCons (tTup (tyArgs ns)) tNil))) (gIsiT ns ga) :=
  ⟨pe_callB call_isiT hg hm (by decide +kernel) (pa_cons ha.p (pa_cons (pe_tup ht) pa_nil h2) h1) (by decide) (by decide) h1 hpl, sim_isiT hn ha.s⟩
theorem ty1 {x : Str} {n : String} {pos : Pos} (hm : X.mg x = none) (hv : bootBuiltins x = some (.type n) := by decide +kernel) (hg : Gl X x := by rfl) (hn : x ≠ "__name__" := by decide) (hd : (x == ("__debug__" : Str)) = false := by decide) : PE X (.Name x pos) (tC (.ty n)) := pe_bltn hg hm hv rfl hn hd
/-- methods of texts -/
theorem str_ty {K : PySem.W.Frag} {M : Mode} {x : V} {z : Str} {G H : Hp} (i : Is K G x (.str z)) (ok : Ok M G H) : tyV K "str" x H := by
  cases i
  rfl
end
/-! ### _law_caught(lambda: ..) -/
structure Got (X : Cx) (Z : Tb) (CS P : Addr) : Prop where
  ex : ∃ (g c : Addr) (gd : FuncData) (st : Stmt) (e : Str) (p1 p2 p3 p4 p5 p6 p7 p8 p9 p10 p11 p12 p13 p14 : Pos) (j : Nat), X.mg ("_law_caught" : Str) = some (.ref g) ∧ FunD X.K "_law_caught" "_law_caught" (defArgs st) (gotBody e p1 p2 p3 p4 p5 p6 p7 p8 p9 p10 p11 p12 p13 p14 j) (defScope st) [] [] g gd ∧
    L2.Binds X.K gd ["work"] [] ∧ FnScope ["work", "caught", "error"] ["work"] (defScope st) ∧ Vis (defScope st) ("work" : Str) ∧ (defScope st).names.lookup e = some .globalImplicit ∧ X.mg e = some (.ref CS) ∧ (e == ("__debug__" : Str)) = false ∧
    (defScope st).names.lookup ("caught" : Str) = some .local ∧ (defScope st).names.lookup ("error" : Str) = some .local ∧ LamX.TabB X.base X.mg c P ∧ X.env.code = .ref c
  mem : (P, X.env.qual ++ "<lambda>") ∈ Z
  one : ∀ p ∈ Z, p.1 = P → p.2 = X.env.qual ++ "<lambda>"
section
abbrev LamT : Type := Around → List Env → Shared → Hp → XK → Addr → Addr → TE
def LamT.at (t : LamT) (A : Around) (s : Shared) : XK → TE := fun E => t A [] s (fun _ => none) E 0 0
def LamT.Same (t : LamT) (A : Around) (s : Shared) : Prop := ∀ A' outer s' H E f c', t A' outer s' H E f c' = t.at A s E
variable {X : Cx} {M : Mode} {E : XK} {Z : Tb} {CS P : Addr} {params : Arguments} {body : Expr} {scope : Scope} {t : LamT} {g : TEx} {p lpos pos spos : Pos} {k : Nat}
theorem pe_got {u : XK → TE} (D : Got X Z CS P) (hr : Room (k + 2) X.A) (hg : Gl X ("_law_caught" : Str)) (L : LamX.LamS X.env.scope scope) (hdef : defaultsOf params X.env = ([], []))
    (hbind : ∀ (q : Str) (cl : List (Str × Addr)) (pm cv ctv : Value), bindArgs (PySem.W.kla_fn "<lambda>" q params body scope cl pm cv ctv) ⟨[], []⟩ = pure [])
    (hbody : ∀ (A : Around) (outer : List Env) (s : Shared) (H : Hp) (E : XK) (f c' : Addr), Room k (A.deeper (LamX.lamEnv X scope s.heap.objs.size f c')) → PE (LamX.lamCx X A outer s H E scope f c') body (u E)) :
    PE X (.Call (.Name "_law_caught" p) [.Lambda params body scope lpos] [] pos) (tLamP Z P (TTgot X.K CS) u) := by
  obtain ⟨g, c, gd, st, e, p1, p2, p3, p4, p5, p6, p7, p8, p9, p10, p11, p12, p13, p14, j, h1, h2, h3, h4, h5, h6, h7, h8, h9, h10, h11, h12⟩ := D.ex
  exact pe_lamP hg h1 h2 h3 h4 rfl h5 (fun cdv => got_gives h6 h7 h8 h9 h10) h11 h12 D.mem D.one hr L hdef hbind hbody (by decide) (by decide) (by decide)
theorem ge_got (l : LamM M Z P) (D : Got X Z CS P) (s0 : Shared) (hr : Room (k + 2) X.A) (hbody : ∀ (A : Around) (outer : List Env) (s : Shared) (H : Hp) (E : XK) (f c' : Addr), Room k (A.deeper (LamX.lamEnv X scope s.heap.objs.size f c')) → GE (LamX.lamCx X A outer s H E scope f c') M E body (t A outer s H E f c') g)
    (hg : Gl X ("_law_caught" : Str) := by rfl) (L : LamX.LamS X.env.scope scope := by exact LamX.lamS_by (by decide +kernel)) (hdef : defaultsOf params X.env = ([], []) := by rfl)
    (hbind : ∀ (q : Str) (cl : List (Str × Addr)) (pm cv ctv : Value), bindArgs (PySem.W.kla_fn "<lambda>" q params body scope cl pm cv ctv) ⟨[], []⟩ = pure [] := by exact fun _ _ _ _ _ => rfl) (sm : LamT.Same t X.A s0 := by exact fun _ _ _ _ _ _ _ => rfl) :
    GE X M E (.Call (.Name "_law_caught" p) [.Lambda params body scope lpos] [] pos) (tLamP Z P (TTgot X.K CS) (t.at X.A s0)) (gGot X.K CS g) :=
  ⟨pe_got D hr hg L hdef hbind fun A outer s H E f c' h => sm A outer s H E f c' ▸ (hbody A outer s H E f c' h).p,
    sim_got l fun E => sm _ _ _ _ _ _ _ ▸ (hbody (X.A.deeper (LamX.lamEnv X scope s0.heap.objs.size 0 0)) [] s0 (fun _ => none) E 0 0 ((hr.deeper _).deeper _)).s⟩
variable {e : Expr} {y z : Str} {p1 p2 p3 p4 cpos : Pos}
/-- y = _law_caught(lambda: z.append(e)) -/
theorem gs_gotApp (i j : Nat) (l : LamM M Z P) (D : Got X Z CS P) (s0 : Shared) (hr : Room (k + 2) X.A) (hN : X.N.Nodup) (hbody : ∀ (A : Around) (outer : List Env) (s : Shared) (H : Hp) (E : XK) (f c' : Addr), Room k (A.deeper (LamX.lamEnv X scope s.heap.objs.size f c')) → GE (LamX.lamCx X A outer s H E scope f c') M E e (t A outer s H E f c') g)
    (happ : ∀ (A : Around) (outer : List Env) (s : Shared) (H : Hp) (E : XK) (f c' : Addr), Room k (A.deeper (LamX.lamEnv X scope s.heap.objs.size f c')) → PE (LamX.lamCx X A outer s H E scope f c') e (t A outer s H E f c') → PE (LamX.lamCx X A outer s H E scope f c') (.Call (.Attribute (.Name z p1) "append" p2) [e] [] cpos) (tBM X.K "list" rAppend (tVar j) (tCons (t A outer s H E f c') tNil)))
    (hi : X.N[i]? = some y := by rfl) (hx : Loc X.env.scope y := by first | exact Or.inl rfl | exact Or.inr rfl) (hf : X.fn y = true ∨ X.env.scope.names.lookup y = some .local := by first | exact .inl rfl | exact .inr rfl)
    (hg : Gl X ("_law_caught" : Str) := by rfl) (L : LamX.LamS X.env.scope scope := by exact LamX.lamS_by (by decide +kernel)) (hdef : defaultsOf params X.env = ([], []) := by rfl)
    (hbind : ∀ (q : Str) (cl : List (Str × Addr)) (pm cv ctv : Value), bindArgs (PySem.W.kla_fn "<lambda>" q params (.Call (.Attribute (.Name z p1) "append" p2) [e] [] cpos) scope cl pm cv ctv) ⟨[], []⟩ = pure [] := by exact fun _ _ _ _ _ => rfl)
    (sm : LamT.Same t X.A s0 := by exact fun _ _ _ _ _ _ _ => rfl) (hs : swapsWith (.Call (.Name "_law_caught" p) [.Lambda params (.Call (.Attribute (.Name z p1) "append" p2) [e] [] cpos) scope lpos] [] pos) (some (.Name y p3)) spos.line X.env = pure false := by rfl) :
    GS X M E (.Assign [.Name y p3] (.Call (.Name "_law_caught" p) [.Lambda params (.Call (.Attribute (.Name z p1) "append" p2) [e] [] cpos) scope lpos] [] pos) spos) (tAsg (tLamP Z P (TTgot X.K CS) fun E => tBM X.K "list" rAppend (tVar j) (tCons (t.at X.A s0 E) tNil)) (gName i)) (sGotApp X.K CS i j g) :=
  ⟨ps_set hN hi hx (pe_got D hr hg L hdef hbind fun A outer s H E f c' h => sm A outer s H E f c' ▸ happ A outer s H E f c' h (hbody A outer s H E f c' h).p) hs hf,
    sims_gotApp l fun E => sm _ _ _ _ _ _ _ ▸ (hbody (X.A.deeper (LamX.lamEnv X scope s0.heap.objs.size 0 0)) [] s0 (fun _ => none) E 0 0 ((hr.deeper _).deeper _)).s⟩
/-- the append, in the lambda -/
theorem pe_appL {X : Cx} {te : TE} (j : Nat) {e : Expr} {z : Str} {p1 p2 cpos : Pos} (he : PE X e te) (hN : X.N[j]? = some z := by rfl) (hv : Vis X.env.scope z := by first | exact Or.inl rfl | exact Or.inr (Or.inl rfl) | exact Or.inr (Or.inr rfl))
    (hd : (z == ("__debug__" : Str)) = false := by decide) (hcd : (z == ("__classdict__" : Str)) = false := by decide) (hbase : attributeBase (.Name z p1) "append" X.env (eval (.Name z p1) X.env) = eval (.Name z p1) X.env := by rfl)
    (hfew : ((backTo cpos (starEach [e] X.env)).all (fun x => !x.1) && (backToKw cpos (keywordEach [] X.env)).all (fun x => x.1.isSome) && decide (([e] : List Expr).length + ([] : List Keyword).length + (if ([] : List Keyword).isEmpty then 0 else 1) < 30)) = true := by rfl)
    (hline : (p2.endLine == cpos.line) = true := by rfl) (hs : starEach [e] X.env = (false, eval e X.env) :: starEach [] X.env := by rfl) (hplain : (backTo cpos (starEach [] X.env)).any (·.1) = false := by rfl) :
    PE X (.Call (.Attribute (.Name z p1) "append" p2) [e] [] cpos) (tBM X.K "list" rAppend (tVar j) (tCons te tNil)) :=
  pe_bm PySem.F.plainAttrs_list PySem.F.slot_list_append PySem.F.type_list_append mt_append (pe_var hN hv hd hcd) (pa_cons he pa_nil hs) hbase hfew hline hs hplain
end
end TL
namespace TL
open PySem PySem.Spec PyProof.Rows L2
/-! ### readings of comprehensions and loops, in plain lists -/
section
variable {g : TGx} {tt : TTx} {te : TEx} {τ : List Sl} {q : List T → Prop} {i : Nat}
/-- each item gives an element, whichever, under P -/
theorem lcR_any {P : T → T → Prop} : ∀ {items acc : List T}, (∀ t ∈ items, ∀ q' : Sl → Prop, (∀ s : Sl, P t s.fz → q' s) → g t τ fun τ2 => te τ2 q' rF) → acc.length + items.length ≤ sizeLine →
    (∀ ts, Paired P items ts → q (acc ++ ts)) → lcR g gYes te τ q items acc
  | [], acc, _, _, k => by
    have z := k [] .nil
    rw [List.append_nil] at z
    exact z
  | t :: items, acc, h, hl, k => by
    have hl' : acc.length + (items.length + 1) ≤ sizeLine := hl
    refine h t List.mem_cons_self _ fun s hs => ⟨by omega, lcR_any (fun u hu => h u (List.mem_cons_of_mem _ hu)) (by rw [List.length_append, List.length_singleton]; omega) fun ts hp => ?_⟩
    have z := k (s.fz :: ts) (.cons hs hp)
    rw [List.append_assoc]
    exact z
theorem paired_map {α β : Type} {f : α → β} : ∀ {xs : List α} {ys : List β}, Paired (fun a b => b = f a) xs ys → ys = xs.map f
  | _, _, .nil => rfl
  | _, _, .cons h r => by rw [h, paired_map r]; rfl
theorem paired_all {α β : Type} {R : α → β → Prop} {P : β → Prop} (h : ∀ a b, R a b → P b) : ∀ {xs : List α} {ys : List β}, Paired R xs ys → ys.length = xs.length ∧ ∀ y ∈ ys, P y
  | _, _, .nil => ⟨rfl, fun _ h => nomatch h⟩
  | _, _, .cons k r => by
    obtain ⟨h1, h2⟩ := paired_all h r
    exact ⟨congrArg (· + 1) h1, fun y hy => (List.mem_cons.mp hy).elim (fun e => by rw [e]; exact h _ _ k) (h2 y)⟩
/-- a plain function of the item -/
theorem lcR_map {f : T → T} {items : List T} (h : ∀ t ∈ items, ∀ q' : Sl → Prop, q' (.sh (f t)) → g t τ fun τ2 => te τ2 q' rF) (hl : items.length ≤ sizeLine) (k : q (items.map f)) : lcR g gYes te τ q items [] :=
  lcR_any (P := fun t u => u = f t) (fun t ht q' hq => h t ht q' (hq (.sh (f t)) rfl)) (by simpa using hl) fun ts hp => by
    rw [paired_map hp]
    exact k
end
/-- a test and an element, both plain functions of the item -/
theorem lcR_if {i : Nat} {tt : TTx} {te : TEx} {τ : List Sl} {q : List T → Prop} {p : T → Bool} {f : T → T} : ∀ {items acc : List T}, (∀ t ∈ items, ∀ Q : Bool → Prop, Q (p t) → tt (τ.set i (.sh t)) Q rF) → (∀ t ∈ items, p t = true → ∀ Q : Sl → Prop, Q (.sh (f t)) → te (τ.set i (.sh t)) Q rF) →
    acc.length + items.length ≤ sizeLine → q (acc ++ (items.filter p).map f) → lcR (xName i) tt te τ q items acc
  | [], acc, _, _, _, k => by
    have z : q (acc ++ []) := k
    rw [List.append_nil] at z
    exact z
  | t :: items, acc, h1, h2, hl, k => by
    have hl' : acc.length + (items.length + 1) ≤ sizeLine := hl
    refine h1 t List.mem_cons_self _ ?_
    have r1 : ∀ u ∈ items, ∀ Q : Bool → Prop, Q (p u) → tt (τ.set i (.sh u)) Q rF := fun u hu => h1 u (List.mem_cons_of_mem _ hu)
    have r2 : ∀ u ∈ items, p u = true → ∀ Q : Sl → Prop, Q (.sh (f u)) → te (τ.set i (.sh u)) Q rF := fun u hu => h2 u (List.mem_cons_of_mem _ hu)
    cases hp : p t with
    | true =>
      rw [if_pos rfl]
      refine h2 t List.mem_cons_self hp _ ⟨by omega, lcR_if r1 r2 (by rw [List.length_append, List.length_singleton]; omega) ?_⟩
      rw [List.filter_cons_of_pos hp] at k
      rw [List.append_assoc]
      exact k
    | false =>
      rw [if_neg (by decide)]
      refine lcR_if r1 r2 (by omega) ?_
      rw [List.filter_cons_of_neg (by rw [hp]; decide)] at k
      exact k
/-- a loop, by what holds at each turn -/
theorem forR_inv {g : TGx} {b : TSx} {k : Kn} {I : List Sl → Prop} (h0 : ∀ τ, I τ → k.nx τ) : ∀ {items : List T}, (∀ t ∈ items, ∀ τ, I τ → ∀ nx : List Sl → Prop, (∀ τ', I τ' → nx τ') → g t τ fun τ2 => b τ2 { k with nx := nx, ct := nx, bk := k.nx }) → ∀ τ, I τ → forR g b k items τ
  | [], _, τ, hi => h0 τ hi
  | t :: items, h, τ, hi => h t List.mem_cons_self τ hi _ (forR_inv h0 fun u hu => h u (List.mem_cons_of_mem _ hu))
/-! ### the draw -/
/-- what a T gives when it is walked, as a plain list -/
def spTake : SpX := fun M ts q _ => ∃ d n, ts = [.raw (.ref d), .int n] ∧ IsDM M d ∧ 0 < n ∧ n < 1073741824 ∧ ∀ k : Int, 0 ≤ k → k < n → q (.sh (.int k))
def spMixed : SpX := fun M ts q _ => ∃ d, ts = [.raw (.ref d)] ∧ IsDM M d ∧ ∀ k : Int, q (.sh (.int k))
/-- pick of a list or a tuple -/
def spPick : SpX := fun M ts q _ => ∃ d t xs, ts = [.raw (.ref d), t] ∧ IsDM M d ∧ (t = .lst xs ∨ t = .tup xs) ∧ 0 < xs.length ∧ xs.length < 1073741824 ∧ ∀ x ∈ xs, q (.sh x)
theorem atI_mem {xs : List T} {k : Int} (h0 : 0 ≤ k) (h1 : k < xs.length) : ∃ t, atI xs k = some t ∧ t ∈ xs := by
  obtain ⟨n, rfl⟩ := Int.eq_ofNat_of_zero_le h0
  have hn : n < xs.length := by exact_mod_cast h1
  refine ⟨xs[n], ?_, List.getElem_mem hn⟩
  unfold atI
  have e : ixN xs.length (n : Int) = some n := by
    unfold ixN
    simp [hn]
  rw [e]
  simp [hn]
end TL
namespace K87
open PySem PySem.Spec PyProof.Rows L2 TL
abbrev sp__law_take := spTake
abbrev sp__law_mixed := spMixed
abbrev sp__law_pick := spPick
def g__law_mixed (M : Mode) : TSx := (sSeq (sDi M 0 (gOp gAdd (gDi M 0) (gC (.int 1))))
    (sSeq (sAsg2 1 2 (gCB gInt1 (aCons (gDi M 0) aNil)) (gC (.int 0)))
    (sSeq (sFor (iWalk (TL.gLst (aCons (gC (.int 2147483647)) (aCons (gC (.int 2147483629)) (aCons (gC (.int 2147483587)) aNil))))) (xName 3) (sSeq (sSet 4 (gOp gMod (gOp gAdd (gOp gMul (gVar 1) (gC (.int 48271))) (gOp gDiv (gVar 3) (gC (.int 11)))) (gVar 3)))
    (sSeq (sFor (iDc M 0) (xName 5) (sSet 4 (gOp gMod (gOp gAdd (gOp gAdd (gOp gMul (gVar 4) (gC (.int 69621))) (gCB gInt1 (aCons (gVar 5) aNil))) (gVar 1)) (gVar 3))))
    (sSet 2 (gOp gAdd (gOp gMul (gVar 2) (gC (.int 2147483659))) (gOp gMod (gOp gPow (gVar 4) (gC (.int 5))) (gVar 3)))))))
    (sRetV 2))))
def g__law_take (M : Mode) : TSx := (sSeq (sIf (gB (gOp gEq (gDi M 0) (gC (.int 0)))) (sDi M 0 (gDpop M 0 (gCall M sp__law_mixed (aCons (gVar 0) aNil)))) sNext)
    (sSeq (sSet 2 (gOp gMod (gCB gInt1 (aCons (gDi M 0) aNil)) (gVar 1)))
    (sSeq (sDi M 0 (gOp gDiv (gCB gInt1 (aCons (gDi M 0) aNil)) (gVar 1)))
    (sRetV 2))))
def g__law_pick (M : Mode) : TSx := (sRet (gOp gIx (gVar 1) (gCall M sp__law_take (aCons (gVar 0) (aCons (gCB gLen (aCons (gVar 1) aNil)) aNil)))))
theorem sem__law_pick {M : Mode} {ts : List T} {q : Sl → Prop} {r : Xn → Prop} (h : spPick M ts q r) : g__law_pick M (startS ["draw", "some"] ts) (KnOf q r) := by
  obtain ⟨d, t, xs, rfl, hM, ht, h0, h1, hq⟩ := h
  rcases ht with rfl | rfl
  all_goals
    refine ⟨d, xs.length, rfl, hM, by omega, by omega, fun k k0 k1 => ?_⟩
    obtain ⟨x, e, hx⟩ := atI_mem k0 k1
    show oks (atI xs k) _
    rw [e]
    exact hq x hx
theorem sem__law_take {M : Mode} {ts : List T} {q : Sl → Prop} {r : Xn → Prop} (h : spTake M ts q r) : g__law_take M (startS ["draw", "amount", "found"] ts) (KnOf q r) := by
  obtain ⟨d, n, rfl, hM, h0, h1, hq⟩ := h
  have at0 : ∀ x, atD M 0 [.sh (.raw (.ref d)), .sh (.int n), x] := fun x => ⟨d, rfl, hM⟩
  have tail : (sSeq (sSet 2 (gOp gMod (gCB gInt1 (aCons (gDi M 0) aNil)) (gVar 1))) (sSeq (sDi M 0 (gOp gDiv (gCB gInt1 (aCons (gDi M 0) aNil)) (gVar 1))) (sRetV 2))) [.sh (.raw (.ref d)), .sh (.int n), .no] (KnOf q r) :=
    ⟨at0 _, fun m => ⟨h0, at0 _, fun m2 => ⟨⟨h0, h1⟩, at0 _, ⟨_, rfl⟩, hq (m % n) (Int.emod_nonneg _ (by omega)) (Int.emod_lt_of_pos _ h0)⟩⟩⟩
  refine ⟨at0 _, fun m => ?_⟩
  show (if decide (m = 0) = true then _ else _)
  split
  · exact ⟨at0 _, fun m => ⟨at0 _, ⟨m, rfl⟩, tail⟩, ⟨d, rfl, hM, fun m => ⟨at0 _, ⟨m, rfl⟩, tail⟩⟩⟩
  · exact tail
theorem sem__law_mixed {M : Mode} {ts : List T} {q : Sl → Prop} {r : Xn → Prop} (h : spMixed M ts q r) : g__law_mixed M (startS ["draw", "turn", "found", "great", "blend", "cell"] ts) (KnOf q r) := by
  obtain ⟨d, rfl, hM, hq⟩ := h
  have at0 : ∀ x, atD M 0 (.sh (.raw (.ref d)) :: x) := fun x => ⟨d, rfl, hM⟩
  refine ⟨at0 _, fun m => ⟨at0 _, ⟨_, rfl⟩, at0 _, fun t => ⟨by rw [sizeLine_eq]; exact (by decide : (3 : Nat) ≤ 16777216), ?_⟩⟩⟩
  have G : ∀ x ∈ [(2147483647 : Int), 2147483629, 2147483587], 0 < x ∧ x < 2147483648 := by decide
  refine forR_inv (I := fun τ => ∃ f a b c, τ = [.sh (.raw (.ref d)), .sh (.int t), .sh (.int f), a, b, c]) ?_ ?_ _ ⟨0, _, _, _, rfl⟩
  · rintro τ ⟨f, a, b, c, rfl⟩
    exact hq f
  · rintro x hx τ ⟨f, a, b, c, rfl⟩ nx hnx
    have key : ∀ (great : Int) (bk : List Sl → Prop), 0 < great → great < 2147483648 → xName 3 (.int great) [.sh (.raw (.ref d)), .sh (.int t), .sh (.int f), a, b, c] fun τ2 => (sSeq (sSet 4 (gOp gMod (gOp gAdd (gOp gMul (gVar 1) (gC (.int 48271))) (gOp gDiv (gVar 3) (gC (.int 11)))) (gVar 3)))
        (sSeq (sFor (iDc M 0) (xName 5) (sSet 4 (gOp gMod (gOp gAdd (gOp gAdd (gOp gMul (gVar 4) (gC (.int 69621))) (gCB gInt1 (aCons (gVar 5) aNil))) (gVar 1)) (gVar 3))))
        (sSet 2 (gOp gAdd (gOp gMul (gVar 2) (gC (.int 2147483659))) (gOp gMod (gOp gPow (gVar 4) (gC (.int 5))) (gVar 3)))))) τ2 { nx := nx, rt := q, bk := bk, ct := nx, ex := r } := fun great bk p0 p1 => by
      refine ⟨.inr (by decide), ⟨by decide, by decide⟩, p0, ?_⟩
      obtain ⟨L, C, cs, Z, rfl⟩ := hM
      refine ⟨d, L, C, cs, Z, rfl, rfl, ?_⟩
      refine forR_inv (I := fun τ => ∃ bl c, τ = [.sh (.raw (.ref d)), .sh (.int t), .sh (.int f), .sh (.int great), .sh (.int bl), c] ∧ 0 ≤ bl ∧ bl < 2147483648) ?_ ?_ _ ⟨_, _, rfl, Int.emod_nonneg _ (by omega), Int.lt_trans (Int.emod_lt_of_pos _ p0) p1⟩
      · rintro τ ⟨bl, c, rfl, b0, b1⟩
        exact ⟨.inr (by decide), ⟨by decide, by decide, by omega⟩, p0, hnx _ ⟨_, _, _, _, rfl⟩⟩
      · rintro y hy τ ⟨bl, c, rfl, b0, b1⟩ nx2 hnx2
        obtain ⟨z, _, rfl⟩ := List.mem_map.mp hy
        exact ⟨.inr (by decide), p0, hnx2 _ ⟨_, _, rfl, Int.emod_nonneg _ (by omega), Int.lt_trans (Int.emod_lt_of_pos _ p0) p1⟩⟩
    have hx' : x ∈ [T.int 2147483647, T.int 2147483629, T.int 2147483587] := hx
    simp only [List.mem_cons, List.not_mem_nil, or_false] at hx'
    rcases hx' with rfl | rfl | rfl
    · exact key 2147483647 _ (by decide) (by decide)
    · exact key 2147483629 _ (by decide) (by decide)
    · exact key 2147483587 _ (by decide) (by decide)
/-! ### texts -/
abbrev LET : Str := "abcdefghijklmnopqrstuvwxyz"
def isLet (c : Nat) : Bool := decide (c ∈ LET.cps.toList)
/-- a plain value -/
def tame : T → Bool
  | .str z => decide (z.length ≤ sizeLine)
  | .raw _ => false
  | .ob _ => false
  | _ => true
def letS (z : Str) (lo hi : Int) : Bool := decide (lo ≤ (z.length : Int)) && (decide ((z.length : Int) ≤ hi) && z.cps.toList.all isLet)
def letB (t : T) (lo hi : Int) : Bool := match t with
  | .str z => letS z lo hi
  | _ => false
def tokS (z : Str) : Bool := letS z 1 8 || decide (z = ".")
def tokB : T → Bool
  | .str z => tokS z
  | _ => false
def tameX : T → Bool
  | .lst xs => xs.all tame
  | .fls xs => xs.all tame
  | .tup xs => xs.all tame
  | t => tame t
def textL (xs : List T) : Bool := decide ((xs.length : Int) ≤ 400) && xs.all tokB
def textB : T → Bool
  | .lst xs => textL xs
  | .fls xs => textL xs
  | .tup xs => textL xs
  | _ => false
def isStr : T → Bool
  | .str _ => true
  | _ => false
def isSeq : T → Bool
  | .lst _ => true
  | .fls _ => true
  | .tup _ => true
  | _ => false
theorem isi_str {t : T} (h : tame t = true) : isiB t (.raw (.ty "str")) = some (isStr t) := by
  cases t with
  | non => exact kit_none_str
  | bl => exact kit_bool_str
  | int => exact kit_int_str
  | str => exact kit_str_str
  | lst => exact kit_list_str
  | fls => exact kit_list_str
  | tup => exact kit_tuple_str
  | dct => exact kit_dict_str
  | raw => cases h
  | ob => cases h
theorem gisi {t c : T} {b : Bool} {q : Sl → Prop} (h : isiB t c = some b) (k : q (.sh (.bl b))) : gIsi [t, c] q := by
  show oks (isiB t c) _
  rw [h]
  exact k
def sp_is_letters : SpX := fun _ ts q _ => ∃ t lo hi, ts = [t, .int lo, .int hi] ∧ tame t = true ∧ q (.sh (.bl (letB t lo hi)))
def sp_is_word : SpX := fun _ ts q _ => ∃ t, ts = [t] ∧ tame t = true ∧ q (.sh (.bl (letB t 1 8)))
def sp_is_token : SpX := fun _ ts q _ => ∃ t, ts = [t] ∧ tame t = true ∧ q (.sh (.bl (tokB t)))
def sp_is_text : SpX := fun _ ts q _ => ∃ t, ts = [t] ∧ tameX t = true ∧ q (.sh (.bl (textB t)))
def g_is_letters : TSx := (sRet (gAndV (gCB gIsi (aCons (gVar 0) (aCons (gC (.raw (.ty "str"))) aNil))) (gAndV (gChain gLe gLe (gVar 1) (gCB gLen (aCons (gVar 0) aNil)) (gVar 2)) (gCB gAll (aCons (gLc [3] (iWalk (gVar 0)) (xName 3) gYes (gOp gInS (gVar 3) (gC (.str "abcdefghijklmnopqrstuvwxyz")))) aNil)))))
def g_is_word (M : Mode) : TSx := (sRet (gCall M sp_is_letters (aCons (gVar 0) (aCons (gC (.int 1)) (aCons (gC (.int 8)) aNil)))))
def g_is_token (M : Mode) : TSx := (sRet (gOrV (gCall M sp_is_word (aCons (gVar 0) aNil)) (gAndV (gCB gIsi (aCons (gVar 0) (aCons (gC (.raw (.ty "str"))) aNil))) (gOp gEq (gVar 0) (gC (.str "."))))))
def g_is_text (M : Mode) : TSx := (sRet (gAndV (gIsiT ["list", "tuple"] (gVar 0)) (gAndV (gOp gLe (gCB gLen (aCons (gVar 0) aNil)) (gC (.int 400))) (gCB gAll (aCons (gLc [1] (iWalk (gVar 0)) (xName 1) gYes (gCall M sp_is_token (aCons (gVar 1) aNil))) aNil)))))
/-- all(..) of a walked thing -/
theorem all_lc {vs : List Nat} {src : TIx} {i : Nat} {te : TEx} {τ : List Sl} {items : List T} {p : T → Bool} {q : Sl → Prop} {r : Xn → Prop} (hs : ∀ Q : List T → Prop, Q items → src τ Q r) (hl : items.length ≤ sizeLine)
    (h : ∀ t ∈ items, ∀ q' : Sl → Prop, q' (.sh (.bl (p t))) → te ((wipeS τ vs).set i (.sh t)) q' rF) (k : q (.sh (.bl (items.all p)))) : gCB gAll (aCons (gLc vs src (xName i) gYes te) aNil) τ q r := by
  refine hs _ (lcR_map (f := fun t => .bl (p t)) h hl ?_)
  show oks (blAll (items.map fun t => T.bl (p t))) _
  rw [blAll_map]
  show q (.sh (.bl ((items.map p).all id)))
  rw [List.all_map]
  exact k
theorem sem_is_letters {ts : List T} {q : Sl → Prop} {r : Xn → Prop} {M : Mode} (h : sp_is_letters M ts q r) : g_is_letters (startS ["thing", "least", "most", "sign"] ts) (KnOf q r) := by
  obtain ⟨t, lo, hi, rfl, ht, hq⟩ := h
  show oks (isiB t (.raw (.ty "str"))) _
  rw [isi_str ht]
  show (if isStr t = true then _ else _)
  cases t with
  | str z =>
    rw [if_pos (show isStr (.str z) = true from rfl)]
    have hz : z.length ≤ sizeLine := of_decide_eq_true ht
    refine ⟨hz, ?_⟩
    have hq : q (.sh (.bl (decide (lo ≤ (z.length : Int)) && (decide ((z.length : Int) ≤ hi) && z.cps.toList.all isLet)))) := hq
    show (if decide (lo ≤ (z.length : Int)) = true then _ else _)
    by_cases h1 : decide (lo ≤ (z.length : Int)) = true
    · rw [if_pos h1]
      rw [h1, Bool.true_and] at hq
      show (if decide ((z.length : Int) ≤ hi) = true then _ else _)
      by_cases h2 : decide ((z.length : Int) ≤ hi) = true
      · rw [if_pos h2]
        rw [h2, Bool.true_and] at hq
        refine all_lc (items := z.cps.toList.map fun c => .str ⟨#[c]⟩) (p := fun t => match t with | .str ⟨#[c]⟩ => isLet c | _ => false) (fun Q k => k) (by rw [List.length_map]; exact hz) (fun t ht q' k => ?_) ?_
        · obtain ⟨c, _, rfl⟩ := List.mem_map.mp ht
          exact k
        · rw [List.all_map]
          exact hq
      · rw [if_neg h2]
        have h2' : decide ((z.length : Int) ≤ hi) = false := by simpa using h2
        rw [h2', Bool.false_and] at hq
        exact hq
    · rw [if_neg h1]
      have h1' : decide (lo ≤ (z.length : Int)) = false := by simpa using h1
      rw [h1', Bool.false_and] at hq
      exact hq
  | raw => cases ht
  | ob => cases ht
  | _ => exact hq
theorem sem_is_word {ts : List T} {q : Sl → Prop} {r : Xn → Prop} {M : Mode} (h : sp_is_word M ts q r) : g_is_word M (startS ["thing"] ts) (KnOf q r) := by
  obtain ⟨t, rfl, ht, hq⟩ := h
  exact ⟨t, 1, 8, rfl, ht, hq⟩
theorem sem_is_token {ts : List T} {q : Sl → Prop} {r : Xn → Prop} {M : Mode} (h : sp_is_token M ts q r) : g_is_token M (startS ["thing"] ts) (KnOf q r) := by
  obtain ⟨t, rfl, ht, hq⟩ := h
  refine ⟨t, rfl, ht, ?_⟩
  have tail : letB t 1 8 = false → gAndV (gCB gIsi (aCons (gVar 0) (aCons (gC (.raw (.ty "str"))) aNil))) (gOp gEq (gVar 0) (gC (.str "."))) [.sh t] q r := fun hl => by
    show oks (isiB t (.raw (.ty "str"))) _
    rw [isi_str ht]
    show (if isStr t = true then _ else _)
    cases t with
    | str z =>
      have hl' : letS z 1 8 = false := hl
      have hq' : q (.sh (.bl (letS z 1 8 || decide (z = ".")))) := hq
      rw [hl', Bool.false_or] at hq'
      exact hq'
    | raw => cases ht
    | ob => cases ht
    | _ => exact hq
  show (if letB t 1 8 = true then _ else _)
  by_cases h1 : letB t 1 8 = true
  · rw [if_pos h1]
    cases t with
    | str z =>
      have h1' : letS z 1 8 = true := h1
      have hq' : q (.sh (.bl (letS z 1 8 || decide (z = ".")))) := hq
      rw [h1', Bool.true_or] at hq'
      exact hq'
    | _ => cases h1
  · rw [if_neg h1]
    exact tail (by simpa using h1)
theorem isT_seq {t : T} (h : tameX t = true) : (t.tyN.bind fun n => kitsB n ["list", "tuple"]) = some (isSeq t) := by
  have k : ∀ a : String, ∀ b c : Bool, kitB a "list" = some b → kitB a "tuple" = some c → kitsB a ["list", "tuple"] = some (b || c) := fun a b c h1 h2 => by
    unfold kitsB
    rw [h1]
    cases b with
    | true => rfl
    | false =>
      show kitsB a ["tuple"] = _
      unfold kitsB
      rw [h2]
      cases c <;> rfl
  cases t with
  | non => exact k _ _ _ kit_none_list kit_none_tuple
  | bl => exact k _ _ _ kit_bool_list kit_bool_tuple
  | int => exact k _ _ _ kit_int_list kit_int_tuple
  | str => exact k _ _ _ kit_str_list kit_str_tuple
  | lst => exact k _ _ _ kit_list_list kit_list_tuple
  | fls => exact k _ _ _ kit_list_list kit_list_tuple
  | tup => exact k _ _ _ kit_tuple_list kit_tuple_tuple
  | dct => exact k _ _ _ kit_dict_list kit_dict_tuple
  | raw => cases h
  | ob => cases h
theorem sem_is_text {ts : List T} {q : Sl → Prop} {r : Xn → Prop} {M : Mode} (h : sp_is_text M ts q r) : g_is_text M (startS ["thing", "token"] ts) (KnOf q r) := by
  obtain ⟨t, rfl, ht, hq⟩ := h
  show oks (t.tyN.bind fun n => kitsB n ["list", "tuple"]) _
  rw [isT_seq ht]
  show (if isSeq t = true then _ else _)
  have seq : ∀ (t : T) (xs : List T), t.items = some xs → (∀ Q : Sl → Prop, Q (.sh (.int xs.length)) → gLen [t] Q) → xs.all tame = true → q (.sh (.bl (textL xs))) →
      gAndV (gOp gLe (gCB gLen (aCons (gVar 0) aNil)) (gC (.int 400))) (gCB gAll (aCons (gLc [1] (iWalk (gVar 0)) (xName 1) gYes (gCall M sp_is_token (aCons (gVar 1) aNil))) aNil)) [.sh t, .no] q r := fun t xs hi hl hx hq => by
    refine hl (fun s => gLe s.fz (.int 400) fun k => isB k fun c => if c = true then gCB gAll (aCons (gLc [1] (iWalk (gVar 0)) (xName 1) gYes (gCall M sp_is_token (aCons (gVar 1) aNil))) aNil) [.sh t, .no] q r else q (.sh (.bl false))) ?_
    show (if decide ((xs.length : Int) ≤ 400) = true then _ else _)
    unfold textL at hq
    by_cases h1 : decide ((xs.length : Int) ≤ 400) = true
    · rw [if_pos h1]
      rw [h1, Bool.true_and] at hq
      have h2 : (xs.length : Int) ≤ 400 := of_decide_eq_true h1
      refine all_lc (items := xs) (p := tokB) (fun Q k => ?_) (by rw [sizeLine_eq]; omega) (fun t ht q' k => ⟨t, rfl, List.all_eq_true.mp hx t ht, k⟩) hq
      show oks t.items Q
      rw [hi]
      exact k
    · rw [if_neg h1]
      have h1' : decide ((xs.length : Int) ≤ 400) = false := by simpa using h1
      rw [h1', Bool.false_and] at hq
      exact hq
  cases t with
  | lst xs => exact seq _ xs rfl (fun Q k => k) ht hq
  | fls xs => exact seq _ xs rfl (fun Q k => k) ht hq
  | tup xs => exact seq _ xs rfl (fun Q k => k) ht hq
  | raw => cases ht
  | ob => cases ht
  | _ => exact hq
end K87
namespace TL
open PySem PySem.Spec PyProof.Rows L2
section
variable {X : Cx} {M : Mode} {E : XK} {pos p1 p2 p3 p4 p5 p6 pos' : Pos} {x key : Str}
theorem noSl_str {j : Nat} {p : Pos} {z : Str} : NoSl (.Constant (.str z) j p) := fun _ _ => rfl
/-- draw[..] -/
theorem ge_di {j : Nat} (hx : key = "rest" ∨ key = "turn") (hu : X.A.units + 64 < cLine) (i : Nat) (hN : X.N[i]? = some x := by rfl) (hv : Vis X.env.scope x := by first | exact Or.inl rfl | exact Or.inr (Or.inl rfl) | exact Or.inr (Or.inr rfl)) (hd : (x == ("__debug__" : Str)) = false := by decide)
    (hcd : (x == ("__classdict__" : Str)) = false := by decide) : GE X M E (.Subscript (.Name x p1) (.Constant (.str key) j p2) pos) (tDGet (tVar i) (tC (.str key))) (gDi M i) :=
  ⟨pe_dget (Nat.lt_of_le_of_lt (by omega) hu) (pe_var hN hv hd hcd) pe_str noSl_str, sim_di hx⟩
theorem gs_di {j : Nat} {value : Expr} {te : TE} {g : TEx} (hx : key = "rest" ∨ key = "turn") (hu : X.A.units + 64 < cLine) (i : Nat) (hv0 : GE X M E value te g) (hN : X.N[i]? = some x := by rfl) (hv : Vis X.env.scope x := by first | exact Or.inl rfl | exact Or.inr (Or.inl rfl) | exact Or.inr (Or.inr rfl)) (hd : (x == ("__debug__" : Str)) = false := by decide)
    (hcd : (x == ("__classdict__" : Str)) = false := by decide) (hs : swapsWith value (some (.Subscript (.Name x p1) (.Constant (.str key) j p2) pos')) pos.line X.env = pure false := by rfl) :
    GS X M E (.Assign [.Subscript (.Name x p1) (.Constant (.str key) j p2) pos'] value pos) (sDPut (tVar i) (tC (.str key)) te) (sDi M i g) :=
  ⟨ps_dput (Nat.lt_of_le_of_lt (by omega) hu) (pe_var hN hv hd hcd) pe_str hv0.p hs, sims_di hx hv0.s⟩
theorem gi_dc {tg : Expr} {j : Nat} (hu : X.A.units + 64 < cLine) (i : Nat) (hN : X.N[i]? = some x := by rfl) (hv : Vis X.env.scope x := by first | exact Or.inl rfl | exact Or.inr (Or.inl rfl) | exact Or.inr (Or.inr rfl)) (hd : (x == ("__debug__" : Str)) = false := by decide)
    (hcd : (x == ("__classdict__" : Str)) = false := by decide) : GI X M E tg (.Subscript (.Name x p1) (.Constant (.str "cells") j p2) pos) (iSeq X.K (tDGet (tVar i) (tC (.str "cells")))) (iDc M i) :=
  ⟨pi_seq (pe_dget (Nat.lt_of_le_of_lt (by omega) hu) (pe_var hN hv hd hcd) pe_str noSl_str), simi_dc⟩
/-- draw['large'].pop(0) if draw['large'] != [] else .. -/
theorem ge_dpop {j j2 j3 : Nat} {b : Expr} {tb : TE} {gb : TEx} {q1 q2 q3 q4 q5 q7 : Pos} (hu : X.A.units + 64 < cLine) (i : Nat) (hb : GE X M E b tb gb) (hN : X.N[i]? = some x := by rfl) (hv : Vis X.env.scope x := by first | exact Or.inl rfl | exact Or.inr (Or.inl rfl) | exact Or.inr (Or.inr rfl)) (hd : (x == ("__debug__" : Str)) = false := by decide)
    (hcd : (x == ("__classdict__" : Str)) = false := by decide) (hm : behindInMarks .NotEq (.List [] q7) = false := by first | rfl | exact nomark _)
    (hbase : attributeBase (.Subscript (.Name x p1) (.Constant (.str "large") j p2) p3) "pop" X.env (eval (.Subscript (.Name x p1) (.Constant (.str "large") j p2) p3) X.env) = eval (.Subscript (.Name x p1) (.Constant (.str "large") j p2) p3) X.env := by rfl)
    (hfew : ((backTo q1 (starEach [.Constant (.int 0) j3 p5] X.env)).all (fun x => !x.1) && (backToKw q1 (keywordEach [] X.env)).all (fun x => x.1.isSome) && decide (([.Constant (.int 0) j3 p5] : List Expr).length + ([] : List Keyword).length + (if ([] : List Keyword).isEmpty then 0 else 1) < 30)) = true := by rfl)
    (hline : (p4.endLine == q1.line) = true := by rfl) (hs : starEach [.Constant (.int 0) j3 p5] X.env = (false, eval (.Constant (.int 0) j3 p5) X.env) :: starEach [] X.env := by rfl) (hplain : (backTo q1 (starEach [] X.env)).any (·.1) = false := by rfl) :
    GE X M E (.IfExp (.Compare (.Subscript (.Name x q2) (.Constant (.str "large") j2 q3) q4) [.NotEq] [.List [] q7] q5) (.Call (.Attribute (.Subscript (.Name x p1) (.Constant (.str "large") j p2) p3) "pop" p4) [.Constant (.int 0) j3 p5] [] q1) b pos)
      (tIf (tTest (tOp (rNeU X.K) (tDGet (tVar i) (tC (.str "large"))) (tLst tNil))) (tBM X.K "list" rPopAt (tDGet (tVar i) (tC (.str "large"))) (tCons (tC (.int 0)) tNil)) tb) (gDpop M i gb) :=
  have hu1 : X.A.units + 1 < cLine := Nat.lt_of_le_of_lt (by omega) hu
  ⟨pe_ifExp (pt_cmpR (op_neU hu) (pe_dget hu1 (pe_var hN hv hd hcd) pe_str noSl_str) (pe_lst pa_nil) hm)
      (pe_bm PySem.F.plainAttrs_list PySem.F.slot_list_pop PySem.F.type_list_pop mt_popAt (pe_dget hu1 (pe_var hN hv hd hcd) pe_str noSl_str) (pa_cons pe_int pa_nil hs) hbase hfew hline hs hplain) hb.p, sim_dpop hb.s⟩
end
/-! ### methods of texts -/
section
variable {K : PySem.W.Frag} {M : Mode}
theorem ty_split (t : T) (ts : List T) (q : Sl → Prop) (e : gSplit t ts q) (x : V) (G H : Hp) (i : Is K G x t) (ok : Ok M G H) : tyV K "str" x H := by
  unfold gSplit at e
  split at e
  · exact str_ty i ok
  · exact e.elim
theorem ty_join (t : T) (ts : List T) (q : Sl → Prop) (e : gJoin t ts q) (x : V) (G H : Hp) (i : Is K G x t) (ok : Ok M G H) : tyV K "str" x H := by
  unfold gJoin at e
  split at e
  · exact str_ty i ok
  · exact str_ty i ok
  · exact e.elim
end
/-! ### what the head tells -/
abbrev FnP (K : PySem.W.Frag) (x : Str) (st : Stmt) (f : Addr) (fd : FuncData) : Prop := FunD K x x (defArgs st) (defBody st) (defScope st) [] [] f fd
def FnAt (K : PySem.W.Frag) (mg : Str → Option Value) (x : Str) (st : Stmt) : Prop := ∃ f fd, FnP K x st f fd ∧ mg x = some (.ref f)
/-- an own class of ValueErrors -/
def ExcF (K : PySem.W.Frag) (mg : Str → Option Value) (x : Str) : Prop := mg x = some (.ref (He.ga K x)) ∧ PySem.W.excIn K (He.ga K x) [.type "ValueError", .type "Exception", .type "BaseException", .type "object"] "ValueError.__new__" = true ∧ PySem.W.keepIn K (.ref (He.ga K x)) = true ∧
  PySem.W.subIn K (.ref (He.ga K x)) (.type "BaseException") = some true ∧ PySem.W.typeIn K (.ref (He.ga K x)) = some (.type "type")
end TL
namespace K87
open PySem PySem.Spec PyProof.Rows L2 TL
/-! ### lists of texts -/
theorem py_strs : ∀ zs : List Str, pyAll (zs.map T.str) = some (zs.map PyData.str)
  | [] => rfl
  | z :: zs => by
    simp only [List.map_cons, pyAll, py_strs zs, T.py]
abbrev sOk (z : Str) : Bool := PyData.strOk z
theorem lay_strs : ∀ zs : List Str, zs.all sOk = true → PyData.canLayAll0 (zs.map PyData.str) = true
  | [], _ => rfl
  | z :: zs, h => by
    rw [List.all_cons, Bool.and_eq_true] at h
    simp only [List.map_cons, PyData.canLayAll0, PyData.canLay0, lay_strs zs h.2, Bool.and_true]
    exact h.1
theorem depth_strs : ∀ zs : List Str, PyData.depthAll (zs.map PyData.str) ≤ 1
  | [] => by simp [PyData.depthAll]
  | z :: zs => by
    have := depth_strs zs
    simp only [List.map_cons, PyData.depthAll, PyData.depth]
    omega
theorem shaped_strs {zs : List Str} (h : zs.all sOk = true) : SeqAt.shaped (.list (zs.map PyData.str)) = true := by
  have h1 := depth_strs zs
  have h2 : PyData.depth (.list (zs.map PyData.str)) ≤ 64 := by
    simp only [PyData.depth]
    omega
  unfold SeqAt.shaped
  rw [decide_eq_true h2, Bool.and_true]
  simp only [PyData.canLay0]
  exact lay_strs zs h
theorem eqv_strs : ∀ zs ws : List Str, PyData.eqvAll (zs.map PyData.str) (ws.map PyData.str) = decide (zs = ws)
  | [], [] => rfl
  | [], _ :: _ => rfl
  | _ :: _, [] => rfl
  | z :: zs, w :: ws => by
    simp only [List.map_cons, PyData.eqvAll, PyData.eqv, eqv_strs zs ws]
    rw [Bool.eq_iff_iff]
    simp
theorem eqD_strs {zs ws : List Str} {k : Bool → Prop} (hz : zs.all sOk = true) (hw : ws.all sOk = true) (h : k (decide (zs = ws))) : eqD (.lst (zs.map T.str)) (.lst (ws.map T.str)) k := by
  unfold eqD
  simp only [scl2, T.py, py_strs, Option.map_some]
  refine ⟨shaped_strs hz, shaped_strs hw, ?_⟩
  simp only [PyData.eqv, eqv_strs]
  exact h
theorem gEq_strs {zs ws : List Str} {q : Sl → Prop} (hz : zs.all sOk = true) (hw : ws.all sOk = true) (h : q (.sh (.bl (decide (zs = ws))))) : gEq (.lst (zs.map T.str)) (.lst (ws.map T.str)) q := eqD_strs hz hw h
theorem gNe_strs {zs ws : List Str} {q : Sl → Prop} (hz : zs.all sOk = true) (hw : ws.all sOk = true) (h : q (.sh (.bl (!decide (zs = ws))))) : gNe (.lst (zs.map T.str)) (.lst (ws.map T.str)) q := eqD_strs (k := fun c => q (.sh (.bl (!c)))) hz hw h
theorem strsT_strs : ∀ zs : List Str, strsT (zs.map T.str) = some zs := strsT_map
/-! ### words of a text -/
theorem spl_len (S : List Nat) : ∀ (l : List Nat) (k : Nat) (acc : List Nat), ∀ p ∈ TL.spl S k acc l, p.length ≤ acc.length + l.length
  | [], _, acc, p, h => by
    simp only [TL.spl, List.mem_singleton] at h
    rw [h]
    simp
  | c :: r, 0, acc, p, h => by
    unfold TL.spl at h
    split at h
    · rcases List.mem_cons.mp h with e | h
      · rw [e]
        omega
      · have := spl_len S r _ [] p h
        simp only [List.length_nil, List.length_cons] at this ⊢
        omega
    · have := spl_len S r _ _ p h
      simp only [List.length_append, List.length_cons, List.length_nil] at this ⊢
      omega
  | c :: r, k + 1, acc, p, h => by
    have := spl_len S r k acc p h
    simp only [List.length_cons]
    omega
theorem spl_sub (S : List Nat) : ∀ (l : List Nat) (k : Nat) (acc : List Nat), ∀ p ∈ TL.spl S k acc l, ∀ c ∈ p, c ∈ acc ∨ c ∈ l
  | [], _, acc, p, h, c, hc => by
    simp only [TL.spl, List.mem_singleton] at h
    rw [h] at hc
    exact .inl hc
  | d :: r, 0, acc, p, h, c, hc => by
    unfold TL.spl at h
    split at h
    · rcases List.mem_cons.mp h with e | h
      · rw [e] at hc
        exact .inl hc
      · exact .inr ((spl_sub S r _ [] p h c hc).elim (fun z => nomatch z) (List.mem_cons_of_mem _))
    · rcases spl_sub S r _ _ p h c hc with z | z
      · rcases List.mem_append.mp z with z | z
        · exact .inl z
        · exact .inr (by rw [List.mem_singleton.mp z]; exact List.mem_cons_self)
      · exact .inr (List.mem_cons_of_mem _ z)
  | d :: r, k + 1, acc, p, h, c, hc => (spl_sub S r k acc p h c hc).imp id (List.mem_cons_of_mem _)
abbrev SP : Str := " "
theorem sp_all : SP.cps.all (· < 256) = true := by decide +kernel
theorem sp_tl : TL.tl SP = [32] := by decide +kernel
theorem split_len {x p : Str} (h : p ∈ Txt.split x SP) : p.length ≤ x.length := by
  have e := TL.split_spl x SP (by rw [sp_tl]; simp) (TL.kind_ok sp_all)
  have m : TL.tl p ∈ TL.spl (TL.tl SP) 0 [] (TL.tl x) := by
    rw [← e]
    exact List.mem_map.mpr ⟨p, h, rfl⟩
  have := spl_len _ _ _ _ _ m
  have e1 : (TL.tl p).length = p.length := Array.length_toList
  have e2 : (TL.tl x).length = x.length := Array.length_toList
  rw [e1, e2] at this
  simpa using this
theorem split_ok {x : Str} (hx : sOk x = true) : (Txt.split x SP).all sOk = true := by
  refine List.all_eq_true.mpr fun p h => ?_
  have e := TL.split_spl x SP (by rw [sp_tl]; simp) (TL.kind_ok sp_all)
  have m : TL.tl p ∈ TL.spl (TL.tl SP) 0 [] (TL.tl x) := by
    rw [← e]
    exact List.mem_map.mpr ⟨p, h, rfl⟩
  have hx' : ∀ c ∈ x.cps.toList, c < 0x110000 := fun c hc => by
    have z : x.cps.all (· < 0x110000) = true := hx
    exact of_decide_eq_true (Array.all_eq_true_iff_forall_mem.mp z c (by simpa using hc))
  show p.cps.all (· < 0x110000) = true
  refine Array.all_eq_true_iff_forall_mem.mpr fun c hc => decide_eq_true ?_
  exact hx' c ((spl_sub _ _ _ _ _ m c (by simpa using hc)).elim (fun z => nomatch z) id)
def words (z : Str) : List Str := if z = "" then [] else Txt.split z SP
theorem words_len {z p : Str} (h : p ∈ words z) : p.length ≤ z.length := by
  unfold words at h
  split at h
  · cases h
  · exact split_len h
theorem words_ok {z : Str} (h : sOk z = true) : (words z).all sOk = true := by
  unfold words
  split
  · rfl
  · exact split_ok h
theorem textL_strs (zs : List Str) : textL (zs.map T.str) = (decide ((zs.length : Int) ≤ 400) && zs.all tokS) := by
  unfold textL
  rw [List.length_map, List.all_map]
  rfl
theorem tame_strs {zs : List Str} (h : ∀ z ∈ zs, z.length ≤ sizeLine) : (zs.map T.str).all tame = true := by
  rw [List.all_map, List.all_eq_true]
  exact fun z hz => decide_eq_true (h z hz)
/-! ### the program's text functions -/
def sp_line_of : SpX := fun _ ts q _ => ∃ t zs, ts = [t] ∧ (t = .lst (zs.map T.str) ∨ t = .tup (zs.map T.str)) ∧ (zs.map (·.length)).sum + zs.length ≤ 16777216 ∧ q (.sh (.str (Txt.join SP zs)))
def sp_text_line (K : PySem.W.Frag) : SpX := fun M ts q r => ∃ t, ts = [t] ∧ tameX t = true ∧ (textB t = false → r ⟨.ref (He.ga K "BadText"), none⟩) ∧ (textB t = true → sp_line_of M [t] q r)
def sp_text_of : SpX := fun _ ts q _ => ∃ t, ts = [t] ∧ tame t = true ∧ (∀ z, t = .str z → z.length + 2 ≤ sizeLine ∧ (textL ((words z).map T.str) = true → q (.ol ((words z).map T.str))) ∧ (textL ((words z).map T.str) = false → q (.sh .non))) ∧ (isStr t = false → q (.sh .non))
def sp_read_line (K : PySem.W.Frag) : SpX := fun _ ts q r => ∃ t, ts = [t] ∧ tame t = true ∧ (∀ z, t = .str z → z.length + 2 ≤ sizeLine ∧ (textL ((words z).map T.str) = true → q (.ol ((words z).map T.str))) ∧ (textL ((words z).map T.str) = false → r ⟨.ref (He.ga K "BadForm"), none⟩)) ∧
  (isStr t = false → r ⟨.ref (He.ga K "BadForm"), none⟩)
def sp__law_says : SpX := fun _ ts q _ => ∃ a b d, ts = [a, b] ∧ a.py = some d ∧ b.py = some d ∧ ShOk d ∧ q (.sh (.bl true))
def sp__law_is_token : SpX := fun _ ts q _ => ∃ z : Str, ts = [.str z] ∧ z.length ≤ sizeLine ∧ sOk z = true ∧ q (.sh (.bl (tokS z)))
def sp__law_due : SpX := fun _ ts q _ => ∃ z : Str, ts = [.str z] ∧ z.length + 2 ≤ sizeLine ∧ sOk z = true ∧ (textL ((words z).map T.str) = true → q (.ol ((words z).map T.str))) ∧ (textL ((words z).map T.str) = false → q (.sh .non))
/-- plain signs -/
def aOk (z : Str) : Prop := ∀ c ∈ z.cps.toList, c < 128
def sp__law_spoilt : SpX := fun M ts q _ => ∃ d form, ts = [.raw (.ref d), .str form] ∧ IsDM M d ∧ form.length ≤ 5000 ∧ aOk form ∧ ∀ z : Str, z.length ≤ 20000 → aOk z → q (.sh (.str z))
def g_line_of : TSx := (sRet (gBM gJoin (gC (.str " ")) (aCons (gVar 0) aNil)))
def g_text_line (K : PySem.W.Frag) (M : Mode) : TSx := (sSeq (sIf (gNot (gB (gCall M sp_is_text (aCons (gVar 0) aNil)))) (sRaise (He.ga K "BadText")) sNext)
    (sRet (gCall M sp_line_of (aCons (gVar 0) aNil))))
def g_text_of (M : Mode) : TSx := (sSeq (sIf (gNot (gB (gCB gIsi (aCons (gVar 0) (aCons (gC (.raw (.ty "str"))) aNil))))) (sRet (gC .non)) sNext)
    (sSeq (sSet 1 (gIf (gB (gOp gNe (gVar 0) (gC (.str "")))) (gBM gSplit (gVar 0) (aCons (gC (.str " ")) aNil)) (TL.gLst aNil)))
    (sIf (gBorT (gB (gCall M sp_is_text (aCons (gVar 1) aNil)))) (sRetV 1) (sRet (gC .non)))))
def g_read_line (K : PySem.W.Frag) (M : Mode) : TSx := (sSeq (sSet 1 (gCall M sp_text_of (aCons (gVar 0) aNil)))
    (sSeq (sIf (gBorT (gB (gOp gIsN (gVar 1) (gC .non)))) (sRaise (He.ga K "BadForm")) sNext)
    (sRetV 1)))
def g__law_says : TSx := (sRet (gOp gEq (gCB gShow (aCons (gVar 0) aNil)) (gCB gShow (aCons (gVar 1) aNil))))
def g__law_is_token : TSx := (sRet (gOrV (gOp gEq (gVar 0) (gC (.str "."))) (gAndV (gChain gLe gLe (gC (.int 1)) (gCB gLen (aCons (gVar 0) aNil)) (gC (.int 8))) (gOp gEq (gLc [1] (iWalk (gVar 0)) (xName 1) (gB (gOp gNotInS (gVar 1) (gC (.str "abcdefghijklmnopqrstuvwxyz")))) (gVar 1)) (TL.gLst aNil)))))
def g__law_due (M : Mode) : TSx := (sSeq (sSet 1 (gIf (gB (gOp gNe (gVar 0) (gC (.str "")))) (gBM gSplit (gVar 0) (aCons (gC (.str " ")) aNil)) (TL.gLst aNil)))
    (sIf (gBorT (gAnd (gB (gOp gLe (gCB gLen (aCons (gVar 1) aNil)) (gC (.int 400)))) (gB (gOp gEq (gLc [2] (iWalk (gVar 1)) (xName 2) (gNot (gB (gCall M sp__law_is_token (aCons (gVar 2) aNil)))) (gVar 2)) (TL.gLst aNil))))) (sRetV 1) (sRet (gC .non))))
def g__law_spoilt (M : Mode) : TSx := (sSeq (sAsg2 2 3 (gCall M sp__law_take (aCons (gVar 0) (aCons (gOp gAdd (gCB gLen (aCons (gVar 1) aNil)) (gC (.int 1))) aNil))) (gCall M sp__law_take (aCons (gVar 0) (aCons (gC (.int 5)) aNil))))
    (sSeq (sIf (gB (gOp gEq (gVar 3) (gC (.int 0)))) (sRet (gOp gAdd (gSli gCut (gVar 1) oNo (oSome (gVar 2))) (gSli gCut (gVar 1) (oSome (gOp gAdd (gVar 2) (gC (.int 1)))) oNo))) sNext)
    (sSeq (sIf (gB (gOp gEq (gVar 3) (gC (.int 1)))) (sRet (gOp gAdd (gOp gAdd (gSli gCut (gVar 1) oNo (oSome (gVar 2))) (gCall M sp__law_pick (aCons (gVar 0) (aCons (TL.gLst (aCons (gC (.str " ")) (aCons (gC (.str ".")) (aCons (gC (.str "a")) (aCons (gC (.str "A")) (aCons (gC (.str "1")) (aCons (gC (.str "\n")) (aCons (gC (.str "\t")) (aCons (gC (.str "*")) (aCons (gC (.str " . ")) aNil)))))))))) aNil)))) (gSli gCut (gVar 1) (oSome (gVar 2)) oNo))) sNext)
    (sRet (gCall M sp__law_pick (aCons (gVar 0) (aCons (TL.gLst (aCons (gOp gAdd (gVar 1) (gC (.str " "))) (aCons (gOp gAdd (gC (.str " ")) (gVar 1)) (aCons (gOp gAdd (gVar 1) (gC (.str " abcdefgh"))) (aCons (gOp gAdd (gVar 1) (gC (.str " abcdefghi"))) (aCons (gOp gAdd (gVar 1) (gC (.str "  a"))) (aCons (gBM0 (gStr0 (fun a => a.length ≤ 5592405) fun a => .str (Txt.upper a)) (gVar 1)) (aCons (gOp gAdd (gVar 1) (gC (.str " .."))) (aCons (gC (.str " ")) (aCons (gC (.str ".")) (aCons (gC (.str "")) (aCons (gOp gAdd (gVar 1) (gOp gMul (gC (.str " .")) (gC (.int 9)))) aNil)))))))))))) aNil)))))))
theorem sem_line_of {ts : List T} {q : Sl → Prop} {r : Xn → Prop} {M : Mode} (h : sp_line_of M ts q r) : g_line_of (startS ["text"] ts) (KnOf q r) := by
  obtain ⟨t, zs, rfl, ht, hl, hq⟩ := h
  have key : ∀ t, (t = .lst (zs.map T.str) ∨ t = .tup (zs.map T.str)) → gJoin (.str SP) [t] q := fun t ht => by
    have e : (zs.map (·.length)).sum + zs.length * SP.length ≤ 16777216 := by
      rw [show SP.length = 1 by decide +kernel, Nat.mul_one]
      exact hl
    rcases ht with rfl | rfl
    all_goals
      show oks (strsT (zs.map T.str)) _
      rw [strsT_strs]
      exact ⟨e, hq⟩
  exact ⟨⟨[t], q, key t ht⟩, key t ht⟩
theorem sem_text_line {K : PySem.W.Frag} {ts : List T} {q : Sl → Prop} {r : Xn → Prop} {M : Mode} (h : sp_text_line K M ts q r) : g_text_line K M (startS ["text"] ts) (KnOf q r) := by
  obtain ⟨t, rfl, ht, h0, h1⟩ := h
  refine ⟨t, rfl, ht, ?_⟩
  show (if (!textB t) = true then _ else _)
  cases hb : textB t with
  | true => exact h1 hb
  | false => exact h0 hb
theorem sem_text_of {ts : List T} {q : Sl → Prop} {r : Xn → Prop} {M : Mode} (h : sp_text_of M ts q r) : g_text_of M (startS ["form", "found"] ts) (KnOf q r) := by
  obtain ⟨t, rfl, ht, h1, h0⟩ := h
  show oks (isiB t (.raw (.ty "str"))) _
  rw [isi_str ht]
  show (if (!isStr t) = true then _ else _)
  cases t with
  | str z =>
    obtain ⟨hz, k1, k0⟩ := h1 z rfl
    show (if (!decide (z = "")) = true then _ else _)
    have rest : ∀ ws : List Str, ws = words z → (sSeq sNext (sIf (gBorT (gB (gCall M sp_is_text (aCons (gVar 1) aNil)))) (sRetV 1) (sRet (gC .non)))) [.sh (.str z), .ol (ws.map T.str)] (KnOf q r) := fun ws e => by
      subst e
      have hx : tameX (.lst ((words z).map T.str)) = true := tame_strs fun w hw => Nat.le_trans (words_len hw) (Nat.le_trans (Nat.le_add_right _ 2) hz)
      refine ⟨.lst ((words z).map T.str), rfl, hx, ?_⟩
      show (if textL ((words z).map T.str) = true then _ else _)
      cases hb : textL ((words z).map T.str) with
      | true => exact k1 hb
      | false => exact k0 hb
    by_cases hz0 : z = ""
    · have e : (!decide (z = "")) = false := by simp [hz0]
      rw [e, if_neg (by decide)]
      exact ⟨Nat.zero_le _, rest [] (by unfold words; rw [if_pos hz0])⟩
    · have e : (!decide (z = "")) = true := by simp [hz0]
      rw [e, if_pos rfl]
      have c : (SP.length == 0) = false ∧ z.length + 2 ≤ sizeLine := ⟨by decide +kernel, hz⟩
      exact ⟨⟨[.str SP], fun _ => True, c, trivial⟩, c, rest (Txt.split z SP) (by unfold words; rw [if_neg hz0])⟩
  | raw => cases ht
  | ob => cases ht
  | _ => exact h0 rfl
theorem sem_read_line {K : PySem.W.Frag} {ts : List T} {q : Sl → Prop} {r : Xn → Prop} {M : Mode} (h : sp_read_line K M ts q r) : g_read_line K M (startS ["form", "found"] ts) (KnOf q r) := by
  obtain ⟨t, rfl, ht, h1, h0⟩ := h
  refine ⟨t, rfl, ht, fun z e => ?_, fun e => ?_⟩
  · obtain ⟨hz, k1, k0⟩ := h1 z e
    exact ⟨hz, fun b => k1 b, fun b => k0 b⟩
  · exact h0 e
theorem sem__law_says {ts : List T} {q : Sl → Prop} {r : Xn → Prop} {M : Mode} (h : sp__law_says M ts q r) : g__law_says (startS ["told", "due"] ts) (KnOf q r) := by
  obtain ⟨a, b, d, rfl, h1, h2, ok, hq⟩ := h
  show oks a.py _
  rw [h1]
  refine ⟨ok, ?_⟩
  show oks b.py _
  rw [h2]
  refine ⟨ok, ?_⟩
  show q (.sh (.bl (decide (d.shown = d.shown))))
  rw [decide_eq_true rfl]
  exact hq
theorem aOk.s {z : Str} (h : aOk z) : sOk z = true := by
  show z.cps.all (· < 0x110000) = true
  refine Array.all_eq_true_iff_forall_mem.mpr fun c hc => decide_eq_true ?_
  have := h c (by simpa using hc)
  omega
theorem aOk.app {x y : Str} (hx : aOk x) (hy : aOk y) : aOk (x ++ y) := fun c hc => by
  have e : (x ++ y).cps.toList = x.cps.toList ++ y.cps.toList := TL.tl_append x y
  rw [e] at hc
  exact (List.mem_append.mp hc).elim (hx c) (hy c)
theorem aOk.cut {x : Str} (hx : aOk x) (lo hi : Option Int) : aOk (cutS x lo hi) := fun c hc => by
  unfold cutS at hc
  exact hx c (List.mem_of_mem_drop (List.mem_of_mem_take hc))
theorem cut_len {x : Str} (lo hi : Option Int) : (cutS x lo hi).length ≤ x.length := by
  unfold cutS
  show ((List.take _ (List.drop _ x.cps.toList)).toArray).size ≤ x.cps.size
  rw [List.size_toArray, List.length_take, List.length_drop, Array.length_toList]
  omega
theorem aOk.upper {x : Str} (hx : aOk x) : aOk (Txt.upper x) := fun c hc => by
  rw [PyProof.Rows.upper_ascii hx] at hc
  have hc' : c ∈ (x.cps.map PyProof.Rows.up1).toList := hc
  rw [Array.toList_map] at hc'
  obtain ⟨d, hd, rfl⟩ := List.mem_map.mp hc'
  have := hx d hd
  unfold PyProof.Rows.up1
  split <;> omega
theorem app_len (x y : Str) : (x ++ y).length = x.length + y.length := strLen_append x y
theorem sem__law_is_token {ts : List T} {q : Sl → Prop} {r : Xn → Prop} {M : Mode} (h : sp__law_is_token M ts q r) : g__law_is_token (startS ["word", "sign"] ts) (KnOf q r) := by
  obtain ⟨z, rfl, hz, ho, hq⟩ := h
  show (if decide (z = ".") = true then _ else _)
  have hq' : q (.sh (.bl (letS z 1 8 || decide (z = ".")))) := hq
  by_cases hd : decide (z = ".") = true
  · rw [if_pos hd]
    rw [hd, Bool.or_true] at hq'
    exact hq'
  · rw [if_neg hd]
    have hd' : decide (z = ".") = false := by simpa using hd
    rw [hd', Bool.or_false] at hq'
    refine ⟨hz, ?_⟩
    have hq2 : q (.sh (.bl (decide ((1 : Int) ≤ (z.length : Int)) && (decide ((z.length : Int) ≤ 8) && z.cps.toList.all isLet)))) := hq'
    show (if decide ((1 : Int) ≤ (z.length : Int)) = true then _ else _)
    by_cases h1 : decide ((1 : Int) ≤ (z.length : Int)) = true
    · rw [if_pos h1]
      rw [h1, Bool.true_and] at hq2
      show (if decide ((z.length : Int) ≤ 8) = true then _ else _)
      by_cases h2 : decide ((z.length : Int) ≤ 8) = true
      · rw [if_pos h2]
        rw [h2, Bool.true_and] at hq2
        refine lcR_if (p := fun t => match t with | .str ⟨#[c]⟩ => !isLet c | _ => false) (f := id) (fun t ht Q k => ?_) (fun t ht _ Q k => k) (by rw [List.length_map, Array.length_toList]; show 0 + z.length ≤ sizeLine; omega) ?_
        · obtain ⟨c, _, rfl⟩ := List.mem_map.mp ht
          exact k
        · have e : ((z.cps.toList.map fun c => T.str ⟨#[c]⟩).filter fun t => match t with | .str ⟨#[c]⟩ => !isLet c | _ => false) = ((z.cps.toList.filter fun c => !isLet c).map fun c => (⟨#[c]⟩ : Str)).map T.str := by
            rw [List.filter_map, List.map_map]
            rfl
          rw [List.map_id, List.nil_append, e]
          refine ⟨Nat.zero_le _, gEq_strs (ws := []) ?_ rfl ?_⟩
          · rw [List.all_map, List.all_eq_true]
            intro c hc
            have hc' := (List.mem_filter.mp hc).1
            have z0 : z.cps.all (· < 0x110000) = true := ho
            show (#[c] : Array Nat).all (· < 0x110000) = true
            have := Array.all_eq_true_iff_forall_mem.mp z0 c (by simpa using hc')
            simpa using this
          · have e2 : decide (((z.cps.toList.filter fun c => !isLet c).map fun c => (⟨#[c]⟩ : Str)) = []) = z.cps.toList.all isLet := by
              rw [Bool.eq_iff_iff, decide_eq_true_iff, List.map_eq_nil_iff, List.filter_eq_nil_iff, List.all_eq_true]
              exact ⟨fun h a ha => by have := h a ha; simpa using this, fun h a ha => by have := h a ha; simpa using this⟩
            rw [e2]
            exact hq2
      · rw [if_neg h2]
        have h2' : decide ((z.length : Int) ≤ 8) = false := by simpa using h2
        rw [h2', Bool.false_and] at hq2
        exact hq2
    · rw [if_neg h1]
      have h1' : decide ((1 : Int) ≤ (z.length : Int)) = false := by simpa using h1
      rw [h1', Bool.false_and] at hq2
      exact hq2
theorem sem__law_due {ts : List T} {q : Sl → Prop} {r : Xn → Prop} {M : Mode} (h : sp__law_due M ts q r) : g__law_due M (startS ["form", "words", "word"] ts) (KnOf q r) := by
  obtain ⟨z, rfl, hz, ho, k1, k0⟩ := h
  have rest : ∀ ws : List Str, ws = words z → (sIf (gBorT (gAnd (gB (gOp gLe (gCB gLen (aCons (gVar 1) aNil)) (gC (.int 400)))) (gB (gOp gEq (gLc [2] (iWalk (gVar 1)) (xName 2) (gNot (gB (gCall M sp__law_is_token (aCons (gVar 2) aNil)))) (gVar 2)) (TL.gLst aNil))))) (sRetV 1) (sRet (gC .non))) [.sh (.str z), .ol (ws.map T.str), .no] (KnOf q r) := fun ws e => by
    subst e
    rw [textL_strs] at k1 k0
    show (if decide ((((words z).map T.str).length : Int) ≤ 400) = true then _ else _)
    rw [List.length_map]
    by_cases h1 : decide (((words z).length : Int) ≤ 400) = true
    · rw [if_pos h1]
      rw [h1, Bool.true_and] at k1 k0
      have h2 : ((words z).length : Int) ≤ 400 := of_decide_eq_true h1
      refine lcR_if (p := fun t => match t with | .str w => !tokS w | _ => false) (f := id) (fun t ht Q k => ?_) (fun t ht _ Q k => k) (by rw [List.length_map, sizeLine_eq]; simp; omega) ?_
      · obtain ⟨w, hw, rfl⟩ := List.mem_map.mp ht
        exact ⟨w, rfl, Nat.le_trans (words_len hw) (Nat.le_trans (Nat.le_add_right _ 2) hz), List.all_eq_true.mp (words_ok ho) w hw, k⟩
      · have e : (((words z).map T.str).filter fun t => match t with | .str w => !tokS w | _ => false) = ((words z).filter fun w => !tokS w).map T.str := by
          rw [List.filter_map]
          rfl
        rw [List.map_id, List.nil_append, e]
        refine ⟨Nat.zero_le _, gEq_strs (ws := []) ?_ rfl ?_⟩
        · exact List.all_eq_true.mpr fun w hw => List.all_eq_true.mp (words_ok ho) w (List.mem_filter.mp hw).1
        · have e2 : decide (((words z).filter fun w => !tokS w) = []) = (words z).all tokS := by
            rw [Bool.eq_iff_iff]
            simp [List.filter_eq_nil_iff]
          rw [e2]
          show (if (words z).all tokS = true then _ else _)
          cases hb : (words z).all tokS with
          | true => exact k1 hb
          | false => exact k0 hb
    · rw [if_neg h1]
      have h1' : decide (((words z).length : Int) ≤ 400) = false := by simpa using h1
      rw [h1', Bool.false_and] at k0
      exact k0 rfl
  show (if (!decide (z = "")) = true then _ else _)
  by_cases hz0 : z = ""
  · have e : (!decide (z = "")) = false := by simp [hz0]
    rw [e, if_neg (by decide)]
    exact ⟨Nat.zero_le _, rest [] (by unfold words; rw [if_pos hz0])⟩
  · have e : (!decide (z = "")) = true := by simp [hz0]
    rw [e, if_pos rfl]
    have c : (SP.length == 0) = false ∧ z.length + 2 ≤ sizeLine := ⟨by decide +kernel, hz⟩
    exact ⟨⟨[.str SP], fun _ => True, c, trivial⟩, c, rest (Txt.split z SP) (by unfold words; rw [if_neg hz0])⟩
theorem sem__law_spoilt {ts : List T} {q : Sl → Prop} {r : Xn → Prop} {M : Mode} (h : sp__law_spoilt M ts q r) : g__law_spoilt M (startS ["draw", "form", "at", "way"] ts) (KnOf q r) := by
  obtain ⟨d, form, rfl, hM, hl, ha, hq⟩ := h
  have SL : ∀ n : Nat, n ≤ 100000 → n ≤ sizeLine := fun n h => by rw [sizeLine_eq]; omega
  have fs : form.length ≤ sizeLine := SL _ (by omega)
  refine ⟨fs, d, (form.length : Int) + 1, rfl, hM, by omega, by omega, fun at_ a0 a1 => ⟨d, 5, rfl, hM, by decide, by decide, fun way w0 w1 => ?_⟩⟩
  have c1 := cut_len (x := form) none (some at_)
  have c2 := cut_len (x := form) (some at_) none
  have c3 := cut_len (x := form) (some (at_ + 1)) none
  have okl : ∀ z : Str, z.cps.toList.all (· < 128) = true → aOk z := fun z h c hc => of_decide_eq_true (List.all_eq_true.mp h c hc)
  show (if decide (way = 0) = true then _ else _)
  split
  · refine ⟨fs, fs, SL _ (by omega), hq _ ?_ ((ha.cut _ _).app (ha.cut _ _))⟩
    rw [app_len]
    omega
  · show (if decide (way = 1) = true then _ else _)
    split
    · refine ⟨fs, SL 9 (by decide), d, _, _, rfl, hM, .inl rfl, by decide, by decide, fun x hx => ?_⟩
      have key : ∀ w : Str, w.length ≤ 3 → w.cps.toList.all (· < 128) = true → gAdd (.str (cutS form none (some at_))) (.str w) fun s => gSli gCut (gVar 1) (oSome (gVar 2)) oNo [.sh (.raw (.ref d)), .sh (.str form), .sh (.int at_), .sh (.int way)] (fun u => gAdd s.fz u.fz q) r := fun w hw hwa => by
        refine ⟨SL _ (by omega), fs, SL _ (by rw [app_len]; omega), hq _ (by rw [app_len, app_len]; omega) (((ha.cut _ _).app (okl w hwa)).app (ha.cut _ _))⟩
      simp only [List.mem_cons, List.not_mem_nil, or_false] at hx
      rcases hx with rfl | rfl | rfl | rfl | rfl | rfl | rfl | rfl | rfl <;> exact key _ (by decide +kernel) (by decide +kernel)
    · have u3 : (Txt.upper form).length ≤ 3 * form.length := PyProof.Rows.len_upper form
      have e9 : (mulS " ." 9).length = 18 := by decide +kernel
      have l1 : ∀ w : Str, w.length ≤ 20 → form.length + w.length ≤ sizeLine := fun w h => SL _ (by omega)
      have l2 : ∀ w : Str, w.length ≤ 20 → w.length + form.length ≤ sizeLine := fun w h => SL _ (by omega)
      refine ⟨l1 _ (by decide +kernel), l2 _ (by decide +kernel), l1 _ (by decide +kernel), l1 _ (by decide +kernel), l1 _ (by decide +kernel), by omega, l1 _ (by decide +kernel), ⟨by decide, by decide, by decide +kernel⟩, l1 _ (by decide +kernel), SL 11 (by decide), d, _, _, rfl, hM, .inl rfl, (show 0 < 11 by decide), (show 11 < 1073741824 by decide), fun x hx => ?_⟩
      have k1 : ∀ w : Str, w.length ≤ 20 → w.cps.toList.all (· < 128) = true → q (.sh (.str (form ++ w))) := fun w h1 h2 => hq _ (by rw [app_len]; omega) (ha.app (okl w h2))
      have k0 : ∀ w : Str, w.length ≤ 20 → w.cps.toList.all (· < 128) = true → q (.sh (.str w)) := fun w h1 h2 => hq _ (by omega) (okl w h2)
      simp only [List.mem_cons, List.not_mem_nil, or_false] at hx
      rcases hx with rfl | rfl | rfl | rfl | rfl | rfl | rfl | rfl | rfl | rfl | rfl
      · exact k1 _ (by decide +kernel) (by decide +kernel)
      · exact hq _ (by rw [app_len]; have : (" " : Str).length = 1 := by decide +kernel
                       omega) ((okl _ (by decide +kernel)).app ha)
      · exact k1 _ (by decide +kernel) (by decide +kernel)
      · exact k1 _ (by decide +kernel) (by decide +kernel)
      · exact k1 _ (by decide +kernel) (by decide +kernel)
      · exact hq _ (by omega) ha.upper
      · exact k1 _ (by decide +kernel) (by decide +kernel)
      · exact k0 _ (by decide +kernel) (by decide +kernel)
      · exact k0 _ (by decide +kernel) (by decide +kernel)
      · exact k0 _ (by decide +kernel) (by decide +kernel)
      · exact k1 _ (by decide +kernel) (by decide +kernel)
end K87
namespace TL
open PySem PySem.Spec PyProof.Rows L2
/-! ### readings, taken apart one step at a time -/
section
variable {τ : List Sl} {q : Sl → Prop} {qb : Bool → Prop} {ql : List T → Prop} {r : Xn → Prop} {a b c : TEx} {ta tb : TTx} {as bs : TAx} {M : Mode} {sp : SpX} {t : T} {i j : Nat} {g : GR2} {gc : GC} {k : Kn}
theorem i_cons (h : a τ (fun s => bs τ (fun ts => ql (s.fz :: ts)) r) r) : aCons a bs τ ql r := h
theorem i_nil (h : ql []) : aNil τ ql r := h
theorem i_var (t : T) (e : τ[i]? = some (.sh t)) (h : q (.sh t)) : gVar i τ q r := by
  unfold gVar
  rw [e]
  exact h
theorem i_c (h : q (.sh t)) : gC t τ q r := h
theorem i_call (h : as τ (fun ts => sp M ts q r) r) : gCall M sp as τ q r := h
theorem i_callW {is : List Nat} (h : as τ (fun ts => ts.length = is.length ∧ sp M (perm .non is ts) q r) r) : gCallW M sp is as τ q r := h
theorem i_lst (h : as τ (fun ts => ts.length ≤ sizeLine ∧ q (.ol ts)) r) : TL.gLst as τ q r := h
theorem i_tup (h : as τ (fun ts => ts.length ≤ sizeLine ∧ q (.sh (.tup ts))) r) : TL.gTup as τ q r := h
theorem i_op (h : a τ (fun s => b τ (fun u => g s.fz u.fz q) r) r) : gOp g a b τ q r := h
theorem i_cb (h : as τ (fun ts => gc ts q) r) : gCB gc as τ q r := h
theorem i_bm {gm : GM} (h : a τ (fun s => (∃ ts q', gm s.fz ts q') ∧ as τ (fun ts => gm s.fz ts q) r) r) : gBM gm a as τ q r := h
theorem i_B (h : a τ (fun s => isB s qb) r) : gB a τ qb r := h
theorem i_not (h : ta τ (fun c => qb (!c)) r) : gNot ta τ qb r := h
theorem i_and (h : ta τ (fun c => if c = true then tb τ qb r else qb false) r) : gAnd ta tb τ qb r := h
theorem i_or (h : ta τ (fun c => if c = true then qb true else tb τ qb r) r) : gOr ta tb τ qb r := h
theorem i_borT (h : ta (τ.map Sl.froz) qb r) : gBorT ta τ qb r := h
theorem i_bor (h : a (τ.map Sl.froz) (fun s => s.scl ∧ q s) r) : gBor a τ q r := h
theorem i_andV (h : a τ (fun s => isB s fun c => if c = true then b τ q r else q (.sh (.bl false))) r) : gAndV a b τ q r := h
variable {A B C : TSx}
theorem s_seq (h : A τ { k with nx := fun τ' => B τ' k }) : sSeq A B τ k := h
theorem s_next (h : k.nx τ) : sNext τ k := h
theorem s_set (h : a τ (fun s => k.nx (τ.set i s)) k.ex) : sSet i a τ k := h
theorem s_asg2 (h : a τ (fun s => b τ (fun u => k.nx ((τ.set i s).set j u)) k.ex) k.ex) : sAsg2 i j a b τ k := h
theorem s_if (h : ta τ (fun d => if d = true then A τ k else B τ k) k.ex) : sIf ta A B τ k := h
theorem s_ret (h : a τ k.rt k.ex) : sRet a τ k := h
theorem s_for {src : TIx} {gx : TGx} (h : src τ (fun items => forR gx A k items τ) k.ex) : sFor src gx A τ k := h
theorem s_app (ts : List T) (e : τ[i]? = some (.ol ts)) (h : a τ (fun s => ts.length < sizeLine ∧ k.nx (τ.set i (.ol (ts ++ [s.fz])))) k.ex) : sApp i a τ k := by
  refine ⟨?_, ts, e⟩
  rw [e]
  exact h
theorem s_gotApp {K : PySem.W.Frag} {CS : Addr} (ts : List T) (e : τ[j]? = some (.ol ts)) (h : a τ (fun s => ts.length < sizeLine ∧ k.nx ((τ.set j (.ol (ts ++ [s.fz]))).set i (.sh .non))) (gotX K CS fun s => k.nx (τ.set i s))) : sGotApp K CS i j a τ k := by
  refine ⟨?_, ts, e⟩
  rw [e]
  exact h
theorem i_got {K : PySem.W.Frag} {CS : Addr} (h : a τ (fun _ => q (.sh .non)) (gotX K CS q)) : gGot K CS a τ q r := h
theorem st_set (h : a τ (fun s => B (τ.set i s) k) k.ex) : sSeq (sSet i a) B τ k := h
theorem st_asg2 (h : a τ (fun s => b τ (fun u => B ((τ.set i s).set j u) k) k.ex) k.ex) : sSeq (sAsg2 i j a b) B τ k := h
theorem st_ifN (h : ta τ (fun d => if d = true then A τ { k with nx := fun τ' => B τ' k } else B τ k) k.ex) : sSeq (sIf ta A sNext) B τ k := h
theorem st_for {src : TIx} {gx : TGx} (h : src τ (fun items => forR gx A { k with nx := fun τ' => B τ' k } items τ) k.ex) : sSeq (sFor src gx A) B τ k := h
theorem st_app (ts : List T) (e : τ[i]? = some (.ol ts)) (h : a τ (fun s => ts.length < sizeLine ∧ B (τ.set i (.ol (ts ++ [s.fz]))) k) k.ex) : sSeq (sApp i a) B τ k := s_seq (s_app ts e h)
theorem st_gotApp {K : PySem.W.Frag} {CS : Addr} (ts : List T) (e : τ[j]? = some (.ol ts)) (h : a τ (fun s => ts.length < sizeLine ∧ B ((τ.set j (.ol (ts ++ [s.fz]))).set i (.sh .non)) k) (gotX K CS fun s => B (τ.set i s) k)) : sSeq (sGotApp K CS i j a) B τ k := s_seq (s_gotApp ts e h)
theorem i_isB {x : Bool} (h : qb x) : isB (.sh (.bl x)) qb := h
theorem i_walk {ti : List T → Prop} (h : a τ (fun s => oks s.fz.items ti) r) : iWalk a τ ti r := h
theorem i_lc {vs : List Nat} {src : TIx} {gx : TGx} (h : src τ (fun items => lcR gx ta a (wipeS τ vs) (fun ts => q (.ol ts)) items []) r) : gLc vs src gx ta a τ q r := h
theorem i_r1 {ti : List T → Prop} {n : Int} (h : as τ (fun ts => ts = [.int n] ∧ (-(2 ^ 62) ≤ n ∧ n < 2 ^ 62) ∧ ti (rangeT 0 n.toNat)) r) (mono : ∀ (Q Q' : List T → Prop), (∀ ts, Q ts → Q' ts) → as τ Q r → as τ Q' r) : iR1 as τ ti r :=
  mono _ _ (fun ts ⟨e, h1, h2⟩ => by rw [e]; exact ⟨h1, h2⟩) h
theorem i_r1c {ti : List T → Prop} {n : Int} (h0 : -(2 ^ 62) ≤ n ∧ n < 2 ^ 62) (h : ti (rangeT 0 n.toNat)) : iR1 (aCons (gC (.int n)) aNil) τ ti r := ⟨h0, h⟩
theorem x_name {ql : List Sl → Prop} (h : ql (τ.set i (.sh t))) : xName i t τ ql := h
theorem i_items {xs : List T} {ti : List T → Prop} (h : ti xs) : oks (T.items (Sl.fz (.ol xs))) ti := h
theorem i_d0 (h : q (.od [])) : gD0 τ q r := h
theorem i_isN_l {xs : List T} (h : q (.sh (.bl false))) : gIsN (.lst xs) .non q := h
theorem i_isN_n (h : q (.sh (.bl true))) : gIsN .non .non q := h
theorem i_notN_l {xs : List T} (h : q (.sh (.bl true))) : gNotN (.lst xs) .non q := h
theorem i_notN_n (h : q (.sh (.bl false))) : gNotN .non .non q := h
theorem i_ix {xs : List T} {n : Int} {t : T} (e : atI xs n = some t) (h : q (.sh t)) : gIx (.lst xs) (.int n) q := by
  show oks (atI xs n) _
  rw [e]
  exact h
/-- a test that holds, one that does not -/
theorem ifT {c : Bool} {a b : Prop} (h : c = true) (k : a) : if c = true then a else b := by
  rw [if_pos h]
  exact k
theorem ifF {c : Bool} {a b : Prop} (h : c = false) (k : b) : if c = true then a else b := by
  rw [h, if_neg (by decide)]
  exact k
end
end TL
namespace K87
open PySem PySem.Spec PyProof.Rows L2 TL
/-! ### joined words -/
theorem joinL_len (S : List Nat) : ∀ ps : List (List Nat), (TL.joinL S ps).length ≤ (ps.map List.length).sum + ps.length * S.length
  | [] => by simp [TL.joinL]
  | [p] => by simp [TL.joinL]
  | p :: q :: r => by
    have := joinL_len S (q :: r)
    simp only [TL.joinL, List.length_append, List.map_cons, List.sum_cons, List.length_cons, Nat.add_mul] at this ⊢
    omega
theorem joinL_mem (S : List Nat) (P : Nat → Prop) (hS : ∀ c ∈ S, P c) : ∀ ps : List (List Nat), (∀ p ∈ ps, ∀ c ∈ p, P c) → ∀ c ∈ TL.joinL S ps, P c
  | [], _, c, h => nomatch h
  | [p], hp, c, h => hp p (by simp) c h
  | p :: q :: r, hp, c, h => by
    have ih := joinL_mem S P hS (q :: r) fun p' h' => hp p' (List.mem_cons_of_mem _ h')
    rcases List.mem_append.mp (show c ∈ p ++ (S ++ TL.joinL S (q :: r)) from h) with h | h
    · exact hp p (by simp) c h
    · rcases List.mem_append.mp h with h | h
      · exact hS c h
      · exact ih c h
theorem join_tl (ws : List Str) : (Txt.join SP ws).cps.toList = TL.joinL [32] (ws.map TL.tl) := by
  rw [TL.join_eq]
  have e := TL.tl_join SP ws
  rw [sp_tl] at e
  exact e
/-- a token -/
structure Tok (w : Str) : Prop where
  t : tokS w = true
theorem tok_mem {w : Str} (h : tokS w = true) : ∀ c ∈ w.cps.toList, c = 46 ∨ isLet c = true := by
  unfold tokS letS at h
  rw [Bool.or_eq_true] at h
  rcases h with h | h
  · rw [Bool.and_eq_true, Bool.and_eq_true] at h
    exact fun c hc => .inr (List.all_eq_true.mp h.2.2 c hc)
  · have e : w = "." := of_decide_eq_true h
    subst e
    intro c hc
    have z : ("." : Str).cps.toList = [46] := by decide +kernel
    rw [z] at hc
    exact .inl (List.mem_singleton.mp hc)
theorem let_lt {c : Nat} (h : isLet c = true) : 97 ≤ c ∧ c < 123 := by
  have m : c ∈ LET.cps.toList := of_decide_eq_true h
  have z : LET.cps.toList.all (fun c => decide (97 ≤ c ∧ c < 123)) = true := by decide +kernel
  exact of_decide_eq_true (List.all_eq_true.mp z c m)
theorem tok_aOk {w : Str} (h : tokS w = true) : aOk w := fun c hc => by
  rcases tok_mem h c hc with rfl | z
  · decide
  · have := let_lt z
    omega
theorem tok_free {w : Str} (h : tokS w = true) : 32 ∉ TL.tl w := fun hc => by
  rcases tok_mem h 32 hc with z | z
  · cases z
  · have := let_lt z
    omega
theorem tok_len {w : Str} (h : tokS w = true) : w.length ≤ 8 := by
  unfold tokS letS at h
  rw [Bool.or_eq_true] at h
  rcases h with h | h
  · rw [Bool.and_eq_true, Bool.and_eq_true] at h
    have := of_decide_eq_true h.2.1
    omega
  · have e : w = "." := of_decide_eq_true h
    subst e
    decide +kernel
theorem sum_len : ∀ {ws : List Str}, (∀ w ∈ ws, tokS w = true) → (ws.map (·.length)).sum ≤ 8 * ws.length
  | [], _ => by simp
  | w :: ws, h => by
    have h1 := tok_len (h w List.mem_cons_self)
    have h2 := sum_len (ws := ws) fun v hv => h v (List.mem_cons_of_mem _ hv)
    simp only [List.map_cons, List.sum_cons, List.length_cons]
    omega
theorem join_len {ws : List Str} (h : ∀ w ∈ ws, tokS w = true) : (Txt.join SP ws).length ≤ 9 * ws.length := by
  have e : (Txt.join SP ws).length = (TL.joinL [32] (ws.map TL.tl)).length := by
    rw [← join_tl, Array.length_toList]
    rfl
  have h1 := joinL_len [32] (ws.map TL.tl)
  have h2 : ((ws.map TL.tl).map List.length).sum = (ws.map (·.length)).sum := by
    rw [List.map_map]
    rfl
  have h3 := sum_len h
  rw [List.length_map] at h1
  simp only [List.length_singleton] at h1
  omega
theorem join_aOk {ws : List Str} (h : ∀ w ∈ ws, tokS w = true) : aOk (Txt.join SP ws) := fun c hc => by
  rw [join_tl] at hc
  refine joinL_mem [32] (· < 128) (fun c hc => ?_) _ (fun p hp c hc => ?_) c hc
  · rw [List.mem_singleton.mp hc]
    decide
  · obtain ⟨w, hw, rfl⟩ := List.mem_map.mp hp
    exact tok_aOk (h w hw) c hc
theorem words_join {ws : List Str} (h : ∀ w ∈ ws, tokS w = true) : words (Txt.join SP ws) = ws := by
  cases ws with
  | nil => decide +kernel
  | cons w ws =>
    have sj : Txt.split (Txt.join SP (w :: ws)) SP = w :: ws := TL.split_join sp_tl sp_all (by simp) fun p hp => tok_free (h p hp)
    unfold words
    split
    · rename_i e
      rw [e] at sj
      have z : Txt.split ("" : Str) SP = ([""] : List Str) := by decide +kernel
      rw [z] at sj
      have e2 : w = "" := (List.cons.inj sj).1.symm
      have := h w List.mem_cons_self
      rw [e2] at this
      have z2 : tokS "" = false := by decide +kernel
      rw [z2] at this
      cases this
    · exact sj
theorem textL_tok {ws : List Str} (h : ∀ w ∈ ws, tokS w = true) (hl : ws.length ≤ 400) : textL (ws.map T.str) = true := by
  rw [textL_strs, Bool.and_eq_true]
  exact ⟨decide_eq_true (by omega), List.all_eq_true.mpr h⟩
theorem tok_of_textL {ws : List Str} (h : textL (ws.map T.str) = true) : (∀ w ∈ ws, tokS w = true) ∧ ws.length ≤ 400 := by
  rw [textL_strs, Bool.and_eq_true] at h
  have := of_decide_eq_true h.1
  exact ⟨List.all_eq_true.mp h.2, by omega⟩
/-! ### shown -/
theorem show_strs : ∀ ws : List Str, PyData.showableAll (ws.map PyData.str) = true
  | [] => rfl
  | w :: ws => by simp only [List.map_cons, PyData.showableAll, PyData.showable, show_strs ws, Bool.and_self]
theorem dict_strs : ∀ ws : List Str, PyData.hasDictAll (ws.map PyData.str) = false
  | [] => rfl
  | w :: ws => by simp only [List.map_cons, PyData.hasDictAll, PyData.hasDict, dict_strs ws, Bool.or_self]
theorem aOk.short {w : Str} (h : aOk w) : PyData.leavesShort 13 (.str w) = true := by
  unfold PyData.leavesShort
  refine List.all_eq_true.mpr fun c hc => decide_eq_true ?_
  have := h c hc
  have e : (16 : Nat) ^ 8 = 4294967296 := by decide
  omega
theorem short_strs : ∀ {ws : List Str}, (∀ w ∈ ws, aOk w) → PyData.leavesShortAll 13 (ws.map PyData.str) = true
  | [], _ => rfl
  | w :: ws, h => by
    have h1 := (h w List.mem_cons_self).short
    have h2 := short_strs (ws := ws) fun v hv => h v (List.mem_cons_of_mem _ hv)
    simp only [List.map_cons, PyData.leavesShortAll, h1, h2, Bool.and_self]
theorem bulk_strs : ∀ {ws : List Str}, (∀ w ∈ ws, w.length ≤ 8) → PyData.bulkAll (ws.map PyData.str) ≤ 9 * ws.length
  | [], _ => by simp [PyData.bulkAll]
  | w :: ws, h => by
    have h1 : w.cps.size ≤ 8 := h w List.mem_cons_self
    have h2 := bulk_strs (ws := ws) fun v hv => h v (List.mem_cons_of_mem _ hv)
    simp only [List.map_cons, PyData.bulkAll, PyData.bulk, List.length_cons]
    omega
theorem shOk_words {ws : List Str} (h : ∀ w ∈ ws, tokS w = true) (hl : ws.length ≤ 400) : ShOk (.list [.list (ws.map PyData.str)]) := by
  have h1 := bulk_strs (ws := ws) fun w hw => tok_len (h w hw)
  have h2 := depth_strs ws
  have h3 := short_strs (ws := ws) fun w hw => tok_aOk (h w hw)
  refine ⟨?_, ?_, ?_, ?_, ?_⟩
  · simp only [PyData.showable, PyData.showableAll, show_strs, Bool.and_self]
  · simp only [PyData.leavesShort, PyData.leavesShortAll, h3, Bool.and_self]
  · simp only [PyData.bulk, PyData.bulkAll]
    omega
  · simp only [PyData.depth, PyData.depthAll]
    omega
  · simp only [PyData.hasDict, PyData.hasDictAll, dict_strs, Bool.or_self]
theorem shOk_four {ws : List Str} {f : Str} (h : ∀ w ∈ ws, tokS w = true) (hl : ws.length ≤ 400) (hf : aOk f) (fl : f.length ≤ 5000) : ShOk (.list [.str f, .str f, .list (ws.map PyData.str), .list (ws.map PyData.str)]) := by
  have h1 := bulk_strs (ws := ws) fun w hw => tok_len (h w hw)
  have h2 := depth_strs ws
  have h3 := short_strs (ws := ws) fun w hw => tok_aOk (h w hw)
  have h4 := hf.short
  have h5 : f.cps.size ≤ 5000 := fl
  refine ⟨?_, ?_, ?_, ?_, ?_⟩
  · simp only [PyData.showable, PyData.showableAll, show_strs, Bool.and_self]
  · have z : PyData.leavesShort 13 (.list (ws.map PyData.str)) = true := by
      unfold PyData.leavesShort
      exact h3
    show PyData.leavesShortAll 13 _ = true
    simp only [PyData.leavesShortAll, h4, z, Bool.and_self]
  · simp only [PyData.bulk, PyData.bulkAll]
    omega
  · simp only [PyData.depth, PyData.depthAll]
    omega
  · simp only [PyData.hasDict, PyData.hasDictAll, dict_strs, Bool.or_self]
end K87
namespace K87
open PySem PySem.Spec PyProof.Rows L2 TL
def g_law (K : PySem.W.Frag) (M : Mode) : TSx := (sSeq (sFor (iR1 (aCons (gOp gAdd (gC (.int 6)) (gCB gMin2 (aCons (gCB gLen (aCons (gVar 0) aNil)) (aCons (gC (.int 10)) aNil)))) aNil)) (xName 2) (sSeq (sSet 3 (gCall M sp__law_pick (aCons (gVar 1) (aCons (TL.gLst (aCons (gC (.int 0)) (aCons (gC (.int 1)) (aCons (gC (.int 2)) (aCons (gC (.int 9)) (aCons (gC (.int 9)) (aCons (gC (.int 40)) (aCons (gC (.int 399)) (aCons (gC (.int 400)) aNil))))))))) aNil))))
    (sSeq (sSet 4 (gLc [13] (iR1 (aCons (gVar 3) aNil)) (xName 13) gYes (gCall M sp__law_pick (aCons (gVar 1) (aCons (TL.gLst (aCons (gC (.str "a")) (aCons (gC (.str "abcdefgh")) (aCons (gC (.str "zz")) (aCons (gC (.str ".")) (aCons (gC (.str "cat")) aNil)))))) aNil)))))
    (sSeq (sSet 5 (gBor (gBM gJoin (gC (.str " ")) (aCons (gVar 4) aNil))))
    (sSeq (sIf (gBorT (gNot (gB (gCall M sp__law_says (aCons (TL.gLst (aCons (gCall M (sp_text_line K) (aCons (gVar 4) aNil)) (aCons (gCallW M (sp_text_line K) [0] (aCons (gCB gTupleOf (aCons (gVar 4) aNil)) aNil)) (aCons (gCall M (sp_read_line K) (aCons (gVar 5) aNil)) (aCons (gCallW M (sp_read_line K) [0] (aCons (gVar 5) aNil)) aNil))))) (aCons (TL.gLst (aCons (gVar 5) (aCons (gVar 5) (aCons (gVar 4) (aCons (gVar 4) aNil))))) aNil)))))) (sRet (gC (.bl false))) sNext)
    (sSeq (sFor (iWalk (gLc [13] (iR1 (aCons (gC (.int 6)) aNil)) (xName 13) gYes (gCall M sp__law_spoilt (aCons (gVar 1) (aCons (gVar 5) aNil))))) (xName 6) (sSeq (sAsg2 7 8 (gCall M sp__law_due (aCons (gVar 6) aNil)) (TL.gLst aNil))
    (sSeq (sGotApp K (He.ga K "FindError") 9 8 (gCall M (sp_read_line K) (aCons (gVar 6) aNil)))
    (sIf (gBorT (gOr (gAnd (gB (gOp gIsN (gVar 7) (gC .non))) (gNot (gB (gCB (gIsX K) (aCons (gVar 9) (aCons (gC (.raw (.ref (He.ga K "BadForm")))) aNil)))))) (gAnd (gB (gOp gNotN (gVar 7) (gC .non))) (gOr (gB (gOp gNotN (gVar 9) (gC .non))) (gNot (gB (gCall M sp__law_says (aCons (gVar 8) (aCons (TL.gLst (aCons (gVar 7) aNil)) aNil))))))))) (sRet (gC (.bl false))) sNext))))
    (sSeq (sSet 10 (gCall M (sp_read_line K) (aCons (gVar 5) aNil)))
    (sSeq (sApp 10 (gC (.str "a")))
    (sSeq (sAsg2 11 12 (gCall M sp__law_pick (aCons (gVar 1) (aCons (TL.gLst (aCons (gC .non) (aCons (gC (.int 5)) (aCons (gC (.str "a b")) (aCons (TL.gLst (aCons (gC (.str "A")) aNil)) (aCons (TL.gLst (aCons (gC (.str "")) aNil)) (aCons (TL.gLst (aCons (gC (.str "a")) (aCons (gC .non) aNil))) (aCons (TL.gLst (aCons (TL.gLst (aCons (gC (.str "a")) aNil)) aNil)) (aCons (gOp gMul (TL.gLst (aCons (gC (.str "a")) aNil)) (gC (.int 401))) (aCons (TL.gTup (aCons (gC (.str "abcdefghi")) aNil)) (aCons gD0 aNil))))))))))) aNil))) (gCall M sp__law_pick (aCons (gVar 1) (aCons (TL.gLst (aCons (gC .non) (aCons (gC (.int 5)) (aCons (TL.gLst (aCons (gC (.str "a")) aNil)) (aCons (TL.gTup (aCons (gC (.str "a")) aNil)) (aCons (gC (.bl true)) aNil)))))) aNil))))
    (sSeq (sSet 9 (TL.gLst (aCons (gGot K (He.ga K "FindError") (gCall M (sp_text_line K) (aCons (gVar 11) aNil))) aNil)))
    (sSeq (sApp 9 (gGot K (He.ga K "FindError") (gCall M (sp_read_line K) (aCons (gVar 12) aNil))))
    (sIf (gBorT (gOr (gNot (gB (gCB (gIsX K) (aCons (gOp gIx (gVar 9) (gC (.int 0))) (aCons (gC (.raw (.ref (He.ga K "BadText")))) aNil))))) (gOr (gNot (gB (gCB (gIsX K) (aCons (gOp gIx (gVar 9) (gC (.int 1))) (aCons (gC (.raw (.ref (He.ga K "BadForm")))) aNil))))) (gB (gOp gNe (gCall M (sp_read_line K) (aCons (gVar 5) aNil)) (gVar 4)))))) (sRet (gC (.bl false))) sNext))))))))))))
    (sRet (gAndV (gOp gEq (gCall M (sp_text_line K) (aCons (TL.gLst (aCons (gC (.str "the")) (aCons (gC (.str "cat")) (aCons (gC (.str ".")) (aCons (gC (.str "sat")) aNil))))) aNil)) (gC (.str "the cat . sat"))) (gOp gEq (gCall M (sp_read_line K) (aCons (gC (.str "")) aNil)) (TL.gLst aNil)))))
structure XF (K : PySem.W.Frag) : Prop where
  mT : PySem.W.exmOne K (.ref (He.ga K "BadText")) (.ref (He.ga K "FindError")) = some true
  mF : PySem.W.exmOne K (.ref (He.ga K "BadForm")) (.ref (He.ga K "FindError")) = some true
  cT : ExcC K (He.ga K "BadText")
  cF : ExcC K (He.ga K "BadForm")
  iT : PySem.W.kitOne K (.ref (He.ga K "BadText")) (.ref (He.ga K "BadText")) = some true
  iF : PySem.W.kitOne K (.ref (He.ga K "BadForm")) (.ref (He.ga K "BadForm")) = some true
theorem SL {n : Nat} (h : n ≤ 100000 := by decide) : n ≤ sizeLine := by
  rw [sizeLine_eq]
  omega
section
variable {K : PySem.W.Frag} {M : Mode} {q : Sl → Prop} {r : Xn → Prop}
theorem tame_toks {ws : List Str} (h : ∀ w ∈ ws, tokS w = true) : (ws.map T.str).all tame = true := tame_strs fun w hw => by
  have := tok_len (h w hw)
  exact SL (by omega)
theorem line_ok {ws : List Str} (h : ∀ w ∈ ws, tokS w = true) (hl : ws.length ≤ 400) {t : T} (ht : t = .lst (ws.map T.str) ∨ t = .tup (ws.map T.str)) (hq : q (.sh (.str (Txt.join SP ws)))) : sp_text_line K M [t] q r := by
  have hs := sum_len h
  have hb : textL (ws.map T.str) = true := textL_tok h hl
  refine ⟨t, rfl, ?_, fun e => ?_, fun _ => ⟨t, ws, rfl, ht, by omega, hq⟩⟩
  · rcases ht with rfl | rfl <;> exact tame_toks h
  · rcases ht with rfl | rfl
    · rw [show textB (.lst (ws.map T.str)) = textL (ws.map T.str) from rfl, hb] at e
      cases e
    · rw [show textB (.tup (ws.map T.str)) = textL (ws.map T.str) from rfl, hb] at e
      cases e
theorem line_ok' {ws : List Str} {f : Str} (hf : Txt.join SP ws = f) (h : ∀ w ∈ ws, tokS w = true) (hl : ws.length ≤ 400) {t : T} (ht : t = .lst (ws.map T.str) ∨ t = .tup (ws.map T.str)) (hq : q (.sh (.str f))) : sp_text_line K M [t] q r := by
  subst hf
  exact line_ok h hl ht hq
theorem line_bad {t : T} (ht : tameX t = true) (hb : textB t = false) (hr : r ⟨.ref (He.ga K "BadText"), none⟩) : sp_text_line K M [t] q r :=
  ⟨t, rfl, ht, fun _ => hr, fun e => by rw [hb] at e; cases e⟩
theorem read_ok {f : Str} (hl : f.length ≤ 90000) (hb : textL ((words f).map T.str) = true) (hq : q (.ol ((words f).map T.str))) : sp_read_line K M [.str f] q r :=
  ⟨.str f, rfl, decide_eq_true (SL (by omega)), fun z e => by cases e; exact ⟨SL (by omega), fun _ => hq, fun e => by rw [hb] at e; cases e⟩, fun e => by cases e⟩
theorem read_bad {f : Str} (hl : f.length ≤ 90000) (hb : textL ((words f).map T.str) = false) (hr : r ⟨.ref (He.ga K "BadForm"), none⟩) : sp_read_line K M [.str f] q r :=
  ⟨.str f, rfl, decide_eq_true (SL (by omega)), fun z e => by cases e; exact ⟨SL (by omega), fun e => (by rw [hb] at e; cases e), fun _ => hr⟩, fun e => by cases e⟩
theorem read_odd {t : T} (ht : tame t = true) (hs : isStr t = false) (hr : r ⟨.ref (He.ga K "BadForm"), none⟩) : sp_read_line K M [t] q r :=
  ⟨t, rfl, ht, (fun z e => by rw [e] at hs; cases hs), fun _ => hr⟩
theorem lcR_any0 {g : TGx} {te : TEx} {τ : List Sl} {q : List T → Prop} {P : T → T → Prop} {items : List T} (h : ∀ t ∈ items, ∀ q' : Sl → Prop, (∀ s : Sl, P t s.fz → q' s) → g t τ fun τ2 => te τ2 q' rF) (hl : items.length ≤ sizeLine) (k : ∀ ts, Paired P items ts → q ts) : lcR g gYes te τ q items [] :=
  lcR_any h (by simpa using hl) fun ts hp => by
    rw [List.nil_append]
    exact k ts hp
theorem paired_toks : ∀ {items ts : List T}, Paired (fun _ u => ∃ w, tokS w = true ∧ u = T.str w) items ts → ∃ ws : List Str, ts = ws.map T.str ∧ ws.length = items.length ∧ ∀ w ∈ ws, tokS w = true
  | _, _, .nil => ⟨[], rfl, rfl, fun _ h => nomatch h⟩
  | _, _, .cons ⟨w, h, e⟩ r => by
    obtain ⟨ws, e1, e2, e3⟩ := paired_toks r
    exact ⟨w :: ws, by rw [e, e1]; rfl, congrArg (· + 1) e2, fun v hv => (List.mem_cons.mp hv).elim (fun z => by rw [z]; exact h) (e3 v)⟩
theorem join_ok {ws : List Str} (h : ∀ w ∈ ws, tokS w = true) (hl : ws.length ≤ 400) (hq : q (.sh (.str (Txt.join SP ws)))) : gJoin (.str SP) [.lst (ws.map T.str)] q := by
  have hs := sum_len h
  show oks (strsT (ws.map T.str)) _
  rw [strsT_strs]
  refine ⟨?_, hq⟩
  rw [show SP.length = 1 by decide +kernel, Nat.mul_one]
  omega
end
theorem i_tupl {xs : List T} {q : Sl → Prop} (h : q (.sh (.tup xs))) : gTupleOf [.lst xs] q := h
theorem sem_law {K : PySem.W.Frag} {M : Mode} {d : Addr} {sc : List Int} (X : XF K) (hM : IsDM M d) (hs : sc.length ≤ 63) :
    g_law K M [.sh (.fls (sc.map T.int)), .sh (.raw (.ref d)), .no, .no, .no, .no, .no, .no, .no, .no, .no, .no, .no, .no] (KnOf (fun s => s = .sh (.bl true)) rF) := by
  have hlen : ((sc.map T.int).length : Int) ≤ 63 := by rw [List.length_map]; omega
  refine ⟨⟨?_, ?_⟩, ?_⟩
  · show (-(2 ^ 62) : Int) ≤ 6 + (if (10 : Int) < ((sc.map T.int).length : Int) then 10 else ((sc.map T.int).length : Int))
    split <;> omega
  · show 6 + (if (10 : Int) < ((sc.map T.int).length : Int) then 10 else ((sc.map T.int).length : Int)) < 2 ^ 62
    split <;> omega
  refine forR_inv (I := fun τ => ∃ a2 a3 a4 a5 a6 a7 a8 a9 a10 a11 a12 a13, τ = [.sh (.fls (sc.map T.int)), .sh (.raw (.ref d)), a2, a3, a4, a5, a6, a7, a8, a9, a10, a11, a12, a13]) ?_ ?_ _ ⟨_, _, _, _, _, _, _, _, _, _, _, _, rfl⟩
  · rintro τ ⟨a2, a3, a4, a5, a6, a7, a8, a9, a10, a11, a12, a13, rfl⟩
    refine ⟨SL, line_ok (ws := ["the", "cat", ".", "sat"]) (by decide +kernel) (by decide) (.inl rfl) ?_⟩
    generalize hf : Txt.join SP ["the", "cat", ".", "sat"] = f
    show (if decide (f = "the cat . sat") = true then _ else _)
    rw [if_pos (by rw [← hf]; decide +kernel)]
    refine i_op (i_call (i_cons (i_c (i_nil (read_ok (f := "") (by decide +kernel) (by decide +kernel) ?_)))))
    refine i_lst (i_nil ⟨SL, ?_⟩)
    refine gEq_strs (zs := words "") (ws := []) (by decide +kernel) rfl ?_
    show Sl.sh (.bl (decide (words "" = []))) = .sh (.bl true)
    rw [decide_eq_true (by decide +kernel)]
  · rintro t ht τ ⟨a2, a3, a4, a5, a6, a7, a8, a9, a10, a11, a12, a13, rfl⟩ nx hnx
    refine ⟨SL, d, _, _, rfl, hM, .inl rfl, (show 0 < 8 by decide), (show 8 < 1073741824 by decide), fun x hx => ?_⟩
    have hm : ∃ m : Int, x = .int m ∧ 0 ≤ m ∧ m ≤ 400 := by
      simp only [List.mem_cons, List.not_mem_nil, or_false] at hx
      rcases hx with rfl | rfl | rfl | rfl | rfl | rfl | rfl | rfl <;> exact ⟨_, rfl, by decide, by decide⟩
    obtain ⟨m, rfl, m0, m1⟩ := hm
    refine ⟨⟨by omega, by omega⟩, lcR_any0 (P := fun _ u => ∃ w, tokS w = true ∧ u = T.str w) (fun t ht q' hq' => ⟨SL, d, _, _, rfl, hM, .inl rfl, (show 0 < 5 by decide), (show 5 < 1073741824 by decide), fun y hy => hq' _ ?_⟩) ?_ fun ts hp => ?_⟩
    · simp only [List.mem_cons, List.not_mem_nil, or_false] at hy
      rcases hy with rfl | rfl | rfl | rfl | rfl <;> exact ⟨_, by decide +kernel, rfl⟩
    · show (TL.rangeT 0 m.toNat).length ≤ sizeLine
      unfold TL.rangeT
      rw [List.length_map, List.length_range]
      exact SL (by omega)
    obtain ⟨ws, rfl, wl, hw⟩ := paired_toks hp
    have wl' : ws.length ≤ 400 := by
      have e : (TL.rangeT 0 m.toNat).length = m.toNat := by
        unfold TL.rangeT
        rw [List.length_map, List.length_range]
      rw [e] at wl
      omega
    have fl := join_len hw
    have fa := join_aOk hw
    have fw := words_join hw
    have jl : (Txt.join SP ws).length ≤ 3600 := by omega
    have ft : textL ((words (Txt.join SP ws)).map T.str) = true := by rw [fw]; exact textL_tok hw wl'
    refine st_set (i_bor (i_bm (i_c ⟨⟨_, fun _ => True, join_ok hw wl' trivial⟩, ?_⟩)))
    refine i_cons (i_var (.lst (ws.map T.str)) rfl (i_nil (join_ok hw wl' ⟨trivial, ?_⟩)))
    generalize hf : Txt.join SP ws = f at fl fa fw jl ft ⊢
    have S0 : ∀ n : Nat, n ≤ 90000 → n < sizeLine := fun n h => by rw [sizeLine_eq]; omega
    -- the four lines
    refine st_ifN (i_borT (i_not (i_B (i_call (i_cons (i_lst ?_))))))
    refine i_cons (i_call (i_cons (i_var (.lst (ws.map T.str)) rfl (i_nil (line_ok' hf hw wl' (.inl rfl) ?_)))))
    refine i_cons (i_callW (i_cons (i_cb (i_cons (i_var (.lst (ws.map T.str)) rfl (i_nil (i_tupl (i_nil ?_))))))))
    refine ⟨rfl, line_ok' hf hw wl' (.inr rfl) ?_⟩
    refine i_cons (i_call (i_cons (i_var (.str f) rfl (i_nil (read_ok (by omega) ft ?_)))))
    refine i_cons (i_callW (i_cons (i_var (.str f) rfl (i_nil ⟨rfl, read_ok (by omega) ft ?_⟩))))
    refine i_nil ⟨SL (n := 4), ?_⟩
    refine i_cons (i_lst (i_cons (i_var (.str f) rfl (i_cons (i_var (.str f) rfl (i_cons (i_var (.lst (ws.map T.str)) rfl ?_)))))))
    refine i_cons (i_var (.lst (ws.map T.str)) rfl (i_nil ⟨SL (n := 4), i_nil ?_⟩))
    rw [fw]
    have pd : (T.lst [.str f, .str f, .lst (ws.map T.str), .lst (ws.map T.str)]).py = some (.list [.str f, .str f, .list (ws.map PyData.str), .list (ws.map PyData.str)]) := by
      simp only [T.py, pyAll, py_strs, Option.map_some]
    refine ⟨_, _, _, rfl, pd, pd, shOk_four hw wl' fa (by omega), i_isB (ifF (c := !true) rfl ?_)⟩
    -- other texts
    refine st_for (i_walk (i_lc (i_r1c ⟨by decide, by decide⟩ ?_)))
    refine lcR_any0 (P := fun _ u => ∃ z, u = T.str z ∧ z.length ≤ 20000 ∧ aOk z) ?_ (SL (n := 6)) fun ts hp2 => i_items ?_
    · intro t0 ht0 q' hq'
      refine x_name ?_
      refine i_call (i_cons (i_var (.raw (.ref d)) rfl ?_))
      refine i_cons (i_var (.str f) rfl ?_)
      exact i_nil ⟨d, f, rfl, hM, by omega, fa, fun z h1 h2 => hq' _ ⟨z, rfl, h1, h2⟩⟩
    have hz := (paired_all (P := fun u => ∃ z, u = T.str z ∧ z.length ≤ 20000 ∧ aOk z) (fun _ _ h => h) hp2).2
    refine forR_inv (I := fun τ => ∃ a6 a7 a8 a9, τ = [.sh (.fls (sc.map T.int)), .sh (.raw (.ref d)), .sh t, .sh (.int m), .ol (ws.map T.str), .sh (.str f), a6, a7, a8, a9, a10, a11, a12, a13]) ?_ ?_ _ ⟨_, _, _, _, rfl⟩
    · rintro τ ⟨a6, a7, a8, a9, rfl⟩
      dsimp only
      refine st_set (i_call (i_cons (i_var (.str f) rfl (i_nil (read_ok (by omega) ft ?_)))))
      rw [fw]
      refine st_app (ws.map T.str) rfl (i_c ⟨S0 _ (by rw [List.length_map]; omega), ?_⟩)
      refine st_asg2 (i_call (i_cons (i_var (.raw (.ref d)) rfl (i_cons (i_lst ?_)))))
      refine i_cons (i_c (i_cons (i_c (i_cons (i_c (i_cons (i_lst (i_cons (i_c (i_nil ⟨SL (n := 1), ?_⟩))))))))))
      refine i_cons (i_lst (i_cons (i_c (i_nil ⟨SL (n := 1), ?_⟩))))
      refine i_cons (i_lst (i_cons (i_c (i_cons (i_c (i_nil ⟨SL (n := 2), ?_⟩))))))
      refine i_cons (i_lst (i_cons (i_lst (i_cons (i_c (i_nil ⟨SL (n := 1), i_nil ⟨SL (n := 1), ?_⟩⟩))))))
      refine i_cons (i_op (i_lst (i_cons (i_c (i_nil ⟨SL (n := 1), i_c ⟨⟨by decide, by decide, SL (n := 401)⟩, ?_⟩⟩)))))
      refine i_cons (i_tup (i_cons (i_c (i_nil ⟨SL (n := 1), i_cons (i_d0 (i_nil ⟨SL (n := 10), i_nil ?_⟩))⟩))))
      refine ⟨d, _, _, rfl, hM, .inl rfl, (show 0 < 10 by decide), (show 10 < 1073741824 by decide), fun bad hbad => ?_⟩
      have hb : tameX bad = true ∧ textB bad = false := by
        simp only [List.mem_cons, List.not_mem_nil, or_false] at hbad
        rcases hbad with rfl | rfl | rfl | rfl | rfl | rfl | rfl | rfl | rfl | rfl <;> exact ⟨by decide +kernel, by decide +kernel⟩
      refine i_call (i_cons (i_var (.raw (.ref d)) rfl (i_cons (i_lst ?_))))
      refine i_cons (i_c (i_cons (i_c (i_cons (i_lst (i_cons (i_c (i_nil ⟨SL (n := 1), ?_⟩))))))))
      refine i_cons (i_tup (i_cons (i_c (i_nil ⟨SL (n := 1), i_cons (i_c (i_nil ⟨SL (n := 5), i_nil ?_⟩))⟩))))
      refine ⟨d, _, _, rfl, hM, .inl rfl, (show 0 < 5 by decide), (show 5 < 1073741824 by decide), fun odd hodd => ?_⟩
      have ho : tame odd = true ∧ isStr odd = false := by
        simp only [List.mem_cons, List.not_mem_nil, or_false] at hodd
        rcases hodd with rfl | rfl | rfl | rfl | rfl <;> exact ⟨by decide +kernel, by decide +kernel⟩
      refine st_set (i_lst (i_cons (i_got (i_call (i_cons (i_var bad rfl (i_nil (line_bad hb.1 hb.2 ⟨X.mT, rfl, i_nil ⟨SL (n := 1), ?_⟩⟩))))))))
      refine st_app [_] rfl (i_got (i_call (i_cons (i_var odd rfl (i_nil (read_odd ho.1 ho.2 ⟨X.mF, rfl, S0 1 (by decide), ?_⟩))))))
      refine s_if (i_borT (i_or (i_not (i_B (i_cb (i_cons (i_op (i_var (.lst [.ob _, .ob _]) rfl (i_c (i_ix rfl (i_cons (i_c (i_nil ⟨_, _, rfl, X.cT, X.iT, i_isB (ifF (c := !true) rfl ?_)⟩)))))))))))))
      refine i_or (i_not (i_B (i_cb (i_cons (i_op (i_var (.lst [.ob _, .ob _]) rfl (i_c (i_ix rfl (i_cons (i_c (i_nil ⟨_, _, rfl, X.cF, X.iF, i_isB (ifF (c := !true) rfl ?_)⟩)))))))))))
      refine i_B (i_op (i_call (i_cons (i_var (.str f) rfl (i_nil (read_ok (by omega) ft (i_var (.lst (ws.map T.str)) rfl ?_)))))))
      rw [fw]
      refine gNe_strs (List.all_eq_true.mpr fun w h => (tok_aOk (hw w h)).s) (List.all_eq_true.mpr fun w h => (tok_aOk (hw w h)).s) ?_
      rw [decide_eq_true rfl]
      exact i_isB (ifF (c := !true) rfl (hnx _ ⟨_, _, _, _, _, _, _, _, _, _, _, _, rfl⟩))
    · rintro u hu τ ⟨a6, a7, a8, a9, rfl⟩ nx2 hnx2
      obtain ⟨z, rfl, zl, za⟩ := hz u hu
      refine x_name ?_
      refine st_asg2 (i_call (i_cons (i_var (.str z) rfl (i_nil ⟨z, rfl, SL (by omega), za.s, fun hb => ?_, fun hb => ?_⟩))))
      · obtain ⟨wt, wn⟩ := tok_of_textL hb
        refine i_lst (i_nil ⟨SL (n := 0), ?_⟩)
        refine st_gotApp [] rfl (i_call (i_cons (i_var (.str z) rfl (i_nil (read_ok (by omega) hb ⟨S0 0 (by decide), ?_⟩)))))
        generalize words z = vs at hb wt wn ⊢
        refine s_if (i_borT (i_or (i_and (i_B (i_op (i_var (.lst (vs.map T.str)) rfl (i_c (i_isN_l (i_isB (ifF (c := false) rfl (ifF (c := false) rfl ?_)))))))))))
        refine i_and (i_B (i_op (i_var (.lst (vs.map T.str)) rfl (i_c (i_notN_l (i_isB (ifT (c := true) rfl ?_)))))))
        refine i_or (i_B (i_op (i_var .non rfl (i_c (i_notN_n (i_isB (ifF (c := false) rfl ?_)))))))
        refine i_not (i_B (i_call (i_cons (i_var (.lst [.lst (vs.map T.str)]) rfl (i_cons (i_lst (i_cons (i_var (.lst (vs.map T.str)) rfl (i_nil ⟨SL (n := 1), i_nil ?_⟩)))))))))
        have pd2 : (T.lst [.lst (vs.map T.str)]).py = some (.list [.list (vs.map PyData.str)]) := by
          simp only [T.py, pyAll, py_strs, Option.map_some]
        refine ⟨_, _, _, rfl, pd2, pd2, shOk_words wt wn, i_isB (ifF (c := !true) rfl ?_)⟩
        exact hnx2 _ ⟨_, _, _, _, rfl⟩
      · refine i_lst (i_nil ⟨SL (n := 0), ?_⟩)
        refine st_gotApp [] rfl (i_call (i_cons (i_var (.str z) rfl (i_nil (read_bad (by omega) hb ⟨X.mF, rfl, ?_⟩)))))
        refine s_if (i_borT (i_or (i_and (i_B (i_op (i_var .non rfl (i_c (i_isN_n (i_isB (ifT (c := true) rfl ?_))))))))))
        refine i_not (i_B (i_cb (i_cons (i_var (.ob _) rfl (i_cons (i_c (i_nil ⟨_, _, rfl, X.cF, X.iF, i_isB (ifF (c := !true) rfl ?_)⟩)))))))
        refine i_and (i_B (i_op (i_var .non rfl (i_c (i_notN_n (i_isB (ifF (c := false) rfl (ifF (c := false) rfl ?_))))))))
        exact hnx2 _ ⟨_, _, _, _, rfl⟩
end K87
namespace TL
open PySem PySem.Spec PyProof.Rows L2
/-! ### the draw begun -/
/-- the script alone, as data -/
def onlyH (H : Hp) (a : Addr) : Hp := fun b => if b = a then (match H b with
  | some (.tbl _) => none
  | o => o) else none
theorem only_sub {H : Hp} {a : Addr} : Sub (onlyH H a) H := fun b o e => by
  unfold onlyH at e
  split at e
  · split at e
    · cases e
    · exact e
  · cases e
theorem only_ne {H : Hp} {a b : Addr} (h : H b = none) : onlyH H a b = none := by
  unfold onlyH
  rw [h]
  split <;> rfl
theorem only_tbl {H : Hp} {a b : Addr} {ps : Array Value} (h : H b = some (.tbl ps)) : onlyH H a b = none := by
  unfold onlyH
  rw [h]
  split <;> rfl
theorem only_sq {K : PySem.W.Frag} {H : Hp} {a : Addr} {xs : List V} (h : SqL K H a xs) : SqL K (onlyH H a) a xs := by
  rcases h with (h | ⟨o, h⟩) | h
  · exact .inl (.inl (by unfold onlyH; rw [if_pos rfl, h]))
  · exact .inl (.inr ⟨o, by unfold onlyH; rw [if_pos rfl, h]⟩)
  · exact .inr h
theorem isAll_ints {K : PySem.W.Frag} {G : Hp} : ∀ ns : List Int, IsAll K G (ns.map V.int) (ns.map T.int)
  | [] => .nil
  | _ :: ns => .cons .int (isAll_ints ns)
theorem ints_inv {K : PySem.W.Frag} {G : Hp} : ∀ {ns : List Int} {vs : List V}, IsAll K G vs (ns.map T.int) → vs = ns.map V.int
  | [], _, h => by cases h; rfl
  | n :: ns, _, h => by
    cases h with
    | cons i r =>
      cases i
      rw [ints_inv r]
      rfl
def spBegun (K : PySem.W.Frag) : Sp := fun vs H Q _ => ∃ (a : Addr) (ns : List Int), vs = [.ref a] ∧ SqL K H a (ns.map V.int) ∧ ns.length ≤ 1000 ∧ ∀ (d L C : Addr) (H' : Hp) (cs : List Int), H d = none → H L = none → H C = none → (∀ b o, H b = some o → H' b = some o) → Drw d L C cs H' → Q (.ref d) H'
theorem merge_drw {L C : Addr} : mergeK [] (drwE L C 0 0) = drwE L C 0 0 := by
  have e1 : putK ([] : List (Key × V)) (.inr ("large" : Str)) (.ref L) = [(.inr "large", .ref L)] := putK_new _ rfl
  have e2 : putK ([(.inr "large", .ref L)] : List (Key × V)) (.inr ("rest" : Str)) (.int 0) = [(.inr "large", .ref L), (.inr "rest", .int 0)] := putK_new _ (valV_neg k_lr)
  have e3 : putK ([(.inr "large", .ref L), (.inr "rest", .int 0)] : List (Key × V)) (.inr ("cells" : Str)) (.ref C) = [(.inr "large", .ref L), (.inr "rest", .int 0), (.inr "cells", .ref C)] := putK_new _ ((valV_neg k_lc).trans (valV_neg k_rc))
  have e4 : putK ([(.inr "large", .ref L), (.inr "rest", .int 0), (.inr "cells", .ref C)] : List (Key × V)) (.inr ("turn" : Str)) (.int 0) = [(.inr "large", .ref L), (.inr "rest", .int 0), (.inr "cells", .ref C), (.inr "turn", .int 0)] := putK_new _ (((valV_neg k_lt).trans (valV_neg k_rt)).trans (valV_neg k_ct))
  show putK (putK (putK (putK ([] : List (Key × V)) (.inr ("large" : Str)) (.ref L)) (.inr ("rest" : Str)) (.int 0)) (.inr ("cells" : Str)) (.ref C)) (.inr ("turn" : Str)) (.int 0) = _
  rw [e1, e2, e3, e4]
  rfl
abbrev tBegun (te2 : TE) : TS := tRet (tDisp [(tC (.str "large"), tVar 1), (tC (.str "rest"), tC (.int 0)), (tC (.str "cells"), te2), (tC (.str "turn"), tC (.int 0))])
theorem begun_ok {K : PySem.W.Frag} {E : XK} {t1 : TS} {te2 : TE} {g1 : TSx} {g2 : TEx} {H : Hp} {Q : VK} {a : Addr} {ns : List Int} {N : List Str} (hN : L2.start N [.ref a] = [some (.ref a), none, none])
    (h1 : SimS K M0 E t1 g1) (h2 : SimE K M0 E te2 g2) (q1 : ∀ k : Kn, (∀ ls : List Int, k.nx [.sh (.fls (ns.map T.int)), .ol (ls.map T.int), .no]) → g1 [.sh (.fls (ns.map T.int)), .no, .no] k)
    (q2 : ∀ (ls : List Int) (q : Sl → Prop), (∀ cs : List Int, q (.ol (cs.map T.int))) → g2 [.sh (.fls (ns.map T.int)), .ol (ls.map T.int), .no] q rF)
    (hs : SqL K H a (ns.map V.int)) (hq : ∀ (d L C : Addr) (H' : Hp) (cs : List Int), H d = none → H L = none → H C = none → (∀ b o, H b = some o → H' b = some o) → Drw d L C cs H' → Q (.ref d) H') :
    (tSeq t1 (tBegun te2)) { nx := fun _ H' => Q .non H', rt := Q } (L2.start N [.ref a]) H := by
  rw [hN]
  have ok : Ok M0 (onlyH H a) H := ⟨only_sub, trivial, fun _ h => h.elim, fun _ h => h.elim⟩
  have en : En K (onlyH H a) H [some (.ref a), none, none] [.sh (.fls (ns.map T.int)), .no, .no] [] := .sh (.fls (only_sq hs) (isAll_ints ns)) (.no (.no .nil))
  refine h1 _ H ok _ { nx := fun τ' => ∃ ls : List Int, τ' = [.sh (.fls (ns.map T.int)), .ol (ls.map T.int), .no], rt := fun _ => False, ex := rF } (q1 _ fun ls => ⟨ls, rfl⟩) _ _ H ⟨⟨[], en, fun _ h => nomatch h⟩, .refl ok⟩ _ ⟨?_, fun _ _ _ _ _ _ h => h.elim, fun _ _ _ _ _ _ h => h.elim, fun _ _ _ _ _ _ h => h.elim, fun _ _ _ _ _ _ _ h => h.elim⟩
  rintro σ' τ' G' H' w _ ⟨ls, rfl⟩
  obtain ⟨L, vs, s1, hL, iL, _⟩ := w.ol ok (i := 1) (ts := ls.map T.int) rfl
  obtain rfl := ints_inv iL
  have L0 : H L = none := by
    obtain ⟨os, e, ho⟩ := w.en
    obtain ⟨L2, _, k1, k2, _⟩ := e.getL (i := 1) (ts := ls.map T.int) rfl
    rw [s1] at k1
    obtain rfl : L = L2 := by simpa using k1
    exact ho _ k2
  show tDisp _ σ' H' Q
  intro p hp
  have g3 : Go M0 G' H' G' (upd H' p (.dK [])) := .lay (w.w1 ok).ok hp
  have w3 := (w.next ok g3).w1 ok
  refine ⟨_, s1, ?_⟩
  refine h2 _ _ rF (q2 ls (fun s => ∃ cs : List Int, s = .ol (cs.map T.int)) fun cs => ⟨cs, rfl⟩) σ' G' _ w3 _ (fun v s G4 H4 g4 rs q => ?_) fun _ _ _ _ _ _ _ h => h.elim
  obtain ⟨cs, rfl⟩ := q
  obtain ⟨C, vs2, rfl, c1, c2, c3, c4⟩ := rs
  obtain rfl := ints_inv c4
  have p4 : H4 p = some (.dK []) := g4.keep p _ (fun h => h) upd_same
  have nLp : L ≠ p := ne_of_none hL hp
  have L4 : H4 L = some (.lst (ls.map V.int)) := g4.keep L _ (fun h => h) (by rw [upd_ne nLp]; exact hL)
  have nCp : C ≠ p := fun z => by
    rw [z, upd_same] at c1
    cases c1
  have nCL : L ≠ C := fun z => by
    rw [← z, upd_ne nLp, hL] at c1
    cases c1
  have C0 : H' C = none := by
    rw [upd_ne nCp] at c1
    exact c1
  refine ⟨p4, drwE L C 0 0, rfl, (show 4 ≤ 15 by decide), ?_⟩
  rw [merge_drw]
  refine hq p L C _ cs (w.go.back hp) L0 (w.go.back C0) (fun b o e => ?_) ⟨nCL, ⟨0, 0, upd_same⟩, ⟨ls, by rw [upd_ne nLp]; exact L4⟩, by rw [upd_ne nCp]; exact c2⟩
  have b1 : H' b = some o := w.go.keep b o (fun h => h) e
  have nbp : b ≠ p := ne_of_none b1 hp
  rw [upd_ne nbp]
  exact g4.keep b o (fun h => h) (by rw [upd_ne nbp]; exact b1)
/-- readings of the two comprehensions -/
theorem begun_q1 {ns : List Int} (hn : ns.length ≤ 1000) {k : Kn} (h : ∀ ls : List Int, k.nx [.sh (.fls (ns.map T.int)), .ol (ls.map T.int), .no]) :
    sSet 1 (gLc [2] (iWalk (gVar 0)) (xName 2) (gB (gOp gGe (gCB gAbs (aCons (gVar 2) aNil)) (gOp gPow (gC (.int 10)) (gC (.int 18))))) (gOp gSub (gCB gAbs (aCons (gVar 2) aNil)) (gOp gPow (gC (.int 10)) (gC (.int 18))))) [.sh (.fls (ns.map T.int)), .no, .no] k := by
  have hp : CPow 10 18 := ⟨by decide, by decide, by decide⟩
  refine lcR_if (p := fun t => match t with | .int n => decide ((10 : Int) ^ 18 ≤ (if n < 0 then -n else n)) | _ => false) (f := fun t => match t with | .int n => .int ((if n < 0 then -n else n) - (10 : Int) ^ 18) | _ => .non) (fun t ht Q q => ?_) (fun t ht _ Q q => ?_) ?_ ?_
  · obtain ⟨n, _, rfl⟩ := List.mem_map.mp ht
    exact ⟨hp, q⟩
  · obtain ⟨n, _, rfl⟩ := List.mem_map.mp ht
    exact ⟨hp, q⟩
  · rw [List.length_map, sizeLine_eq]
    simp
    omega
  · have e : (((ns.map T.int).filter fun t => match t with | .int n => decide ((10 : Int) ^ 18 ≤ (if n < 0 then -n else n)) | _ => false).map fun t => match t with | .int n => T.int ((if n < 0 then -n else n) - (10 : Int) ^ 18) | _ => .non) =
        ((ns.filter fun n => decide ((10 : Int) ^ 18 ≤ (if n < 0 then -n else n))).map fun n => (if n < 0 then -n else n) - (10 : Int) ^ 18).map T.int := by
      rw [List.filter_map, List.map_map, List.map_map]
      rfl
    rw [List.nil_append, e]
    exact h _
theorem begun_q2 {ns ls : List Int} (hn : ns.length ≤ 1000) {q : Sl → Prop} (h : ∀ cs : List Int, q (.ol (cs.map T.int))) :
    gLc [2] (iWalk (gVar 0)) (xName 2) gYes (gCB gAbs (aCons (gVar 2) aNil)) [.sh (.fls (ns.map T.int)), .ol (ls.map T.int), .no] q rF := by
  refine lcR_map (f := fun t => match t with | .int n => .int (if n < 0 then -n else n) | _ => .non) (fun t ht Q q => ?_) ?_ ?_
  · obtain ⟨n, _, rfl⟩ := List.mem_map.mp ht
    exact q
  · rw [List.length_map, sizeLine_eq]
    omega
  · have e : ((ns.map T.int).map fun t => match t with | .int n => T.int (if n < 0 then -n else n) | _ => .non) = (ns.map fun n => if n < 0 then -n else n).map T.int := by
      rw [List.map_map, List.map_map]
      rfl
    rw [e]
    exact h _
/-! ### the rest of a law, behind its draw -/
theorem rest_ok {K : PySem.W.Frag} {E : XK} {t : TS} {d L C a : Addr} {cs : List Int} {Z : Tb} {H H' : Hp} {Q : VK} {ns : List Int} {τ : List Sl} {σ : List (Option V)} {g : TSx} (hs : SimS K (DM d L C cs Z) E t g) (hS : SqL K H a (ns.map V.int)) (hT : LamX.Tabs Z H') (hZ : ∀ p ∈ Z, H' p.1 ≠ none → ∃ ps, H p.1 = some (.tbl ps))
    (h1 : H d = none) (h2 : H L = none) (keep : ∀ b o, H b = some o → H' b = some o) (D : Drw d L C cs H') (hσ : ∃ k, σ = some (.ref a) :: some (.ref d) :: List.replicate k none ∧ τ = .sh (.fls (ns.map T.int)) :: .sh (.raw (.ref d)) :: List.replicate k .no) (hg : g τ (KnOf (fun s => s = .sh (.bl true)) rF)) (hQ : ∀ H'', Q (.bl true) H'') :
    t { nx := fun _ H' => Q .non H', rt := Q } σ H' := by
  have tabP : ∀ p ∈ Z, ∃ ps, H p.1 = some (.tbl ps) := fun p hp => by
    obtain ⟨ps, h, _⟩ := hT p hp
    exact hZ p hp (by rw [h]; simp)
  have ok : Ok (DM d L C cs Z) (onlyH H a) H' := by
    refine ⟨fun b o e => keep b o (only_sub b o e), ⟨D, hT⟩, fun b hb => ?_, fun b hb => ?_⟩
    · rcases hb with (rfl | rfl) | ⟨p, hp, rfl⟩
      · exact only_ne h1
      · exact only_ne h2
      · obtain ⟨ps, h⟩ := tabP p hp
        exact only_tbl h
    · rcases hb with (rfl | rfl | rfl) | ⟨p, hp, rfl⟩
      · rw [D.c]; simp
      · obtain ⟨r, t0, h⟩ := D.d
        rw [h]; simp
      · obtain ⟨ls, h⟩ := D.l
        rw [h]; simp
      · obtain ⟨ps, h, _⟩ := hT p hp
        rw [h]; simp
  obtain ⟨k, rfl, rfl⟩ := hσ
  have rep : ∀ k, En K (onlyH H a) H' (List.replicate k none) (List.replicate k .no) [] := fun k => by
    induction k with
    | zero => exact .nil
    | succ k ih => exact .no ih
  have en : En K (onlyH H a) H' (some (.ref a) :: some (.ref d) :: List.replicate k none) (.sh (.fls (ns.map T.int)) :: .sh (.raw (.ref d)) :: List.replicate k .no) [] := .sh (.fls (only_sq hS) (isAll_ints ns)) (.sh .raw (rep k))
  refine hs _ H' ok _ _ hg _ _ H' ⟨⟨[], en, fun _ h => nomatch h⟩, .refl ok⟩ _ ⟨fun _ _ _ _ _ _ z => ?_, fun v s G1 H1 _ rs z => ?_, fun _ _ _ _ _ _ h => h.elim, fun _ _ _ _ _ _ h => h.elim, fun _ _ _ _ _ _ _ h => h.elim⟩
  · have z' : Sl.sh .non = .sh (.bl true) := z
    cases z'
  · have z' : s = .sh (.bl true) := z
    subst z'
    have i : Is K G1 v (.bl true) := rs
    rw [i.bl_inv]
    exact hQ _
/-- a def's function object and its code object -/
theorem mk_rawC {P : Program} {w : World} {K : PySem.W.Frag} {mg : Str → Option Value} {base : Heap} {x qual : Str} {params : Arguments} {body : List Stmt} {scope : Scope} {f : Addr} {fd : FuncData} {CX : CXT} {N ps : List Str} {k : Nat} {sp : Sp} (F : FunD K x qual params body scope [] [] f fd) (S : FnScope N ps scope)
    (hl : ∀ vs H Q E, sp vs H Q E → vs.length = ps.length)
    (hbody : ∀ (c : Addr) (oc : Value) (od : Option Addr) (osl : Array (Option Value)), K.lookup f = some ⟨oc, od, .func fd, osl⟩ → fd.code = .ref c → ∀ (A : Around) (outer : List Env) (s : Shared) (H : Hp) (vs : List V) (Q : VK) (E : XK), Room k (A.deeper (envOfC qual scope s.heap.objs.size f (.ref c))) → (A.deeper (envOfC qual scope s.heap.objs.size f (.ref c))).guards = some [] → sp vs H Q E →
      ∃ t, PSs (cxOf CX P w K mg base N qual scope f (.ref c) A outer s H E) body t ∧ t { nx := fun _ H' => Q .non H', rt := Q } (L2.start N vs) H) : FnG P w K mg base CX (k + 1) f fd ps sp := by
  obtain ⟨oc, od, dV, kV, doc, pm, an, cdv, ct, osl, rfl, lk, hcd, _, _⟩ := F.ex
  obtain ⟨c, rfl⟩ := He.codeIn_ref hcd
  refine ⟨hl, fun A outer s H args us vs Q E hg hr e0 hb hv hs => ?_⟩
  refine LamX.run_ofS lk hcd S hr e0 hb hv (hl _ _ _ _ hs) fun hr2 => hbody c oc od osl lk rfl A outer s H vs Q E hr2 ?_ hs
  have z : (A.deeper (envOfC qual scope s.heap.objs.size f (.ref c))).guards = A.guards := by rfl
  rw [z]
  exact hg
end TL
namespace TL
open PySem PySem.Spec PyProof.Rows L2
theorem begun_b {X : Cx} {E : XK} {st1 : Stmt} {e2 : Expr} {t1 : TS} {te2 : TE} {g1 : TSx} {g2 : TEx} {j1 j2 j3 j4 j5 j6 : Nat} {p1 p2 p3 p4 p5 p6 p7 p8 p9 : Pos} (b1 : GS X M0 E st1 t1 g1) (b2 : GE X M0 E e2 te2 g2) (hN : X.N[1]? = some ("large" : Str) := by rfl) (hv : Vis X.env.scope ("large" : Str) := by exact Or.inl rfl) :
    ∃ t1 te2, PSs X [st1, .Return (some (.Dict [some (.Constant (.str "large") j1 p1), some (.Constant (.str "rest") j2 p2), some (.Constant (.str "cells") j3 p3), some (.Constant (.str "turn") j4 p4)] [.Name "large" p5, .Constant (.int 0) j5 p6, e2, .Constant (.int 0) j6 p7] p8)) p9] (tSeq t1 (tBegun te2)) ∧ SimS X.K M0 E t1 g1 ∧ SimE X.K M0 E te2 g2 :=
  ⟨t1, te2, pss_cons b1.p (pss_one (ps_ret (pe_disp (pps_cons pe_str (pe_var hN hv) (pps_cons pe_str pe_int (pps_cons pe_str b2.p (pps_cons pe_str pe_int pps_nil)))) rfl rfl (by simp) (show 4 ≤ 15 by decide)))), b1.s, b2.s⟩
end TL
namespace K87
open PySem PySem.Spec PyProof.Rows L2 TL
theorem len_is_letters {ts : List T} {q : Sl → Prop} {r : Xn → Prop} {M : Mode} (h : sp_is_letters  M ts q r) : ts.length = 3 := by
  obtain ⟨_, _, _, rfl, _⟩ := h
  rfl
theorem len_is_word {ts : List T} {q : Sl → Prop} {r : Xn → Prop} {M : Mode} (h : sp_is_word  M ts q r) : ts.length = 1 := by
  obtain ⟨_, rfl, _⟩ := h
  rfl
theorem len_is_token {ts : List T} {q : Sl → Prop} {r : Xn → Prop} {M : Mode} (h : sp_is_token  M ts q r) : ts.length = 1 := by
  obtain ⟨_, rfl, _⟩ := h
  rfl
theorem len_is_text {ts : List T} {q : Sl → Prop} {r : Xn → Prop} {M : Mode} (h : sp_is_text  M ts q r) : ts.length = 1 := by
  obtain ⟨_, rfl, _⟩ := h
  rfl
theorem len_line_of {ts : List T} {q : Sl → Prop} {r : Xn → Prop} {M : Mode} (h : sp_line_of  M ts q r) : ts.length = 1 := by
  obtain ⟨_, _, rfl, _⟩ := h
  rfl
theorem len_text_line {K : PySem.W.Frag} {ts : List T} {q : Sl → Prop} {r : Xn → Prop} {M : Mode} (h : sp_text_line K M ts q r) : ts.length = 1 := by
  obtain ⟨_, rfl, _⟩ := h
  rfl
theorem len_text_of {ts : List T} {q : Sl → Prop} {r : Xn → Prop} {M : Mode} (h : sp_text_of  M ts q r) : ts.length = 1 := by
  obtain ⟨_, rfl, _⟩ := h
  rfl
theorem len_read_line {K : PySem.W.Frag} {ts : List T} {q : Sl → Prop} {r : Xn → Prop} {M : Mode} (h : sp_read_line K M ts q r) : ts.length = 1 := by
  obtain ⟨_, rfl, _⟩ := h
  rfl
theorem len__law_mixed {ts : List T} {q : Sl → Prop} {r : Xn → Prop} {M : Mode} (h : sp__law_mixed  M ts q r) : ts.length = 1 := by
  obtain ⟨_, rfl, _⟩ := h
  rfl
theorem len__law_take {ts : List T} {q : Sl → Prop} {r : Xn → Prop} {M : Mode} (h : sp__law_take  M ts q r) : ts.length = 2 := by
  obtain ⟨_, _, rfl, _⟩ := h
  rfl
theorem len__law_pick {ts : List T} {q : Sl → Prop} {r : Xn → Prop} {M : Mode} (h : sp__law_pick  M ts q r) : ts.length = 2 := by
  obtain ⟨_, _, _, rfl, _⟩ := h
  rfl
theorem len__law_says {ts : List T} {q : Sl → Prop} {r : Xn → Prop} {M : Mode} (h : sp__law_says  M ts q r) : ts.length = 2 := by
  obtain ⟨_, _, _, rfl, _⟩ := h
  rfl
theorem len__law_is_token {ts : List T} {q : Sl → Prop} {r : Xn → Prop} {M : Mode} (h : sp__law_is_token  M ts q r) : ts.length = 1 := by
  obtain ⟨_, rfl, _⟩ := h
  rfl
theorem len__law_due {ts : List T} {q : Sl → Prop} {r : Xn → Prop} {M : Mode} (h : sp__law_due  M ts q r) : ts.length = 1 := by
  obtain ⟨_, rfl, _⟩ := h
  rfl
theorem len__law_spoilt {ts : List T} {q : Sl → Prop} {r : Xn → Prop} {M : Mode} (h : sp__law_spoilt  M ts q r) : ts.length = 2 := by
  obtain ⟨_, _, rfl, _⟩ := h
  rfl
def top (i : Nat) : Stmt := PySem.Challenge.pw_everyfind_k87_lines_of_texts.main.body.getD i (.Pass ⟨0, 0, 0, 0⟩)
structure Gm (K : PySem.W.Frag) (mg : Str → Option Value) : Prop where
  v_MOST_LETTERS : ∃ t, mg "MOST_LETTERS" = some (.int 8 t)
  v_MOST_TOKENS : ∃ t, mg "MOST_TOKENS" = some (.int 400 t)
  v_LETTERS : ∃ t, mg "LETTERS" = some (.str "abcdefghijklmnopqrstuvwxyz" t)
  v_BREAK : ∃ t, mg "BREAK" = some (.str "." t)
  f_abs : mg "abs" = none
  f_all : mg "all" = none
  f_int : mg "int" = none
  f_isinstance : mg "isinstance" = none
  f_len : mg "len" = none
  f_list : mg "list" = none
  f_min : mg "min" = none
  f_range : mg "range" = none
  f_repr : mg "repr" = none
  f_str : mg "str" = none
  f_tuple : mg "tuple" = none
  c_BadForm : ExcF K mg "BadForm"
  c_BadText : ExcF K mg "BadText"
section
variable {P : Program} {w : World} {K : PySem.W.Frag} {mg : Str → Option Value} {base : Heap}
theorem sc_is_letters : FnScope ["thing", "least", "most", "sign"] ["thing", "least", "most"] (defScope (top 9)) := ⟨rfl, rfl, rfl, by decide +kernel, rfl, by decide +kernel, by decide +kernel⟩
theorem fo_is_letters (Y : Gm K mg) (F : FnAt K mg "is_letters" (top 9)) : ∃ f fd, FnP K "is_letters" (top 9) f fd ∧ FnOk P w K mg base (L2.CX P w) 1 f fd ["thing", "least", "most"] (lift K sp_is_letters) ∧ mg "is_letters" = some (.ref f) := by
  obtain ⟨f, fd, F, hm⟩ := F
  exact ⟨f, fd, F, mk_fn F sc_is_letters (fun M ts q r h => len_is_letters h) fun cdv A outer s H E M hr => ⟨_, _, (gss_one (gs_retR (gr_e (ge_and (ge_callB call_isi simc_isi Y.f_isinstance (ga_cons (ge_v 0) (ga_cons (ge_ty Y.f_str) ga_nil))) (ge_and (ge_chain op_leU simr_le op_leU simr_le (ge_v 1) (ge_callB call_len simc_len Y.f_len (ga_cons (ge_v 0) ga_nil)) (ge_v 2)) (ge_one (ge_callB (cr_all rfl) simc_all Y.f_all (ga_cons (ge_lc [("sign", 3)] rfl sc_is_letters.nd (gi_seq (ge_v 0)) (blkOk_by (N := ["thing", "least", "most", "sign"]) (sc := defScope (top 9)) (by decide +kernel)) (fun _ _ _ _ _ => (gg_name 3 sc_is_letters.nd)) (fun _ _ _ _ _ => gts_nil) (fun _ _ _ _ _ => (ge_cmp op_in_sign simr_inS (ge_v 3) (ge_gstr Y.v_LETTERS))) (s0 := s)) ga_nil)))))))), fun ts q r h => sem_is_letters h⟩, hm⟩
theorem fn_is_letters (Y : Gm K mg) (F : FnAt K mg "is_letters" (top 9)) : Fn P w K mg base 1 "is_letters" ["thing", "least", "most"] sp_is_letters := by
  obtain ⟨f, fd, F, h, hm⟩ := fo_is_letters (P := P) (w := w) (base := base) Y F
  exact ⟨f, fd, h, hm, F.kp, F.bindsN fun _ _ _ _ _ _ us hl => match us, hl with | [_, _, _], _ => rfl⟩
theorem sc_is_word : FnScope ["thing"] ["thing"] (defScope (top 10)) := ⟨rfl, rfl, rfl, by decide +kernel, rfl, by decide +kernel, by decide +kernel⟩
theorem fo_is_word (Y : Gm K mg) (F : FnAt K mg "is_word" (top 10)) (D_is_letters : Fn P w K mg base 1 "is_letters" ["thing", "least", "most"] sp_is_letters) : ∃ f fd, FnP K "is_word" (top 10) f fd ∧ FnOk P w K mg base (L2.CX P w) 2 f fd ["thing"] (lift K sp_is_word) ∧ mg "is_word" = some (.ref f) := by
  obtain ⟨f, fd, F, hm⟩ := F
  exact ⟨f, fd, F, mk_fn F sc_is_word (fun M ts q r h => len_is_word h) fun cdv A outer s H E M hr => ⟨_, _, (gss_one (gs_retR (gr_e (ge_c D_is_letters hr (passE (takes_of rfl rfl rfl rfl)) (ga_cons (ge_v 0) (ga_cons ge_int (ga_cons (ge_gint Y.v_MOST_LETTERS) ga_nil))))))), fun ts q r h => sem_is_word h⟩, hm⟩
theorem fn_is_word (Y : Gm K mg) (F : FnAt K mg "is_word" (top 10)) (D_is_letters : Fn P w K mg base 1 "is_letters" ["thing", "least", "most"] sp_is_letters) : Fn P w K mg base 2 "is_word" ["thing"] sp_is_word := by
  obtain ⟨f, fd, F, h, hm⟩ := fo_is_word (P := P) (w := w) (base := base) Y F D_is_letters
  exact ⟨f, fd, h, hm, F.kp, F.bindsN fun _ _ _ _ _ _ us hl => match us, hl with | [_], _ => rfl⟩
theorem sc_is_token : FnScope ["thing"] ["thing"] (defScope (top 11)) := ⟨rfl, rfl, rfl, by decide +kernel, rfl, by decide +kernel, by decide +kernel⟩
theorem fo_is_token (Y : Gm K mg) (F : FnAt K mg "is_token" (top 11)) (D_is_word : Fn P w K mg base 2 "is_word" ["thing"] sp_is_word) : ∃ f fd, FnP K "is_token" (top 11) f fd ∧ FnOk P w K mg base (L2.CX P w) 3 f fd ["thing"] (lift K sp_is_token) ∧ mg "is_token" = some (.ref f) := by
  obtain ⟨f, fd, F, hm⟩ := F
  exact ⟨f, fd, F, mk_fn F sc_is_token (fun M ts q r h => len_is_token h) fun cdv A outer s H E M hr => ⟨_, _, (gss_one (gs_retR (gr_e (ge_or (ge_c D_is_word hr (passE (takes_of rfl rfl rfl rfl)) (ga_cons (ge_v 0) ga_nil)) (ge_one (ge_and (ge_callB call_isi simc_isi Y.f_isinstance (ga_cons (ge_v 0) (ga_cons (ge_ty Y.f_str) ga_nil))) (ge_one (ge_cmp (op_eqU hr.units) simr_eq (ge_v 0) (ge_gstr Y.v_BREAK))))))))), fun ts q r h => sem_is_token h⟩, hm⟩
theorem fn_is_token (Y : Gm K mg) (F : FnAt K mg "is_token" (top 11)) (D_is_word : Fn P w K mg base 2 "is_word" ["thing"] sp_is_word) : Fn P w K mg base 3 "is_token" ["thing"] sp_is_token := by
  obtain ⟨f, fd, F, h, hm⟩ := fo_is_token (P := P) (w := w) (base := base) Y F D_is_word
  exact ⟨f, fd, h, hm, F.kp, F.bindsN fun _ _ _ _ _ _ us hl => match us, hl with | [_], _ => rfl⟩
theorem sc_is_text : FnScope ["thing", "token"] ["thing"] (defScope (top 12)) := ⟨rfl, rfl, rfl, by decide +kernel, rfl, by decide +kernel, by decide +kernel⟩
theorem fo_is_text (Y : Gm K mg) (F : FnAt K mg "is_text" (top 12)) (D_is_token : Fn P w K mg base 3 "is_token" ["thing"] sp_is_token) : ∃ f fd, FnP K "is_text" (top 12) f fd ∧ FnOk P w K mg base (L2.CX P w) 4 f fd ["thing"] (lift K sp_is_text) ∧ mg "is_text" = some (.ref f) := by
  obtain ⟨f, fd, F, hm⟩ := F
  exact ⟨f, fd, F, mk_fn F sc_is_text (fun M ts q r h => len_is_text h) fun cdv A outer s H E M hr => ⟨_, _, (gss_one (gs_retR (gr_e (ge_and (ge_isiT (ns := ["list", "tuple"]) Y.f_isinstance (ge_v 0) (pa_cons (ty1 Y.f_list) (pa_cons (ty1 Y.f_tuple) pa_nil))) (ge_and (ge_cmp op_leU simr_le (ge_callB call_len simc_len Y.f_len (ga_cons (ge_v 0) ga_nil)) (ge_gint Y.v_MOST_TOKENS)) (ge_one (ge_callB (cr_all rfl) simc_all Y.f_all (ga_cons (ge_lc [("token", 1)] rfl sc_is_text.nd (gi_seq (ge_v 0)) (blkOk_by (N := ["thing", "token"]) (sc := defScope (top 12)) (by decide +kernel)) (fun _ _ _ _ _ => (gg_name 1 sc_is_text.nd)) (fun _ _ _ _ _ => gts_nil) (fun _ _ _ _ _ => (ge_c D_is_token hr passL (ga_cons (ge_v 1) ga_nil))) (s0 := s)) ga_nil)))))))), fun ts q r h => sem_is_text h⟩, hm⟩
theorem fn_is_text (Y : Gm K mg) (F : FnAt K mg "is_text" (top 12)) (D_is_token : Fn P w K mg base 3 "is_token" ["thing"] sp_is_token) : Fn P w K mg base 4 "is_text" ["thing"] sp_is_text := by
  obtain ⟨f, fd, F, h, hm⟩ := fo_is_text (P := P) (w := w) (base := base) Y F D_is_token
  exact ⟨f, fd, h, hm, F.kp, F.bindsN fun _ _ _ _ _ _ us hl => match us, hl with | [_], _ => rfl⟩
theorem sc_line_of : FnScope ["text"] ["text"] (defScope (top 14)) := ⟨rfl, rfl, rfl, by decide +kernel, rfl, by decide +kernel, by decide +kernel⟩
theorem fo_line_of (Y : Gm K mg) (F : FnAt K mg "line_of" (top 14)) : ∃ f fd, FnP K "line_of" (top 14) f fd ∧ FnOk P w K mg base (L2.CX P w) 1 f fd ["text"] (lift K sp_line_of) ∧ mg "line_of" = some (.ref f) := by
  obtain ⟨f, fd, F, hm⟩ := F
  exact ⟨f, fd, F, mk_fn F sc_line_of (fun M ts q r h => len_line_of h) fun cdv A outer s H E M hr => ⟨_, _, (gss_one (gs_retR (gr_e (ge_bm PySem.F.plainAttrs_str PySem.F.slot_str_join PySem.F.type_str_join mt_join simm_join ty_join ge_str (ga_cons (ge_v 0) ga_nil))))), fun ts q r h => sem_line_of h⟩, hm⟩
theorem fn_line_of (Y : Gm K mg) (F : FnAt K mg "line_of" (top 14)) : Fn P w K mg base 1 "line_of" ["text"] sp_line_of := by
  obtain ⟨f, fd, F, h, hm⟩ := fo_line_of (P := P) (w := w) (base := base) Y F
  exact ⟨f, fd, h, hm, F.kp, F.bindsN fun _ _ _ _ _ _ us hl => match us, hl with | [_], _ => rfl⟩
theorem sc_text_line : FnScope ["text"] ["text"] (defScope (top 15)) := ⟨rfl, rfl, rfl, by decide +kernel, rfl, by decide +kernel, by decide +kernel⟩
theorem fo_text_line (Y : Gm K mg) (F : FnAt K mg "text_line" (top 15)) (D_is_text : Fn P w K mg base 4 "is_text" ["thing"] sp_is_text) (D_line_of : Fn P w K mg base 1 "line_of" ["text"] sp_line_of) : ∃ f fd, FnP K "text_line" (top 15) f fd ∧ FnOk P w K mg base (L2.CX P w) 5 f fd ["text"] (lift K (sp_text_line K)) ∧ mg "text_line" = some (.ref f) := by
  obtain ⟨f, fd, F, hm⟩ := F
  exact ⟨f, fd, F, mk_fn F sc_text_line (fun M ts q r h => len_text_line h) fun cdv A outer s H E M hr => ⟨_, _, (gss_cons (gs_if (gt_not (gt_val (ge_c D_is_text hr (passE (takes_of rfl rfl rfl rfl)) (ga_cons (ge_v 0) ga_nil)))) (gss_one (gs_raise rfl (takes_of rfl rfl rfl rfl) Y.c_BadText.2.1 Y.c_BadText.1 Y.c_BadText.2.2.1 Y.c_BadText.2.2.2.1 Y.c_BadText.2.2.2.2)) gss_nil)
    (gss_one (gs_retR (gr_e (ge_c D_line_of hr (passE (takes_of rfl rfl rfl rfl)) (ga_cons (ge_v 0) ga_nil)))))), fun ts q r h => sem_text_line h⟩, hm⟩
theorem fn_text_line (Y : Gm K mg) (F : FnAt K mg "text_line" (top 15)) (D_is_text : Fn P w K mg base 4 "is_text" ["thing"] sp_is_text) (D_line_of : Fn P w K mg base 1 "line_of" ["text"] sp_line_of) : Fn P w K mg base 5 "text_line" ["text"] (sp_text_line K) := by
  obtain ⟨f, fd, F, h, hm⟩ := fo_text_line (P := P) (w := w) (base := base) Y F D_is_text D_line_of
  exact ⟨f, fd, h, hm, F.kp, F.bindsN fun _ _ _ _ _ _ us hl => match us, hl with | [_], _ => rfl⟩
theorem sc_text_of : FnScope ["form", "found"] ["form"] (defScope (top 16)) := ⟨rfl, rfl, rfl, by decide +kernel, rfl, by decide +kernel, by decide +kernel⟩
theorem fo_text_of (Y : Gm K mg) (F : FnAt K mg "text_of" (top 16)) (D_is_text : Fn P w K mg base 4 "is_text" ["thing"] sp_is_text) : ∃ f fd, FnP K "text_of" (top 16) f fd ∧ FnOk P w K mg base (L2.CX P w) 5 f fd ["form"] (lift K sp_text_of) ∧ mg "text_of" = some (.ref f) := by
  obtain ⟨f, fd, F, hm⟩ := F
  exact ⟨f, fd, F, mk_fn F sc_text_of (fun M ts q r h => len_text_of h) fun cdv A outer s H E M hr => ⟨_, _, (gss_cons (gs_if (gt_not (gt_val (ge_callB call_isi simc_isi Y.f_isinstance (ga_cons (ge_v 0) (ga_cons (ge_ty Y.f_str) ga_nil))))) (gss_one (gs_retR (gr_e ge_non))) gss_nil)
    (gss_cons (gs_set 1 sc_text_of.nd (ge_if (gt_cmp (op_neU hr.units) simr_ne (ge_v 0) ge_str) (ge_bm PySem.F.plainAttrs_str PySem.F.slot_str_split PySem.F.type_str_split mt_split simm_split ty_split (ge_v 0) (ga_cons ge_str ga_nil)) (ge_lst ga_nil)))
    (gss_one (gs_retR (gr_if (gt_bor (gt_val (ge_c D_is_text hr (passE (takes_of rfl rfl rfl rfl)) (ga_cons (ge_v 1) ga_nil)))) (gr_v 1) (gr_e ge_non)))))), fun ts q r h => sem_text_of h⟩, hm⟩
theorem fn_text_of (Y : Gm K mg) (F : FnAt K mg "text_of" (top 16)) (D_is_text : Fn P w K mg base 4 "is_text" ["thing"] sp_is_text) : Fn P w K mg base 5 "text_of" ["form"] sp_text_of := by
  obtain ⟨f, fd, F, h, hm⟩ := fo_text_of (P := P) (w := w) (base := base) Y F D_is_text
  exact ⟨f, fd, h, hm, F.kp, F.bindsN fun _ _ _ _ _ _ us hl => match us, hl with | [_], _ => rfl⟩
theorem sc_read_line : FnScope ["form", "found"] ["form"] (defScope (top 17)) := ⟨rfl, rfl, rfl, by decide +kernel, rfl, by decide +kernel, by decide +kernel⟩
theorem fo_read_line (Y : Gm K mg) (F : FnAt K mg "read_line" (top 17)) (D_text_of : Fn P w K mg base 5 "text_of" ["form"] sp_text_of) : ∃ f fd, FnP K "read_line" (top 17) f fd ∧ FnOk P w K mg base (L2.CX P w) 6 f fd ["form"] (lift K (sp_read_line K)) ∧ mg "read_line" = some (.ref f) := by
  obtain ⟨f, fd, F, hm⟩ := F
  exact ⟨f, fd, F, mk_fn F sc_read_line (fun M ts q r h => len_read_line h) fun cdv A outer s H E M hr => ⟨_, _, (gss_cons (gs_set 1 sc_read_line.nd (ge_c D_text_of hr (passE (takes_of rfl rfl rfl rfl)) (ga_cons (ge_v 0) ga_nil)))
    (gss_cons (gs_if (gt_bor (gt_cmp op_isN simr_isN (ge_v 1) ge_non)) (gss_one (gs_raise rfl (takes_of rfl rfl rfl rfl) Y.c_BadForm.2.1 Y.c_BadForm.1 Y.c_BadForm.2.2.1 Y.c_BadForm.2.2.2.1 Y.c_BadForm.2.2.2.2)) gss_nil)
    (gss_one (gs_retR (gr_v 1))))), fun ts q r h => sem_read_line h⟩, hm⟩
theorem fn_read_line (Y : Gm K mg) (F : FnAt K mg "read_line" (top 17)) (D_text_of : Fn P w K mg base 5 "text_of" ["form"] sp_text_of) : Fn P w K mg base 6 "read_line" ["form"] (sp_read_line K) := by
  obtain ⟨f, fd, F, h, hm⟩ := fo_read_line (P := P) (w := w) (base := base) Y F D_text_of
  exact ⟨f, fd, h, hm, F.kp, F.bindsN fun _ _ _ _ _ _ us hl => match us, hl with | [_], _ => rfl⟩
theorem sc__law_begun : FnScope ["script", "large", "cell"] ["script"] (defScope (top 19)) := ⟨rfl, rfl, rfl, by decide +kernel, rfl, by decide +kernel, by decide +kernel⟩
theorem sc__law_mixed : FnScope ["draw", "turn", "found", "great", "blend", "cell"] ["draw"] (defScope (top 20)) := ⟨rfl, rfl, rfl, by decide +kernel, rfl, by decide +kernel, by decide +kernel⟩
theorem fo__law_mixed (Y : Gm K mg) (F : FnAt K mg "_law_mixed" (top 20)) : ∃ f fd, FnP K "_law_mixed" (top 20) f fd ∧ FnOk P w K mg base (L2.CX P w) 1 f fd ["draw"] (lift K sp__law_mixed) ∧ mg "_law_mixed" = some (.ref f) := by
  obtain ⟨f, fd, F, hm⟩ := F
  exact ⟨f, fd, F, mk_fn F sc__law_mixed (fun M ts q r h => len__law_mixed h) fun cdv A outer s H E M hr => ⟨_, _, (gss_cons (gs_di (.inr rfl) hr.units 0 (ge_bin op_addU simr_add (ge_di (.inr rfl) hr.units 0) ge_int))
    (gss_cons (gs_par 1 2 rfl sc__law_mixed.nd (ge_callTy call_int1 simc_int Y.f_int (ga_cons (ge_di (.inr rfl) hr.units 0) ga_nil)) ge_int)
    (gss_cons (gs_for (passes_of rfl) rfl (gi_seq (ge_lst (ga_cons ge_int (ga_cons ge_int (ga_cons ge_int ga_nil))))) (gg_name 3 sc__law_mixed.nd) (gss_cons (gs_set 4 sc__law_mixed.nd (ge_bin op_mod simr_mod (ge_bin op_addU simr_add (ge_bin op_mulU simr_mul (ge_v 1) ge_int) (ge_bin op_fdiv simr_div (ge_v 3) ge_int)) (ge_v 3)))
    (gss_cons (gs_for (passes_of rfl) rfl (gi_dc hr.units 0) (gg_name 5 sc__law_mixed.nd) (gss_one (gs_set 4 sc__law_mixed.nd (ge_bin op_mod simr_mod (ge_bin op_addU simr_add (ge_bin op_addU simr_add (ge_bin op_mulU simr_mul (ge_v 4) ge_int) (ge_callTy call_int1 simc_int Y.f_int (ga_cons (ge_v 5) ga_nil))) (ge_v 1)) (ge_v 3)))))
    (gss_one (gs_set 2 sc__law_mixed.nd (ge_bin op_addU simr_add (ge_bin op_mulU simr_mul (ge_v 2) ge_int) (ge_bin op_mod simr_mod (ge_bin op_pow simr_pow (ge_v 4) ge_int) (ge_v 3))))))))
    (gss_one (gs_retR (gr_v 2)))))), fun ts q r h => sem__law_mixed h⟩, hm⟩
theorem fn__law_mixed (Y : Gm K mg) (F : FnAt K mg "_law_mixed" (top 20)) : Fn P w K mg base 1 "_law_mixed" ["draw"] sp__law_mixed := by
  obtain ⟨f, fd, F, h, hm⟩ := fo__law_mixed (P := P) (w := w) (base := base) Y F
  exact ⟨f, fd, h, hm, F.kp, F.bindsN fun _ _ _ _ _ _ us hl => match us, hl with | [_], _ => rfl⟩
theorem sc__law_take : FnScope ["draw", "amount", "found"] ["draw", "amount"] (defScope (top 21)) := ⟨rfl, rfl, rfl, by decide +kernel, rfl, by decide +kernel, by decide +kernel⟩
theorem fo__law_take (Y : Gm K mg) (F : FnAt K mg "_law_take" (top 21)) (D__law_mixed : Fn P w K mg base 1 "_law_mixed" ["draw"] sp__law_mixed) : ∃ f fd, FnP K "_law_take" (top 21) f fd ∧ FnOk P w K mg base (L2.CX P w) 2 f fd ["draw", "amount"] (lift K sp__law_take) ∧ mg "_law_take" = some (.ref f) := by
  obtain ⟨f, fd, F, hm⟩ := F
  exact ⟨f, fd, F, mk_fn F sc__law_take (fun M ts q r h => len__law_take h) fun cdv A outer s H E M hr => ⟨_, _, (gss_cons (gs_if (gt_cmp (op_eqU hr.units) simr_eq (ge_di (.inl rfl) hr.units 0) ge_int) (gss_one (gs_di (.inl rfl) hr.units 0 (ge_dpop hr.units 0 (ge_c D__law_mixed hr (passE (takes_of rfl rfl rfl rfl)) (ga_cons (ge_v 0) ga_nil))))) gss_nil)
    (gss_cons (gs_set 2 sc__law_take.nd (ge_bin op_mod simr_mod (ge_callTy call_int1 simc_int Y.f_int (ga_cons (ge_di (.inl rfl) hr.units 0) ga_nil)) (ge_v 1)))
    (gss_cons (gs_di (.inl rfl) hr.units 0 (ge_bin op_fdiv simr_div (ge_callTy call_int1 simc_int Y.f_int (ga_cons (ge_di (.inl rfl) hr.units 0) ga_nil)) (ge_v 1)))
    (gss_one (gs_retR (gr_v 2)))))), fun ts q r h => sem__law_take h⟩, hm⟩
theorem fn__law_take (Y : Gm K mg) (F : FnAt K mg "_law_take" (top 21)) (D__law_mixed : Fn P w K mg base 1 "_law_mixed" ["draw"] sp__law_mixed) : Fn P w K mg base 2 "_law_take" ["draw", "amount"] sp__law_take := by
  obtain ⟨f, fd, F, h, hm⟩ := fo__law_take (P := P) (w := w) (base := base) Y F D__law_mixed
  exact ⟨f, fd, h, hm, F.kp, F.bindsN fun _ _ _ _ _ _ us hl => match us, hl with | [_, _], _ => rfl⟩
theorem sc__law_pick : FnScope ["draw", "some"] ["draw", "some"] (defScope (top 22)) := ⟨rfl, rfl, rfl, by decide +kernel, rfl, by decide +kernel, by decide +kernel⟩
theorem fo__law_pick (Y : Gm K mg) (F : FnAt K mg "_law_pick" (top 22)) (D__law_take : Fn P w K mg base 2 "_law_take" ["draw", "amount"] sp__law_take) : ∃ f fd, FnP K "_law_pick" (top 22) f fd ∧ FnOk P w K mg base (L2.CX P w) 3 f fd ["draw", "some"] (lift K sp__law_pick) ∧ mg "_law_pick" = some (.ref f) := by
  obtain ⟨f, fd, F, hm⟩ := F
  exact ⟨f, fd, F, mk_fn F sc__law_pick (fun M ts q r h => len__law_pick h) fun cdv A outer s H E M hr => ⟨_, _, (gss_one (gs_retR (gr_e (ge_ix ix_seq simr_ix (ge_v 1) (ge_c D__law_take hr (passE (takes_of rfl rfl rfl rfl)) (ga_cons (ge_v 0) (ga_cons (ge_callB call_len simc_len Y.f_len (ga_cons (ge_v 1) ga_nil)) ga_nil))))))), fun ts q r h => sem__law_pick h⟩, hm⟩
theorem fn__law_pick (Y : Gm K mg) (F : FnAt K mg "_law_pick" (top 22)) (D__law_take : Fn P w K mg base 2 "_law_take" ["draw", "amount"] sp__law_take) : Fn P w K mg base 3 "_law_pick" ["draw", "some"] sp__law_pick := by
  obtain ⟨f, fd, F, h, hm⟩ := fo__law_pick (P := P) (w := w) (base := base) Y F D__law_take
  exact ⟨f, fd, h, hm, F.kp, F.bindsN fun _ _ _ _ _ _ us hl => match us, hl with | [_, _], _ => rfl⟩
theorem sc__law_caught : FnScope ["work", "caught", "error"] ["work"] (defScope (top 23)) := ⟨rfl, rfl, rfl, by decide +kernel, rfl, by decide +kernel, by decide +kernel⟩
theorem sc__law_says : FnScope ["told", "due"] ["told", "due"] (defScope (top 24)) := ⟨rfl, rfl, rfl, by decide +kernel, rfl, by decide +kernel, by decide +kernel⟩
theorem fo__law_says (Y : Gm K mg) (F : FnAt K mg "_law_says" (top 24)) : ∃ f fd, FnP K "_law_says" (top 24) f fd ∧ FnG P w K mg base (L2.CX P w) 1 f fd ["told", "due"] (lift K sp__law_says) ∧ mg "_law_says" = some (.ref f) := by
  obtain ⟨f, fd, F, hm⟩ := F
  exact ⟨f, fd, F, mk_fnG F sc__law_says (fun M ts q r h => len__law_says h) fun cdv A outer s H E M hr hgd => ⟨_, _, (gss_one (gs_retR (gr_e (ge_cmp (op_eqU hr.units) simr_eq (ge_callB (call_show hgd hr.units) simc_show Y.f_repr (ga_cons (ge_v 0) ga_nil)) (ge_callB (call_show hgd hr.units) simc_show Y.f_repr (ga_cons (ge_v 1) ga_nil)))))), fun ts q r h => sem__law_says h⟩, hm⟩
theorem fn__law_says (Y : Gm K mg) (F : FnAt K mg "_law_says" (top 24)) : FnS P w K mg base 1 "_law_says" ["told", "due"] sp__law_says := by
  obtain ⟨f, fd, F, h, hm⟩ := fo__law_says (P := P) (w := w) (base := base) Y F
  exact ⟨f, fd, h, hm, F.kp, F.bindsN fun _ _ _ _ _ _ us hl => match us, hl with | [_, _], _ => rfl⟩
theorem sc__law_is_token : FnScope ["word", "sign"] ["word"] (defScope (top 25)) := ⟨rfl, rfl, rfl, by decide +kernel, rfl, by decide +kernel, by decide +kernel⟩
theorem fo__law_is_token (Y : Gm K mg) (F : FnAt K mg "_law_is_token" (top 25)) : ∃ f fd, FnP K "_law_is_token" (top 25) f fd ∧ FnOk P w K mg base (L2.CX P w) 1 f fd ["word"] (lift K sp__law_is_token) ∧ mg "_law_is_token" = some (.ref f) := by
  obtain ⟨f, fd, F, hm⟩ := F
  exact ⟨f, fd, F, mk_fn F sc__law_is_token (fun M ts q r h => len__law_is_token h) fun cdv A outer s H E M hr => ⟨_, _, (gss_one (gs_retR (gr_e (ge_or (ge_cmp (op_eqU hr.units) simr_eq (ge_v 0) ge_str) (ge_one (ge_and (ge_chain op_leU simr_le op_leU simr_le ge_int (ge_callB call_len simc_len Y.f_len (ga_cons (ge_v 0) ga_nil)) ge_int) (ge_one (ge_cmp (op_eqU hr.units) simr_eq (ge_lc [("sign", 1)] rfl sc__law_is_token.nd (gi_seq (ge_v 0)) (blkOk_by (N := ["word", "sign"]) (sc := defScope (top 25)) (by decide +kernel)) (fun _ _ _ _ _ => (gg_name 1 sc__law_is_token.nd)) (fun _ _ _ _ _ => (gts_one (gt_cmp op_notIn_sign simr_notInS (ge_v 1) ge_str))) (fun _ _ _ _ _ => (ge_v 1)) (s0 := s)) (ge_lst ga_nil))))))))), fun ts q r h => sem__law_is_token h⟩, hm⟩
theorem fn__law_is_token (Y : Gm K mg) (F : FnAt K mg "_law_is_token" (top 25)) : Fn P w K mg base 1 "_law_is_token" ["word"] sp__law_is_token := by
  obtain ⟨f, fd, F, h, hm⟩ := fo__law_is_token (P := P) (w := w) (base := base) Y F
  exact ⟨f, fd, h, hm, F.kp, F.bindsN fun _ _ _ _ _ _ us hl => match us, hl with | [_], _ => rfl⟩
theorem sc__law_due : FnScope ["form", "words", "word"] ["form"] (defScope (top 26)) := ⟨rfl, rfl, rfl, by decide +kernel, rfl, by decide +kernel, by decide +kernel⟩
theorem fo__law_due (Y : Gm K mg) (F : FnAt K mg "_law_due" (top 26)) (D__law_is_token : Fn P w K mg base 1 "_law_is_token" ["word"] sp__law_is_token) : ∃ f fd, FnP K "_law_due" (top 26) f fd ∧ FnOk P w K mg base (L2.CX P w) 2 f fd ["form"] (lift K sp__law_due) ∧ mg "_law_due" = some (.ref f) := by
  obtain ⟨f, fd, F, hm⟩ := F
  exact ⟨f, fd, F, mk_fn F sc__law_due (fun M ts q r h => len__law_due h) fun cdv A outer s H E M hr => ⟨_, _, (gss_cons (gs_set 1 sc__law_due.nd (ge_if (gt_cmp (op_neU hr.units) simr_ne (ge_v 0) ge_str) (ge_bm PySem.F.plainAttrs_str PySem.F.slot_str_split PySem.F.type_str_split mt_split simm_split ty_split (ge_v 0) (ga_cons ge_str ga_nil)) (ge_lst ga_nil)))
    (gss_one (gs_retR (gr_if (gt_bor (gw_and (gt_cmp op_leU simr_le (ge_callB call_len simc_len Y.f_len (ga_cons (ge_v 1) ga_nil)) ge_int) (gw_and1 (gt_cmp (op_eqU hr.units) simr_eq (ge_lc [("word", 2)] rfl sc__law_due.nd (gi_seq (ge_v 1)) (blkOk_by (N := ["form", "words", "word"]) (sc := defScope (top 26)) (by decide +kernel)) (fun _ _ _ _ _ => (gg_name 2 sc__law_due.nd)) (fun _ _ _ _ _ => (gts_one (gt_not (gt_val (ge_c D__law_is_token hr passL (ga_cons (ge_v 2) ga_nil)))))) (fun _ _ _ _ _ => (ge_v 2)) (s0 := s)) (ge_lst ga_nil)))).t) (gr_v 1) (gr_e ge_non))))), fun ts q r h => sem__law_due h⟩, hm⟩
theorem fn__law_due (Y : Gm K mg) (F : FnAt K mg "_law_due" (top 26)) (D__law_is_token : Fn P w K mg base 1 "_law_is_token" ["word"] sp__law_is_token) : Fn P w K mg base 2 "_law_due" ["form"] sp__law_due := by
  obtain ⟨f, fd, F, h, hm⟩ := fo__law_due (P := P) (w := w) (base := base) Y F D__law_is_token
  exact ⟨f, fd, h, hm, F.kp, F.bindsN fun _ _ _ _ _ _ us hl => match us, hl with | [_], _ => rfl⟩
theorem sc__law_spoilt : FnScope ["draw", "form", "at", "way"] ["draw", "form"] (defScope (top 27)) := ⟨rfl, rfl, rfl, by decide +kernel, rfl, by decide +kernel, by decide +kernel⟩
theorem fo__law_spoilt (Y : Gm K mg) (F : FnAt K mg "_law_spoilt" (top 27)) (D__law_take : Fn P w K mg base 2 "_law_take" ["draw", "amount"] sp__law_take) (D__law_pick : Fn P w K mg base 3 "_law_pick" ["draw", "some"] sp__law_pick) : ∃ f fd, FnP K "_law_spoilt" (top 27) f fd ∧ FnOk P w K mg base (L2.CX P w) 4 f fd ["draw", "form"] (lift K sp__law_spoilt) ∧ mg "_law_spoilt" = some (.ref f) := by
  obtain ⟨f, fd, F, hm⟩ := F
  exact ⟨f, fd, F, mk_fn F sc__law_spoilt (fun M ts q r h => len__law_spoilt h) fun cdv A outer s H E M hr => ⟨_, _, (gss_cons (gs_par 2 3 rfl sc__law_spoilt.nd (ge_c D__law_take hr (passE (takes_of rfl rfl rfl rfl)) (ga_cons (ge_v 0) (ga_cons (ge_bin op_addU simr_add (ge_callB call_len simc_len Y.f_len (ga_cons (ge_v 1) ga_nil)) ge_int) ga_nil))) (ge_c D__law_take hr (passE (takes_of rfl rfl rfl rfl)) (ga_cons (ge_v 0) (ga_cons ge_int ga_nil))))
    (gss_cons (gs_if (gt_cmp (op_eqU hr.units) simr_eq (ge_v 3) ge_int) (gss_one (gs_retR (gr_e (ge_bin op_addU simr_add (ge_slice sl_U simsl_cut (ge_v 1) go_none (go_some (ge_v 2))) (ge_slice sl_U simsl_cut (ge_v 1) (go_some (ge_bin op_addU simr_add (ge_v 2) ge_int)) go_none))))) gss_nil)
    (gss_cons (gs_if (gt_cmp (op_eqU hr.units) simr_eq (ge_v 3) ge_int) (gss_one (gs_retR (gr_e (ge_bin op_addU simr_add (ge_bin op_addU simr_add (ge_slice sl_U simsl_cut (ge_v 1) go_none (go_some (ge_v 2))) (ge_c D__law_pick hr (passE (takes_of rfl rfl rfl rfl)) (ga_cons (ge_v 0) (ga_cons (ge_lst (ga_cons ge_str (ga_cons ge_str (ga_cons ge_str (ga_cons ge_str (ga_cons ge_str (ga_cons ge_str (ga_cons ge_str (ga_cons ge_str (ga_cons ge_str ga_nil)))))))))) ga_nil)))) (ge_slice sl_U simsl_cut (ge_v 1) (go_some (ge_v 2)) go_none))))) gss_nil)
    (gss_one (gs_retR (gr_e (ge_c D__law_pick hr (passE (takes_of rfl rfl rfl rfl)) (ga_cons (ge_v 0) (ga_cons (ge_lst (ga_cons (ge_bin op_addU simr_add (ge_v 1) ge_str) (ga_cons (ge_bin op_addU simr_add ge_str (ge_v 1)) (ga_cons (ge_bin op_addU simr_add (ge_v 1) ge_str) (ga_cons (ge_bin op_addU simr_add (ge_v 1) ge_str) (ga_cons (ge_bin op_addU simr_add (ge_v 1) ge_str) (ga_cons (ge_bm0 PySem.F.plainAttrs_str PySem.F.slot_str_upper PySem.F.type_str_upper mt_upper (simm_str0 (g := fun a => .str (Txt.upper a)) fun _ _ => .str) (ge_v 1)) (ga_cons (ge_bin op_addU simr_add (ge_v 1) ge_str) (ga_cons ge_str (ga_cons ge_str (ga_cons ge_str (ga_cons (ge_bin op_addU simr_add (ge_v 1) (ge_bin op_mulU simr_mul ge_str ge_int)) ga_nil)))))))))))) ga_nil))))))))), fun ts q r h => sem__law_spoilt h⟩, hm⟩
theorem fn__law_spoilt (Y : Gm K mg) (F : FnAt K mg "_law_spoilt" (top 27)) (D__law_take : Fn P w K mg base 2 "_law_take" ["draw", "amount"] sp__law_take) (D__law_pick : Fn P w K mg base 3 "_law_pick" ["draw", "some"] sp__law_pick) : Fn P w K mg base 4 "_law_spoilt" ["draw", "form"] sp__law_spoilt := by
  obtain ⟨f, fd, F, h, hm⟩ := fo__law_spoilt (P := P) (w := w) (base := base) Y F D__law_take D__law_pick
  exact ⟨f, fd, h, hm, F.kp, F.bindsN fun _ _ _ _ _ _ us hl => match us, hl with | [_, _], _ => rfl⟩
theorem sc_law : FnScope ["script", "draw", "turn", "many", "text", "form", "thing", "due", "found", "caught", "told", "bad", "odd", "lap"] ["script"] (defScope (top 28)) := ⟨rfl, rfl, rfl, by decide +kernel, rfl, by decide +kernel, by decide +kernel⟩
theorem fk_text_line_text (Y : Gm K mg) (F : FnAt K mg "text_line" (top 15)) (D_is_text : Fn P w K mg base 4 "is_text" ["thing"] sp_is_text) (D_line_of : Fn P w K mg base 1 "line_of" ["text"] sp_line_of) : FnK P w K mg base 5 "text_line" ["text"] ["text"] [0] (sp_text_line K) := by
  obtain ⟨f, fd, F, h, hm⟩ := fo_text_line (P := P) (w := w) (base := base) Y F D_is_text D_line_of
  exact ⟨f, fd, h, hm, F.kp, kwB_of F fun _ _ _ _ _ _ ws hl => match ws, hl with | [_], _ => rfl⟩
theorem fk_read_line_form (Y : Gm K mg) (F : FnAt K mg "read_line" (top 17)) (D_text_of : Fn P w K mg base 5 "text_of" ["form"] sp_text_of) : FnK P w K mg base 6 "read_line" ["form"] ["form"] [0] (sp_read_line K) := by
  obtain ⟨f, fd, F, h, hm⟩ := fo_read_line (P := P) (w := w) (base := base) Y F D_text_of
  exact ⟨f, fd, h, hm, F.kp, kwB_of F fun _ _ _ _ _ _ ws hl => match ws, hl with | [_], _ => rfl⟩
end
section
variable {P : Program} {w : World} {K : PySem.W.Frag} {mg : Str → Option Value} {base : Heap}
theorem fn__law_begun (Y : Gm K mg) (F : FnAt K mg "_law_begun" (top 19)) : ∃ f fd, FnOk P w K mg base (L2.CX P w) 1 f fd ["script"] (spBegun K) ∧ mg "_law_begun" = some (.ref f) ∧ PySem.W.keepIn K (.ref f) = true ∧ Binds K fd ["script"] [] := by
  obtain ⟨f, fd, F, hm⟩ := F
  refine ⟨f, fd, F.ok sc__law_begun (fun vs H Q E h => ?_) fun cdv A outer s H vs Q E hr h => ?_, hm, F.kp, F.bindsN fun _ _ _ _ _ _ us hl => match us, hl with | [_], _ => rfl⟩
  · obtain ⟨_, _, rfl, _⟩ := h
    rfl
  · obtain ⟨a, ns, rfl, hs, hn, hq⟩ := h
    have B : ∃ t1 te2, PSs (cxOf (L2.CX P w) P w K mg base ["script", "large", "cell"] "_law_begun" (defScope (top 19)) f cdv A outer s H E) (defBody (top 19)) (tSeq t1 (tBegun te2)) ∧ SimS K M0 E t1 _ ∧ SimE K M0 E te2 _ :=
      begun_b (gs_setLc 1 [("cell", 2)] rfl sc__law_begun.nd (gi_seq (ge_v 0)) (blkOk_by (N := ["script", "large", "cell"]) (sc := defScope (top 19)) (by decide +kernel)) (fun _ _ _ _ _ => gg_name 2 sc__law_begun.nd)
          (fun _ _ _ _ _ => gts_one (gt_cmp op_geU simr_ge (ge_callB call_abs simc_abs Y.f_abs (ga_cons (ge_v 2) ga_nil)) (ge_bin op_pow simr_pow ge_int ge_int)))
          (fun _ _ _ _ _ => ge_bin op_sub simr_sub (ge_callB call_abs simc_abs Y.f_abs (ga_cons (ge_v 2) ga_nil)) (ge_bin op_pow simr_pow ge_int ge_int)) s)
        (ge_lc [("cell", 2)] rfl sc__law_begun.nd (gi_seq (ge_v 0)) (blkOk_by (N := ["script", "large", "cell"]) (sc := defScope (top 19)) (by decide +kernel)) (fun _ _ _ _ _ => gg_name 2 sc__law_begun.nd) (fun _ _ _ _ _ => gts_nil)
          (fun _ _ _ _ _ => ge_callB call_abs simc_abs Y.f_abs (ga_cons (ge_v 2) ga_nil)) (s0 := s))
    obtain ⟨t1, te2, p, s1, s2⟩ := B
    exact ⟨_, p, begun_ok rfl s1 s2 (fun k h => begun_q1 hn h) (fun ls q h => begun_q2 hn h) hs hq⟩
def spLaw (K : PySem.W.Frag) : Sp := fun vs H Q _ => ∃ (a : Addr) (ns : List Int), vs = [.ref a] ∧ ns.length ≤ 63 ∧ SqL K H a (ns.map V.int) ∧ H (He.cT K ("law", none)).2 = some (.tbl #[]) ∧ ∀ H', Q (.bl true) H'
def lamQ : Str := (envOfC "law" (defScope (top 28)) 0 0 .none).qual ++ "<lambda>"
def lamZ (K : PySem.W.Frag) : Tb := [((He.cT K ("law", none)).2, lamQ)]
theorem sc_caught : FnScope ["work", "caught", "error"] ["work"] (defScope (top 23)) := ⟨rfl, rfl, rfl, by decide +kernel, rfl, by decide +kernel, by decide +kernel⟩
theorem fn_law {fd : FuncData} (Y : Gm K mg) (XK : XF K) (F : FnP K "law" (top 28) (He.fAd K ("law", none)) fd) (FC : FnAt K mg "_law_caught" (top 23)) (D_begun : ∃ f fd, FnOk P w K mg base (L2.CX P w) 1 f fd ["script"] (spBegun K) ∧ mg "_law_begun" = some (.ref f) ∧ PySem.W.keepIn K (.ref f) = true ∧ Binds K fd ["script"] [])
    (gE : mg "FindError" = some (.ref (He.ga K "FindError"))) (TB : ∀ p ∈ [He.cT K ("law", none)], LamX.TabB base mg p.1 p.2) (D__law_pick : Fn P w K mg base 3 "_law_pick" ["draw", "some"] sp__law_pick) (D__law_says : FnS P w K mg base 1 "_law_says" ["told", "due"] sp__law_says) (D_text_line : Fn P w K mg base 5 "text_line" ["text"] (sp_text_line K)) (D_read_line : Fn P w K mg base 6 "read_line" ["form"] (sp_read_line K)) (D__law_spoilt : Fn P w K mg base 4 "_law_spoilt" ["draw", "form"] sp__law_spoilt) (D__law_due : Fn P w K mg base 2 "_law_due" ["form"] sp__law_due) (K_text_line_text : FnK P w K mg base 5 "text_line" ["text"] ["text"] [0] (sp_text_line K)) (K_read_line_form : FnK P w K mg base 6 "read_line" ["form"] ["form"] [0] (sp_read_line K)) : FnG P w K mg base (L2.CX P w) 12 (He.fAd K ("law", none)) fd ["script"] (spLaw K) := by
  refine mk_rawC F sc_law (fun vs H Q E h => ?_) fun c oc od osl lk hcd A outer s H vs Q E hr hgd h => ?_
  · obtain ⟨_, _, rfl, _⟩ := h
    rfl
  obtain ⟨a, ns, rfl, hl, hS, hP, hQ⟩ := h
  obtain ⟨fb, fdb, FB, gb, kb, bb⟩ := D_begun
  obtain ⟨fc, fdc, FC, gc⟩ := FC
  have TBc : LamX.TabB base mg c (He.cT K ("law", none)).2 := by
    have z := TB _ (List.mem_singleton.mpr rfl)
    have e : (He.cT K ("law", none)).1 = c := He.codeOf_eq lk hcd
    rw [e] at z
    exact z
  have mem : ((He.cT K ("law", none)).2, lamQ) ∈ lamZ K := List.mem_singleton.mpr rfl
  have DG : Got (cxOf (L2.CX P w) P w K mg base ["script", "draw", "turn", "many", "text", "form", "thing", "due", "found", "caught", "told", "bad", "odd", "lap"] "law" (defScope (top 28)) (He.fAd K ("law", none)) (.ref c) A outer s H E) (lamZ K) (He.ga K "FindError") (He.cT K ("law", none)).2 :=
    ⟨⟨fc, c, fdc, top 23, "FindError", _, _, _, _, _, _, _, _, _, _, _, _, _, _, _, gc, FC, FC.bindsN fun _ _ _ _ _ _ us hl => match us, hl with | [_], _ => rfl, sc_caught, .inl rfl, rfl, gE, by decide, rfl, rfl, TBc, rfl⟩, mem, fun p hp _ => by rw [List.mem_singleton.mp hp]; rfl⟩
  have B : ∃ t2, ∀ M, LamM M (lamZ K) (He.cT K ("law", none)).2 → GSs (cxOf (L2.CX P w) P w K mg base ["script", "draw", "turn", "many", "text", "form", "thing", "due", "found", "caught", "told", "bad", "odd", "lap"] "law" (defScope (top 28)) (He.fAd K ("law", none)) (.ref c) A outer s H E) M E (defBody (top 28)).tail t2 (g_law K M) := ⟨_, fun M lM =>
    (gss_cons (gs_for (passes_of rfl) rfl (gi_range1 Y.f_range (ga_cons (ge_bin op_addU simr_add ge_int (ge_callB (call_min2 rfl) simc_min2 Y.f_min (ga_cons (ge_callB call_len simc_len Y.f_len (ga_cons (ge_v 0) ga_nil)) (ga_cons ge_int ga_nil)))) ga_nil)) (gg_name 2 sc_law.nd) (gss_cons (gs_set 3 sc_law.nd (ge_c D__law_pick hr (passE (takes_of rfl rfl rfl rfl)) (ga_cons (ge_v 1) (ga_cons (ge_lst (ga_cons ge_int (ga_cons ge_int (ga_cons ge_int (ga_cons ge_int (ga_cons ge_int (ga_cons ge_int (ga_cons ge_int (ga_cons ge_int ga_nil))))))))) ga_nil))))
    (gss_cons (gs_setLc 4 [("lap", 13)] rfl sc_law.nd (gi_range1 Y.f_range (ga_cons (ge_v 3) ga_nil)) (blkOk_by (N := ["script", "draw", "turn", "many", "text", "form", "thing", "due", "found", "caught", "told", "bad", "odd", "lap"]) (sc := defScope (top 28)) (by decide +kernel)) (fun _ _ _ _ _ => (gg_name 13 sc_law.nd)) (fun _ _ _ _ _ => gts_nil) (fun _ _ _ _ _ => (ge_c D__law_pick hr passL (ga_cons (ge_v 1) (ga_cons (ge_lst (ga_cons ge_str (ga_cons ge_str (ga_cons ge_str (ga_cons ge_str (ga_cons ge_str ga_nil)))))) ga_nil)))) s)
    (gss_cons (gs_set 5 sc_law.nd (ge_bor (ge_bm PySem.F.plainAttrs_str PySem.F.slot_str_join PySem.F.type_str_join mt_join simm_join ty_join ge_str (ga_cons (ge_v 4) ga_nil))))
    (gss_cons (gs_if (gt_bor (gt_not (gt_val (ge_s D__law_says hgd hr (passE (takes_of rfl rfl rfl rfl)) (ga_cons (ge_lst (ga_cons (ge_c D_text_line hr (passE (takes_of rfl rfl rfl rfl)) (ga_cons (ge_v 4) ga_nil)) (ga_cons (ge_k K_text_line_text hr (passE (takes_of rfl rfl rfl rfl)) (gk_cons (ge_callTy call_tuple_of simc_tuple Y.f_tuple (ga_cons (ge_v 4) ga_nil)) gk_nil)) (ga_cons (ge_c D_read_line hr (passE (takes_of rfl rfl rfl rfl)) (ga_cons (ge_v 5) ga_nil)) (ga_cons (ge_k K_read_line_form hr (passE (takes_of rfl rfl rfl rfl)) (gk_cons (ge_v 5) gk_nil)) ga_nil))))) (ga_cons (ge_lst (ga_cons (ge_v 5) (ga_cons (ge_v 5) (ga_cons (ge_v 4) (ga_cons (ge_v 4) ga_nil))))) ga_nil)))))) (gss_one (gs_retR (gr_e ge_bl))) gss_nil)
    (gss_cons (gs_for (passes_of rfl) rfl (gi_seq (ge_lc [("lap", 13)] rfl sc_law.nd (gi_range1 Y.f_range (ga_cons ge_int ga_nil)) (blkOk_by (N := ["script", "draw", "turn", "many", "text", "form", "thing", "due", "found", "caught", "told", "bad", "odd", "lap"]) (sc := defScope (top 28)) (by decide +kernel)) (fun _ _ _ _ _ => (gg_name 13 sc_law.nd)) (fun _ _ _ _ _ => gts_nil) (fun _ _ _ _ _ => (ge_c D__law_spoilt hr passL (ga_cons (ge_v 1) (ga_cons (ge_v 5) ga_nil)))) (s0 := s))) (gg_name 6 sc_law.nd) (gss_cons (gs_par' 7 8 rfl sc_law.nd (ge_c D__law_due hr (passE (takes_of rfl rfl rfl rfl)) (ga_cons (ge_v 6) ga_nil)) (ge_lst ga_nil))
    (gss_cons (gs_gotApp 9 8 lM DG s hr sc_law.nd (fun A outer s H E f c' hr => (ge_c D_read_line hr (passE (takes_of rfl rfl rfl rfl)) (ga_cons (ge_v 6) ga_nil))) (fun A outer s H E f c' hr he => pe_appL 8 he) (L := LamX.lamS_by (sc := defScope (top 28)) (by decide +kernel)))
    (gss_one (gs_if (gt_bor (gw_or (gw_and (gt_cmp op_isN simr_isN (ge_v 7) ge_non) (gw_and1 (gt_not (gt_val (ge_callB call_isiU simc_isX Y.f_isinstance (ga_cons (ge_v 9) (ga_cons (ge_cls Y.c_BadForm.1) ga_nil))))))).t (gw_or1 (gw_and (gt_cmp op_notN simr_notN (ge_v 7) ge_non) (gw_and1 (gw_or (gt_cmp op_notN simr_notN (ge_v 9) ge_non) (gw_or1 (gt_not (gt_val (ge_s D__law_says hgd hr (passE (takes_of rfl rfl rfl rfl)) (ga_cons (ge_v 8) (ga_cons (ge_lst (ga_cons (ge_v 7) ga_nil)) ga_nil))))))).t)).t)).t) (gss_one (gs_retR (gr_e ge_bl))) gss_nil)))))
    (gss_cons (gs_set 10 sc_law.nd (ge_c D_read_line hr (passE (takes_of rfl rfl rfl rfl)) (ga_cons (ge_v 5) ga_nil)))
    (gss_cons (gs_app 10 ge_str)
    (gss_cons (gs_par' 11 12 rfl sc_law.nd (ge_c D__law_pick hr (passE (takes_of rfl rfl rfl rfl)) (ga_cons (ge_v 1) (ga_cons (ge_lst (ga_cons ge_non (ga_cons ge_int (ga_cons ge_str (ga_cons (ge_lst (ga_cons ge_str ga_nil)) (ga_cons (ge_lst (ga_cons ge_str ga_nil)) (ga_cons (ge_lst (ga_cons ge_str (ga_cons ge_non ga_nil))) (ga_cons (ge_lst (ga_cons (ge_lst (ga_cons ge_str ga_nil)) ga_nil)) (ga_cons (ge_bin op_mulU simr_mul (ge_lst (ga_cons ge_str ga_nil)) ge_int) (ga_cons (ge_tup (ga_cons ge_str ga_nil)) (ga_cons ge_d0 ga_nil))))))))))) ga_nil))) (ge_c D__law_pick hr (passE (takes_of rfl rfl rfl rfl)) (ga_cons (ge_v 1) (ga_cons (ge_lst (ga_cons ge_non (ga_cons ge_int (ga_cons (ge_lst (ga_cons ge_str ga_nil)) (ga_cons (ge_tup (ga_cons ge_str ga_nil)) (ga_cons ge_bl ga_nil)))))) ga_nil))))
    (gss_cons (gs_set 9 sc_law.nd (ge_lst (ga_cons (ge_got lM DG s hr (fun A outer s H E f c' hr => (ge_c D_text_line hr (passE (takes_of rfl rfl rfl rfl)) (ga_cons (ge_v 11) ga_nil))) (L := LamX.lamS_by (sc := defScope (top 28)) (by decide +kernel))) ga_nil)))
    (gss_cons (gs_app 9 (ge_got lM DG s hr (fun A outer s H E f c' hr => (ge_c D_read_line hr (passE (takes_of rfl rfl rfl rfl)) (ga_cons (ge_v 12) ga_nil))) (L := LamX.lamS_by (sc := defScope (top 28)) (by decide +kernel))))
    (gss_one (gs_if (gt_bor (gw_or (gt_not (gt_val (ge_callB call_isiU simc_isX Y.f_isinstance (ga_cons (ge_ix ix_seq simr_ix (ge_v 9) ge_int) (ga_cons (ge_cls Y.c_BadText.1) ga_nil))))) (gw_or (gt_not (gt_val (ge_callB call_isiU simc_isX Y.f_isinstance (ga_cons (ge_ix ix_seq simr_ix (ge_v 9) ge_int) (ga_cons (ge_cls Y.c_BadForm.1) ga_nil))))) (gw_or1 (gt_cmp (op_neU hr.units) simr_ne (ge_c D_read_line hr (passE (takes_of rfl rfl rfl rfl)) (ga_cons (ge_v 5) ga_nil)) (ge_v 4))))).t) (gss_one (gs_retR (gr_e ge_bl))) gss_nil)))))))))))))
    (gss_one (gs_retR (gr_e (ge_and (ge_cmp (op_eqU hr.units) simr_eq (ge_c D_text_line hr (passE (takes_of rfl rfl rfl rfl)) (ga_cons (ge_lst (ga_cons ge_str (ga_cons ge_str (ga_cons ge_str (ga_cons ge_str ga_nil))))) ga_nil)) ge_str) (ge_one (ge_cmp (op_eqU hr.units) simr_eq (ge_c D_read_line hr (passE (takes_of rfl rfl rfl rfl)) (ga_cons ge_str ga_nil)) (ge_lst ga_nil))))))))⟩
  obtain ⟨t2, B⟩ := B
  refine ⟨tSeq (tAsg (tCall (spBegun K) [] E (tCons (tVar 0) tNil)) (gName 1)) t2, pss_cons (ps_set (i := 1) sc_law.nd rfl (by first | exact Or.inl rfl | exact Or.inr rfl) (pe_call FB (hr.mono (by decide)) rfl gb kb bb .nil (passE (takes_of rfl rfl rfl rfl)) (pa_cons (pe_var (i := 0) rfl (by first | exact Or.inl rfl | exact Or.inr (Or.inl rfl) | exact Or.inr (Or.inr rfl))) pa_nil)) rfl) (B (DM 0 0 0 [] (lamZ K)) (lamM_D mem)).p, ?_⟩
  refine ⟨.ref a, rfl, a, ns, rfl, hS, by omega, fun d L C H' cs h1 h2 h3 keep D => ?_⟩
  have hT : LamX.Tabs (lamZ K) H' := fun p hp => by
    rw [List.mem_singleton.mp hp]
    exact LamX.TabS.nil (keep _ _ hP)
  exact rest_ok (B (DM d L C cs (lamZ K)) (lamM_D mem)).s hS hT (fun p hp _ => by rw [List.mem_singleton.mp hp]; exact ⟨_, hP⟩) h1 h2 keep D ⟨12, rfl, rfl⟩ (sem_law XK ⟨L, C, cs, _, rfl⟩ hl) hQ
end
end K87
namespace K87
open PySem PySem.Spec PyProof.Rows L2 TL
/-! ### the head -/
def d_is_letters : He.DefD := ⟨("is_letters", none), "is_letters", "is_letters", defArgs (top 9), defBody (top 9), defScope (top 9), [], []⟩
def d_is_word : He.DefD := ⟨("is_word", none), "is_word", "is_word", defArgs (top 10), defBody (top 10), defScope (top 10), [], []⟩
def d_is_token : He.DefD := ⟨("is_token", none), "is_token", "is_token", defArgs (top 11), defBody (top 11), defScope (top 11), [], []⟩
def d_is_text : He.DefD := ⟨("is_text", none), "is_text", "is_text", defArgs (top 12), defBody (top 12), defScope (top 12), [], []⟩
def d_line_of : He.DefD := ⟨("line_of", none), "line_of", "line_of", defArgs (top 14), defBody (top 14), defScope (top 14), [], []⟩
def d_text_line : He.DefD := ⟨("text_line", none), "text_line", "text_line", defArgs (top 15), defBody (top 15), defScope (top 15), [], []⟩
def d_text_of : He.DefD := ⟨("text_of", none), "text_of", "text_of", defArgs (top 16), defBody (top 16), defScope (top 16), [], []⟩
def d_read_line : He.DefD := ⟨("read_line", none), "read_line", "read_line", defArgs (top 17), defBody (top 17), defScope (top 17), [], []⟩
def d__law_begun : He.DefD := ⟨("_law_begun", none), "_law_begun", "_law_begun", defArgs (top 19), defBody (top 19), defScope (top 19), [], []⟩
def d__law_mixed : He.DefD := ⟨("_law_mixed", none), "_law_mixed", "_law_mixed", defArgs (top 20), defBody (top 20), defScope (top 20), [], []⟩
def d__law_take : He.DefD := ⟨("_law_take", none), "_law_take", "_law_take", defArgs (top 21), defBody (top 21), defScope (top 21), [], []⟩
def d__law_pick : He.DefD := ⟨("_law_pick", none), "_law_pick", "_law_pick", defArgs (top 22), defBody (top 22), defScope (top 22), [], []⟩
def d__law_caught : He.DefD := ⟨("_law_caught", none), "_law_caught", "_law_caught", defArgs (top 23), defBody (top 23), defScope (top 23), [], []⟩
def d__law_says : He.DefD := ⟨("_law_says", none), "_law_says", "_law_says", defArgs (top 24), defBody (top 24), defScope (top 24), [], []⟩
def d__law_is_token : He.DefD := ⟨("_law_is_token", none), "_law_is_token", "_law_is_token", defArgs (top 25), defBody (top 25), defScope (top 25), [], []⟩
def d__law_due : He.DefD := ⟨("_law_due", none), "_law_due", "_law_due", defArgs (top 26), defBody (top 26), defScope (top 26), [], []⟩
def d__law_spoilt : He.DefD := ⟨("_law_spoilt", none), "_law_spoilt", "_law_spoilt", defArgs (top 27), defBody (top 27), defScope (top 27), [], []⟩
def d_law : He.DefD := ⟨("law", none), "law", "law", defArgs (top 28), defBody (top 28), defScope (top 28), [], []⟩
def hfn : List He.DefD := [d_is_letters, d_is_word, d_is_token, d_is_text, d_line_of, d_text_line, d_text_of, d_read_line, d__law_begun, d__law_mixed, d__law_take, d__law_pick, d__law_caught, d__law_says, d__law_is_token, d__law_due, d__law_spoilt, d_law]
def hfa : List He.Fa := [.int "MOST_LETTERS" 8, .int "MOST_TOKENS" 400, .str "LETTERS" "abcdefghijklmnopqrstuvwxyz", .str "BREAK" ".", .free "abs", .free "all", .free "int", .free "isinstance", .free "len", .free "list", .free "min", .free "range", .free "repr", .free "str", .free "tuple", .glo "is_letters", .glo "is_word", .glo "is_token", .glo "is_text", .glo "line_of", .glo "text_line", .glo "text_of", .glo "read_line", .glo "_law_begun", .glo "_law_mixed", .glo "_law_take", .glo "_law_pick", .glo "_law_caught", .glo "_law_says", .glo "_law_is_token", .glo "_law_due", .glo "_law_spoilt", .glo "law", .glo "FindError", .glo "BadForm", .glo "BadText", .exc "BadForm", .exc "BadText", .exm "BadText" "FindError" true, .exm "BadForm" "FindError" true]
/-- what isinstance asks of an error's class -/
def excB (K : PySem.W.Frag) (x : Str) : Bool := decide (PySem.W.findIn K (.ref (He.ga K x)) "__getattribute__" = some (some (.builtin "BaseException.__getattribute__"))) && (decide (PySem.W.findIn K (.ref (He.ga K x)) "__getattr__" = some none) && (decide (PySem.W.subIn K (.ref (He.ga K x)) (.type "BaseException") = some true) &&
  (PySem.W.hasDictIn K (He.ga K x) && (decide (PySem.W.findIn K (.ref (He.ga K x)) "__class__" = some (some (.builtin "object.__class__"))) && (decide (PySem.W.specialIn K (.builtin "object.__class__") "__get__" = some (some (.builtin "getset_descriptor.__get__"))) &&
  (decide (PySem.W.takesIn K (.builtin "object.__class__") = some true) && decide (PySem.W.mroIn K (He.ga K x) (.type "object") = some true)))))))
def hex (K : PySem.W.Frag) : Bool := excB K "BadText" && (excB K "BadForm" && (decide (PySem.W.kitOne K (.ref (He.ga K "BadText")) (.ref (He.ga K "BadText")) = some true) && decide (PySem.W.kitOne K (.ref (He.ga K "BadForm")) (.ref (He.ga K "BadForm")) = some true)))
theorem excB_ok {K : PySem.W.Frag} {x : Str} (h : excB K x = true) : ExcC K (He.ga K x) := by
  unfold excB at h
  simp only [Bool.and_eq_true, decide_eq_true_eq] at h
  obtain ⟨h1, h2, h3, h4, h5, h6, h7, h8⟩ := h
  exact ⟨h1, h2, h3, h4, h5, h6, h7, h8⟩
abbrev RR : PySem.W.OpenRow := PySem.W.OpenLaw.row PySem.Challenge.rw_everyfind_k87_lines_of_texts
def loose : List Str := ["__name__", "FindError", "BadForm", "BadText", "MOST_LETTERS", "MOST_TOKENS", "LETTERS", "BREAK", "is_letters", "is_word", "is_token", "is_text", "line_of", "text_line", "text_of", "read_line", "_law_begun", "_law_mixed", "_law_take", "_law_pick", "_law_caught", "_law_says", "_law_is_token", "_law_due", "_law_spoilt"]
abbrev hk : PySem.W.Hook := He.hookX 4 hfa hfn [] [("law", none)] hex
def ob (s : PySem.W.SharedT) : He.AlX := He.obsX 4 hfa hfn [] [("law", none)] hex (HandSHeadRun.getT s)
theorem ob_eq (s : PySem.W.SharedT) : ob s = hk.obs s.abs := He.obsX_eq (HandSHeadRun.getT_eq s)
theorem run (w : World) : HandSHeadRun.RunEq RR (PySem.W.view RR.prog [28]) hk ob 3000 loose w := by
  intro os
  kernel_rfl
theorem told {P : Program} {w : World} {K : PySem.W.Frag} {h : Heap} {mg : Str → Option Value} {f : Addr} (KX : K.In h) (G : h.Ns mainGlobals mg) (c : He.SaysX hfa hfn [] [("law", none)] hex w h K) (hmg : mg ("law" : Str) = some (.ref f)) :
    ∃ fd : FuncData, (∀ (s : Shared) (u : Value), BindsTo s fd ⟨[u], []⟩ [("script", u)]) ∧ ∀ base : Heap, (∀ p ∈ [He.cT K ("law", none)], LamX.TabB base mg p.1 p.2) → FnG P w K mg base (L2.CX P w) 12 f fd ["script"] (spLaw K) := by
  have fact : ∀ x : He.Fa, x ∈ hfa → x.ok K = true := fun x m => c.t.d.facts m
  have glo : ∀ x : Str, He.Fa.glo x ∈ hfa → mg x = some (.ref (He.ga K x)) := fun x m => He.glo_ok KX G (fact _ m)
  have exF : ∀ x : Str, He.Fa.exc x ∈ hfa → He.Fa.glo x ∈ hfa → ExcF K mg x := fun x m m2 => ⟨glo x m2, (He.exc_ok (fact _ m))⟩
  have at_ : ∀ d : He.DefD, d ∈ hfn → He.Fa.glo d.name ∈ hfa → d.at_ = (d.name, none) ∧ d.qual = d.name ∧ d.dfl = [] ∧ d.kwd = [] → ∃ fd, FunD K d.name d.name d.params d.body d.scope [] [] (He.fAd K (d.name, none)) fd ∧ mg d.name = some (.ref (He.fAd K (d.name, none))) := fun d m m2 ⟨e1, e2, e3, e4⟩ => by
    obtain ⟨fd, F⟩ := c.t.d.defs m
    unfold He.DefD.dvs He.DefD.kws at F
    rw [e1, e2, e3, e4] at F
    exact ⟨fd, F, glo _ m2⟩
  have Y : Gm K mg := ⟨He.int_ok KX G (fact (.int "MOST_LETTERS" 8) (by simp [hfa])), He.int_ok KX G (fact (.int "MOST_TOKENS" 400) (by simp [hfa])), He.str_ok KX G (fact (.str "LETTERS" "abcdefghijklmnopqrstuvwxyz") (by simp [hfa])), He.str_ok KX G (fact (.str "BREAK" ".") (by simp [hfa])), He.free_ok KX G (fact (.free "abs") (by simp [hfa])), He.free_ok KX G (fact (.free "all") (by simp [hfa])), He.free_ok KX G (fact (.free "int") (by simp [hfa])), He.free_ok KX G (fact (.free "isinstance") (by simp [hfa])), He.free_ok KX G (fact (.free "len") (by simp [hfa])), He.free_ok KX G (fact (.free "list") (by simp [hfa])), He.free_ok KX G (fact (.free "min") (by simp [hfa])), He.free_ok KX G (fact (.free "range") (by simp [hfa])), He.free_ok KX G (fact (.free "repr") (by simp [hfa])), He.free_ok KX G (fact (.free "str") (by simp [hfa])), He.free_ok KX G (fact (.free "tuple") (by simp [hfa])), exF "BadForm" (by simp [hfa]) (by simp [hfa]), exF "BadText" (by simp [hfa]) (by simp [hfa])⟩
  have m1 := c.more
  unfold hex at m1
  simp only [Bool.and_eq_true, decide_eq_true_eq] at m1
  obtain ⟨x1, x2, x3, x4⟩ := m1
  have XK : XF K := ⟨He.exm_ok (fact (.exm "BadText" "FindError" true) (by simp [hfa])), He.exm_ok (fact (.exm "BadForm" "FindError" true) (by simp [hfa])), excB_ok x1, excB_ok x2, x3, x4⟩
  obtain ⟨fd, F, hm⟩ := at_ d_law (by simp [hfn]) (by simp [hfa, d_law]) ⟨rfl, rfl, rfl, rfl⟩
  have e := hmg.symm.trans hm
  cases e
  refine ⟨fd, fun s u => F.bindsA (ps := ["script"]) (fun _ _ _ _ _ _ us hl => match us, hl with | [_], _ => rfl) s [u] rfl, fun base TB => ?_⟩
  have A : ∀ d : He.DefD, d ∈ hfn → He.Fa.glo d.name ∈ hfa → d.at_ = (d.name, none) ∧ d.qual = d.name ∧ d.dfl = [] ∧ d.kwd = [] → ∃ f fd, FunD K d.name d.name d.params d.body d.scope [] [] f fd ∧ mg d.name = some (.ref f) := fun d m m2 e => (at_ d m m2 e).elim fun fd z => ⟨_, fd, z⟩
  have D_is_letters := fn_is_letters (P := P) (w := w) (base := base) Y (A d_is_letters (by simp [hfn]) (by simp [hfa, d_is_letters]) ⟨rfl, rfl, rfl, rfl⟩)
  have D_is_word := fn_is_word (P := P) (w := w) (base := base) Y (A d_is_word (by simp [hfn]) (by simp [hfa, d_is_word]) ⟨rfl, rfl, rfl, rfl⟩) D_is_letters
  have D_is_token := fn_is_token (P := P) (w := w) (base := base) Y (A d_is_token (by simp [hfn]) (by simp [hfa, d_is_token]) ⟨rfl, rfl, rfl, rfl⟩) D_is_word
  have D_is_text := fn_is_text (P := P) (w := w) (base := base) Y (A d_is_text (by simp [hfn]) (by simp [hfa, d_is_text]) ⟨rfl, rfl, rfl, rfl⟩) D_is_token
  have D_line_of := fn_line_of (P := P) (w := w) (base := base) Y (A d_line_of (by simp [hfn]) (by simp [hfa, d_line_of]) ⟨rfl, rfl, rfl, rfl⟩)
  have D_text_line := fn_text_line (P := P) (w := w) (base := base) Y (A d_text_line (by simp [hfn]) (by simp [hfa, d_text_line]) ⟨rfl, rfl, rfl, rfl⟩) D_is_text D_line_of
  have D_text_of := fn_text_of (P := P) (w := w) (base := base) Y (A d_text_of (by simp [hfn]) (by simp [hfa, d_text_of]) ⟨rfl, rfl, rfl, rfl⟩) D_is_text
  have D_read_line := fn_read_line (P := P) (w := w) (base := base) Y (A d_read_line (by simp [hfn]) (by simp [hfa, d_read_line]) ⟨rfl, rfl, rfl, rfl⟩) D_text_of
  have D__law_mixed := fn__law_mixed (P := P) (w := w) (base := base) Y (A d__law_mixed (by simp [hfn]) (by simp [hfa, d__law_mixed]) ⟨rfl, rfl, rfl, rfl⟩)
  have D__law_take := fn__law_take (P := P) (w := w) (base := base) Y (A d__law_take (by simp [hfn]) (by simp [hfa, d__law_take]) ⟨rfl, rfl, rfl, rfl⟩) D__law_mixed
  have D__law_pick := fn__law_pick (P := P) (w := w) (base := base) Y (A d__law_pick (by simp [hfn]) (by simp [hfa, d__law_pick]) ⟨rfl, rfl, rfl, rfl⟩) D__law_take
  have D__law_says := fn__law_says (P := P) (w := w) (base := base) Y (A d__law_says (by simp [hfn]) (by simp [hfa, d__law_says]) ⟨rfl, rfl, rfl, rfl⟩)
  have D__law_is_token := fn__law_is_token (P := P) (w := w) (base := base) Y (A d__law_is_token (by simp [hfn]) (by simp [hfa, d__law_is_token]) ⟨rfl, rfl, rfl, rfl⟩)
  have D__law_due := fn__law_due (P := P) (w := w) (base := base) Y (A d__law_due (by simp [hfn]) (by simp [hfa, d__law_due]) ⟨rfl, rfl, rfl, rfl⟩) D__law_is_token
  have D__law_spoilt := fn__law_spoilt (P := P) (w := w) (base := base) Y (A d__law_spoilt (by simp [hfn]) (by simp [hfa, d__law_spoilt]) ⟨rfl, rfl, rfl, rfl⟩) D__law_take D__law_pick
  have K_text_line_text := fk_text_line_text (P := P) (w := w) (base := base) Y (A d_text_line (by simp [hfn]) (by simp [hfa, d_text_line]) ⟨rfl, rfl, rfl, rfl⟩) D_is_text D_line_of
  have K_read_line_form := fk_read_line_form (P := P) (w := w) (base := base) Y (A d_read_line (by simp [hfn]) (by simp [hfa, d_read_line]) ⟨rfl, rfl, rfl, rfl⟩) D_text_of
  exact fn_law Y XK F (A d__law_caught (by simp [hfn]) (by simp [hfa, d__law_caught]) ⟨rfl, rfl, rfl, rfl⟩) (fn__law_begun Y (A d__law_begun (by simp [hfn]) (by simp [hfa, d__law_begun]) ⟨rfl, rfl, rfl, rfl⟩)) (glo "FindError" (by simp [hfa])) TB D__law_pick D__law_says D_text_line D_read_line D__law_spoilt D__law_due K_text_line_text K_read_line_form
end K87
open PySem PySem.W PySem.Calls PyProof.Rows
theorem PySem.Challenge.cw_everyfind_k87_lines_of_texts_holds : PySem.Challenge.rw_everyfind_k87_lines_of_texts.Holds := by
  w_on; o_law
  refine HandSHeadRun.head_any (r := K87.RR) (q := view K87.RR.prog [28]) (H := K87.hk) (ob := K87.ob) (M := 3000) (loose := K87.loose) (d := HandSHeadRun.topDef K87.RR.prog 28) (kwd := []) K87.ob_eq (by kernel_rfl) (fun s => by kernel_rfl) K87.run (by kernel_rfl) (by kernel_rfl) (by kernel_rfl) (by rfl)
    (by first | assumption | decide +kernel) (by decide +kernel) ⟨rfl, rfl, rfl, rfl, rfl, by decide +kernel⟩ ?hw ?hc
  case hw => w_witness2
  case hc =>
    refine TL.walk_G (l := PySem.Challenge.rw_everyfind_k87_lines_of_texts) (n := 63) (k := 12) (x := "script") (CX := fun w => L2.CX (PySem.Challenge.rw_everyfind_k87_lines_of_texts).prog w) rfl (by decide) (by kernel_rfl) ⟨rfl, by decide, by decide⟩ ?F (fun w H s e s' z => ?X)
    case X =>
      obtain ⟨_, _, _, _, _, _, _, _, _, _, _, _, z⟩ := z
      exact z
    case F =>
      intro w mg fa h Y G hmg0
      obtain ⟨K, KX, c⟩ := Y
      have hmg : mg ("law" : PySem.Str) = some (.ref fa) := by
        have e : (HandSHeadRun.topDef K87.RR.prog 28).name = ("law" : PySem.Str) := by kernel_rfl
        rw [← e]
        exact hmg0
      obtain ⟨fd, hb, hF⟩ := K87.told (P := (PySem.Challenge.rw_everyfind_k87_lines_of_texts).prog) (w := w) KX G c hmg
      refine ⟨K, KX, fd, [He.cT K ("law", none)], K87.spLaw K, ⟨fun p hp => ?_, fun p hp => ?_, fun p hp => ?_⟩, hb, fun H a ns hl _ ht hS => ⟨a, ns, rfl, hl, hS, ht _ (List.mem_singleton.mpr rfl), fun _ => rfl⟩, fun base _ _ TB => hF base TB⟩
      · rw [List.mem_singleton.mp hp]
        exact c.empty _ (List.mem_singleton.mpr rfl)
      · rw [List.mem_singleton.mp hp]
        exact c.out _ (List.mem_singleton.mpr rfl)
      · rw [List.mem_singleton.mp hp]
        exact codeHd_of_K KX (c.hd _ (List.mem_singleton.mpr rfl))
