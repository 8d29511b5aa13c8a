import PyProof.Rows.All
import Wide.All
import OpenK.AllK
import Wide.FinOn
import HandS.ForMost
import HandS.ForExc
import HandS.TupAny
import HandS.IsInst
import HandS.ExcInit
import HandS.Deep
import HandS.Conv
import HandS.CallLocal
import HandS.Zip
import HandS.TupLe
import HandS.Wide
import PyProof.ReprRoads
import KE.SortData
import HandS.ExcField
import HandS.TryOnly
import HandS.TryMany
import HandS.Ends
import HandS.ExcIs
import HandS.Text
import PyProof.Rows.ReprShort
import PyProof.StrLawsRepr
import PySem.Challenge.RW_pressnotes_k76_runs_as_texts
set_option Elab.async false
set_option linter.all false
set_option maxRecDepth 100000
set_option maxHeartbeats 4000000
/-! PN: plain evaluators (GE, GA, GS) for bodies of Python text, each with the rule that the machine does what it tells. -/
namespace PN
open PySem L2

/-! ### values and stores -/
/-- a value: plain data; a changing object by its place in the store; a def by its name; the script -/
inductive S where
  | dat (d : PyData)
  | ref (k : Nat)
  | fn (x : Str)
  | scr (ns : List Int)
/-- what stands at a place of the store -/
inductive MO where
  | lst (ss : List S)
  | dK (kvs : List (Key × S))
  | dT (kvs : List (List Key × S))
  | ins (c : Str) (fs : List (Str × S))
abbrev Bs := List (Option MO)
abbrev En := List (Option S)
/-- how an expression ends -/
inductive Re where
  | ok (s : S) (B : Bs)
  | exc (c : Str) (fs : List (Str × S)) (B : Bs)
  | bad
inductive Ra where
  | ok (s : List S) (B : Bs)
  | exc (c : Str) (fs : List (Str × S)) (B : Bs)
  | bad
/-- how a statement ends -/
inductive Rs where
  | nx (r : En) (B : Bs)
  | ret (s : S) (B : Bs)
  | brk (r : En) (B : Bs)
  | ct (r : En) (B : Bs)
  | exc (c : Str) (fs : List (Str × S)) (r : En) (B : Bs)
  | bad
abbrev GE := En → Bs → Re
abbrev GA := En → Bs → Ra
abbrev GS := En → Bs → Rs
/-- a def, a built-in: what it makes of arguments -/
abbrev GF := List S → Bs → Re

/-! ### what stands for what in the abstract heap -/
mutual
/-- plain data; lists are tracked ones -/
inductive Dq (K : PySem.W.Frag) (H : Hp) : V → PyData → Prop
  | non : Dq K H .non .none
  | bl (b : Bool) : Dq K H (.bl b) (.bool b)
  | int (i : Int) : Dq K H (.int i) (.int i)
  | str (x : Str) : Dq K H (.str x) (.str x)
  | lst {a : Addr} {xs : List V} {ds : List PyData} : H a = some (.lst xs) → DqAll K H xs ds → Dq K H (.ref a) (.list ds)
  | tup {a : Addr} {xs : List V} {ds : List PyData} : SqT K H a xs → DqAll K H xs ds → Dq K H (.ref a) (.tuple ds)
inductive DqAll (K : PySem.W.Frag) (H : Hp) : List V → List PyData → Prop
  | nil : DqAll K H [] []
  | cons {v : V} {vs : List V} {d : PyData} {ds : List PyData} : Dq K H v d → DqAll K H vs ds → DqAll K H (v :: vs) (d :: ds)
end
/-- where one stands: the places' addresses, what never changes any more, the heap -/
structure Cf where
  al : List Addr
  G : Hp
  H : Hp
section
variable (K : PySem.W.Frag) (mg : Str → Option Value)
def RS (c : Cf) : S → V → Prop
  | .dat d, v => Dq K c.G v d
  | .ref k, v => ∃ a, c.al[k]? = some a ∧ v = .ref a
  | .fn x, v => ∃ a, mg x = some (.ref a) ∧ v = .ref a
  | .scr ns, v => ∃ a, SqL K c.G a (ns.map V.int) ∧ v = .ref a
def RF (c : Cf) : List (Str × S) → List (Str × V) → Prop := Paired fun p q => p.1 = q.1 ∧ RS K mg c p.2 q.2
def RO (c : Cf) : MO → HO → Prop
  | .lst ss, .lst vs => Paired (RS K mg c) ss vs
  | .dK kvs, .dK ws => Paired (fun p q => p.1 = q.1 ∧ RS K mg c p.2 q.2) kvs ws
  | .dT kvs, .dT ws => Paired (fun p q => p.1 = q.1 ∧ RS K mg c p.2 q.2) kvs ws
  | .ins x fs, .ins C _ ws => mg x = some (.ref C) ∧ RF K mg c fs ws
  | _, _ => False
structure Hold (c : Cf) (B : Bs) : Prop where
  len : c.al.length = B.length
  gh : Same c.G c.H
  nd : c.al.Nodup
  tr : ∀ a ∈ c.al, c.H a ≠ none
  ob : ∀ (k : Nat) (o : MO), B[k]? = some (some o) → ∃ a ho, c.al[k]? = some a ∧ c.G a = none ∧ c.H a = some ho ∧ RO K mg c o ho
def RE (c : Cf) (r : En) (σ : St) : Prop := σ.length = r.length ∧ ∀ (i : Nat) (s : S), r[i]? = some (some s) → ∃ v, σ[i]? = some (some v) ∧ RS K mg c s v
end
/-- from one place to a later one -/
structure Step (c c' : Cf) : Prop where
  al : ∃ t, c'.al = c.al ++ t
  g : Same c.G c'.G
  h : ∀ b o, c.H b = some o → b ∉ c.al → c'.H b = some o
  new : ∀ a ∈ c'.al, a ∉ c.al → c.H a = none
  fr : ∀ b, c.G b = none → c.H b ≠ none → b ∉ c.al → c'.G b = none
theorem Step.refl (c : Cf) : Step c c := ⟨⟨[], by simp⟩, Same.refl _, fun _ _ h _ => h, fun _ h n => absurd h n, fun _ h _ _ => h⟩
theorem Step.mem {c c' : Cf} (s : Step c c') {a : Addr} (h : a ∈ c.al) : a ∈ c'.al := by
  obtain ⟨t, e⟩ := s.al
  rw [e]
  exact List.mem_append_left _ h
theorem Step.trans {a b c : Cf} (s : Step a b) (t : Step b c) : Step a c := by
  refine ⟨?_, s.g.trans t.g, fun x o h n => ?_, fun x h n => ?_, fun x h h2 n => ?_⟩
  · obtain ⟨u, e⟩ := s.al
    obtain ⟨v, f⟩ := t.al
    exact ⟨u ++ v, by rw [f, e, List.append_assoc]⟩
  · have h1 := s.h x o h n
    refine t.h x o h1 fun m => ?_
    have := s.new x m n
    rw [h] at this
    cases this
  · by_cases m : x ∈ b.al
    · exact s.new x m n
    · have q := t.new x h m
      cases e : a.H x with
      | none => rfl
      | some o =>
        rw [s.h x o e n] at q
        cases q
  · have g1 := s.fr x h h2 n
    refine t.fr x g1 (fun e => h2 ?_) fun m => h2 (s.new x m n)
    cases e' : a.H x with
    | none => rfl
    | some o =>
      rw [s.h x o e' n] at e
      cases e
section
variable {K : PySem.W.Frag} {mg : Str → Option Value}
theorem same_l {H H' : Hp} {a : Addr} {xs : List V} (e : Same H H') (h : SqL K H a xs) : SqL K H' a xs := e.seq h
theorem same_t {H H' : Hp} {a : Addr} {xs : List V} (e : Same H H') (h : SqT K H a xs) : SqT K H' a xs := by
  rcases h with (h | ⟨o, h⟩) | h
  · exact .inl (.inl (e _ _ h))
  · exact .inl (.inr ⟨o, e _ _ h⟩)
  · exact .inr h
mutual
theorem dp_mono {H H' : Hp} (e : Same H H') : ∀ (d : PyData) (v : V), Dq K H v d → Dq K H' v d
  | .none, _, h => by cases h; exact .non
  | .bool b, _, h => by cases h; exact .bl _
  | .int i, _, h => by cases h; exact .int _
  | .str x, _, h => by cases h; exact .str _
  | .list ds, _, h => by
    cases h with
    | lst h1 h2 => exact .lst (e _ _ h1) (dpAll_mono e ds _ h2)
  | .tuple ds, _, h => by
    cases h with
    | tup h1 h2 => exact .tup (same_t e h1) (dpAll_mono e ds _ h2)
  | .dict _, _, h => by cases h
theorem dpAll_mono {H H' : Hp} (e : Same H H') : ∀ (ds : List PyData) (vs : List V), DqAll K H vs ds → DqAll K H' vs ds
  | [], _, h => by cases h; exact .nil
  | d :: ds, _, h => by
    cases h with
    | cons h1 h2 => exact .cons (dp_mono e d _ h1) (dpAll_mono e ds _ h2)
end
mutual
theorem Dq.dp {H : Hp} : ∀ (d : PyData) (v : V), Dq K H v d → Dp K H v d
  | .none, _, h => by cases h; exact .non
  | .bool b, _, h => by cases h; exact .bl _
  | .int i, _, h => by cases h; exact .int _
  | .str x, _, h => by cases h; exact .str _
  | .list ds, _, h => by
    cases h with
    | lst h1 h2 => exact .lst (.inl (.inl h1)) (DqAll.dp ds _ h2)
  | .tuple ds, _, h => by
    cases h with
    | tup h1 h2 => exact .tup h1 (DqAll.dp ds _ h2)
  | .dict _, _, h => by cases h
theorem DqAll.dp {H : Hp} : ∀ (ds : List PyData) (vs : List V), DqAll K H vs ds → DpAll K H vs ds
  | [], _, h => by cases h; exact .nil
  | d :: ds, _, h => by
    cases h with
    | cons h1 h2 => exact .cons (Dq.dp d _ h1) (DqAll.dp ds _ h2)
end
theorem RS.mono {c c' : Cf} (st : Step c c') {s : S} {v : V} (h : RS K mg c s v) : RS K mg c' s v := by
  cases s with
  | dat d => exact dp_mono st.g d v h
  | ref k =>
    obtain ⟨a, h1, h2⟩ := h
    obtain ⟨t, e⟩ := st.al
    refine ⟨a, ?_, h2⟩
    rw [e, List.getElem?_append_left (List.getElem?_eq_some_iff.mp h1).1]
    exact h1
  | fn x => exact h
  | scr ns =>
    obtain ⟨a, h1, h2⟩ := h
    exact ⟨a, same_l st.g h1, h2⟩
theorem paired_mono {α β : Type} {F F' : α → β → Prop} (f : ∀ a b, F a b → F' a b) : ∀ {l₁ : List α} {l₂ : List β}, Paired F l₁ l₂ → Paired F' l₁ l₂
  | _, _, .nil => .nil
  | _, _, .cons h t => .cons (f _ _ h) (paired_mono f t)
theorem RSs.mono {c c' : Cf} (st : Step c c') {ss : List S} {vs : List V} (h : Paired (RS K mg c) ss vs) : Paired (RS K mg c') ss vs := paired_mono (fun _ _ => RS.mono st) h
theorem RF.mono {c c' : Cf} (st : Step c c') {ss : List (Str × S)} {vs : List (Str × V)} (h : RF K mg c ss vs) : RF K mg c' ss vs := paired_mono (fun _ _ q => ⟨q.1, RS.mono st q.2⟩) h
theorem RO.mono {c c' : Cf} (st : Step c c') {o : MO} {u : HO} (h : RO K mg c o u) : RO K mg c' o u := by
  cases o with
  | lst ss => cases u <;> first | exact RSs.mono st h | exact h.elim
  | dK kvs => cases u <;> first | exact paired_mono (fun _ _ q => ⟨q.1, RS.mono st q.2⟩) h | exact h.elim
  | dT kvs => cases u <;> first | exact paired_mono (fun _ _ q => ⟨q.1, RS.mono st q.2⟩) h | exact h.elim
  | ins x fs => cases u <;> first | exact ⟨h.1, RF.mono st h.2⟩ | exact h.elim
theorem RE.mono {c c' : Cf} (st : Step c c') {r : En} {σ : St} (h : RE K mg c r σ) : RE K mg c' r σ := ⟨h.1, fun i s e => by
  obtain ⟨v, h1, h2⟩ := h.2 i s e
  exact ⟨v, h1, RS.mono st h2⟩⟩
theorem RE.set {c : Cf} {r : En} {σ : St} (h : RE K mg c r σ) (i : Nat) {s : S} {v : V} (hs : RS K mg c s v) : RE K mg c (r.set i (some s)) (σ.set i (some v)) := by
  refine ⟨by rw [List.length_set, List.length_set]; exact h.1, fun j t e => ?_⟩
  by_cases q : i = j
  · subst q
    have hl : i < r.length := by
      have := (List.getElem?_eq_some_iff.mp e).1
      rwa [List.length_set] at this
    rw [List.getElem?_set_self hl] at e
    cases e
    exact ⟨v, by rw [List.getElem?_set_self (by rw [h.1]; exact hl)], hs⟩
  · rw [List.getElem?_set_ne q] at e
    rw [List.getElem?_set_ne q]
    exact h.2 j t e
theorem RE.clr {c : Cf} {r : En} {σ : St} (h : RE K mg c r σ) (i : Nat) (o : Option V) : RE K mg c (r.set i none) (σ.set i o) := by
  refine ⟨by rw [List.length_set, List.length_set]; exact h.1, fun j t e => ?_⟩
  by_cases q : i = j
  · subst q
    have hl : i < r.length := by
      have := (List.getElem?_eq_some_iff.mp e).1
      rwa [List.length_set] at this
    rw [List.getElem?_set_self hl] at e
    cases e
  · rw [List.getElem?_set_ne q] at e
    rw [List.getElem?_set_ne q]
    exact h.2 j t e
theorem nodup_at {α : Type} : ∀ {l : List α} {i j : Nat} {x : α} {hi : i < l.length} {hj : j < l.length}, l.Nodup → l[i] = x → l[j] = x → i = j := by
  intro l i j x hi hj nd e1 e2
  rw [List.nodup_iff_pairwise_ne, List.pairwise_iff_getElem] at nd
  rcases Nat.lt_trichotomy i j with h | h | h
  · exact absurd (e1.trans e2.symm) (nd i j hi hj h)
  · exact h
  · exact absurd (e2.trans e1.symm) (nd j i hj hi h)
theorem Hold.free {c : Cf} {B : Bs} (h : Hold K mg c B) {p : Addr} (hp : c.H p = none) : c.G p = none ∧ p ∉ c.al := by
  refine ⟨h.gh.free hp, fun m => h.tr p m hp⟩
/-- a new thing that never changes, at p -/
theorem frz_step {c : Cf} {B : Bs} (h : Hold K mg c B) {p : Addr} {o : HO} (hp : c.H p = none) : Step c ⟨c.al, upd c.G p o, upd c.H p o⟩ where
  al := ⟨[], by simp⟩
  g := fun b u e => by
    show upd c.G p o b = some u
    rw [upd_ne (ne_of_none e (h.free hp).1)]
    exact e
  h := fun b u e _ => by
    show upd c.H p o b = some u
    rw [upd_ne (ne_of_none e hp)]
    exact e
  new := fun a h n => absurd h n
  fr := fun b g0 h0 _ => by
    show upd c.G p o b = none
    rw [upd_ne (show b ≠ p from fun q => h0 (by rw [q]; exact hp))]
    exact g0
theorem frz_hold {c : Cf} {B : Bs} (h : Hold K mg c B) {p : Addr} {o : HO} (hp : c.H p = none) : Hold K mg ⟨c.al, upd c.G p o, upd c.H p o⟩ B := by
  obtain ⟨g0, n0⟩ := h.free hp
  refine ⟨h.len, fun b u e => ?_, h.nd, fun a m => ?_, fun k u e => ?_⟩
  · show upd c.H p o b = some u
    have e : upd c.G p o b = some u := e
    by_cases q : b = p
    · subst q
      rw [upd_same] at e ⊢
      exact e
    · rw [upd_ne q] at e ⊢
      exact h.gh b u e
  · show upd c.H p o a ≠ none
    rw [upd_ne (show a ≠ p from fun q => n0 (by rw [← q]; exact m))]
    exact h.tr a m
  · obtain ⟨a, ho, h1, h2, h3, h4⟩ := h.ob k u e
    have ne : a ≠ p := ne_of_none h3 hp
    exact ⟨a, ho, h1, by show upd c.G p o a = none; rw [upd_ne ne]; exact h2, by show upd c.H p o a = some ho; rw [upd_ne ne]; exact h3, RO.mono (frz_step h hp) h4⟩
/-- a thing new to the heap, of which nothing is kept -/
theorem bare_step {c : Cf} {p : Addr} {o : HO} (hp : p ∉ c.al) (hq : c.H p = none) : Step c ⟨c.al, c.G, upd c.H p o⟩ where
  al := ⟨[], by simp⟩
  g := Same.refl _
  h := fun b u e _ => by
    show upd c.H p o b = some u
    rw [upd_ne (ne_of_none e hq)]
    exact e
  new := fun a h n => absurd h n
  fr := fun b g0 _ _ => g0
/-- something that is neither kept nor told may turn -/
theorem bare_hold {c : Cf} {B : Bs} (h : Hold K mg c B) {p : Addr} {o : HO} (hp : p ∉ c.al) (hg : c.G p = none) : Hold K mg ⟨c.al, c.G, upd c.H p o⟩ B := by
  have same : ∀ u ho, RO K mg c u ho → RO K mg ⟨c.al, c.G, upd c.H p o⟩ u ho := by
    intro u ho r
    cases u <;> cases ho <;> exact r
  refine ⟨h.len, fun b u e => ?_, h.nd, fun a m => ?_, fun k u e => ?_⟩
  · show upd c.H p o b = some u
    rw [upd_ne (ne_of_none e hg)]
    exact h.gh b u e
  · show upd c.H p o a ≠ none
    rw [upd_ne (show a ≠ p from fun q => hp (by rw [← q]; exact m))]
    exact h.tr a m
  · obtain ⟨a, ho, h1, h2, h3, h4⟩ := h.ob k u e
    have ne : a ≠ p := fun q => hp (by rw [← q]; exact List.mem_of_getElem? h1)
    exact ⟨a, ho, h1, h2, by show upd c.H p o a = some ho; rw [upd_ne ne]; exact h3, same _ _ h4⟩
/-- a new changing object -/
theorem alc_step {c : Cf} {p : Addr} {o : HO} (hp : c.H p = none) : Step c ⟨c.al ++ [p], c.G, upd c.H p o⟩ where
  al := ⟨[p], rfl⟩
  g := Same.refl _
  h := fun b u e _ => by
    show upd c.H p o b = some u
    rw [upd_ne (ne_of_none e hp)]
    exact e
  new := fun a m n => by
    have m : a ∈ c.al ++ [p] := m
    rcases List.mem_append.mp m with q | q
    · exact absurd q n
    · rw [List.mem_singleton.mp q]; exact hp
  fr := fun b g0 _ _ => g0
theorem alc_hold {c : Cf} {B : Bs} (h : Hold K mg c B) {p : Addr} {o : HO} {mo : MO} (hp : c.H p = none) (ho : RO K mg ⟨c.al ++ [p], c.G, upd c.H p o⟩ mo o) : Hold K mg ⟨c.al ++ [p], c.G, upd c.H p o⟩ (B ++ [some mo]) := by
  obtain ⟨g0, n0⟩ := h.free hp
  refine ⟨?_, fun b u e => ?_, ?_, fun a m => ?_, fun k u e => ?_⟩
  · show (c.al ++ [p]).length = (B ++ [some mo]).length
    rw [List.length_append, List.length_append, h.len]
    rfl
  · show upd c.H p o b = some u
    rw [upd_ne (ne_of_none e g0)]
    exact h.gh b u e
  · show (c.al ++ [p]).Nodup
    rw [List.nodup_append]
    exact ⟨h.nd, by simp, fun a ha b hb q => n0 (by rw [List.mem_singleton] at hb; rw [← hb, ← q]; exact ha)⟩
  · show upd c.H p o a ≠ none
    by_cases q : a = p
    · subst q; rw [upd_same]; exact fun z => by cases z
    · rw [upd_ne q]
      have m : a ∈ c.al ++ [p] := m
      rcases List.mem_append.mp m with m | m
      · exact h.tr a m
      · exact absurd (List.mem_singleton.mp m) q
  · by_cases hk : k < B.length
    · rw [List.getElem?_append_left hk] at e
      obtain ⟨a, hu, h1, h2, h3, h4⟩ := h.ob k u e
      have ne : a ≠ p := ne_of_none h3 hp
      exact ⟨a, hu, by show (c.al ++ [p])[k]? = some a; rw [List.getElem?_append_left (by rw [h.len]; exact hk)]; exact h1, h2, by show upd c.H p o a = some hu; rw [upd_ne ne]; exact h3, RO.mono (alc_step hp) h4⟩
    · have hk2 : k = B.length := by
        have := (List.getElem?_eq_some_iff.mp e).1
        rw [List.length_append] at this
        have : k < B.length + 1 := this
        omega
      subst hk2
      rw [List.getElem?_concat_length] at e
      cases e
      exact ⟨p, o, by show (c.al ++ [p])[B.length]? = some p; rw [← h.len, List.getElem?_concat_length], g0, upd_same, ho⟩
/-- the object at the place k turns -/
theorem put_step {c : Cf} {a : Addr} {o : HO} (ha : a ∈ c.al) : Step c ⟨c.al, c.G, upd c.H a o⟩ where
  al := ⟨[], by simp⟩
  g := Same.refl _
  h := fun b u e n => by
    show upd c.H a o b = some u
    rw [upd_ne (show b ≠ a from fun q => n (by rw [q]; exact ha))]
    exact e
  new := fun a h n => absurd h n
  fr := fun b g0 _ _ => g0
theorem RO.heap {c : Cf} {H' : Hp} {u : MO} {ho : HO} (r : RO K mg c u ho) : RO K mg ⟨c.al, c.G, H'⟩ u ho := by
  cases u <;> cases ho <;> exact r
theorem put_hold {c : Cf} {B : Bs} (h : Hold K mg c B) {k : Nat} {a : Addr} {o : HO} {mo mo0 : MO} (hk : B[k]? = some (some mo0)) (ha : c.al[k]? = some a) (ho : RO K mg c mo o) : Hold K mg ⟨c.al, c.G, upd c.H a o⟩ (B.set k (some mo)) := by
  obtain ⟨a', hu, h1, h2, h3, h4⟩ := h.ob k mo0 hk
  have e : a' = a := Option.some.inj (h1.symm.trans ha)
  subst e
  refine ⟨by show c.al.length = _; rw [List.length_set]; exact h.len, fun b u e => ?_, h.nd, fun b m => ?_, fun j u e => ?_⟩
  · show upd c.H a' o b = some u
    rw [upd_ne (ne_of_none e h2)]
    exact h.gh b u e
  · show upd c.H a' o b ≠ none
    by_cases q : b = a'
    · subst q; rw [upd_same]; exact fun z => by cases z
    · rw [upd_ne q]; exact h.tr b m
  · by_cases q : k = j
    · subst q
      have hl : k < B.length := (List.getElem?_eq_some_iff.mp hk).1
      rw [List.getElem?_set_self hl] at e
      cases e
      exact ⟨a', o, h1, h2, upd_same, RO.heap ho⟩
    · rw [List.getElem?_set_ne q] at e
      obtain ⟨b, hv, g1, g2, g3, g4⟩ := h.ob j u e
      have ne : b ≠ a' := by
        intro z
        subst z
        obtain ⟨i1, e1⟩ := List.getElem?_eq_some_iff.mp h1
        obtain ⟨i2, e2⟩ := List.getElem?_eq_some_iff.mp g1
        exact q (nodup_at h.nd e1 e2)
      exact ⟨b, hv, g1, g2, by show upd c.H a' o b = some hv; rw [upd_ne ne]; exact g3, RO.heap g4⟩
/-- a list of data is changed no more -/
theorem shut_step {c : Cf} {a : Addr} {o : HO} (ha : a ∈ c.al) (hg : c.G a = none) : Step c ⟨c.al, upd c.G a o, c.H⟩ where
  al := ⟨[], by simp⟩
  g := fun b u e => by
    show upd c.G a o b = some u
    rw [upd_ne (ne_of_none e hg)]
    exact e
  h := fun b u e _ => e
  new := fun a h n => absurd h n
  fr := fun b g0 _ n => by
    show upd c.G a o b = none
    rw [upd_ne (show b ≠ a from fun q => n (by rw [q]; exact ha))]
    exact g0
theorem shut_hold {c : Cf} {B : Bs} (h : Hold K mg c B) {k : Nat} {a : Addr} {o : HO} (ha : c.al[k]? = some a) (hg : c.G a = none) (ho : c.H a = some o) : Hold K mg ⟨c.al, upd c.G a o, c.H⟩ (B.set k none) := by
  refine ⟨by show c.al.length = _; rw [List.length_set]; exact h.len, fun b u e => ?_, h.nd, h.tr, fun j u e => ?_⟩
  · have e : upd c.G a o b = some u := e
    show c.H b = some u
    by_cases q : b = a
    · subst q; rw [upd_same] at e; rw [ho]; exact e
    · rw [upd_ne q] at e; exact h.gh b u e
  · by_cases q : k = j
    · subst q
      have hl : k < B.length := by rw [← h.len]; exact (List.getElem?_eq_some_iff.mp ha).1
      rw [List.getElem?_set_self hl] at e
      cases e
    · rw [List.getElem?_set_ne q] at e
      obtain ⟨b, hv, g1, g2, g3, g4⟩ := h.ob j u e
      have ne : b ≠ a := by
        intro z
        subst z
        obtain ⟨i1, e1⟩ := List.getElem?_eq_some_iff.mp ha
        obtain ⟨i2, e2⟩ := List.getElem?_eq_some_iff.mp g1
        exact q (nodup_at h.nd e1 e2)
      exact ⟨b, hv, g1, by show upd c.G a o b = none; rw [upd_ne ne]; exact g2, g3, RO.mono (shut_step (List.mem_of_getElem? ha) hg) g4⟩
end
end PN

set_option maxRecDepth 100000
set_option maxHeartbeats 4000000
/-! PN, second part: readings of evaluators; names, constants, operators, tests, displays, calls. -/
namespace PN
open PySem L2
abbrev GP := List S → Bs → Option (S × Bs)
section
variable (K : PySem.W.Frag) (mg : Str → Option Value)
/-- what is wanted behind an expression -/
def Fin (W : WX) (c : Cf) (σ : St) (Q : VK) : Re → Prop
  | .ok s B => ∀ c' v, Step c c' → Hold K mg c' B → RS K mg c' s v → Q v c'.H
  | .exc x fs B => ∀ c' C d ws, Step c c' → Hold K mg c' B → mg x = some (.ref C) → c'.G d = some (.xd ws) → RF K mg c' fs ws → W (.ref C) (some d) σ c'.H
  | .bad => False
def FinA (W : WX) (c : Cf) (σ : St) (Q : List V → Hp → Prop) : Ra → Prop
  | .ok s B => ∀ c' v, Step c c' → Hold K mg c' B → Paired (RS K mg c') s v → Q v c'.H
  | .exc x fs B => ∀ c' C d ws, Step c c' → Hold K mg c' B → mg x = some (.ref C) → c'.G d = some (.xd ws) → RF K mg c' fs ws → W (.ref C) (some d) σ c'.H
  | .bad => False
def FinT (W : WX) (c : Cf) (σ : St) (Q : Bool → Hp → Prop) : Re → Prop
  | .ok (.dat (.bool b)) B => ∀ c', Step c c' → Hold K mg c' B → Q b c'.H
  | .exc x fs B => ∀ c' C d ws, Step c c' → Hold K mg c' B → mg x = some (.ref C) → c'.G d = some (.xd ws) → RF K mg c' fs ws → W (.ref C) (some d) σ c'.H
  | _ => False
def FinP (c : Cf) (Q : VK) : Option (S × Bs) → Prop
  | some (s, B) => ∀ c' v, Step c c' → Hold K mg c' B → RS K mg c' s v → Q v c'.H
  | none => False
def FinS (W : WX) (c : Cf) (D : Ends) : Rs → Prop
  | .nx r B => ∀ c' σ, Step c c' → Hold K mg c' B → RE K mg c' r σ → D.nx σ c'.H
  | .ret s B => ∀ c' v, Step c c' → Hold K mg c' B → RS K mg c' s v → D.rt v c'.H
  | .brk r B => ∀ c' σ, Step c c' → Hold K mg c' B → RE K mg c' r σ → D.bk σ c'.H
  | .ct r B => ∀ c' σ, Step c c' → Hold K mg c' B → RE K mg c' r σ → D.ct σ c'.H
  | .exc x fs r B => ∀ c' σ C d ws, Step c c' → Hold K mg c' B → RE K mg c' r σ → mg x = some (.ref C) → c'.G d = some (.xd ws) → RF K mg c' fs ws → W (.ref C) (some d) σ c'.H
  | .bad => False
def rdE (W : WX) (g : GE) : TE := fun σ H Q => ∃ r B c, c.H = H ∧ Hold K mg c B ∧ RE K mg c r σ ∧ Fin K mg W c σ Q (g r B)
def rdA (W : WX) (g : GA) : TA := fun σ H Q => ∃ r B c, c.H = H ∧ Hold K mg c B ∧ RE K mg c r σ ∧ FinA K mg W c σ Q (g r B)
def rdT (W : WX) (g : GE) : TT := fun σ H Q => ∃ r B c, c.H = H ∧ Hold K mg c B ∧ RE K mg c r σ ∧ FinT K mg W c σ Q (g r B)
def rdS (W : WX) (g : GS) : TS := fun D σ H => ∃ r B c, c.H = H ∧ Hold K mg c B ∧ RE K mg c r σ ∧ FinS K mg W c D (g r B)
end
theorem PE_le {X : Cx} {e : Expr} {t t' : TE} (h : PE X e t) (f : ∀ σ H Q, t' σ H Q → t σ H Q) : PE X e t' := ⟨fun pins s σ H Q I q => h.run pins s σ H Q I (f _ _ _ q)⟩
theorem PA_le {X : Cx} {e : List Expr} {t t' : TA} (h : PA X e t) (f : ∀ σ H Q, t' σ H Q → t σ H Q) : PA X e t' := ⟨fun pos pins s σ H Q I q => h.run pos pins s σ H Q I (f _ _ _ q)⟩
theorem PT_le {X : Cx} {e : Expr} {t t' : TT} (h : PT X e t) (f : ∀ σ H Q, t' σ H Q → t σ H Q) : PT X e t' := ⟨fun pins s σ H Q I q => h.run pins s σ H Q I (f _ _ _ q)⟩
theorem PW_le {X : Cx} {e : Expr} {t t' : TT} (h : PW X e t) (f : ∀ σ H Q, t' σ H Q → t σ H Q) : PW X e t' := ⟨fun w pins s σ H Q I q => h.run w pins s σ H Q I (f _ _ _ q)⟩
theorem PS_le {X : Cx} {e : Stmt} {t t' : TS} (h : PS X e t) (f : ∀ D σ H, t' D σ H → t D σ H) : PS X e t' := ⟨fun pins s σ H D I q => h.run pins s σ H D I (f _ _ _ q)⟩
theorem PSs_le {X : Cx} {e : List Stmt} {t t' : TS} (h : PSs X e t) (f : ∀ D σ H, t' D σ H → t D σ H) : PSs X e t' := ⟨fun pins s σ H D I q => h.run pins s σ H D I (f _ _ _ q)⟩
section
variable {K : PySem.W.Frag} {mg : Str → Option Value} {W : WX} {c c1 : Cf} {σ : St}
theorem Fin.step (s : Step c c1) {Q : VK} : ∀ {x : Re}, Fin K mg W c σ Q x → Fin K mg W c1 σ Q x
  | .ok _ _, h => fun c' v t => h c' v (s.trans t)
  | .exc _ _ _, h => fun c' C d ws t => h c' C d ws (s.trans t)
  | .bad, h => h
theorem FinA.step (s : Step c c1) {Q : List V → Hp → Prop} : ∀ {x : Ra}, FinA K mg W c σ Q x → FinA K mg W c1 σ Q x
  | .ok _ _, h => fun c' v t => h c' v (s.trans t)
  | .exc _ _ _, h => fun c' C d ws t => h c' C d ws (s.trans t)
  | .bad, h => h
theorem FinT.step (s : Step c c1) {Q : Bool → Hp → Prop} : ∀ {x : Re}, FinT K mg W c σ Q x → FinT K mg W c1 σ Q x
  | .ok (.dat (.bool _)) _, h => fun c' t => h c' (s.trans t)
  | .exc _ _ _, h => fun c' C d ws t => h c' C d ws (s.trans t)
  | .bad, h => h
theorem FinS.step (s : Step c c1) {D : Ends} : ∀ {x : Rs}, FinS K mg W c D x → FinS K mg W c1 D x
  | .nx _ _, h => fun c' v t => h c' v (s.trans t)
  | .brk _ _, h => fun c' v t => h c' v (s.trans t)
  | .ct _ _, h => fun c' v t => h c' v (s.trans t)
  | .ret _ _, h => fun c' v t => h c' v (s.trans t)
  | .exc _ _ _ _, h => fun c' σ C d ws t => h c' σ C d ws (s.trans t)
  | .bad, h => h
end
/-! ### one behind the other -/
def gBind (g : GE) (f : S → GE) : GE := fun r B => match g r B with
  | .ok s B1 => f s r B1
  | .exc x fs B1 => .exc x fs B1
  | .bad => .bad
def gBindA (g : GA) (f : List S → GE) : GE := fun r B => match g r B with
  | .ok s B1 => f s r B1
  | .exc x fs B1 => .exc x fs B1
  | .bad => .bad
def aBind (g : GE) (f : S → GA) : GA := fun r B => match g r B with
  | .ok s B1 => f s r B1
  | .exc x fs B1 => .exc x fs B1
  | .bad => .bad
def aBindA (g : GA) (f : List S → GA) : GA := fun r B => match g r B with
  | .ok s B1 => f s r B1
  | .exc x fs B1 => .exc x fs B1
  | .bad => .bad
section
variable {K : PySem.W.Frag} {mg : Str → Option Value} {W : WX} {c c1 : Cf} {σ : St} {r : En} {B : Bs}
theorem fin_bind {g : GE} {f : S → GE} {Q : VK} (hc : Hold K mg c B) (hr : RE K mg c r σ) (h : Fin K mg W c σ Q (gBind g f r B)) :
    rdE K mg W g σ c.H (fun v H1 => ∃ c' s B', c'.H = H1 ∧ Step c c' ∧ Hold K mg c' B' ∧ RE K mg c' r σ ∧ RS K mg c' s v ∧ Fin K mg W c' σ Q (f s r B')) := by
  refine ⟨r, B, c, rfl, hc, hr, ?_⟩
  unfold gBind at h
  cases e : g r B with
  | ok s B1 => rw [e] at h; exact fun c' v st hd hs => ⟨c', s, B1, rfl, st, hd, hr.mono st, hs, Fin.step st h⟩
  | exc x fs B1 => rw [e] at h; exact h
  | bad => rw [e] at h; exact h
theorem fin_bindA {g : GA} {f : List S → GE} {Q : VK} (hc : Hold K mg c B) (hr : RE K mg c r σ) (h : Fin K mg W c σ Q (gBindA g f r B)) :
    rdA K mg W g σ c.H (fun v H1 => ∃ c' s B', c'.H = H1 ∧ Step c c' ∧ Hold K mg c' B' ∧ RE K mg c' r σ ∧ Paired (RS K mg c') s v ∧ Fin K mg W c' σ Q (f s r B')) := by
  refine ⟨r, B, c, rfl, hc, hr, ?_⟩
  unfold gBindA at h
  cases e : g r B with
  | ok s B1 => rw [e] at h; exact fun c' v st hd hs => ⟨c', s, B1, rfl, st, hd, hr.mono st, hs, Fin.step st h⟩
  | exc x fs B1 => rw [e] at h; exact h
  | bad => rw [e] at h; exact h
theorem finA_bind {g : GE} {f : S → GA} {Q : List V → Hp → Prop} (hc : Hold K mg c B) (hr : RE K mg c r σ) (h : FinA K mg W c σ Q (aBind g f r B)) :
    rdE K mg W g σ c.H (fun v H1 => ∃ c' s B', c'.H = H1 ∧ Step c c' ∧ Hold K mg c' B' ∧ RE K mg c' r σ ∧ RS K mg c' s v ∧ FinA K mg W c' σ Q (f s r B')) := by
  refine ⟨r, B, c, rfl, hc, hr, ?_⟩
  unfold aBind at h
  cases e : g r B with
  | ok s B1 => rw [e] at h; exact fun c' v st hd hs => ⟨c', s, B1, rfl, st, hd, hr.mono st, hs, FinA.step st h⟩
  | exc x fs B1 => rw [e] at h; exact h
  | bad => rw [e] at h; exact h
theorem finA_bindA {g : GA} {f : List S → GA} {Q : List V → Hp → Prop} (hc : Hold K mg c B) (hr : RE K mg c r σ) (h : FinA K mg W c σ Q (aBindA g f r B)) :
    rdA K mg W g σ c.H (fun v H1 => ∃ c' s B', c'.H = H1 ∧ Step c c' ∧ Hold K mg c' B' ∧ RE K mg c' r σ ∧ Paired (RS K mg c') s v ∧ FinA K mg W c' σ Q (f s r B')) := by
  refine ⟨r, B, c, rfl, hc, hr, ?_⟩
  unfold aBindA at h
  cases e : g r B with
  | ok s B1 => rw [e] at h; exact fun c' v st hd hs => ⟨c', s, B1, rfl, st, hd, hr.mono st, hs, FinA.step st h⟩
  | exc x fs B1 => rw [e] at h; exact h
  | bad => rw [e] at h; exact h
end
/-! ### names and constants -/
def gC (s : S) : GE := fun _ B => .ok s B
def gVar (i : Nat) : GE := fun r B => match r[i]? with
  | some (some s) => .ok s B
  | _ => .bad
section
variable {X : Cx} {W : WX} {pos : Pos}
theorem r_int {i : Int} {j} : PE X (.Constant (.int i) j pos) (rdE X.K X.mg W (gC (.dat (.int i)))) := PE_le pe_int fun σ H Q h => by
  obtain ⟨r, B, c, rfl, hd, hr, h⟩ := h
  exact h c (.int i) (Step.refl c) hd (.int i)
theorem r_bl {b : Bool} {j} : PE X (.Constant (.bool b) j pos) (rdE X.K X.mg W (gC (.dat (.bool b)))) := PE_le pe_bl fun σ H Q h => by
  obtain ⟨r, B, c, rfl, hd, hr, h⟩ := h
  exact h c (.bl b) (Step.refl c) hd (.bl b)
theorem r_str {x : Str} {j} : PE X (.Constant (.str x) j pos) (rdE X.K X.mg W (gC (.dat (.str x)))) := PE_le pe_str fun σ H Q h => by
  obtain ⟨r, B, c, rfl, hd, hr, h⟩ := h
  exact h c (.str x) (Step.refl c) hd (.str x)
theorem r_non {j} : PE X (.Constant .none j pos) (rdE X.K X.mg W (gC (.dat .none))) := PE_le pe_non fun σ H Q h => by
  obtain ⟨r, B, c, rfl, hd, hr, h⟩ := h
  exact h c .non (Step.refl c) hd .non
theorem r_var {i : Nat} {x : Str} (hN : X.N[i]? = some x) (hv : Vis X.env.scope x) (hd : (x == ("__debug__" : Str)) = false) (hcd : (x == ("__classdict__" : Str)) = false) : PE X (.Name x pos) (rdE X.K X.mg W (gVar i)) := PE_le (pe_var hN hv hd hcd) fun σ H Q h => by
  obtain ⟨r, B, c, rfl, hd, hr, h⟩ := h
  unfold gVar at h
  cases e : r[i]? with
  | none => rw [e] at h; exact h.elim
  | some o =>
    cases o with
    | none => rw [e] at h; exact h.elim
    | some s =>
      rw [e] at h
      obtain ⟨v, h1, h2⟩ := hr.2 i s e
      exact ⟨v, h1, h c v (Step.refl c) hd h2⟩
theorem r_gint {x : Str} {i : Int} {t : Tok} (hg : Gl X x) (hm : X.mg x = some (.int i t)) (hd : (x == ("__debug__" : Str)) = false) : PE X (.Name x pos) (rdE X.K X.mg W (gC (.dat (.int i)))) := PE_le (pe_glob (v := .int i) hg hm ⟨t, rfl⟩ hd) fun σ H Q h => by
  obtain ⟨r, B, c, rfl, hd, hr, h⟩ := h
  exact h c (.int i) (Step.refl c) hd (.int i)
theorem r_gstr {x y : Str} {t : Tok} (hg : Gl X x) (hm : X.mg x = some (.str y t)) (hd : (x == ("__debug__" : Str)) = false) : PE X (.Name x pos) (rdE X.K X.mg W (gC (.dat (.str y)))) := PE_le (pe_glob (v := .str y) hg hm ⟨t, rfl⟩ hd) fun σ H Q h => by
  obtain ⟨r, B, c, rfl, hd, hr, h⟩ := h
  exact h c (.str y) (Step.refl c) hd (.str y)
theorem r_gfn {x : Str} {f : Addr} (hg : Gl X x) (hm : X.mg x = some (.ref f)) (hd : (x == ("__debug__" : Str)) = false) : PE X (.Name x pos) (rdE X.K X.mg W (gC (.fn x))) := PE_le (pe_glob (v := .ref f) hg hm rfl hd) fun σ H Q h => by
  obtain ⟨r, B, c, rfl, hd, hr, h⟩ := h
  exact h c (.ref f) (Step.refl c) hd ⟨f, hm, rfl⟩
end
/-! ### what is made of values -/
def liftP : Option (S × Bs) → Re
  | some (s, B) => .ok s B
  | none => .bad
def gP1 (f : GP) (ga : GE) : GE := gBind ga fun s _ B => liftP (f [s] B)
def gP2 (f : GP) (ga gb : GE) : GE := gBind ga fun s => gBind gb fun t _ B => liftP (f [s, t] B)
def gPN (f : GP) (ga : GA) : GE := gBindA ga fun ss _ B => liftP (f ss B)
def gNil : GA := fun _ B => .ok [] B
def gCons (ga : GE) (gr : GA) : GA := aBind ga fun s => aBindA gr fun ss _ B => .ok (s :: ss) B
def Prim (K : PySem.W.Frag) (mg : Str → Option Value) (f : GP) (R : List V → Hp → VK → Prop) : Prop :=
  ∀ (ss : List S) (vs : List V) (c : Cf) (B : Bs) (Q : VK), Hold K mg c B → Paired (RS K mg c) ss vs → FinP K mg c Q (f ss B) → R vs c.H Q
def PrimOp (X : Cx) (op : Value → Value → Sem Value) (f : GP) : Prop := ∃ r : R2, OpR X op r ∧ ∀ (s t : S) (v u : V) (c : Cf) (B : Bs) (Q : VK), Hold X.K X.mg c B → RS X.K X.mg c s v → RS X.K X.mg c t u → FinP X.K X.mg c Q (f [s, t] B) → r v u c.H Q
def PrimUn (X : Cx) (op : Value → Sem Value) (f : GP) : Prop := ∃ r : V → Hp → VK → Prop, UnR X op r ∧ ∀ (s : S) (v : V) (c : Cf) (B : Bs) (Q : VK), Hold X.K X.mg c B → RS X.K X.mg c s v → FinP X.K X.mg c Q (f [s] B) → r v c.H Q
def PrimCall (X : Cx) (b : Value) (f : GP) : Prop := ∃ R, CallR X b R ∧ Prim X.K X.mg f R
def PrimIx (X : Cx) (f : GP) : Prop := ∃ r : R2, IxR X r ∧ ∀ (s t : S) (v u : V) (c : Cf) (B : Bs) (Q : VK), Hold X.K X.mg c B → RS X.K X.mg c s v → RS X.K X.mg c t u → FinP X.K X.mg c Q (f [s, t] B) → r v u c.H Q
section
variable {K : PySem.W.Frag} {mg : Str → Option Value} {W : WX} {c c1 : Cf} {σ : St}
theorem finP_of {o : Option (S × Bs)} {Q : VK} (h : Fin K mg W c σ Q (liftP o)) : FinP K mg c Q o := by
  cases o with
  | none => exact h
  | some p => exact h
theorem Fin.mono {Q Q' : VK} (f : ∀ v H, Q v H → Q' v H) : ∀ {x : Re}, Fin K mg W c σ Q x → Fin K mg W c σ Q' x
  | .ok _ _, h => fun c' v t hd hs => f _ _ (h c' v t hd hs)
  | .exc _ _ _, h => h
  | .bad, h => h
theorem FinA.mono {Q Q' : List V → Hp → Prop} (f : ∀ v H, Q v H → Q' v H) : ∀ {x : Ra}, FinA K mg W c σ Q x → FinA K mg W c σ Q' x
  | .ok _ _, h => fun c' v t hd hs => f _ _ (h c' v t hd hs)
  | .exc _ _ _, h => h
  | .bad, h => h
theorem FinT.mono {Q Q' : Bool → Hp → Prop} (f : ∀ v H, Q v H → Q' v H) : ∀ {x : Re}, FinT K mg W c σ Q x → FinT K mg W c σ Q' x
  | .ok (.dat (.bool _)) _, h => fun c' t hd => f _ _ (h c' t hd)
  | .exc _ _ _, h => h
  | .bad, h => h
theorem rdE_mono {g : GE} {H : Hp} {Q Q' : VK} (h : rdE K mg W g σ H Q) (f : ∀ v H, Q v H → Q' v H) : rdE K mg W g σ H Q' := by
  obtain ⟨r, B, c, e, hd, hr, h⟩ := h
  exact ⟨r, B, c, e, hd, hr, h.mono f⟩
theorem rdA_mono {g : GA} {H : Hp} {Q Q' : List V → Hp → Prop} (h : rdA K mg W g σ H Q) (f : ∀ v H, Q v H → Q' v H) : rdA K mg W g σ H Q' := by
  obtain ⟨r, B, c, e, hd, hr, h⟩ := h
  exact ⟨r, B, c, e, hd, hr, h.mono f⟩
theorem rdT_mono {g : GE} {H : Hp} {Q Q' : Bool → Hp → Prop} (h : rdT K mg W g σ H Q) (f : ∀ v H, Q v H → Q' v H) : rdT K mg W g σ H Q' := by
  obtain ⟨r, B, c, e, hd, hr, h⟩ := h
  exact ⟨r, B, c, e, hd, hr, h.mono f⟩
theorem rd_one {f : S → GE} {g : GE} {H : Hp} {Q : VK} (h : rdE K mg W (gBind g f) σ H Q) : rdE K mg W g σ H (fun v H1 => ∃ c s B r, c.H = H1 ∧ Hold K mg c B ∧ RE K mg c r σ ∧ RS K mg c s v ∧ Fin K mg W c σ Q (f s r B)) := by
  obtain ⟨r, B, c, rfl, hd, hr, h⟩ := h
  exact rdE_mono (fin_bind hd hr h) fun v H1 ⟨c', s, B', e, st, hd', hr', hs, h'⟩ => ⟨c', s, B', r, e, hd', hr', hs, h'⟩
theorem rd_oneA {f : List S → GE} {g : GA} {H : Hp} {Q : VK} (h : rdE K mg W (gBindA g f) σ H Q) : rdA K mg W g σ H (fun v H1 => ∃ c s B r, c.H = H1 ∧ Hold K mg c B ∧ RE K mg c r σ ∧ Paired (RS K mg c) s v ∧ Fin K mg W c σ Q (f s r B)) := by
  obtain ⟨r, B, c, rfl, hd, hr, h⟩ := h
  exact rdA_mono (fin_bindA hd hr h) fun v H1 ⟨c', s, B', e, st, hd', hr', hs, h'⟩ => ⟨c', s, B', r, e, hd', hr', hs, h'⟩
/-- two, one behind the other -/
theorem rd_two {f : S → S → GE} {g g2 : GE} {H : Hp} {Q : VK} (h : rdE K mg W (gBind g fun s => gBind g2 fun t => f s t) σ H Q) : rdE K mg W g σ H (fun v H1 => rdE K mg W g2 σ H1 fun u H2 => ∃ c s t B r, c.H = H2 ∧ Hold K mg c B ∧ RE K mg c r σ ∧ RS K mg c s v ∧ RS K mg c t u ∧ Fin K mg W c σ Q (f s t r B)) := by
  refine rdE_mono (rd_one h) fun v H1 ⟨c, s, B, r, e, hd, hr, hs, h⟩ => ?_
  subst e
  exact rdE_mono (fin_bind hd hr h) fun u H2 ⟨c2, t, B2, e, st, hd2, hr2, ht, h2⟩ => ⟨c2, s, t, B2, r, e, hd2, hr2, RS.mono st hs, ht, h2⟩
end
section
variable {X : Cx} {W : WX} {pos : Pos} {a b e : Expr} {es : List Expr} {ga gb gt : GE} {gr : GA} {f : GP}
theorem r_op {op : Operator} (h : PrimOp X (binaryOp op) f) (ha : PE X a (rdE X.K X.mg W ga)) (hb : PE X b (rdE X.K X.mg W gb)) : PE X (.BinOp a op b pos) (rdE X.K X.mg W (gP2 f ga gb)) := by
  obtain ⟨r, ho, hp⟩ := h
  refine PE_le (pe_op ho ha hb) fun σ H Q h => rdE_mono (rd_two h) fun v H1 h => rdE_mono h fun u H2 ⟨c, s, t, B, ρ, e, hd, hr, hs, ht, h⟩ => ?_
  subst e
  exact hp s t v u c B Q hd hs ht (finP_of h)
theorem r_un {op : UnaryOp} (h : PrimUn X (unaryOp op) f) (ha : PE X a (rdE X.K X.mg W ga)) : PE X (.UnaryOp op a pos) (rdE X.K X.mg W (gP1 f ga)) := by
  obtain ⟨r, ho, hp⟩ := h
  refine PE_le (pe_un ho ha) fun σ H Q h => rdE_mono (rd_one h) fun v H1 ⟨c, s, B, ρ, e, hd, hr, hs, h⟩ => ?_
  subst e
  exact hp s v c B Q hd hs (finP_of h)
theorem r_cmp {op : CmpOp} (h : PrimOp X (compareOp op) f) (ha : PE X a (rdE X.K X.mg W ga)) (hb : PE X b (rdE X.K X.mg W gb)) (hm : behindInMarks op b = false) : PE X (.Compare a [op] [b] pos) (rdE X.K X.mg W (gP2 f ga gb)) := by
  obtain ⟨r, ho, hp⟩ := h
  refine PE_le (pe_cmpR ho ha hb hm) fun σ H Q h => rdE_mono (rd_two h) fun v H1 h => rdE_mono h fun u H2 ⟨c, s, t, B, ρ, e, hd, hr, hs, ht, h⟩ => ?_
  subst e
  exact hp s t v u c B Q hd hs ht (finP_of h)
theorem r_ix (h : PrimIx X f) (ha : PE X a (rdE X.K X.mg W ga)) (hb : PE X b (rdE X.K X.mg W gb)) (hs : PlainIx b) : PE X (.Subscript a b pos) (rdE X.K X.mg W (gP2 f ga gb)) := by
  obtain ⟨r, ho, hp⟩ := h
  refine PE_le (pe_ix ho ha hb hs) fun σ H Q h => rdE_mono (rd_two h) fun v H1 h => rdE_mono h fun u H2 ⟨c, s, t, B, ρ, e, hd, hr, hs, ht, h⟩ => ?_
  subst e
  exact hp s t v u c B Q hd hs ht (finP_of h)
theorem r_nil : PA X [] (rdA X.K X.mg W gNil) := PA_le pa_nil fun σ H Q h => by
  obtain ⟨r, B, c, rfl, hd, hr, h⟩ := h
  exact h c [] (Step.refl c) hd .nil
theorem r_cons (ha : PE X e (rdE X.K X.mg W ga)) (hr : PA X es (rdA X.K X.mg W gr)) (hs : starEach (e :: es) X.env = (false, eval e X.env) :: starEach es X.env) : PA X (e :: es) (rdA X.K X.mg W (gCons ga gr)) := by
  refine PA_le (pa_cons ha hr hs) fun σ H Q h => ?_
  obtain ⟨r, B, c, rfl, hd, hr, h⟩ := h
  refine rdE_mono (finA_bind hd hr h) fun v H1 ⟨c2, s, B2, e2, st2, hd2, hr2, hs2, h2⟩ => ?_
  subst e2
  refine rdA_mono (finA_bindA hd2 hr2 h2) fun vs H2 ⟨c3, ss, B3, e3, st3, hd3, hr3, hs3, h3⟩ => ?_
  subst e3
  exact h3 c3 (v :: vs) (Step.refl _) hd3 (.cons (RS.mono st3 hs2) hs3)
theorem r_callB {x : Str} {p : Pos} {id : String} (h : PrimCall X (.builtin id) f) (hg : Gl X x) (hm : X.mg x = none) (hv : bootBuiltins x = some (.builtin id)) (ha : PA X (e :: es) (rdA X.K X.mg W gr)) (hn : x ≠ "__name__") (hdb : (x == ("__debug__" : Str)) = false)
    (he : starEach (e :: es) X.env = (false, eval e X.env) :: starEach es X.env) (hpl : (backTo pos (starEach es X.env)).any (·.1) = false) : PE X (.Call (.Name x p) (e :: es) [] pos) (rdE X.K X.mg W (gPN f gr)) := by
  obtain ⟨R, ho, hp⟩ := h
  refine PE_le (pe_callB ho hg hm hv ha hn hdb he hpl) fun σ H Q h => rdA_mono (rd_oneA h) fun v H1 ⟨c, s, B, ρ, e, hd, hr, hs, h⟩ => ?_
  subst e
  exact hp s v c B Q hd hs (finP_of h)
theorem r_callTy {x : Str} {p : Pos} {T : String} (h : PrimCall X (.type T) f) (hg : Gl X x) (hm : X.mg x = none) (hv : bootBuiltins x = some (.type T)) (ha : PA X (e :: es) (rdA X.K X.mg W gr)) (hn : x ≠ "__name__") (hdb : (x == ("__debug__" : Str)) = false)
    (he : starEach (e :: es) X.env = (false, eval e X.env) :: starEach es X.env) (hpl : (backTo pos (starEach es X.env)).any (·.1) = false) : PE X (.Call (.Name x p) (e :: es) [] pos) (rdE X.K X.mg W (gPN f gr)) := by
  obtain ⟨R, ho, hp⟩ := h
  refine PE_le (pe_callTy ho hg hm hv ha hn hdb he hpl) fun σ H Q h => rdA_mono (rd_oneA h) fun v H1 ⟨c, s, B, ρ, e, hd, hr, hs, h⟩ => ?_
  subst e
  exact hp s v c B Q hd hs (finP_of h)
end
/-! ### displays -/
def datOf : S → Option PyData
  | .dat d => some d
  | _ => none
def datsOf : List S → Option (List PyData)
  | [] => some []
  | .dat d :: r => (datsOf r).map (d :: ·)
  | _ :: _ => none
def pTup : GP := fun ss B => if ss.length ≤ sizeLine then (datsOf ss).map fun ds => (.dat (.tuple ds), B) else none
def pLst : GP := fun ss B => if ss.length ≤ sizeLine then (datsOf ss).map fun ds => (.dat (.list ds), B) else none
/-- a list that will change -/
def pLstA : GP := fun ss B => if ss.length ≤ sizeLine then some (.ref B.length, B ++ [some (.lst ss)]) else none
section
variable {K : PySem.W.Frag} {mg : Str → Option Value} {c : Cf}
theorem dats_all : ∀ {ss : List S} {ds : List PyData} {vs : List V}, datsOf ss = some ds → Paired (RS K mg c) ss vs → DqAll K c.G vs ds
  | [], _, _, h, .nil => by cases h; exact .nil
  | .dat d :: r, _, _, h, .cons h1 h2 => by
    have h : (datsOf r).map (d :: ·) = some _ := h
    cases e : datsOf r with
    | none => rw [e] at h; cases h
    | some x => rw [e] at h; cases h; exact .cons h1 (dats_all e h2)
theorem dats_len : ∀ {ss : List S} {ds : List PyData}, datsOf ss = some ds → ss.length = ds.length
  | [], _, h => by cases h; rfl
  | .dat d :: r, _, h => by
    have h : (datsOf r).map (d :: ·) = some _ := h
    cases e : datsOf r with
    | none => rw [e] at h; cases h
    | some x => rw [e] at h; cases h; exact congrArg (· + 1) (dats_len e)
theorem dats_map (ds : List PyData) : datsOf (ds.map S.dat) = some ds := by
  induction ds with
  | nil => rfl
  | cons d r ih => show (datsOf (r.map S.dat)).map (d :: ·) = _; rw [ih]; rfl
theorem all_dats : ∀ {ds : List PyData} {vs : List V}, DqAll K c.G vs ds → Paired (RS K mg c) (ds.map S.dat) vs
  | [], _, h => by cases h; exact .nil
  | d :: r, _, h => by cases h with | cons h1 h2 => exact .cons h1 (all_dats h2)
theorem paired_len {α β : Type} {F : α → β → Prop} {xs : List α} {ys : List β} (h : Paired F xs ys) : xs.length = ys.length := Paired.length h
/-- a new tuple of data -/
theorem new_tup {B : Bs} {ds : List PyData} {vs : List V} (hd : Hold K mg c B) (h : DqAll K c.G vs ds) {p : Addr} (hp : c.H p = none) {Q : VK}
    (q : ∀ c' v, Step c c' → Hold K mg c' B → RS K mg c' (.dat (.tuple ds)) v → Q v c'.H) : Q (.ref p) (upd c.H p (.tup vs)) :=
  q ⟨c.al, upd c.G p (.tup vs), upd c.H p (.tup vs)⟩ (.ref p) (frz_step hd hp) (frz_hold hd hp) (.tup (.inl (.inl upd_same)) (dpAll_mono (frz_step hd hp).g ds vs h))
theorem new_lst {B : Bs} {ds : List PyData} {vs : List V} (hd : Hold K mg c B) (h : DqAll K c.G vs ds) {p : Addr} (hp : c.H p = none) {Q : VK}
    (q : ∀ c' v, Step c c' → Hold K mg c' B → RS K mg c' (.dat (.list ds)) v → Q v c'.H) : Q (.ref p) (upd c.H p (.lst vs)) :=
  q ⟨c.al, upd c.G p (.lst vs), upd c.H p (.lst vs)⟩ (.ref p) (frz_step hd hp) (frz_hold hd hp) (.lst upd_same (dpAll_mono (frz_step hd hp).g ds vs h))
theorem new_lstA {B : Bs} {ss : List S} {vs : List V} (hd : Hold K mg c B) (h : Paired (RS K mg c) ss vs) {p : Addr} (hp : c.H p = none) {Q : VK}
    (q : ∀ c' v, Step c c' → Hold K mg c' (B ++ [some (.lst ss)]) → RS K mg c' (.ref B.length) v → Q v c'.H) : Q (.ref p) (upd c.H p (.lst vs)) :=
  q ⟨c.al ++ [p], c.G, upd c.H p (.lst vs)⟩ (.ref p) (alc_step hp) (alc_hold hd hp (RSs.mono (alc_step hp) h)) ⟨p, by show (c.al ++ [p])[B.length]? = some p; rw [← hd.len, List.getElem?_concat_length], rfl⟩
end
section
variable {X : Cx} {W : WX} {pos : Pos} {es : List Expr} {gr : GA}
theorem r_tup {x1} (h : PA X es (rdA X.K X.mg W gr)) : PE X (.Tuple es x1 pos) (rdE X.K X.mg W (gPN pTup gr)) := by
  refine PE_le (pe_tup h) fun σ H Q h => rdA_mono (rd_oneA h) fun v H1 ⟨c, s, B, ρ, e, hd, hr, hs, h⟩ => ?_
  subst e
  have h := finP_of h
  unfold pTup at h
  by_cases hl : s.length ≤ sizeLine
  · rw [if_pos hl] at h
    cases e : datsOf s with
    | none => rw [e] at h; exact h.elim
    | some ds =>
      rw [e] at h
      exact ⟨by rw [← paired_len hs]; exact hl, fun p hp => new_tup hd (dats_all e hs) hp h⟩
  · rw [if_neg hl] at h; exact h.elim
theorem r_lst (h : PA X es (rdA X.K X.mg W gr)) : PE X (.List es pos) (rdE X.K X.mg W (gPN pLst gr)) := by
  refine PE_le (pe_lst h) fun σ H Q h => rdA_mono (rd_oneA h) fun v H1 ⟨c, s, B, ρ, e, hd, hr, hs, h⟩ => ?_
  subst e
  have h := finP_of h
  unfold pLst at h
  by_cases hl : s.length ≤ sizeLine
  · rw [if_pos hl] at h
    cases e : datsOf s with
    | none => rw [e] at h; exact h.elim
    | some ds =>
      rw [e] at h
      exact ⟨by rw [← paired_len hs]; exact hl, fun p hp => new_lst hd (dats_all e hs) hp h⟩
  · rw [if_neg hl] at h; exact h.elim
theorem r_lstA (h : PA X es (rdA X.K X.mg W gr)) : PE X (.List es pos) (rdE X.K X.mg W (gPN pLstA gr)) := by
  refine PE_le (pe_lst h) fun σ H Q h => rdA_mono (rd_oneA h) fun v H1 ⟨c, s, B, ρ, e, hd, hr, hs, h⟩ => ?_
  subst e
  have h := finP_of h
  unfold pLstA at h
  by_cases hl : s.length ≤ sizeLine
  · rw [if_pos hl] at h
    exact ⟨by rw [← paired_len hs]; exact hl, fun p hp => new_lstA hd hs hp h⟩
  · rw [if_neg hl] at h; exact h.elim
end
end PN

set_option maxRecDepth 100000
set_option maxHeartbeats 4000000
/-! PN, third part: tests, statements, loops. -/
namespace PN
open PySem L2
/-! ### tests -/
def gAnd (ga gb : GE) : GE := fun r B => match ga r B with
  | .ok (.dat (.bool true)) B1 => gb r B1
  | .ok (.dat (.bool false)) B1 => .ok (.dat (.bool false)) B1
  | .exc x fs B1 => .exc x fs B1
  | _ => .bad
def gOr (ga gb : GE) : GE := fun r B => match ga r B with
  | .ok (.dat (.bool true)) B1 => .ok (.dat (.bool true)) B1
  | .ok (.dat (.bool false)) B1 => gb r B1
  | .exc x fs B1 => .exc x fs B1
  | _ => .bad
def gNot (ga : GE) : GE := fun r B => match ga r B with
  | .ok (.dat (.bool b)) B1 => .ok (.dat (.bool (!b))) B1
  | .exc x fs B1 => .exc x fs B1
  | _ => .bad
def gIf (gt ga gb : GE) : GE := fun r B => match gt r B with
  | .ok (.dat (.bool true)) B1 => ga r B1
  | .ok (.dat (.bool false)) B1 => gb r B1
  | .exc x fs B1 => .exc x fs B1
  | _ => .bad
section
variable {K : PySem.W.Frag} {mg : Str → Option Value} {c : Cf} {W : WX} {σ : St} {r : En} {B : Bs}
theorem rs_bool {b : Bool} {v : V} (h : RS K mg c (.dat (.bool b)) v) : v = .bl b := by
  have h : Dq K c.G v (.bool b) := h
  cases h
  rfl
theorem rs_int {i : Int} {v : V} (h : RS K mg c (.dat (.int i)) v) : v = .int i := by
  have h : Dq K c.G v (.int i) := h
  cases h
  rfl
theorem rs_str {i : Str} {v : V} (h : RS K mg c (.dat (.str i)) v) : v = .str i := by
  have h : Dq K c.G v (.str i) := h
  cases h
  rfl
theorem rs_non {v : V} (h : RS K mg c (.dat .none) v) : v = .non := by
  have h : Dq K c.G v .none := h
  cases h
  rfl
/-- a test, then one of two -/
theorem finT_of {g : GE} {k : Bool → Re} {P : Bool → Hp → Prop} (hc : Hold K mg c B) (hr : RE K mg c r σ)
    (he : match g r B with
      | .ok (.dat (.bool b)) B1 => ∀ c', Step c c' → Hold K mg c' B1 → P b c'.H
      | .exc x fs B1 => Fin K mg W c σ (fun _ _ => True) (.exc x fs B1)
      | _ => False) : rdT K mg W g σ c.H P := by
  refine ⟨r, B, c, rfl, hc, hr, ?_⟩
  cases e : g r B with
  | ok s B1 =>
    rw [e] at he
    cases s with
    | dat d =>
      cases d <;> first | exact he | exact he.elim
    | ref k => exact he.elim
    | _ => exact he.elim
  | exc x fs B1 => rw [e] at he; exact he
  | bad => rw [e] at he; exact he.elim
end
section
variable {X : Cx} {W : WX} {pos : Pos} {a b e : Expr} {rest : List Expr} {ga gb gt : GE}
theorem t_of (h : PE X e (rdE X.K X.mg W ga)) (he : ∀ whole, isTrue e X.env whole = (do let v ← whole; standAt e.pos; holding [v] (truthy v))) : PT X e (rdT X.K X.mg W ga) := by
  refine PT_le (pt_val h he) fun σ H Q h => ?_
  obtain ⟨r, B, c, rfl, hd, hr, h⟩ := h
  refine ⟨r, B, c, rfl, hd, hr, ?_⟩
  cases e : ga r B with
  | ok s B1 =>
    rw [e] at h
    cases s with
    | dat d =>
      cases d <;> first | exact h.elim | exact fun c' v st hd' hs => ⟨_, rs_bool hs, h c' st hd'⟩
    | ref k => exact h.elim
    | _ => exact h.elim
  | exc x fs B1 => rw [e] at h; exact h
  | bad => rw [e] at h; exact h.elim
theorem w_and1 (ha : PT X a (rdT X.K X.mg W ga)) : PW X (.BoolOp .And [a] pos) (rdT X.K X.mg W ga) := pw_and1 ha
theorem w_or1 (ha : PT X a (rdT X.K X.mg W ga)) : PW X (.BoolOp .Or [a] pos) (rdT X.K X.mg W ga) := pw_or1 ha
theorem w_and (ha : PT X a (rdT X.K X.mg W ga)) (hb : PW X (.BoolOp .And (b :: rest) pos) (rdT X.K X.mg W gb)) : PW X (.BoolOp .And (a :: b :: rest) pos) (rdT X.K X.mg W (gAnd ga gb)) := by
  refine PW_le (pw_and ha hb) fun σ H Q h => ?_
  obtain ⟨r, B, c, rfl, hd, hr, h⟩ := h
  refine ⟨r, B, c, rfl, hd, hr, ?_⟩
  unfold gAnd at h
  cases e : ga r B with
  | ok s B1 =>
    rw [e] at h
    cases s with
    | dat d =>
      cases d with
      | bool b =>
        cases b with
        | true => exact fun c' st hd' => ⟨r, B1, c', rfl, hd', hr.mono st, FinT.step st h⟩
        | false => exact fun c' st hd' => h c' st hd'
      | _ => exact h.elim
    | ref k => exact h.elim
    | _ => exact h.elim
  | exc x fs B1 => rw [e] at h; exact h
  | bad => rw [e] at h; exact h.elim
theorem w_or (ha : PT X a (rdT X.K X.mg W ga)) (hb : PW X (.BoolOp .Or (b :: rest) pos) (rdT X.K X.mg W gb)) : PW X (.BoolOp .Or (a :: b :: rest) pos) (rdT X.K X.mg W (gOr ga gb)) := by
  refine PW_le (pw_or ha hb) fun σ H Q h => ?_
  obtain ⟨r, B, c, rfl, hd, hr, h⟩ := h
  refine ⟨r, B, c, rfl, hd, hr, ?_⟩
  unfold gOr at h
  cases e : ga r B with
  | ok s B1 =>
    rw [e] at h
    cases s with
    | dat d =>
      cases d with
      | bool b =>
        cases b with
        | false => exact fun c' st hd' => ⟨r, B1, c', rfl, hd', hr.mono st, FinT.step st h⟩
        | true => exact fun c' st hd' => h c' st hd'
      | _ => exact h.elim
    | ref k => exact h.elim
    | _ => exact h.elim
  | exc x fs B1 => rw [e] at h; exact h
  | bad => rw [e] at h; exact h.elim
theorem t_not (ha : PT X a (rdT X.K X.mg W ga)) : PT X (.UnaryOp .Not a pos) (rdT X.K X.mg W (gNot ga)) := by
  refine PT_le (pt_not ha) fun σ H Q h => ?_
  obtain ⟨r, B, c, rfl, hd, hr, h⟩ := h
  refine ⟨r, B, c, rfl, hd, hr, ?_⟩
  unfold gNot at h
  cases e : ga r B with
  | ok s B1 =>
    rw [e] at h
    cases s with
    | dat d =>
      cases d <;> first | exact h.elim | exact fun c' st hd' => h c' st hd'
    | ref k => exact h.elim
    | _ => exact h.elim
  | exc x fs B1 => rw [e] at h; exact h
  | bad => rw [e] at h; exact h.elim
theorem r_ifx {t : Expr} (ht : PT X t (rdT X.K X.mg W gt)) (ha : PE X a (rdE X.K X.mg W ga)) (hb : PE X b (rdE X.K X.mg W gb)) : PE X (.IfExp t a b pos) (rdE X.K X.mg W (gIf gt ga gb)) := by
  refine PE_le (pe_ifExp ht ha hb) fun σ H Q h => ?_
  obtain ⟨r, B, c, rfl, hd, hr, h⟩ := h
  refine ⟨r, B, c, rfl, hd, hr, ?_⟩
  unfold gIf at h
  cases e : gt r B with
  | ok s B1 =>
    rw [e] at h
    cases s with
    | dat d =>
      cases d with
      | bool b =>
        cases b with
        | true => exact fun c' st hd' => iteT ⟨r, B1, c', rfl, hd', hr.mono st, Fin.step st h⟩
        | false => exact fun c' st hd' => iteF ⟨r, B1, c', rfl, hd', hr.mono st, Fin.step st h⟩
      | _ => exact h.elim
    | ref k => exact h.elim
    | _ => exact h.elim
  | exc x fs B1 => rw [e] at h; exact h
  | bad => rw [e] at h; exact h.elim
/-- as values -/
theorem r_bo1 {op} (h : PE X a (rdE X.K X.mg W ga)) : PE X (.BoolOp op [a] pos) (rdE X.K X.mg W ga) := pe_one h
theorem r_and (ha : PE X a (rdE X.K X.mg W ga)) (hb : PE X (.BoolOp .And (b :: rest) pos) (rdE X.K X.mg W gb)) : PE X (.BoolOp .And (a :: b :: rest) pos) (rdE X.K X.mg W (gAnd ga gb)) := by
  refine PE_le (pe_and ha hb) fun σ H Q h => ?_
  obtain ⟨r, B, c, rfl, hd, hr, h⟩ := h
  refine ⟨r, B, c, rfl, hd, hr, ?_⟩
  unfold gAnd at h
  cases e : ga r B with
  | ok s B1 =>
    rw [e] at h
    cases s with
    | dat d =>
      cases d with
      | bool b =>
        cases b with
        | true => exact fun c' v st hd' hs => ⟨true, rs_bool hs, iteT ⟨r, B1, c', rfl, hd', hr.mono st, Fin.step st h⟩⟩
        | false => exact fun c' v st hd' hs => ⟨false, rs_bool hs, iteF (h c' (.bl false) st hd' (.bl false))⟩
      | _ => exact h.elim
    | ref k => exact h.elim
    | _ => exact h.elim
  | exc x fs B1 => rw [e] at h; exact h
  | bad => rw [e] at h; exact h.elim
theorem r_or (ha : PE X a (rdE X.K X.mg W ga)) (hb : PE X (.BoolOp .Or (b :: rest) pos) (rdE X.K X.mg W gb)) : PE X (.BoolOp .Or (a :: b :: rest) pos) (rdE X.K X.mg W (gOr ga gb)) := by
  refine PE_le (pe_or ha hb) fun σ H Q h => ?_
  obtain ⟨r, B, c, rfl, hd, hr, h⟩ := h
  refine ⟨r, B, c, rfl, hd, hr, ?_⟩
  unfold gOr at h
  cases e : ga r B with
  | ok s B1 =>
    rw [e] at h
    cases s with
    | dat d =>
      cases d with
      | bool b =>
        cases b with
        | false => exact fun c' v st hd' hs => ⟨false, rs_bool hs, iteF ⟨r, B1, c', rfl, hd', hr.mono st, Fin.step st h⟩⟩
        | true => exact fun c' v st hd' hs => ⟨true, rs_bool hs, iteT (h c' (.bl true) st hd' (.bl true))⟩
      | _ => exact h.elim
    | ref k => exact h.elim
    | _ => exact h.elim
  | exc x fs B1 => rw [e] at h; exact h
  | bad => rw [e] at h; exact h.elim
theorem r_not (ha : PE X a (rdE X.K X.mg W ga)) : PE X (.UnaryOp .Not a pos) (rdE X.K X.mg W (gNot ga)) := by
  refine PE_le (pe_not ha) fun σ H Q h => ?_
  obtain ⟨r, B, c, rfl, hd, hr, h⟩ := h
  refine ⟨r, B, c, rfl, hd, hr, ?_⟩
  unfold gNot at h
  cases e : ga r B with
  | ok s B1 =>
    rw [e] at h
    cases s with
    | dat d =>
      cases d <;> first | exact h.elim | exact fun c' v st hd' hs => ⟨_, rs_bool hs, h c' (.bl _) st hd' (.bl _)⟩
    | ref k => exact h.elim
    | _ => exact h.elim
  | exc x fs B1 => rw [e] at h; exact h
  | bad => rw [e] at h; exact h.elim
end
/-- a op1 b op2 c -/
def gChain (f f' : GP) (ga gb gc : GE) : GE := gBind ga fun s => gBind gb fun t r B => match f [s, t] B with
  | some (.dat (.bool true), B1) => gBind gc (fun u _ B2 => liftP (f' [t, u] B2)) r B1
  | some (.dat (.bool false), B1) => .ok (.dat (.bool false)) B1
  | _ => .bad
section
variable {X : Cx} {W : WX} {pos : Pos} {a b d : Expr} {ga gb gd : GE} {f f' : GP}
theorem r_chain {op op' : CmpOp} (h : PrimOp X (compareOp op) f) (h' : PrimOp X (compareOp op') f') (ha : PE X a (rdE X.K X.mg W ga)) (hb : PE X b (rdE X.K X.mg W gb)) (hc : PE X d (rdE X.K X.mg W gd))
    (hm : lastMarks [op, op'] [b, d] = false) : PE X (.Compare a [op, op'] [b, d] pos) (rdE X.K X.mg W (gChain f f' ga gb gd)) := by
  obtain ⟨r, ho, hp⟩ := h
  obtain ⟨r', ho', hp'⟩ := h'
  refine PE_le (pe_chain ho ho' ha hb hc hm) fun σ H Q h => rdE_mono (rd_two h) fun v H1 h => rdE_mono h fun u H2 ⟨c, s, t, B, ρ, e, hd, hr, hs, ht, h⟩ => ?_
  subst e
  refine hp s t v u c B _ hd hs ht ?_
  cases e : f [s, t] B with
  | none => rw [e] at h; exact h.elim
  | some q =>
    obtain ⟨z, B1⟩ := q
    rw [e] at h
    intro c' x st hd' hz
    cases z with
    | dat z =>
      cases z with
      | bool k =>
        refine ⟨k, rs_bool hz, ?_⟩
        cases k with
        | true =>
          refine iteT ?_
          refine rdE_mono (fin_bind hd' (hr.mono st) (Fin.step st h)) fun w' H4 ⟨c2, s2, B2, e2, st2, hd2, hr2, hs2, h2⟩ => ?_
          subst e2
          exact hp' t s2 u w' c2 B2 Q hd2 (RS.mono (st.trans st2) ht) hs2 (finP_of h2)
        | false => exact iteF (h c' (.bl false) st hd' (.bl false))
      | _ => exact h.elim
    | ref k => exact h.elim
    | _ => exact h.elim
end
/-! ### statements -/
def sSeq (g1 g2 : GS) : GS := fun r B => match g1 r B with
  | .nx r1 B1 => g2 r1 B1
  | e => e
def sPass : GS := fun r B => .nx r B
def sBrk : GS := fun r B => .brk r B
def sCt : GS := fun r B => .ct r B
def sDrop (g : GE) : GS := fun r B => match g r B with
  | .ok _ B1 => .nx r B1
  | .exc x fs B1 => .exc x fs r B1
  | .bad => .bad
def sRet (g : GE) : GS := fun r B => match g r B with
  | .ok s B1 => .ret s B1
  | .exc x fs B1 => .exc x fs r B1
  | .bad => .bad
def sIf (t : GE) (g1 g2 : GS) : GS := fun r B => match t r B with
  | .ok (.dat (.bool true)) B1 => g1 r B1
  | .ok (.dat (.bool false)) B1 => g2 r B1
  | .exc x fs B1 => .exc x fs r B1
  | _ => .bad
abbrev GT := S → En → Option En
def sAsg (g : GE) (t : GT) : GS := fun r B => match g r B with
  | .ok s B1 => (match t s r with | some r1 => .nx r1 B1 | none => .bad)
  | .exc x fs B1 => .exc x fs r B1
  | .bad => .bad
def asT : S → Option (List S)
  | .dat (.tuple ds) => some (ds.map .dat)
  | _ => none
def tName (i : Nat) : GT := fun s r => some (r.set i (some s))
abbrev GTs := List S → En → Option En
def tsNil : GTs := fun ss r => match ss with | [] => some r | _ => none
def tsCons (t : GT) (u : GTs) : GTs := fun ss r => match ss with
  | s :: ss => (match t s r with | some r1 => u ss r1 | none => none)
  | [] => none
def tTupT (n : Nat) (u : GTs) : GT := fun s r => match asT s with
  | some ss => if ss.length = n then u ss r else none
  | none => none
def Away (vs : List Nat) (σ σ' : St) : Prop := σ'.length = σ.length ∧ ∀ i, i ∉ vs → σ'[i]? = σ[i]?
theorem Away.trans {vs ws : List Nat} {a b c : St} (h : Away vs a b) (k : Away ws b c) : Away (vs ++ ws) a c :=
  ⟨k.1.trans h.1, fun i n => (k.2 i fun m => n (List.mem_append_right _ m)).trans (h.2 i fun m => n (List.mem_append_left _ m))⟩
section
variable (K : PySem.W.Frag) (mg : Str → Option Value)
def rdG (vs : List Nat) (t : GT) : TG := fun v σ H Q => ∃ r B c s, c.H = H ∧ Hold K mg c B ∧ RE K mg c r σ ∧ RS K mg c s v ∧ match t s r with
  | some r1 => ∀ σ', RE K mg c r1 σ' → Away vs σ σ' → Q σ' H
  | none => False
def rdGs (vs : List Nat) (t : GTs) : TGs := fun us σ H Q => ∃ r B c ss, c.H = H ∧ Hold K mg c B ∧ RE K mg c r σ ∧ Paired (RS K mg c) ss us ∧ match t ss r with
  | some r1 => ∀ σ', RE K mg c r1 σ' → Away vs σ σ' → Q σ' H
  | none => False
end
section
variable {K : PySem.W.Frag} {mg : Str → Option Value} {c : Cf}
theorem asT_ok {s : S} {v : V} {ss : List S} (h : RS K mg c s v) (e : asT s = some ss) : ∃ a vs, v = .ref a ∧ SqT K c.G a vs ∧ Paired (RS K mg c) ss vs := by
  unfold asT at e
  cases s with
  | dat d =>
    cases d with
    | tuple ds =>
      cases e
      have h : Dq K c.G v (.tuple ds) := h
      cases h with
      | tup h1 h2 => exact ⟨_, _, rfl, h1, all_dats h2⟩
    | _ => cases e
  | ref k => cases e
  | _ => cases e
end
section
variable {X : Cx} {W : WX} {pos : Pos} {e : Expr} {es : List Expr} {g g2 : GE} {st : Stmt} {rest b1 b2 : List Stmt} {s1 s2 : GS}
theorem s_nil : PSs X [] (rdS X.K X.mg W sPass) := PSs_le pss_nil fun D σ H h => by
  obtain ⟨r, B, c, rfl, hd, hr, h⟩ := h
  exact h c σ (Step.refl c) hd hr
theorem s_pass : PS X (.Pass pos) (rdS X.K X.mg W sPass) := PS_le ps_pass fun D σ H h => by
  obtain ⟨r, B, c, rfl, hd, hr, h⟩ := h
  exact h c σ (Step.refl c) hd hr
theorem s_brk : PS X (.Break pos) (rdS X.K X.mg W sBrk) := PS_le ps_break fun D σ H h => by
  obtain ⟨r, B, c, rfl, hd, hr, h⟩ := h
  exact h c σ (Step.refl c) hd hr
theorem s_ct : PS X (.Continue pos) (rdS X.K X.mg W sCt) := PS_le ps_continue fun D σ H h => by
  obtain ⟨r, B, c, rfl, hd, hr, h⟩ := h
  exact h c σ (Step.refl c) hd hr
theorem s_one (h : PS X st (rdS X.K X.mg W s1)) : PSs X [st] (rdS X.K X.mg W s1) := pss_one h
theorem s_cons (h1 : PS X st (rdS X.K X.mg W s1)) (h2 : PSs X rest (rdS X.K X.mg W s2)) : PSs X (st :: rest) (rdS X.K X.mg W (sSeq s1 s2)) := by
  refine PSs_le (pss_cons h1 h2) fun D σ H h => ?_
  obtain ⟨r, B, c, rfl, hd, hr, h⟩ := h
  refine ⟨r, B, c, rfl, hd, hr, ?_⟩
  unfold sSeq at h
  cases e : s1 r B with
  | nx r1 B1 => rw [e] at h; exact fun c' σ' st hd' hr' => ⟨r1, B1, c', rfl, hd', hr', FinS.step st h⟩
  | ret s B1 => rw [e] at h; exact h
  | brk r1 B1 => rw [e] at h; exact h
  | ct r1 B1 => rw [e] at h; exact h
  | exc x fs r1 B1 => rw [e] at h; exact h
  | bad => rw [e] at h; exact h
theorem s_expr (he : PE X e (rdE X.K X.mg W g)) (hs : swapsWith e none pos.line X.env = pure false) : PS X (.Expr e pos) (rdS X.K X.mg W (sDrop g)) := by
  refine PS_le (ps_expr he hs) fun D σ H h => ?_
  obtain ⟨r, B, c, rfl, hd, hr, h⟩ := h
  refine ⟨r, B, c, rfl, hd, hr, ?_⟩
  unfold sDrop at h
  cases e : g r B with
  | ok s B1 => rw [e] at h; exact fun c' v st hd' hs => h c' σ st hd' (hr.mono st)
  | exc x fs B1 => rw [e] at h; exact fun c' C d ws st hd' => h c' σ C d ws st hd' (hr.mono st)
  | bad => rw [e] at h; exact h
theorem s_ret (he : PE X e (rdE X.K X.mg W g)) : PS X (.Return (some e) pos) (rdS X.K X.mg W (sRet g)) := by
  refine PS_le (ps_ret he) fun D σ H h => ?_
  obtain ⟨r, B, c, rfl, hd, hr, h⟩ := h
  refine ⟨r, B, c, rfl, hd, hr, ?_⟩
  unfold sRet at h
  cases e : g r B with
  | ok s B1 => rw [e] at h; exact fun c' v st hd' hs => h c' v st hd' hs
  | exc x fs B1 => rw [e] at h; exact fun c' C d ws st hd' => h c' σ C d ws st hd' (hr.mono st)
  | bad => rw [e] at h; exact h
theorem s_if {t : Expr} (ht : PT X t (rdT X.K X.mg W g)) (h1 : PSs X b1 (rdS X.K X.mg W s1)) (h2 : PSs X b2 (rdS X.K X.mg W s2)) : PS X (.If t b1 b2 pos) (rdS X.K X.mg W (sIf g s1 s2)) := by
  refine PS_le (ps_if ht h1 h2) fun D σ H h => ?_
  obtain ⟨r, B, c, rfl, hd, hr, h⟩ := h
  refine ⟨r, B, c, rfl, hd, hr, ?_⟩
  unfold sIf at h
  cases e : g r B with
  | ok s B1 =>
    rw [e] at h
    cases s with
    | dat d =>
      cases d with
      | bool b =>
        cases b with
        | true => exact fun c' st hd' => iteT ⟨r, B1, c', rfl, hd', hr.mono st, FinS.step st h⟩
        | false => exact fun c' st hd' => iteF ⟨r, B1, c', rfl, hd', hr.mono st, FinS.step st h⟩
      | _ => exact h.elim
    | ref k => exact h.elim
    | _ => exact h.elim
  | exc x fs B1 => rw [e] at h; exact fun c' C d ws st hd' => h c' σ C d ws st hd' (hr.mono st)
  | bad => rw [e] at h; exact h.elim
/-! targets -/
theorem g_name {i : Nat} {x : Str} (hN : X.N.Nodup) (hi : X.N[i]? = some x) (hx : Loc X.env.scope x) (hf : X.fn x = true ∨ X.env.scope.names.lookup x = some .local) : PG X (.Name x pos) (rdG X.K X.mg [i] (tName i)) := by
  have h := pg_name (X := X) (pos := pos) hN hi hx hf
  refine ⟨fun v u pins s σ H Q I r q => h.run v u pins s σ H Q I r ?_⟩
  obtain ⟨ρ, B, c, t, rfl, hd, hr, hs, h⟩ := q
  exact h _ (hr.set i hs) ⟨by rw [List.length_set], fun j n => List.getElem?_set_ne (fun e => n (by rw [e]; exact List.mem_singleton_self _))⟩
end
end PN

set_option maxRecDepth 100000
set_option maxHeartbeats 4000000
/-! PN, fourth part: targets of tuples, loops, comprehensions, defs. -/
namespace PN
open PySem L2
section
variable {X : Cx} {W : WX} {pos : Pos} {e : Expr} {es : List Expr} {vs ws : List Nat} {t : GT} {u : GTs}
theorem gs_nil : PGs X [] (rdGs X.K X.mg [] tsNil) := by
  refine ⟨fun pins s σ H us us' Q I r q => pgs_nil.run pins s σ H us us' Q I r ?_⟩
  obtain ⟨ρ, B, c, ss, rfl, hd, hr, hs, h⟩ := q
  cases hs with
  | nil => exact ⟨rfl, h σ hr ⟨rfl, fun _ _ => rfl⟩⟩
  | cons a b => exact h.elim
theorem gs_cons (h1 : PG X e (rdG X.K X.mg vs t)) (h2 : PGs X es (rdGs X.K X.mg ws u))
    (hs : (assignEach (e :: es) X.env).map (·.2) = assign e X.env :: (assignEach es X.env).map (·.2)) : PGs X (e :: es) (rdGs X.K X.mg (vs ++ ws) (tsCons t u)) := by
  refine ⟨fun pins s σ H us us' Q I r q => (pgs_cons h1 h2 hs).run pins s σ H us us' Q I r ?_⟩
  obtain ⟨ρ, B, c, ss, rfl, hd, hr, hs, h⟩ := q
  cases hs with
  | nil => exact h.elim
  | cons a b =>
    rename_i s0 v0 ss0 vs0
    refine ⟨v0, vs0, rfl, ρ, B, c, s0, rfl, hd, hr, a, ?_⟩
    unfold tsCons at h
    dsimp only at h
    cases e : t s0 ρ with
    | none => rw [e] at h; exact h.elim
    | some r1 =>
      rw [e] at h
      dsimp only at h
      intro σ1 hr1 aw1
      refine ⟨r1, B, c, ss0, rfl, hd, hr1, b, ?_⟩
      have h : match u ss0 r1 with
        | some r1 => ∀ (σ' : St), RE X.K X.mg c r1 σ' → Away (vs ++ ws) σ σ' → Q σ' c.H
        | none => False := h
      cases e2 : u ss0 r1 with
      | none => rw [e2] at h; exact h.elim
      | some r2 => rw [e2] at h; exact fun σ2 hr2 aw2 => h σ2 hr2 (aw1.trans aw2)
theorem g_tup {k n : Nat} (hc : X.calm = true) (h : PGs X es (rdGs X.K X.mg vs u)) (hn : (assignEach es X.env).length = n) (hst : (assignEach es X.env).findIdx? (·.1) = none) :
    PG X (.Tuple es k pos) (rdG X.K X.mg vs (tTupT n u)) := by
  refine ⟨fun pins s σ H v w Q I r q => (pg_tup hc h hn hst).run pins s σ H v w Q I r ?_⟩
  obtain ⟨ρ, B, c, s0, rfl, hd, hr, hs, h⟩ := q
  unfold tTupT at h
  cases e : asT s0 with
  | none => rw [e] at h; exact h.elim
  | some ss =>
    rw [e] at h
    obtain ⟨a, xs, e1, h1, h2⟩ := asT_ok hs e
    subst e1
    by_cases hl : ss.length = n
    · have h : match (if ss.length = n then u ss ρ else none) with
        | some r1 => ∀ (σ' : St), RE X.K X.mg c r1 σ' → Away vs σ σ' → Q σ' c.H
        | none => False := h
      rw [if_pos hl] at h
      exact ⟨a, xs, rfl, same_t hd.gh h1, by rw [← paired_len h2]; exact hl, ρ, B, c, ss, rfl, hd, hr, h2, h⟩
    · have h : match (if ss.length = n then u ss ρ else none) with
        | some r1 => ∀ (σ' : St), RE X.K X.mg c r1 σ' → Away vs σ σ' → Q σ' c.H
        | none => False := h
      rw [if_neg hl] at h
      exact h.elim
theorem s_asg {tg : Expr} {g : GE} (he : PE X e (rdE X.K X.mg W g)) (hg : PG X tg (rdG X.K X.mg vs t)) (hs : swapsWithSole [tg] e pos.line X.env = pure false) (hw : swappedStores [tg] e X.env = pure none) (h1 : (assignEach [tg] X.env).map (·.2) = [assign tg X.env]) : PS X (.Assign [tg] e pos) (rdS X.K X.mg W (sAsg g t)) := by
  refine PS_le (ps_asg he hg hs hw h1) fun D σ H h => ?_
  obtain ⟨r, B, c, rfl, hd, hr, h⟩ := h
  refine ⟨r, B, c, rfl, hd, hr, ?_⟩
  unfold sAsg at h
  cases e : g r B with
  | ok s B1 =>
    rw [e] at h
    intro c' v st hd' hs
    refine ⟨r, B1, c', s, rfl, hd', hr.mono st, hs, ?_⟩
    have h : FinS X.K X.mg W c D (match t s r with | some r1 => .nx r1 B1 | none => .bad) := h
    cases e2 : t s r with
    | none => rw [e2] at h; exact h.elim
    | some r1 => rw [e2] at h; exact fun σ' hr' aw => h c' σ' st hd' hr'
  | exc x fs B1 => rw [e] at h; exact fun c' C d ws st hd' => h c' σ C d ws st hd' (hr.mono st)
  | bad => rw [e] at h; exact h
end
/-! ### what is walked -/
inductive Ri where
  | ok (its : List S) (chk : Bs → Prop) (B : Bs)
  | exc (c : Str) (fs : List (Str × S)) (B : Bs)
  | bad
abbrev GI := En → Bs → Ri
section
variable (K : PySem.W.Frag) (mg : Str → Option Value)
structure ItOk (J : It) (its : List S) (chk : Bs → Prop) (c0 : Cf) : Prop where
  go : ∀ (i : Nat) (c : Cf) (B : Bs), Step c0 c → Hold K mg c B → chk B → i < its.length → J.go i c.H
  stop : ∀ (i : Nat) (c : Cf) (B : Bs), Step c0 c → Hold K mg c B → chk B → its.length ≤ i → J.stop i c.H
  yld : ∀ (i : Nat) (c : Cf) (B : Bs) (x : V) (H' : Hp) (s : S), Step c0 c → Hold K mg c B → chk B → its[i]? = some s → J.yld i c.H x H' → ∃ c', c'.H = H' ∧ Step c c' ∧ Hold K mg c' B ∧ RS K mg c' s x
def FinI (W : WX) (c : Cf) (σ : St) (R : It → Hp → Prop) : Ri → Prop
  | .ok its chk B => ∀ c' J, Step c c' → Hold K mg c' B → ItOk K mg J its chk c' → R J c'.H
  | .exc x fs B => ∀ c' C d ws, Step c c' → Hold K mg c' B → mg x = some (.ref C) → c'.G d = some (.xd ws) → RF K mg c' fs ws → W (.ref C) (some d) σ c'.H
  | .bad => False
def rdI (W : WX) (g : GI) : TI := fun σ H R => ∃ r B c, c.H = H ∧ Hold K mg c B ∧ RE K mg c r σ ∧ FinI K mg W c σ R (g r B)
end
/-! ### for -/
open Classical in
noncomputable def forL (chk : Bs → Prop) (t : GT) (body : GS) : List S → GS
  | [], r, B => if chk B then .nx r B else .bad
  | x :: xs, r, B => if chk B then (match t x r with
    | none => .bad
    | some r1 => match body r1 B with
      | .nx r2 B2 => forL chk t body xs r2 B2
      | .ct r2 B2 => forL chk t body xs r2 B2
      | .brk r2 B2 => .nx r2 B2
      | e => e) else .bad
noncomputable def sFor (gi : GI) (t : GT) (body : GS) : GS := fun r B => match gi r B with
  | .ok its chk B1 => forL chk t body its r B1
  | .exc x fs B1 => .exc x fs r B1
  | .bad => .bad
section
variable {X : Cx} {W : WX} {pos : Pos} {tg iter : Expr} {body : List Stmt} {vs : List Nat} {t : GT} {gi : GI} {gb : GS}
theorem s_for (hp : PassesOwn (model X.prog X.w) X.A X.env X.xe) (hc : X.calm = true) (hi : PI X tg iter (rdI X.K X.mg W gi)) (hg : PG X tg (rdG X.K X.mg vs t)) (hb : PSs X body (rdS X.K X.mg W gb))
    (hs : ∀ x, foldedSetIterable iter X.env x = pure x) : PS X (.For tg iter body [] pos) (rdS X.K X.mg W (sFor gi t gb)) := by
  refine PS_le (ps_for hp hc hi hg hb hs) fun D σ H h => ?_
  obtain ⟨r, B, c, rfl, hd, hr, h⟩ := h
  refine ⟨r, B, c, rfl, hd, hr, ?_⟩
  unfold sFor at h
  cases e : gi r B with
  | exc x fs B1 => rw [e] at h; exact fun c' C d ws st hd' => h c' σ C d ws st hd' (hr.mono st)
  | bad => rw [e] at h; exact h.elim
  | ok its chk B1 =>
    rw [e] at h
    intro c0 J st0 hd0 ok
    have h : FinS X.K X.mg W c D (forL chk t gb its r B1) := h
    refine ⟨fun i m σ' H' => m = its.length - i ∧ i ≤ its.length ∧ ∃ r' B' c', c'.H = H' ∧ Step c0 c' ∧ Hold X.K X.mg c' B' ∧ RE X.K X.mg c' r' σ' ∧ FinS X.K X.mg W c' D (forL chk t gb (its.drop i) r' B'),
      ⟨its.length, by omega, by omega, r, B1, c0, rfl, Step.refl _, hd0, hr.mono st0, FinS.step st0 h⟩, ?_⟩
    rintro i m σ1 H1 ⟨rfl, hi, r1, B1', c1, rfl, st1, hd1, hr1, h1⟩
    by_cases hlt : i < its.length
    · right
      have ed : its.drop i = its[i] :: its.drop (i + 1) := List.drop_eq_getElem_cons hlt
      rw [ed] at h1
      unfold forL at h1
      by_cases hk : chk B1'
      · rw [if_pos hk] at h1
        refine ⟨ok.go i c1 B1' st1 hd1 hk hlt, fun σ' H' => ∃ r' B' c', c'.H = H' ∧ Step c0 c' ∧ Hold X.K X.mg c' B' ∧ RE X.K X.mg c' r' σ' ∧ FinS X.K X.mg W c' D (forL chk t gb (its.drop (i + 1)) r' B'), fun σ' H' q => ⟨its.length - (i + 1), by omega, rfl, by omega, q⟩, fun x H' y => ?_⟩
        obtain ⟨c2, e2, st2, hd2, hs2⟩ := ok.yld i c1 B1' x H' its[i] st1 hd1 hk (by rw [List.getElem?_eq_getElem hlt]) y
        subst e2
        refine ⟨r1, B1', c2, its[i], rfl, hd2, hr1.mono st2, hs2, ?_⟩
        cases et : t its[i] r1 with
        | none => rw [et] at h1; exact h1.elim
        | some r2 =>
          rw [et] at h1
          intro σ2 hr2 aw
          refine ⟨r2, B1', c2, rfl, hd2, hr2, ?_⟩
          have h1 := FinS.step st2 h1
          dsimp only at h1
          cases eb : gb r2 B1' with
          | nx r3 B3 => rw [eb] at h1; exact fun c3 σ3 st3 hd3 hr3 => ⟨r3, B3, c3, rfl, (st1.trans st2).trans st3, hd3, hr3, FinS.step st3 h1⟩
          | ct r3 B3 => rw [eb] at h1; exact fun c3 σ3 st3 hd3 hr3 => ⟨r3, B3, c3, rfl, (st1.trans st2).trans st3, hd3, hr3, FinS.step st3 h1⟩
          | brk r3 B3 => rw [eb] at h1; exact fun c3 σ3 st3 hd3 hr3 => h1 c3 σ3 st3 hd3 hr3
          | ret s B3 => rw [eb] at h1; exact fun c3 v st3 hd3 hs3 => h1 c3 v st3 hd3 hs3
          | exc x fs r3 B3 => rw [eb] at h1; exact fun c3 σ3 C d ws st3 hd3 hr3 => h1 c3 σ3 C d ws st3 hd3 hr3
          | bad => rw [eb] at h1; exact h1.elim
      · rw [if_neg hk] at h1; exact h1.elim
    · left
      have ed : its.drop i = [] := List.drop_eq_nil_of_le (by omega)
      rw [ed] at h1
      unfold forL at h1
      by_cases hk : chk B1'
      · rw [if_pos hk] at h1
        exact ⟨ok.stop i c1 B1' st1 hd1 hk (by omega), h1 c1 σ1 (Step.refl _) hd1 hr1⟩
      · rw [if_neg hk] at h1; exact h1.elim
end
/-! ### while -/
def whileL (t : GE) (body : GS) : Nat → GS
  | 0, _, _ => .bad
  | n + 1, r, B => match t r B with
    | .ok (.dat (.bool true)) B1 => (match body r B1 with
      | .nx r2 B2 => whileL t body n r2 B2
      | .ct r2 B2 => whileL t body n r2 B2
      | .brk r2 B2 => .nx r2 B2
      | e => e)
    | .ok (.dat (.bool false)) B1 => .nx r B1
    | .exc x fs B1 => .exc x fs r B1
    | _ => .bad
/-! a while that ends within some number of turns -/
open Classical in
noncomputable def sWhile (t : GE) (body : GS) : GS := fun r B => if h : ∃ n, whileL t body n r B ≠ .bad then whileL t body h.choose r B else .bad
section
variable {X : Cx} {W : WX} {pos : Pos} {t : Expr} {body : List Stmt} {gt : GE} {gb : GS}
theorem s_while (hp : PassesOwn (model X.prog X.w) X.A X.env X.xe) (hc : PT X t (rdT X.K X.mg W gt)) (hb : PSs X body (rdS X.K X.mg W gb)) : PS X (.While t body [] pos) (rdS X.K X.mg W (sWhile gt gb)) := by
  refine PS_le (ps_while hp hc hb) fun D σ H h => ?_
  obtain ⟨r, B, c, rfl, hd, hr, h⟩ := h
  unfold sWhile at h
  split at h
  case isFalse => exact h.elim
  case isTrue hx =>
  generalize hx.choose = n0 at h
  refine ⟨fun m σ' H' => ∃ r' B' c', c'.H = H' ∧ Hold X.K X.mg c' B' ∧ RE X.K X.mg c' r' σ' ∧ FinS X.K X.mg W c' D (whileL gt gb m r' B'), ⟨n0, r, B, c, rfl, hd, hr, h⟩, ?_⟩
  rintro m σ1 H1 ⟨r1, B1, c1, rfl, hd1, hr1, h1⟩
  cases m with
  | zero => exact h1.elim
  | succ m =>
    refine ⟨r1, B1, c1, rfl, hd1, hr1, ?_⟩
    unfold whileL at h1
    cases e : gt r1 B1 with
    | exc x fs B2 => rw [e] at h1; exact fun c' C d ws st hd' => h1 c' σ1 C d ws st hd' (hr1.mono st)
    | bad => rw [e] at h1; exact h1.elim
    | ok s B2 =>
      rw [e] at h1
      cases s with
      | ref k => exact h1.elim
      | fn x => exact h1.elim
      | scr x => exact h1.elim
      | dat d =>
        cases d with
        | bool b =>
          cases b with
          | false => exact fun c' st hd' => iteF (h1 c' σ1 st hd' (hr1.mono st))
          | true =>
            intro c2 st2 hd2
            refine iteT ⟨fun σ' H' => ∃ r' B' c', c'.H = H' ∧ Hold X.K X.mg c' B' ∧ RE X.K X.mg c' r' σ' ∧ FinS X.K X.mg W c' D (whileL gt gb m r' B'), fun σ' H' q => ⟨m, by omega, q⟩, ?_⟩
            refine ⟨r1, B2, c2, rfl, hd2, hr1.mono st2, ?_⟩
            have h1 := FinS.step st2 h1
            dsimp only at h1
            cases eb : gb r1 B2 with
            | nx r3 B3 => rw [eb] at h1; exact fun c3 σ3 st3 hd3 hr3 => ⟨r3, B3, c3, rfl, hd3, hr3, FinS.step st3 h1⟩
            | ct r3 B3 => rw [eb] at h1; exact fun c3 σ3 st3 hd3 hr3 => ⟨r3, B3, c3, rfl, hd3, hr3, FinS.step st3 h1⟩
            | brk r3 B3 => rw [eb] at h1; exact fun c3 σ3 st3 hd3 hr3 => h1 c3 σ3 st3 hd3 hr3
            | ret s B3 => rw [eb] at h1; exact fun c3 v st3 hd3 hs3 => h1 c3 v st3 hd3 hs3
            | exc x fs r3 B3 => rw [eb] at h1; exact fun c3 σ3 C d ws st3 hd3 hr3 => h1 c3 σ3 C d ws st3 hd3 hr3
            | bad => rw [eb] at h1; exact h1.elim
        | _ => exact h1.elim
end
/-! ### comprehensions -/
def wipeE (r : En) : List Nat → En
  | [] => r
  | v :: vs => (wipeE r vs).set v none
def gYes : GE := fun _ B => .ok (.dat (.bool true)) B
open Classical in
noncomputable def lcL (chk : Bs → Prop) (t : GT) (gt ge : GE) (r : En) : List S → List S → Bs → Ra
  | [], acc, B => if chk B then .ok acc B else .bad
  | x :: xs, acc, B => if chk B then (match t x r with
    | none => .bad
    | some r1 => match gt r1 B with
      | .ok (.dat (.bool true)) B1 => (match ge r1 B1 with
        | .ok s B2 => lcL chk t gt ge r xs (acc ++ [s]) B2
        | _ => .bad)
      | .ok (.dat (.bool false)) B1 => lcL chk t gt ge r xs acc B1
      | _ => .bad) else .bad
noncomputable def gLcA (own : List Nat) (gi : GI) (t : GT) (gt ge : GE) : GA := fun r B => match gi r B with
  | .ok its chk B1 => if its.length < sizeLine then lcL chk t gt ge (wipeE r own) its [] B1 else .bad
  | _ => .bad
section
variable {K : PySem.W.Frag} {mg : Str → Option Value} {c : Cf}
theorem RE.wipe {r : En} {σ : St} (h : RE K mg c r σ) : ∀ vs : List Nat, RE K mg c (wipeE r vs) (wipe σ vs)
  | [] => h
  | v :: vs => (h.wipe vs).clr v none
theorem away_wipe {σ σ' : St} : ∀ {vs : List Nat}, σ'.length = σ.length → (∀ i, i ∉ vs → σ'[i]? = σ[i]?) → L2.wipe σ' vs = L2.wipe σ vs := by
  have key : ∀ (vs : List Nat) (τ : St) (i : Nat), (L2.wipe τ vs)[i]? = if i ∈ vs then (τ[i]?).map (fun _ => none) else τ[i]? := by
    intro vs
    induction vs with
    | nil => intro τ i; simp [L2.wipe]
    | cons v vs ih =>
      intro τ i
      show ((L2.wipe τ vs).set v none)[i]? = _
      by_cases h : v = i
      · subst h
        rw [if_pos List.mem_cons_self, List.getElem?_set_self']
        have := ih τ v
        rw [this]
        split
        · cases τ[v]? <;> rfl
        · cases τ[v]? <;> rfl
      · rw [List.getElem?_set_ne h, ih τ i]
        by_cases hm : i ∈ vs
        · rw [if_pos hm, if_pos (List.mem_cons_of_mem _ hm)]
        · rw [if_neg hm, if_neg (fun q => by rcases List.mem_cons.mp q with q | q; exact h q.symm; exact hm q)]
  intro vs hl h
  apply List.ext_getElem?
  intro i
  rw [key, key]
  by_cases hm : i ∈ vs
  · rw [if_pos hm, if_pos hm]
    by_cases hi : i < σ.length
    · rw [List.getElem?_eq_getElem hi, List.getElem?_eq_getElem (by rw [hl]; exact hi)]; rfl
    · rw [List.getElem?_eq_none (by omega), List.getElem?_eq_none (by omega)]
  · rw [if_neg hm, if_neg hm]; exact h i hm
end
section
variable {X : Cx} {W : WX} {pos : Pos} {elt tg iter : Expr} {ifs : List Expr} {scope : Scope} {own : List (Str × Nat)} {vs : List Nat} {t : GT} {gi : GI} {gt ge : GE}
abbrev W0 : WX := fun _ _ _ _ => False
theorem wipe_out {σ : St} : ∀ {vs : List Nat} {i : Nat}, i ∉ vs → (L2.wipe σ vs)[i]? = σ[i]?
  | [], _, _ => rfl
  | v :: vs, i, h => by
    show ((L2.wipe σ vs).set v none)[i]? = _
    rw [List.getElem?_set_ne (fun e => h (by rw [e]; exact List.mem_cons_self))]
    exact wipe_out fun m => h (List.mem_cons_of_mem _ m)
theorem own_step {c0 c : Cf} {D : Addr} {o : HO} (hD : c0.H D = none) (s : Step c0 c) : Step c0 ⟨c.al, c.G, upd c.H D o⟩ where
  al := s.al
  g := s.g
  h := fun b u e n => by
    show upd c.H D o b = some u
    rw [upd_ne (ne_of_none e hD)]
    exact s.h b u e n
  new := s.new
  fr := s.fr
theorem RS.heap {K : PySem.W.Frag} {mg : Str → Option Value} {c : Cf} {H' : Hp} {s : S} {v : V} (h : RS K mg c s v) : RS K mg ⟨c.al, c.G, H'⟩ s v := by
  cases s <;> exact h
theorem RSs.heap {K : PySem.W.Frag} {mg : Str → Option Value} {c : Cf} {H' : Hp} {ss : List S} {vs : List V} (h : Paired (RS K mg c) ss vs) : Paired (RS K mg ⟨c.al, c.G, H'⟩) ss vs := paired_mono (fun _ _ => RS.heap) h
def lcEnd : Ra → Re
  | .ok s B1 => liftP (pLst s B1)
  | .exc x fs B1 => .exc x fs B1
  | .bad => .bad
theorem gPN_end {g : GA} {r : En} {B : Bs} : gPN pLst g r B = lcEnd (g r B) := by
  unfold gPN gBindA lcEnd
  cases g r B <;> rfl
theorem RO.gen {K : PySem.W.Frag} {mg : Str → Option Value} {c : Cf} {G' H' : Hp} (g : Same c.G G') {o : MO} {u : HO} (h : RO K mg c o u) : RO K mg ⟨c.al, G', H'⟩ o u := by
  have k : ∀ (s : S) (v : V), RS K mg c s v → RS K mg ⟨c.al, G', H'⟩ s v := fun s v h => by
    cases s with
    | dat d => exact dp_mono g d v h
    | ref k => exact h
    | fn x => exact h
    | scr ns => exact h.imp fun a q => ⟨same_l g q.1, q.2⟩
  cases o with
  | lst ss => cases u <;> first | exact paired_mono k h | exact h.elim
  | dK kvs => cases u <;> first | exact paired_mono (fun _ _ q => ⟨q.1, k _ _ q.2⟩) h | exact h.elim
  | dT kvs => cases u <;> first | exact paired_mono (fun _ _ q => ⟨q.1, k _ _ q.2⟩) h | exact h.elim
  | ins x fs => cases u <;> first | exact ⟨h.1, paired_mono (fun _ _ q => ⟨q.1, k _ _ q.2⟩) h.2⟩ | exact h.elim
/-- a list that is full grown -/
theorem grown_lst {K : PySem.W.Frag} {mg : Str → Option Value} {c0 c : Cf} {B : Bs} {ds : List PyData} {vs : List V} (hd : Hold K mg c B) (h : DqAll K c.G vs ds) {D : Addr} (st : Step c0 c) (h0 : c0.H D = none) (n0 : D ∉ c.al) (g0 : c.G D = none) (hD : c.H D = some (.lst vs)) {Q : VK}
    (q : ∀ c' v, Step c0 c' → Hold K mg c' B → RS K mg c' (.dat (.list ds)) v → Q v c'.H) : Q (.ref D) c.H := by
  refine q ⟨c.al, upd c.G D (.lst vs), c.H⟩ (.ref D) ⟨st.al, fun b u e => ?_, st.h, st.new, fun b g1 h1 n1 => ?_⟩ ⟨hd.len, fun b u e => ?_, hd.nd, hd.tr, fun k o e => ?_⟩ (.lst upd_same (dpAll_mono (fun b u e => ?_) ds vs h))
  · show upd c.G D (.lst vs) b = some u
    have e1 := st.g b u e
    rw [upd_ne (ne_of_none e1 g0)]
    exact e1
  · show upd c.G D (.lst vs) b = none
    rw [upd_ne (show b ≠ D from fun z => h1 (by rw [z]; exact h0))]
    exact st.fr b g1 h1 n1
  · have e : upd c.G D (.lst vs) b = some u := e
    show c.H b = some u
    by_cases z : b = D
    · subst z; rw [upd_same] at e; rw [hD]; exact e
    · rw [upd_ne z] at e; exact hd.gh b u e
  · obtain ⟨a, ho, h1, h2, h3, h4⟩ := hd.ob k o e
    have ne : a ≠ D := fun z => n0 (by rw [← z]; exact List.mem_of_getElem? h1)
    refine ⟨a, ho, h1, by show upd c.G D (.lst vs) a = none; rw [upd_ne ne]; exact h2, h3, RO.gen (fun b u e => ?_) h4⟩
    show upd c.G D (.lst vs) b = some u
    rw [upd_ne (ne_of_none e g0)]; exact e
  · show upd c.G D (.lst vs) b = some u
    rw [upd_ne (ne_of_none e g0)]
    exact e
/-- the reading of a comprehension -/
theorem lc_rd {σ : St} {H : Hp} {Q : VK} (hv : ∀ i, i ∈ vs → i ∈ own.map (·.2)) (h : rdE X.K X.mg W (gPN pLst (gLcA (own.map (·.2)) gi t gt ge)) σ H Q) :
    tLc (rdI X.K X.mg W gi) (rdG X.K X.mg vs t) (rdT X.K X.mg W0 gt) (rdE X.K X.mg W0 ge) (own.map (·.2)) σ H Q := by
  generalize own.map (·.2) = ow at hv h ⊢
  obtain ⟨r, B, c, rfl, hd, hr, h⟩ := h
  refine ⟨r, B, c, rfl, hd, hr, ?_⟩
  rw [gPN_end] at h
  unfold gLcA at h
  cases e : gi r B with
  | exc x fs B1 => rw [e] at h; exact h.elim
  | bad => rw [e] at h; exact h.elim
  | ok its chk B1 =>
    rw [e] at h
    dsimp only at h
    by_cases hz : its.length < sizeLine
    case neg => rw [if_neg hz] at h; exact h.elim
    rw [if_pos hz] at h
    intro c0 J st0 hd0 ok D hD
    obtain ⟨gD, nD⟩ := hd0.free hD
    have h0 := Fin.step st0 h
    refine ⟨fun i m H' => m = its.length - i ∧ i ≤ its.length ∧ ∃ B' c' acc vcc, c'.H = H' ∧ Step c0 c' ∧ D ∉ c'.al ∧ c'.G D = none ∧ c'.H D = some (.lst vcc) ∧ Paired (RS X.K X.mg c') acc vcc ∧ acc.length ≤ i ∧ Hold X.K X.mg c' B' ∧
        Fin X.K X.mg W c0 σ Q (lcEnd (lcL chk t gt ge (wipeE r ow) (its.drop i) acc B')),
      ⟨its.length, by omega, by omega, B1, ⟨c0.al, c0.G, upd c0.H D (.lst [])⟩, [], [], rfl, bare_step nD hD, nD, gD, upd_same, .nil, Nat.le_refl _, bare_hold hd0 nD gD, h0⟩, ?_⟩
    rintro i m H1 ⟨rfl, hi, B', c1, acc, vcc, rfl, st1, nD1, gD1, hD1, pa, la, hd1, h1⟩
    by_cases hlt : i < its.length
    · right
      have ed : its.drop i = its[i] :: its.drop (i + 1) := List.drop_eq_getElem_cons hlt
      rw [ed] at h1
      unfold lcL at h1
      by_cases hk : chk B'
      case neg => rw [if_neg hk] at h1; exact h1.elim
      rw [if_pos hk] at h1
      refine ⟨ok.go i c1 B' st1 hd1 hk hlt, fun H' => ∃ B' c' acc vcc, c'.H = H' ∧ Step c0 c' ∧ D ∉ c'.al ∧ c'.G D = none ∧ c'.H D = some (.lst vcc) ∧ Paired (RS X.K X.mg c') acc vcc ∧ acc.length ≤ i + 1 ∧ Hold X.K X.mg c' B' ∧
        Fin X.K X.mg W c0 σ Q (lcEnd (lcL chk t gt ge (wipeE r ow) (its.drop (i + 1)) acc B')), fun H' q => ⟨its.length - (i + 1), by omega, rfl, by omega, q⟩, fun x H' y => ?_⟩
      obtain ⟨c2, e2, st2, hd2, hs2⟩ := ok.yld i c1 B' x H' its[i] st1 hd1 hk (by rw [List.getElem?_eq_getElem hlt]) y
      subst e2
      refine ⟨wipeE r ow, B', c2, its[i], rfl, hd2, ((hr.mono st0).mono (st1.trans st2)).wipe ow, hs2, ?_⟩
      cases et : t its[i] (wipeE r ow) with
      | none => rw [et] at h1; exact h1.elim
      | some r2 =>
        rw [et] at h1
        dsimp only at h1
        intro σ2 hr2 aw
        refine ⟨?_, ?_⟩
        · have q := away_wipe (vs := ow) aw.1 fun i n => aw.2 i fun m => n (hv i m)
          rw [q]
          exact away_wipe (vs := ow) (σ := σ) (by rw [wipe_length]) fun i n => wipe_out n
        refine ⟨r2, B', c2, rfl, hd2, hr2, ?_⟩
        have hD2 : c2.H D = some (.lst vcc) := st2.h D _ hD1 nD1
        have nD2 : D ∉ c2.al := fun m => by
          have := st2.new D m nD1
          rw [hD1] at this; cases this
        have gD2 : c2.G D = none := st2.fr D gD1 (by rw [hD1]; exact fun z => by cases z) nD1
        cases eb : gt r2 B' with
        | exc x fs B3 => rw [eb] at h1; exact h1.elim
        | bad => rw [eb] at h1; exact h1.elim
        | ok s B3 =>
          rw [eb] at h1
          cases s with
          | ref k => exact h1.elim
          | fn x => exact h1.elim
          | scr x => exact h1.elim
          | dat d =>
            cases d with
            | bool b =>
              intro c3 st3 hd3
              have hD3 : c3.H D = some (.lst vcc) := st3.h D _ hD2 nD2
              have nD3 : D ∉ c3.al := fun m => by
                have := st3.new D m nD2
                rw [hD2] at this; cases this
              have gD3 : c3.G D = none := st3.fr D gD2 (by rw [hD2]; exact fun z => by cases z) nD2
              have st03 := (st1.trans st2).trans st3
              cases b with
              | false =>
                dsimp only at h1
                exact iteF ⟨B3, c3, acc, vcc, rfl, st03, nD3, gD3, hD3, RSs.mono (st2.trans st3) pa, by omega, hd3, h1⟩
              | true =>
                dsimp only at h1
                refine iteT ⟨r2, B3, c3, rfl, hd3, hr2.mono st3, ?_⟩
                cases ee : ge r2 B3 with
                | exc x fs B4 => rw [ee] at h1; exact h1.elim
                | bad => rw [ee] at h1; exact h1.elim
                | ok s B4 =>
                  rw [ee] at h1
                  dsimp only at h1
                  intro c4 v st4 hd4 hs4
                  have hD4 : c4.H D = some (.lst vcc) := st4.h D _ hD3 nD3
                  have nD4 : D ∉ c4.al := fun m => by
                    have := st4.new D m nD3
                    rw [hD3] at this; cases this
                  have gD4 : c4.G D = none := st4.fr D gD3 (by rw [hD3]; exact fun z => by cases z) nD3
                  have pa4 := RSs.mono ((st2.trans st3).trans st4) pa
                  have la4 : vcc.length = acc.length := (paired_len pa4).symm
                  exact ⟨vcc, hD4, by omega, B4, ⟨c4.al, c4.G, upd c4.H D (.lst (vcc ++ [v]))⟩, acc ++ [s], vcc ++ [v], rfl, own_step hD (st03.trans st4), nD4, gD4, upd_same, Paired.snoc (RSs.heap pa4) (RS.heap hs4),
                    by rw [List.length_append]; show acc.length + 1 ≤ i + 1; omega, bare_hold hd4 nD4 gD4, h1⟩
            | _ => exact h1.elim
    · left
      have ed : its.drop i = [] := List.drop_eq_nil_of_le (by omega)
      rw [ed] at h1
      unfold lcL at h1
      by_cases hk : chk B'
      case neg => rw [if_neg hk] at h1; exact h1.elim
      rw [if_pos hk] at h1
      refine ⟨ok.stop i c1 B' st1 hd1 hk (by omega), ?_⟩
      have h1 : Fin X.K X.mg W c0 σ Q (liftP (pLst acc B')) := h1
      have h1 := finP_of h1
      unfold pLst at h1
      by_cases hl : acc.length ≤ sizeLine
      case neg => rw [if_neg hl] at h1; exact h1.elim
      rw [if_pos hl] at h1
      cases ed : datsOf acc with
      | none => rw [ed] at h1; exact h1.elim
      | some ds =>
        rw [ed] at h1
        exact grown_lst hd1 (dats_all ed pa) st1 hD nD1 gD1 hD1 h1
theorem r_lc (hc : X.calm = true) (hN : X.N.Nodup) (hi : PI X tg iter (rdI X.K X.mg W gi)) (ok : BlkOk X.N X.env.scope scope own) (hv : ∀ i, i ∈ vs → i ∈ own.map (·.2))
    (hg : ∀ (s : Shared) (H : Hp) (C : Addr) (cl : List (Str × Addr)) (fp : List Addr), PG (X.blk s H scope (compEnvC scope cl C X.env) fp) tg (rdG X.K X.mg vs t)) (ht : ∀ (s : Shared) (H : Hp) (C : Addr) (cl : List (Str × Addr)) (fp : List Addr), PTs (X.blk s H scope (compEnvC scope cl C X.env) fp) ifs (rdT X.K X.mg W0 gt))
    (he : ∀ (s : Shared) (H : Hp) (C : Addr) (cl : List (Str × Addr)) (fp : List Addr), PE (X.blk s H scope (compEnvC scope cl C X.env) fp) elt (rdE X.K X.mg W0 ge)) (hs : ∀ x, foldedSetIterable iter X.env x = pure x) :
    PE X (.ListComp elt [⟨tg, iter, ifs, 0⟩] scope pos) (rdE X.K X.mg W (gPN pLst (gLcA (own.map (·.2)) gi t gt ge))) :=
  PE_le (pe_lc hc hN hi ok hg ht he hs) fun _ _ _ h => lc_rd hv h
/-- name = [..] on one line -/
theorem s_setLc {i : Nat} {y : Str} {py spos : Pos} (hc : X.calm = true) (hN : X.N.Nodup) (hy : X.N[i]? = some y) (hyl : X.env.scope.names.lookup y = some .local)
    (hsw : swapsWith (.ListComp elt [⟨tg, iter, ifs, 0⟩] scope pos) (some (.Name y py)) spos.line X.env = pure true) (hi : PI X tg iter (rdI X.K X.mg W gi)) (ok : BlkOk X.N X.env.scope scope own) (hv : ∀ i, i ∈ vs → i ∈ own.map (·.2))
    (hg : ∀ (s : Shared) (H : Hp) (C : Addr) (cl : List (Str × Addr)) (fp : List Addr), PG (X.blk s H scope (compEnvC scope cl C X.env) fp) tg (rdG X.K X.mg vs t)) (ht : ∀ (s : Shared) (H : Hp) (C : Addr) (cl : List (Str × Addr)) (fp : List Addr), PTs (X.blk s H scope (compEnvC scope cl C X.env) fp) ifs (rdT X.K X.mg W0 gt))
    (he : ∀ (s : Shared) (H : Hp) (C : Addr) (cl : List (Str × Addr)) (fp : List Addr), PE (X.blk s H scope (compEnvC scope cl C X.env) fp) elt (rdE X.K X.mg W0 ge)) (hs : ∀ x, foldedSetIterable iter X.env x = pure x) :
    PS X (.Assign [.Name y py] (.ListComp elt [⟨tg, iter, ifs, 0⟩] scope pos) spos) (rdS X.K X.mg W (sAsg (gPN pLst (gLcA (own.map (·.2)) gi t gt ge)) (tName i))) := by
  refine PS_le (ps_setLc hc hN hy hyl hsw hi ok hg ht he hs) fun D σ H h => ?_
  show tLc _ _ _ _ _ σ H fun x H1 => gName i x σ H1 D.nx
  refine lc_rd hv ?_
  obtain ⟨r, B, c, rfl, hd, hr, h⟩ := h
  refine ⟨r, B, c, rfl, hd, hr, ?_⟩
  unfold sAsg at h
  cases e : gPN pLst (gLcA (own.map (·.2)) gi t gt ge) r B with
  | ok s B1 => rw [e] at h; exact fun c' v st hd' hs => h c' _ st hd' ((hr.mono st).set i hs)
  | exc x fs B1 => rw [e] at h; exact fun c' C d ws st hd' => h c' σ C d ws st hd' (hr.mono st)
  | bad => rw [e] at h; exact h
end
theorem pts0 {X : Cx} : PTs X [] (rdT X.K X.mg W0 gYes) := ⟨fun pins s σ H Q I h => pts_nil.run pins s σ H Q I (by
  obtain ⟨r, B, c, rfl, hd, hr, h⟩ := h
  exact h c (Step.refl c) hd)⟩
theorem pts1 {X : Cx} {e : Expr} {g : GE} (h : PT X e (rdT X.K X.mg W0 g)) : PTs X [e] (rdT X.K X.mg W0 g) := pts_one h
end PN

set_option maxRecDepth 100000
set_option maxHeartbeats 4000000
/-! PN, fifth part: defs and their calls; what is walked. -/
namespace PN
open PySem L2
/-! ### a def -/
def refsS (n : Nat) : S → Prop
  | .ref k => k < n
  | _ => True
def refsO (n : Nat) : MO → Prop
  | .lst ss => ∀ s ∈ ss, refsS n s
  | .dK kvs => ∀ p ∈ kvs, refsS n p.2
  | .dT kvs => ∀ p ∈ kvs, refsS n p.2
  | .ins _ fs => ∀ p ∈ fs, refsS n p.2
/-- places from n on may be forgotten -/
def CutB (n : Nat) (B : Bs) : Prop := ∀ (k : Nat) (o : MO), k < n → B[k]? = some (some o) → refsO n o
open Classical in
noncomputable def endF (n : Nat) (s : S) (B : Bs) : Re := if refsS n s ∧ CutB n B then .ok s (B.take n) else .bad
open Classical in
noncomputable def endX (n : Nat) (x : Str) (fs : List (Str × S)) (B : Bs) : Re := if (∀ p ∈ fs, refsS n p.2) ∧ CutB n B then .exc x fs (B.take n) else .bad
/-- n slots; behind the end its own places are forgotten -/
noncomputable def gFn (n : Nat) (body : GS) : GF := fun ss B => match body (ss.map some ++ List.replicate (n - ss.length) none) B with
  | .nx _ B1 => endF B.length (.dat .none) B1
  | .ret s B1 => endF B.length s B1
  | .exc x fs _ B1 => endX B.length x fs B1
  | _ => .bad
/-- its places stay -/
def gFnK (n : Nat) (body : GS) : GF := fun ss B => match body (ss.map some ++ List.replicate (n - ss.length) none) B with
  | .nx _ B1 => .ok (.dat .none) B1
  | .ret s B1 => .ok s B1
  | .exc x fs _ B1 => .exc x fs B1
  | _ => .bad
section
variable (K : PySem.W.Frag) (mg : Str → Option Value)
def FinF (c : Cf) (Q : VK) (E : XK) : Re → Prop
  | .ok s B => ∀ c' v, Step c c' → Hold K mg c' B → RS K mg c' s v → Q v c'.H
  | .exc x fs B => ∀ c' C d ws, Step c c' → Hold K mg c' B → mg x = some (.ref C) → c'.G d = some (.xd ws) → RF K mg c' fs ws → E (.ref C) (some d) c'.H
  | .bad => False
/-- a def of n parameters that does what m tells -/
def spM (n : Nat) (m : GF) : Sp := fun vs H Q E => ∃ ss B c, c.H = H ∧ ss.length = n ∧ Hold K mg c B ∧ Paired (RS K mg c) ss vs ∧ FinF K mg c Q E (m ss B)
end
section
variable {K : PySem.W.Frag} {mg : Str → Option Value} {c c' : Cf}
theorem RS.cut {n : Nat} {s : S} {v : V} (h : RS K mg c s v) (r : refsS n s) : RS K mg ⟨c.al.take n, c.G, c.H⟩ s v := by
  cases s with
  | dat d => exact h
  | ref k =>
    obtain ⟨a, h1, h2⟩ := h
    exact ⟨a, by show (c.al.take n)[k]? = some a; rw [List.getElem?_take_of_lt r]; exact h1, h2⟩
  | fn x => exact h
  | scr ns => exact h
theorem RSs.cut {n : Nat} : ∀ {ss : List S} {vs : List V}, Paired (RS K mg c) ss vs → (∀ s ∈ ss, refsS n s) → Paired (RS K mg ⟨c.al.take n, c.G, c.H⟩) ss vs
  | _, _, .nil, _ => .nil
  | _, _, .cons h t, r => .cons (RS.cut h (r _ List.mem_cons_self)) (RSs.cut t fun s m => r s (List.mem_cons_of_mem _ m))
theorem RKs.cut {κ : Type} {n : Nat} : ∀ {ss : List (κ × S)} {vs : List (κ × V)}, Paired (fun p q => p.1 = q.1 ∧ RS K mg c p.2 q.2) ss vs → (∀ s ∈ ss, refsS n s.2) → Paired (fun p q => p.1 = q.1 ∧ RS K mg ⟨c.al.take n, c.G, c.H⟩ p.2 q.2) ss vs
  | _, _, .nil, _ => .nil
  | _, _, .cons h t, r => .cons ⟨h.1, RS.cut h.2 (r _ List.mem_cons_self)⟩ (RKs.cut t fun s m => r s (List.mem_cons_of_mem _ m))
theorem RO.cut {n : Nat} {o : MO} {u : HO} (h : RO K mg c o u) (r : refsO n o) : RO K mg ⟨c.al.take n, c.G, c.H⟩ o u := by
  cases o with
  | lst ss => cases u <;> first | exact RSs.cut h r | exact h.elim
  | dK kvs => cases u <;> first | exact RKs.cut h r | exact h.elim
  | dT kvs => cases u <;> first | exact RKs.cut h r | exact h.elim
  | ins x fs => cases u <;> first | exact ⟨h.1, RKs.cut h.2 r⟩ | exact h.elim
theorem cut_al {B B' : Bs} (hd : Hold K mg c B) (st : Step c c') : c'.al.take B.length = c.al := by
  obtain ⟨t, e⟩ := st.al
  rw [e, ← hd.len, List.take_left]
theorem cut_hold {B B' : Bs} (hd : Hold K mg c B) (st : Step c c') (hd' : Hold K mg c' B') (r : CutB B.length B') : Hold K mg ⟨c'.al.take B.length, c'.G, c'.H⟩ (B'.take B.length) := by
  refine ⟨by show (c'.al.take _).length = _; rw [List.length_take, List.length_take, hd'.len], hd'.gh, hd'.nd.sublist (List.take_sublist _ _), fun a m => hd'.tr a (List.mem_of_mem_take m), fun k o e => ?_⟩
  have hk : k < B.length := by
    have := (List.getElem?_eq_some_iff.mp e).1
    rw [List.length_take] at this
    omega
  rw [List.getElem?_take_of_lt hk] at e
  obtain ⟨a, ho, h1, h2, h3, h4⟩ := hd'.ob k o e
  exact ⟨a, ho, by show (c'.al.take _)[k]? = some a; rw [List.getElem?_take_of_lt hk]; exact h1, h2, h3, RO.cut h4 (r k o hk e)⟩
theorem cut_step {B B' : Bs} (hd : Hold K mg c B) (st : Step c c') : Step c ⟨c'.al.take B.length, c'.G, c'.H⟩ := by
  have e := cut_al (B' := B) hd st
  refine ⟨⟨[], by show c'.al.take B.length = _; rw [e, List.append_nil]⟩, st.g, st.h, fun a h n => ?_, st.fr⟩
  have h : a ∈ c'.al.take B.length := h
  rw [e] at h
  exact absurd h n
theorem start_re {ss : List S} {vs : List V} {N : List Str} (h : Paired (RS K mg c) ss vs) : RE K mg c (ss.map some ++ List.replicate (N.length - ss.length) none) (L2.start N vs) := by
  have hl := paired_len h
  unfold L2.start
  refine ⟨by rw [List.length_append, List.length_append, List.length_map, List.length_map, List.length_replicate, List.length_replicate, hl], fun i s e => ?_⟩
  by_cases hi : i < ss.length
  · rw [List.getElem?_append_left (by rw [List.length_map]; exact hi), List.getElem?_map] at e
    cases q : ss[i]? with
    | none => rw [q] at e; cases e
    | some t =>
      rw [q] at e
      cases e
      obtain ⟨v, h1, h2⟩ := paired_get h q
      exact ⟨v, by rw [List.getElem?_append_left (by rw [List.length_map, ← hl]; exact hi), List.getElem?_map, h1]; rfl, h2⟩
  · rw [List.getElem?_append_right (by rw [List.length_map]; omega), List.getElem?_replicate] at e
    split at e <;> cases e
end
/-- a def keeps its promise wherever no repr is going on -/
structure FnG (P : Program) (w : World) (K : PySem.W.Frag) (mg : Str → Option Value) (base : Heap) (k : Nat) (f : Addr) (fd : FuncData) (ps : List Str) (sp : Sp) : Prop where
  len : ∀ vs H Q E, sp vs H Q E → vs.length = ps.length
  run : ∀ (A : Around) (outer : List Env) (s : Shared) (H : Hp) (args : Args) (us : List Value) (vs : List V) (Q : VK) (E : XK),
    A.guards = some [] → Room k A → Env0 P w K mg base A outer s H → BindsTo s fd args (ps.zip us) → Vals vs us → sp vs H Q E →
    codeAny (model P w) A (.call (.ref f) args) (CR (L2.CX P w) outer P w H s Q E) s
theorem FnG.imp {P : Program} {w : World} {K : PySem.W.Frag} {mg : Str → Option Value} {base : Heap} {k : Nat} {f : Addr} {fd : FuncData} {ps : List Str} {sp sp' : Sp}
    (F : FnG P w K mg base k f fd ps sp) (h : ∀ vs H Q E, sp' vs H Q E → sp vs H Q E) : FnG P w K mg base k f fd ps sp' where
  len vs H Q E q := F.len vs H Q E (h vs H Q E q)
  run A outer s H args us vs Q E hg hr he hb hv hs := F.run A outer s H args us vs Q E hg hr he hb hv (h vs H Q E hs)
theorem FnG.mono {P : Program} {w : World} {K : PySem.W.Frag} {mg : Str → Option Value} {base : Heap} {j k : Nat} {f : Addr} {fd : FuncData} {ps : List Str} {sp : Sp}
    (F : FnG P w K mg base j f fd ps sp) (h : j ≤ k) : FnG P w K mg base k f fd ps sp where
  len := F.len
  run A outer s H args us vs Q E hg hr := F.run A outer s H args us vs Q E hg (hr.mono h)
section
variable {P : Program} {w : World} {K : PySem.W.Frag} {mg : Str → Option Value} {base : Heap}
theorem fng_of {x qual : Str} {st : Stmt} {f : Addr} {fd : FuncData} {N ps : List Str} {k : Nat} {sp : Sp} (F : Fun K x qual st f fd) (Sc : FnScope N ps (defScope st)) (len : ∀ vs H Q E, sp vs H Q E → vs.length = ps.length)
    (hb : ∀ (cdv : Value) (A : Around) (outer : List Env) (s : Shared) (H : Hp) (vs : List V) (Q : VK) (E : XK), A.guards = some [] → Room k (A.deeper (PyProof.Rows.envOfC qual (defScope st) s.heap.objs.size f cdv)) → sp vs H Q E →
      ∃ t, PSs (cxOf (L2.CX P w) P w K mg base N qual (defScope st) f cdv A outer s H E) (defBody st) t ∧ t { nx := fun _ H' => Q .non H', rt := Q } (L2.start N vs) H) : FnG P w K mg base (k + 1) f fd ps sp := by
  obtain ⟨oc, od, kV, doc, pm, an, cdv, ct, osl, rfl, lk, hcd⟩ := F.ex
  constructor
  case len => exact len
  case run =>
    intro A outer s H args us vs Q E hg hr e0 hbd r hsp
    have hl : vs.length = ps.length := len vs H Q E hsp
    have hk0 : ∀ b o, base.get? b = some o → s.heap.get? b = some o := fun b o e => (e0.bs b o e).1
    have KX : K.In s.heap := e0.mod.kin.keeps hk0
    have hkinds : ∀ y ∈ ps.zip us, (defScope st).names.lookup y.1 = some .local ∨
        ((defScope st).names.lookup y.1 = some .cell ∧ ((cellsFrom (s.heap.objs.size + 1) (defScope st).names []).lookup y.1).isSome = true) := by
      intro y hy
      rcases Sc.par y.1 (List.of_mem_zip hy).1 with q | q
      · exact Or.inl q
      · exact Or.inr ⟨q, PySem.W.cellsFrom_some _ _ _ (Or.inl q)⟩
    refine codeAny_call_function hr.depth (KX _ _ lk) rfl Sc.co Sc.gen rfl (PySem.W.codeRec_of KX hcd) (hbd _ _ _ _ ?_)
    refine wpAny_newFunctionEnv_cells Sc.kind hkinds fun env he s1 x => ?_
    cases he
    refine ⟨(e0.mod.nolimit.keeps hk0).keeps x.toInCall.keep, codeAny_func ?_⟩
    obtain ⟨t, ht, hq⟩ := hb cdv A outer s H vs Q E hg (hr.deeper _) hsp
    have I := inv_start (CX := L2.CX P w) (E := E) Sc hr.hd e0 hl r x
    refine wpAny_mono (ht.run [] s1 (L2.start N vs) H _ I hq) (fun fl s' hs => ?_) (fun e s' hs => hs)
    cases fl with
    | ret u =>
      obtain ⟨v, σ', H', J, rv, q⟩ := hs
      exact ⟨v, H', J.os, J.bare, J.base, J.hok, rv, q⟩
    | next =>
      obtain ⟨σ', H', J, q⟩ := hs
      exact ⟨V.non, H', J.os, J.bare, J.base, J.hok, rfl, q⟩
    | brk =>
      obtain ⟨σ', H', J, q⟩ := hs
      exact q.elim
    | cont =>
      obtain ⟨σ', H', J, q⟩ := hs
      exact q.elim
abbrev WF (E : XK) : WX := fun cls d _ H => E cls d H
theorem fn_okK {x qual : Str} {st : Stmt} {f : Addr} {fd : FuncData} {N ps : List Str} {k : Nat} {body : GS} (F : Fun K x qual st f fd) (Sc : FnScope N ps (defScope st))
    (hb : ∀ (cdv : Value) (A : Around) (outer : List Env) (s : Shared) (H : Hp) (E : XK), A.guards = some [] → Room k (A.deeper (PyProof.Rows.envOfC qual (defScope st) s.heap.objs.size f cdv)) →
      PSs (cxOf (L2.CX P w) P w K mg base N qual (defScope st) f cdv A outer s H E) (defBody st) (rdS K mg (WF E) body)) :
    FnG P w K mg base (k + 1) f fd ps (spM K mg ps.length (gFnK N.length body)) := by
  refine fng_of F Sc (fun vs H Q E h => ?_) (fun cdv A outer s H vs Q E hg hr h => ⟨_, hb cdv A outer s H E hg hr, ?_⟩)
  · obtain ⟨ss, B, c, _, hl, _, hs, _⟩ := h
    rw [← hl, ← paired_len hs]
  · obtain ⟨ss, B, c, rfl, hl, hd, hs, h⟩ := h
    refine ⟨_, B, c, rfl, hd, start_re hs, ?_⟩
    unfold gFnK at h
    cases e : body (ss.map some ++ List.replicate (N.length - ss.length) none) B with
    | nx r B1 => rw [e] at h; exact fun c' σ st hd' hr' => h c' .non st hd' .non
    | ret v B1 => rw [e] at h; exact fun c' v st hd' hs' => h c' v st hd' hs'
    | exc x fs r B1 => rw [e] at h; exact fun c' σ C d ws st hd' _ hm hH hf => h c' C d ws st hd' hm hH hf
    | brk r B1 => rw [e] at h; exact h.elim
    | ct r B1 => rw [e] at h; exact h.elim
    | bad => rw [e] at h; exact h.elim
theorem fn_ok {x qual : Str} {st : Stmt} {f : Addr} {fd : FuncData} {N ps : List Str} {k : Nat} {body : GS} (F : Fun K x qual st f fd) (Sc : FnScope N ps (defScope st))
    (hb : ∀ (cdv : Value) (A : Around) (outer : List Env) (s : Shared) (H : Hp) (E : XK), A.guards = some [] → Room k (A.deeper (PyProof.Rows.envOfC qual (defScope st) s.heap.objs.size f cdv)) →
      PSs (cxOf (L2.CX P w) P w K mg base N qual (defScope st) f cdv A outer s H E) (defBody st) (rdS K mg (WF E) body)) :
    FnG P w K mg base (k + 1) f fd ps (spM K mg ps.length (gFn N.length body)) := by
  refine (fn_okK F Sc hb).imp fun vs H Q E h => ?_
  obtain ⟨ss, B, c, rfl, hl, hd, hs, h⟩ := h
  refine ⟨ss, B, c, rfl, hl, hd, hs, ?_⟩
  unfold gFn at h
  unfold gFnK
  have fin : ∀ s B1, FinF K mg c Q E (endF B.length s B1) → FinF K mg c Q E (.ok s B1) := fun s B1 h => by
    unfold endF at h
    by_cases q : refsS B.length s ∧ CutB B.length B1
    · rw [if_pos q] at h
      exact fun c' v st hd' hs' => h ⟨c'.al.take B.length, c'.G, c'.H⟩ v (cut_step (B' := B1) hd st) (cut_hold hd st hd' q.2) (RS.cut hs' q.1)
    · rw [if_neg q] at h; exact h.elim
  cases e : body (ss.map some ++ List.replicate (N.length - ss.length) none) B with
  | nx r B1 => rw [e] at h; exact fin _ _ h
  | ret v B1 => rw [e] at h; exact fin _ _ h
  | exc x fs r B1 =>
    rw [e] at h
    have h : FinF K mg c Q E (endX B.length x fs B1) := h
    unfold endX at h
    by_cases q : (∀ p ∈ fs, refsS B.length p.2) ∧ CutB B.length B1
    · rw [if_pos q] at h
      exact fun c' C d ws st hd' hm hH hf => h ⟨c'.al.take B.length, c'.G, c'.H⟩ C d ws (cut_step (B' := B1) hd st) (cut_hold hd st hd' q.2) hm hH (RKs.cut hf q.1)
    · rw [if_neg q] at h; exact h.elim
  | brk r B1 => rw [e] at h; exact h.elim
  | ct r B1 => rw [e] at h; exact h.elim
  | bad => rw [e] at h; exact h.elim
end
/-! ### a call -/
def gCall (n : Nat) (m : GF) (ga : GA) : GE := gBindA ga fun ss _ B => if ss.length = n then m ss B else .bad
/-- of the def that slot i holds -/
def gCallL (n i : Nat) (tb : Str → Option GF) (ga : GA) : GE := fun r B => match r[i]? with
  | some (some (.fn x)) => (match tb x with
    | some m => gCall n m ga r B
    | none => .bad)
  | _ => .bad
section
variable {X : Cx} {W : WX} {pos p : Pos} {x : Str} {e : Expr} {es : List Expr} {ga : GA} {m : GF} {k n : Nat} {f : Addr} {fd : FuncData} {ps : List Str}
theorem finF_of {c : Cf} {σ : St} {Q : VK} {o : Re} (h : Fin X.K X.mg W c σ Q o) : FinF X.K X.mg c Q (WE W σ) o := by
  cases o <;> exact h
theorem call_rd {c0 : St} {H : Hp} {Q : VK} (h : rdE X.K X.mg W (gCall n m ga) c0 H Q) : rdA X.K X.mg W ga c0 H fun vs H1 => spM X.K X.mg n m vs H1 Q (WE W c0) := by
  obtain ⟨r, B, c, rfl, hd, hr, h⟩ := h
  refine ⟨r, B, c, rfl, hd, hr, ?_⟩
  unfold gCall gBindA at h
  cases e : ga r B with
  | ok ss B1 =>
    rw [e] at h
    dsimp only at h
    by_cases hl : ss.length = n
    · rw [if_pos hl] at h; exact fun c' v st hd' hs => ⟨ss, B1, c', rfl, hl, hd', hs, finF_of (Fin.step st h)⟩
    · rw [if_neg hl] at h; exact h.elim
  | exc x fs B1 => rw [e] at h; exact h
  | bad => rw [e] at h; exact h
theorem run_g {n : Nat} {m : GF} {pins : List (Addr × Obj)} {σ : St} {H : Hp} {s : Shared} {Q : VK} {us : List Value} {vs : List V} (F : FnG X.prog X.w X.K X.mg X.base k f fd ps (spM X.K X.mg n m)) (hgd : X.A.guards = some []) (hr : Room k X.A) (hb : Binds X.K fd ps []) (tk : Takes X W)
    (I : L2.Inv X pins σ H s) (r : Vals vs us) (h : spM X.K X.mg n m vs H Q (WE W σ)) : wpAny (model X.prog X.w) X.A (call (.ref f) us) (EP X pins σ Q) X.xe s := by
  have hl : us.length = ps.length := r.length ▸ F.len _ _ _ _ h
  have b := hb s us I.kIn (by rw [List.append_nil]; exact hl)
  rw [List.append_nil] at b
  have go := F.run X.A X.stack s H ⟨us, []⟩ us vs Q (WE W σ) hgd hr I.env0 b r h
  refine wpAny_call (codeAny_mono go ?_)
  intro rr s' hq
  cases rr with
  | error e => exact passAt tk σ pins H s e s' I hq
  | ok fl => cases fl <;> first | exact False.elim hq | exact I.after hq
theorem r_call (F : FnG X.prog X.w X.K X.mg X.base k f fd ps (spM X.K X.mg n m)) (tk : Takes X W) (hgd : X.A.guards = some []) (hr : Room k X.A) (hg : Gl X x) (hm : X.mg x = some (.ref f)) (hk : PySem.W.keepIn X.K (.ref f) = true) (hb : Binds X.K fd ps [])
    (ha : PA X (e :: es) (rdA X.K X.mg W ga)) (hdb : (x == ("__debug__" : Str)) = false) (he : starEach (e :: es) X.env = (false, eval e X.env) :: starEach es X.env) (hpl : (backTo pos (starEach es X.env)).any (·.1) = false) :
    PE X (.Call (.Name x p) (e :: es) [] pos) (rdE X.K X.mg W (gCall n m ga)) := by
  constructor
  intro pins s σ H Q I h
  refine wpAny_Call_Name_kw (ld_glob I hg hm ?_ hdb)
  exact PySem.W.callWith_K (h₀ := X.base) I.ok.mod.kin hk (thn (ha.run pos pins s σ H _ I (call_rd h)) fun us s1 q => by
    obtain ⟨vs, H1, I1, r, q⟩ := q
    exact ⟨I1.kIn, run_g F hgd hr hb tk I1 r q⟩) he hpl
/-- the defs that a slot may hold -/
def TbOk (X : Cx) (k n : Nat) (tb : Str → Option GF) : Prop := ∀ x m, tb x = some m → ∃ f fd ps, X.mg x = some (.ref f) ∧ FnG X.prog X.w X.K X.mg X.base k f fd ps (spM X.K X.mg n m) ∧ PySem.W.keepIn X.K (.ref f) = true ∧ Binds X.K fd ps []
theorem r_callL {i : Nat} {tb : Str → Option GF} (ht : TbOk X k n tb) (tk : Takes X W) (hgd : X.A.guards = some []) (hr : Room k X.A) (hN : X.N[i]? = some x) (hv : Vis X.env.scope x) (ha : PA X (e :: es) (rdA X.K X.mg W ga)) (hdb : (x == ("__debug__" : Str)) = false) (hcd : (x == ("__classdict__" : Str)) = false)
    (he : starEach (e :: es) X.env = (false, eval e X.env) :: starEach es X.env) (hpl : (backTo pos (starEach es X.env)).any (·.1) = false) : PE X (.Call (.Name x p) (e :: es) [] pos) (rdE X.K X.mg W (gCallL n i tb ga)) := by
  refine ⟨fun pins s σ H Q I h => ?_⟩
  obtain ⟨r, B, c, rfl, hd, hr', h⟩ := h
  unfold gCallL at h
  cases e1 : r[i]? with
  | none => rw [e1] at h; exact h.elim
  | some o =>
    cases o with
    | none => rw [e1] at h; exact h.elim
    | some t =>
      rw [e1] at h
      cases t with
      | dat d => exact h.elim
      | ref k => exact h.elim
      | scr ns => exact h.elim
      | fn y =>
        dsimp only at h
        cases e2 : tb y with
        | none => rw [e2] at h; exact h.elim
        | some m' =>
          rw [e2] at h
          obtain ⟨f, fd, ps, hm, F, hk, hb⟩ := ht y m' e2
          obtain ⟨v, h1, h2⟩ := hr'.2 i _ e1
          obtain ⟨a, h3, h4⟩ := h2
          rw [hm] at h3
          cases h3
          subst h4
          refine wpAny_Call_Name_kw (thn ((pe_var (pos := p) hN hv hdb hcd).run pins s σ c.H (fun v H1 => v = .ref f ∧ H1 = c.H) I ⟨.ref f, h1, rfl, rfl⟩) fun u s1 ⟨v, H1, I1, r1, q1⟩ => ?_)
          obtain ⟨rfl, rfl⟩ := q1
          cases r1
          refine PySem.W.callWith_K (h₀ := X.base) I.ok.mod.kin hk (thn (ha.run pos pins s1 σ _ _ I1 (call_rd ⟨r, B, c, rfl, hd, hr', h⟩)) fun us s2 ⟨vs, H2, I2, r, q⟩ => ⟨I2.kIn, ?_⟩) he hpl
          exact run_g F hgd hr hb tk I2 r q
end
end PN

set_option maxRecDepth 100000
set_option maxHeartbeats 4000000
/-! PN, sixth part: what is walked. -/
namespace PN
open PySem L2
def asL (B : Bs) : S → Option (List S)
  | .dat (.list ds) => some (ds.map .dat)
  | .scr ns => some (ns.map fun i => .dat (.int i))
  | .ref k => (match B[k]? with
    | some (some (.lst ss)) => some ss
    | _ => none)
  | _ => none
/-- a list that is tracked -/
def asM (B : Bs) : S → Option (List S)
  | .scr _ => none
  | s => asL B s
def signsOf (x : Str) : List S := x.cps.toList.map fun c => .dat (.str ⟨#[c]⟩)
/-- a list or tuple is as it was -/
def stays (s : S) (its : List S) : Bs → Prop := match s with
  | .ref k => fun B => B[k]? = some (some (.lst its))
  | _ => fun _ => True
section
variable {K : PySem.W.Frag} {mg : Str → Option Value} {c c0 : Cf} {B : Bs}
theorem asL_ok {s : S} {v : V} {ss : List S} (hd : Hold K mg c B) (h : RS K mg c s v) (e : asL B s = some ss) : ∃ a vs, v = .ref a ∧ SqL K c.H a vs ∧ Paired (RS K mg c) ss vs := by
  cases s with
  | dat d =>
    cases d with
    | list ds =>
      cases e
      have h : Dq K c.G v (.list ds) := h
      cases h with
      | lst h1 h2 => exact ⟨_, _, rfl, .inl (.inl (hd.gh _ _ h1)), all_dats h2⟩
    | _ => cases e
  | ref k =>
    unfold asL at e
    obtain ⟨a, h1, h2⟩ := h
    cases q : B[k]? with
    | none => simp only [q] at e; cases e
    | some o =>
      cases o with
      | none => simp only [q] at e; cases e
      | some mo =>
        simp only [q] at e
        cases mo with
        | lst ss' =>
          cases e
          obtain ⟨a', ho, g1, g2, g3, g4⟩ := hd.ob k _ q
          have ea : a' = a := Option.some.inj (g1.symm.trans h1)
          subst ea
          cases ho with
          | lst vs => exact ⟨a', vs, h2, .inl (.inl g3), g4⟩
          | _ => exact g4.elim
        | _ => cases e
  | fn x => cases e
  | scr ns =>
    cases e
    obtain ⟨a, h1, h2⟩ := h
    refine ⟨a, _, h2, same_l hd.gh h1, ?_⟩
    clear h1 h2
    induction ns with
    | nil => exact .nil
    | cons i r ih => exact .cons (.int i) ih
theorem asM_ok {s : S} {v : V} {ss : List S} (hd : Hold K mg c B) (h : RS K mg c s v) (e : asM B s = some ss) : ∃ a vs, v = .ref a ∧ c.H a = some (.lst vs) ∧ Paired (RS K mg c) ss vs := by
  cases s with
  | dat d =>
    have e : asL B (.dat d) = some ss := e
    cases d with
    | list ds =>
      cases e
      have h : Dq K c.G v (.list ds) := h
      cases h with
      | lst h1 h2 => exact ⟨_, _, rfl, hd.gh _ _ h1, all_dats h2⟩
    | _ => cases e
  | ref k =>
    have e : asL B (.ref k) = some ss := e
    unfold asL at e
    obtain ⟨a, h1, h2⟩ := h
    cases q : B[k]? with
    | none => simp only [q] at e; cases e
    | some o =>
      cases o with
      | none => simp only [q] at e; cases e
      | some mo =>
        simp only [q] at e
        cases mo with
        | lst ss' =>
          cases e
          obtain ⟨a', ho, g1, g2, g3, g4⟩ := hd.ob k _ q
          have ea : a' = a := Option.some.inj (g1.symm.trans h1)
          subst ea
          cases ho with
          | lst vs => exact ⟨a', vs, h2, g3, g4⟩
          | _ => exact g4.elim
        | _ => cases e
  | _ => cases e
theorem asL_stays {s : S} {ss : List S} (e : asL B s = some ss) : stays s ss B := by
  cases s with
  | dat d => trivial
  | ref k =>
    unfold asL at e
    show B[k]? = some (some (.lst ss))
    cases q : B[k]? with
    | none => simp only [q] at e; cases e
    | some o =>
      cases o with
      | none => simp only [q] at e; cases e
      | some mo =>
        simp only [q] at e
        cases mo <;> first | (cases e; rfl) | cases e
  | fn x => trivial
  | scr ns => trivial
theorem stays_asL {s : S} {ss : List S} {B' : Bs} (e : asL B s = some ss) (k : stays s ss B') : asL B' s = some ss := by
  cases s with
  | dat d => cases d <;> exact e
  | ref i =>
    have k : B'[i]? = some (some (.lst ss)) := k
    unfold asL
    simp only [k]
  | fn x => cases e
  | scr ns => exact e
theorem it_list {s : S} {v : V} {ss : List S} (hd : Hold K mg c0 B) (h : RS K mg c0 s v) (e : asL B s = some ss) : ∃ a, v = .ref a ∧ (∃ xs, SqL K c0.H a xs) ∧ ItOk K mg (Itl K a) ss (stays s ss) c0 := by
  obtain ⟨a, vs, e1, h1, h2⟩ := asL_ok hd h e
  subst e1
  have at' : ∀ (c : Cf) (B' : Bs), Step c0 c → Hold K mg c B' → stays s ss B' → ∃ vs, SqL K c.H a vs ∧ Paired (RS K mg c) ss vs := fun c B' st hd' k => by
    obtain ⟨a', vs', e2, h3, h4⟩ := asL_ok hd' (RS.mono st h) (stays_asL e k)
    cases e2
    exact ⟨vs', h3, h4⟩
  refine ⟨a, rfl, ⟨vs, h1⟩, fun i c B' st hd' k hi => ?_, fun i c B' st hd' k hi => ?_, fun i c B' x H' t st hd' k ht y => ?_⟩
  · obtain ⟨us, q1, q2⟩ := at' c B' st hd' k
    have hl := paired_len q2
    exact ⟨us, us[i]'(by omega), q1, List.getElem?_eq_getElem (by omega)⟩
  · obtain ⟨us, q1, q2⟩ := at' c B' st hd' k
    have hl := paired_len q2
    exact ⟨us, q1, by omega⟩
  · obtain ⟨us, q1, q2⟩ := at' c B' st hd' k
    obtain ⟨rfl, y⟩ := y
    obtain ⟨v, q3, q4⟩ := paired_get q2 ht
    have := y us q1
    rw [q3] at this
    cases this
    exact ⟨c, rfl, Step.refl c, hd', q4⟩
theorem it_tup {s : S} {v : V} {ss : List S} (hd : Hold K mg c0 B) (h : RS K mg c0 s v) (e : asT s = some ss) : ∃ a, v = .ref a ∧ (∃ xs, SqT K c0.H a xs) ∧ ItOk K mg (Itt K a) ss (fun _ => True) c0 := by
  obtain ⟨a, vs, e1, h1, h2⟩ := asT_ok h e
  subst e1
  have at' : ∀ (c : Cf) (B' : Bs), Step c0 c → Hold K mg c B' → SqT K c.H a vs ∧ Paired (RS K mg c) ss vs := fun c B' st hd' => ⟨same_t ((st.g).trans hd'.gh) h1, RSs.mono st h2⟩
  have hl := paired_len h2
  refine ⟨a, rfl, ⟨vs, same_t hd.gh h1⟩, fun i c B' st hd' k hi => ?_, fun i c B' st hd' k hi => ?_, fun i c B' x H' t st hd' k ht y => ?_⟩
  · exact ⟨vs, vs[i]'(by omega), (at' c B' st hd').1, List.getElem?_eq_getElem (by omega)⟩
  · exact ⟨vs, (at' c B' st hd').1, by omega⟩
  · obtain ⟨q1, q2⟩ := at' c B' st hd'
    obtain ⟨rfl, y⟩ := y
    obtain ⟨v, q3, q4⟩ := paired_get q2 ht
    have := y vs q1
    rw [q3] at this
    cases this
    exact ⟨c, rfl, Step.refl c, hd', q4⟩
theorem it_str {x : Str} : ItOk K mg (Its x) (signsOf x) (fun _ => True) c0 := by
  have hl : (signsOf x).length = x.cps.size := by unfold signsOf; rw [List.length_map, Array.length_toList]
  refine ⟨fun i c B' st hd' k hi => by show i < x.cps.size; omega, fun i c B' st hd' k hi => by show x.cps.size ≤ i; omega, fun i c B' v H' t st hd' k ht y => ?_⟩
  obtain ⟨rfl, d, e1, e2⟩ := y
  subst e2
  unfold signsOf at ht
  rw [List.getElem?_map, Array.getElem?_toList, e1] at ht
  cases ht
  exact ⟨c, rfl, Step.refl c, hd', .str _⟩
end
/-- a list, a tuple, a text -/
def gIter (g : GE) : GI := fun r B => match g r B with
  | .ok s B1 => (match asL B1 s with
    | some ss => .ok ss (stays s ss) B1
    | none => match asT s with
      | some ss => .ok ss (fun _ => True) B1
      | none => match s with
        | .dat (.str x) => .ok (signsOf x) (fun _ => True) B1
        | _ => .bad)
  | .exc x fs B1 => .exc x fs B1
  | .bad => .bad
theorem PI_or {X : Cx} {tg e : Expr} {w1 w2 : TI} (h1 : PI X tg e w1) (h2 : PI X tg e w2) : PI X tg e (fun σ H R => w1 σ H R ∨ w2 σ H R) := ⟨fun pins s σ H R I q => by
  rcases q with q | q
  · exact h1.run pins s σ H R I q
  · exact h2.run pins s σ H R I q⟩
theorem PI_le {X : Cx} {tg e : Expr} {w w' : TI} (h : PI X tg e w) (f : ∀ σ H R, w' σ H R → w σ H R) : PI X tg e w' := ⟨fun pins s σ H R I q => h.run pins s σ H R I (f _ _ _ q)⟩
section
variable {X : Cx} {W : WX} {tg e e2 : Expr} {g : GE}
theorem i_any (h : PE X e (rdE X.K X.mg W g)) : PI X tg e (rdI X.K X.mg W (gIter g)) := by
  refine PI_le (PI_or (pi_list h) (PI_or (pi_tup h) (pi_str h))) fun σ H R q => ?_
  obtain ⟨r, B, c, rfl, hd, hr, q⟩ := q
  unfold gIter at q
  cases e : g r B with
  | exc x fs B1 => exact .inl ⟨r, B, c, rfl, hd, hr, by rw [e] at q ⊢; exact q⟩
  | bad => rw [e] at q; exact q.elim
  | ok s B1 =>
    rw [e] at q
    dsimp only at q
    cases e1 : asL B1 s with
    | some ss =>
      rw [e1] at q
      refine .inl ⟨r, B, c, rfl, hd, hr, ?_⟩
      rw [e]
      intro c' v st hd' hs
      obtain ⟨a, q1, q2, q3⟩ := it_list hd' hs e1
      exact ⟨a, q1, q2, q c' _ st hd' q3⟩
    | none =>
      rw [e1] at q
      dsimp only at q
      cases e2 : asT s with
      | some ss =>
        rw [e2] at q
        refine .inr (.inl ⟨r, B, c, rfl, hd, hr, ?_⟩)
        rw [e]
        intro c' v st hd' hs
        obtain ⟨a, q1, q2, q3⟩ := it_tup hd' hs e2
        exact ⟨a, q1, q2, q c' _ st hd' q3⟩
      | none =>
        rw [e2] at q
        dsimp only at q
        cases s with
        | dat d =>
          cases d with
          | str x =>
            refine .inr (.inr ⟨r, B, c, rfl, hd, hr, ?_⟩)
            rw [e]
            intro c' v st hd' hs
            exact ⟨x, rs_str hs, q c' _ st hd' it_str⟩
          | _ => exact q.elim
        | ref k => exact q.elim
        | _ => exact q.elim
end
/-! ### range -/
def intsUp (a : Int) (n : Nat) : List S := (List.range n).map fun (i : Nat) => S.dat (.int (a + (i : Int)))
def gRange1 (ga : GA) : GI := fun r B => match ga r B with
  | .ok [.dat (.int n)] B1 => if -(2 ^ 62) ≤ n ∧ n < 2 ^ 62 then .ok (intsUp 0 n.toNat) (fun _ => True) B1 else .bad
  | .exc x fs B1 => .exc x fs B1
  | _ => .bad
def gRange2 (ga : GA) : GI := fun r B => match ga r B with
  | .ok [.dat (.int a), .dat (.int b)] B1 => if -(2 ^ 62) ≤ a ∧ a < 2 ^ 62 ∧ -(2 ^ 62) ≤ b ∧ b < 2 ^ 62 then .ok (intsUp a (b - a).toNat) (fun _ => True) B1 else .bad
  | .exc x fs B1 => .exc x fs B1
  | _ => .bad
theorem it_range {K : PySem.W.Frag} {mg : Str → Option Value} {c0 : Cf} (a : Int) (n : Nat) : ItOk K mg (Itr a n) (intsUp a n) (fun _ => True) c0 := by
  have hl : (intsUp a n).length = n := by unfold intsUp; rw [List.length_map, List.length_range]
  refine ⟨fun i c B' st hd' k hi => by show i < n; omega, fun i c B' st hd' k hi => by show n ≤ i; omega, fun i c B' v H' t st hd' k ht y => ?_⟩
  obtain ⟨rfl, e2⟩ := y
  subst e2
  unfold intsUp at ht
  have hi : i < n := by
    have := (List.getElem?_eq_some_iff.mp ht).1
    rwa [List.length_map, List.length_range] at this
  rw [List.getElem?_map, List.getElem?_range hi] at ht
  cases ht
  exact ⟨c, rfl, Step.refl c, hd', .int _⟩
section
variable {X : Cx} {W : WX} {tg a b : Expr} {ga : GA} {p pos : Pos}
theorem i_range1 (hg : Gl X "range") (hm : X.mg "range" = none) (ha : PA X [a] (rdA X.K X.mg W ga)) (hs : starEach [a] X.env = [(false, eval a X.env)]) : PI X tg (.Call (.Name "range" p) [a] [] pos) (rdI X.K X.mg W (gRange1 ga)) := by
  refine PI_le (pi_range1 hg hm ha hs) fun σ H R q => ?_
  obtain ⟨r, B, c, rfl, hd, hr, q⟩ := q
  refine ⟨r, B, c, rfl, hd, hr, ?_⟩
  unfold gRange1 at q
  cases e : ga r B with
  | exc x fs B1 => rw [e] at q; exact q
  | bad => rw [e] at q; exact q.elim
  | ok ss B1 =>
    rw [e] at q
    intro c' vs st hd' hs
    cases hs with
    | nil => exact q.elim
    | cons h1 h2 =>
      cases h2 with
      | cons h3 h4 => split at q <;> first | exact q.elim | (rename_i z; cases z) | skip
      | nil =>
        rename_i s v
        cases s with
        | ref k => exact q.elim
        | fn k => exact q.elim
        | scr k => exact q.elim
        | dat d =>
          cases d with
          | int n =>
            dsimp only at q
            by_cases hz : -(2 ^ 62) ≤ n ∧ n < 2 ^ 62
            · rw [if_pos hz] at q
              rw [rs_int h1]
              exact ⟨n, rfl, hz.1, hz.2, q c' _ st hd' (it_range 0 n.toNat)⟩
            · rw [if_neg hz] at q; exact q.elim
          | _ => exact q.elim
theorem i_range2 (hg : Gl X "range") (hm : X.mg "range" = none) (ha : PA X [a, b] (rdA X.K X.mg W ga)) (hs : starEach [a, b] X.env = [(false, eval a X.env), (false, eval b X.env)]) (hs2 : starEach [b] X.env = [(false, eval b X.env)]) : PI X tg (.Call (.Name "range" p) [a, b] [] pos) (rdI X.K X.mg W (gRange2 ga)) := by
  refine PI_le (pi_range2 hg hm ha hs hs2) fun σ H R q => ?_
  obtain ⟨r, B, c, rfl, hd, hr, q⟩ := q
  refine ⟨r, B, c, rfl, hd, hr, ?_⟩
  unfold gRange2 at q
  cases e : ga r B with
  | exc x fs B1 => rw [e] at q; exact q
  | bad => rw [e] at q; exact q.elim
  | ok ss B1 =>
    rw [e] at q
    intro c' vs st hd' hs
    split at q
    · rename_i n m B2 z
      cases z
      by_cases hz : -(2 ^ 62) ≤ n ∧ n < 2 ^ 62 ∧ -(2 ^ 62) ≤ m ∧ m < 2 ^ 62
      · rw [if_pos hz] at q
        cases hs with
        | cons h1 h2 =>
          cases h2 with
          | cons h3 h4 =>
            cases h4
            rw [rs_int h1, rs_int h3]
            exact ⟨n, m, rfl, hz, q c' _ st hd' (it_range n (m - n).toNat)⟩
      · rw [if_neg hz] at q; exact q.elim
    · rename_i z; cases z
    · exact q.elim
end
end PN

set_option maxRecDepth 100000
set_option maxHeartbeats 4000000
/-! PN, seventh part: operators on values. -/
namespace PN
open PySem L2
/-- a value as data, as it stands -/
def valD (B : Bs) : S → Option PyData
  | .dat d => some d
  | .ref k => (match B[k]? with
    | some (some (.lst ss)) => (datsOf ss).map .list
    | _ => none)
  | _ => none
section
variable {K : PySem.W.Frag} {mg : Str → Option Value} {c : Cf} {B : Bs}
theorem valD_ok {s : S} {v : V} {d : PyData} (hd : Hold K mg c B) (h : RS K mg c s v) (e : valD B s = some d) : Dq K c.H v d := by
  cases s with
  | dat d' => cases e; exact dp_mono hd.gh _ _ h
  | ref k =>
    unfold valD at e
    obtain ⟨a, h1, h2⟩ := h
    cases q : B[k]? with
    | none => simp only [q] at e; cases e
    | some o =>
      cases o with
      | none => simp only [q] at e; cases e
      | some mo =>
        simp only [q] at e
        cases mo with
        | lst ss =>
          dsimp only at e
          cases q2 : datsOf ss with
          | none => rw [q2] at e; cases e
          | some ds =>
            rw [q2] at e
            cases e
            obtain ⟨a', ho, g1, g2, g3, g4⟩ := hd.ob k _ q
            have ea : a' = a := Option.some.inj (g1.symm.trans h1)
            subst ea
            subst h2
            cases ho with
            | lst vs => exact .lst g3 (dpAll_mono hd.gh ds vs (dats_all q2 g4))
            | _ => exact g4.elim
        | _ => cases e
  | fn x => cases e
  | scr ns => cases e
theorem valP_ok {s : S} {v : V} {d : PyData} (hd : Hold K mg c B) (h : RS K mg c s v) (e : valD B s = some d) : Dp K c.H v d := (valD_ok hd h e).dp
end
theorem OpR_or {X : Cx} {f : Value → Value → Sem Value} {r r' : R2} (h : OpR X f r) (h' : OpR X f r') : OpR X f (fun x y H Q => r x y H Q ∨ r' x y H Q) := by
  intro pins s σ H x y v u Q I rx ry q
  rcases q with q | q
  · exact h pins s σ H x y v u Q I rx ry q
  · exact h' pins s σ H x y v u Q I rx ry q
theorem UnR_or {X : Cx} {f : Value → Sem Value} {r r' : V → Hp → VK → Prop} (h : UnR X f r) (h' : UnR X f r') : UnR X f (fun x H Q => r x H Q ∨ r' x H Q) := by
  intro pins s σ H x v Q I rx q
  rcases q with q | q
  · exact h pins s σ H x v Q I rx q
  · exact h' pins s σ H x v Q I rx q
theorem CallR_or {X : Cx} {f : Value} {r r' : List V → Hp → VK → Prop} (h : CallR X f r) (h' : CallR X f r') : CallR X f (fun x H Q => r x H Q ∨ r' x H Q) := by
  intro pins s σ H x v Q I rx q
  rcases q with q | q
  · exact h pins s σ H x v Q I rx q
  · exact h' pins s σ H x v Q I rx q
/-- a flat answer -/
def bool' (b : Bool) (B : Bs) : Option (S × Bs) := some (.dat (.bool b), B)
def int' (i : Int) (B : Bs) : Option (S × Bs) := some (.dat (.int i), B)
def str' (x : Str) (B : Bs) : Option (S × Bs) := some (.dat (.str x), B)
section
variable {K : PySem.W.Frag} {mg : Str → Option Value} {c : Cf} {B : Bs} {Q : VK}
theorem fin_bool {b : Bool} (hd : Hold K mg c B) (h : FinP K mg c Q (bool' b B)) : Q (.bl b) c.H := h c (.bl b) (Step.refl c) hd (.bl b)
theorem fin_int {i : Int} (hd : Hold K mg c B) (h : FinP K mg c Q (int' i B)) : Q (.int i) c.H := h c (.int i) (Step.refl c) hd (.int i)
theorem fin_str {x : Str} (hd : Hold K mg c B) (h : FinP K mg c Q (str' x B)) : Q (.str x) c.H := h c (.str x) (Step.refl c) hd (.str x)
end
/-! ### == and != -/
def scalD : PyData → Bool
  | .none | .int _ | .str _ => true
  | _ => false
def eqD (d e : PyData) : Option Bool := if scalD d = true ∧ scalD e = true then some (PyData.eqv d e) else if SeqAt.shaped d = true ∧ SeqAt.shaped e = true then some (PyData.eqv d e) else none
def pEq : GP
  | [s, t], B => (valD B s).bind fun d => (valD B t).bind fun e => (eqD d e).bind fun b => bool' b B
  | _, _ => none
def pNe : GP
  | [s, t], B => (valD B s).bind fun d => (valD B t).bind fun e => (eqD d e).bind fun b => bool' (!b) B
  | _, _ => none
section
variable {K : PySem.W.Frag} {mg : Str → Option Value} {c : Cf} {B : Bs} {Q : VK}
theorem finP_bind {α : Type} {o : Option α} {f : α → Option (S × Bs)} (h : FinP K mg c Q (o.bind f)) : ∃ a, o = some a ∧ FinP K mg c Q (f a) := by
  cases o with
  | none => exact h.elim
  | some a => exact ⟨a, rfl, h⟩
end
section
variable {X : Cx}
theorem scal_eq {K : PySem.W.Frag} {H : Hp} {x y : V} {d e : PyData} (hx : Dp K H x d) (hy : Dp K H y e) (h1 : scalD d = true) (h2 : scalD e = true) : scal x y = true ∧ decide (x = y) = PyData.eqv d e := by
  cases d with
  | none =>
    cases hx
    cases e with
    | none => cases hy; exact ⟨rfl, by simp [PyData.eqv]⟩
    | int j => cases hy; exact ⟨rfl, by simp [PyData.eqv]⟩
    | str j => cases hy; exact ⟨rfl, by simp [PyData.eqv]⟩
    | _ => cases h2
  | int i =>
    cases hx
    cases e with
    | none => cases hy; exact ⟨rfl, by simp [PyData.eqv]⟩
    | int j => cases hy; exact ⟨rfl, by simp [PyData.eqv, Bool.beq_eq_decide_eq]⟩
    | str j => cases hy; exact ⟨rfl, by simp [PyData.eqv]⟩
    | _ => cases h2
  | str i =>
    cases hx
    cases e with
    | none => cases hy; exact ⟨rfl, by simp [PyData.eqv]⟩
    | int j => cases hy; exact ⟨rfl, by simp [PyData.eqv]⟩
    | str j => cases hy; exact ⟨rfl, by simp [PyData.eqv, Bool.beq_eq_decide_eq]⟩
    | _ => cases h2
  | _ => cases h1
theorem o_eq (hu : X.A.units + 64 < cLine) : PrimOp X (compareOp .Eq) pEq := by
  refine ⟨_, OpR_or op_eq (op_eqD hu), fun s t v u c B Q hd hs ht h => ?_⟩
  obtain ⟨d, e1, h⟩ := finP_bind h
  obtain ⟨e, e2, h⟩ := finP_bind h
  obtain ⟨b, e3, h⟩ := finP_bind h
  have p1 := valP_ok hd hs e1
  have p2 := valP_ok hd ht e2
  unfold eqD at e3
  split at e3
  · rename_i z
    cases e3
    obtain ⟨q1, q2⟩ := scal_eq p1 p2 z.1 z.2
    exact .inl ⟨q1, by rw [q2]; exact fin_bool hd h⟩
  · split at e3
    · rename_i z
      cases e3
      exact .inr ⟨d, e, p1, p2, z.1, z.2, fin_bool hd h⟩
    · cases e3
theorem o_ne (hu : X.A.units + 64 < cLine) : PrimOp X (compareOp .NotEq) pNe := by
  refine ⟨_, OpR_or op_ne (op_neD hu), fun s t v u c B Q hd hs ht h => ?_⟩
  obtain ⟨d, e1, h⟩ := finP_bind h
  obtain ⟨e, e2, h⟩ := finP_bind h
  obtain ⟨b, e3, h⟩ := finP_bind h
  have p1 := valP_ok hd hs e1
  have p2 := valP_ok hd ht e2
  unfold eqD at e3
  split at e3
  · rename_i z
    cases e3
    obtain ⟨q1, q2⟩ := scal_eq p1 p2 z.1 z.2
    exact .inl ⟨q1, by rw [q2]; exact fin_bool hd h⟩
  · split at e3
    · rename_i z
      cases e3
      exact .inr ⟨d, e, p1, p2, z.1, z.2, fin_bool hd h⟩
    · cases e3
end
/-! ### is None -/
def isNon : S → Bool
  | .dat .none => true
  | _ => false
def pIsN : GP
  | [s, .dat .none], B => bool' (isNon s) B
  | _, _ => none
def pNotN : GP
  | [s, .dat .none], B => bool' (!isNon s) B
  | _, _ => none
theorem isNon_ok {K : PySem.W.Frag} {mg : Str → Option Value} {c : Cf} {s : S} {v : V} (h : RS K mg c s v) : decide (v = .non) = isNon s := by
  cases s with
  | dat d =>
    have h : Dq K c.G v d := h
    cases h <;> rfl
  | ref k => obtain ⟨a, _, rfl⟩ := h; rfl
  | fn x => obtain ⟨a, _, rfl⟩ := h; rfl
  | scr x => obtain ⟨a, _, rfl⟩ := h; rfl
/-! ### in -/
theorem sign_eq {x : Str} {c : Nat} (h : x.cps.toList = [c]) : x = ⟨#[c]⟩ := by
  obtain ⟨⟨l⟩⟩ := x
  have h : l = [c] := h
  subst h
  rfl
def inD (d : PyData) : PyData → Option Bool
  | .list ds => if SeqAt.shaped d = true ∧ SeqAt.shaped (.list ds) = true then some (ds.any fun z => PyData.eqv z d) else none
  | .tuple ds => if SeqAt.shaped d = true ∧ SeqAt.shaped (.tuple ds) = true then some (ds.any fun z => PyData.eqv z d) else none
  | .str y => (match d with
    | .str x => (match x.cps.toList with
      | [c] => some (decide (c ∈ y.cps.toList))
      | _ => none)
    | _ => none)
  | _ => none
def pIn : GP
  | [s, t], B => (valD B s).bind fun d => (valD B t).bind fun e => (inD d e).bind fun b => bool' b B
  | _, _ => none
def pNotIn : GP
  | [s, t], B => (valD B s).bind fun d => (valD B t).bind fun e => (inD d e).bind fun b => bool' (!b) B
  | _, _ => none
section
variable {X : Cx}
def rInT (K : PySem.W.Frag) : R2 := fun x y H Q => ∃ d ds, Dp K H x d ∧ Dp K H y (.tuple ds) ∧ SeqAt.shaped d = true ∧ SeqAt.shaped (.tuple ds) = true ∧ Q (.bl (ds.any fun z => PyData.eqv z d)) H
def rNotInT (K : PySem.W.Frag) : R2 := fun x y H Q => ∃ d ds, Dp K H x d ∧ Dp K H y (.tuple ds) ∧ SeqAt.shaped d = true ∧ SeqAt.shaped (.tuple ds) = true ∧ Q (.bl (!ds.any fun z => PyData.eqv z d)) H
theorem op_inT (hu : X.A.units + 65 < cLine) : OpR X (compareOp .In) (rInT X.K) := by
  intro pins s σ H x y v u Q I rx ry h
  obtain ⟨d, ds, hd, he, sd, se, q⟩ := h
  obtain ⟨as, r1⟩ := Dp.reads I d x v hd rx
  obtain ⟨bs, r2⟩ := Dp.reads I (.tuple ds) y u he ry
  exact PySem.SeqAt.in_tuple_reads r2 r1 (SeqAt.canLay_of_shaped se) (SeqAt.canLay_of_shaped sd) (PyProof.Rows.room_in_shaped sd hu) ⟨.bl _, H, I, rfl, q⟩
theorem op_notInT (hu : X.A.units + 65 < cLine) : OpR X (compareOp .NotIn) (rNotInT X.K) := by
  intro pins s σ H x y v u Q I rx ry h
  obtain ⟨d, ds, hd, he, sd, se, q⟩ := h
  obtain ⟨as, r1⟩ := Dp.reads I d x v hd rx
  obtain ⟨bs, r2⟩ := Dp.reads I (.tuple ds) y u he ry
  exact PySem.SeqAt.notIn_tuple_reads r2 r1 (SeqAt.canLay_of_shaped se) (SeqAt.canLay_of_shaped sd) (PyProof.Rows.room_in_shaped sd hu) ⟨.bl _, H, I, rfl, q⟩
theorem o_in (hu : X.A.units + 65 < cLine) : PrimOp X (compareOp .In) pIn := by
  refine ⟨_, OpR_or (op_inD hu) (OpR_or (op_inT hu) op_in_sign), fun s t v u c B Q hd hs ht h => ?_⟩
  obtain ⟨d, e1, h⟩ := finP_bind h
  obtain ⟨e, e2, h⟩ := finP_bind h
  obtain ⟨b, e3, h⟩ := finP_bind h
  have p1 := valP_ok hd hs e1
  have p2 := valP_ok hd ht e2
  unfold inD at e3
  split at e3
  · split at e3
    · rename_i ds z
      cases e3
      exact .inl ⟨d, ds, p1, p2, z.1, z.2, fin_bool hd h⟩
    · cases e3
  · split at e3
    · rename_i ds z
      cases e3
      exact .inr (.inl ⟨d, ds, p1, p2, z.1, z.2, fin_bool hd h⟩)
    · cases e3
  · split at e3
    · rename_i x
      split at e3
      · rename_i c0 ec
        cases e3
        cases p1
        cases p2
        exact .inr (.inr ⟨c0, _, congrArg V.str (sign_eq ec), rfl, fin_bool hd h⟩)
      · cases e3
    · cases e3
  · cases e3
theorem o_notIn (hu : X.A.units + 65 < cLine) : PrimOp X (compareOp .NotIn) pNotIn := by
  refine ⟨_, OpR_or (op_notInD hu) (OpR_or (op_notInT hu) op_notIn_sign), fun s t v u c B Q hd hs ht h => ?_⟩
  obtain ⟨d, e1, h⟩ := finP_bind h
  obtain ⟨e, e2, h⟩ := finP_bind h
  obtain ⟨b, e3, h⟩ := finP_bind h
  have p1 := valP_ok hd hs e1
  have p2 := valP_ok hd ht e2
  unfold inD at e3
  split at e3
  · split at e3
    · rename_i ds z
      cases e3
      exact .inl ⟨d, ds, p1, p2, z.1, z.2, fin_bool hd h⟩
    · cases e3
  · split at e3
    · rename_i ds z
      cases e3
      exact .inr (.inl ⟨d, ds, p1, p2, z.1, z.2, fin_bool hd h⟩)
    · cases e3
  · split at e3
    · rename_i x
      split at e3
      · rename_i c0 ec
        cases e3
        cases p1
        cases p2
        exact .inr (.inr ⟨c0, _, congrArg V.str (sign_eq ec), rfl, fin_bool hd h⟩)
      · cases e3
    · cases e3
  · cases e3
end
end PN

set_option maxRecDepth 100000
set_option maxHeartbeats 4000000
/-! PN, eighth part: order, sums, items, slices. -/
namespace PN
open PySem L2
/-! ### order -/
def ltS : PyData → PyData → Option Bool
  | .int i, .int j => some (decide (i < j))
  | .str x, .str y => some (decide (x.cps.toList < y.cps.toList))
  | _, _ => none
def leS : PyData → PyData → Option Bool
  | .int i, .int j => some (decide (i ≤ j))
  | .str x, .str y => some (!decide (y.cps.toList < x.cps.toList))
  | _, _ => none
/-- by the first places that differ; f tells of these, z of the lengths -/
def lexO (f : PyData → PyData → Option Bool) (z : Nat → Nat → Bool) : List PyData → List PyData → Option Bool
  | [], ys => some (z 0 ys.length)
  | _ :: xs, [] => some (z (xs.length + 1) 0)
  | x :: xs, y :: ys => if PyData.eqv x y = true then lexO f z xs ys else f x y
def allS (f : PyData → PyData → Option Bool) : List PyData → List PyData → Bool
  | x :: xs, y :: ys => (f x y).isSome && allS f xs ys
  | _, _ => true
def cmpD (f : PyData → PyData → Option Bool) (z : Nat → Nat → Bool) : PyData → PyData → Option Bool
  | .tuple xs, .tuple ys => if SeqAt.shaped (.tuple xs) = true ∧ SeqAt.shaped (.tuple ys) = true ∧ allS f xs ys = true then lexO f z xs ys else none
  | d, e => f d e
def pCmp (f : PyData → PyData → Option Bool) (z : Nat → Nat → Bool) : GP
  | [s, t], B => (valD B s).bind fun d => (valD B t).bind fun e => (cmpD f z d e).bind fun b => bool' b B
  | _, _ => none
def pLt : GP := pCmp ltS fun m n => decide (m < n)
def pLe : GP := pCmp leS fun m n => decide (m ≤ n)
def pGt : GP := pCmp (fun d e => ltS e d) fun m n => decide (n < m)
def pGe : GP := pCmp (fun d e => leS e d) fun m n => decide (n ≤ m)
theorem allS_at {f : PyData → PyData → Option Bool} : ∀ {xs ys : List PyData} {j : Nat} {x y : PyData}, allS f xs ys = true → xs[j]? = some x → ys[j]? = some y → ∃ b, f x y = some b
  | [], _, _, _, _, _, h, _ => by simp at h
  | _ :: _, [], _, _, _, _, _, h => by simp at h
  | a :: xs, b :: ys, 0, x, y, h, h1, h2 => by
    simp at h1 h2
    subst h1; subst h2
    have h : ((f a b).isSome && allS f xs ys) = true := h
    rw [Bool.and_eq_true] at h
    exact Option.isSome_iff_exists.mp h.1
  | a :: xs, b :: ys, j + 1, x, y, h, h1, h2 => by
    have h : ((f a b).isSome && allS f xs ys) = true := h
    rw [Bool.and_eq_true] at h
    exact allS_at (j := j) h.2 (by simpa using h1) (by simpa using h2)
theorem lex_at {f : PyData → PyData → Option Bool} {z : Nat → Nat → Bool} (hz : ∀ a b c, z (a + c) (b + c) = z a b) {e r : Nat → Bool} : ∀ {xs ys : List PyData} {i : Nat} {b : Bool}, lexO f z xs ys = some b →
    (∀ j x y, xs[j]? = some x → ys[j]? = some y → e (i + j) = PyData.eqv x y ∧ (PyData.eqv x y = false → f x y = some (r (i + j)))) → Ob.lexAt e r (z (i + xs.length) (i + ys.length)) i (min xs.length ys.length) = b
  | [], ys, i, b, h, _ => by
    have h : some (z 0 ys.length) = some b := h
    cases h
    rw [List.length_nil, Nat.zero_min]
    show z (i + 0) (i + ys.length) = z 0 ys.length
    rw [← hz 0 ys.length i]
    congr 1 <;> omega
  | x :: xs, [], i, b, h, _ => by
    have h : some (z (xs.length + 1) 0) = some b := h
    cases h
    rw [List.length_nil, Nat.min_zero]
    show z (i + (xs.length + 1)) (i + 0) = z (xs.length + 1) 0
    rw [← hz (xs.length + 1) 0 i]
    congr 1 <;> omega
  | x :: xs, y :: ys, i, b, h, hk => by
    have h : (if PyData.eqv x y = true then lexO f z xs ys else f x y) = some b := h
    obtain ⟨k1, k2⟩ := hk 0 x y rfl rfl
    rw [Nat.add_zero] at k1 k2
    have em : min (x :: xs).length (y :: ys).length = min xs.length ys.length + 1 := by
      rw [List.length_cons, List.length_cons]; omega
    rw [em, Ob.lexAt_succ, k1]
    cases q : PyData.eqv x y with
    | true =>
      rw [q, if_pos rfl] at h
      rw [if_pos rfl]
      have := lex_at hz (e := e) (r := r) (i := i + 1) h fun j x' y' h1 h2 => by
        have := hk (j + 1) x' y' (by simpa using h1) (by simpa using h2)
        rw [show i + 1 + j = i + (j + 1) by omega]
        exact this
      rw [← this, List.length_cons, List.length_cons, show i + 1 + xs.length = i + (xs.length + 1) by omega, show i + 1 + ys.length = i + (ys.length + 1) by omega]
    | false =>
      rw [q, if_neg (by decide)] at h
      rw [if_neg (by decide)]
      rw [k2 q] at h
      exact Option.some.inj h
theorem vget {xs : List V} {us : List Value} (r : Vals xs us) {j : Nat} {u : Value} (h : us[j]? = some u) : ∃ x, xs[j]? = some x ∧ RelV x u := by
  have hl := r.length
  have hj : j < xs.length := by rw [hl]; exact (List.getElem?_eq_some_iff.mp h).1
  obtain ⟨u', h1, h2⟩ := r.get (List.getElem?_eq_getElem hj)
  rw [h] at h1
  cases h1
  exact ⟨_, List.getElem?_eq_getElem hj, h2⟩
theorem dget {K : PySem.W.Frag} {H : Hp} : ∀ {ds : List PyData} {vs : List V} {j : Nat} {v : V}, DpAll K H vs ds → vs[j]? = some v → ∃ d, ds[j]? = some d ∧ Dp K H v d
  | _, _, _, _, .nil, h => by simp at h
  | _, _, 0, _, .cons a b, h => by simp at h; subst h; exact ⟨_, rfl, a⟩
  | _, _, j + 1, _, .cons a b, h => by
    obtain ⟨d, h1, h2⟩ := dget (j := j) b (by simpa using h)
    exact ⟨d, by simpa using h1, h2⟩
theorem dlen {K : PySem.W.Frag} {H : Hp} : ∀ {ds : List PyData} {vs : List V}, DpAll K H vs ds → vs.length = ds.length
  | _, _, .nil => rfl
  | _, _, .cons _ b => congrArg (· + 1) (dlen b)
theorem canAll_at : ∀ {ds : List PyData} {j : Nat} {d : PyData}, PyData.canLayAll0 ds = true → ds[j]? = some d → d.canLay0 = true ∧ d.depth ≤ PyData.depthAll ds
  | [], _, _, _, h => by simp at h
  | x :: xs, 0, d, h, h1 => by
    simp at h1; subst h1
    rw [PyData.canLayAll0, Bool.and_eq_true] at h
    exact ⟨h.1, by rw [PyData.depthAll]; exact Nat.le_max_left _ _⟩
  | x :: xs, j + 1, d, h, h1 => by
    rw [PyData.canLayAll0, Bool.and_eq_true] at h
    obtain ⟨a, b⟩ := canAll_at (j := j) h.2 (by simpa using h1)
    exact ⟨a, by rw [PyData.depthAll]; exact Nat.le_trans b (Nat.le_max_right _ _)⟩
section
variable {X : Cx}
/-- what a comparison of tuples wants of the one of items -/
theorem tup_cmp {op : CmpOp} {f : PyData → PyData → Option Bool} {z : Nat → Nat → Bool} (hu : X.A.units + 65 < cLine)
    (base : ∀ {s : Shared} {l b : Addr} {items items2 : Array Value} {e r : Nat → Bool}, s.heap.IsTuple l items → s.heap.IsTuple b items2 →
      (∀ j (h1 : j < items.size) (h2 : j < items2.size), PySem.SeqAt.EqAt X.A.in1 s items[j] items2[j] (e j)) → (∀ j (h1 : j < items.size) (h2 : j < items2.size), e j = false → Ob.RcOp op X.A.in1 s items[j] items2[j] (r j)) →
      Ob.RcOp op X.A s (.ref l) (.ref b) (Ob.lexAt e r (z items.size items2.size) 0 (min items.size items2.size)))
    (one : ∀ {s : Shared} {x y : V} {u w : Value} {d e : PyData} {H : Hp} {k : Bool}, RelV x u → RelV y w → Dp X.K H x d → Dp X.K H y e → f d e = some k → Ob.RcOp op X.A.in1 s u w k)
    (hz : ∀ a b c, z (a + c) (b + c) = z a b) (hc : ∀ a b, compareOp op a b = richCompare op a b) :
    OpR X (compareOp op) (fun x y H Q => ∃ xs ys k, Dp X.K H x (.tuple xs) ∧ Dp X.K H y (.tuple ys) ∧ SeqAt.shaped (.tuple xs) = true ∧ SeqAt.shaped (.tuple ys) = true ∧ allS f xs ys = true ∧ lexO f z xs ys = some k ∧ Q (.bl k) H) := by
  intro pins s σ H x y v u Q I rx ry h
  obtain ⟨xs, ys, k, hx, hy, sx, sy, ha, hl, q⟩ := h
  cases hx with
  | tup t1 d1 =>
  cases hy with
  | tup t2 d2 =>
  cases rx
  cases ry
  obtain ⟨its, r1, p1, _⟩ := I.tuple t1
  obtain ⟨its2, r2, p2, _⟩ := I.tuple t2
  have l1 : its.toArray.size = xs.length := by rw [List.size_toArray, ← r1.length, dlen d1]
  have l2 : its2.toArray.size = ys.length := by rw [List.size_toArray, ← r2.length, dlen d2]
  have c1 := SeqAt.canLay_of_shaped sx
  have c2 := SeqAt.canLay_of_shaped sy
  have e1 := SeqAt.depth_of_shaped sx
  rw [PyData.depth] at e1
  have at1 : ∀ j (h1 : j < its.toArray.size), ∃ x d, RelV x its.toArray[j] ∧ Dp X.K H x d ∧ xs[j]? = some d := fun j h1 => by
    have h1' : j < its.length := by simpa using h1
    obtain ⟨x, a1, a2⟩ := vget r1 (List.getElem?_eq_getElem h1')
    obtain ⟨d, b1, b2⟩ := dget d1 a1
    exact ⟨x, d, by simpa using a2, b2, b1⟩
  have at2 : ∀ j (h1 : j < its2.toArray.size), ∃ x d, RelV x its2.toArray[j] ∧ Dp X.K H x d ∧ ys[j]? = some d := fun j h1 => by
    have h1' : j < its2.length := by simpa using h1
    obtain ⟨x, a1, a2⟩ := vget r2 (List.getElem?_eq_getElem h1')
    obtain ⟨d, b1, b2⟩ := dget d2 a1
    exact ⟨x, d, by simpa using a2, b2, b1⟩
  have R := base (s := s) (e := fun j => PyData.eqv (xs.getD j .none) (ys.getD j .none)) (r := fun j => (f (xs.getD j .none) (ys.getD j .none)).getD false) p1 p2 (fun j h1 h2 => by
    obtain ⟨a, d, a1, a2, a3⟩ := at1 j h1
    obtain ⟨b, e, b1, b2, b3⟩ := at2 j h2
    rw [List.getD_eq_getElem?_getD, List.getD_eq_getElem?_getD, a3, b3]
    obtain ⟨as, q1⟩ := Dp.reads I d a _ a2 a1
    obtain ⟨bs, q2⟩ := Dp.reads I e b _ b2 b1
    obtain ⟨m1, m2⟩ := canAll_at (show PyData.canLayAll0 xs = true from c1) a3
    obtain ⟨n1, _⟩ := canAll_at (show PyData.canLayAll0 ys = true from c2) b3
    exact PySem.SeqAt.eqAt_reads d e _ s _ _ as bs q1 q2 m1 n1 (by show X.A.units + 1 + min d.depth e.depth < cLine; omega)) (fun j h1 h2 _ => by
    obtain ⟨a, d, a1, a2, a3⟩ := at1 j h1
    obtain ⟨b, e, b1, b2, b3⟩ := at2 j h2
    rw [List.getD_eq_getElem?_getD, List.getD_eq_getElem?_getD, a3, b3]
    obtain ⟨k', hk⟩ := allS_at ha a3 b3
    show Ob.RcOp op X.A.in1 s _ _ ((f d e).getD false)
    rw [hk]
    exact one a1 b1 a2 b2 hk)
  rw [l1, l2] at R
  have ek := lex_at (i := 0) hz (e := fun j => PyData.eqv (xs.getD j .none) (ys.getD j .none)) (r := fun j => (f (xs.getD j .none) (ys.getD j .none)).getD false) hl fun j x y h1 h2 => by
    rw [Nat.zero_add]
    simp only [List.getD_eq_getElem?_getD, h1, h2, Option.getD_some]
    refine ⟨trivial, fun _ => ?_⟩
    obtain ⟨k', hk⟩ := allS_at ha h1 h2
    rw [hk]
    rfl
  rw [Nat.zero_add, Nat.zero_add] at ek
  rw [ek] at R
  rw [hc]
  exact R X.prog X.w X.xe (EP X pins σ Q) ⟨.bl _, H, I, rfl, q⟩
end
end PN

set_option maxRecDepth 100000
set_option maxHeartbeats 4000000
/-! PN, ninth part: order, sums, items, slices. -/
namespace PN
open PySem L2
section
variable {X : Cx}
theorem lt_one {A : Around} {s : Shared} {K : PySem.W.Frag} {x y : V} {u w : Value} {d e : PyData} {H : Hp} {k : Bool} (r1 : RelV x u) (r2 : RelV y w) (h1 : Dp K H x d) (h2 : Dp K H y e) (h : ltS d e = some k) : Ob.RcOp .Lt A s u w k := by
  cases h1 <;> cases h2 <;> first | (cases h; done) | skip
  · cases h
    obtain ⟨t, rfl⟩ := r1
    obtain ⟨t', rfl⟩ := r2
    exact Ob.RcOp.lt_int _ _ _ _
  · cases h
    obtain ⟨t, rfl⟩ := r1
    obtain ⟨t', rfl⟩ := r2
    exact fun _ _ _ _ q => PySem.P.lt_str q
theorem gt_one {A : Around} {s : Shared} {K : PySem.W.Frag} {x y : V} {u w : Value} {d e : PyData} {H : Hp} {k : Bool} (r1 : RelV x u) (r2 : RelV y w) (h1 : Dp K H x d) (h2 : Dp K H y e) (h : ltS e d = some k) : Ob.RcOp .Gt A s u w k := by
  cases h1 <;> cases h2 <;> first | (cases h; done) | skip
  · cases h
    obtain ⟨t, rfl⟩ := r1
    obtain ⟨t', rfl⟩ := r2
    exact Ob.RcOp.gt_int _ _ _ _
  · cases h
    obtain ⟨t, rfl⟩ := r1
    obtain ⟨t', rfl⟩ := r2
    exact fun _ _ _ _ q => PySem.P.gt_str q
theorem le_one {A : Around} {s : Shared} {K : PySem.W.Frag} {x y : V} {u w : Value} {d e : PyData} {H : Hp} {k : Bool} (r1 : RelV x u) (r2 : RelV y w) (h1 : Dp K H x d) (h2 : Dp K H y e) (h : leS d e = some k) : Ob.RcOp .LtE A s u w k := by
  cases h1 <;> cases h2 <;> first | (cases h; done) | skip
  · cases h
    obtain ⟨t, rfl⟩ := r1
    obtain ⟨t', rfl⟩ := r2
    exact Ob.RcOp.le_int _ _ _ _
  · cases h
    obtain ⟨t, rfl⟩ := r1
    obtain ⟨t', rfl⟩ := r2
    exact fun _ _ _ _ q => PySem.P.le_str q
theorem ge_one {A : Around} {s : Shared} {K : PySem.W.Frag} {x y : V} {u w : Value} {d e : PyData} {H : Hp} {k : Bool} (r1 : RelV x u) (r2 : RelV y w) (h1 : Dp K H x d) (h2 : Dp K H y e) (h : leS e d = some k) : Ob.RcOp .GtE A s u w k := by
  cases h1 <;> cases h2 <;> first | (cases h; done) | skip
  · cases h
    obtain ⟨t, rfl⟩ := r1
    obtain ⟨t', rfl⟩ := r2
    exact Ob.RcOp.ge_int _ _ _ _
  · cases h
    obtain ⟨t, rfl⟩ := r1
    obtain ⟨t', rfl⟩ := r2
    exact fun _ _ _ _ q => PySem.P.ge_str q

theorem o_lt (hu : X.A.units + 65 < cLine) : PrimOp X (compareOp .Lt) pLt := by
  refine ⟨_, OpR_or op_lt (OpR_or op_lt_str (tup_cmp (f := ltS) (z := fun m n => decide (m < n)) hu (fun {_ _ _ _ _ _ _} h1 h2 h3 h4 => Ob.RcOp.tuples_lt h1 h2 (by omega) h3 h4) (fun {_ _ _ _ _ _ _ _ _} => lt_one) (fun a b c => by rw [decide_eq_decide]; omega) (fun _ _ => rfl))), fun s t v u c B Q hd hs ht h => ?_⟩
  obtain ⟨d, e1, h⟩ := finP_bind h
  obtain ⟨e, e2, h⟩ := finP_bind h
  obtain ⟨b, e3, h⟩ := finP_bind h
  have p1 := valP_ok hd hs e1
  have p2 := valP_ok hd ht e2
  have q := fin_bool hd h
  unfold cmpD at e3
  split at e3
  · split at e3
    · rename_i xs ys _ z
      exact .inr (.inr ⟨xs, ys, b, p1, p2, z.1, z.2.1, z.2.2, e3, q⟩)
    · cases e3
  · cases p1 <;> cases p2 <;> first | (cases e3; done) | skip
    · cases e3
      exact .inl ⟨_, _, rfl, rfl, q⟩
    · cases e3
      exact .inr (.inl ⟨_, _, rfl, rfl, q⟩)

theorem o_le (hu : X.A.units + 65 < cLine) : PrimOp X (compareOp .LtE) pLe := by
  refine ⟨_, OpR_or op_le (OpR_or op_le_str (tup_cmp (f := leS) (z := fun m n => decide (m ≤ n)) hu (fun {_ _ _ _ _ _ _} h1 h2 h3 h4 => Ob.RcOp.tuples_le h1 h2 (by omega) h3 h4) (fun {_ _ _ _ _ _ _ _ _} => le_one) (fun a b c => by rw [decide_eq_decide]; omega) (fun _ _ => rfl))), fun s t v u c B Q hd hs ht h => ?_⟩
  obtain ⟨d, e1, h⟩ := finP_bind h
  obtain ⟨e, e2, h⟩ := finP_bind h
  obtain ⟨b, e3, h⟩ := finP_bind h
  have p1 := valP_ok hd hs e1
  have p2 := valP_ok hd ht e2
  have q := fin_bool hd h
  unfold cmpD at e3
  split at e3
  · split at e3
    · rename_i xs ys _ z
      exact .inr (.inr ⟨xs, ys, b, p1, p2, z.1, z.2.1, z.2.2, e3, q⟩)
    · cases e3
  · cases p1 <;> cases p2 <;> first | (cases e3; done) | skip
    · cases e3
      exact .inl ⟨_, _, rfl, rfl, q⟩
    · cases e3
      exact .inr (.inl ⟨_, _, rfl, rfl, q⟩)

theorem o_gt (hu : X.A.units + 65 < cLine) : PrimOp X (compareOp .Gt) pGt := by
  refine ⟨_, OpR_or op_gt (OpR_or op_gt_str (tup_cmp (f := fun d e => ltS e d) (z := fun m n => decide (n < m)) hu (fun {_ _ _ _ _ _ _} h1 h2 h3 h4 => Ob.RcOp.tuples_gt h1 h2 (by omega) h3 h4) (fun {_ _ _ _ _ _ _ _ _} => gt_one) (fun a b c => by rw [decide_eq_decide]; omega) (fun _ _ => rfl))), fun s t v u c B Q hd hs ht h => ?_⟩
  obtain ⟨d, e1, h⟩ := finP_bind h
  obtain ⟨e, e2, h⟩ := finP_bind h
  obtain ⟨b, e3, h⟩ := finP_bind h
  have p1 := valP_ok hd hs e1
  have p2 := valP_ok hd ht e2
  have q := fin_bool hd h
  unfold cmpD at e3
  split at e3
  · split at e3
    · rename_i xs ys _ z
      exact .inr (.inr ⟨xs, ys, b, p1, p2, z.1, z.2.1, z.2.2, e3, q⟩)
    · cases e3
  · cases p1 <;> cases p2 <;> first | (cases e3; done) | skip
    · cases e3
      exact .inl ⟨_, _, rfl, rfl, q⟩
    · cases e3
      exact .inr (.inl ⟨_, _, rfl, rfl, q⟩)

theorem o_ge (hu : X.A.units + 65 < cLine) : PrimOp X (compareOp .GtE) pGe := by
  refine ⟨_, OpR_or op_ge (OpR_or op_ge_str (tup_cmp (f := fun d e => leS e d) (z := fun m n => decide (n ≤ m)) hu (fun {_ _ _ _ _ _ _} h1 h2 h3 h4 => Ob.RcOp.tuples_ge h1 h2 (by omega) h3 h4) (fun {_ _ _ _ _ _ _ _ _} => ge_one) (fun a b c => by rw [decide_eq_decide]; omega) (fun _ _ => rfl))), fun s t v u c B Q hd hs ht h => ?_⟩
  obtain ⟨d, e1, h⟩ := finP_bind h
  obtain ⟨e, e2, h⟩ := finP_bind h
  obtain ⟨b, e3, h⟩ := finP_bind h
  have p1 := valP_ok hd hs e1
  have p2 := valP_ok hd ht e2
  have q := fin_bool hd h
  unfold cmpD at e3
  split at e3
  · split at e3
    · rename_i xs ys _ z
      exact .inr (.inr ⟨xs, ys, b, p1, p2, z.1, z.2.1, z.2.2, e3, q⟩)
    · cases e3
  · cases p1 <;> cases p2 <;> first | (cases e3; done) | skip
    · cases e3
      exact .inl ⟨_, _, rfl, rfl, q⟩
    · cases e3
      exact .inr (.inl ⟨_, _, rfl, rfl, q⟩)

theorem o_isN : PrimOp X (compareOp .Is) pIsN := by
  refine ⟨_, op_isN, fun s t v u c B Q hd hs ht h => ?_⟩
  cases t with
  | dat d =>
    cases d with
    | none =>
      refine ⟨rs_non ht, ?_⟩
      rw [isNon_ok hs]
      exact fin_bool hd h
    | _ => exact h.elim
  | _ => exact h.elim
theorem o_notN : PrimOp X (compareOp .IsNot) pNotN := by
  refine ⟨_, op_notN, fun s t v u c B Q hd hs ht h => ?_⟩
  cases t with
  | dat d =>
    cases d with
    | none =>
      refine ⟨rs_non ht, ?_⟩
      rw [isNon_ok hs]
      exact fin_bool hd h
    | _ => exact h.elim
  | _ => exact h.elim
end
/-! ### sums -/
def pSub : GP
  | [.dat (.int i), .dat (.int j)], B => int' (i - j) B
  | _, _ => none
def pFdiv : GP
  | [.dat (.int i), .dat (.int j)], B => if 0 < j ∧ j < 1073741824 then int' (i / j) B else none
  | _, _ => none
def pMod : GP
  | [.dat (.int i), .dat (.int j)], B => if 0 < j then int' (i % j) B else none
  | _, _ => none
def pPow : GP
  | [.dat (.int i), .dat (.int j)], B => if 0 ≤ j ∧ j ≤ 1000000 ∧ i.natAbs < 2 ^ 64 then int' (i ^ j.toNat) B else none
  | _, _ => none
def pNeg : GP
  | [.dat (.int i)], B => int' (-i) B
  | _, _ => none
/-- ints; a list so many times -/
def pMul : GP
  | [.dat (.int i), .dat (.int j)], B => if (-(2 ^ 64) < i ∧ i < 2 ^ 64) ∨ (-(2 ^ 64) < j ∧ j < 2 ^ 64) then int' (i * j) B else none
  | _, _ => none
/-- ints, texts, tuples, lists -/
def addS (B : Bs) (s t : S) : Option (S × Bs) := match s, t with
  | .dat (.int i), .dat (.int j) => int' (i + j) B
  | .dat (.str x), .dat (.str y) => if x.length + y.length ≤ sizeLine then str' (x ++ y) B else none
  | .dat (.tuple xs), .dat (.tuple ys) => if xs.length + ys.length ≤ sizeLine then some (.dat (.tuple (xs ++ ys)), B) else none
  | _, _ => (asM B s).bind fun xs => (asM B t).bind fun ys => (datsOf (xs ++ ys)).bind fun ds => if xs.length + ys.length ≤ sizeLine then some (.dat (.list ds), B) else none
def pAdd : GP
  | [s, t], B => addS B s t
  | _, _ => none
theorem paired_app {α β : Type} {F : α → β → Prop} : ∀ {xs : List α} {ys : List β} {zs : List α} {ws : List β}, Paired F xs ys → Paired F zs ws → Paired F (xs ++ zs) (ys ++ ws)
  | _, _, _, _, .nil, h => h
  | _, _, _, _, .cons a b, h => .cons a (paired_app b h)
section
variable {X : Cx}
theorem o_sub : PrimOp X (binaryOp .Sub) pSub := by
  refine ⟨_, op_sub, fun s t v u c B Q hd hs ht h => ?_⟩
  unfold pSub at h
  split at h
  · rename_i z; cases z
    exact ⟨_, _, rs_int hs, rs_int ht, fin_int hd h⟩
  · exact h.elim
theorem o_fdiv : PrimOp X (binaryOp .FloorDiv) pFdiv := by
  refine ⟨_, op_fdiv, fun s t v u c B Q hd hs ht h => ?_⟩
  unfold pFdiv at h
  split at h
  · rename_i z; cases z
    split at h
    · rename_i z
      exact ⟨_, _, rs_int hs, rs_int ht, z, fin_int hd h⟩
    · exact h.elim
  · exact h.elim
theorem o_mod : PrimOp X (binaryOp .Mod) pMod := by
  refine ⟨_, op_mod, fun s t v u c B Q hd hs ht h => ?_⟩
  unfold pMod at h
  split at h
  · rename_i z; cases z
    split at h
    · rename_i z
      exact ⟨_, _, rs_int hs, rs_int ht, z, fin_int hd h⟩
    · exact h.elim
  · exact h.elim
theorem o_pow : PrimOp X (binaryOp .Pow) pPow := by
  refine ⟨_, op_pow, fun s t v u c B Q hd hs ht h => ?_⟩
  unfold pPow at h
  split at h
  · rename_i z; cases z
    split at h
    · rename_i z
      exact ⟨_, _, rs_int hs, rs_int ht, z, fin_int hd h⟩
    · exact h.elim
  · exact h.elim
theorem o_mul : PrimOp X (binaryOp .Mult) pMul := by
  refine ⟨_, op_mul, fun s t v u c B Q hd hs ht h => ?_⟩
  unfold pMul at h
  split at h
  · rename_i z; cases z
    split at h
    · rename_i z
      exact ⟨_, _, rs_int hs, rs_int ht, z, fin_int hd h⟩
    · exact h.elim
  · exact h.elim
theorem o_neg : PrimUn X (unaryOp .USub) pNeg := by
  refine ⟨_, un_neg, fun s v c B Q hd hs h => ?_⟩
  unfold pNeg at h
  split at h
  · rename_i z; cases z
    exact ⟨_, rs_int hs, fin_int hd h⟩
  · exact h.elim
theorem o_add : PrimOp X (binaryOp .Add) pAdd := by
  refine ⟨_, OpR_or op_add (OpR_or op_add_str (OpR_or op_catA op_cat)), fun s t v u c B Q hd hs ht h => ?_⟩
  have h : FinP X.K X.mg c Q (addS B s t) := h
  unfold addS at h
  split at h
  · exact .inl ⟨_, _, rs_int hs, rs_int ht, fin_int hd h⟩
  · split at h
    · rename_i z
      exact .inr (.inl ⟨_, _, rs_str hs, rs_str ht, z, fin_str hd h⟩)
    · exact h.elim
  · split at h
    · rename_i xs ys _ z
      obtain ⟨a, vs, rfl, h1, h2⟩ := asT_ok (ss := xs.map S.dat) hs rfl
      obtain ⟨b, us, rfl, h3, h4⟩ := asT_ok (ss := ys.map S.dat) ht rfl
      have hs : Dq X.K c.G (.ref a) (.tuple xs) := hs
      have ht : Dq X.K c.G (.ref b) (.tuple ys) := ht
      have l1 : xs.length = vs.length := by have := paired_len h2; rwa [List.length_map] at this
      have l2 : ys.length = us.length := by have := paired_len h4; rwa [List.length_map] at this
      refine .inr (.inr (.inl ⟨a, b, vs, us, rfl, rfl, same_t hd.gh h1, same_t hd.gh h3, by omega, fun e => ?_, fun e1 e2 => ?_, fun e1 e2 p hp => ?_⟩))
      · have : xs = [] := List.eq_nil_of_length_eq_zero (by rw [l1, e]; rfl)
        subst this
        exact h c _ (Step.refl c) hd ht
      · have : ys = [] := List.eq_nil_of_length_eq_zero (by rw [l2, e2]; rfl)
        subst this
        exact h c _ (Step.refl c) hd (by rw [List.append_nil]; exact hs)
      · refine new_tup hd (dats_all (mg := X.mg) (ss := (xs ++ ys).map S.dat) (dats_map _) ?_) hp h
        rw [List.map_append]
        exact paired_app h2 h4
    · exact h.elim
  · obtain ⟨xs, e1, h⟩ := finP_bind h
    obtain ⟨ys, e2, h⟩ := finP_bind h
    obtain ⟨ds, e3, h⟩ := finP_bind h
    split at h
    · rename_i z
      obtain ⟨a, vs, rfl, h1, h2⟩ := asM_ok hd hs e1
      obtain ⟨b, us, rfl, h3, h4⟩ := asM_ok hd ht e2
      have l1 := paired_len h2
      have l2 := paired_len h4
      exact .inr (.inr (.inr ⟨a, b, vs, us, rfl, rfl, h1, h3, by omega, fun p hp => new_lst hd (dats_all e3 (paired_app h2 h4)) hp h⟩))
    · exact h.elim
end
end PN

set_option maxRecDepth 100000
set_option maxHeartbeats 4000000
/-! PN, tenth part: items, slices, built-in calls. -/
namespace PN
open PySem L2
/-! ### items -/
def itemS (B : Bs) (s : S) (i : Int) : Option S := match asL B s with
  | some ss => atI ss i
  | none => match asT s with
    | some ss => atI ss i
    | none => match s with
      | .dat (.str x) => if x.length ≤ sizeLine then (atI x.cps.toList i).map fun c => .dat (.str ⟨#[c]⟩) else none
      | _ => none
def pIx : GP
  | [s, .dat (.int i)], B => (itemS B s i).map fun t => (t, B)
  | _, _ => none
theorem paired_atI {α β : Type} {F : α → β → Prop} {xs : List α} {ys : List β} (h : Paired F xs ys) {i : Int} {x : α} (e : atI xs i = some x) : ∃ y, atI ys i = some y ∧ F x y := by
  unfold atI at e ⊢
  rw [← paired_len h]
  cases q : ixN xs.length i with
  | none => rw [q] at e; cases e
  | some j =>
    rw [q] at e
    obtain ⟨y, h1, h2⟩ := paired_get h (show xs[j]? = some x from e)
    exact ⟨y, h1, h2⟩
section
variable {X : Cx}
theorem x_ix : PrimIx X pIx := by
  refine ⟨_, ix_seq, fun s t v u c B Q hd hs ht h => ?_⟩
  cases t with
  | ref k => exact h.elim
  | fn x => exact h.elim
  | scr x => exact h.elim
  | dat d =>
  cases d with
  | none => exact h.elim
  | bool b => exact h.elim
  | str x => exact h.elim
  | list x => exact h.elim
  | tuple x => exact h.elim
  | dict x => exact h.elim
  | int i =>
  have h : FinP X.K X.mg c Q ((itemS B s i).map fun t => (t, B)) := h
  rw [rs_int ht]
  cases e : itemS B s i with
  | none => rw [e] at h; exact h.elim
  | some x =>
    rw [e] at h
    have h : ∀ c' v, Step c c' → Hold X.K X.mg c' B → RS X.K X.mg c' x v → Q v c'.H := h
    unfold itemS at e
    cases e1 : asL B s with
    | some ss =>
      rw [e1] at e
      obtain ⟨a, vs, rfl, h1, h2⟩ := asL_ok hd hs e1
      obtain ⟨y, h3, h4⟩ := paired_atI h2 e
      exact .inl ⟨a, vs, i, y, rfl, rfl, h1, h3, h c y (Step.refl c) hd h4⟩
    | none =>
      rw [e1] at e
      dsimp only at e
      cases e2 : asT s with
      | some ss =>
        rw [e2] at e
        obtain ⟨a, vs, rfl, h1, h2⟩ := asT_ok hs e2
        obtain ⟨y, h3, h4⟩ := paired_atI h2 e
        exact .inr (.inl ⟨a, vs, i, y, rfl, rfl, same_t hd.gh h1, h3, h c y (Step.refl c) hd h4⟩)
      | none =>
        rw [e2] at e
        dsimp only at e
        cases s with
        | dat d =>
          cases d with
          | str z =>
            dsimp only at e
            by_cases hz : z.length ≤ sizeLine
            · rw [if_pos hz] at e
              cases e3 : atI z.cps.toList i with
              | none => rw [e3] at e; cases e
              | some d =>
                rw [e3] at e
                cases e
                exact .inr (.inr ⟨z, i, d, rs_str hs, rfl, hz, e3, h c _ (Step.refl c) hd (.str _)⟩)
            · rw [if_neg hz] at e; cases e
          | _ => cases e
        | _ => cases e
end
/-! ### slices -/
def partD : S → Option (Option Int)
  | .dat .none => some none
  | .dat (.int i) => some (some i)
  | _ => none
def cutL {α : Type} (xs : List α) (lo hi : Option Int) : List α := (xs.drop (HT.sIx xs.length 0 lo)).take (HT.sIx xs.length xs.length hi - HT.sIx xs.length 0 lo)
def slV (B : Bs) (s : S) (lo hi : Option Int) : Option (S × Bs) := match s with
  | .dat (.tuple ds) => some (.dat (.tuple (cutL ds lo hi)), B)
  | .dat (.str x) => if x.length ≤ sizeLine then str' (cutS x lo hi) B else none
  | s => (asL B s).bind fun ss => (datsOf (cutL ss lo hi)).map fun ds => (.dat (.list ds), B)
def pSl : GP
  | [s, l, h], B => (partD l).bind fun lo => (partD h).bind fun hi => slV B s lo hi
  | _, _ => none
def gSl (ga gl gh : GE) : GE := gBind ga fun s => gBind gl fun l r B => match partD l with
  | some _ => gBind gh (fun h _ B => liftP (pSl [s, l, h] B)) r B
  | none => .bad
def gPart (g : GE) : GE := fun r B => match g r B with
  | .ok (.dat (.int i)) B1 => .ok (.dat (.int i)) B1
  | .exc x fs B1 => .exc x fs B1
  | _ => .bad
def rdO (K : PySem.W.Frag) (mg : Str → Option Value) (W : WX) (g : GE) : TO := fun σ H Q => rdE K mg W g σ H fun v H1 => match v with
  | .non => Q none H1
  | .int i => Q (some i) H1
  | _ => False
theorem SlR_or {X : Cx} {r r' : V → Option Int → Option Int → Hp → VK → Prop} (h : SlR X r) (h' : SlR X r') : SlR X (fun x lo hi H Q => r x lo hi H Q ∨ r' x lo hi H Q) := h.or h'
theorem paired_cut {α β : Type} {F : α → β → Prop} {xs : List α} {ys : List β} (h : Paired F xs ys) (lo hi : Option Int) : Paired F (cutL xs lo hi) (cutL ys lo hi) := by
  unfold cutL
  rw [paired_len h]
  have dr : ∀ {xs : List α} {ys : List β} (n : Nat), Paired F xs ys → Paired F (xs.drop n) (ys.drop n) := by
    intro xs ys n h
    induction n generalizing xs ys with
    | zero => exact h
    | succ n ih => cases h with
      | nil => exact .nil
      | cons a b => exact ih b
  have tk : ∀ {xs : List α} {ys : List β} (n : Nat), Paired F xs ys → Paired F (xs.take n) (ys.take n) := by
    intro xs ys n h
    induction n generalizing xs ys with
    | zero => exact .nil
    | succ n ih => cases h with
      | nil => exact .nil
      | cons a b => exact .cons a (ih b)
  exact tk _ (dr _ h)
section
variable {X : Cx} {W : WX} {pos p2 : Pos} {a : Expr} {lo hi : Option Expr} {ga gl gh : GE}
theorem po_no : PO X none (rdO X.K X.mg W (gC (.dat .none))) := ⟨fun pins s σ H Q I h => po_none.run pins s σ H Q I (by
  obtain ⟨r, B, c, rfl, hd, hr, h⟩ := h
  exact h c .non (Step.refl c) hd .non)⟩
theorem po_of (h : PE X a (rdE X.K X.mg W ga)) : PO X (some a) (rdO X.K X.mg W (gPart ga)) := ⟨fun pins s σ H Q I q => (po_some h).run pins s σ H Q I (by
  obtain ⟨r, B, c, rfl, hd, hr, q⟩ := q
  refine ⟨r, B, c, rfl, hd, hr, ?_⟩
  unfold gPart at q
  cases e : ga r B with
  | ok s B1 =>
    rw [e] at q
    cases s with
    | dat d =>
      cases d with
      | int i =>
        intro c' v st hd' hs
        have := rs_int hs
        subst this
        exact ⟨i, rfl, q c' (.int i) st hd' hs⟩
      | _ => exact q.elim
    | _ => exact q.elim
  | exc x fs B1 => rw [e] at q; exact q
  | bad => rw [e] at q; exact q)⟩
theorem sl_any : SlR X (fun x lo hi H Q => rSlL X.K x lo hi H Q ∨ rSlA X.K x lo hi H Q ∨ rSlS x lo hi H Q) := sl_list.or (sl_tupA.or sl_str)
theorem cutL_all {α : Type} {xs : List α} {lo hi : Option Int} (h : HT.sIx xs.length 0 lo = 0 ∧ HT.sIx xs.length xs.length hi = xs.length) : cutL xs lo hi = xs := by
  unfold cutL
  rw [h.1, h.2, List.drop_zero, Nat.sub_zero, List.take_length]
theorem sl_val {s : S} {v : V} {l u : S} {lo hi : Option Int} {c : Cf} {B : Bs} {Q : VK} (hd : Hold X.K X.mg c B) (hs : RS X.K X.mg c s v) (e1 : partD l = some lo) (e2 : partD u = some hi) (h : FinP X.K X.mg c Q (pSl [s, l, u] B)) :
    rSlL X.K v lo hi c.H Q ∨ rSlA X.K v lo hi c.H Q ∨ rSlS v lo hi c.H Q := by
  have lst : ∀ ss, asL B s = some ss → FinP X.K X.mg c Q ((datsOf (cutL ss lo hi)).map fun ds => (.dat (.list ds), B)) → rSlL X.K v lo hi c.H Q := fun ss e h => by
    obtain ⟨a, vs, rfl, h1, h2⟩ := asL_ok hd hs e
    cases e3 : datsOf (cutL ss lo hi) with
    | none => rw [e3] at h; exact h.elim
    | some ds =>
      rw [e3] at h
      exact ⟨a, vs, rfl, h1, fun p hp => new_lst hd (dats_all e3 (paired_cut h2 lo hi)) hp h⟩
  have h : FinP X.K X.mg c Q ((partD l).bind fun lo => (partD u).bind fun hi => slV B s lo hi) := h
  rw [e1, e2] at h
  have h : FinP X.K X.mg c Q (slV B s lo hi) := h
  clear e1 e2
  unfold slV at h
  split at h
  · rename_i ds _ _
    right; left
    obtain ⟨a, vs, rfl, h1, h2⟩ := asT_ok (ss := ds.map S.dat) hs rfl
    have hl : ds.length = vs.length := by have := paired_len h2; rwa [List.length_map] at this
    refine ⟨a, vs, rfl, same_t hd.gh h1, fun z => ?_, fun z p hp => ?_⟩
    · rw [← hl] at z
      rw [cutL_all z] at h
      exact h c _ (Step.refl c) hd hs
    · have q := paired_cut h2 lo hi
      have e : cutL (ds.map S.dat) lo hi = (cutL ds lo hi).map S.dat := by
        unfold cutL
        rw [List.length_map, List.map_take, List.map_drop]
      rw [e] at q
      exact new_tup hd (dats_all (mg := X.mg) (dats_map _) q) hp h
  · rename_i z _ _
    right; right
    split at h
    · rename_i hz
      exact ⟨z, rs_str hs, hz, fin_str hd h⟩
    · exact h.elim
  · left
    cases e : asL B s with
    | none => rw [e] at h; exact h.elim
    | some ss => rw [e] at h; exact lst ss e h
theorem r_sl (ha : PE X a (rdE X.K X.mg W ga)) (hl : PO X lo (rdO X.K X.mg W gl)) (hh : PO X hi (rdO X.K X.mg W gh)) : PE X (.Subscript a (.Slice lo hi none p2) pos) (rdE X.K X.mg W (gSl ga gl gh)) := by
  refine PE_le (pe_slice sl_any ha hl hh) fun σ H Q h => ?_
  refine rdE_mono (rd_one h) fun v H1 ⟨c, s, B, r, e, hd, hr, hs, h⟩ => ?_
  subst e
  refine rdE_mono (fin_bind hd hr h) fun v2 H2 ⟨c2, l, B2, e2, st2, hd2, hr2, hl2, h2⟩ => ?_
  subst e2
  have go : ∀ lo, partD l = some lo → Fin X.K X.mg W c2 σ Q (gBind gh (fun h _ B => liftP (pSl [s, l, h] B)) r B2) → rdO X.K X.mg W gh σ c2.H fun u H3 => (fun x lo hi H Q => rSlL X.K x lo hi H Q ∨ rSlA X.K x lo hi H Q ∨ rSlS x lo hi H Q) v lo u H3 Q := fun lo el h2 => by
    refine rdE_mono (fin_bind hd2 hr2 h2) fun v3 H3 ⟨c3, u, B3, e3, st3, hd3, hr3, hl3, h3⟩ => ?_
    subst e3
    have h3 := finP_of h3
    have hv := RS.mono (st2.trans st3) hs
    cases eu : partD u with
    | none =>
      have h3 : FinP X.K X.mg c3 Q ((partD l).bind fun lo => (partD u).bind fun hi => slV B3 s lo hi) := h3
      rw [el, eu] at h3
      exact h3.elim
    | some hi =>
      have q := sl_val hd3 hv el eu h3
      unfold partD at eu
      split at eu
      · cases eu; rw [rs_non hl3]; exact q
      · cases eu; rw [rs_int hl3]; exact q
      · cases eu
  cases el : partD l with
  | none => simp only [el] at h2; exact h2.elim
  | some lo =>
    simp only [el] at h2
    have q := go lo el h2
    unfold partD at el
    split at el
    · cases el; rw [rs_non hl2]; exact q
    · cases el; rw [rs_int hl2]; exact q
    · cases el
end
end PN

set_option maxRecDepth 100000
set_option maxHeartbeats 4000000
/-! PN, eleventh part: calls of built-ins and their methods. -/
namespace PN
open PySem L2
section
variable {X : Cx}
/-- of one argument -/
theorem call1 {b : Value} {f : GP} {R : List V → Hp → VK → Prop} (hc : CallR X b R) (hf : ∀ ss B, ss.length ≠ 1 → f ss B = none)
    (h : ∀ (s : S) (v : V) (c : Cf) (B : Bs) (Q : VK), Hold X.K X.mg c B → RS X.K X.mg c s v → FinP X.K X.mg c Q (f [s] B) → R [v] c.H Q) : PrimCall X b f := by
  refine ⟨R, hc, fun ss vs c B Q hd hs q => ?_⟩
  cases hs with
  | nil => rw [hf [] B (by decide)] at q; exact q.elim
  | cons a b =>
    cases b with
    | nil => exact h _ _ c B Q hd a q
    | cons a' b' => rw [hf _ B (by simp)] at q; exact q.elim
theorem call2 {b : Value} {f : GP} {R : List V → Hp → VK → Prop} (hc : CallR X b R) (hf : ∀ ss B, ss.length ≠ 2 → f ss B = none)
    (h : ∀ (s t : S) (v u : V) (c : Cf) (B : Bs) (Q : VK), Hold X.K X.mg c B → RS X.K X.mg c s v → RS X.K X.mg c t u → FinP X.K X.mg c Q (f [s, t] B) → R [v, u] c.H Q) : PrimCall X b f := by
  refine ⟨R, hc, fun ss vs c B Q hd hs q => ?_⟩
  cases hs with
  | nil => rw [hf [] B (by decide)] at q; exact q.elim
  | cons a b =>
    cases b with
    | nil => rw [hf _ B (by simp)] at q; exact q.elim
    | cons a' b' =>
      cases b' with
      | nil => exact h _ _ _ _ c B Q hd a a' q
      | cons a'' b'' => rw [hf _ B (by simp)] at q; exact q.elim
end
/-! ### len -/
def lenS (B : Bs) (s : S) : Option Nat := match asL B s with
  | some ss => some ss.length
  | none => match asT s with
    | some ss => some ss.length
    | none => match s with
      | .dat (.str x) => if x.length ≤ sizeLine then some x.length else none
      | _ => none
def one? (f : Bs → S → Option (S × Bs)) : GP
  | [s], B => f B s
  | _, _ => none
def two? (f : Bs → S → S → Option (S × Bs)) : GP
  | [s, t], B => f B s t
  | _, _ => none
theorem one_no {f : Bs → S → Option (S × Bs)} : ∀ ss B, ss.length ≠ 1 → one? f ss B = none
  | [], _, _ => rfl
  | [_], _, h => absurd rfl h
  | _ :: _ :: _, _, _ => rfl
theorem two_no {f : Bs → S → S → Option (S × Bs)} : ∀ ss B, ss.length ≠ 2 → two? f ss B = none
  | [], _, _ => rfl
  | [_], _, _ => rfl
  | [_, _], _, h => absurd rfl h
  | _ :: _ :: _ :: _, _, _ => rfl
def pLen : GP := one? fun B s => (lenS B s).bind fun n => int' (n : Int) B
/-! str, int -/
def strS (B : Bs) (s : S) : Option (S × Bs) := match s with
  | .dat (.int i) => if i.natAbs.log2 < 1920 then str' (toString i) B else none
  | _ => none
def pStr : GP := one? strS
def intS (B : Bs) (s : S) : Option (S × Bs) := match s with
  | .dat (.int i) => int' i B
  | .dat (.bool b) => int' (if b then 1 else 0) B
  | .dat (.str x) => if x.length ≤ 640 then (PySem.intText? x).bind fun n => int' n B else none
  | _ => none
def pInt : GP := one? intS
def minS (B : Bs) (s t : S) : Option (S × Bs) := match s, t with
  | .dat (.int i), .dat (.int j) => int' (if j < i then j else i) B
  | _, _ => none
def pMin2 : GP := two? minS
def maxS (B : Bs) (s t : S) : Option (S × Bs) := match s, t with
  | .dat (.int i), .dat (.int j) => int' (if j > i then j else i) B
  | _, _ => none
def pMax2 : GP := two? maxS
def absS (B : Bs) (s : S) : Option (S × Bs) := match s with
  | .dat (.int i) => int' (if i < 0 then -i else i) B
  | _ => none
def pAbs : GP := one? absS
def tupS (B : Bs) (s : S) : Option (S × Bs) := match s with
  | .dat (.tuple ds) => some (.dat (.tuple ds), B)
  | s => (asL B s).bind fun ss => (datsOf ss).map fun ds => (.dat (.tuple ds), B)
def pTupleOf : GP := one? tupS
def asQ (B : Bs) (s : S) : Option (List S) := match asL B s with
  | some ss => some ss
  | none => asT s
def pListOf : GP := one? fun B s => (asQ B s).bind fun ss => (datsOf ss).map fun ds => (.dat (.list ds), B)
def pListOfA : GP := one? fun B s => (asQ B s).bind fun ss => some (.ref B.length, B ++ [some (.lst ss)])
def intsOf : List S → Option (List Int)
  | [] => some []
  | .dat (.int i) :: r => (intsOf r).map (i :: ·)
  | _ :: _ => none
def boolsOf : List S → Option (List Bool)
  | [] => some []
  | .dat (.bool i) :: r => (boolsOf r).map (i :: ·)
  | _ :: _ => none
def strsOf : List S → Option (List Str)
  | [] => some []
  | .dat (.str i) :: r => (strsOf r).map (i :: ·)
  | _ :: _ => none
def pSum : GP := one? fun B s => (asL B s).bind fun ss => (intsOf ss).bind fun ns => int' ns.sum B
def pAll : GP := one? fun B s => (asL B s).bind fun ss => (boolsOf ss).bind fun bs => bool' (bs.all id) B
def pAny : GP := one? fun B s => (asL B s).bind fun ss => (boolsOf ss).bind fun bs => bool' (bs.any id) B
def pRepr : GP := one? fun B s => (valD B s).bind fun d => if d.showable = true ∧ d.shown.length ≤ sizeLine ∧ d.depth ≤ 64 then str' d.shown B else none
section
variable {K : PySem.W.Frag} {mg : Str → Option Value} {c : Cf}
theorem intsOf_ok : ∀ {ss : List S} {ns : List Int} {vs : List V}, intsOf ss = some ns → Paired (RS K mg c) ss vs → vs = ns.map V.int
  | [], _, _, h, .nil => by cases h; rfl
  | .dat (.int i) :: r, _, _, h, .cons a b => by
    have h : (intsOf r).map (i :: ·) = some _ := h
    cases e : intsOf r with
    | none => rw [e] at h; cases h
    | some ns => rw [e] at h; cases h; rw [rs_int a, intsOf_ok e b]; rfl
theorem boolsOf_ok : ∀ {ss : List S} {ns : List Bool} {vs : List V}, boolsOf ss = some ns → Paired (RS K mg c) ss vs → vs = ns.map V.bl
  | [], _, _, h, .nil => by cases h; rfl
  | .dat (.bool i) :: r, _, _, h, .cons a b => by
    have h : (boolsOf r).map (i :: ·) = some _ := h
    cases e : boolsOf r with
    | none => rw [e] at h; cases h
    | some ns => rw [e] at h; cases h; rw [rs_bool a, boolsOf_ok e b]; rfl
theorem strsOf_ok : ∀ {ss : List S} {ns : List Str} {vs : List V}, strsOf ss = some ns → Paired (RS K mg c) ss vs → vs = ns.map V.str
  | [], _, _, h, .nil => by cases h; rfl
  | .dat (.str i) :: r, _, _, h, .cons a b => by
    have h : (strsOf r).map (i :: ·) = some _ := h
    cases e : strsOf r with
    | none => rw [e] at h; cases h
    | some ns => rw [e] at h; cases h; rw [rs_str a, strsOf_ok e b]; rfl
theorem asQ_ok {B : Bs} {s : S} {v : V} {ss : List S} (hd : Hold K mg c B) (h : RS K mg c s v) (e : asQ B s = some ss) : ∃ a vs, v = .ref a ∧ (SqL K c.H a vs ∨ SqT K c.H a vs) ∧ Paired (RS K mg c) ss vs := by
  unfold asQ at e
  cases e1 : asL B s with
  | some s1 =>
    rw [e1] at e; cases e
    obtain ⟨a, vs, h1, h2, h3⟩ := asL_ok hd h e1
    exact ⟨a, vs, h1, .inl h2, h3⟩
  | none =>
    rw [e1] at e
    obtain ⟨a, vs, h1, h2, h3⟩ := asT_ok h e
    exact ⟨a, vs, h1, .inr (same_t hd.gh h2), h3⟩
end
section
variable {X : Cx}
theorem b_len : PrimCall X (.builtin "len") pLen := by
  refine call1 (CallR_or call_len_seq call_len_str) one_no fun s v c B Q hd hs h => ?_
  obtain ⟨n, e, h⟩ := finP_bind (show FinP X.K X.mg c Q ((lenS B s).bind fun n => int' (n : Int) B) from h)
  have q := fin_int hd h
  unfold lenS at e
  cases e1 : asL B s with
  | some ss =>
    rw [e1] at e
    cases e
    obtain ⟨a, vs, rfl, h1, h2⟩ := asL_ok hd hs e1
    exact .inl ⟨a, vs, rfl, .inl h1, by rw [← paired_len h2]; exact q⟩
  | none =>
    rw [e1] at e
    dsimp only at e
    cases e2 : asT s with
    | some ss =>
      rw [e2] at e
      cases e
      obtain ⟨a, vs, rfl, h1, h2⟩ := asT_ok hs e2
      exact .inl ⟨a, vs, rfl, .inr (same_t hd.gh h1), by rw [← paired_len h2]; exact q⟩
    | none =>
      rw [e2] at e
      dsimp only at e
      split at e
      · rename_i x
        split at e
        · rename_i z
          cases e
          exact .inr ⟨x, by rw [rs_str hs], z, q⟩
        · cases e
      · cases e
theorem b_str : PrimCall X (.type "str") pStr := by
  refine call1 call_str_int one_no fun s v c B Q hd hs h => ?_
  have h : FinP X.K X.mg c Q (strS B s) := h
  unfold strS at h
  split at h
  · split at h
    · rename_i z
      exact ⟨_, by rw [rs_int hs], z, fin_str hd h⟩
    · exact h.elim
  · exact h.elim
theorem b_int : PrimCall X (.type "int") pInt := by
  refine call1 (CallR_or call_int1 call_int_str) one_no fun s v c B Q hd hs h => ?_
  have h : FinP X.K X.mg c Q (intS B s) := h
  unfold intS at h
  split at h
  · exact .inl (.inl ⟨_, by rw [rs_int hs], fin_int hd h⟩)
  · exact .inl (.inr ⟨_, by rw [rs_bool hs], fin_int hd h⟩)
  · split at h
    · rename_i z
      obtain ⟨n, e, h⟩ := finP_bind h
      exact .inr ⟨_, n, by rw [rs_str hs], e, z, fin_int hd h⟩
    · exact h.elim
  · exact h.elim
theorem b_min2 (hc : X.calm = true) : PrimCall X (.builtin "min") pMin2 := by
  refine call2 (call_min2 hc) two_no fun s t v u c B Q hd hs ht h => ?_
  have h : FinP X.K X.mg c Q (minS B s t) := h
  unfold minS at h
  split at h
  · exact ⟨_, _, by rw [rs_int hs, rs_int ht], fin_int hd h⟩
  · exact h.elim
theorem b_max2 (hc : X.calm = true) : PrimCall X (.builtin "max") pMax2 := by
  refine call2 (call_max2 hc) two_no fun s t v u c B Q hd hs ht h => ?_
  have h : FinP X.K X.mg c Q (maxS B s t) := h
  unfold maxS at h
  split at h
  · exact ⟨_, _, by rw [rs_int hs, rs_int ht], fin_int hd h⟩
  · exact h.elim
theorem b_abs : PrimCall X (.builtin "abs") pAbs := by
  refine call1 call_abs one_no fun s v c B Q hd hs h => ?_
  have h : FinP X.K X.mg c Q (absS B s) := h
  unfold absS at h
  split at h
  · exact ⟨_, by rw [rs_int hs], fin_int hd h⟩
  · exact h.elim
theorem b_tuple : PrimCall X (.type "tuple") pTupleOf := by
  refine call1 call_tuple_of one_no fun s v c B Q hd hs h => ?_
  have h : FinP X.K X.mg c Q (tupS B s) := h
  unfold tupS at h
  split at h
  · rename_i ds _
    obtain ⟨a, vs, rfl, h1, h2⟩ := asT_ok (ss := ds.map S.dat) hs rfl
    exact ⟨a, vs, rfl, .inr ⟨same_t hd.gh h1, h c _ (Step.refl c) hd hs⟩⟩
  · obtain ⟨ss, e, h⟩ := finP_bind h
    obtain ⟨a, vs, rfl, h1, h2⟩ := asL_ok hd hs e
    cases e2 : datsOf ss with
    | none => rw [e2] at h; exact h.elim
    | some ds =>
      rw [e2] at h
      exact ⟨a, vs, rfl, .inl ⟨h1, fun p hp => new_tup hd (dats_all e2 h2) hp h⟩⟩
theorem b_list : PrimCall X (.type "list") pListOf := by
  refine call1 call_list_of one_no fun s v c B Q hd hs h => ?_
  obtain ⟨ss, e, h⟩ := finP_bind (show FinP X.K X.mg c Q ((asQ B s).bind fun ss => (datsOf ss).map fun ds => (.dat (.list ds), B)) from h)
  obtain ⟨a, vs, rfl, h1, h2⟩ := asQ_ok hd hs e
  cases e2 : datsOf ss with
  | none => rw [e2] at h; exact h.elim
  | some ds =>
    rw [e2] at h
    exact ⟨a, vs, rfl, h1, fun p hp => new_lst hd (dats_all e2 h2) hp h⟩
theorem b_listA : PrimCall X (.type "list") pListOfA := by
  refine call1 call_list_of one_no fun s v c B Q hd hs h => ?_
  obtain ⟨ss, e, h⟩ := finP_bind (show FinP X.K X.mg c Q ((asQ B s).bind fun ss => some (.ref B.length, B ++ [some (.lst ss)])) from h)
  obtain ⟨a, vs, rfl, h1, h2⟩ := asQ_ok hd hs e
  exact ⟨a, vs, rfl, h1, fun p hp => new_lstA hd h2 hp h⟩
theorem b_sum (hc : X.calm = true) : PrimCall X (.builtin "sum") pSum := by
  refine call1 (cr_sum hc) one_no fun s v c B Q hd hs h => ?_
  obtain ⟨ss, e, h⟩ := finP_bind (show FinP X.K X.mg c Q ((asL B s).bind fun ss => (intsOf ss).bind fun ns => int' ns.sum B) from h)
  obtain ⟨ns, e2, h⟩ := finP_bind h
  obtain ⟨a, vs, rfl, h1, h2⟩ := asL_ok hd hs e
  exact ⟨a, ns, rfl, by rw [← intsOf_ok e2 h2]; exact h1, fin_int hd h⟩
theorem b_all (hc : X.calm = true) : PrimCall X (.builtin "all") pAll := by
  refine call1 (cr_all hc) one_no fun s v c B Q hd hs h => ?_
  obtain ⟨ss, e, h⟩ := finP_bind (show FinP X.K X.mg c Q ((asL B s).bind fun ss => (boolsOf ss).bind fun bs => bool' (bs.all id) B) from h)
  obtain ⟨ns, e2, h⟩ := finP_bind h
  obtain ⟨a, vs, rfl, h1, h2⟩ := asL_ok hd hs e
  exact ⟨a, ns, rfl, by rw [← boolsOf_ok e2 h2]; exact h1, fin_bool hd h⟩
theorem b_any (hc : X.calm = true) : PrimCall X (.builtin "any") pAny := by
  refine call1 (cr_any hc) one_no fun s v c B Q hd hs h => ?_
  obtain ⟨ss, e, h⟩ := finP_bind (show FinP X.K X.mg c Q ((asL B s).bind fun ss => (boolsOf ss).bind fun bs => bool' (bs.any id) B) from h)
  obtain ⟨ns, e2, h⟩ := finP_bind h
  obtain ⟨a, vs, rfl, h1, h2⟩ := asL_ok hd hs e
  exact ⟨a, ns, rfl, by rw [← boolsOf_ok e2 h2]; exact h1, fin_bool hd h⟩
def rReprD (K : PySem.W.Frag) : List V → Hp → VK → Prop := fun xs H Q => ∃ x d, xs = [x] ∧ Dp K H x d ∧ d.showable = true ∧ d.shown.length ≤ sizeLine ∧ d.depth ≤ 64 ∧ Q (.str d.shown) H
mutual
theorem noDict {K : PySem.W.Frag} {H : Hp} : ∀ (d : PyData) (v : V), Dp K H v d → d.hasDict = false
  | .none, _, _ => rfl
  | .bool _, _, _ => rfl
  | .int _, _, _ => rfl
  | .str _, _, _ => rfl
  | .list ds, _, h => by
    cases h with
    | lst _ h2 => rw [PyData.hasDict]; exact noDictAll ds _ h2
  | .tuple ds, _, h => by
    cases h with
    | tup _ h2 => rw [PyData.hasDict]; exact noDictAll ds _ h2
  | .dict _, _, h => by cases h
theorem noDictAll {K : PySem.W.Frag} {H : Hp} : ∀ (ds : List PyData) (vs : List V), DpAll K H vs ds → PyData.hasDictAll ds = false
  | [], _, _ => rfl
  | d :: ds, _, h => by
    cases h with
    | cons h1 h2 => rw [PyData.hasDictAll, noDict d _ h1, noDictAll ds _ h2]; rfl
end
theorem cr_repr (hg : X.A.guards = some []) (hu : X.A.units + 66 < cLine) : CallR X (.builtin "repr") (rReprD X.K) := by
  intro pins s σ H xs us Q I r h
  obtain ⟨x, d, rfl, hx, h1, h2, h3, q⟩ := h
  cases r with
  | cons r1 r2 =>
  cases r2
  rename_i u
  obtain ⟨as, rd⟩ := Dp.reads I d x u hx r1
  have nd := noDict d x hx
  have big : ∀ a, u = .ref a → wpAny (model X.prog X.w) X.A (call (.builtin "repr") [u]) (EP X pins σ Q) X.xe s := fun a e => by
    subst e
    exact repr_of_reads' rd h1 (PyData.noDict_hsm nd) hg (by omega) (fun _ _ q => q) (fun h' t k kk => ⟨.str d.shown, H, I.kept kk, ⟨_, rfl⟩, q⟩) h2
  cases hx with
  | non =>
    cases r1
    exact PySem.P.repr_of_none ⟨.str "None", H, I.tok _, ⟨_, rfl⟩, q⟩
  | bl b =>
    cases r1
    exact PySem.P.repr_of_bool ⟨.str (if b then "True" else "False"), H, I.tok _, ⟨_, rfl⟩, by cases b <;> exact q⟩
  | int i =>
    obtain ⟨t, rfl⟩ := r1
    exact PySem.P.repr_of_int (of_decide_eq_true h1) ⟨.str (toString i), H, I.tok _, ⟨_, rfl⟩, q⟩
  | str z =>
    obtain ⟨t, rfl⟩ := r1
    exact PySem.P.repr_of_str ⟨.str (reprText z), H, I.tok _, ⟨_, rfl⟩, q⟩ h2
  | lst a b => exact big _ r1
  | tup a b => exact big _ r1
theorem b_repr (hg : X.A.guards = some []) (hu : X.A.units + 66 < cLine) : PrimCall X (.builtin "repr") pRepr := by
  refine call1 (cr_repr hg hu) one_no fun s v c B Q hd hs h => ?_
  obtain ⟨d, e, h⟩ := finP_bind (show FinP X.K X.mg c Q ((valD B s).bind fun d => if d.showable = true ∧ d.shown.length ≤ sizeLine ∧ d.depth ≤ 64 then str' d.shown B else none) from h)
  split at h
  · rename_i z
    exact ⟨v, d, rfl, valP_ok hd hs e, z.1, z.2.1, z.2.2, fin_str hd h⟩
  · exact h.elim
end
end PN

set_option maxRecDepth 100000
set_option maxHeartbeats 4000000
/-! PN, twelfth part: methods of lists and texts, stores into lists, isinstance. -/
namespace PN
open PySem L2
/-- a text (true), a list (false) -/
def isK (k : Bool) (B : Bs) (s : S) : Bool := match k with
  | true => (match s with | .dat (.str _) => true | _ => false)
  | false => (asL B s).isSome
def kindN (k : Bool) : String := if k then "str" else "list"
def gMt (k : Bool) (f : GP) (go : GE) (ga : GA) : GE := gBind go fun s r B => if isK k B s = true then gBindA ga (fun ss _ B2 => liftP (f (s :: ss) B2)) r B else .bad
def PrimMt (X : Cx) (id : String) (f : GP) : Prop := ∃ r, MtR X id r ∧ ∀ (s : S) (ss : List S) (v : V) (vs : List V) (c : Cf) (B : Bs) (Q : VK), Hold X.K X.mg c B → RS X.K X.mg c s v → Paired (RS X.K X.mg c) ss vs → FinP X.K X.mg c Q (f (s :: ss) B) → r v vs c.H Q
theorem isK_ty {K : PySem.W.Frag} {mg : Str → Option Value} {c : Cf} {B : Bs} {k : Bool} {s : S} {v : V} (hd : Hold K mg c B) (hs : RS K mg c s v) (h : isK k B s = true) : tyV K (kindN k) v c.H := by
  cases k with
  | true =>
    unfold isK at h
    dsimp only at h
    split at h
    · rw [rs_str hs]; rfl
    · cases h
  | false =>
    have h : (asL B s).isSome = true := h
    obtain ⟨ss, e⟩ := Option.isSome_iff_exists.mp h
    obtain ⟨a, vs, rfl, h1, _⟩ := asL_ok hd hs e
    exact .inl ⟨rfl, vs, h1⟩
section
variable {X : Cx} {W : WX} {apos cpos : Pos} {o e : Expr} {es : List Expr} {go : GE} {ga : GA} {f : GP} {id : String} {name : Str}
theorem r_mt {k : Bool} (pa : PlainAttrs (kindN k)) (slot : Slot (kindN k) name id) (hty : typeOf (.builtin id) = pure (.type "method_descriptor")) (hm : PrimMt X id f) (ho : PE X o (rdE X.K X.mg W go)) (ha : PA X (e :: es) (rdA X.K X.mg W ga))
    (hbase : attributeBase o name X.env (eval o X.env) = eval o X.env)
    (hfew : ((backTo cpos (starEach (e :: es) X.env)).all (fun x => !x.1) && (backToKw cpos (keywordEach [] X.env)).all (fun x => x.1.isSome)
      && decide ((e :: es).length + ([] : List Keyword).length + (if ([] : List Keyword).isEmpty then 0 else 1) < 30)) = true)
    (hline : (apos.endLine == cpos.line) = true) (hs : starEach (e :: es) X.env = (false, eval e X.env) :: starEach es X.env) (hplain : (backTo cpos (starEach es X.env)).any (·.1) = false) :
    PE X (.Call (.Attribute o name apos) (e :: es) [] cpos) (rdE X.K X.mg W (gMt k f go ga)) := by
  obtain ⟨r, hr, hp⟩ := hm
  refine PE_le (pe_bm pa slot hty hr ho ha hbase hfew hline hs hplain) fun σ H Q h => rdE_mono (rd_one h) fun v H1 ⟨c, s, B, ρ, e, hd, hr, hs, h⟩ => ?_
  subst e
  by_cases q : isK k B s = true
  · rw [if_pos q] at h
    refine ⟨isK_ty hd hs q, rdA_mono (fin_bindA hd hr h) fun vs H2 ⟨c2, ss, B2, e2, st2, hd2, hr2, hs2, h2⟩ => ?_⟩
    subst e2
    exact hp s ss v vs c2 B2 Q hd2 (RS.mono st2 hs) hs2 (finP_of h2)
  · rw [if_neg q] at h; exact h.elim
theorem r_mt0 {k : Bool} (pa : PlainAttrs (kindN k)) (slot : Slot (kindN k) name id) (hty : typeOf (.builtin id) = pure (.type "method_descriptor")) (hm : PrimMt X id f) (ho : PE X o (rdE X.K X.mg W go))
    (hbase : attributeBase o name X.env (eval o X.env) = eval o X.env) (hline : (apos.endLine == cpos.line) = true) :
    PE X (.Call (.Attribute o name apos) [] [] cpos) (rdE X.K X.mg W (gMt k f go gNil)) := by
  obtain ⟨r, hr, hp⟩ := hm
  refine PE_le (pe_bm0 pa slot hty hr ho hbase hline) fun σ H Q h => rdE_mono (rd_one h) fun v H1 ⟨c, s, B, ρ, e, hd, hr, hs, h⟩ => ?_
  subst e
  by_cases q : isK k B s = true
  · rw [if_pos q] at h
    exact ⟨isK_ty hd hs q, hp s [] v [] c B Q hd hs .nil (finP_of h)⟩
  · rw [if_neg q] at h; exact h.elim
end
/-! ### lists -/
/-- the list at a place -/
def atM (B : Bs) (k : Nat) : Option (List S) := match B[k]? with
  | some (some (.lst ss)) => some ss
  | _ => none
def pAppend : GP
  | [.ref k, x], B => (atM B k).bind fun ss => if ss.length < sizeLine then some (.dat .none, B.set k (some (.lst (ss ++ [x])))) else none
  | _, _ => none
def pExtend : GP
  | [.ref k, y], B => (atM B k).bind fun ss => (asM B y).bind fun zs => if ss.length + zs.length ≤ sizeLine then some (.dat .none, B.set k (some (.lst (ss ++ zs)))) else none
  | _, _ => none
def pPop : GP
  | [.ref k], B => (atM B k).bind fun ss => (ss[ss.length - 1]?).bind fun x => some (x, B.set k (some (.lst ss.dropLast)))
  | _, _ => none
def pSetL (B : Bs) (o i v : S) : Option Bs := match o, i with
  | .ref k, .dat (.int n) => (atM B k).bind fun ss => (ixN ss.length n).bind fun j => some (B.set k (some (.lst (ss.set j v))))
  | _, _ => none
theorem atM_ok {K : PySem.W.Frag} {mg : Str → Option Value} {c : Cf} {B : Bs} {k : Nat} {v : V} {ss : List S} (hd : Hold K mg c B) (hs : RS K mg c (.ref k) v) (e : atM B k = some ss) :
    ∃ a vs, v = .ref a ∧ c.al[k]? = some a ∧ c.H a = some (.lst vs) ∧ Paired (RS K mg c) ss vs ∧ B[k]? = some (some (.lst ss)) := by
  unfold atM at e
  obtain ⟨a, h1, h2⟩ := hs
  cases q : B[k]? with
  | none => rw [q] at e; cases e
  | some o =>
    cases o with
    | none => rw [q] at e; cases e
    | some mo =>
      rw [q] at e
      cases mo with
      | lst ss' =>
        cases e
        obtain ⟨a', ho, g1, g2, g3, g4⟩ := hd.ob k _ q
        have ea : a' = a := Option.some.inj (g1.symm.trans h1)
        subst ea
        cases ho with
        | lst vs => exact ⟨a', vs, h2, h1, g3, g4, rfl⟩
        | _ => exact g4.elim
      | _ => cases e
theorem paired_last {α β : Type} {F : α → β → Prop} : ∀ {xs : List α} {ys : List β}, Paired F xs ys → Paired F xs.dropLast ys.dropLast
  | _, _, .nil => .nil
  | _, _, .cons a .nil => .nil
  | _, _, .cons a (.cons b t) => .cons a (paired_last (.cons b t))
theorem paired_set {α β : Type} {F : α → β → Prop} {x : α} {y : β} (h : F x y) : ∀ {xs : List α} {ys : List β} (j : Nat), Paired F xs ys → Paired F (xs.set j x) (ys.set j y)
  | _, _, _, .nil => .nil
  | _, _, 0, .cons a t => .cons h t
  | _, _, j + 1, .cons a t => .cons a (paired_set h j t)
section
variable {X : Cx}
theorem m_append : PrimMt X "list.append" pAppend := by
  refine ⟨_, mt_append, fun s ss v vs c B Q hd hs hss h => ?_⟩
  cases s with
  | ref k =>
    cases hss with
    | nil => exact h.elim
    | cons a b =>
      cases b with
      | cons _ _ => exact h.elim
      | nil =>
        rename_i x y
        obtain ⟨xs, e, h⟩ := finP_bind (show FinP X.K X.mg c Q ((atM B k).bind fun ss => if ss.length < sizeLine then some (.dat .none, B.set k (some (.lst (ss ++ [x])))) else none) from h)
        split at h
        · rename_i z
          obtain ⟨p, us, rfl, h1, h2, h3, h4⟩ := atM_ok hd hs e
          refine ⟨p, us, y, rfl, rfl, h2, by rw [← paired_len h3]; exact z, ?_⟩
          exact h ⟨c.al, c.G, upd c.H p (.lst (us ++ [y]))⟩ .non (put_step (List.mem_of_getElem? h1)) (put_hold hd h4 h1 (paired_app h3 (.cons a .nil))) .non
        · exact h.elim
  | _ => exact h.elim
theorem m_extend : PrimMt X "list.extend" pExtend := by
  refine ⟨_, mt_extend, fun s ss v vs c B Q hd hs hss h => ?_⟩
  cases s with
  | ref k =>
    cases hss with
    | nil => exact h.elim
    | cons a b =>
      cases b with
      | cons _ _ => exact h.elim
      | nil =>
        rename_i x y
        obtain ⟨xs, e, h⟩ := finP_bind (show FinP X.K X.mg c Q ((atM B k).bind fun ss => (asM B x).bind fun zs => if ss.length + zs.length ≤ sizeLine then some (.dat .none, B.set k (some (.lst (ss ++ zs)))) else none) from h)
        obtain ⟨zs, e2, h⟩ := finP_bind h
        split at h
        · rename_i z
          obtain ⟨p, us, rfl, h1, h2, h3, h4⟩ := atM_ok hd hs e
          obtain ⟨q, ws, rfl, g1, g2⟩ := asM_ok hd a e2
          refine ⟨p, q, us, ws, rfl, rfl, h2, g1, by rw [← paired_len h3, ← paired_len g2]; exact z, ?_⟩
          exact h ⟨c.al, c.G, upd c.H p (.lst (us ++ ws))⟩ .non (put_step (List.mem_of_getElem? h1)) (put_hold hd h4 h1 (paired_app h3 g2)) .non
        · exact h.elim
  | _ => exact h.elim
theorem m_pop : PrimMt X "list.pop" pPop := by
  refine ⟨_, mt_pop, fun s ss v vs c B Q hd hs hss h => ?_⟩
  cases s with
  | ref k =>
    cases hss with
    | cons _ _ => exact h.elim
    | nil =>
      obtain ⟨xs, e, h⟩ := finP_bind (show FinP X.K X.mg c Q ((atM B k).bind fun ss => (ss[ss.length - 1]?).bind fun x => some (x, B.set k (some (.lst ss.dropLast)))) from h)
      obtain ⟨x, e2, h⟩ := finP_bind h
      obtain ⟨p, us, rfl, h1, h2, h3, h4⟩ := atM_ok hd hs e
      obtain ⟨y, g1, g2⟩ := paired_get h3 e2
      refine ⟨p, us, y, rfl, rfl, h2, by rw [← paired_len h3]; exact g1, ?_⟩
      exact h ⟨c.al, c.G, upd c.H p (.lst us.dropLast)⟩ y (put_step (List.mem_of_getElem? h1)) (put_hold hd h4 h1 (paired_last h3)) (RS.heap g2)
  | _ => exact h.elim
end
/-- o[i] = e -/
def sSetI (ge go gi : GE) : GS := fun r B => match ge r B with
  | .ok v B1 => (match go r B1 with
    | .ok o B2 => (match gi r B2 with
      | .ok i B3 => (match pSetL B3 o i v with | some B4 => .nx r B4 | none => .bad)
      | .exc x fs B3 => .exc x fs r B3
      | .bad => .bad)
    | .exc x fs B2 => .exc x fs r B2
    | .bad => .bad)
  | .exc x fs B1 => .exc x fs r B1
  | .bad => .bad
section
variable {X : Cx} {W : WX} {pos p2 : Pos} {e o i : Expr} {ge go gi : GE}
theorem s_seti (he : PE X e (rdE X.K X.mg W ge)) (ho : PE X o (rdE X.K X.mg W go)) (hi : PE X i (rdE X.K X.mg W gi))
    (ha : ∀ v, assign (.Subscript o i p2) X.env v = (do
      let ov ← holding [v] (eval o X.env)
      let iv ← holding [v, ov] (eval i X.env)
      standAt p2
      holding [v, ov, iv] (setItem ov iv v)
      release [v, ov, iv] []))
    (hs : swapsWithSole [.Subscript o i p2] e pos.line X.env = pure false) (hw : swappedStores [.Subscript o i p2] e X.env = pure none) (h1 : (assignEach [.Subscript o i p2] X.env).map (·.2) = [assign (.Subscript o i p2) X.env]) :
    PS X (.Assign [.Subscript o i p2] e pos) (rdS X.K X.mg W (sSetI ge go gi)) := by
  refine PS_le (ps_asg he (pg_sub ho hi set_list ha) hs hw h1) fun D σ H h => ?_
  obtain ⟨r, B, c, rfl, hd, hr, h⟩ := h
  refine ⟨r, B, c, rfl, hd, hr, ?_⟩
  unfold sSetI at h
  cases e1 : ge r B with
  | exc x fs B1 => rw [e1] at h; exact fun c' C d ws st hd' => h c' σ C d ws st hd' (hr.mono st)
  | bad => rw [e1] at h; exact h
  | ok v B1 =>
  rw [e1] at h
  intro c1 v1 st1 hd1 hs1
  refine ⟨r, B1, c1, rfl, hd1, hr.mono st1, ?_⟩
  have h := FinS.step st1 h
  dsimp only at h
  have hr1 := hr.mono st1
  cases e2 : go r B1 with
  | exc x fs B2 => rw [e2] at h; exact fun c' C d ws st hd' => h c' σ C d ws st hd' (hr1.mono st)
  | bad => rw [e2] at h; exact h
  | ok o2 B2 =>
  rw [e2] at h
  intro c2 v2 st2 hd2 hs2
  refine ⟨r, B2, c2, rfl, hd2, hr1.mono st2, ?_⟩
  have h := FinS.step st2 h
  dsimp only at h
  have hr2 := hr1.mono st2
  cases e3 : gi r B2 with
  | exc x fs B3 => rw [e3] at h; exact fun c' C d ws st hd' => h c' σ C d ws st hd' (hr2.mono st)
  | bad => rw [e3] at h; exact h
  | ok i3 B3 =>
  rw [e3] at h
  intro c3 v3 st3 hd3 hs3
  have h := FinS.step st3 h
  dsimp only at h
  cases e4 : pSetL B3 o2 i3 v with
  | none => rw [e4] at h; exact h.elim
  | some B4 =>
    rw [e4] at h
    unfold pSetL at e4
    split at e4
    · rename_i k n _
      cases e5 : atM B3 k with
      | none => rw [e5] at e4; cases e4
      | some ss =>
        rw [e5] at e4
        have e4 : ((ixN ss.length n).bind fun j => some (B3.set k (some (.lst (ss.set j v))))) = some B4 := e4
        cases e6 : ixN ss.length n with
        | none => rw [e6] at e4; cases e4
        | some j =>
          rw [e6] at e4
          cases e4
          obtain ⟨p, us, rfl, g1, g2, g3, g4⟩ := atM_ok hd3 (RS.mono st3 hs2) e5
          refine ⟨p, us, n, j, rfl, rs_int hs3, g2, by rw [← paired_len g3]; exact e6, ?_⟩
          exact h ⟨c3.al, c3.G, upd c3.H p (.lst (us.set j v1))⟩ σ (put_step (List.mem_of_getElem? g1)) (put_hold hd3 g4 g1 (paired_set (RS.mono (st2.trans st3) hs1) j g3)) (RE.mono (put_step (List.mem_of_getElem? g1)) (hr2.mono st3))
    · cases e4
end
/-! ### texts -/
def splitS (B : Bs) (s t : S) : Option (S × Bs) := match s, t with
  | .dat (.str a), .dat (.str b) => if (b.length == 0) = false ∧ a.length + 2 ≤ sizeLine then some (.dat (.list ((Txt.split a b).map .str)), B) else none
  | _, _ => none
def partS (B : Bs) (s t : S) : Option (S × Bs) := match s, t with
  | .dat (.str a), .dat (.str b) => if (b.length == 0) = false ∧ a.length ≤ sizeLine then some (.dat (.tuple [.str (Txt.partition a b).1, .str (Txt.partition a b).2.1, .str (Txt.partition a b).2.2]), B) else none
  | _, _ => none
def joinS (B : Bs) (s t : S) : Option (S × Bs) := match s with
  | .dat (.str a) => (asQ B t).bind fun ss => (strsOf ss).bind fun ys => if (ys.map (·.length)).sum + ys.length * a.length ≤ 16777216 then str' (Txt.join a ys) B else none
  | _ => none
def pSplit : GP := two? splitS
def pPartition : GP := two? partS
def pJoin : GP := two? joinS
theorem all_strs {K : PySem.W.Frag} {H : Hp} : ∀ xs : List Str, DqAll K H (xs.map V.str) (xs.map PyData.str)
  | [] => .nil
  | x :: xs => .cons (.str x) (all_strs xs)
section
variable {X : Cx}
theorem meth1 {id : String} {f : Bs → S → S → Option (S × Bs)} {r : V → List V → Hp → VK → Prop} (hm : MtR X id r)
    (h : ∀ (s t : S) (v u : V) (c : Cf) (B : Bs) (Q : VK), Hold X.K X.mg c B → RS X.K X.mg c s v → RS X.K X.mg c t u → FinP X.K X.mg c Q (f B s t) → r v [u] c.H Q) : PrimMt X id (two? f) := by
  refine ⟨r, hm, fun s ss v vs c B Q hd hs hss q => ?_⟩
  cases hss with
  | nil => exact q.elim
  | cons a b =>
    cases b with
    | nil => exact h _ _ _ _ c B Q hd hs a q
    | cons _ _ => exact q.elim
theorem m_split : PrimMt X "str.split" pSplit := by
  refine meth1 mt_split fun s t v u c B Q hd hs ht h => ?_
  unfold splitS at h
  split at h
  · rename_i a b
    split at h
    · rename_i z
      exact ⟨a, b, rs_str hs, by rw [rs_str ht], z.1, z.2, fun p hp => new_lst hd (all_strs _) hp h⟩
    · exact h.elim
  · exact h.elim
theorem m_partition : PrimMt X "str.partition" pPartition := by
  refine meth1 mt_partition fun s t v u c B Q hd hs ht h => ?_
  unfold partS at h
  split at h
  · rename_i a b
    split at h
    · rename_i z
      exact ⟨a, b, rs_str hs, by rw [rs_str ht], z.1, z.2, fun p hp => new_tup hd (all_strs [(Txt.partition a b).1, (Txt.partition a b).2.1, (Txt.partition a b).2.2]) hp h⟩
    · exact h.elim
  · exact h.elim
theorem m_join : PrimMt X "str.join" pJoin := by
  refine meth1 mt_join fun s t v u c B Q hd hs ht h => ?_
  unfold joinS at h
  split at h
  · rename_i a
    obtain ⟨ss, e1, h⟩ := finP_bind h
    obtain ⟨ys, e2, h⟩ := finP_bind h
    split at h
    · rename_i z
      obtain ⟨p, us, rfl, g1, g2⟩ := asQ_ok hd ht e1
      rw [strsOf_ok e2 g2] at g1
      exact ⟨a, p, ys, rs_str hs, rfl, g1, z, fin_str hd h⟩
    · exact h.elim
  · exact h.elim
end
/-! ### isinstance -/
def tyD : PyData → String
  | .none => "NoneType"
  | .bool _ => "bool"
  | .int _ => "int"
  | .str _ => "str"
  | .list _ => "list"
  | .tuple _ => "tuple"
  | .dict _ => "dict"
/-- whether a thing of the type a is one of b -/
def isTy (a b : String) : Bool := (a == b) || (a == "bool" && b == "int")
def gIsi (T : String) (ga : GE) : GE := gBind ga fun s _ B => match valD B s with
  | some d => if isTy (tyD d) T = true then .ok (.dat (.bool true)) B else .ok (.dat (.bool false)) B
  | none => .bad
theorem tyX_of {K : PySem.W.Frag} {H : Hp} {v : V} {d : PyData} (h : Dq K H v d) : TyX K H v (.type (tyD d)) := by
  cases h with
  | non => exact .base .non
  | bl b => exact .base (.bl b)
  | int i => exact .base (.int i)
  | str x => exact .base (.str x)
  | lst h1 h2 => exact .base (.lst h1)
  | tup h1 h2 =>
    rcases h1 with (h1 | ⟨o, h1⟩) | ⟨o, its, n, h1, h3, _⟩
    · exact .base (.tup h1)
    · exact .fTuple h1
    · exact .kTuple h1 h3
theorem kit_tab : ∀ a ∈ ["NoneType", "bool", "int", "str", "list", "tuple"], ∀ T ∈ ["int", "bool", "str", "tuple", "list"], kitB a T = some (isTy a T) := by decide +kernel
theorem kit_all (d : PyData) (hd : tyD d ≠ "dict") (T : String) (hT : T = "int" ∨ T = "bool" ∨ T = "str" ∨ T = "tuple" ∨ T = "list") : kitB (tyD d) T = some (isTy (tyD d) T) := by
  refine kit_tab _ ?_ T ?_
  · cases d <;> first | exact absurd rfl hd | simp [tyD]
  · rcases hT with rfl | rfl | rfl | rfl | rfl <;> simp
section
variable {X : Cx} {W : WX} {pos p p2 : Pos} {e : Expr} {ga : GE}
theorem r_isi {x : Str} {T : String} (hT : T = "int" ∨ T = "bool" ∨ T = "str" ∨ T = "tuple" ∨ T = "list") (hg : Gl X "isinstance") (hm : X.mg "isinstance" = none) (hg2 : Gl X x) (hm2 : X.mg x = none) (hv : bootBuiltins x = some (.type T)) (ha : PE X e (rdE X.K X.mg W ga))
    (hn : x ≠ "__name__") (hd : (x == ("__debug__" : Str)) = false) (hs : starEach (e :: [Expr.Name x p2]) X.env = (false, eval e X.env) :: starEach [Expr.Name x p2] X.env) (hs2 : starEach [Expr.Name x p2] X.env = (false, eval (Expr.Name x p2) X.env) :: starEach [] X.env) (hpl : (backTo pos (starEach [Expr.Name x p2] X.env)).any (·.1) = false) :
    PE X (.Call (.Name "isinstance" p) [e, .Name x p2] [] pos) (rdE X.K X.mg W (gIsi T ga)) := by
  refine PE_le (pe_callB call_isi hg hm (by decide +kernel) (pa_cons ha (pa_cons (pe_bltn (v := .ty T) hg2 hm2 hv rfl hn hd) pa_nil hs2) hs) (by decide) (by decide) hs hpl) fun σ H Q h => rdE_mono (rd_one h) fun v H1 ⟨c, s, B, ρ, e, hd, hr, hs, h⟩ => ?_
  subst e
  show rIsi X.K [v, .ty T] c.H Q
  cases ed : valD B s with
  | none => rw [ed] at h; exact h.elim
  | some d =>
    rw [ed] at h
    have hv := valD_ok hd hs ed
    refine ⟨v, .ty T, .type (tyD d), .type T, isTy (tyD d) T, rfl, .ty T, tyX_of hv, kit_ty (kit_all d (by cases hv <;> simp [tyD]) T hT), ?_⟩
    dsimp only at h
    cases q : isTy (tyD d) T with
    | true => rw [q, if_pos rfl] at h; exact h c (.bl true) (Step.refl c) hd (.bl true)
    | false => rw [q, if_neg (by decide)] at h; exact h c (.bl false) (Step.refl c) hd (.bl false)
end
end PN

set_option maxRecDepth 100000
set_option maxHeartbeats 4000000
/-! PN, thirteenth part: sorted. -/
namespace PN
open PySem L2
def SortOk (ds : List PyData) : Prop := PySem.W.AllAlike ds ∧ PySem.W.Sortable ds ∧ ds.length ≤ sizeLine ∧ ∀ d ∈ ds, d.depth ≤ 64
noncomputable def sortD (ds : List PyData) : List PyData := ds.mergeSort (PySem.W.dataLe false id)
open Classical in
noncomputable def sortedS (B : Bs) (s : S) : Option (S × Bs) := (asL B s).bind fun ss => (datsOf ss).bind fun ds => if SortOk ds then some (.dat (.list (sortD ds)), B) else none
noncomputable def pSorted : GP := one? sortedS
section
variable {K : PySem.W.Frag} {H : Hp}
theorem each_of : ∀ {ds : List PyData} {vs : List V} {us : List Value}, DqAll K H vs ds → Vals vs us → PySem.W.EachIs (fun u d => ∃ x, RelV x u ∧ Dq K H x d) us ds
  | _, _, _, .nil, .nil => .nil
  | _, _, _, .cons a b, .cons r t => .cons ⟨_, r, a⟩ (each_of b t)
theorem of_each : ∀ {ds : List PyData} {us : List Value}, PySem.W.EachIs (fun u d => ∃ x, RelV x u ∧ Dq K H x d) us ds → ∃ vs, DqAll K H vs ds ∧ Vals vs us
  | _, _, .nil => ⟨[], .nil, .nil⟩
  | _, _, .cons ⟨x, r, a⟩ t => by
    obtain ⟨vs, h1, h2⟩ := of_each t
    exact ⟨x :: vs, .cons a h1, .cons r h2⟩
end
section
variable {X : Cx}
def rSortD (K : PySem.W.Frag) : List V → Hp → VK → Prop := fun xs H Q => ∃ a vs ds G, xs = [V.ref a] ∧ SqL K H a vs ∧ Same G H ∧ DqAll K G vs ds ∧ SortOk ds ∧ ∀ vs' p, DqAll K G vs' (sortD ds) → H p = none → Q (.ref p) (upd H p (.lst vs'))
theorem cr_sortD (hu : X.A.units + 67 < cLine) : CallR X (.builtin "sorted") (rSortD X.K) := by
  intro pins s σ H xs us Q I r h
  obtain ⟨a, vs, ds, G, rfl, hs, hG, hd, ok, q⟩ := h
  obtain ⟨its, rv, hl, hz⟩ := I.list hs
  cases r with
  | cons r1 r2 =>
  cases r2
  cases r1
  have e := each_of hd rv
  have er : PySem.W.EachIs (fun v b => ∃ as, Reads s.heap v (id b) as) its ds := e.mono fun u d ⟨x, h1, h2⟩ => Dp.reads I d x u (dp_mono hG d x h2).dp h1
  refine PySem.W.sorted_data (enc := id) hl.isList e er (by rw [List.map_id]; exact ok.1) (by rw [List.map_id]; exact ok.2.1) ok.2.2.1 (fun b hb => by have := ok.2.2.2 b hb; show X.A.units + 2 + b.depth < cLine; omega) fun out hlen eo => ?_
  obtain ⟨vs', h1, h2⟩ := of_each eo
  obtain ⟨ep, he'⟩ := PyProof.Rows.sortedAll_at s.heap its out.toArray
  refine ⟨.ref _, upd H (s.heap.objs.size + 1) (.lst vs'), I.laid (t' := s.toks) (fun _ _ => PyProof.Rows.sortedAll_old) (Nat.le_succ _) ⟨?_, out, ep, h2, he'⟩, rfl, q vs' _ h1 (I.hok.fresh (Nat.le_succ _))⟩
  rw [h2.length, hlen]
  exact ok.2.2.1
theorem b_sorted (hu : X.A.units + 67 < cLine) : PrimCall X (.builtin "sorted") pSorted := by
  refine call1 (cr_sortD hu) one_no fun s v c B Q hd hs h => ?_
  obtain ⟨ss, e1, h⟩ := finP_bind (show FinP X.K X.mg c Q (sortedS B s) from h)
  obtain ⟨ds, e2, h⟩ := finP_bind h
  split at h
  · rename_i ok
    obtain ⟨a, vs, rfl, h1, h2⟩ := asL_ok hd hs e1
    have d1 := dats_all e2 h2
    exact ⟨a, vs, ds, c.G, rfl, h1, hd.gh, d1, ok, fun vs' p g1 hp => new_lst hd g1 hp h⟩
  · exact h.elim
end
end PN

set_option maxRecDepth 100000
set_option maxHeartbeats 4000000
/-! PN, 14th part: own errors: their making, raise, try. -/
namespace PN
open PySem L2
/-! ### Base.__init__(self, ..), Base an own error class -/
/-- what the text says of a class whose __init__ is ValueError's -/
structure BsC (K : PySem.W.Frag) (C : Addr) : Prop where
  rd : PySem.W.readsIn K C (.type "type") = true
  ga : PySem.W.specialIn K (.ref C) "__getattribute__" = some (some (.builtin "type.__getattribute__"))
  fi : PySem.W.findCls K (.ref C) (.type "type") "__init__" = some (.val (.builtin "ValueError.__init__"))
section
variable {X : Cx} {e : Expr} {es : List Expr} {ta : TA} {p1 p2 pos : Pos} {b : Str} {C : Addr}
theorem pe_binit {pl : Sem Bool} (T0 : BsC X.K C) (hg : Gl X b) (hm : X.mg b = some (.ref C)) (hdb : (b == ("__debug__" : Str)) = false) (ha : PA X (e :: es) ta)
    (hc : eval (.Call (.Attribute (.Name b p1) "__init__" p2) (e :: es) [] pos) X.env = (do
      let o ← eval (.Name b p1) X.env
      standAt p2.atName
      let (g, one) ← holding [o] (getMethod o "__init__" pl)
      callWith pos g one (backTo pos (starEach (e :: es) X.env)) (backToKw pos (keywordEach [] X.env))))
    (he : starEach (e :: es) X.env = (false, eval e X.env) :: starEach es X.env) (hpl : (backTo pos (starEach es X.env)).any (·.1) = false) :
    PE X (.Call (.Attribute (.Name b p1) "__init__" p2) (e :: es) [] pos) (tVeI X.K ta) := by
  constructor
  intro pins s σ H Q I h
  refine PySem.W.methodCall_KW (ld_glob I hg hm ?_ hdb) hc
  refine PySem.W.method_cls I.kIn T0.ga (PySem.W.cls_value I.kIn T0.rd T0.fi rfl ?_)
  refine PyProof.Rows.callWith_method1 (thn (ha.run pos pins _ σ H _ (I.tok _) h) fun us s1 z => ?_) he hpl
  obtain ⟨vs, H1, I1, r1, a, D, ws, ev, hl, T, ea, q⟩ := z
  subst ev
  cases r1 with
  | @cons _ u0 _ ur ra rt =>
    have e0 : u0 = Value.ref a := ra
    subst e0
    have hn : ur.length ≤ sizeLine := by
      have := Paired.length rt
      rw [sizeLine_eq]
      omega
    exact oinit_ok T I1 ea hn fun s2 J => ⟨V.non, H1, J, rfl, q⟩
end
/-! ### the __init__ of an own error class -/
/-- what self.f1 = .. self.fn = .. leave -/
def EndI (H : Hp) (a C : Addr) (fs : List (Str × V)) (H2 : Hp) : Prop :=
  ∃ d, H d = none ∧ d ≠ a ∧ H2 a = some (exo a C (some d)) ∧ H2 d = some (exd d fs) ∧ ∀ b, b ≠ a → b ≠ d → H2 b = H b
/-- the fields, as they come to stand -/
def fsOf {α : Type} (fl : List Str) (vs : List α) : List (Str × α) := (fl.zip vs).reverse
/-- the __init__ of a class with the fields fl -/
def spX (K : PySem.W.Frag) (fl : List Str) : Sp := fun vs H Q _ => ∃ (a C : Addr) (ws : List V), vs = .ref a :: ws ∧ ws.length = fl.length ∧ OexC K C ∧ (∀ f ∈ fl, PySem.W.findIn K (.ref C) f = some none) ∧ H a = some (exo a C none) ∧
  ∀ H2, EndI H a C (fsOf fl ws) H2 → Q .non H2
/-- the assignments of such a body: each puts the parameter at the slot told -/
inductive XBs (X : Cx) : List Stmt → List (Str × Nat) → Prop
  | nil : XBs X [] []
  | cons {st : Stmt} {r : List Stmt} {f : Str} {i : Nat} {l : List (Str × Nat)} : PS X st (tOst X.K f (tVar 0) (tVar i)) → XBs X r l → XBs X (st :: r) ((f, i) :: l)
section
variable {X : Cx}
/-- the reading of what is left of the body -/
def tXB (K : PySem.W.Frag) (l : List (Str × Nat)) : TS := fun D σ H => ∃ (a C d : Addr) (fs : List (Str × V)) (ws : List V), σ[0]? = some (some (.ref a)) ∧ OexC K C ∧ (∀ p ∈ l, PySem.W.findIn K (.ref C) p.1 = some none) ∧ d ≠ a ∧ H a = some (exo a C (some d)) ∧ H d = some (exd d fs) ∧ fs.length + l.length ≤ 900 ∧
  Paired (fun p v => σ[p.2]? = some (some v)) l ws ∧ ∀ H2, H2 a = some (exo a C (some d)) → H2 d = some (exd d (fsOf (l.map (·.1)) ws ++ fs)) → (∀ b, b ≠ a → b ≠ d → H2 b = H b) → D.nx σ H2
theorem fsOf_cons {α : Type} (f : Str) (v : α) (fl : List Str) (vs : List α) (fs : List (Str × α)) : fsOf (f :: fl) (v :: vs) ++ fs = fsOf fl vs ++ (f, v) :: fs := by
  unfold fsOf
  rw [List.zip_cons_cons, List.reverse_cons, List.append_assoc]
  rfl
theorem xb_more : ∀ {body : List Stmt} {l : List (Str × Nat)}, XBs X body l → PSs X body (tXB X.K l)
  | _, _, .nil => PSs_le pss_nil fun D σ H h => by
    obtain ⟨a, C, d, fs, ws, h0, T, hf, hda, ha, hd, hl, hp, q⟩ := h
    cases hp
    exact q H ha hd fun _ _ _ => rfl
  | _, _, .cons (f := f) (i := i) (l := l) h1 h2 => PSs_le (pss_cons h1 (xb_more h2)) fun D σ H h => by
    obtain ⟨a, C, d, fs, ws, h0, T, hf, hda, ha, hd, hl, hp, q⟩ := h
    cases hp with
    | @cons _ v _ ws' hv hp =>
      refine ⟨v, hv, .ref a, h0, a, C, rfl, T, hf _ List.mem_cons_self, .inr ⟨d, fs, ha, hd, by rw [List.length_cons] at hl; omega, ?_⟩⟩
      refine ⟨a, C, d, (f, v) :: fs, ws', h0, T, fun p m => hf p (List.mem_cons_of_mem _ m), hda, by rw [upd_ne (Ne.symm hda)]; exact ha, upd_same, by rw [List.length_cons] at hl ⊢; omega, hp, fun H2 g1 g2 g3 => q H2 g1 ?_ fun b n1 n2 => ?_⟩
      · rw [List.map_cons, fsOf_cons]; exact g2
      · rw [g3 b n1 n2, upd_ne n2]
/-- the whole body of such an __init__ -/
theorem xb_all {e0 : Expr} {p0 : Pos} {st : Stmt} {r : List Stmt} {f : Str} {i : Nat} {l : List (Str × Nat)} {x : Str} (h0 : PE X e0 (tVeI X.K (tCons (tVar 0) (tCons (tC (.str x)) tNil)))) (hs : swapsWith e0 none p0.line X.env = pure false)
    (h1 : PS X st (tOst X.K f (tVar 0) (tVar i))) (h2 : XBs X r l) :
    PSs X (.Expr e0 p0 :: st :: r) (fun D σ H => ∃ (a C : Addr) (ws : List V), σ[0]? = some (some (.ref a)) ∧ OexC X.K C ∧ (∀ p ∈ (f, i) :: l, PySem.W.findIn X.K (.ref C) p.1 = some none) ∧ H a = some (exo a C none) ∧ l.length ≤ 800 ∧
      Paired (fun p v => σ[p.2]? = some (some v)) ((f, i) :: l) ws ∧ ∀ H2, EndI H a C (fsOf (f :: l.map (·.1)) ws) H2 → D.nx σ H2) := PSs_le (pss_cons (ps_expr h0 hs) (pss_cons h1 (xb_more h2))) fun D σ H h => by
  obtain ⟨a, C, ws, hv0, T, hf, ha, hl, hp, q⟩ := h
  refine ⟨.ref a, hv0, a, C, [.str x], rfl, by show 1 ≤ 1000; decide, T, ha, ?_⟩
  cases hp with
  | @cons _ v _ ws' hv hp =>
    refine ⟨v, hv, .ref a, hv0, a, C, rfl, T, hf _ List.mem_cons_self, .inl ⟨ha, fun d hd hda => ?_⟩⟩
    refine ⟨a, C, d, [(f, v)], ws', hv0, T, fun p m => hf p (List.mem_cons_of_mem _ m), hda, upd_same, by rw [upd_ne hda, upd_same], by show 1 + l.length ≤ 900; omega, hp, fun H2 g1 g2 g3 => q H2 ⟨d, hd, hda, g1, ?_, fun b n1 n2 => ?_⟩⟩
    · rw [g2]
      unfold fsOf
      rw [List.zip_cons_cons, List.reverse_cons]
    · rw [g3 b n1 n2, upd_ne n1, upd_ne n2]
end
section
variable {P : Program} {w : World} {K : PySem.W.Frag} {mg : Str → Option Value} {base : Heap}
/-- the __init__: its promise -/
theorem init_ok {CX : CXT} {x qual : Str} {st : Stmt} {f : Addr} {fd : FuncData} {N ps : List Str} {k : Nat} {f1 : Str} {fl : List Str} (F : Fun K x qual st f fd) (Sc : FnScope N ps (defScope st)) (hps : ps.length = fl.length + 2) (hN : fl.length + 2 ≤ N.length)
    (hsm : fl.length ≤ 800)
    (hb : ∀ (cdv : Value) (A : Around) (outer : List Env) (s : Shared) (H : Hp) (E : XK), ∃ (e0 : Expr) (p0 : Pos) (s1 : Stmt) (r : List Stmt) (t : Str) (l : List (Str × Nat)), defBody st = .Expr e0 p0 :: s1 :: r ∧ l.map (·.1) = fl ∧ l.map (·.2) = (List.range fl.length).map (· + 2) ∧
      PE (cxOf CX P w K mg base N qual (defScope st) f cdv A outer s H E) e0 (tVeI K (tCons (tVar 0) (tCons (tC (.str t)) tNil))) ∧ swapsWith e0 none p0.line (cxOf CX P w K mg base N qual (defScope st) f cdv A outer s H E).env = pure false ∧
      PS (cxOf CX P w K mg base N qual (defScope st) f cdv A outer s H E) s1 (tOst K f1 (tVar 0) (tVar 1)) ∧ XBs (cxOf CX P w K mg base N qual (defScope st) f cdv A outer s H E) r l) :
    FnOk P w K mg base CX (k + 1) f fd ps (spX K (f1 :: fl)) := by
  obtain ⟨oc, od, kV, doc, pm, an, cdv, ct, osl, rfl, lk, hcd⟩ := F.ex
  refine fn_of lk hcd Sc (fun vs H Q E h => ?_) (fun A outer s H vs Q E hr h => ?_)
  · obtain ⟨a, C, ws, rfl, hl, _⟩ := h
    rw [List.length_cons, hl, hps]
    rfl
  · obtain ⟨e0, p0, s1, r, t, l, eb, e1, e2, h0, hsw, h1, h2⟩ := hb cdv A outer s H E
    rw [eb]
    refine ⟨_, xb_all h0 hsw h1 h2, ?_⟩
    obtain ⟨a, C, ws, rfl, hl, T, hf, ha, q⟩ := h
    have hst : L2.start N (.ref a :: ws) = (V.ref a :: ws).map some ++ List.replicate (N.length - (V.ref a :: ws).length) none := rfl
    have hget : ∀ (j : Nat) (v : V), ws[j]? = some v → (L2.start N (.ref a :: ws))[j + 1]? = some (some v) := fun j v e => by
      have hj := (List.getElem?_eq_some_iff.mp e).1
      rw [hst, List.getElem?_append_left (by rw [List.length_map, List.length_cons]; omega), List.getElem?_map, List.getElem?_cons_succ, e]
      rfl
    have hll : l.length = fl.length := by rw [← e1, List.length_map]
    have hw : ∀ (l : List (Str × Nat)) (vs : List V) (k : Nat), (∀ (j : Nat) (v : V), vs[j]? = some v → ws[j + k]? = some v) → l.length = vs.length → l.map (·.2) = (List.range l.length).map (· + (k + 1)) → Paired (fun p v => (L2.start N (.ref a :: ws))[p.2]? = some (some v)) l vs := by
      intro l
      induction l with
      | nil =>
        intro vs k _ hl _
        cases vs with
        | nil => exact .nil
        | cons _ _ => exact nomatch hl
      | cons p l ih =>
        intro vs k h hl hm
        cases vs with
        | nil => exact nomatch hl
        | cons v vs =>
          rw [List.length_cons, List.range_succ_eq_map, List.map_cons, List.map_cons] at hm
          obtain ⟨m1, m2⟩ := List.cons.inj hm
          refine .cons ?_ (ih vs (k + 1) (fun j u e => ?_) (by simpa using hl) ?_)
          · rw [m1]
            have := hget (0 + k) v (h 0 v rfl)
            have e : 0 + (k + 1) = 0 + k + 1 := by omega
            rw [e]
            exact this
          · have := h (j + 1) u (by rw [List.getElem?_cons_succ]; exact e)
            have e : j + 1 + k = j + (k + 1) := by omega
            rw [← e]
            exact this
          · rw [m2, List.map_map]
            refine List.map_congr_left fun j _ => ?_
            show j + 1 + (k + 1) = j + (k + 1 + 1)
            omega
    refine ⟨a, C, ws, ?_, T, ?_, ha, by omega, ?_, fun H2 h2 => q H2 ?_⟩
    · rw [hst]; rfl
    · intro p hp
      rcases List.mem_cons.mp hp with e | m
      · rw [e]; exact hf f1 List.mem_cons_self
      · exact hf p.1 (List.mem_cons_of_mem _ (by rw [← e1]; exact List.mem_map_of_mem m))
    · refine hw ((f1, 1) :: l) ws 0 (fun j v e => e) (by rw [hl, List.length_cons, List.length_cons, hll]) ?_
      rw [List.map_cons, e2, List.length_cons, List.range_succ_eq_map, List.map_cons, List.map_map, hll]
      refine congrArg _ (List.map_congr_left fun j _ => ?_)
      show j + 2 = j + 1 + (0 + 1)
      omega
    · rw [e1] at h2; exact h2
end
/-! ### raise C(..) -/
def sRaise (x : Str) (fl : List Str) (ga : GA) : GS := fun r B => match ga r B with
  | .ok ss B1 => if ss.length = fl.length ∧ ss.length ≤ 900 then .exc x (fsOf fl ss) r B1 else .bad
  | .exc y fs B1 => .exc y fs r B1
  | .bad => .bad
theorem paired_append {α β : Type} {F : α → β → Prop} : ∀ {l₁ : List α} {l₂ : List β} {m₁ : List α} {m₂ : List β}, Paired F l₁ l₂ → Paired F m₁ m₂ → Paired F (l₁ ++ m₁) (l₂ ++ m₂)
  | _, _, _, _, .nil, h => h
  | _, _, _, _, .cons h t, h' => .cons h (paired_append t h')
theorem paired_rev {α β : Type} {F : α → β → Prop} : ∀ {l₁ : List α} {l₂ : List β}, Paired F l₁ l₂ → Paired F l₁.reverse l₂.reverse
  | _, _, .nil => .nil
  | _, _, .cons h t => by
    rw [List.reverse_cons, List.reverse_cons]
    exact paired_append (paired_rev t) (.cons h .nil)
theorem fsOf_rf {K : PySem.W.Frag} {mg : Str → Option Value} {c : Cf} : ∀ (fl : List Str) {ss : List S} {vs : List V}, Paired (RS K mg c) ss vs → RF K mg c (fsOf fl ss) (fsOf fl vs) := by
  intro fl ss vs h
  refine paired_rev ?_
  induction fl generalizing ss vs with
  | nil => exact .nil
  | cons f fl ih =>
    cases h with
    | nil => exact .nil
    | cons h t => exact .cons ⟨rfl, h⟩ (ih t)
theorem endI_eq {H1 H2 : Hp} {a C : Addr} {fs : List (Str × V)} {u : HO} (h : EndI (upd H1 a u) a C fs H2) (ha : H1 a = none) : ∃ d, H1 d = none ∧ d ≠ a ∧ H2 a = some (exo a C (some d)) ∧ H2 d = some (exd d fs) ∧ upd (del H2 a) d (.xd fs) = upd H1 d (.xd fs) := by
  obtain ⟨d, h1, h2, h3, h4, h5⟩ := h
  rw [upd_ne h2] at h1
  refine ⟨d, h1, h2, h3, h4, funext fun b => ?_⟩
  by_cases hb : b = d
  · rw [hb, upd_same, upd_same]
  · rw [upd_ne hb, upd_ne hb]
    by_cases hc : b = a
    · rw [hc, del_same, ha]
    · rw [del_ne hc, h5 b hc hb, upd_ne hc]
section
variable {X : Cx} {W : WX} {e : Expr} {es : List Expr} {ga : GA} {p p1 pos : Pos} {x : Str} {C fI : Addr} {k : Nat} {fd : FuncData} {ps fl : List Str}
theorem s_raise (hc : X.calm = true) (tk : Takes X W) (T : OexC X.K C) (hno : ∀ f ∈ fl, PySem.W.findIn X.K (.ref C) f = some none) (iC : PySem.W.findIn X.K (.ref C) "__init__" = some (some (.ref fI))) (tI : PySem.W.typeIn X.K (.ref fI) = some (.type "function"))
    (F1 : FnOk X.prog X.w X.K X.mg X.base (L2.CX X.prog X.w) k fI fd ps (spX X.K fl)) (hr : Room (k + 1) X.A) (hb : Binds X.K fd ps []) (hg : Gl X x) (hm : X.mg x = some (.ref C)) (ha : PA X (e :: es) (rdA X.K X.mg W ga))
    (hdb : (x == ("__debug__" : Str)) = false) (he : starEach (e :: es) X.env = (false, eval e X.env) :: starEach es X.env) (hpl : (backTo pos (starEach es X.env)).any (·.1) = false) :
    PS X (.Raise (some (.Call (.Name x p) (e :: es) [] pos)) none p1) (rdS X.K X.mg W (sRaise x fl ga)) := by
  refine PS_le (ps_raise hc tk (pmk_oex T iC tI F1 hr hb (.nil : Vals [] []) (passes_call takes_none5 (E := fun _ _ _ => False) (W := fun _ _ _ _ => False) fun _ _ _ _ z => z) hg hm ha hdb he hpl)) fun D σ H h => ?_
  obtain ⟨r, B, c, rfl, hd, hr', h⟩ := h
  refine ⟨r, B, c, rfl, hd, hr', ?_⟩
  unfold sRaise at h
  cases e : ga r B with
  | ok ss B1 =>
    rw [e] at h
    dsimp only at h
    by_cases q : ss.length = fl.length ∧ ss.length ≤ 900
    · rw [if_pos q] at h
      intro c' vs st hd' hs
      have hlv : vs.length = ss.length := (paired_len hs).symm
      refine ⟨by omega, fun a ha => ⟨a, C, vs, by rw [List.append_nil], by rw [hlv]; exact q.1, T, hno, upd_same, fun H2 hE => ?_⟩⟩
      obtain ⟨d, h1, h2, h3, h4, h5⟩ := endI_eq hE ha
      refine ⟨rfl, d, _, h3, h4, h1, ?_⟩
      rw [h5]
      have st2 := frz_step (o := .xd (fsOf fl vs)) hd' h1
      exact h ⟨c'.al, upd c'.G d (.xd (fsOf fl vs)), upd c'.H d (.xd (fsOf fl vs))⟩ σ C d _ (st.trans st2) (frz_hold hd' h1) ((hr'.mono st).mono st2) hm upd_same (RF.mono st2 (fsOf_rf fl hs))
    · rw [if_neg q] at h; exact h.elim
  | exc y fs B1 => rw [e] at h; exact fun c' C d ws st hd' => h c' σ C d ws st hd' (hr'.mono st)
  | bad => rw [e] at h; exact h
end
/-! ### try: .. / except C as e: return (.., e.f, ..) -/
/-- an item of the tuple handed back: a text, a field -/
abbrev XI := Sum Str Str
def xItem (fs : List (Str × S)) : XI → Option PyData
  | .inl s => some (.str s)
  | .inr f => match fs.lookup f with
    | some (.dat d) => some d
    | _ => none
def xItems (fs : List (Str × S)) : List XI → Option (List PyData)
  | [] => some []
  | x :: r => match xItem fs x, xItems fs r with
    | some d, some ds => some (d :: ds)
    | _, _ => none
def sTryR (body : GS) (i : Nat) (tb : Str → Option Bool) (l : List XI) : GS := fun r B => match body r B with
  | .exc x fs r1 B1 => (match tb x with
    | some true => (match xItems fs l with
      | some ds => if ds.length ≤ sizeLine ∧ i < r1.length then .ret (.dat (.tuple ds)) B1 else .bad
      | none => .bad)
    | some false => .exc x fs r1 B1
    | none => .bad)
  | o => o
/-- the items, as they are written -/
inductive XIs (X : Cx) (a : Addr) (cls : Value) (d : Option Addr) (C : Addr) (i : Nat) : List Expr → List XI → Prop
  | nil : XIs X a cls d C i [] []
  | con {e : Expr} {es : List Expr} {s : Str} {l : List XI} : PE X e (tC (.str s)) → starEach (e :: es) X.env = (false, eval e X.env) :: starEach es X.env → XIs X a cls d C i es l → XIs X a cls d C i (e :: es) (.inl s :: l)
  | fld {e : Expr} {es : List Expr} {f : Str} {l : List XI} : PE X e (tXf a cls d C f (tVar i)) → starEach (e :: es) X.env = (false, eval e X.env) :: starEach es X.env → XIs X a cls d C i es l → XIs X a cls d C i (e :: es) (.inr f :: l)
def xV (ws : List (Str × V)) : XI → V → Prop
  | .inl s, v => v = .str s
  | .inr f, v => ws.lookup f = some v
theorem xis_pa {X : Cx} {a : Addr} {cls : Value} {d : Option Addr} {C : Addr} {i : Nat} : ∀ {es : List Expr} {l : List XI}, XIs X a cls d C i es l →
    PA X es (fun σ H Q => σ[i]? = some (some (.ref a)) ∧ cls = .ref C ∧ ∃ dd ws vs, d = some dd ∧ H dd = some (.xd ws) ∧ Paired (xV ws) l vs ∧ Q vs H)
  | _, _, .nil => PA_le pa_nil fun σ H Q h => by
    obtain ⟨_, _, dd, ws, vs, _, _, hp, q⟩ := h
    cases hp
    exact q
  | _, _, .con h1 h2 h3 => PA_le (pa_cons h1 (xis_pa h3) h2) fun σ H Q h => by
    obtain ⟨h4, h5, dd, ws, vs, h6, h7, hp, q⟩ := h
    cases hp with
    | cons hv hp =>
      have hv : _ = _ := hv
      subst hv
      exact ⟨h4, h5, dd, ws, _, h6, h7, hp, q⟩
  | _, _, .fld h1 h2 h3 => PA_le (pa_cons h1 (xis_pa h3) h2) fun σ H Q h => by
    obtain ⟨h4, h5, dd, ws, vs, h6, h7, hp, q⟩ := h
    cases hp with
    | cons hv hp => exact ⟨.ref a, h4, rfl, h5, dd, ws, _, h6, h7, hv, h4, h5, dd, ws, _, h6, h7, hp, q⟩
theorem lookup_cons {α : Type} {f g : Str} {y : α} {fs : List (Str × α)} : ((f, y) :: fs).lookup g = if g = f then some y else fs.lookup g := by
  by_cases h : g = f
  · subst h
    simp [List.lookup]
  · have e : (g == f) = false := by simpa using h
    rw [if_neg h]
    simp [List.lookup, e]
theorem rf_lookup {K : PySem.W.Frag} {mg : Str → Option Value} {c : Cf} {f : Str} : ∀ {fs : List (Str × S)} {ws : List (Str × V)} {s : S}, RF K mg c fs ws → fs.lookup f = some s → ∃ v, ws.lookup f = some v ∧ RS K mg c s v
  | _, _, _, .nil, h => nomatch h
  | _, _, s, .cons (a := p) (b := q) hq t, h => by
    obtain ⟨e, hs⟩ := hq
    obtain ⟨p1, p2⟩ := p
    obtain ⟨q1, q2⟩ := q
    have e : p1 = q1 := e
    subst e
    rw [lookup_cons] at h ⊢
    by_cases c : f = p1
    · rw [if_pos c] at h ⊢
      cases h
      exact ⟨q2, rfl, hs⟩
    · rw [if_neg c] at h ⊢
      exact rf_lookup t h
theorem xitems_rel {K : PySem.W.Frag} {mg : Str → Option Value} {c : Cf} {fs : List (Str × S)} {ws : List (Str × V)} (h : RF K mg c fs ws) : ∀ {l : List XI} {ds : List PyData}, xItems fs l = some ds → ∃ vs, Paired (xV ws) l vs ∧ DqAll K c.G vs ds
  | [], ds, e => by cases e; exact ⟨[], .nil, .nil⟩
  | x :: l, ds, e => by
    unfold xItems at e
    cases e1 : xItem fs x with
    | none => rw [e1] at e; cases e
    | some y =>
      cases e2 : xItems fs l with
      | none => rw [e1, e2] at e; cases e
      | some ys =>
        rw [e1, e2] at e
        cases e
        obtain ⟨vs, h1, h2⟩ := xitems_rel h e2
        cases x with
        | inl s => cases e1; exact ⟨.str s :: vs, .cons rfl h1, .cons (.str s) h2⟩
        | inr f =>
          unfold xItem at e1
          dsimp only at e1
          cases e3 : fs.lookup f with
          | none => rw [e3] at e1; cases e1
          | some t =>
            rw [e3] at e1
            cases t with
            | dat d =>
              cases e1
              obtain ⟨v, g1, g2⟩ := rf_lookup h e3
              exact ⟨v :: vs, .cons g1 h1, .cons g2 h2⟩
            | ref k => cases e1
            | fn y => cases e1
            | scr ns => cases e1
section
variable {X : Cx} {x n : Str} {C : Addr} {i : Nat} {body : List Stmt} {es : List Expr} {np pos pos' rpos tpos : Pos} {k1} {g : GS} {tb : Str → Option Bool} {l : List XI} {Wout : WX}
theorem s_tryR (hs : X.stack = X.env :: X.outer) (hf : X.env.frame = some X.env.locals) (hN : X.N.Nodup) (hi : X.N[i]? = some n) (hln : X.env.kindOf n = some .local) (hc : Names X x (.ref C)) (tk : Takes X Wout)
    (hTb : ∀ y b D, tb y = some b → X.mg y = some (.ref D) → PySem.W.exmOne X.K (.ref D) (.ref C) = some b ∧ (b = true → D = C))
    (hb : ∀ (W : WX) (pn : List (Addr × Obj)) (xe : Value → Shared → Prop), Takes (X.tr pn xe) W → PassesOwn (model X.prog X.w) X.A X.env xe → PSs (X.tr pn xe) body (rdS X.K X.mg W g))
    (hsu : ∀ (a : Addr) (oe : Obj) (cls : Value) (d : Option Addr) (pn : List (Addr × Obj)), Zc cls d oe → (∃ vs, oe.data = .fields vs) → XIs (X.suite a ((a, oe) :: pn)) a cls d C i es l) :
    PS X (.Try body [.ExceptHandler (some (.Name x np)) (some n) [.Return (some (.Tuple es k1 tpos)) rpos] pos'] [] [] pos) (rdS X.K X.mg Wout (sTryR g i tb l)) := by
  refine PS_le (ps_try_as (Wout := Wout) hs hf hN hi hln hc tk hb (fun a oe cls d pn hz hv => pss_cons (ps_ret (pe_tup (xis_pa (hsu a oe cls d pn hz hv)))) pss_nil)) fun D σ H h => ?_
  obtain ⟨r, B, c, rfl, hd, hr, h⟩ := h
  refine ⟨r, B, c, rfl, hd, hr, ?_⟩
  unfold sTryR at h
  cases e : g r B with
  | nx r1 B1 => rw [e] at h; exact h
  | ret s B1 => rw [e] at h; exact h
  | brk r1 B1 => rw [e] at h; exact h
  | ct r1 B1 => rw [e] at h; exact h
  | bad => rw [e] at h; exact h
  | exc y fs r1 B1 =>
    rw [e] at h
    dsimp only at h
    intro c' σ' D' d ws st hd' hr' hm hx hrf
    cases e1 : tb y with
    | none => rw [e1] at h; exact h.elim
    | some b =>
      rw [e1] at h
      obtain ⟨h1, h2⟩ := hTb y b D' e1 hm
      refine ⟨b, h1, fun eb a ha => ?_, fun eb => ?_⟩
      · subst eb
        have h2 := h2 rfl
        subst h2
        dsimp only at h
        cases e2 : xItems fs l with
        | none => rw [e2] at h; exact h.elim
        | some ds =>
          rw [e2] at h
          dsimp only at h
          by_cases hl : ds.length ≤ sizeLine ∧ i < r1.length
          · rw [if_pos hl] at h
            obtain ⟨vs, p1, p2⟩ := xitems_rel hrf e2
            have hlen : vs.length = ds.length := by
              have : ∀ {vs : List V} {ds : List PyData}, DqAll X.K c'.G vs ds → vs.length = ds.length := by
                intro vs
                induction vs with
                | nil => intro ds h; cases h; rfl
                | cons v vs ih => intro ds h; cases h with | cons h1 h2 => rw [List.length_cons, List.length_cons, ih h2]
              exact this p2
            have hi' : i < σ'.length := by rw [hr'.1]; exact hl.2
            refine ⟨by rw [List.getElem?_set_self hi'], rfl, d, ws, vs, rfl, hd'.gh _ _ hx, p1, by rw [hlen]; exact hl.1, fun p hp => ?_⟩
            have st2 := frz_step (o := .tup vs) hd' hp
            exact h ⟨c'.al, upd c'.G p (.tup vs), upd c'.H p (.tup vs)⟩ (.ref p) (st.trans st2) (frz_hold hd' hp) (.tup (.inl (.inl upd_same)) (dpAll_mono st2.g _ _ p2))
          · rw [if_neg hl] at h; exact h.elim
      · subst eb
        exact h c' σ' D' d ws st hd' hr' hm hx hrf
end
end PN

set_option maxRecDepth 100000
set_option maxHeartbeats 4000000
/-! PN, 15th part: the law's own end. -/
namespace PN
open PySem L2
theorem rg_guards : (callerA).guards = some [] := rfl
/-- from the law's function: what its def promises at the script -/
theorem spM_law {K : PySem.W.Frag} {mg : Str → Option Value} {m : GF} {H : Hp} {a : Addr} {ns : List Int} (hS : SqL K H a (ns.map V.int)) (B' : Bs) (hm : m [.scr ns] [] = .ok (.dat (.bool true)) B') :
    spM K mg 1 m [.ref a] H (fun v _ => v = .bl true) fun _ _ _ => False := by
  refine ⟨[.scr ns], [], ⟨[], H, H⟩, rfl, rfl, ⟨rfl, Same.refl _, List.nodup_nil, fun b h => absurd h (by simp), fun k o e => by simp at e⟩, .cons ⟨a, hS, rfl⟩ .nil, ?_⟩
  rw [hm]
  intro c' v _ _ h
  have h : Dq K c'.G v (.bool true) := h
  cases h
  rfl
/-- nothing told but the script -/
structure Alone (K : PySem.W.Frag) (h : Heap) (a : Addr) (H : Hp) : Prop where
  no : ∀ b, b ≠ a → H b = none
  kn : H a ≠ none → K.lookup a = none
  fz : ∀ u, H a = some u → ∃ o xs, u = .frz o (.lst xs) ∧ h.get? a = some o
theorem cx_never {P : Program} {w : World} {H : Hp} {s s' : Shared} {e : Value} (h : L2.CX P w [] H s (fun _ _ _ => False) e s') : False := by
  obtain ⟨_, _, _, _, _, _, _, _, _, _, _, _, z⟩ := h
  exact z
section
variable {P : Program} {w : World} {K : PySem.W.Frag} {mg mb : Str → Option Value} {k : Nat} {fa a : Addr} {fd : FuncData} {x : Str} {m : GF} {s1 : Shared} {vs : List Value} {ns : List Int}
theorem begin_at (KX : K.In s1.heap) (g1 : s1.heap.Ns mainGlobals mg) (g2 : s1.heap.Ns builtinsNs mb) (g3 : ∀ y : Str, y ≠ "__name__" → mb y = bootBuiltins y) (g4 : s1.heap.NoLimit) (g5 : s1.gens = #[])
    (ho : s1.heap.get? a = some { cls := .type "list", data := .seq vs.toArray }) (hr : Room k callerA) (F : ∀ base : Heap, K.In base → base.Ns mainGlobals mg → FnG P w K mg base k fa fd [x] (spM K mg 1 m))
    (hb : ∀ (s : Shared) (u : Value), BindsTo s fd ⟨[u], []⟩ [(x, u)]) {B' : Bs} (hm : m [.scr ns] [] = .ok (.dat (.bool true)) B') {H : Hp} (al : Alone K s1.heap a H) (hok : HOk P w H s1.heap) (hS : SqL K H a (ns.map V.int)) :
    codeAny (model P w) callerA (.call (.ref fa) ⟨[.ref a], []⟩) (fun r s' => r = .ok (.ret (.bool true)) ∧ OldK s1.heap s'.heap ∧ s'.os = s1.os ∧ PyProof.Rows.AllBare s'.gens) s1 := by
  have free : ∀ {b : Addr} {o : Obj}, s1.heap.get? b = some o → (∀ xs, o.data ≠ .seq xs) → H b = none := fun {b o} e n => Classical.byContradiction fun q => by
    by_cases z : b = a
    · subst z
      rw [ho] at e
      cases e
      exact n _ rfl
    · exact q (al.no b z)
  have keepN : ∀ {b : Addr} {f : Str → Option Value}, s1.heap.Ns b f → (hidT s1.heap H).Ns b f := fun {b f} z => by
    obtain ⟨o, es, ep, e, d, r⟩ := z
    exact ⟨o, es, ep, hidT_get e (free e fun xs q => by rw [d] at q; cases q), d, r⟩
  have KI : K.In (hidT s1.heap H) := fun b o e => hidT_get (KX b o e) (Classical.byContradiction fun q => by
    by_cases z : b = a
    · subst z
      rw [al.kn q] at e
      cases e
    · exact q (al.no b z))
  have md : Mod K mg (hidT s1.heap H) := by
    obtain ⟨mc, n1, n2⟩ := g4
    exact ⟨KI, keepN g1, ⟨mb, keepN g2, g3⟩, mc, keepN n1, n2⟩
  have env : Env0 P w K mg (hidT s1.heap H) callerA [] s1 H := { frames := rfl, mod := md, bs := fun b o e => of_hidT e, bsz := Nat.le_of_eq (hidT_size _ _), funs := trivial, frf := fun b z => (List.not_mem_nil z).elim, hok := hok, bare := .of_eq g5 }
  have go := (F _ KI (keepN g1)).run callerA [] s1 H ⟨[.ref a], []⟩ [.ref a] [.ref a] _ _ rg_guards hr env (hb s1 (.ref a)) (.cons rfl .nil) (spM_law hS B' hm)
  refine codeAny_mono go ?_
  intro r s' h
  cases r with
  | error e => exact (cx_never h).elim
  | ok fl =>
    cases fl with
    | ret u =>
      obtain ⟨v, H', os, bare, un, hok', rv, q⟩ := h
      have q : v = .bl true := q
      subst q
      have rv : u = Value.bool true := rv
      refine ⟨by rw [rv], OldK.of_keep fun b o e => ?_, os, bare⟩
      by_cases z : H b = none
      · exact un.keep b o e z (fun y => (List.not_mem_nil y).elim) (by simp)
      · have hba : b = a := Classical.byContradiction fun n => z (al.no b n)
        subst hba
        cases e2 : H b with
        | none => exact absurd e2 z
        | some u' =>
          obtain ⟨ob, xs, eu, e3⟩ := al.fz u' e2
          subst eu
          rw [e] at e3
          cases e3
          exact (hok' b _ (un.frzs b o _ e2)).1
    | next => exact h.elim
    | brk => exact h.elim
    | cont => exact h.elim
theorem begin_law (KX : K.In s1.heap) (g1 : s1.heap.Ns mainGlobals mg) (g2 : s1.heap.Ns builtinsNs mb) (g3 : ∀ y : Str, y ≠ "__name__" → mb y = bootBuiltins y) (g4 : s1.heap.NoLimit) (g5 : s1.gens = #[])
    (ho : s1.heap.get? a = some { cls := .type "list", data := .seq vs.toArray }) (hi : PyProof.Rows.IntsAre vs ns) (hl : ns.length ≤ sizeLine) (hr : Room k callerA) (F : ∀ base : Heap, K.In base → base.Ns mainGlobals mg → FnG P w K mg base k fa fd [x] (spM K mg 1 m))
    (hb : ∀ (s : Shared) (u : Value), BindsTo s fd ⟨[u], []⟩ [(x, u)]) {B' : Bs} (hm : m [.scr ns] [] = .ok (.dat (.bool true)) B') :
    codeAny (model P w) callerA (.call (.ref fa) ⟨[.ref a], []⟩) (fun r s' => r = .ok (.ret (.bool true)) ∧ OldK s1.heap s'.heap ∧ s'.os = s1.os ∧ PyProof.Rows.AllBare s'.gens) s1 := by
  cases hk : K.lookup a with
  | some o =>
    have e := (KX a o hk).symm.trans ho
    cases e
    exact begin_at (H := fun _ => none) KX g1 g2 g3 g4 g5 ho hr F hb hm ⟨fun _ _ => rfl, fun z => absurd rfl z, fun u z => nomatch z⟩ (fun b u z => nomatch z)
      (.inr ⟨_, vs.toArray, _, hk, rfl, rfl, rfl, by rw [List.size_toArray, hi.length]; exact hl, by simpa using vals_ints hi⟩)
  | none =>
    have hs : (upd (fun _ => none) a (.frz { cls := .type "list", data := .seq vs.toArray } (.lst (ns.map V.int))) : Hp) a = _ := upd_same
    refine begin_at (H := upd (fun _ => none) a (.frz { cls := .type "list", data := .seq vs.toArray } (.lst (ns.map V.int)))) KX g1 g2 g3 g4 g5 ho hr F hb hm ⟨fun b n => upd_ne n, fun _ => hk, fun u z => ?_⟩ (fun b u z => ?_) (.inl (.inr ⟨_, upd_same⟩))
    · rw [hs] at z
      cases z
      exact ⟨_, _, rfl, ho⟩
    · by_cases q : b = a
      · subst q
        rw [hs] at z
        cases z
        exact ⟨ho, by rw [List.length_map]; exact hl, vs, _, vals_ints hi, ho⟩
      · rw [upd_ne q] at z
        cases z
end
/-- the goal that k_head leaves, from the evaluator m of the law -/
theorem walk_g {l : PySem.W.OpenLaw} {n k : Nat} {q : Program} {loose : List Str} {XP : (Str → Option Value) → Heap → Prop} {YP : World → Heap → Prop} {d : DefRec} {K : Params → PySem.W.Frag} {x : Str} {m : GF}
    (hn : l.most = some n) (hn2 : n ≤ sizeLine) (hdf : d.params.defaults = []) (hr : Room k callerA) (hY : ∀ (w : World) (h : Heap), YP w h → (K w.params).In h)
    (F : ∀ (w : World) (mg : Str → Option Value) (fa : Addr) (h : Heap), (K w.params).In h → h.Ns mainGlobals mg → mg d.name = some (.ref fa) →
      ∃ fd : FuncData, (∀ (s : Shared) (u : Value), BindsTo s fd ⟨[u], []⟩ [(x, u)]) ∧ ∀ base : Heap, (K w.params).In base → base.Ns mainGlobals mg → FnG l.prog w (K w.params) mg base k fa fd [x] (spM (K w.params) mg 1 m))
    (hm : ∀ ns : List Int, ns.length ≤ n → ∃ B', m [.scr ns] [] = .ok (.dat (.bool true)) B') : PySem.W.WalkO q loose XP YP l.row.toRowW d [] (fun f vs => PySem.call f vs) := by
  refine Att.attach_call hn hdf fun w s₀ s₁ mg mb fa o pm cd doc a vs ns G Y ho hd hcd hmg hobj hints hlen hg => ?_
  obtain ⟨fd, hb, hF⟩ := F w mg fa _ (hY w _ Y) G.T.g hmg
  obtain ⟨B', e⟩ := hm ns hlen
  exact begin_law (hY w _ Y) G.T.g G.T.b G.T.builtins G.T.nolimit hg hobj hints (Nat.le_trans hlen hn2) hr hF hb e
end PN

set_option maxRecDepth 100000
set_option maxHeartbeats 4000000
/-! PN, 16th part: zip. -/
namespace PN
open PySem L2
def zipS : List S → List S → Option (List S)
  | .dat a :: xs, .dat b :: ys => (zipS xs ys).map fun l => .dat (.tuple [a, b]) :: l
  | [], _ => some []
  | _, [] => some []
  | _, _ => none
theorem zipS_dat {a b : PyData} {xs ys : List S} : zipS (.dat a :: xs) (.dat b :: ys) = (zipS xs ys).map fun l => .dat (.tuple [a, b]) :: l := rfl
theorem zipS_nil {ys : List S} : zipS [] ys = some [] := by
  unfold zipS
  rfl
theorem zipS_nil' {xs : List S} : zipS xs [] = some [] := by
  cases xs with
  | nil => rfl
  | cons x xs => cases x <;> rfl
theorem zipS_len : ∀ {xs ys its : List S}, zipS xs ys = some its → its.length ≤ xs.length ∧ its.length ≤ ys.length ∧ (xs.length ≤ its.length ∨ ys.length ≤ its.length)
  | [], ys, its, e => by
    rw [zipS_nil] at e
    cases e
    exact ⟨Nat.le_refl _, Nat.zero_le _, .inl (Nat.le_refl _)⟩
  | x :: xs, [], its, e => by
    rw [zipS_nil'] at e
    cases e
    exact ⟨Nat.zero_le _, Nat.le_refl _, .inr (Nat.le_refl _)⟩
  | x :: xs, y :: ys, its, e => by
    cases x with
    | dat a =>
      cases y with
      | dat b =>
        rw [zipS_dat] at e
        cases q : zipS xs ys with
        | none => rw [q] at e; cases e
        | some l =>
          rw [q] at e
          cases e
          have ih := zipS_len q
          simp only [List.length_cons]
          omega
      | _ => cases e
    | _ => cases e
theorem zipS_get : ∀ {xs ys its : List S} {i : Nat} {s : S}, zipS xs ys = some its → its[i]? = some s → ∃ a b, s = .dat (.tuple [a, b]) ∧ xs[i]? = some (.dat a) ∧ ys[i]? = some (.dat b)
  | [], ys, its, i, s, e, h => by
    rw [zipS_nil] at e
    cases e
    cases h
  | x :: xs, [], its, i, s, e, h => by
    rw [zipS_nil'] at e
    cases e
    cases h
  | x :: xs, y :: ys, its, i, s, e, h => by
    cases x with
    | dat a =>
      cases y with
      | dat b =>
        rw [zipS_dat] at e
        cases q : zipS xs ys with
        | none => rw [q] at e; cases e
        | some l =>
          rw [q] at e
          cases e
          cases i with
          | zero => cases h; exact ⟨a, b, rfl, rfl, rfl⟩
          | succ i =>
            rw [List.getElem?_cons_succ] at h
            obtain ⟨a', b', h1, h2, h3⟩ := zipS_get q h
            exact ⟨a', b', h1, by rw [List.getElem?_cons_succ]; exact h2, by rw [List.getElem?_cons_succ]; exact h3⟩
      | _ => cases e
    | _ => cases e
section
variable {K : PySem.W.Frag} {mg : Str → Option Value} {c0 : Cf} {B : Bs}
theorem pair_new {c : Cf} {B : Bs} (hd : Hold K mg c B) {x y : V} {a b : PyData} {T : Addr} (hT : c.H T = none) (hx : RS K mg c (.dat a) x) (hy : RS K mg c (.dat b) y) : ∃ c', c'.H = upd c.H T (.tup [x, y]) ∧ Step c c' ∧ Hold K mg c' B ∧ RS K mg c' (.dat (.tuple [a, b])) (.ref T) := by
  have st := frz_step (o := .tup [x, y]) hd hT
  exact ⟨⟨c.al, upd c.G T (.tup [x, y]), upd c.H T (.tup [x, y])⟩, rfl, st, frz_hold hd hT, .tup (.inl (.inl upd_same)) (.cons (dp_mono st.g _ _ hx) (.cons (dp_mono st.g _ _ hy) .nil))⟩
theorem it_zip {s t : S} {v u : V} {ss ts its : List S} (hd : Hold K mg c0 B) (h1 : RS K mg c0 s v) (h2 : RS K mg c0 t u) (e1 : asL B s = some ss) (e2 : asL B t = some ts) (ez : zipS ss ts = some its) :
    ∃ a b xs ys, v = .ref a ∧ u = .ref b ∧ SqL K c0.H a xs ∧ SqL K c0.H b ys ∧ ItOk K mg (Itz K a b) its (fun B => stays s ss B ∧ stays t ts B) c0 := by
  obtain ⟨a, vs, q1, q2, q3⟩ := asL_ok hd h1 e1
  obtain ⟨b, us, p1, p2, p3⟩ := asL_ok hd h2 e2
  subst q1 p1
  have at' : ∀ (c : Cf) (B' : Bs), Step c0 c → Hold K mg c B' → stays s ss B' ∧ stays t ts B' → ∃ vs us, SqL K c.H a vs ∧ SqL K c.H b us ∧ Paired (RS K mg c) ss vs ∧ Paired (RS K mg c) ts us := fun c B' st hd' k => by
    obtain ⟨a', vs', z2, h3, h4⟩ := asL_ok hd' (RS.mono st h1) (stays_asL e1 k.1)
    cases z2
    obtain ⟨b', us', z2, h5, h6⟩ := asL_ok hd' (RS.mono st h2) (stays_asL e2 k.2)
    cases z2
    exact ⟨vs', us', h3, h5, h4, h6⟩
  obtain ⟨l1, l2, l3⟩ := zipS_len ez
  refine ⟨a, b, vs, us, rfl, rfl, q2, p2, fun i c B' st hd' k hi => ?_, fun i c B' st hd' k hi => ?_, fun i c B' x H' w st hd' k hw y => ?_⟩
  · obtain ⟨vs, us, r1, r2, r3, r4⟩ := at' c B' st hd' k
    have m1 := paired_len r3
    have m2 := paired_len r4
    exact ⟨vs, us, vs[i]'(by omega), us[i]'(by omega), r1, r2, List.getElem?_eq_getElem (by omega), List.getElem?_eq_getElem (by omega)⟩
  · obtain ⟨vs, us, r1, r2, r3, r4⟩ := at' c B' st hd' k
    have m1 := paired_len r3
    have m2 := paired_len r4
    exact ⟨vs, us, r1, r2, by omega⟩
  · obtain ⟨vs, us, r1, r2, r3, r4⟩ := at' c B' st hd' k
    obtain ⟨T, x', y', rfl, hT, rfl, f1, f2⟩ := y
    obtain ⟨d1, d2, ew, g1, g2⟩ := zipS_get ez hw
    subst ew
    obtain ⟨w1, k1, k2⟩ := paired_get r3 g1
    obtain ⟨w2, k3, k4⟩ := paired_get r4 g2
    have f1 := f1 vs r1
    have f2 := f2 us r2
    rw [k1] at f1
    rw [k3] at f2
    cases f1
    cases f2
    exact pair_new hd' hT k2 k4
theorem it_zipT {s t : S} {v u : V} {ss ts its : List S} (hd : Hold K mg c0 B) (h1 : RS K mg c0 s v) (h2 : RS K mg c0 t u) (e1 : asT s = some ss) (e2 : asT t = some ts) (ez : zipS ss ts = some its) :
    ∃ a b xs ys, v = .ref a ∧ u = .ref b ∧ SqT K c0.H a xs ∧ SqT K c0.H b ys ∧ ItOk K mg (RZ.ItzT K a b) its (fun _ => True) c0 := by
  obtain ⟨a, vs, q1, q2, q3⟩ := asT_ok h1 e1
  obtain ⟨b, us, p1, p2, p3⟩ := asT_ok h2 e2
  subst q1 p1
  have at' : ∀ (c : Cf) (B' : Bs), Step c0 c → Hold K mg c B' → SqT K c.H a vs ∧ SqT K c.H b us ∧ Paired (RS K mg c) ss vs ∧ Paired (RS K mg c) ts us := fun c B' st hd' => ⟨same_t (st.g.trans hd'.gh) q2, same_t (st.g.trans hd'.gh) p2, RSs.mono st q3, RSs.mono st p3⟩
  obtain ⟨l1, l2, l3⟩ := zipS_len ez
  have m1 := paired_len q3
  have m2 := paired_len p3
  refine ⟨a, b, vs, us, rfl, rfl, same_t hd.gh q2, same_t hd.gh p2, fun i c B' st hd' k hi => ?_, fun i c B' st hd' k hi => ?_, fun i c B' x H' w st hd' k hw y => ?_⟩
  · obtain ⟨r1, r2, r3, r4⟩ := at' c B' st hd'
    exact ⟨vs, us, vs[i]'(by omega), us[i]'(by omega), r1, r2, List.getElem?_eq_getElem (by omega), List.getElem?_eq_getElem (by omega)⟩
  · obtain ⟨r1, r2, r3, r4⟩ := at' c B' st hd'
    exact ⟨vs, us, r1, r2, by omega⟩
  · obtain ⟨r1, r2, r3, r4⟩ := at' c B' st hd'
    obtain ⟨T, x', y', rfl, hT, rfl, f1, f2⟩ := y
    obtain ⟨d1, d2, ew, g1, g2⟩ := zipS_get ez hw
    subst ew
    obtain ⟨w1, k1, k2⟩ := paired_get r3 g1
    obtain ⟨w2, k3, k4⟩ := paired_get r4 g2
    have f1 := f1 vs r1
    have f2 := f2 us r2
    rw [k1] at f1
    rw [k3] at f2
    cases f1
    cases f2
    exact pair_new hd' hT k2 k4
end
def zipT (B : Bs) (s t : S) : Ri := match asT s, asT t with
  | some ss, some ts => (match zipS ss ts with
    | some its => .ok its (fun _ => True) B
    | none => .bad)
  | _, _ => .bad
/-- two lists, two tuples -/
def zipV (B : Bs) (s t : S) : Ri := match asL B s, asL B t with
  | some ss, some ts => (match zipS ss ts with
    | some its => .ok its (fun B => stays s ss B ∧ stays t ts B) B
    | none => .bad)
  | _, _ => zipT B s t
def zip2 (B : Bs) : List S → Ri
  | [s, t] => zipV B s t
  | _ => .bad
def gZip (ga : GA) : GI := fun r B => match ga r B with
  | .ok l B1 => zip2 B1 l
  | .exc x fs B1 => .exc x fs B1
  | .bad => .bad
section
variable {X : Cx} {W : WX} {e e2 : Expr} {ga : GA} {p pos tpos : Pos} {elts : List Expr} {kk : Nat}
theorem i_zip (hg : Gl X "zip") (hm : X.mg "zip" = none) (ha : PA X [e, e2] (rdA X.K X.mg W ga)) (hs : starEach [e, e2] X.env = (false, eval e X.env) :: starEach [e2] X.env) (hpl : (backTo pos (starEach [e2] X.env)).any (·.1) = false) :
    PI X (.Tuple elts kk tpos) (.Call (.Name "zip" p) [e, e2] [] pos) (rdI X.K X.mg W (gZip ga)) := by
  refine PI_le (RZ.pi_zipA hg hm ha hs hpl) fun σ H R h => ?_
  obtain ⟨r, B, c, rfl, hd, hr, h⟩ := h
  refine ⟨r, B, c, rfl, hd, hr, ?_⟩
  unfold gZip at h
  cases e1 : ga r B with
  | exc x fs B1 => rw [e1] at h; exact h
  | bad => rw [e1] at h; exact h
  | ok l B1 =>
    rw [e1] at h
    intro c' vs st hd' hs'
    have h : FinI X.K X.mg W c σ R (zip2 B1 l) := h
    cases hs' with
    | nil => exact h.elim
    | @cons s v l1 vs1 h1 hs' =>
      cases hs' with
      | nil => exact h.elim
      | @cons t u l2 vs2 h2 hs' =>
        cases hs' with
        | cons _ _ => exact h.elim
        | nil =>
          have h : FinI X.K X.mg W c σ R (zipV B1 s t) := h
          unfold zipV at h
          have tup : FinI X.K X.mg W c σ R (zipT B1 s t) → ∃ a b xs ys, [v, u] = [V.ref a, .ref b] ∧ ((SqL X.K c'.H a xs ∧ SqL X.K c'.H b ys ∧ R (Itz X.K a b) c'.H) ∨ (SqT X.K c'.H a xs ∧ SqT X.K c'.H b ys ∧ R (RZ.ItzT X.K a b) c'.H)) := fun h => by
            unfold zipT at h
            cases q1 : asT s with
            | none => rw [q1] at h; exact h.elim
            | some ss =>
              cases q2 : asT t with
              | none => rw [q1, q2] at h; exact h.elim
              | some ts =>
                rw [q1, q2] at h
                dsimp only at h
                cases q3 : zipS ss ts with
                | none => rw [q3] at h; exact h.elim
                | some its =>
                  rw [q3] at h
                  obtain ⟨a, b, xs, ys, z1, z2, z3, z4, z5⟩ := it_zipT hd' h1 h2 q1 q2 q3
                  exact ⟨a, b, xs, ys, by rw [z1, z2], .inr ⟨z3, z4, h c' _ st hd' z5⟩⟩
          cases q1 : asL B1 s with
          | none => rw [q1] at h; exact tup h
          | some ss =>
            cases q2 : asL B1 t with
            | none => rw [q1, q2] at h; exact tup h
            | some ts =>
              rw [q1, q2] at h
              dsimp only at h
              cases q3 : zipS ss ts with
              | none => rw [q3] at h; exact h.elim
              | some its =>
                rw [q3] at h
                obtain ⟨a, b, xs, ys, z1, z2, z3, z4, z5⟩ := it_zip hd' h1 h2 q1 q2 q3
                exact ⟨a, b, xs, ys, by rw [z1, z2], .inl ⟨z3, z4, h c' _ st hd' z5⟩⟩
end
end PN

set_option maxRecDepth 100000
set_option maxHeartbeats 4000000
/-! PN, 17th part: what a generated derivation leans on. -/
namespace PN
open PySem L2
/-! ### a changing list is changed no more -/
def shutS : S → Bs → Option (S × Bs)
  | .ref k, B => (match B[k]? with
    | some (some (.lst ss)) => (datsOf ss).map fun ds => (.dat (.list ds), B.set k none)
    | _ => none)
  | s, B => some (s, B)
def gShut (g : GE) : GE := gBind g fun s _ B => liftP (shutS s B)
section
variable {K : PySem.W.Frag} {mg : Str → Option Value} {W : WX} {c : Cf} {B : Bs} {σ : St} {Q : VK}
theorem shut_fin {s : S} {v : V} (hd : Hold K mg c B) (hs : RS K mg c s v) (h : Fin K mg W c σ Q (liftP (shutS s B))) : Q v c.H := by
  have nop : ∀ s', shutS s' B = some (s', B) → RS K mg c s' v → Fin K mg W c σ Q (liftP (shutS s' B)) → Q v c.H := fun s' e hs h => by
    rw [e] at h
    exact h c v (Step.refl c) hd hs
  cases s with
  | dat d => exact nop _ rfl hs h
  | fn x => exact nop _ rfl hs h
  | scr ns => exact nop _ rfl hs h
  | ref k =>
    unfold shutS at h
    obtain ⟨a, h1, h2⟩ := hs
    subst h2
    cases q : B[k]? with
    | none => simp only [q] at h; exact h.elim
    | some o =>
      cases o with
      | none => simp only [q] at h; exact h.elim
      | some mo =>
        simp only [q] at h
        cases mo with
        | lst ss =>
          dsimp only at h
          cases q2 : datsOf ss with
          | none => rw [q2] at h; exact h.elim
          | some ds =>
            rw [q2] at h
            obtain ⟨a', ho, g1, g2, g3, g4⟩ := hd.ob k _ q
            have ea : a' = a := Option.some.inj (g1.symm.trans h1)
            subst ea
            cases ho with
            | lst vs =>
              have st : Step c ⟨c.al, upd c.G a' (.lst vs), c.H⟩ := shut_step (List.mem_of_getElem? g1) g2
              exact h ⟨c.al, upd c.G a' (.lst vs), c.H⟩ (.ref a') st (shut_hold hd g1 g2 g3) (.lst upd_same (dpAll_mono st.g ds vs (dats_all q2 g4)))
            | _ => exact g4.elim
        | _ => exact h.elim
end
section
variable {X : Cx} {W : WX} {e : Expr} {g : GE}
theorem r_shut (he : PE X e (rdE X.K X.mg W g)) : PE X e (rdE X.K X.mg W (gShut g)) := PE_le he fun σ H Q h => by
  obtain ⟨r, B, c, rfl, hd, hr, h⟩ := h
  obtain ⟨r', B', c', e1, hd', hr', q⟩ := fin_bind hd hr h
  refine ⟨r', B', c', e1, hd', hr', ?_⟩
  revert q
  cases g r' B' with
  | ok s B1 =>
    intro q c2 v st hd2 hs2
    obtain ⟨c3, s3, B3, e3, st3, hd3, hr3, hs3, f3⟩ := q c2 v st hd2 hs2
    rw [← e3]
    exact shut_fin hd3 hs3 f3
  | exc x fs B1 => exact fun q => q
  | bad => exact fun q => q
end
/-! ### globals -/
section
variable {X : Cx} {W : WX} {pos : Pos} {x : Str}
theorem r_gi {i : Int} (hg : Gl X x) (hm : ∃ t, X.mg x = some (.int i t)) (hd : (x == ("__debug__" : Str)) = false) : PE X (.Name x pos) (rdE X.K X.mg W (gC (.dat (.int i)))) := by
  obtain ⟨t, hm⟩ := hm
  exact r_gint hg hm hd
theorem r_gs {y : Str} (hg : Gl X x) (hm : ∃ t, X.mg x = some (.str y t)) (hd : (x == ("__debug__" : Str)) = false) : PE X (.Name x pos) (rdE X.K X.mg W (gC (.dat (.str y)))) := by
  obtain ⟨t, hm⟩ := hm
  exact r_gstr hg hm hd
end
/-! ### defs, as the top has made them; their promises -/
/-- the top has made the def -/
def Df (K : PySem.W.Frag) (mg : Str → Option Value) (x : Str) (st : Stmt) (ps : List Str) : Prop := ∃ f fd, mg x = some (.ref f) ∧ Fun K x x st f fd ∧ ∀ us : List Value, us.length = ps.length → bindArgs fd ⟨us, []⟩ = pure (ps.zip us)
/-- the def's promise -/
def OkD (P : Program) (w : World) (K : PySem.W.Frag) (mg : Str → Option Value) (base : Heap) (k : Nat) (x : Str) (ps : List Str) (m : GF) : Prop :=
  ∃ f fd, mg x = some (.ref f) ∧ PySem.W.keepIn K (.ref f) = true ∧ Binds K fd ps [] ∧ FnG P w K mg base k f fd ps (spM K mg ps.length m)
theorem df_mk {K : PySem.W.Frag} {h : Heap} {mg : Str → Option Value} {x : Str} {st : Stmt} {ps : List Str} {f : Addr} {oc : Value} {od an : Option Addr} {osl : Array (Option Value)} {kV doc pm cdv ct : Value} (X : K.In h) (G : h.Ns mainGlobals mg)
    (a : PySem.W.nsIn K mainGlobals x = some (some (.ref f))) (l : K.lookup f = some ⟨oc, od, .func (PySem.W.fnOf x x (defArgs st) (defBody st) (defScope st) .none kV doc pm an cdv ct), osl⟩) (c : PySem.W.codeIn K cdv x = true) (k : PySem.W.keepIn K (.ref f) = true)
    (b : ∀ (kV doc pm : Value) (an : Option Addr) (cdv ct : Value) (us : List Value), us.length = ps.length → bindArgs (PySem.W.fnOf x x (defArgs st) (defBody st) (defScope st) .none kV doc pm an cdv ct) ⟨us, []⟩ = pure (ps.zip us)) : Df K mg x st ps :=
  ⟨f, _, PySem.W.mg_of X G a, fun_mk (st := st) l c k, b kV doc pm an cdv ct⟩
section
variable {P : Program} {w : World} {K : PySem.W.Frag} {mg : Str → Option Value} {base : Heap}
theorem OkD.mono {j k : Nat} {x : Str} {ps : List Str} {m : GF} (h : OkD P w K mg base j x ps m) (hk : j ≤ k) : OkD P w K mg base k x ps m := by
  obtain ⟨f, fd, h1, h2, h3, h4⟩ := h
  exact ⟨f, fd, h1, h2, h3, h4.mono hk⟩
theorem OkD.fn {k : Nat} {x : Str} {ps : List Str} {m : GF} (h : OkD P w K mg base k x ps m) : ∃ f, mg x = some (.ref f) := by
  obtain ⟨f, fd, h1, h2, h3, h4⟩ := h
  exact ⟨f, h1⟩
theorem okd {x : Str} {st : Stmt} {N ps : List Str} {k : Nat} {body : GS} (D : Df K mg x st ps) (Sc : FnScope N ps (defScope st))
    (hb : ∀ (f : Addr) (cdv : Value) (A : Around) (outer : List Env) (s : Shared) (H : Hp) (E : XK), A.guards = some [] → Room k (A.deeper (PyProof.Rows.envOfC x (defScope st) s.heap.objs.size f cdv)) →
      PSs (cxOf (L2.CX P w) P w K mg base N x (defScope st) f cdv A outer s H E) (defBody st) (rdS K mg (WF E) body)) : OkD P w K mg base (k + 1) x ps (gFn N.length body) := by
  obtain ⟨f, fd, h1, h2, h3⟩ := D
  exact ⟨f, fd, h1, h2.kp, .all h3, fn_ok h2 Sc (hb f)⟩
theorem okdK {x : Str} {st : Stmt} {N ps : List Str} {k : Nat} {body : GS} (D : Df K mg x st ps) (Sc : FnScope N ps (defScope st))
    (hb : ∀ (f : Addr) (cdv : Value) (A : Around) (outer : List Env) (s : Shared) (H : Hp) (E : XK), A.guards = some [] → Room k (A.deeper (PyProof.Rows.envOfC x (defScope st) s.heap.objs.size f cdv)) →
      PSs (cxOf (L2.CX P w) P w K mg base N x (defScope st) f cdv A outer s H E) (defBody st) (rdS K mg (WF E) body)) : OkD P w K mg base (k + 1) x ps (gFnK N.length body) := by
  obtain ⟨f, fd, h1, h2, h3⟩ := D
  exact ⟨f, fd, h1, h2.kp, .all h3, fn_okK h2 Sc (hb f)⟩
/-- a def's wish about exceptions is taken in its body -/
theorem tk_def {N : List Str} {x : Str} {sc : Scope} {f : Addr} {cdv : Value} {A : Around} {outer : List Env} {s : Shared} {H : Hp} {E : XK} : Takes (cxOf (L2.CX P w) P w K mg base N x sc f cdv A outer s H E) (WF E) := takes_of rfl rfl rfl (E₁ := _) rfl
theorem ru {A : Around} {k n : Nat} (hr : Room k A) (h : n ≤ 199) : A.units + n < cLine := by
  have := hr.un
  omega
end
section
variable {X : Cx} {W : WX} {pos p : Pos} {x : Str} {e : Expr} {es : List Expr} {ga : GA} {m : GF} {k n : Nat} {ps : List Str}
theorem r_callO (F : OkD X.prog X.w X.K X.mg X.base k x ps m) (hn : ps.length = n) (tk : Takes X W) (hgd : X.A.guards = some []) (hr : Room k X.A) (hg : Gl X x) (ha : PA X (e :: es) (rdA X.K X.mg W ga)) (hdb : (x == ("__debug__" : Str)) = false)
    (he : starEach (e :: es) X.env = (false, eval e X.env) :: starEach es X.env) (hpl : (backTo pos (starEach es X.env)).any (·.1) = false) : PE X (.Call (.Name x p) (e :: es) [] pos) (rdE X.K X.mg W (gCall n m ga)) := by
  obtain ⟨f, fd, h1, h2, h3, h4⟩ := F
  subst hn
  exact r_call h4 tk hgd hr hg h1 h2 h3 ha hdb he hpl
theorem r_gf (F : ∃ f, X.mg x = some (.ref f)) (hg : Gl X x) (hd : (x == ("__debug__" : Str)) = false) : PE X (.Name x pos) (rdE X.K X.mg W (gC (.fn x))) := by
  obtain ⟨f, h1⟩ := F
  exact r_gfn hg h1 hd
/-- a table of defs -/
def tbOf (l : List (Str × GF)) : Str → Option GF := fun x => l.lookup x
theorem tb_nil : TbOk X k n (tbOf []) := fun x m e => nomatch e
theorem tb_cons {l : List (Str × GF)} (F : OkD X.prog X.w X.K X.mg X.base k x ps m) (hn : ps.length = n) (h : TbOk X k n (tbOf l)) : TbOk X k n (tbOf ((x, m) :: l)) := by
  intro y m' e
  unfold tbOf at e
  rw [lookup_cons] at e
  by_cases q : y = x
  · rw [if_pos q] at e
    cases e
    obtain ⟨f, fd, h1, h2, h3, h4⟩ := F
    subst q
    subst hn
    exact ⟨f, fd, ps, h1, h4, h2, h3⟩
  · rw [if_neg q] at e
    exact h y m' e
end
/-! ### own error classes, as the top has made them -/
structure XcD (P : Program) (w : World) (K : PySem.W.Frag) (mg : Str → Option Value) (base : Heap) (k : Nat) (x : Str) (ps fl : List Str) : Prop where
  ex : ∃ C fI fd, mg x = some (.ref C) ∧ OexC K C ∧ (∀ f ∈ fl, PySem.W.findIn K (.ref C) f = some none) ∧ PySem.W.findIn K (.ref C) "__init__" = some (some (.ref fI)) ∧ PySem.W.typeIn K (.ref fI) = some (.type "function") ∧
    FnOk P w K mg base (L2.CX P w) k fI fd ps (spX K fl) ∧ Binds K fd ps [] ∧ XfC K C ∧ PySem.W.exmOne K (.ref C) (.ref C) = some true
section
variable {X : Cx} {W : WX} {e : Expr} {es : List Expr} {ga : GA} {p p1 pos : Pos} {x : Str} {k : Nat} {ps fl : List Str}
theorem s_raiseO (F : XcD X.prog X.w X.K X.mg X.base k x ps fl) (hc : X.calm = true) (tk : Takes X W) (hr : Room (k + 1) X.A) (hg : Gl X x) (ha : PA X (e :: es) (rdA X.K X.mg W ga))
    (hdb : (x == ("__debug__" : Str)) = false) (he : starEach (e :: es) X.env = (false, eval e X.env) :: starEach es X.env) (hpl : (backTo pos (starEach es X.env)).any (·.1) = false) :
    PS X (.Raise (some (.Call (.Name x p) (e :: es) [] pos)) none p1) (rdS X.K X.mg W (sRaise x fl ga)) := by
  obtain ⟨C, fI, fd, h1, h2, h3, h4, h5, h6, h7, h8, h9⟩ := F.ex
  exact s_raise hc tk h2 h3 h4 h5 h6 hr h7 hg h1 ha hdb he hpl
end
section
variable {X : Cx} {x n : Str} {i k : Nat} {ps fl : List Str} {body : List Stmt} {es : List Expr} {np pos pos' rpos tpos : Pos} {k1} {g : GS} {l : List XI} {Wout : WX}
/-- one class, caught by its own name -/
def tbX (x : Str) : Str → Option Bool := fun y => if y = x then some true else none
theorem s_tryO (F : XcD X.prog X.w X.K X.mg X.base k x ps fl) (hs : X.stack = X.env :: X.outer) (hf : X.env.frame = some X.env.locals) (hN : X.N.Nodup) (hi : X.N[i]? = some n) (hln : X.env.kindOf n = some .local) (hg : Gl X x) (hdb : (x == ("__debug__" : Str)) = false) (tk : Takes X Wout)
    (hb : ∀ (W : WX) (pn : List (Addr × Obj)) (xe : Value → Shared → Prop), Takes (X.tr pn xe) W → PassesOwn (model X.prog X.w) X.A X.env xe → PSs (X.tr pn xe) body (rdS X.K X.mg W g))
    (hsu : ∀ C : Addr, XfC X.K C → (∀ f ∈ fl, PySem.W.findIn X.K (.ref C) f = some none) → ∀ (a : Addr) (oe : Obj) (cls : Value) (d : Option Addr) (pn : List (Addr × Obj)), Zc cls d oe → (∃ vs, oe.data = .fields vs) → XIs (X.suite a ((a, oe) :: pn)) a cls d C i es l) :
    PS X (.Try body [.ExceptHandler (some (.Name x np)) (some n) [.Return (some (.Tuple es k1 tpos)) rpos] pos'] [] [] pos) (rdS X.K X.mg Wout (sTryR g i (tbX x) l)) := by
  obtain ⟨C, fI, fd, h1, h2, h3, h4, h5, h6, h7, h8, h9⟩ := F.ex
  refine s_tryR hs hf hN hi hln ⟨hg, hdb, .inl h1⟩ tk (fun y b D e hm => ?_) hb (hsu C h8 h3)
  unfold tbX at e
  by_cases q : y = x
  · rw [if_pos q] at e
    cases e
    subst q
    rw [h1] at hm
    cases hm
    exact ⟨h9, fun _ => rfl⟩
  · rw [if_neg q] at e
    cases e
end
/-! ### comparisons as tests -/
theorem rd_test {K : PySem.W.Frag} {mg : Str → Option Value} {W : WX} {g : GE} {σ : St} {H : Hp} {Q : Bool → Hp → Prop} (h : rdT K mg W g σ H Q) : rdE K mg W g σ H fun x H' => ∃ k, x = .bl k ∧ Q k H' := by
  obtain ⟨r, B, c, rfl, hd, hr, h⟩ := h
  refine ⟨r, B, c, rfl, hd, hr, ?_⟩
  cases e : g r B with
  | ok s B1 =>
    rw [e] at h
    cases s with
    | dat d =>
      cases d <;> first | exact h.elim | exact fun c' v st hd' hs => ⟨_, rs_bool hs, h c' st hd'⟩
    | ref k => exact h.elim
    | _ => exact h.elim
  | exc x fs B1 => rw [e] at h; exact h
  | bad => rw [e] at h; exact h.elim
section
variable {X : Cx} {W : WX} {pos : Pos} {a b d : Expr} {ga gb gd : GE} {f f' : GP}
theorem t_cmp {op : CmpOp} (h : PrimOp X (compareOp op) f) (ha : PE X a (rdE X.K X.mg W ga)) (hb : PE X b (rdE X.K X.mg W gb)) (hm : behindInMarks op b = false) : PT X (.Compare a [op] [b] pos) (rdT X.K X.mg W (gP2 f ga gb)) := by
  obtain ⟨r, ho, hp⟩ := h
  refine PT_le (pt_cmpR ho ha hb hm) fun σ H Q h => rdE_mono (rd_two (rd_test h)) fun v H1 h => rdE_mono h fun u H2 h2 => ?_
  obtain ⟨c, s, t, B, ρ, e, hd, hr, hs, ht, h3⟩ := h2
  subst e
  exact hp s t v u c B _ hd hs ht (finP_of h3)
theorem t_chain {op op' : CmpOp} (h : PrimOp X (compareOp op) f) (h' : PrimOp X (compareOp op') f') (ha : PE X a (rdE X.K X.mg W ga)) (hb : PE X b (rdE X.K X.mg W gb)) (hc : PE X d (rdE X.K X.mg W gd))
    (hm : lastMarks [op, op'] [b, d] = false) : PT X (.Compare a [op, op'] [b, d] pos) (rdT X.K X.mg W (gChain f f' ga gb gd)) := by
  obtain ⟨r, ho, hp⟩ := h
  obtain ⟨r', ho', hp'⟩ := h'
  refine PT_le (pt_chain ho ho' ha hb hc hm) fun σ H Q h => rdE_mono (rd_two (rd_test h)) fun v H1 h => rdE_mono h fun u H2 h2 => ?_
  obtain ⟨c, s, t, B, ρ, e, hd, hr, hs, ht, h⟩ := h2
  subst e
  refine hp s t v u c B _ hd hs ht ?_
  cases e : f [s, t] B with
  | none => rw [e] at h; exact h.elim
  | some q =>
    obtain ⟨z, B1⟩ := q
    rw [e] at h
    intro c' x st hd' hz
    cases z with
    | dat z =>
      cases z with
      | bool k =>
        refine ⟨k, rs_bool hz, ?_⟩
        cases k with
        | true =>
          refine iteT (rdE_mono (fin_bind hd' (hr.mono st) (Fin.step st h)) fun w' H4 h4 => ?_)
          obtain ⟨c2, s2, B2, e2, st2, hd2, hr2, hs2, h2⟩ := h4
          subst e2
          exact hp' t s2 u w' c2 B2 _ hd2 (RS.mono (st.trans st2) ht) hs2 (finP_of h2)
        | false => exact iteF (h c' (.bl false) st hd' (.bl false))
      | _ => exact h.elim
    | ref k => exact h.elim
    | _ => exact h.elim
end
/-! ### the law's own def -/
theorem law_mk {P : Program} {w : World} {K : PySem.W.Frag} {mg : Str → Option Value} {x y : Str} {st : Stmt} {fa : Addr} {k : Nat} {m : GF} (D : Df K mg x st [y]) (hfa : mg x = some (.ref fa))
    (h : ∀ (f : Addr) (fd : FuncData), Fun K x x st f fd → ∀ base : Heap, K.In base → base.Ns mainGlobals mg → FnG P w K mg base k f fd [y] (spM K mg 1 m)) :
    ∃ fd : FuncData, (∀ (s : Shared) (u : Value), BindsTo s fd ⟨[u], []⟩ [(y, u)]) ∧ ∀ base : Heap, K.In base → base.Ns mainGlobals mg → FnG P w K mg base k fa fd [y] (spM K mg 1 m) := by
  obtain ⟨f, fd, h1, F, hb⟩ := D
  rw [hfa] at h1
  cases h1
  exact ⟨fd, fun s u => .of_eq (hb [u] rfl), h fa fd F⟩
/-- an own error class: its facts -/
theorem xcd_mk {P : Program} {w : World} {K : PySem.W.Frag} {mg : Str → Option Value} {base : Heap} {x qual : Str} {st : Stmt} {C fI : Addr} {fd : FuncData} {ps : List Str} {f1 : Str} {fl : List Str} (hm : mg x = some (.ref C)) (T : OexC K C) (hno : ∀ f ∈ f1 :: fl, PySem.W.findIn K (.ref C) f = some none)
    (iC : PySem.W.findIn K (.ref C) "__init__" = some (some (.ref fI))) (tI : PySem.W.typeIn K (.ref fI) = some (.type "function")) (F : Fun K "__init__" qual st fI fd) (hb : Binds K fd ps []) (xf : XfC K C) (ex : PySem.W.exmOne K (.ref C) (.ref C) = some true)
    (Sc : FnScope ps ps (defScope st)) (hps : ps.length = fl.length + 2) (hsm : fl.length ≤ 800)
    (hbody : ∀ (cdv : Value) (A : Around) (outer : List Env) (s : Shared) (H : Hp) (E : XK), ∃ (e0 : Expr) (p0 : Pos) (s1 : Stmt) (r : List Stmt) (t : Str) (l : List (Str × Nat)), defBody st = .Expr e0 p0 :: s1 :: r ∧ l.map (·.1) = fl ∧ l.map (·.2) = (List.range fl.length).map (· + 2) ∧
      PE (cxOf (L2.CX P w) P w K mg base ps qual (defScope st) fI cdv A outer s H E) e0 (tVeI K (tCons (tVar 0) (tCons (tC (.str t)) tNil))) ∧ swapsWith e0 none p0.line (cxOf (L2.CX P w) P w K mg base ps qual (defScope st) fI cdv A outer s H E).env = pure false ∧
      PS (cxOf (L2.CX P w) P w K mg base ps qual (defScope st) fI cdv A outer s H E) s1 (tOst K f1 (tVar 0) (tVar 1)) ∧ XBs (cxOf (L2.CX P w) P w K mg base ps qual (defScope st) fI cdv A outer s H E) r l) : XcD P w K mg base 1 x ps (f1 :: fl) :=
  ⟨C, fI, fd, hm, T, hno, iC, tI, init_ok (k := 0) F Sc hps (by omega) hsm hbody, hb, xf, ex⟩
/-- what the text says of an own error class with an __init__ -/
structure XcF (K : PySem.W.Frag) (mg : Str → Option Value) (x qual : Str) (st : Stmt) (ps fl : List Str) (b : Str) : Prop where
  ex : ∃ C fI fd D, mg x = some (.ref C) ∧ OexC K C ∧ (∀ f ∈ fl, PySem.W.findIn K (.ref C) f = some none) ∧ PySem.W.findIn K (.ref C) "__init__" = some (some (.ref fI)) ∧ PySem.W.typeIn K (.ref fI) = some (.type "function") ∧
    Fun K "__init__" qual st fI fd ∧ Binds K fd ps [] ∧ XfC K C ∧ PySem.W.exmOne K (.ref C) (.ref C) = some true ∧ mg b = some (.ref D) ∧ BsC K D
inductive AllNo (K : PySem.W.Frag) (C : Addr) : List Str → Prop
  | nil : AllNo K C []
  | cons {f : Str} {l : List Str} : PySem.W.findIn K (.ref C) f = some none → AllNo K C l → AllNo K C (f :: l)
theorem AllNo.all {K : PySem.W.Frag} {C : Addr} : ∀ {l : List Str}, AllNo K C l → ∀ f ∈ l, PySem.W.findIn K (.ref C) f = some none
  | _, .cons h t, f, m => by
    rcases List.mem_cons.mp m with e | m
    · rw [e]; exact h
    · exact AllNo.all t f m
theorem xcf_mk {K : PySem.W.Frag} {h : Heap} {mg : Str → Option Value} {x qual b : Str} {st : Stmt} {ps fl : List Str} {C D f : Addr} {nm q : Str} {N : Addr} {bs bm : List Value} {sn : List Str} {sub : List Value} {ab : Bool} {col : Option Bool} {dd : Option Addr} {k0 k1 k2 k3 k5 : Option Value}
    {oc : Value} {od an : Option Addr} {osl : Array (Option Value)} {kV doc pm cdv ct : Value} (X : K.In h) (G : h.Ns mainGlobals mg)
    (a : PySem.W.nsIn K mainGlobals x = some (some (.ref C))) (xL : K.lookup C = some (PySem.excClassObj nm q C N bs bm true sn sub ab col dd k0 k1 k2 k3 k5 "ValueError.__new__")) (rv : PySem.HandSPX.refsVE bm = true) (sa : PySem.W.findIn K (.ref C) "__setattr__" = some (some (.builtin "object.__setattr__")))
    (ga : PySem.W.findIn K (.ref C) "__getattribute__" = some (some (.builtin "BaseException.__getattribute__"))) (gg : PySem.W.findIn K (.ref C) "__getattr__" = some none) (no : AllNo K C fl) (iC : PySem.W.findIn K (.ref C) "__init__" = some (some (.ref f))) (tI : PySem.W.typeIn K (.ref f) = some (.type "function"))
    (l : K.lookup f = some ⟨oc, od, .func (PySem.W.fnOf "__init__" qual (defArgs st) (defBody st) (defScope st) .none kV doc pm an cdv ct), osl⟩) (c : PySem.W.codeIn K cdv qual = true) (k : PySem.W.keepIn K (.ref f) = true) (kC : PySem.W.keepIn K (.ref C) = true) (eC : PySem.W.subIn K (.ref C) (.type "BaseException") = some true)
    (tC : PySem.W.typeIn K (.ref C) = some (.type "type")) (hC : PySem.W.hasDictIn K C = true) (sC : PySem.W.subIn K (.ref C) (.ref C) = some true) (aB : PySem.W.nsIn K mainGlobals b = some (some (.ref D))) (rB : PySem.W.readsIn K D (.type "type") = true)
    (gB : PySem.W.specialIn K (.ref D) "__getattribute__" = some (some (.builtin "type.__getattribute__"))) (fB : PySem.W.findCls K (.ref D) (.type "type") "__init__" = some (.val (.builtin "ValueError.__init__")))
    (bnd : ∀ (kV doc pm : Value) (an : Option Addr) (cdv ct : Value) (us : List Value), us.length = ps.length → bindArgs (PySem.W.fnOf "__init__" qual (defArgs st) (defBody st) (defScope st) .none kV doc pm an cdv ct) ⟨us, []⟩ = pure (ps.zip us)) : XcF K mg x qual st ps fl b :=
  ⟨C, f, _, D, PySem.W.mg_of X G a, ⟨⟨nm, q, N, bs, bm, sn, sub, ab, col, dd, k0, k1, k2, k3, k5, xL, rv⟩, sa, eC, tC, kC⟩, no.all, iC, tI, fun_mk (st := st) l c k, (fun_mk (st := st) l c k).binds bnd, ⟨ga, gg, eC, hC⟩, PySem.W.exm_ref eC hC tC sC, PySem.W.mg_of X G aB, rB, gB, fB⟩
theorem ci_of {K : PySem.W.Frag} {h : Heap} {mg : Str → Option Value} {x : Str} {i : Int} {t : Tok} (X : K.In h) (G : h.Ns mainGlobals mg) (a : PySem.W.nsIn K mainGlobals x = some (some (.int i t))) : ∃ t, mg x = some (.int i t) := ⟨t, PySem.W.mg_of X G a⟩
theorem cs_of {K : PySem.W.Frag} {h : Heap} {mg : Str → Option Value} {x y : Str} {t : Tok} (X : K.In h) (G : h.Ns mainGlobals mg) (a : PySem.W.nsIn K mainGlobals x = some (some (.str y t))) : ∃ t, mg x = some (.str y t) := ⟨t, PySem.W.mg_of X G a⟩
end PN

set_option maxRecDepth 100000
set_option maxHeartbeats 4000000
/-! PN, 18th part: evaluators at work: words for the laws' mathematics. -/
namespace PN
open PySem L2
/-! ### stores of data -/
def Flat (B : Bs) : Prop := ∀ (k : Nat) (o : MO), B[k]? = some (some o) → refsO 0 o
theorem refsS_up {n : Nat} {s : S} (h : refsS 0 s) : refsS n s := by
  cases s with
  | ref k => exact absurd h (Nat.not_lt_zero k)
  | _ => trivial
theorem refsO_up {n : Nat} {o : MO} (h : refsO 0 o) : refsO n o := by
  cases o with
  | lst ss => exact fun s m => refsS_up (h s m)
  | dK l => exact fun s m => refsS_up (h s m)
  | dT l => exact fun s m => refsS_up (h s m)
  | ins c l => exact fun s m => refsS_up (h s m)
theorem Flat.cut {B : Bs} (h : Flat B) (n : Nat) : CutB n B := fun k o _ e => refsO_up (h k o e)
theorem endF_dat {B : Bs} (h : Flat B) (n : Nat) (d : PyData) : endF n (.dat d) B = .ok (.dat d) (B.take n) := by
  unfold endF
  rw [if_pos ⟨trivial, h.cut n⟩]
theorem endF_self {B : Bs} (h : Flat B) (d : PyData) : endF B.length (.dat d) B = .ok (.dat d) B := by
  rw [endF_dat h, List.take_length]
theorem endX_dat {B : Bs} (h : Flat B) {n : Nat} {x : Str} {fs : List (Str × S)} (hf : ∀ p ∈ fs, refsS 0 p.2) : endX n x fs B = .exc x fs (B.take n) := by
  unfold endX
  rw [if_pos ⟨fun p m => refsS_up (hf p m), h.cut n⟩]
theorem Flat.nil : Flat [] := fun k o e => by simp at e
theorem Flat.cons {o : Option MO} {B : Bs} (h1 : ∀ x, o = some x → refsO 0 x) (h : Flat B) : Flat (o :: B) := fun k x e => by
  cases k with
  | zero => exact h1 x (by simpa using e)
  | succ k => exact h k x (by simpa using e)
theorem Flat.tail {o : Option MO} {B : Bs} (h : Flat (o :: B)) : Flat B := fun k x e => h (k + 1) x (by simpa using e)
theorem Flat.app {B C : Bs} (h : Flat B) (h2 : Flat C) : Flat (B ++ C) := fun k x e => by
  by_cases q : k < B.length
  · rw [List.getElem?_append_left q] at e; exact h k x e
  · rw [List.getElem?_append_right (by omega)] at e; exact h2 _ x e
theorem datsOf_map (ds : List PyData) : datsOf (ds.map .dat) = some ds := by
  induction ds with
  | nil => rfl
  | cons d ds ih => show (datsOf (ds.map .dat)).map (d :: ·) = _; rw [ih]; rfl
theorem refs_dats (n : Nat) (ds : List PyData) : ∀ s ∈ ds.map S.dat, refsS n s := fun s m => by
  obtain ⟨d, _, rfl⟩ := List.mem_map.mp m
  trivial
theorem flat_lst (ds : List PyData) : ∀ x, some (MO.lst (ds.map .dat)) = some x → refsO 0 x := fun x e => by
  cases e
  exact refs_dats 0 ds
/-! ### items -/
theorem atI_nat {α : Type} (xs : List α) (k : Nat) : atI xs (k : Int) = xs[k]? := by
  unfold atI ixN
  rw [if_pos (Int.natCast_nonneg k)]
  by_cases h : k < xs.length
  · rw [if_pos (by omega)]; simp
  · rw [if_neg (by omega), List.getElem?_eq_none (by omega)]; rfl
theorem atI_0 {α : Type} (xs : List α) : atI xs 0 = xs[0]? := atI_nat xs 0
theorem atI_1 {α : Type} (xs : List α) : atI xs 1 = xs[1]? := atI_nat xs 1
theorem atI_2 {α : Type} (xs : List α) : atI xs 2 = xs[2]? := atI_nat xs 2
theorem atI_3 {α : Type} (xs : List α) : atI xs 3 = xs[3]? := atI_nat xs 3
theorem ixN_0 {n : Nat} (h : 0 < n) : ixN n 0 = some 0 := by unfold ixN; rw [if_pos (by omega), if_pos (by omega)]; rfl
theorem ixN_1 {n : Nat} (h : 1 < n) : ixN n 1 = some 1 := by unfold ixN; rw [if_pos (by omega), if_pos (by omega)]; rfl
theorem ixN_2 {n : Nat} (h : 2 < n) : ixN n 2 = some 2 := by unfold ixN; rw [if_pos (by omega), if_pos (by omega)]; rfl
theorem atI_in {α : Type} {xs : List α} {i : Int} (h0 : 0 ≤ i) (h : i < xs.length) : ∃ x, atI xs i = some x ∧ x ∈ xs := by
  obtain ⟨k, rfl⟩ : ∃ k : Nat, i = k := ⟨i.toNat, by omega⟩
  have hk : k < xs.length := by omega
  exact ⟨xs[k], by rw [atI_nat, List.getElem?_eq_getElem hk], List.getElem_mem hk⟩
theorem atI_map {α β : Type} (f : α → β) (xs : List α) (i : Int) : atI (xs.map f) i = (atI xs i).map f := by
  unfold atI
  rw [List.length_map]
  cases ixN xs.length i with
  | none => rfl
  | some j => simp
/-! ### the feed -/
abbrev fcell (c : List PyData) (a : Nat) (r : Int) : Option MO := some (.lst [.dat (.list c), .dat (.int (a : Int)), .dat (.int r)])
theorem flat_feed {c : List PyData} {a : Nat} {r : Int} {B : Bs} (h : Flat B) : Flat (fcell c a r :: B) := h.cons fun x e => by
  cases e
  intro s m
  simp only [List.mem_cons, List.not_mem_nil, or_false] at m
  rcases m with rfl | rfl | rfl <;> trivial
/-- F draws from the feed at place 0 at most D times, and makes data as P tells -/
def Draws (c : List PyData) (D : Nat) (P : PyData → Prop) (F : Bs → Re) : Prop := ∀ (a : Nat) (r : Int) (B0 : Bs), a + D ≤ 10 ^ 9 → 0 ≤ r → Flat B0 →
  ∃ (d : PyData) (a' : Nat) (r' : Int), F (fcell c a r :: B0) = .ok (.dat d) (fcell c a' r' :: B0) ∧ a' ≤ a + D ∧ 0 ≤ r' ∧ P d
theorem Draws.imp {c : List PyData} {D : Nat} {P P' : PyData → Prop} {F : Bs → Re} (h : Draws c D P F) (f : ∀ d, P d → P' d) : Draws c D P' F := fun a r B0 h1 h2 h3 => by
  obtain ⟨d, a', r', e, g1, g2, g3⟩ := h a r B0 h1 h2 h3
  exact ⟨d, a', r', e, g1, g2, f d g3⟩
end PN

set_option maxRecDepth 100000
set_option maxHeartbeats 4000000
/-! PN, 19th part: evaluation step by step: each applied evaluator as a frame around its first part. -/
namespace PN
open PySem L2
namespace Ev
/-! ### frames -/
def k2 (x : Re) (f : GP) (gb : GE) (r : En) : Re := match x with
  | .ok s B => gBind gb (fun t _ B => liftP (f [s, t] B)) r B
  | .exc c fs B => .exc c fs B
  | .bad => .bad
def k1 (x : Re) (f : GP) (s : S) : Re := match x with
  | .ok t B => liftP (f [s, t] B)
  | .exc c fs B => .exc c fs B
  | .bad => .bad
def k0 (x : Re) (f : GP) : Re := match x with
  | .ok t B => liftP (f [t] B)
  | .exc c fs B => .exc c fs B
  | .bad => .bad
def kc (x : Re) (gr : GA) (r : En) : Ra := match x with
  | .ok s B => aBindA gr (fun ss _ B => .ok (s :: ss) B) r B
  | .exc c fs B => .exc c fs B
  | .bad => .bad
def kd (x : Ra) (s : S) : Ra := match x with
  | .ok ss B => .ok (s :: ss) B
  | .exc c fs B => .exc c fs B
  | .bad => .bad
def kN (x : Ra) (f : GP) : Re := match x with
  | .ok ss B => liftP (f ss B)
  | .exc c fs B => .exc c fs B
  | .bad => .bad
def kCall (x : Ra) (n : Nat) (m : GF) : Re := match x with
  | .ok ss B => if ss.length = n then m ss B else .bad
  | .exc c fs B => .exc c fs B
  | .bad => .bad
def kIf (x : Re) (ga gb : GE) (r : En) : Re := match x with
  | .ok (.dat (.bool true)) B => ga r B
  | .ok (.dat (.bool false)) B => gb r B
  | .exc c fs B => .exc c fs B
  | _ => .bad
def kAnd (x : Re) (gb : GE) (r : En) : Re := match x with
  | .ok (.dat (.bool true)) B => gb r B
  | .ok (.dat (.bool false)) B => .ok (.dat (.bool false)) B
  | .exc c fs B => .exc c fs B
  | _ => .bad
def kOr (x : Re) (gb : GE) (r : En) : Re := match x with
  | .ok (.dat (.bool true)) B => .ok (.dat (.bool true)) B
  | .ok (.dat (.bool false)) B => gb r B
  | .exc c fs B => .exc c fs B
  | _ => .bad
def kNot (x : Re) : Re := match x with
  | .ok (.dat (.bool b)) B => .ok (.dat (.bool !b)) B
  | .exc c fs B => .exc c fs B
  | _ => .bad
def kS (x : Rs) (g : GS) : Rs := match x with
  | .nx r B => g r B
  | e => e
def kSIf (x : Re) (g1 g2 : GS) (r : En) : Rs := match x with
  | .ok (.dat (.bool true)) B => g1 r B
  | .ok (.dat (.bool false)) B => g2 r B
  | .exc c fs B => .exc c fs r B
  | _ => .bad
def kAsg (x : Re) (t : GT) (r : En) : Rs := match x with
  | .ok s B => (match t s r with | some r1 => .nx r1 B | none => .bad)
  | .exc c fs B => .exc c fs r B
  | .bad => .bad
def kO (o : Option En) (B : Bs) : Rs := match o with | some r1 => .nx r1 B | none => .bad
def kRet (x : Re) (r : En) : Rs := match x with
  | .ok s B => .ret s B
  | .exc c fs B => .exc c fs r B
  | .bad => .bad
def kDrop (x : Re) (r : En) : Rs := match x with
  | .ok s B => .nx r B
  | .exc c fs B => .exc c fs r B
  | .bad => .bad
def kSet (x : Re) (go gi : GE) (r : En) : Rs := match x with
  | .ok v B1 => (match go r B1 with
    | .ok o B2 => (match gi r B2 with
      | .ok i B3 => (match pSetL B3 o i v with | some B4 => .nx r B4 | none => .bad)
      | .exc x fs B3 => .exc x fs r B3
      | .bad => .bad)
    | .exc x fs B2 => .exc x fs r B2
    | .bad => .bad)
  | .exc x fs B1 => .exc x fs r B1
  | .bad => .bad
def kSet2 (x : Re) (v : S) (gi : GE) (r : En) : Rs := match x with
  | .ok o B2 => (match gi r B2 with
      | .ok i B3 => (match pSetL B3 o i v with | some B4 => .nx r B4 | none => .bad)
      | .exc x fs B3 => .exc x fs r B3
      | .bad => .bad)
  | .exc x fs B2 => .exc x fs r B2
  | .bad => .bad
def kSet3 (x : Re) (v o : S) (r : En) : Rs := match x with
  | .ok i B3 => (match pSetL B3 o i v with | some B4 => .nx r B4 | none => .bad)
  | .exc x fs B3 => .exc x fs r B3
  | .bad => .bad
def kSet4 (o : Option Bs) (r : En) : Rs := match o with | some B4 => .nx r B4 | none => .bad
noncomputable def kFn (x : Rs) (n : Nat) : Re := match x with
  | .nx _ B1 => endF n (.dat .none) B1
  | .ret s B1 => endF n s B1
  | .exc x fs _ B1 => endX n x fs B1
  | _ => .bad
def kFnK (x : Rs) : Re := match x with
  | .nx _ B1 => .ok (.dat .none) B1
  | .ret s B1 => .ok s B1
  | .exc x fs _ B1 => .exc x fs B1
  | _ => .bad
def kMt (x : Re) (k : Bool) (f : GP) (ga : GA) (r : En) : Re := match x with
  | .ok s B => if isK k B s = true then gBindA ga (fun ss _ B2 => liftP (f (s :: ss) B2)) r B else .bad
  | .exc c fs B => .exc c fs B
  | .bad => .bad
def kMt2 (x : Ra) (f : GP) (s : S) : Re := match x with
  | .ok ss B => liftP (f (s :: ss) B)
  | .exc c fs B => .exc c fs B
  | .bad => .bad
def kIs (x : Re) (T : String) : Re := match x with
  | .ok s B => (match valD B s with
    | some d => if isTy (tyD d) T = true then .ok (.dat (.bool true)) B else .ok (.dat (.bool false)) B
    | none => .bad)
  | .exc c fs B => .exc c fs B
  | .bad => .bad
def kI (o : Option PyData) (T : String) (B : Bs) : Re := match o with
  | some d => if isTy (tyD d) T = true then .ok (.dat (.bool true)) B else .ok (.dat (.bool false)) B
  | none => .bad
def kCh (x : Re) (f f' : GP) (gb gc : GE) (r : En) : Re := match x with
  | .ok s B => gBind gb (fun t r B => match f [s, t] B with
    | some (.dat (.bool true), B1) => gBind gc (fun u _ B2 => liftP (f' [t, u] B2)) r B1
    | some (.dat (.bool false), B1) => .ok (.dat (.bool false)) B1
    | _ => .bad) r B
  | .exc c fs B => .exc c fs B
  | .bad => .bad
def kCh2 (x : Re) (f f' : GP) (s : S) (gc : GE) (r : En) : Re := match x with
  | .ok t B => (match f [s, t] B with
    | some (.dat (.bool true), B1) => gBind gc (fun u _ B2 => liftP (f' [t, u] B2)) r B1
    | some (.dat (.bool false), B1) => .ok (.dat (.bool false)) B1
    | _ => .bad)
  | .exc c fs B => .exc c fs B
  | .bad => .bad
def kCh3 (o : Option (S × Bs)) (f' : GP) (t : S) (gc : GE) (r : En) : Re := match o with
    | some (.dat (.bool true), B1) => gBind gc (fun u _ B2 => liftP (f' [t, u] B2)) r B1
    | some (.dat (.bool false), B1) => .ok (.dat (.bool false)) B1
    | _ => .bad
def kSl (x : Re) (gl gh : GE) (r : En) : Re := match x with
  | .ok s B => gBind gl (fun l r B => match partD l with
    | some _ => gBind gh (fun h _ B => liftP (pSl [s, l, h] B)) r B
    | none => .bad) r B
  | .exc c fs B => .exc c fs B
  | .bad => .bad
def kSl2 (x : Re) (s : S) (gh : GE) (r : En) : Re := match x with
  | .ok l B => (match partD l with
    | some _ => gBind gh (fun h _ B => liftP (pSl [s, l, h] B)) r B
    | none => .bad)
  | .exc c fs B => .exc c fs B
  | .bad => .bad
def kSl3 (x : Re) (s l : S) : Re := match x with
  | .ok h B => liftP (pSl [s, l, h] B)
  | .exc c fs B => .exc c fs B
  | .bad => .bad
def kPart (x : Re) : Re := match x with
  | .ok (.dat (.int i)) B1 => .ok (.dat (.int i)) B1
  | .exc x fs B1 => .exc x fs B1
  | _ => .bad
def kSh (x : Re) : Re := match x with
  | .ok s B => liftP (shutS s B)
  | .exc c fs B => .exc c fs B
  | .bad => .bad
end Ev
open Ev
section
variable {f f' : GP} {ga gb gc gt gl gh go gi : GE} {gr gaa : GA} {r r1 : En} {B : Bs} {s v o : S} {d : PyData} {x : Str} {fs : List (Str × S)} {n : Nat} {m : GF} {t : GT} {g1 g2 body : GS} {ss : List S} {k : Bool} {b : Bool} {T : String}
theorem e_P2 : gP2 f ga gb r B = k2 (ga r B) f gb r := by unfold gP2 gBind k2; cases ga r B <;> rfl
theorem e_k2 : k2 (.ok s B) f gb r = k1 (gb r B) f s := by cases h : gb r B <;> simp only [k2, gBind, k1, h]
theorem e_k1 : k1 (.ok v B) f s = liftP (f [s, v] B) := rfl
theorem e_P1 : gP1 f ga r B = k0 (ga r B) f := by unfold gP1 gBind k0; cases ga r B <;> rfl
theorem e_k0 : k0 (.ok v B) f = liftP (f [v] B) := rfl
theorem e_lift {B1 : Bs} : liftP (some (s, B1)) = .ok s B1 := rfl
theorem e_C : gC s r B = .ok s B := rfl
theorem e_V {o : Option (Option S)} : gVar n r B = match r[n]? with | some (some s) => .ok s B | _ => .bad := rfl
theorem e_nil : gNil r B = .ok [] B := rfl
theorem e_cons : PN.gCons ga gr r B = kc (ga r B) gr r := by unfold PN.gCons aBind kc; cases ga r B <;> rfl
theorem e_kc : kc (.ok s B) gr r = kd (gr r B) s := by cases h : gr r B <;> simp only [kc, aBindA, kd, h]
theorem e_kd : kd (.ok ss B) s = .ok (s :: ss) B := rfl
theorem e_PN : gPN f gr r B = kN (gr r B) f := by unfold gPN gBindA kN; cases gr r B <;> rfl
theorem e_kN : kN (.ok ss B) f = liftP (f ss B) := rfl
theorem e_call : gCall n m gr r B = kCall (gr r B) n m := by unfold gCall gBindA kCall; cases gr r B <;> rfl
theorem e_kCall : kCall (.ok ss B) n m = if ss.length = n then m ss B else .bad := rfl
theorem e_if : gIf gt ga gb r B = kIf (gt r B) ga gb r := by unfold gIf kIf; rcases gt r B with ⟨s, B⟩ | ⟨a, b, c⟩ | _ <;> first | rfl | (cases s <;> first | rfl | (rename_i d; cases d <;> first | rfl | (rename_i b; cases b <;> rfl)))
theorem e_kIf_t : kIf (.ok (.dat (.bool true)) B) ga gb r = ga r B := rfl
theorem e_kIf_f : kIf (.ok (.dat (.bool false)) B) ga gb r = gb r B := rfl
theorem e_and : gAnd ga gb r B = kAnd (ga r B) gb r := by unfold gAnd kAnd; rcases ga r B with ⟨s, B⟩ | ⟨a, b, c⟩ | _ <;> first | rfl | (cases s <;> first | rfl | (rename_i d; cases d <;> first | rfl | (rename_i b; cases b <;> rfl)))
theorem e_kAnd_t : kAnd (.ok (.dat (.bool true)) B) gb r = gb r B := rfl
theorem e_kAnd_f : kAnd (.ok (.dat (.bool false)) B) gb r = .ok (.dat (.bool false)) B := rfl
theorem e_or : gOr ga gb r B = kOr (ga r B) gb r := by unfold gOr kOr; rcases ga r B with ⟨s, B⟩ | ⟨a, b, c⟩ | _ <;> first | rfl | (cases s <;> first | rfl | (rename_i d; cases d <;> first | rfl | (rename_i b; cases b <;> rfl)))
theorem e_kOr_t : kOr (.ok (.dat (.bool true)) B) gb r = .ok (.dat (.bool true)) B := rfl
theorem e_kOr_f : kOr (.ok (.dat (.bool false)) B) gb r = gb r B := rfl
theorem e_not : gNot ga r B = kNot (ga r B) := by unfold gNot kNot; rcases ga r B with ⟨s, B⟩ | ⟨a, b, c⟩ | _ <;> first | rfl | (cases s <;> first | rfl | (rename_i d; cases d <;> first | rfl | (rename_i b; cases b <;> rfl)))
theorem e_kNot : kNot (.ok (.dat (.bool b)) B) = .ok (.dat (.bool !b)) B := rfl
theorem e_seq : sSeq g1 g2 r B = kS (g1 r B) g2 := by unfold sSeq kS; cases g1 r B <;> rfl
theorem e_kS_nx : kS (.nx r B) g1 = g1 r B := rfl
theorem e_kS_ret : kS (.ret s B) g1 = .ret s B := rfl
theorem e_kS_brk : kS (.brk r B) g1 = .brk r B := rfl
theorem e_kS_ct : kS (.ct r B) g1 = .ct r B := rfl
theorem e_kS_exc : kS (.exc x fs r B) g1 = .exc x fs r B := rfl
theorem e_pass : sPass r B = .nx r B := rfl
theorem e_brk : sBrk r B = .brk r B := rfl
theorem e_ct : sCt r B = .ct r B := rfl
theorem e_sif : sIf gt g1 g2 r B = kSIf (gt r B) g1 g2 r := by unfold sIf kSIf; rcases gt r B with ⟨s, B⟩ | ⟨a, b, c⟩ | _ <;> first | rfl | (cases s <;> first | rfl | (rename_i d; cases d <;> first | rfl | (rename_i b; cases b <;> rfl)))
theorem e_kSIf_t : kSIf (.ok (.dat (.bool true)) B) g1 g2 r = g1 r B := rfl
theorem e_kSIf_f : kSIf (.ok (.dat (.bool false)) B) g1 g2 r = g2 r B := rfl
theorem e_asg : sAsg ga t r B = kAsg (ga r B) t r := by unfold sAsg kAsg; cases ga r B <;> rfl
theorem e_kAsg : kAsg (.ok s B) t r = kO (t s r) B := rfl
theorem e_kO : kO (some r) B = .nx r B := rfl
theorem e_name : tName n s r = some (r.set n (some s)) := rfl
theorem e_ret : sRet ga r B = kRet (ga r B) r := by unfold sRet kRet; cases ga r B <;> rfl
theorem e_kRet : kRet (.ok s B) r = .ret s B := rfl
theorem e_kRet_x : kRet (.exc x fs B) r = .exc x fs r B := rfl
theorem e_drop : sDrop ga r B = kDrop (ga r B) r := by unfold sDrop kDrop; cases ga r B <;> rfl
theorem e_kDrop : kDrop (.ok s B) r = .nx r B := rfl
theorem e_set : sSetI ga go gi r B = kSet (ga r B) go gi r := by unfold sSetI kSet; cases ga r B <;> rfl
theorem e_kSet : kSet (.ok s B) go gi r = kSet2 (go r B) s gi r := rfl
theorem e_kSet2 : kSet2 (.ok o B) s gi r = kSet3 (gi r B) s o r := rfl
theorem e_kSet3 : kSet3 (.ok v B) s o r = kSet4 (pSetL B o v s) r := rfl
theorem e_kSet4 : kSet4 (some B) r = .nx r B := rfl
theorem e_fn : gFn n body ss B = kFn (body (ss.map some ++ List.replicate (n - ss.length) none) B) B.length := by unfold gFn kFn; cases body (ss.map some ++ List.replicate (n - ss.length) none) B <;> rfl
theorem e_kFn_ret : kFn (.ret s B) n = endF n s B := rfl
theorem e_kFn_nx : kFn (.nx r B) n = endF n (.dat .none) B := rfl
theorem e_kFn_exc : kFn (.exc x fs r B) n = endX n x fs B := rfl
theorem e_fnK : gFnK n body ss B = kFnK (body (ss.map some ++ List.replicate (n - ss.length) none) B) := by unfold gFnK kFnK; cases body (ss.map some ++ List.replicate (n - ss.length) none) B <;> rfl
theorem e_kFnK_ret : kFnK (.ret s B) = .ok s B := rfl
theorem e_mt : gMt k f go gr r B = kMt (go r B) k f gr r := by unfold gMt gBind kMt; cases go r B <;> rfl
theorem e_kMt (h : isK k B s = true) : kMt (.ok s B) k f gr r = kMt2 (gr r B) f s := by
  show (if isK k B s = true then gBindA gr _ r B else .bad) = _
  rw [if_pos h]
  unfold gBindA kMt2
  cases gr r B <;> rfl
theorem e_kMt2 : kMt2 (.ok ss B) f s = liftP (f (s :: ss) B) := rfl
theorem e_isi : gIsi T ga r B = kIs (ga r B) T := by unfold gIsi gBind kIs; cases ga r B <;> rfl
theorem e_kIs : kIs (.ok s B) T = kI (valD B s) T B := rfl
theorem e_kI : kI (some d) T B = if isTy (tyD d) T = true then .ok (.dat (.bool true)) B else .ok (.dat (.bool false)) B := rfl
theorem e_chain : gChain f f' ga gb gc r B = kCh (ga r B) f f' gb gc r := by unfold gChain gBind kCh; cases ga r B <;> rfl
theorem e_kCh : kCh (.ok s B) f f' gb gc r = kCh2 (gb r B) f f' s gc r := by cases h : gb r B <;> simp only [kCh, gBind, kCh2, h]
theorem e_kCh2 : kCh2 (.ok v B) f f' s gc r = kCh3 (f [s, v] B) f' v gc r := rfl
theorem e_kCh3_t {B1 : Bs} : kCh3 (some (.dat (.bool true), B1)) f' v gc r = k1 (gc r B1) f' v := by cases h : gc r B1 <;> simp only [kCh3, gBind, k1, h]
theorem e_kCh3_f {B1 : Bs} : kCh3 (some (.dat (.bool false), B1)) f' v gc r = .ok (.dat (.bool false)) B1 := rfl
theorem e_shut : gShut ga r B = kSh (ga r B) := by unfold gShut gBind kSh; cases ga r B <;> rfl
theorem e_kSh : kSh (.ok s B) = liftP (shutS s B) := rfl
/-! ### values -/
theorem l_dat {ds : List PyData} : asL B (.dat (.list ds)) = some (ds.map .dat) := rfl
theorem l_scr {ns : List Int} : asL B (.scr ns) = some (ns.map fun i => .dat (.int i)) := rfl
theorem l_tup {ds : List PyData} : asL B (.dat (.tuple ds)) = none := rfl
theorem l_str : asL B (.dat (.str x)) = none := rfl
theorem l_int {i : Int} : asL B (.dat (.int i)) = none := rfl
theorem l_ref0 {ss : List S} : asL (some (.lst ss) :: B) (.ref 0) = some ss := rfl
theorem v_dat : valD B (.dat d) = some d := rfl
theorem a_tup {ds : List PyData} : asT (.dat (.tuple ds)) = some (ds.map .dat) := rfl
theorem a_str : asT (.dat (.str x)) = none := rfl
theorem i_list {s : S} {ss : List S} {i : Int} (h : asL B s = some ss) : itemS B s i = atI ss i := by unfold itemS; rw [h]
theorem i_tup {ds : List PyData} {i : Int} : itemS B (.dat (.tuple ds)) i = atI (ds.map .dat) i := rfl
theorem p_ix {i : Int} : pIx [s, .dat (.int i)] B = (itemS B s i).map fun t => (t, B) := rfl
theorem p_gt {e : PyData} : pGt [.dat d, .dat e] B = (cmpD (fun d e => ltS e d) (fun m n => decide (n < m)) d e).bind fun b => bool' b B := rfl
theorem p_lt {e : PyData} : pLt [.dat d, .dat e] B = (cmpD ltS (fun m n => decide (m < n)) d e).bind fun b => bool' b B := rfl
theorem p_ge {e : PyData} : pGe [.dat d, .dat e] B = (cmpD (fun d e => leS e d) (fun m n => decide (n ≤ m)) d e).bind fun b => bool' b B := rfl
theorem p_le {e : PyData} : pLe [.dat d, .dat e] B = (cmpD leS (fun m n => decide (m ≤ n)) d e).bind fun b => bool' b B := rfl
theorem p_gtI {i j : Int} : pGt [.dat (.int i), .dat (.int j)] B = some (.dat (.bool (decide (j < i))), B) := rfl
theorem p_ltI {i j : Int} : pLt [.dat (.int i), .dat (.int j)] B = some (.dat (.bool (decide (i < j))), B) := rfl
theorem p_geI {i j : Int} : pGe [.dat (.int i), .dat (.int j)] B = some (.dat (.bool (decide (j ≤ i))), B) := rfl
theorem p_leI {i j : Int} : pLe [.dat (.int i), .dat (.int j)] B = some (.dat (.bool (decide (i ≤ j))), B) := rfl
theorem p_ltS {i j : Str} : pLt [.dat (.str i), .dat (.str j)] B = some (.dat (.bool (decide (i.cps.toList < j.cps.toList))), B) := rfl
theorem eqv_int (i j : Int) : PyData.eqv (.int i) (.int j) = decide (i = j) := by
  by_cases h : i = j
  · subst h; simp [PyData.eqv]
  · simp [PyData.eqv, h]
theorem p_eqI {i j : Int} : pEq [.dat (.int i), .dat (.int j)] B = some (.dat (.bool (decide (i = j))), B) := by
  show some (S.dat (.bool (PyData.eqv (.int i) (.int j))), B) = _
  rw [eqv_int]
theorem p_neI {i j : Int} : pNe [.dat (.int i), .dat (.int j)] B = some (.dat (.bool (!decide (i = j))), B) := by
  show some (S.dat (.bool (!PyData.eqv (.int i) (.int j))), B) = _
  rw [eqv_int]
theorem eqv_str (i j : Str) : PyData.eqv (.str i) (.str j) = decide (i = j) := by
  by_cases h : i = j
  · subst h; simp [PyData.eqv]
  · simp [PyData.eqv, h]
theorem p_eqS {i j : Str} : pEq [.dat (.str i), .dat (.str j)] B = some (.dat (.bool (decide (i = j))), B) := by
  show some (S.dat (.bool (PyData.eqv (.str i) (.str j))), B) = _
  rw [eqv_str]
theorem p_neS {i j : Str} : pNe [.dat (.str i), .dat (.str j)] B = some (.dat (.bool (!decide (i = j))), B) := by
  show some (S.dat (.bool (!PyData.eqv (.str i) (.str j))), B) = _
  rw [eqv_str]
theorem p_addI {i j : Int} : pAdd [.dat (.int i), .dat (.int j)] B = some (.dat (.int (i + j)), B) := rfl
theorem p_subI {i j : Int} : pSub [.dat (.int i), .dat (.int j)] B = some (.dat (.int (i - j)), B) := rfl
theorem p_negI {i : Int} : pNeg [.dat (.int i)] B = some (.dat (.int (-i)), B) := rfl
theorem p_modI {i j : Int} (h : 0 < j) : pMod [.dat (.int i), .dat (.int j)] B = some (.dat (.int (i % j)), B) := if_pos h
theorem p_fdivI {i j : Int} (h : 0 < j) (h2 : j < 1073741824) : pFdiv [.dat (.int i), .dat (.int j)] B = some (.dat (.int (i / j)), B) := if_pos ⟨h, h2⟩
theorem p_mulI {i j : Int} (h : (-(2 ^ 64) < i ∧ i < 2 ^ 64) ∨ (-(2 ^ 64) < j ∧ j < 2 ^ 64)) : pMul [.dat (.int i), .dat (.int j)] B = some (.dat (.int (i * j)), B) := if_pos h
theorem p_powI {i j : Int} (h : 0 ≤ j ∧ j ≤ 1000000 ∧ i.natAbs < 2 ^ 64) : pPow [.dat (.int i), .dat (.int j)] B = some (.dat (.int (i ^ j.toNat)), B) := if_pos h
theorem p_addS {i j : Str} (h : i.length + j.length ≤ sizeLine) : pAdd [.dat (.str i), .dat (.str j)] B = some (.dat (.str (i ++ j)), B) := if_pos h
theorem p_addT {i j : List PyData} (h : i.length + j.length ≤ sizeLine) : pAdd [.dat (.tuple i), .dat (.tuple j)] B = some (.dat (.tuple (i ++ j)), B) := if_pos h
theorem p_addL {i j : List PyData} (h : i.length + j.length ≤ sizeLine) : pAdd [.dat (.list i), .dat (.list j)] B = some (.dat (.list (i ++ j)), B) := by
  show ((some (i.map S.dat)).bind fun xs => (some (j.map S.dat)).bind fun ys => (datsOf (xs ++ ys)).bind fun ds => if xs.length + ys.length ≤ sizeLine then some (S.dat (.list ds), B) else none) = _
  simp only [Option.bind_some, ← List.map_append, datsOf_map, List.length_map, if_pos h]
theorem p_tup {ds : List PyData} (h : ds.length ≤ sizeLine) : pTup (ds.map .dat) B = some (.dat (.tuple ds), B) := by
  unfold pTup
  rw [List.length_map, if_pos h, datsOf_map]
  rfl
theorem p_lst {ds : List PyData} (h : ds.length ≤ sizeLine) : pLst (ds.map .dat) B = some (.dat (.list ds), B) := by
  unfold pLst
  rw [List.length_map, if_pos h, datsOf_map]
  rfl
theorem sz_small {n : Nat} (h : n ≤ 1000) : n ≤ sizeLine := by rw [sizeLine_eq]; omega
theorem p_lenL {ds : List PyData} : pLen [.dat (.list ds)] B = some (.dat (.int ds.length), B) := by
  show (some ((ds.map S.dat).length)).bind (fun n => int' (n : Int) B) = _
  rw [List.length_map]; rfl
theorem p_lenT {ds : List PyData} : pLen [.dat (.tuple ds)] B = some (.dat (.int ds.length), B) := by
  show (some ((ds.map S.dat).length)).bind (fun n => int' (n : Int) B) = _
  rw [List.length_map]; rfl
theorem p_lenS {y : Str} (h : y.length ≤ sizeLine) : pLen [.dat (.str y)] B = some (.dat (.int y.length), B) := by
  show (if y.length ≤ sizeLine then some y.length else none).bind (fun n => int' (n : Int) B) = _
  rw [if_pos h]; rfl
theorem p_intB {b : Bool} : pInt [.dat (.bool b)] B = some (.dat (.int (if b then 1 else 0)), B) := rfl
theorem p_isN : pIsN [s, .dat .none] B = some (.dat (.bool (isNon s)), B) := rfl
theorem p_notN : pNotN [s, .dat .none] B = some (.dat (.bool (!isNon s)), B) := rfl
theorem e_sl : gSl ga gl gh r B = kSl (ga r B) gl gh r := by
  unfold gSl
  show (match ga r B with | .ok s B1 => _ | .exc x fs B1 => _ | .bad => _) = _
  cases ga r B <;> rfl
theorem e_kSl : kSl (.ok s B) gl gh r = kSl2 (gl r B) s gh r := by cases h : gl r B <;> simp only [kSl, gBind, kSl2, h]
theorem e_kSl2 {l : S} {p : Option Int} (hp : partD l = some p) : kSl2 (.ok l B) s gh r = kSl3 (gh r B) s l := by cases h : gh r B <;> simp only [kSl2, hp, gBind, kSl3, h]
theorem e_kSl2n : kSl2 (.ok (.dat .none) B) s gh r = kSl3 (gh r B) s (.dat .none) := e_kSl2 (p := none) rfl
theorem e_kSl2i {i : Int} : kSl2 (.ok (.dat (.int i)) B) s gh r = kSl3 (gh r B) s (.dat (.int i)) := e_kSl2 (p := some i) rfl
theorem e_kSl3 {l h : S} : kSl3 (.ok h B) s l = liftP (pSl [s, l, h] B) := rfl
theorem e_part : gPart ga r B = kPart (ga r B) := by unfold gPart kPart; rcases ga r B with ⟨s, B⟩ | ⟨a, b, c⟩ | _ <;> first | rfl | (cases s <;> first | rfl | (rename_i d; cases d <;> rfl))
theorem e_kPart {i : Int} : kPart (.ok (.dat (.int i)) B) = .ok (.dat (.int i)) B := rfl
theorem p_sl {l h : S} {lo hi : Option Int} (h1 : partD l = some lo) (h2 : partD h = some hi) : pSl [s, l, h] B = slV B s lo hi := by
  show ((partD l).bind fun lo => (partD h).bind fun hi => slV B s lo hi) = _
  rw [h1, h2]; rfl
end
/-! ### the feed's own cells -/
theorem set_feed2 {c : List PyData} {a : Nat} {r x : Int} {B0 : Bs} : pSetL (fcell c a r :: B0) (.ref 0) (.dat (.int 2)) (.dat (.int x)) = some (fcell c a x :: B0) := rfl
theorem set_feed1 {c : List PyData} {a : Nat} {r : Int} {B0 : Bs} : pSetL (fcell c a r :: B0) (.ref 0) (.dat (.int 1)) (.dat (.int ((a : Int) + 1))) = some (fcell c (a + 1) r :: B0) := by
  show some (some (MO.lst [S.dat (.list c), S.dat (.int ((a : Int) + 1)), S.dat (.int r)]) :: B0) = _
  rw [← Int.natCast_succ]
theorem end_feed {c : List PyData} {a : Nat} {r : Int} {B0 : Bs} (h : Flat B0) (d : PyData) : endF (B0.length + 1) (.dat d) (fcell c a r :: B0) = .ok (.dat d) (fcell c a r :: B0) := endF_self (flat_feed h) d
theorem end_feed2 {c : List PyData} {a : Nat} {r : Int} {B0 C : Bs} (h : Flat B0) (h2 : Flat C) (d : PyData) : endF (B0.length + 1) (.dat d) (fcell c a r :: (B0 ++ C)) = .ok (.dat d) (fcell c a r :: B0) := by
  rw [endF_dat (flat_feed (h.app h2)), List.take_succ_cons, List.take_left]
theorem p_pow18 {B : Bs} : pPow [.dat (.int 10), .dat (.int 18)] B = some (.dat (.int 1000000000000000000), B) := by
  rw [p_powI (by decide)]
  rfl
theorem p_pow9 {B : Bs} : pPow [.dat (.int 10), .dat (.int 9)] B = some (.dat (.int 1000000000), B) := by
  rw [p_powI (by decide)]
  rfl
theorem p_pow12 {B : Bs} : pPow [.dat (.int 10), .dat (.int 12)] B = some (.dat (.int 1000000000000), B) := by
  rw [p_powI (by decide)]
  rfl
theorem atI_int {c : List Int} {i : Int} (h0 : 0 ≤ i) (h : i < c.length) : ∃ x : Int, atI ((c.map PyData.int).map S.dat) i = some (.dat (.int x)) := by
  obtain ⟨x, e, _⟩ := atI_in h0 h
  exact ⟨x, by rw [atI_map, atI_map, e]; rfl⟩
/-! ### walked things -/
namespace Ev
def kIter (x : Re) : Ri := match x with
  | .ok s B1 => (match asL B1 s with
    | some ss => .ok ss (stays s ss) B1
    | none => match asT s with
      | some ss => .ok ss (fun _ => True) B1
      | none => match s with
        | .dat (.str x) => .ok (signsOf x) (fun _ => True) B1
        | _ => .bad)
  | .exc x fs B1 => .exc x fs B1
  | .bad => .bad
def kR1 (x : Ra) : Ri := match x with
  | .ok [.dat (.int n)] B1 => if -(2 ^ 62) ≤ n ∧ n < 2 ^ 62 then .ok (intsUp 0 n.toNat) (fun _ => True) B1 else .bad
  | .exc x fs B1 => .exc x fs B1
  | _ => .bad
def kZip (x : Ra) : Ri := match x with
  | .ok l B1 => zip2 B1 l
  | .exc x fs B1 => .exc x fs B1
  | .bad => .bad
noncomputable def kFor (x : Ri) (t : GT) (body : GS) (r : En) : Rs := match x with
  | .ok its chk B1 => forL chk t body its r B1
  | .exc x fs B1 => .exc x fs r B1
  | .bad => .bad
noncomputable def kLc (x : Ri) (own : List Nat) (t : GT) (gt ge : GE) (r : En) : Ra := match x with
  | .ok its chk B1 => if its.length < sizeLine then lcL chk t gt ge (wipeE r own) its [] B1 else .bad
  | _ => .bad
def kTry (x : Rs) (i : Nat) (tb : Str → Option Bool) (l : List XI) : Rs := match x with
  | .exc x fs r1 B1 => (match tb x with
    | some true => (match xItems fs l with
      | some ds => if ds.length ≤ sizeLine ∧ i < r1.length then .ret (.dat (.tuple ds)) B1 else .bad
      | none => .bad)
    | some false => .exc x fs r1 B1
    | none => .bad)
  | o => o
def kRaise (x : Ra) (c : Str) (fl : List Str) (r : En) : Rs := match x with
  | .ok ss B1 => if ss.length = fl.length ∧ ss.length ≤ 900 then .exc c (fsOf fl ss) r B1 else .bad
  | .exc y fs B1 => .exc y fs r B1
  | .bad => .bad
def kCL (o : Option (Option S)) (n : Nat) (tb : Str → Option GF) (ga : GA) (r : En) (B : Bs) : Re := match o with
  | some (some (.fn x)) => (match tb x with
    | some m => gCall n m ga r B
    | none => .bad)
  | _ => .bad
end Ev
section
variable {g gt ge : GE} {gr : GA} {gi : GI} {r : En} {B : Bs} {t : GT} {body : GS} {own : List Nat} {ds : List PyData} {x c : Str} {its : List S} {chk : Bs → Prop} {i n : Nat} {tb : Str → Option Bool} {l : List XI} {fl : List Str} {ss : List S} {fs : List (Str × S)} {s : S}
theorem e_iter : gIter g r B = Ev.kIter (g r B) := by unfold gIter Ev.kIter; cases g r B <;> rfl
theorem e_kIter_t : Ev.kIter (.ok (.dat (.tuple ds)) B) = .ok (ds.map .dat) (fun _ => True) B := rfl
theorem e_kIter_l : Ev.kIter (.ok (.dat (.list ds)) B) = .ok (ds.map .dat) (fun _ => True) B := rfl
theorem e_kIter_s : Ev.kIter (.ok (.dat (.str x)) B) = .ok (signsOf x) (fun _ => True) B := rfl
theorem e_r1 : gRange1 gr r B = Ev.kR1 (gr r B) := by unfold gRange1 Ev.kR1; cases gr r B <;> rfl
theorem e_kR1 {k : Int} (h0 : 0 ≤ k) (h : k ≤ 1000000) : Ev.kR1 (.ok [.dat (.int k)] B) = .ok (intsUp 0 k.toNat) (fun _ => True) B := if_pos ⟨by omega, by omega⟩
theorem e_zip : gZip gr r B = Ev.kZip (gr r B) := by unfold gZip Ev.kZip; cases gr r B <;> rfl
theorem e_kZip : Ev.kZip (.ok ss B) = zip2 B ss := rfl
theorem zipS_map : ∀ (xs ys : List PyData), zipS (xs.map .dat) (ys.map .dat) = some ((List.zip xs ys).map fun p => .dat (.tuple [p.1, p.2]))
  | [], ys => by rw [List.map_nil, zipS_nil]; rfl
  | x :: xs, [] => by rw [List.map_nil, zipS_nil']; rfl
  | x :: xs, y :: ys => by
    rw [List.map_cons, List.map_cons, zipS_dat, zipS_map xs ys]
    rfl
theorem zip2_t {xs ys : List PyData} : zip2 B [.dat (.tuple xs), .dat (.tuple ys)] = .ok ((List.zip xs ys).map fun p => .dat (.tuple [p.1, p.2])) (fun _ => True) B := by
  show (match zipS (xs.map .dat) (ys.map .dat) with | some its => Ri.ok its (fun _ => True) B | none => .bad) = _
  rw [zipS_map]
theorem zip2_l {xs ys : List PyData} : zip2 B [.dat (.list xs), .dat (.list ys)] = .ok ((List.zip xs ys).map fun p => .dat (.tuple [p.1, p.2])) (fun _ => True ∧ True) B := by
  show (match zipS (xs.map .dat) (ys.map .dat) with | some its => Ri.ok its (fun _ => True ∧ True) B | none => .bad) = _
  rw [zipS_map]
theorem e_for : sFor gi t body r B = Ev.kFor (gi r B) t body r := by unfold sFor Ev.kFor; cases gi r B <;> rfl
theorem e_kFor : Ev.kFor (.ok its chk B) t body r = forL chk t body its r B := rfl
theorem e_lc : gLcA own gi t gt ge r B = Ev.kLc (gi r B) own t gt ge r := by unfold gLcA Ev.kLc; cases gi r B <;> rfl
theorem e_kLc (h : its.length ≤ 100000) : Ev.kLc (.ok its chk B) own t gt ge r = lcL chk t gt ge (wipeE r own) its [] B := if_pos (by rw [sizeLine_eq]; omega)
theorem e_try : sTryR body i tb l r B = Ev.kTry (body r B) i tb l := by unfold sTryR Ev.kTry; cases body r B <;> rfl
theorem e_kTry_ret : Ev.kTry (.ret s B) i tb l = .ret s B := rfl
theorem e_raise : sRaise c fl gr r B = Ev.kRaise (gr r B) c fl r := by unfold sRaise Ev.kRaise; cases gr r B <;> rfl
theorem e_kRaise : Ev.kRaise (.ok ss B) c fl r = if ss.length = fl.length ∧ ss.length ≤ 900 then .exc c (fsOf fl ss) r B else .bad := rfl
theorem e_callL {tb : Str → Option GF} : gCallL n i tb gr r B = Ev.kCL r[i]? n tb gr r B := rfl
theorem e_kCL {tb : Str → Option GF} {m : GF} (h : tb x = some m) : Ev.kCL (some (some (.fn x))) n tb gr r B = gCall n m gr r B := by
  unfold Ev.kCL
  simp only [h]
theorem tup_asg {n : Nat} {u : GTs} (h : ds.length = n) : tTupT n u (.dat (.tuple ds)) r = u (ds.map .dat) r := by
  show (if (ds.map S.dat).length = n then u (ds.map .dat) r else none) = _
  rw [List.length_map, if_pos h]
theorem ts_nil : tsNil [] r = some r := rfl
theorem ts_cons {u : GTs} {k : Nat} : tsCons (tName k) u (s :: ss) r = u ss (r.set k (some s)) := rfl
/-- an item of a list, by a number that fits -/
theorem pick {i : Int} (h0 : 0 ≤ i) (h : i < ds.length) : ∃ d ∈ ds, pIx [.dat (.list ds), .dat (.int i)] B = some (.dat d, B) := by
  obtain ⟨d, e, m⟩ := atI_in h0 h
  refine ⟨d, m, ?_⟩
  show (atI (ds.map S.dat) i).map (fun t => (t, B)) = _
  rw [atI_map, e]
  rfl
end
section
variable {B : Bs} {d1 d2 d3 d4 d5 d6 d7 d8 : PyData}
theorem p_tup0 : pTup [] B = some (.dat (.tuple []), B) := p_tup (ds := []) (sz_small (by simp))
theorem p_lst0 : pLst [] B = some (.dat (.list []), B) := p_lst (ds := []) (sz_small (by simp))
theorem p_tup1 : pTup [.dat d1] B = some (.dat (.tuple [d1]), B) := p_tup (ds := [d1]) (sz_small (by simp))
theorem p_lst1 : pLst [.dat d1] B = some (.dat (.list [d1]), B) := p_lst (ds := [d1]) (sz_small (by simp))
theorem p_tup2 : pTup [.dat d1, .dat d2] B = some (.dat (.tuple [d1, d2]), B) := p_tup (ds := [d1, d2]) (sz_small (by simp))
theorem p_lst2 : pLst [.dat d1, .dat d2] B = some (.dat (.list [d1, d2]), B) := p_lst (ds := [d1, d2]) (sz_small (by simp))
theorem p_tup3 : pTup [.dat d1, .dat d2, .dat d3] B = some (.dat (.tuple [d1, d2, d3]), B) := p_tup (ds := [d1, d2, d3]) (sz_small (by simp))
theorem p_lst3 : pLst [.dat d1, .dat d2, .dat d3] B = some (.dat (.list [d1, d2, d3]), B) := p_lst (ds := [d1, d2, d3]) (sz_small (by simp))
theorem p_tup4 : pTup [.dat d1, .dat d2, .dat d3, .dat d4] B = some (.dat (.tuple [d1, d2, d3, d4]), B) := p_tup (ds := [d1, d2, d3, d4]) (sz_small (by simp))
theorem p_lst4 : pLst [.dat d1, .dat d2, .dat d3, .dat d4] B = some (.dat (.list [d1, d2, d3, d4]), B) := p_lst (ds := [d1, d2, d3, d4]) (sz_small (by simp))
theorem p_tup5 : pTup [.dat d1, .dat d2, .dat d3, .dat d4, .dat d5] B = some (.dat (.tuple [d1, d2, d3, d4, d5]), B) := p_tup (ds := [d1, d2, d3, d4, d5]) (sz_small (by simp))
theorem p_lst5 : pLst [.dat d1, .dat d2, .dat d3, .dat d4, .dat d5] B = some (.dat (.list [d1, d2, d3, d4, d5]), B) := p_lst (ds := [d1, d2, d3, d4, d5]) (sz_small (by simp))
theorem p_tup6 : pTup [.dat d1, .dat d2, .dat d3, .dat d4, .dat d5, .dat d6] B = some (.dat (.tuple [d1, d2, d3, d4, d5, d6]), B) := p_tup (ds := [d1, d2, d3, d4, d5, d6]) (sz_small (by simp))
theorem p_lst6 : pLst [.dat d1, .dat d2, .dat d3, .dat d4, .dat d5, .dat d6] B = some (.dat (.list [d1, d2, d3, d4, d5, d6]), B) := p_lst (ds := [d1, d2, d3, d4, d5, d6]) (sz_small (by simp))
theorem p_tup7 : pTup [.dat d1, .dat d2, .dat d3, .dat d4, .dat d5, .dat d6, .dat d7] B = some (.dat (.tuple [d1, d2, d3, d4, d5, d6, d7]), B) := p_tup (ds := [d1, d2, d3, d4, d5, d6, d7]) (sz_small (by simp))
theorem p_lst7 : pLst [.dat d1, .dat d2, .dat d3, .dat d4, .dat d5, .dat d6, .dat d7] B = some (.dat (.list [d1, d2, d3, d4, d5, d6, d7]), B) := p_lst (ds := [d1, d2, d3, d4, d5, d6, d7]) (sz_small (by simp))
theorem p_tup8 : pTup [.dat d1, .dat d2, .dat d3, .dat d4, .dat d5, .dat d6, .dat d7, .dat d8] B = some (.dat (.tuple [d1, d2, d3, d4, d5, d6, d7, d8]), B) := p_tup (ds := [d1, d2, d3, d4, d5, d6, d7, d8]) (sz_small (by simp))
theorem p_lst8 : pLst [.dat d1, .dat d2, .dat d3, .dat d4, .dat d5, .dat d6, .dat d7, .dat d8] B = some (.dat (.list [d1, d2, d3, d4, d5, d6, d7, d8]), B) := p_lst (ds := [d1, d2, d3, d4, d5, d6, d7, d8]) (sz_small (by simp))
end
theorem pickA {ds : List PyData} {i : Int} (h0 : 0 ≤ i) (h : i < ds.length) : ∃ d ∈ ds, atI (ds.map S.dat) i = some (.dat d) := by
  obtain ⟨d, e, m⟩ := atI_in h0 h
  exact ⟨d, m, by rw [atI_map, e]; rfl⟩
end PN

set_option maxRecDepth 100000
set_option maxHeartbeats 4000000
/-! PN, 20th part: how long what repr says may be; comprehensions and loops at work. -/
namespace PN
open PySem L2
/-! ### repr -/
/-- d is shown in at most n signs, and is at most k deep -/
structure Sm (n k : Nat) (d : PyData) : Prop where
  ok : d.showable = true
  len : d.shown.length ≤ n
  dep : d.depth ≤ k
  lay : d.canLay0 = true
theorem Sm.up {n k m l : Nat} {d : PyData} (h : Sm n k d) (h1 : n ≤ m) (h2 : k ≤ l) : Sm m l d := ⟨h.ok, Nat.le_trans h.len h1, Nat.le_trans h.dep h2, h.lay⟩
theorem Sm.non : Sm 4 0 .none := ⟨rfl, by decide, Nat.le_refl _, rfl⟩
theorem Sm.bool (b : Bool) : Sm 5 0 (.bool b) := ⟨rfl, by cases b <;> decide, Nat.le_refl _, rfl⟩
theorem log_small {n : Nat} (h : n < 10 ^ 18) : n.log2 < 1920 := by
  by_cases h0 : n = 0
  · rw [h0]; decide
  · have : n.log2 < 60 := (Nat.log2_lt h0).mpr (Nat.lt_trans h (by decide))
    omega
theorem Sm.int {i : Int} (h : i.natAbs < 10 ^ 18) : Sm 19 0 (.int i) := by
  refine ⟨decide_eq_true (log_small h), ?_, Nat.le_refl _, rfl⟩
  have e := PySem.int_text_length_le10 (k := 18) (by decide) h
  show (Str.ofString (toString i)).length ≤ 19
  rw [PySem.ofString_length]; exact e
theorem Sm.str {x : Str} {n : Nat} (h : ∀ c ∈ x.cps.toList, c < 0x110000) (hl : x.length ≤ n) : Sm (10 * n + 2) 0 (.str x) :=
  ⟨rfl, Nat.le_trans (show (reprText x).length ≤ _ from PySem.StrLaws.reprText_len x fun c m => Nat.lt_trans (h c m) (by decide)) (by omega), Nat.le_refl _, by
    show x.cps.all (· < 0x110000) = true
    rw [Array.all_eq_true_iff_forall_mem]
    exact fun c m => decide_eq_true (h c (by simpa using m))⟩
theorem piled_le {ts : List Str} {n : Nat} (h : ∀ t ∈ ts, t.length ≤ n) : piled ts ≤ ts.length * (n + 2) := by
  induction ts with
  | nil => simp [piled]
  | cons t ts ih =>
    rw [piled_cons, List.length_cons, Nat.succ_mul]
    have h1 := h t List.mem_cons_self
    have h2 := ih fun u m => h u (List.mem_cons_of_mem _ m)
    omega
theorem shownAll_map : ∀ ds : List PyData, PyData.shownAll ds = ds.map PyData.shown
  | [] => rfl
  | d :: ds => by
    show PyData.shown d :: PyData.shownAll ds = _
    rw [shownAll_map ds]
    rfl
theorem showAll_of : ∀ {ds : List PyData}, (∀ d ∈ ds, d.showable = true) → PyData.showableAll ds = true
  | [], _ => rfl
  | d :: ds, h => by
    show (d.showable && PyData.showableAll ds) = true
    rw [h d List.mem_cons_self, showAll_of fun e m => h e (List.mem_cons_of_mem _ m)]
    rfl
theorem depAll_of {k : Nat} : ∀ {ds : List PyData}, (∀ d ∈ ds, d.depth ≤ k) → PyData.depthAll ds ≤ k
  | [], _ => Nat.zero_le _
  | d :: ds, h => by
    show max d.depth (PyData.depthAll ds) ≤ k
    exact Nat.max_le.mpr ⟨h d List.mem_cons_self, depAll_of fun e m => h e (List.mem_cons_of_mem _ m)⟩
theorem layAll_of : ∀ {ds : List PyData}, (∀ d ∈ ds, d.canLay0 = true) → PyData.canLayAll0 ds = true
  | [], _ => rfl
  | d :: ds, h => by
    show (d.canLay0 && PyData.canLayAll0 ds) = true
    rw [h d List.mem_cons_self, layAll_of fun e m => h e (List.mem_cons_of_mem _ m)]
    rfl
theorem Sm.tup {n k : Nat} {ds : List PyData} (h : ∀ d ∈ ds, Sm n k d) : Sm (ds.length * (n + 2) + 4) (k + 1) (.tuple ds) := by
  refine ⟨showAll_of fun d m => (h d m).ok, ?_, Nat.succ_le_succ (depAll_of fun d m => (h d m).dep), layAll_of fun d m => (h d m).lay⟩
  show (tupleText (PyData.shownAll ds)).length ≤ _
  rw [shownAll_map]
  have hp : piled (ds.map PyData.shown) ≤ ds.length * (n + 2) := by
    have := piled_le (ts := ds.map PyData.shown) (n := n) fun t m => by
      obtain ⟨d, hd, rfl⟩ := List.mem_map.mp m
      exact (h d hd).len
    rwa [List.length_map] at this
  unfold tupleText
  rw [strLen_append, strLen_append]
  have e1 : ((("(" : String) : Str)).length = 1 := rfl
  have e3 : (((if (ds.map PyData.shown).length == 1 then ",)" else ")" : String) : Str)).length ≤ 2 := by split <;> decide
  rw [e1]
  by_cases q : ds.map PyData.shown = []
  · rw [q] at e3 ⊢
    have : (Str.join ", " []).length = 0 := rfl
    omega
  · have := join_length_add _ q
    omega
theorem textFrom_le : ∀ (ts : List Str) (k : Nat) (acc : Str), (textFrom k acc ts).length ≤ acc.length + piled ts
  | [], _, acc => Nat.le_add_right _ _
  | t :: r, k, acc => by
    have ih := textFrom_le r (k + 1) (acc ++ (if k > 0 then ", " else "" : String) ++ t)
    have e : (acc ++ (if k > 0 then ", " else "" : String) ++ t).length ≤ acc.length + 2 + t.length := by
      rw [strLen_append, strLen_append]
      have : (((if k > 0 then ", " else "" : String) : Str)).length ≤ 2 := by split <;> decide
      omega
    rw [piled_cons]
    show (textFrom (k + 1) _ r).length ≤ _
    omega
theorem Sm.lst {n k : Nat} {ds : List PyData} (h : ∀ d ∈ ds, Sm n k d) : Sm (ds.length * (n + 2) + 4) (k + 1) (.list ds) := by
  refine ⟨showAll_of fun d m => (h d m).ok, ?_, Nat.succ_le_succ (depAll_of fun d m => (h d m).dep), layAll_of fun d m => (h d m).lay⟩
  show (listText (PyData.shownAll ds)).length ≤ _
  rw [shownAll_map]
  have hp : piled (ds.map PyData.shown) ≤ ds.length * (n + 2) := by
    have := piled_le (ts := ds.map PyData.shown) (n := n) fun t m => by
      obtain ⟨d, hd, rfl⟩ := List.mem_map.mp m
      exact (h d hd).len
    rwa [List.length_map] at this
  have h1 := textFrom_le (ds.map PyData.shown) 0 "["
  have e1 : ((("[" : String) : Str)).length = 1 := rfl
  have e2 : ((("]" : String) : Str)).length = 1 := rfl
  show (textFrom 0 "[" (ds.map PyData.shown) ++ "]").length ≤ _
  rw [strLen_append, e2]
  omega
theorem p_repr {B : Bs} {n k : Nat} {d : PyData} (h : Sm n k d) (hn : n ≤ 16777216) (hk : k ≤ 64) : pRepr [.dat d] B = some (.dat (.str d.shown), B) := by
  show (if d.showable = true ∧ d.shown.length ≤ sizeLine ∧ d.depth ≤ 64 then str' d.shown B else none) = _
  rw [if_pos ⟨h.ok, by rw [sizeLine_eq]; exact Nat.le_trans h.len hn, Nat.le_trans h.dep hk⟩]
  rfl
/-! ### comprehensions -/
section
variable {t : GT} {gt ge : GE} {r : En} {B : Bs} {chk : Bs → Prop}
/-- all items taken, the store as it was -/
theorem lc_map {f : S → S} : ∀ (its acc : List S), chk B → (∀ x ∈ its, ∃ r1, t x r = some r1 ∧ gt r1 B = .ok (.dat (.bool true)) B ∧ ge r1 B = .ok (f x) B) → lcL chk t gt ge r its acc B = .ok (acc ++ its.map f) B
  | [], acc, hc, _ => by
    unfold lcL
    rw [if_pos hc, List.map_nil, List.append_nil]
  | x :: its, acc, hc, h => by
    obtain ⟨r1, h1, h2, h3⟩ := h x List.mem_cons_self
    unfold lcL
    rw [if_pos hc, h1]
    dsimp only
    rw [h2]
    dsimp only
    rw [h3]
    dsimp only
    rw [lc_map its (acc ++ [f x]) hc fun y m => h y (List.mem_cons_of_mem _ m), List.append_assoc]
    rfl
/-- with a test -/
theorem lc_filter {f : S → S} {p : S → Bool} : ∀ (its acc : List S), chk B → (∀ x ∈ its, ∃ r1, t x r = some r1 ∧ gt r1 B = .ok (.dat (.bool (p x))) B ∧ (p x = true → ge r1 B = .ok (f x) B)) → lcL chk t gt ge r its acc B = .ok (acc ++ (its.filter p).map f) B
  | [], acc, hc, _ => by
    unfold lcL
    rw [if_pos hc, List.filter_nil, List.map_nil, List.append_nil]
  | x :: its, acc, hc, h => by
    obtain ⟨r1, h1, h2, h3⟩ := h x List.mem_cons_self
    unfold lcL
    rw [if_pos hc, h1]
    dsimp only
    rw [h2]
    have ih := fun acc => lc_filter its acc hc fun y m => h y (List.mem_cons_of_mem _ m)
    cases q : p x with
    | true =>
      dsimp only
      rw [h3 q]
      dsimp only
      rw [ih, List.append_assoc, List.filter_cons_of_pos q]
      rfl
    | false =>
      dsimp only
      rw [ih, List.filter_cons_of_neg (by rw [q]; exact Bool.false_ne_true)]
/-- the store changes under way: I is kept, by the item's number -/
theorem lc_inv {I : Nat → Bs → Prop} {P : S → Prop} : ∀ (its acc : List S) (i : Nat) (B : Bs), (∀ i B, I i B → chk B) → (∀ x ∈ its, ∀ i B, I i B → ∃ r1, t x r = some r1 ∧ gt r1 B = .ok (.dat (.bool true)) B ∧ ∃ s B', ge r1 B = .ok s B' ∧ P s ∧ I (i + 1) B') → I i B →
    ∃ ss B', lcL chk t gt ge r its acc B = .ok (acc ++ ss) B' ∧ ss.length = its.length ∧ (∀ s ∈ ss, P s) ∧ I (i + its.length) B'
  | [], acc, i, B, hc, _, h0 => by
    refine ⟨[], B, ?_, rfl, fun s m => absurd m (by simp), h0⟩
    unfold lcL
    rw [if_pos (hc i B h0), List.append_nil]
  | x :: its, acc, i, B, hc, h, h0 => by
    obtain ⟨r1, h1, h2, s, B1, h3, h4, h5⟩ := h x List.mem_cons_self i B h0
    obtain ⟨ss, B', e, e1, e2, e3⟩ := lc_inv its (acc ++ [s]) (i + 1) B1 hc (fun y m => h y (List.mem_cons_of_mem _ m)) h5
    refine ⟨s :: ss, B', ?_, by rw [List.length_cons, List.length_cons, e1], fun y m => ?_, by rw [List.length_cons, show i + (its.length + 1) = i + 1 + its.length from by omega]; exact e3⟩
    · unfold lcL
      rw [if_pos (hc i B h0), h1]
      dsimp only
      rw [h2]
      dsimp only
      rw [h3]
      dsimp only
      rw [e, List.append_assoc]
      rfl
    · rcases List.mem_cons.mp m with rfl | m
      · exact h4
      · exact e2 y m
end
/-! ### loops -/
section
variable {t : GT} {body : GS} {chk : Bs → Prop}
/-- every turn goes on; I is kept, by the turn's number -/
theorem for_inv {I : Nat → En → Bs → Prop} : ∀ (its : List S) (i : Nat) (r : En) (B : Bs), (∀ i r B, I i r B → chk B) →
    (∀ (j : Nat) (x : S), its[j]? = some x → ∀ r B, I (i + j) r B → ∃ r1, t x r = some r1 ∧ ∃ r2 B2, (body r1 B = .nx r2 B2 ∨ body r1 B = .ct r2 B2) ∧ I (i + j + 1) r2 B2) → I i r B → ∃ r' B', forL chk t body its r B = .nx r' B' ∧ I (i + its.length) r' B'
  | [], i, r, B, hc, _, h0 => ⟨r, B, by unfold forL; rw [if_pos (hc i r B h0)], h0⟩
  | x :: its, i, r, B, hc, h, h0 => by
    obtain ⟨r1, h1, r2, B2, h2, h3⟩ := h 0 x rfl r B h0
    obtain ⟨r', B', e, e1⟩ := for_inv its (i + 1) r2 B2 hc (fun j y m r B h' => by
      have := h (j + 1) y (by rw [List.getElem?_cons_succ]; exact m) r B (by rw [show i + (j + 1) = i + 1 + j from by omega]; exact h')
      have e : i + (j + 1) + 1 = i + 1 + j + 1 := by omega
      rwa [e] at this) h3
    refine ⟨r', B', ?_, by rw [List.length_cons, show i + (its.length + 1) = i + 1 + its.length from by omega]; exact e1⟩
    unfold forL
    rw [if_pos (hc i r B h0), h1]
    dsimp only
    rcases h2 with h2 | h2 <;> rw [h2] <;> exact e
end
/-! ### more of comprehensions and loops; texts; a def's own list -/
section
variable {t : GT} {gt ge : GE} {r : En} {B : Bs} {chk : Bs → Prop} {α : Type}
theorem lc_mapL {h f : α → S} : ∀ (ps : List α) (acc : List S), chk B → (∀ p ∈ ps, ∃ r1, t (h p) r = some r1 ∧ gt r1 B = .ok (.dat (.bool true)) B ∧ ge r1 B = .ok (f p) B) → lcL chk t gt ge r (ps.map h) acc B = .ok (acc ++ ps.map f) B
  | [], acc, hc, _ => by
    rw [List.map_nil, List.map_nil, List.append_nil]
    unfold lcL
    rw [if_pos hc]
  | p :: ps, acc, hc, q => by
    obtain ⟨r1, h1, h2, h3⟩ := q p List.mem_cons_self
    rw [List.map_cons]
    unfold lcL
    rw [if_pos hc, h1]
    dsimp only
    rw [h2]
    dsimp only
    rw [h3]
    dsimp only
    rw [lc_mapL ps (acc ++ [f p]) hc fun y m => q y (List.mem_cons_of_mem _ m), List.append_assoc]
    rfl
/-- a loop over such items: I by what is done -/
theorem for_list {body : GS} {h : α → S} {I : List α → En → Bs → Prop} {all : List α} (hc : ∀ l r B, I l r B → chk B)
    (q : ∀ l p rest, all = l ++ p :: rest → ∀ r B, I l r B → ∃ r1, t (h p) r = some r1 ∧ ∃ r2 B2, (body r1 B = .nx r2 B2 ∨ body r1 B = .ct r2 B2) ∧ I (l ++ [p]) r2 B2) :
    ∀ (ps done : List α) (r : En) (B : Bs), all = done ++ ps → I done r B → ∃ r' B', forL chk t body (ps.map h) r B = .nx r' B' ∧ I all r' B'
  | [], done, r, B, ea, h0 => ⟨r, B, by rw [List.map_nil]; unfold forL; rw [if_pos (hc done r B h0)], by rw [ea, List.append_nil]; exact h0⟩
  | p :: ps, done, r, B, ea, h0 => by
    obtain ⟨r1, h1, r2, B2, h2, h3⟩ := q done p ps ea r B h0
    obtain ⟨r', B', e, e1⟩ := for_list hc q ps (done ++ [p]) r2 B2 (by rw [ea, List.append_assoc]; rfl) h3
    refine ⟨r', B', ?_, e1⟩
    rw [List.map_cons]
    unfold forL
    rw [if_pos (hc done r B h0), h1]
    dsimp only
    rcases h2 with h2 | h2 <;> rw [h2] <;> exact e
end
def numS (i : Int) : Str := Str.ofString (toString i)
theorem numS_len {i : Int} (h : i.natAbs < 10 ^ 18) : (numS i).length ≤ 19 := by
  unfold numS
  rw [PySem.ofString_length]
  exact PySem.int_text_length_le10 (k := 18) (by decide) h
section
variable {B : Bs} {x y : Str} {gr : GA} {r : En} {f : GP} {s : S} {ss : List S}
theorem p_strI {i : Int} (h : i.natAbs < 10 ^ 18) : pStr [.dat (.int i)] B = some (.dat (.str (numS i)), B) := by
  show (if i.natAbs.log2 < 1920 then str' (toString i) B else none) = _
  rw [if_pos (log_small h)]
  rfl
theorem p_addS' {m n : Nat} (hx : x.length ≤ m) (hy : y.length ≤ n) (h : m + n ≤ 1000000) : pAdd [.dat (.str x), .dat (.str y)] B = some (.dat (.str (x ++ y)), B) := p_addS (by rw [sizeLine_eq]; omega)
theorem strsOf_map (ys : List Str) : strsOf (ys.map fun y => S.dat (.str y)) = some ys := by
  induction ys with
  | nil => rfl
  | cons y ys ih =>
    show (strsOf (ys.map fun y => S.dat (.str y))).map (y :: ·) = _
    rw [ih]
    rfl
theorem sum_le {n : Nat} : ∀ {ys : List Str}, (∀ y ∈ ys, y.length ≤ n) → (ys.map (·.length)).sum ≤ ys.length * n
  | [], _ => by simp
  | y :: ys, h => by
    have h1 := h y List.mem_cons_self
    have h2 := sum_le fun z m => h z (List.mem_cons_of_mem _ m)
    rw [List.map_cons, List.sum_cons, List.length_cons, Nat.succ_mul]
    omega
theorem join_fits {a : Str} {ys : List Str} (ha : a.length ≤ 10) (hy : ∀ y ∈ ys, y.length ≤ 1000) (hl : ys.length ≤ 1000) : (ys.map (·.length)).sum + ys.length * a.length ≤ 16777216 := by
  have h1 := sum_le hy
  have h2 : ys.length * 1000 ≤ 1000 * 1000 := Nat.mul_le_mul_right _ hl
  have h3 : ys.length * a.length ≤ 1000 * 10 := Nat.mul_le_mul hl ha
  omega
theorem p_joinL {a : Str} {ys : List Str} (h : (ys.map (·.length)).sum + ys.length * a.length ≤ 16777216) : pJoin [.dat (.str a), .dat (.list (ys.map .str))] B = some (.dat (.str (Txt.join a ys)), B) := by
  show ((some ((ys.map PyData.str).map S.dat)).bind fun ss => (strsOf ss).bind fun ys => if (ys.map (·.length)).sum + ys.length * a.length ≤ 16777216 then str' (Txt.join a ys) B else none) = _
  rw [List.map_map, Option.bind_some, show (ys.map (S.dat ∘ PyData.str)) = ys.map (fun y => S.dat (.str y)) from rfl, strsOf_map, Option.bind_some, if_pos h]
  rfl
theorem e_kMtS : Ev.kMt (.ok (.dat (.str x)) B) true f gr r = Ev.kMt2 (gr r B) f (.dat (.str x)) := e_kMt rfl
theorem e_kMtL (h : asL B s = some ss) : Ev.kMt (.ok s B) false f gr r = Ev.kMt2 (gr r B) f s := e_kMt (by show (asL B s).isSome = true; rw [h]; rfl)
theorem at_end {o : Option MO} : (B ++ [o])[B.length]? = some o := by simp
theorem l_end : asL (B ++ [some (.lst ss)]) (.ref B.length) = some ss := by
  unfold asL
  simp only [at_end]
theorem p_lstA0 : pLstA [] B = some (.ref B.length, B ++ [some (.lst [])]) := by
  unfold pLstA
  rw [if_pos (by rw [sizeLine_eq]; exact Nat.zero_le _)]
theorem set_end {o u : Option MO} : (B ++ [o]).set B.length u = B ++ [u] := by
  rw [List.set_append_right _ _ (Nat.le_refl _), Nat.sub_self]
  rfl
theorem app_end {z : S} (h : ss.length ≤ 1000) : pAppend [.ref B.length, z] (B ++ [some (.lst ss)]) = some (.dat .none, B ++ [some (.lst (ss ++ [z]))]) := by
  show ((atM (B ++ [some (.lst ss)]) B.length).bind fun ss' => if ss'.length < sizeLine then some (S.dat .none, (B ++ [some (MO.lst ss)]).set B.length (some (MO.lst (ss' ++ [z])))) else none) = _
  have e : atM (B ++ [some (.lst ss)]) B.length = some ss := by
    unfold atM
    simp only [at_end]
  rw [e, Option.bind_some, if_pos (by rw [sizeLine_eq]; omega), set_end]
theorem p_joinR {a : Str} {ys : List Str} (h : (ys.map (·.length)).sum + ys.length * a.length ≤ 16777216) (e : asL B s = some (ys.map fun y => .dat (.str y))) : pJoin [.dat (.str a), s] B = some (.dat (.str (Txt.join a ys)), B) := by
  show ((asQ B s).bind fun ss => (strsOf ss).bind fun ys => if (ys.map (·.length)).sum + ys.length * a.length ≤ 16777216 then str' (Txt.join a ys) B else none) = _
  unfold asQ
  rw [e, Option.bind_some, strsOf_map, Option.bind_some, if_pos h]
  rfl
end
theorem for_go {t : GT} {body : GS} {r : En} {B : Bs} {chk : Bs → Prop} {α : Type} {h : α → S} {R : Rs → Prop} (I : List α → En → Bs → Prop) (ps : List α) (hc : ∀ l r B, I l r B → chk B) (h0 : I [] r B)
    (hs : ∀ l p rest, ps = l ++ p :: rest → ∀ r B, I l r B → ∃ r1, t (h p) r = some r1 ∧ ∃ r2 B2, (body r1 B = .nx r2 B2 ∨ body r1 B = .ct r2 B2) ∧ I (l ++ [p]) r2 B2) (fin : ∀ r' B', I ps r' B' → R (.nx r' B')) : R (forL chk t body (ps.map h) r B) := by
  obtain ⟨r', B', e, i⟩ := for_list (I := I) (all := ps) hc hs ps [] r B rfl h0
  rw [e]
  exact fin r' B' i
/-! ### equality of data -/
mutual
def noB : PyData → Bool
  | .none | .int _ | .str _ => true
  | .bool _ | .dict _ => false
  | .list xs | .tuple xs => noBAll xs
def noBAll : List PyData → Bool
  | [] => true
  | x :: xs => noB x && noBAll xs
end
mutual
theorem eqv_iff : ∀ (d e : PyData), noB d = true → noB e = true → (PyData.eqv d e = true ↔ d = e)
  | .none, e, _, he => by cases e <;> simp [PyData.eqv]
  | .int i, e, _, he => by cases e <;> first | (simp [noB] at he; done) | simp [PyData.eqv]
  | .str x, e, _, he => by cases e <;> simp [PyData.eqv]
  | .list xs, e, hd, he => by
    cases e with
    | list ys =>
      have := eqvAll_iff xs ys (by simpa [noB] using hd) (by simpa [noB] using he)
      simp [PyData.eqv, this]
    | _ => simp [PyData.eqv]
  | .tuple xs, e, hd, he => by
    cases e with
    | tuple ys =>
      have := eqvAll_iff xs ys (by simpa [noB] using hd) (by simpa [noB] using he)
      simp [PyData.eqv, this]
    | _ => simp [PyData.eqv]
  | .bool b, e, hd, _ => by simp [noB] at hd
  | .dict b, e, hd, _ => by simp [noB] at hd
theorem eqvAll_iff : ∀ (d e : List PyData), noBAll d = true → noBAll e = true → (PyData.eqvAll d e = true ↔ d = e)
  | [], e, _, _ => by cases e <;> simp [PyData.eqvAll]
  | x :: xs, e, hd, he => by
    cases e with
    | nil => simp [PyData.eqvAll]
    | cons y ys =>
      have hd : noB x = true ∧ noBAll xs = true := by simpa [noBAll] using hd
      have he : noB y = true ∧ noBAll ys = true := by simpa [noBAll] using he
      have h1 := eqv_iff x y hd.1 he.1
      have h2 := eqvAll_iff xs ys hd.2 he.2
      simp [PyData.eqvAll, h1, h2]
end
theorem noBAll_of : ∀ {ds : List PyData}, (∀ d ∈ ds, noB d = true) → noBAll ds = true
  | [], _ => rfl
  | d :: ds, h => by
    show (noB d && noBAll ds) = true
    rw [h d List.mem_cons_self, noBAll_of fun e m => h e (List.mem_cons_of_mem _ m)]
    rfl
theorem Sm.shaped {n k : Nat} {d : PyData} (h : Sm n k d) (hk : k ≤ 64) : SeqAt.shaped d = true := by
  show (d.canLay0 && decide (d.depth ≤ 64)) = true
  rw [h.lay, decide_eq_true (Nat.le_trans h.dep hk)]
  rfl
theorem eqD_sm {n k m l : Nat} {d e : PyData} (h : Sm n k d) (h' : Sm m l e) (hk : k ≤ 64) (hl : l ≤ 64) : eqD d e = some (PyData.eqv d e) := by
  unfold eqD
  split
  · rfl
  · rw [if_pos ⟨h.shaped hk, h'.shaped hl⟩]
section
variable {B : Bs} {n k m l : Nat} {d e : PyData}
theorem p_eqv (h : Sm n k d) (h' : Sm m l e) (hk : k ≤ 64) (hl : l ≤ 64) : pEq [.dat d, .dat e] B = some (.dat (.bool (PyData.eqv d e)), B) := by
  show (eqD d e).bind (fun b => bool' b B) = _
  rw [eqD_sm h h' hk hl]
  rfl
theorem p_nev (h : Sm n k d) (h' : Sm m l e) (hk : k ≤ 64) (hl : l ≤ 64) : pNe [.dat d, .dat e] B = some (.dat (.bool (!PyData.eqv d e)), B) := by
  show (eqD d e).bind (fun b => bool' (!b) B) = _
  rw [eqD_sm h h' hk hl]
  rfl
theorem p_inT {ds : List PyData} (h : Sm n k d) (h' : Sm m l (.tuple ds)) (hk : k ≤ 64) (hl : l ≤ 64) : pIn [.dat d, .dat (.tuple ds)] B = some (.dat (.bool (ds.any fun z => PyData.eqv z d)), B) := by
  show (if SeqAt.shaped d = true ∧ SeqAt.shaped (.tuple ds) = true then some (ds.any fun z => PyData.eqv z d) else none).bind (fun b => bool' b B) = _
  rw [if_pos ⟨h.shaped hk, h'.shaped hl⟩]
  rfl
end
/-! ### repr(a) == repr(b) -/
theorem same_shown {n k : Nat} {d : PyData} {B : Bs} (h : Sm n k d) (hn : n ≤ 16777216) (hk : k ≤ 64) (hB : Flat B) :
    gFn 2 (sRet (gP2 pEq (gPN pRepr (PN.gCons (gVar 0) PN.gNil)) (gPN pRepr (PN.gCons (gVar 1) PN.gNil)))) [.dat d, .dat d] B = .ok (.dat (.bool true)) B := by
  simp -implicitDefEqProofs only [e_fn, e_ret, e_P2, e_PN, e_cons, e_nil, gVar, e_kc, e_kd, e_kN, e_k2, e_k1, e_lift, e_kRet, e_kFn_ret, p_repr h hn hk, List.map_cons, List.map_nil, List.length_cons, List.length_nil, List.replicate, List.cons_append, List.nil_append, List.getElem?_cons_zero, List.getElem?_cons_succ, p_eqS, decide_true]
  rw [endF_self hB]
/-! ### signs, numbers in texts -/
section
variable {B : Bs} {y : Str}
theorem p_inSign {c : Nat} : pIn [.dat (.str ⟨#[c]⟩), .dat (.str y)] B = some (.dat (.bool (decide (c ∈ y.cps.toList))), B) := rfl
theorem p_notInSign {c : Nat} : pNotIn [.dat (.str ⟨#[c]⟩), .dat (.str y)] B = some (.dat (.bool (!decide (c ∈ y.cps.toList))), B) := rfl
theorem boolsOf_map (bs : List Bool) : boolsOf (bs.map fun b => S.dat (.bool b)) = some bs := by
  induction bs with
  | nil => rfl
  | cons b bs ih =>
    show (boolsOf (bs.map fun b => S.dat (.bool b))).map (b :: ·) = _
    rw [ih]
    rfl
theorem p_allL {bs : List Bool} : pAll [.dat (.list (bs.map .bool))] B = some (.dat (.bool (bs.all id)), B) := by
  show ((some ((bs.map PyData.bool).map S.dat)).bind fun ss => (boolsOf ss).bind fun bs => bool' (bs.all id) B) = _
  rw [List.map_map, Option.bind_some, show (bs.map (S.dat ∘ PyData.bool)) = bs.map (fun y => S.dat (.bool y)) from rfl, boolsOf_map]
  rfl
theorem signs_len : (signsOf y).length = y.length := by
  unfold signsOf
  rw [List.length_map, Array.length_toList]
  rfl
theorem p_intStr {n : Int} (h : y.length ≤ 640) (e : PySem.intText? y = some n) : pInt [.dat (.str y)] B = some (.dat (.int n), B) := by
  show (if y.length ≤ 640 then (PySem.intText? y).bind fun n => int' n B else none) = _
  rw [if_pos h, e]
  rfl
theorem p_ix0S {c : Nat} {l : List Nat} (h : y.length ≤ sizeLine) (e : y.cps.toList = c :: l) : itemS B (.dat (.str y)) 0 = some (.dat (.str ⟨#[c]⟩)) := by
  show (if y.length ≤ sizeLine then (atI y.cps.toList 0).map fun c => S.dat (.str ⟨#[c]⟩) else none) = _
  rw [if_pos h, e, atI_0]
  rfl
end
theorem tl_numS {i : Int} (h : 0 ≤ i) : (numS i).cps.toList = TL.numL i.toNat := by
  obtain ⟨n, rfl⟩ : ∃ n : Nat, i = n := ⟨i.toNat, by omega⟩
  exact TL.tl_num n
theorem numL_head : ∀ (n c : Nat) (l : List Nat), TL.numL n = c :: l → c = 48 → n = 0 := by
  intro n
  induction n using Nat.strongRecOn with
  | _ n ih =>
    intro c l h hc
    by_cases q : n < 10
    · rw [TL.numL_lt q] at h
      cases h
      omega
    · rw [TL.numL_step (by omega)] at h
      cases e : TL.numL (n / 10) with
      | nil => exact absurd e (TL.numL_ne _)
      | cons d m =>
        rw [e] at h
        have hd : d = c := (List.cons.inj h).1
        have := ih (n / 10) (by omega) d m e (hd.trans hc)
        omega
theorem numS_len2 {i : Int} (h : 0 ≤ i) (h2 : i < 10000000000000) : 1 ≤ (numS i).length ∧ (numS i).length ≤ 13 := by
  have e : (numS i).length = (TL.numL i.toNat).length := by rw [← tl_numS h, Array.length_toList]; rfl
  have h1 := TL.numL_len (n := i.toNat) (k := 13) (by decide) (by omega)
  have h3 : 0 < (TL.numL i.toNat).length := List.length_pos_iff.mpr (TL.numL_ne _)
  omega
theorem int_numS {i : Int} (h : 0 ≤ i) (h2 : i < 10000000000000) : PySem.intText? (numS i) = some i := by
  obtain ⟨n, rfl⟩ : ∃ n : Nat, i = n := ⟨i.toNat, by omega⟩
  exact TL.int_num (Nat.le_trans (TL.numL_len (k := 13) (by decide) (by omega)) (by decide))
theorem digits_numS {i : Int} (h : 0 ≤ i) : ∀ c ∈ (numS i).cps.toList, 48 ≤ c ∧ c ≤ 57 := by
  rw [tl_numS h]
  exact TL.numL_digits _
theorem tup_2 {d1 d2 : PyData} {u : GTs} {r : En} : tTupT 2 u (.dat (.tuple [d1, d2])) r = u [.dat d1, .dat d2] r := rfl
theorem tup_3 {d1 d2 d3 : PyData} {u : GTs} {r : En} : tTupT 3 u (.dat (.tuple [d1, d2, d3])) r = u [.dat d1, .dat d2, .dat d3] r := rfl
theorem tup_4 {d1 d2 d3 d4 : PyData} {u : GTs} {r : En} : tTupT 4 u (.dat (.tuple [d1, d2, d3, d4])) r = u [.dat d1, .dat d2, .dat d3, .dat d4] r := rfl
/-! ### errors on their way -/
section
variable {c : Str} {fs : List (Str × S)} {B : Bs} {r r1 : En} {gb ga : GE} {gr : GA} {f : GP} {s : S} {n : Nat} {m : GF} {g1 g2 : GS} {t : GT} {i : Nat} {tb : Str → Option Bool} {l : List XI}
theorem x_k2 : Ev.k2 (.exc c fs B) f gb r = .exc c fs B := rfl
theorem x_k1 : Ev.k1 (.exc c fs B) f s = .exc c fs B := rfl
theorem x_kc : Ev.kc (.exc c fs B) gr r = .exc c fs B := rfl
theorem x_kd : Ev.kd (.exc c fs B) s = .exc c fs B := rfl
theorem x_kN : Ev.kN (.exc c fs B) f = .exc c fs B := rfl
theorem x_kCall : Ev.kCall (.exc c fs B) n m = .exc c fs B := rfl
theorem x_kIf : Ev.kIf (.exc c fs B) ga gb r = .exc c fs B := rfl
theorem x_kSIf : Ev.kSIf (.exc c fs B) g1 g2 r = .exc c fs r B := rfl
theorem x_kAsg : Ev.kAsg (.exc c fs B) t r = .exc c fs r B := rfl
theorem x_kDrop : Ev.kDrop (.exc c fs B) r = .exc c fs r B := rfl
theorem x_kTry (h : tb c = some true) {ds : List PyData} (hi : xItems fs l = some ds) (hl : ds.length ≤ 1000 ∧ i < r1.length) : Ev.kTry (.exc c fs r1 B) i tb l = .ret (.dat (.tuple ds)) B := by
  unfold Ev.kTry
  simp only [h, hi]
  rw [if_pos ⟨sz_small hl.1, hl.2⟩]
theorem endX_self {B : Bs} (h : Flat B) {x : Str} {fs : List (Str × S)} (hf : ∀ p ∈ fs, refsS 0 p.2) : endX B.length x fs B = .exc x fs B := by
  rw [endX_dat h hf, List.take_length]
end
/-- a loop that hands back s at the first item that isn't good -/
theorem for_check {t : GT} {body : GS} {B : Bs} {chk : Bs → Prop} {α : Type} {h : α → S} {good : α → Bool} {I : En → Prop} {s : S} (hc : chk B) : ∀ (ps : List α) (r : En),
    (∀ p ∈ ps, ∀ r, I r → ∃ r1, t (h p) r = some r1 ∧ (good p = true → ∃ r2, body r1 B = .nx r2 B ∧ I r2) ∧ (good p = false → body r1 B = .ret s B)) → I r →
    (ps.all good = true → ∃ r', forL chk t body (ps.map h) r B = .nx r' B ∧ I r') ∧ (ps.all good = false → forL chk t body (ps.map h) r B = .ret s B)
  | [], r, _, h0 => ⟨fun _ => ⟨r, by rw [List.map_nil]; unfold forL; rw [if_pos hc], h0⟩, fun z => by simp at z⟩
  | p :: ps, r, q, h0 => by
    obtain ⟨r1, h1, h2, h3⟩ := q p List.mem_cons_self r h0
    have red : ∀ r2, body r1 B = .nx r2 B → forL chk t body ((p :: ps).map h) r B = forL chk t body (ps.map h) r2 B := fun r2 e => by
      rw [List.map_cons]
      conv => lhs; unfold forL
      rw [if_pos hc, h1]
      dsimp only
      rw [e]
    have red2 : body r1 B = .ret s B → forL chk t body ((p :: ps).map h) r B = .ret s B := fun e => by
      rw [List.map_cons]
      unfold forL
      rw [if_pos hc, h1]
      dsimp only
      rw [e]
    cases g : good p with
    | true =>
      obtain ⟨r2, h4, h5⟩ := h2 g
      have ih := for_check hc ps r2 (fun y m => q y (List.mem_cons_of_mem _ m)) h5
      rw [List.all_cons, g, Bool.true_and, red r2 h4]
      exact ih
    | false =>
      rw [List.all_cons, g, Bool.false_and, red2 (h3 g)]
      exact ⟨fun z => absurd z Bool.false_ne_true, fun _ => rfl⟩
/-- a comprehension whose items are drawn -/
theorem lc_draws {c : List PyData} {D : Nat} {P : PyData → Prop} {t : GT} {gt ge : GE} {r : En} {chk : Bs → Prop} (hc : ∀ B, chk B) : ∀ (its : List S) (acc : List PyData) (a : Nat) (r0 : Int) (B0 : Bs),
    (∀ x ∈ its, ∃ r1, t x r = some r1 ∧ (∀ B, gt r1 B = .ok (.dat (.bool true)) B) ∧ Draws c D P (ge r1)) → a + D * its.length ≤ 10 ^ 9 → 0 ≤ r0 → Flat B0 →
    ∃ (ds : List PyData) (a' : Nat) (r' : Int), lcL chk t gt ge r its (acc.map .dat) (fcell c a r0 :: B0) = .ok ((acc ++ ds).map .dat) (fcell c a' r' :: B0) ∧ ds.length = its.length ∧ (∀ d ∈ ds, P d) ∧ a' ≤ a + D * its.length ∧ 0 ≤ r'
  | [], acc, a, r0, B0, _, _, h0, _ => ⟨[], a, r0, by unfold lcL; rw [if_pos (hc _), List.append_nil], rfl, fun d m => absurd m (by simp), Nat.le_add_right _ _, h0⟩
  | x :: its, acc, a, r0, B0, h, ha, h0, hB => by
    obtain ⟨r1, h1, h2, h3⟩ := h x List.mem_cons_self
    have e6 : D * (its.length + 1) = D * its.length + D := Nat.mul_succ _ _
    rw [List.length_cons, e6] at ha
    obtain ⟨d, a1, r2, e1, g1, g2, g3⟩ := h3 a r0 B0 (by omega) h0 hB
    obtain ⟨ds, a2, r3, e2, e3, e4, e5, g4⟩ := lc_draws hc its (acc ++ [d]) a1 r2 B0 (fun y m => h y (List.mem_cons_of_mem _ m)) (by omega) g2 hB
    refine ⟨d :: ds, a2, r3, ?_, by rw [List.length_cons, List.length_cons, e3], fun y m => ?_, by rw [List.length_cons, e6]; omega, g4⟩
    · unfold lcL
      rw [if_pos (hc _), h1]
      dsimp only
      rw [h2]
      dsimp only
      rw [e1]
      dsimp only
      rw [List.map_append] at e2
      rw [show acc.map S.dat ++ [S.dat d] = acc.map S.dat ++ [d].map S.dat from rfl, e2, List.append_assoc]
      rfl
    · rcases List.mem_cons.mp m with rfl | m
      · exact g3
      · exact e4 y m
end PN

set_option maxRecDepth 100000
namespace Lw
open PySem L2 PN
def top (i : Nat) : Stmt := PySem.Challenge.pw_pressnotes_k76_runs_as_texts.main.body.getD i (.Pass ⟨0, 0, 0, 0⟩)
abbrev s_NoText : Stmt := inClass (top 7) 0
abbrev s_shown_run : Stmt := top 1
abbrev s_shown_row : Stmt := top 2
abbrev s_shown_runs : Stmt := top 3
abbrev s_shown_name : Stmt := top 4
abbrev s_is_number : Stmt := top 16
abbrev s_is_series : Stmt := top 17
abbrev s_is_run : Stmt := top 18
abbrev s_goes_ahead : Stmt := top 19
abbrev s_is_runs : Stmt := top 20
abbrev s_is_word : Stmt := top 11
abbrev s_number_in : Stmt := top 25
abbrev s_run_in : Stmt := top 26
abbrev s_row_in : Stmt := top 27
abbrev s_runs_in : Stmt := top 28
abbrev s_read_alone : Stmt := top 29
abbrev s_read_runs : Stmt := top 30
abbrev s_read_row_text : Stmt := top 31
abbrev s__law_feed : Stmt := top 33
abbrev s__law_draw : Stmt := top 34
abbrev s__law_same : Stmt := top 35
abbrev s__law_series : Stmt := top 36
abbrev s__law_piece : Stmt := top 37
abbrev s__law_text : Stmt := top 38
abbrev s__law_are_runs : Stmt := top 39
abbrev s__law_runs : Stmt := top 40
abbrev s__law_read : Stmt := top 41
abbrev s_law : Stmt := top 42
structure Txt (K : PySem.W.Frag) (mg : Str → Option Value) : Prop where
  b_str : mg "str" = none
  b_isinstance : mg "isinstance" = none
  b_int : mg "int" = none
  b_bool : mg "bool" = none
  b_len : mg "len" = none
  b_all : mg "all" = none
  b_tuple : mg "tuple" = none
  b_zip : mg "zip" = none
  b_repr : mg "repr" = none
  b_min : mg "min" = none
  b_range : mg "range" = none
  b_sorted : mg "sorted" = none
  c_MOST_LETTERS_runs : ∃ t, mg "MOST_LETTERS_runs" = some (.int (8) t)
  c_LETTERS : ∃ t, mg "LETTERS" = some (.str "abcdefghijklmnopqrstuvwxyz" t)
  c_MOST_NUMBER : ∃ t, mg "MOST_NUMBER" = some (.int (999999999) t)
  c_MOST_LETTERS_offices : ∃ t, mg "MOST_LETTERS_offices" = some (.int (8) t)
  c_SMALL : ∃ t, mg "SMALL" = some (.str "abcdefghijklmnopqrstuvwxyz" t)
  c_MOST_FIGURES : ∃ t, mg "MOST_FIGURES" = some (.int (13) t)
  c_FIGURES : ∃ t, mg "FIGURES" = some (.str "0123456789" t)
  c_GREATEST : ∃ t, mg "GREATEST" = some (.int (999999999) t)
theorem sc_NoText : FnScope ["self", "row", "word"] ["self", "row", "word"] (defScope s_NoText) := ⟨rfl, rfl, rfl, by decide +kernel, rfl, by decide +kernel, by decide +kernel⟩
theorem xc_NoText {P : Program} {w : World} {K : PySem.W.Frag} {mg : Str → Option Value} {base : Heap} (F : XcF K mg "NoText" "NoText.__init__" s_NoText ["self", "row", "word"] ["row", "word"] "NoteError") : XcD P w K mg base 1 "NoText" ["self", "row", "word"] ["row", "word"] := by
  obtain ⟨C, fI, fd, D, h1, h2, h3, h4, h5, h6, h7, h8, h9, h10, h11⟩ := F.ex
  exact xcd_mk h1 h2 h3 h4 h5 h6 h7 h8 h9 sc_NoText rfl (by decide) fun cdv A outer s H E => ⟨_, _, _, _, _, [("word", 2)], rfl, rfl, rfl, pe_binit h11 rfl h10 (by decide) (pa_cons (pe_var (i := 0) rfl (Or.inl rfl)) (pa_cons pe_str pa_nil)) rfl rfl rfl, rfl, (ps_ost (pe_var (i := 0) rfl (Or.inl rfl)) (pe_var (i := 1) rfl (Or.inl rfl))), (XBs.cons (ps_ost (pe_var (i := 0) rfl (Or.inl rfl)) (pe_var (i := 2) rfl (Or.inl rfl))) XBs.nil)⟩
theorem sc_shown_run : FnScope ["run", "text"] ["run"] (defScope s_shown_run) := ⟨rfl, rfl, rfl, by decide +kernel, rfl, by decide +kernel, by decide +kernel⟩
noncomputable def b_shown_run : GS :=
    (sSeq (sAsg (gP2 pAdd (gP2 pAdd (gP2 pIx (gVar 0) (gC (.dat (.int 0)))) (gC (.dat (.str ":")))) (gPN pStr (gCons (gP2 pIx (gVar 0) (gC (.dat (.int 1)))) gNil))) (tName 1))
    (sSeq (sIf (gP2 pGt (gP2 pIx (gVar 0) (gC (.dat (.int 2)))) (gP2 pAdd (gP2 pIx (gVar 0) (gC (.dat (.int 1)))) (gC (.dat (.int 1))))) (sAsg (gP2 pAdd (gP2 pAdd (gVar 1) (gC (.dat (.str "-")))) (gPN pStr (gCons (gP2 pSub (gP2 pIx (gVar 0) (gC (.dat (.int 2)))) (gC (.dat (.int 1)))) gNil))) (tName 1)) sPass)
    (sRet (gVar 1))))
noncomputable def m_shown_run : GF := gFn 2 b_shown_run
set_option maxHeartbeats 0 in
theorem ok_shown_run {P : Program} {w : World} {K : PySem.W.Frag} {mg : Str → Option Value} {base : Heap} (T : Txt K mg) (D : Df K mg "shown_run" s_shown_run ["run"])  : OkD P w K mg base 1 "shown_run" ["run"] m_shown_run :=
  okd D sc_shown_run fun f cdv A outer s H E hg hr =>
    (s_cons (s_asg (r_op o_add (r_op o_add (r_ix x_ix (r_var rfl (Or.inl rfl) (by decide) (by decide)) r_int (fun _ _ => rfl)) r_str) (r_callTy b_str rfl T.b_str (by rfl) (r_cons (r_ix x_ix (r_var rfl (Or.inl rfl) (by decide) (by decide)) r_int (fun _ _ => rfl)) r_nil rfl) (by decide) (by decide) rfl rfl)) (g_name (i := 1) sc_shown_run.nd rfl (Or.inl rfl) (Or.inl rfl)) rfl rfl rfl)
    (s_cons (s_if (t_cmp (o_gt (ru hr (by decide))) (r_ix x_ix (r_var rfl (Or.inl rfl) (by decide) (by decide)) r_int (fun _ _ => rfl)) (r_op o_add (r_ix x_ix (r_var rfl (Or.inl rfl) (by decide) (by decide)) r_int (fun _ _ => rfl)) r_int) rfl) (s_one (s_asg (r_op o_add (r_op o_add (r_var rfl (Or.inl rfl) (by decide) (by decide)) r_str) (r_callTy b_str rfl T.b_str (by rfl) (r_cons (r_op o_sub (r_ix x_ix (r_var rfl (Or.inl rfl) (by decide) (by decide)) r_int (fun _ _ => rfl)) r_int) r_nil rfl) (by decide) (by decide) rfl rfl)) (g_name (i := 1) sc_shown_run.nd rfl (Or.inl rfl) (Or.inl rfl)) rfl rfl rfl)) s_nil)
    (s_one (s_ret (r_var rfl (Or.inl rfl) (by decide) (by decide))))))
theorem sc_shown_row : FnScope ["row", "run"] ["row"] (defScope s_shown_row) := ⟨rfl, rfl, rfl, by decide +kernel, rfl, by decide +kernel, by decide +kernel⟩
noncomputable def b_shown_row : GS :=
    (sRet (gMt true pJoin (gC (.dat (.str ","))) (gCons (gPN pLst (gLcA [1] (gIter (gVar 0)) (tName 1) gYes (gCall 1 m_shown_run (gCons (gVar 1) gNil)))) gNil)))
noncomputable def m_shown_row : GF := gFn 2 b_shown_row
set_option maxHeartbeats 0 in
theorem ok_shown_row {P : Program} {w : World} {K : PySem.W.Frag} {mg : Str → Option Value} {base : Heap} (T : Txt K mg) (D : Df K mg "shown_row" s_shown_row ["row"]) (h_shown_run : OkD P w K mg base 1 "shown_run" ["run"] m_shown_run) : OkD P w K mg base 2 "shown_row" ["row"] m_shown_row :=
  okd D sc_shown_row fun f cdv A outer s H E hg hr =>
    (s_one (s_ret (r_mt (k := true) PySem.F.plainAttrs_str PySem.F.slot_str_join PySem.F.type_str_join m_join r_str (r_cons (r_lc (own := [("run", 1)]) rfl sc_shown_row.nd (i_any (r_var rfl (Or.inl rfl) (by decide) (by decide))) (blkOk_by (N := ["row", "run"]) (sc := (defScope s_shown_row)) (by decide +kernel)) (by decide) (fun _ _ _ _ _ => (g_name (i := 1) sc_shown_row.nd rfl (Or.inl rfl) (Or.inr rfl))) (fun _ _ _ _ _ => pts0) (fun _ _ _ _ _ => (r_callO h_shown_run rfl takes_none5 hg (hr.mono (by decide)) rfl (r_cons (r_var rfl (Or.inl rfl) (by decide) (by decide)) r_nil rfl) (by decide) rfl rfl)) (fun _ => rfl)) r_nil rfl) rfl (by rfl) rfl rfl rfl)))
theorem sc_shown_runs : FnScope ["runs"] ["runs"] (defScope s_shown_runs) := ⟨rfl, rfl, rfl, by decide +kernel, rfl, by decide +kernel, by decide +kernel⟩
noncomputable def b_shown_runs : GS :=
    (sSeq (sIf (gP2 pEq (gVar 0) (gPN pTup gNil)) (sRet (gC (.dat (.str "-")))) sPass)
    (sRet (gCall 1 m_shown_row (gCons (gVar 0) gNil))))
noncomputable def m_shown_runs : GF := gFn 1 b_shown_runs
set_option maxHeartbeats 0 in
theorem ok_shown_runs {P : Program} {w : World} {K : PySem.W.Frag} {mg : Str → Option Value} {base : Heap} (T : Txt K mg) (D : Df K mg "shown_runs" s_shown_runs ["runs"]) (h_shown_row : OkD P w K mg base 2 "shown_row" ["row"] m_shown_row) : OkD P w K mg base 3 "shown_runs" ["runs"] m_shown_runs :=
  okd D sc_shown_runs fun f cdv A outer s H E hg hr =>
    (s_cons (s_if (t_cmp (o_eq (ru hr (by decide))) (r_var rfl (Or.inl rfl) (by decide) (by decide)) (r_tup r_nil) rfl) (s_one (s_ret r_str)) s_nil)
    (s_one (s_ret (r_callO h_shown_row rfl tk_def hg (hr.mono (by decide)) rfl (r_cons (r_var rfl (Or.inl rfl) (by decide) (by decide)) r_nil rfl) (by decide) rfl rfl))))
theorem sc_shown_name : FnScope ["name"] ["name"] (defScope s_shown_name) := ⟨rfl, rfl, rfl, by decide +kernel, rfl, by decide +kernel, by decide +kernel⟩
noncomputable def b_shown_name : GS :=
    (sRet (gMt true pJoin (gC (.dat (.str "."))) (gCons (gPN pLst (gCons (gPN pStr (gCons (gP2 pIx (gVar 0) (gC (.dat (.int 0)))) gNil)) (gCons (gPN pStr (gCons (gP2 pIx (gVar 0) (gC (.dat (.int 1)))) gNil)) (gCons (gP2 pIx (gVar 0) (gC (.dat (.int 2)))) gNil)))) gNil)))
noncomputable def m_shown_name : GF := gFn 1 b_shown_name
set_option maxHeartbeats 0 in
theorem ok_shown_name {P : Program} {w : World} {K : PySem.W.Frag} {mg : Str → Option Value} {base : Heap} (T : Txt K mg) (D : Df K mg "shown_name" s_shown_name ["name"])  : OkD P w K mg base 1 "shown_name" ["name"] m_shown_name :=
  okd D sc_shown_name fun f cdv A outer s H E hg hr =>
    (s_one (s_ret (r_mt (k := true) PySem.F.plainAttrs_str PySem.F.slot_str_join PySem.F.type_str_join m_join r_str (r_cons (r_lst (r_cons (r_callTy b_str rfl T.b_str (by rfl) (r_cons (r_ix x_ix (r_var rfl (Or.inl rfl) (by decide) (by decide)) r_int (fun _ _ => rfl)) r_nil rfl) (by decide) (by decide) rfl rfl) (r_cons (r_callTy b_str rfl T.b_str (by rfl) (r_cons (r_ix x_ix (r_var rfl (Or.inl rfl) (by decide) (by decide)) r_int (fun _ _ => rfl)) r_nil rfl) (by decide) (by decide) rfl rfl) (r_cons (r_ix x_ix (r_var rfl (Or.inl rfl) (by decide) (by decide)) r_int (fun _ _ => rfl)) r_nil rfl) rfl) rfl)) r_nil rfl) rfl (by rfl) rfl rfl rfl)))
theorem sc_is_number : FnScope ["thing", "least", "most"] ["thing", "least", "most"] (defScope s_is_number) := ⟨rfl, rfl, rfl, by decide +kernel, rfl, by decide +kernel, by decide +kernel⟩
noncomputable def b_is_number : GS :=
    (sRet (gAnd (gIsi "int" (gVar 0)) (gAnd (gNot (gIsi "bool" (gVar 0))) (gChain pLe pLe (gVar 1) (gVar 0) (gVar 2)))))
noncomputable def m_is_number : GF := gFn 3 b_is_number
set_option maxHeartbeats 0 in
theorem ok_is_number {P : Program} {w : World} {K : PySem.W.Frag} {mg : Str → Option Value} {base : Heap} (T : Txt K mg) (D : Df K mg "is_number" s_is_number ["thing", "least", "most"])  : OkD P w K mg base 1 "is_number" ["thing", "least", "most"] m_is_number :=
  okd D sc_is_number fun f cdv A outer s H E hg hr =>
    (s_one (s_ret (r_and (r_isi (.inl rfl) rfl T.b_isinstance rfl T.b_int (by rfl) (r_var rfl (Or.inl rfl) (by decide) (by decide)) (by decide) (by decide) rfl rfl rfl) (r_and (r_not (r_isi (.inr (.inl rfl)) rfl T.b_isinstance rfl T.b_bool (by rfl) (r_var rfl (Or.inl rfl) (by decide) (by decide)) (by decide) (by decide) rfl rfl rfl)) (r_bo1 (r_chain (o_le (ru hr (by decide))) (o_le (ru hr (by decide))) (r_var rfl (Or.inl rfl) (by decide) (by decide)) (r_var rfl (Or.inl rfl) (by decide) (by decide)) (r_var rfl (Or.inl rfl) (by decide) (by decide)) rfl))))))
theorem sc_is_series : FnScope ["thing", "sign"] ["thing"] (defScope s_is_series) := ⟨rfl, rfl, rfl, by decide +kernel, rfl, by decide +kernel, by decide +kernel⟩
noncomputable def b_is_series : GS :=
    (sSeq (sIf (gOr (gNot (gIsi "str" (gVar 0))) (gNot (gChain pLe pLe (gC (.dat (.int 1))) (gPN pLen (gCons (gVar 0) gNil)) (gC (.dat (.int 8)))))) (sRet (gC (.dat (.bool false)))) sPass)
    (sRet (gPN pAll (gCons (gPN pLst (gLcA [1] (gIter (gVar 0)) (tName 1) gYes (gP2 pIn (gVar 1) (gC (.dat (.str "abcdefghijklmnopqrstuvwxyz")))))) gNil))))
noncomputable def m_is_series : GF := gFn 2 b_is_series
set_option maxHeartbeats 0 in
theorem ok_is_series {P : Program} {w : World} {K : PySem.W.Frag} {mg : Str → Option Value} {base : Heap} (T : Txt K mg) (D : Df K mg "is_series" s_is_series ["thing"])  : OkD P w K mg base 1 "is_series" ["thing"] m_is_series :=
  okd D sc_is_series fun f cdv A outer s H E hg hr =>
    (s_cons (s_if (PW.pt (w_or (t_not (t_of (r_isi (.inr (.inr (.inl rfl))) rfl T.b_isinstance rfl T.b_str (by rfl) (r_var rfl (Or.inl rfl) (by decide) (by decide)) (by decide) (by decide) rfl rfl rfl) (fun _ => rfl))) (w_or1 (t_not (t_chain (o_le (ru hr (by decide))) (o_le (ru hr (by decide))) r_int (r_callB b_len rfl T.b_len (by rfl) (r_cons (r_var rfl (Or.inl rfl) (by decide) (by decide)) r_nil rfl) (by decide) (by decide) rfl rfl) (r_gi rfl T.c_MOST_LETTERS_runs (by decide)) rfl))))) (s_one (s_ret r_bl)) s_nil)
    (s_one (s_ret (r_callB (b_all rfl) rfl T.b_all (by rfl) (r_cons (r_lc (own := [("sign", 1)]) rfl sc_is_series.nd (i_any (r_var rfl (Or.inl rfl) (by decide) (by decide))) (blkOk_by (N := ["thing", "sign"]) (sc := (defScope s_is_series)) (by decide +kernel)) (by decide) (fun _ _ _ _ _ => (g_name (i := 1) sc_is_series.nd rfl (Or.inl rfl) (Or.inr rfl))) (fun _ _ _ _ _ => pts0) (fun _ _ _ _ _ => (r_cmp (o_in (ru hr (by decide))) (r_var rfl (Or.inl rfl) (by decide) (by decide)) (r_gs rfl T.c_LETTERS (by decide)) rfl)) (fun _ => rfl)) r_nil rfl) (by decide) (by decide) rfl rfl))))
theorem sc_is_run : FnScope ["thing"] ["thing"] (defScope s_is_run) := ⟨rfl, rfl, rfl, by decide +kernel, rfl, by decide +kernel, by decide +kernel⟩
noncomputable def b_is_run : GS :=
    (sSeq (sIf (gOr (gNot (gIsi "tuple" (gVar 0))) (gOr (gP2 pNe (gPN pLen (gCons (gVar 0) gNil)) (gC (.dat (.int 3)))) (gNot (gCall 1 m_is_series (gCons (gP2 pIx (gVar 0) (gC (.dat (.int 0)))) gNil))))) (sRet (gC (.dat (.bool false)))) sPass)
    (sSeq (sIf (gOr (gNot (gCall 3 m_is_number (gCons (gP2 pIx (gVar 0) (gC (.dat (.int 1)))) (gCons (gC (.dat (.int 0))) (gCons (gC (.dat (.int 999999999))) gNil))))) (gNot (gCall 3 m_is_number (gCons (gP2 pIx (gVar 0) (gC (.dat (.int 2)))) (gCons (gC (.dat (.int 1))) (gCons (gP2 pAdd (gC (.dat (.int 999999999))) (gC (.dat (.int 1)))) gNil)))))) (sRet (gC (.dat (.bool false)))) sPass)
    (sRet (gP2 pLt (gP2 pIx (gVar 0) (gC (.dat (.int 1)))) (gP2 pIx (gVar 0) (gC (.dat (.int 2))))))))
noncomputable def m_is_run : GF := gFn 1 b_is_run
set_option maxHeartbeats 0 in
theorem ok_is_run {P : Program} {w : World} {K : PySem.W.Frag} {mg : Str → Option Value} {base : Heap} (T : Txt K mg) (D : Df K mg "is_run" s_is_run ["thing"]) (h_is_number : OkD P w K mg base 1 "is_number" ["thing", "least", "most"] m_is_number) (h_is_series : OkD P w K mg base 1 "is_series" ["thing"] m_is_series) : OkD P w K mg base 2 "is_run" ["thing"] m_is_run :=
  okd D sc_is_run fun f cdv A outer s H E hg hr =>
    (s_cons (s_if (PW.pt (w_or (t_not (t_of (r_isi (.inr (.inr (.inr (.inl rfl)))) rfl T.b_isinstance rfl T.b_tuple (by rfl) (r_var rfl (Or.inl rfl) (by decide) (by decide)) (by decide) (by decide) rfl rfl rfl) (fun _ => rfl))) (w_or (t_cmp (o_ne (ru hr (by decide))) (r_callB b_len rfl T.b_len (by rfl) (r_cons (r_var rfl (Or.inl rfl) (by decide) (by decide)) r_nil rfl) (by decide) (by decide) rfl rfl) r_int rfl) (w_or1 (t_not (t_of (r_callO h_is_series rfl tk_def hg (hr.mono (by decide)) rfl (r_cons (r_ix x_ix (r_var rfl (Or.inl rfl) (by decide) (by decide)) r_int (fun _ _ => rfl)) r_nil rfl) (by decide) rfl rfl) (fun _ => rfl))))))) (s_one (s_ret r_bl)) s_nil)
    (s_cons (s_if (PW.pt (w_or (t_not (t_of (r_callO h_is_number rfl tk_def hg (hr.mono (by decide)) rfl (r_cons (r_ix x_ix (r_var rfl (Or.inl rfl) (by decide) (by decide)) r_int (fun _ _ => rfl)) (r_cons r_int (r_cons (r_gi rfl T.c_MOST_NUMBER (by decide)) r_nil rfl) rfl) rfl) (by decide) rfl rfl) (fun _ => rfl))) (w_or1 (t_not (t_of (r_callO h_is_number rfl tk_def hg (hr.mono (by decide)) rfl (r_cons (r_ix x_ix (r_var rfl (Or.inl rfl) (by decide) (by decide)) r_int (fun _ _ => rfl)) (r_cons r_int (r_cons (r_op o_add (r_gi rfl T.c_MOST_NUMBER (by decide)) r_int) r_nil rfl) rfl) rfl) (by decide) rfl rfl) (fun _ => rfl)))))) (s_one (s_ret r_bl)) s_nil)
    (s_one (s_ret (r_cmp (o_lt (ru hr (by decide))) (r_ix x_ix (r_var rfl (Or.inl rfl) (by decide) (by decide)) r_int (fun _ _ => rfl)) (r_ix x_ix (r_var rfl (Or.inl rfl) (by decide) (by decide)) r_int (fun _ _ => rfl)) rfl)))))
theorem sc_goes_ahead : FnScope ["one", "other"] ["one", "other"] (defScope s_goes_ahead) := ⟨rfl, rfl, rfl, by decide +kernel, rfl, by decide +kernel, by decide +kernel⟩
noncomputable def b_goes_ahead : GS :=
    (sRet (gOr (gP2 pLt (gP2 pIx (gVar 0) (gC (.dat (.int 0)))) (gP2 pIx (gVar 1) (gC (.dat (.int 0))))) (gAnd (gP2 pEq (gP2 pIx (gVar 0) (gC (.dat (.int 0)))) (gP2 pIx (gVar 1) (gC (.dat (.int 0))))) (gP2 pLt (gP2 pIx (gVar 0) (gC (.dat (.int 2)))) (gP2 pIx (gVar 1) (gC (.dat (.int 1))))))))
noncomputable def m_goes_ahead : GF := gFn 2 b_goes_ahead
set_option maxHeartbeats 0 in
theorem ok_goes_ahead {P : Program} {w : World} {K : PySem.W.Frag} {mg : Str → Option Value} {base : Heap} (T : Txt K mg) (D : Df K mg "goes_ahead" s_goes_ahead ["one", "other"])  : OkD P w K mg base 1 "goes_ahead" ["one", "other"] m_goes_ahead :=
  okd D sc_goes_ahead fun f cdv A outer s H E hg hr =>
    (s_one (s_ret (r_or (r_cmp (o_lt (ru hr (by decide))) (r_ix x_ix (r_var rfl (Or.inl rfl) (by decide) (by decide)) r_int (fun _ _ => rfl)) (r_ix x_ix (r_var rfl (Or.inl rfl) (by decide) (by decide)) r_int (fun _ _ => rfl)) rfl) (r_bo1 (r_and (r_cmp (o_eq (ru hr (by decide))) (r_ix x_ix (r_var rfl (Or.inl rfl) (by decide) (by decide)) r_int (fun _ _ => rfl)) (r_ix x_ix (r_var rfl (Or.inl rfl) (by decide) (by decide)) r_int (fun _ _ => rfl)) rfl) (r_bo1 (r_cmp (o_lt (ru hr (by decide))) (r_ix x_ix (r_var rfl (Or.inl rfl) (by decide) (by decide)) r_int (fun _ _ => rfl)) (r_ix x_ix (r_var rfl (Or.inl rfl) (by decide) (by decide)) r_int (fun _ _ => rfl)) rfl)))))))
theorem sc_is_runs : FnScope ["thing", "one", "other"] ["thing"] (defScope s_is_runs) := ⟨rfl, rfl, rfl, by decide +kernel, rfl, by decide +kernel, by decide +kernel⟩
noncomputable def b_is_runs : GS :=
    (sSeq (sIf (gOr (gNot (gIsi "tuple" (gVar 0))) (gNot (gPN pAll (gCons (gPN pLst (gLcA [1] (gIter (gVar 0)) (tName 1) gYes (gCall 1 m_is_run (gCons (gVar 1) gNil)))) gNil)))) (sRet (gC (.dat (.bool false)))) sPass)
    (sRet (gPN pAll (gCons (gPN pLst (gLcA [1, 2] (gZip (gCons (gVar 0) (gCons (gSl (gVar 0) (gPart (gC (.dat (.int 1)))) (gC (.dat .none))) gNil))) (tTupT 2 (tsCons (tName 1) (tsCons (tName 2) tsNil))) gYes (gCall 2 m_goes_ahead (gCons (gVar 1) (gCons (gVar 2) gNil))))) gNil))))
noncomputable def m_is_runs : GF := gFn 3 b_is_runs
set_option maxHeartbeats 0 in
theorem ok_is_runs {P : Program} {w : World} {K : PySem.W.Frag} {mg : Str → Option Value} {base : Heap} (T : Txt K mg) (D : Df K mg "is_runs" s_is_runs ["thing"]) (h_is_run : OkD P w K mg base 2 "is_run" ["thing"] m_is_run) (h_goes_ahead : OkD P w K mg base 1 "goes_ahead" ["one", "other"] m_goes_ahead) : OkD P w K mg base 3 "is_runs" ["thing"] m_is_runs :=
  okd D sc_is_runs fun f cdv A outer s H E hg hr =>
    (s_cons (s_if (PW.pt (w_or (t_not (t_of (r_isi (.inr (.inr (.inr (.inl rfl)))) rfl T.b_isinstance rfl T.b_tuple (by rfl) (r_var rfl (Or.inl rfl) (by decide) (by decide)) (by decide) (by decide) rfl rfl rfl) (fun _ => rfl))) (w_or1 (t_not (t_of (r_callB (b_all rfl) rfl T.b_all (by rfl) (r_cons (r_lc (own := [("one", 1)]) rfl sc_is_runs.nd (i_any (r_var rfl (Or.inl rfl) (by decide) (by decide))) (blkOk_by (N := ["thing", "one", "other"]) (sc := (defScope s_is_runs)) (by decide +kernel)) (by decide) (fun _ _ _ _ _ => (g_name (i := 1) sc_is_runs.nd rfl (Or.inl rfl) (Or.inr rfl))) (fun _ _ _ _ _ => pts0) (fun _ _ _ _ _ => (r_callO h_is_run rfl takes_none5 hg (hr.mono (by decide)) rfl (r_cons (r_var rfl (Or.inl rfl) (by decide) (by decide)) r_nil rfl) (by decide) rfl rfl)) (fun _ => rfl)) r_nil rfl) (by decide) (by decide) rfl rfl) (fun _ => rfl)))))) (s_one (s_ret r_bl)) s_nil)
    (s_one (s_ret (r_callB (b_all rfl) rfl T.b_all (by rfl) (r_cons (r_lc (own := [("one", 1), ("other", 2)]) rfl sc_is_runs.nd (i_zip rfl T.b_zip (r_cons (r_var rfl (Or.inl rfl) (by decide) (by decide)) (r_cons (r_sl (r_var rfl (Or.inl rfl) (by decide) (by decide)) (po_of r_int) po_no) r_nil rfl) rfl) rfl rfl) (blkOk_by (N := ["thing", "one", "other"]) (sc := (defScope s_is_runs)) (by decide +kernel)) (by decide) (fun _ _ _ _ _ => (g_tup rfl (gs_cons (g_name (i := 1) sc_is_runs.nd rfl (Or.inl rfl) (Or.inr rfl)) (gs_cons (g_name (i := 2) sc_is_runs.nd rfl (Or.inl rfl) (Or.inr rfl)) gs_nil rfl) rfl) rfl rfl)) (fun _ _ _ _ _ => pts0) (fun _ _ _ _ _ => (r_callO h_goes_ahead rfl takes_none5 hg (hr.mono (by decide)) rfl (r_cons (r_var rfl (Or.inl rfl) (by decide) (by decide)) (r_cons (r_var rfl (Or.inl rfl) (by decide) (by decide)) r_nil rfl) rfl) (by decide) rfl rfl)) (fun _ => rfl)) r_nil rfl) (by decide) (by decide) rfl rfl))))
theorem sc_is_word : FnScope ["thing", "sign"] ["thing"] (defScope s_is_word) := ⟨rfl, rfl, rfl, by decide +kernel, rfl, by decide +kernel, by decide +kernel⟩
noncomputable def b_is_word : GS :=
    (sSeq (sIf (gOr (gNot (gIsi "str" (gVar 0))) (gNot (gChain pLe pLe (gC (.dat (.int 1))) (gPN pLen (gCons (gVar 0) gNil)) (gC (.dat (.int 8)))))) (sRet (gC (.dat (.bool false)))) sPass)
    (sRet (gPN pAll (gCons (gPN pLst (gLcA [1] (gIter (gVar 0)) (tName 1) gYes (gP2 pIn (gVar 1) (gC (.dat (.str "abcdefghijklmnopqrstuvwxyz")))))) gNil))))
noncomputable def m_is_word : GF := gFn 2 b_is_word
set_option maxHeartbeats 0 in
theorem ok_is_word {P : Program} {w : World} {K : PySem.W.Frag} {mg : Str → Option Value} {base : Heap} (T : Txt K mg) (D : Df K mg "is_word" s_is_word ["thing"])  : OkD P w K mg base 1 "is_word" ["thing"] m_is_word :=
  okd D sc_is_word fun f cdv A outer s H E hg hr =>
    (s_cons (s_if (PW.pt (w_or (t_not (t_of (r_isi (.inr (.inr (.inl rfl))) rfl T.b_isinstance rfl T.b_str (by rfl) (r_var rfl (Or.inl rfl) (by decide) (by decide)) (by decide) (by decide) rfl rfl rfl) (fun _ => rfl))) (w_or1 (t_not (t_chain (o_le (ru hr (by decide))) (o_le (ru hr (by decide))) r_int (r_callB b_len rfl T.b_len (by rfl) (r_cons (r_var rfl (Or.inl rfl) (by decide) (by decide)) r_nil rfl) (by decide) (by decide) rfl rfl) (r_gi rfl T.c_MOST_LETTERS_offices (by decide)) rfl))))) (s_one (s_ret r_bl)) s_nil)
    (s_one (s_ret (r_callB (b_all rfl) rfl T.b_all (by rfl) (r_cons (r_lc (own := [("sign", 1)]) rfl sc_is_word.nd (i_any (r_var rfl (Or.inl rfl) (by decide) (by decide))) (blkOk_by (N := ["thing", "sign"]) (sc := (defScope s_is_word)) (by decide +kernel)) (by decide) (fun _ _ _ _ _ => (g_name (i := 1) sc_is_word.nd rfl (Or.inl rfl) (Or.inr rfl))) (fun _ _ _ _ _ => pts0) (fun _ _ _ _ _ => (r_cmp (o_in (ru hr (by decide))) (r_var rfl (Or.inl rfl) (by decide) (by decide)) (r_gs rfl T.c_SMALL (by decide)) rfl)) (fun _ => rfl)) r_nil rfl) (by decide) (by decide) rfl rfl))))
theorem sc_number_in : FnScope ["word", "least", "most", "sign"] ["word", "least", "most"] (defScope s_number_in) := ⟨rfl, rfl, rfl, by decide +kernel, rfl, by decide +kernel, by decide +kernel⟩
noncomputable def b_number_in : GS :=
    (sSeq (sIf (gOr (gNot (gChain pLe pLe (gC (.dat (.int 1))) (gPN pLen (gCons (gVar 0) gNil)) (gC (.dat (.int 13))))) (gNot (gPN pAll (gCons (gPN pLst (gLcA [3] (gIter (gVar 0)) (tName 3) gYes (gP2 pIn (gVar 3) (gC (.dat (.str "0123456789")))))) gNil)))) (sRet (gC (.dat .none))) sPass)
    (sSeq (sIf (gAnd (gP2 pEq (gP2 pIx (gVar 0) (gC (.dat (.int 0)))) (gC (.dat (.str "0")))) (gP2 pNe (gVar 0) (gC (.dat (.str "0"))))) (sRet (gC (.dat .none))) sPass)
    (sRet (gIf (gChain pLe pLe (gVar 1) (gPN pInt (gCons (gVar 0) gNil)) (gVar 2)) (gPN pInt (gCons (gVar 0) gNil)) (gC (.dat .none))))))
noncomputable def m_number_in : GF := gFn 4 b_number_in
set_option maxHeartbeats 0 in
theorem ok_number_in {P : Program} {w : World} {K : PySem.W.Frag} {mg : Str → Option Value} {base : Heap} (T : Txt K mg) (D : Df K mg "number_in" s_number_in ["word", "least", "most"])  : OkD P w K mg base 1 "number_in" ["word", "least", "most"] m_number_in :=
  okd D sc_number_in fun f cdv A outer s H E hg hr =>
    (s_cons (s_if (PW.pt (w_or (t_not (t_chain (o_le (ru hr (by decide))) (o_le (ru hr (by decide))) r_int (r_callB b_len rfl T.b_len (by rfl) (r_cons (r_var rfl (Or.inl rfl) (by decide) (by decide)) r_nil rfl) (by decide) (by decide) rfl rfl) (r_gi rfl T.c_MOST_FIGURES (by decide)) rfl)) (w_or1 (t_not (t_of (r_callB (b_all rfl) rfl T.b_all (by rfl) (r_cons (r_lc (own := [("sign", 3)]) rfl sc_number_in.nd (i_any (r_var rfl (Or.inl rfl) (by decide) (by decide))) (blkOk_by (N := ["word", "least", "most", "sign"]) (sc := (defScope s_number_in)) (by decide +kernel)) (by decide) (fun _ _ _ _ _ => (g_name (i := 3) sc_number_in.nd rfl (Or.inl rfl) (Or.inr rfl))) (fun _ _ _ _ _ => pts0) (fun _ _ _ _ _ => (r_cmp (o_in (ru hr (by decide))) (r_var rfl (Or.inl rfl) (by decide) (by decide)) (r_gs rfl T.c_FIGURES (by decide)) rfl)) (fun _ => rfl)) r_nil rfl) (by decide) (by decide) rfl rfl) (fun _ => rfl)))))) (s_one (s_ret r_non)) s_nil)
    (s_cons (s_if (PW.pt (w_and (t_cmp (o_eq (ru hr (by decide))) (r_ix x_ix (r_var rfl (Or.inl rfl) (by decide) (by decide)) r_int (fun _ _ => rfl)) r_str rfl) (w_and1 (t_cmp (o_ne (ru hr (by decide))) (r_var rfl (Or.inl rfl) (by decide) (by decide)) r_str rfl)))) (s_one (s_ret r_non)) s_nil)
    (s_one (s_ret (r_ifx (t_chain (o_le (ru hr (by decide))) (o_le (ru hr (by decide))) (r_var rfl (Or.inl rfl) (by decide) (by decide)) (r_callTy b_int rfl T.b_int (by rfl) (r_cons (r_var rfl (Or.inl rfl) (by decide) (by decide)) r_nil rfl) (by decide) (by decide) rfl rfl) (r_var rfl (Or.inl rfl) (by decide) (by decide)) rfl) (r_callTy b_int rfl T.b_int (by rfl) (r_cons (r_var rfl (Or.inl rfl) (by decide) (by decide)) r_nil rfl) (by decide) (by decide) rfl rfl) r_non)))))
theorem sc_run_in : FnScope ["word", "series", "mark", "rest", "first", "dash", "last", "begin", "end"] ["word"] (defScope s_run_in) := ⟨rfl, rfl, rfl, by decide +kernel, rfl, by decide +kernel, by decide +kernel⟩
noncomputable def b_run_in : GS :=
    (sSeq (sAsg (gMt true pPartition (gVar 0) (gCons (gC (.dat (.str ":"))) gNil)) (tTupT 3 (tsCons (tName 1) (tsCons (tName 2) (tsCons (tName 3) tsNil)))))
    (sSeq (sAsg (gMt true pPartition (gVar 3) (gCons (gC (.dat (.str "-"))) gNil)) (tTupT 3 (tsCons (tName 4) (tsCons (tName 5) (tsCons (tName 6) tsNil)))))
    (sSeq (sAsg (gCall 3 m_number_in (gCons (gVar 4) (gCons (gC (.dat (.int 0))) (gCons (gC (.dat (.int 999999999))) gNil)))) (tName 7))
    (sSeq (sIf (gOr (gNot (gCall 1 m_is_word (gCons (gVar 1) gNil))) (gP2 pIsN (gVar 7) (gC (.dat .none)))) (sRet (gC (.dat .none))) sPass)
    (sSeq (sIf (gP2 pEq (gVar 5) (gC (.dat (.str "")))) (sRet (gPN pTup (gCons (gVar 1) (gCons (gVar 7) (gCons (gP2 pAdd (gVar 7) (gC (.dat (.int 1)))) gNil))))) sPass)
    (sSeq (sAsg (gCall 3 m_number_in (gCons (gVar 6) (gCons (gP2 pAdd (gVar 7) (gC (.dat (.int 1)))) (gCons (gC (.dat (.int 999999999))) gNil)))) (tName 8))
    (sRet (gIf (gP2 pIsN (gVar 8) (gC (.dat .none))) (gC (.dat .none)) (gPN pTup (gCons (gVar 1) (gCons (gVar 7) (gCons (gP2 pAdd (gVar 8) (gC (.dat (.int 1)))) gNil))))))))))))
noncomputable def m_run_in : GF := gFn 9 b_run_in
set_option maxHeartbeats 0 in
theorem ok_run_in {P : Program} {w : World} {K : PySem.W.Frag} {mg : Str → Option Value} {base : Heap} (T : Txt K mg) (D : Df K mg "run_in" s_run_in ["word"]) (h_is_word : OkD P w K mg base 1 "is_word" ["thing"] m_is_word) (h_number_in : OkD P w K mg base 1 "number_in" ["word", "least", "most"] m_number_in) : OkD P w K mg base 2 "run_in" ["word"] m_run_in :=
  okd D sc_run_in fun f cdv A outer s H E hg hr =>
    (s_cons (s_asg (r_mt (k := true) PySem.F.plainAttrs_str PySem.F.slot_str_partition PySem.F.type_str_partition m_partition (r_var rfl (Or.inl rfl) (by decide) (by decide)) (r_cons r_str r_nil rfl) rfl (by rfl) rfl rfl rfl) (g_tup rfl (gs_cons (g_name (i := 1) sc_run_in.nd rfl (Or.inl rfl) (Or.inl rfl)) (gs_cons (g_name (i := 2) sc_run_in.nd rfl (Or.inl rfl) (Or.inl rfl)) (gs_cons (g_name (i := 3) sc_run_in.nd rfl (Or.inl rfl) (Or.inl rfl)) gs_nil rfl) rfl) rfl) rfl rfl) rfl rfl rfl)
    (s_cons (s_asg (r_mt (k := true) PySem.F.plainAttrs_str PySem.F.slot_str_partition PySem.F.type_str_partition m_partition (r_var rfl (Or.inl rfl) (by decide) (by decide)) (r_cons r_str r_nil rfl) rfl (by rfl) rfl rfl rfl) (g_tup rfl (gs_cons (g_name (i := 4) sc_run_in.nd rfl (Or.inl rfl) (Or.inl rfl)) (gs_cons (g_name (i := 5) sc_run_in.nd rfl (Or.inl rfl) (Or.inl rfl)) (gs_cons (g_name (i := 6) sc_run_in.nd rfl (Or.inl rfl) (Or.inl rfl)) gs_nil rfl) rfl) rfl) rfl rfl) rfl rfl rfl)
    (s_cons (s_asg (r_callO h_number_in rfl tk_def hg (hr.mono (by decide)) rfl (r_cons (r_var rfl (Or.inl rfl) (by decide) (by decide)) (r_cons r_int (r_cons (r_gi rfl T.c_GREATEST (by decide)) r_nil rfl) rfl) rfl) (by decide) rfl rfl) (g_name (i := 7) sc_run_in.nd rfl (Or.inl rfl) (Or.inl rfl)) rfl rfl rfl)
    (s_cons (s_if (PW.pt (w_or (t_not (t_of (r_callO h_is_word rfl tk_def hg (hr.mono (by decide)) rfl (r_cons (r_var rfl (Or.inl rfl) (by decide) (by decide)) r_nil rfl) (by decide) rfl rfl) (fun _ => rfl))) (w_or1 (t_cmp o_isN (r_var rfl (Or.inl rfl) (by decide) (by decide)) r_non rfl)))) (s_one (s_ret r_non)) s_nil)
    (s_cons (s_if (t_cmp (o_eq (ru hr (by decide))) (r_var rfl (Or.inl rfl) (by decide) (by decide)) r_str rfl) (s_one (s_ret (r_tup (r_cons (r_var rfl (Or.inl rfl) (by decide) (by decide)) (r_cons (r_var rfl (Or.inl rfl) (by decide) (by decide)) (r_cons (r_op o_add (r_var rfl (Or.inl rfl) (by decide) (by decide)) r_int) r_nil rfl) rfl) rfl)))) s_nil)
    (s_cons (s_asg (r_callO h_number_in rfl tk_def hg (hr.mono (by decide)) rfl (r_cons (r_var rfl (Or.inl rfl) (by decide) (by decide)) (r_cons (r_op o_add (r_var rfl (Or.inl rfl) (by decide) (by decide)) r_int) (r_cons (r_gi rfl T.c_GREATEST (by decide)) r_nil rfl) rfl) rfl) (by decide) rfl rfl) (g_name (i := 8) sc_run_in.nd rfl (Or.inl rfl) (Or.inl rfl)) rfl rfl rfl)
    (s_one (s_ret (r_ifx (t_cmp o_isN (r_var rfl (Or.inl rfl) (by decide) (by decide)) r_non rfl) r_non (r_tup (r_cons (r_var rfl (Or.inl rfl) (by decide) (by decide)) (r_cons (r_var rfl (Or.inl rfl) (by decide) (by decide)) (r_cons (r_op o_add (r_var rfl (Or.inl rfl) (by decide) (by decide)) r_int) r_nil rfl) rfl) rfl)))))))))))
theorem sc_row_in : FnScope ["word", "found", "piece"] ["word"] (defScope s_row_in) := ⟨rfl, rfl, rfl, by decide +kernel, rfl, by decide +kernel, by decide +kernel⟩
noncomputable def b_row_in : GS :=
    (sSeq (sAsg (gPN pTupleOf (gCons (gPN pLst (gLcA [2] (gIter (gMt true pSplit (gVar 0) (gCons (gC (.dat (.str ","))) gNil))) (tName 2) gYes (gCall 1 m_run_in (gCons (gVar 2) gNil)))) gNil)) (tName 1))
    (sRet (gIf (gP2 pIn (gC (.dat .none)) (gVar 1)) (gC (.dat .none)) (gVar 1))))
noncomputable def m_row_in : GF := gFn 3 b_row_in
set_option maxHeartbeats 0 in
theorem ok_row_in {P : Program} {w : World} {K : PySem.W.Frag} {mg : Str → Option Value} {base : Heap} (T : Txt K mg) (D : Df K mg "row_in" s_row_in ["word"]) (h_run_in : OkD P w K mg base 2 "run_in" ["word"] m_run_in) : OkD P w K mg base 3 "row_in" ["word"] m_row_in :=
  okd D sc_row_in fun f cdv A outer s H E hg hr =>
    (s_cons (s_asg (r_callTy b_tuple rfl T.b_tuple (by rfl) (r_cons (r_lc (own := [("piece", 2)]) rfl sc_row_in.nd (i_any (r_mt (k := true) PySem.F.plainAttrs_str PySem.F.slot_str_split PySem.F.type_str_split m_split (r_var rfl (Or.inl rfl) (by decide) (by decide)) (r_cons r_str r_nil rfl) rfl (by rfl) rfl rfl rfl)) (blkOk_by (N := ["word", "found", "piece"]) (sc := (defScope s_row_in)) (by decide +kernel)) (by decide) (fun _ _ _ _ _ => (g_name (i := 2) sc_row_in.nd rfl (Or.inl rfl) (Or.inr rfl))) (fun _ _ _ _ _ => pts0) (fun _ _ _ _ _ => (r_callO h_run_in rfl takes_none5 hg (hr.mono (by decide)) rfl (r_cons (r_var rfl (Or.inl rfl) (by decide) (by decide)) r_nil rfl) (by decide) rfl rfl)) (fun _ => rfl)) r_nil rfl) (by decide) (by decide) rfl rfl) (g_name (i := 1) sc_row_in.nd rfl (Or.inl rfl) (Or.inl rfl)) rfl rfl rfl)
    (s_one (s_ret (r_ifx (t_cmp (o_in (ru hr (by decide))) r_non (r_var rfl (Or.inl rfl) (by decide) (by decide)) rfl) r_non (r_var rfl (Or.inl rfl) (by decide) (by decide))))))
theorem sc_runs_in : FnScope ["word", "found"] ["word"] (defScope s_runs_in) := ⟨rfl, rfl, rfl, by decide +kernel, rfl, by decide +kernel, by decide +kernel⟩
noncomputable def b_runs_in : GS :=
    (sSeq (sIf (gP2 pEq (gVar 0) (gC (.dat (.str "-")))) (sRet (gPN pTup gNil)) sPass)
    (sSeq (sAsg (gCall 1 m_row_in (gCons (gVar 0) gNil)) (tName 1))
    (sRet (gIf (gCall 1 m_is_runs (gCons (gVar 1) gNil)) (gVar 1) (gC (.dat .none))))))
noncomputable def m_runs_in : GF := gFn 2 b_runs_in
set_option maxHeartbeats 0 in
theorem ok_runs_in {P : Program} {w : World} {K : PySem.W.Frag} {mg : Str → Option Value} {base : Heap} (T : Txt K mg) (D : Df K mg "runs_in" s_runs_in ["word"]) (h_is_runs : OkD P w K mg base 3 "is_runs" ["thing"] m_is_runs) (h_row_in : OkD P w K mg base 3 "row_in" ["word"] m_row_in) : OkD P w K mg base 4 "runs_in" ["word"] m_runs_in :=
  okd D sc_runs_in fun f cdv A outer s H E hg hr =>
    (s_cons (s_if (t_cmp (o_eq (ru hr (by decide))) (r_var rfl (Or.inl rfl) (by decide) (by decide)) r_str rfl) (s_one (s_ret (r_tup r_nil))) s_nil)
    (s_cons (s_asg (r_callO h_row_in rfl tk_def hg (hr.mono (by decide)) rfl (r_cons (r_var rfl (Or.inl rfl) (by decide) (by decide)) r_nil rfl) (by decide) rfl rfl) (g_name (i := 1) sc_runs_in.nd rfl (Or.inl rfl) (Or.inl rfl)) rfl rfl rfl)
    (s_one (s_ret (r_ifx (t_of (r_callO h_is_runs rfl tk_def hg (hr.mono (by decide)) rfl (r_cons (r_var rfl (Or.inl rfl) (by decide) (by decide)) r_nil rfl) (by decide) rfl rfl) (fun _ => rfl)) (r_var rfl (Or.inl rfl) (by decide) (by decide)) r_non)))))
theorem sc_read_alone : FnScope ["text", "found"] ["text", "found"] (defScope s_read_alone) := ⟨rfl, rfl, rfl, by decide +kernel, rfl, by decide +kernel, by decide +kernel⟩
noncomputable def b_read_alone : GS :=
    (sSeq (sIf (gP2 pIsN (gVar 1) (gC (.dat .none))) (sRaise "NoText" ["row", "word"] (gCons (gC (.dat (.int 0))) (gCons (gC (.dat (.int 0))) gNil))) sPass)
    (sSeq (sIf (gP2 pIn (gC (.dat (.str " "))) (gVar 0)) (sRaise "NoText" ["row", "word"] (gCons (gC (.dat (.int 0))) (gCons (gC (.dat (.int 1))) gNil))) sPass)
    (sRet (gVar 1))))
noncomputable def m_read_alone : GF := gFn 2 b_read_alone
set_option maxHeartbeats 0 in
theorem ok_read_alone {P : Program} {w : World} {K : PySem.W.Frag} {mg : Str → Option Value} {base : Heap} (T : Txt K mg) (D : Df K mg "read_alone" s_read_alone ["text", "found"]) (h_NoText : XcD P w K mg base 1 "NoText" ["self", "row", "word"] ["row", "word"]) : OkD P w K mg base 3 "read_alone" ["text", "found"] m_read_alone :=
  okd D sc_read_alone fun f cdv A outer s H E hg hr =>
    (s_cons (s_if (t_cmp o_isN (r_var rfl (Or.inl rfl) (by decide) (by decide)) r_non rfl) (s_one (s_raiseO h_NoText rfl tk_def (hr.mono (by decide)) rfl (r_cons r_int (r_cons r_int r_nil rfl) rfl) (by decide) rfl rfl)) s_nil)
    (s_cons (s_if (t_cmp (o_in (ru hr (by decide))) r_str (r_var rfl (Or.inl rfl) (by decide) (by decide)) rfl) (s_one (s_raiseO h_NoText rfl tk_def (hr.mono (by decide)) rfl (r_cons r_int (r_cons r_int r_nil rfl) rfl) (by decide) rfl rfl)) s_nil)
    (s_one (s_ret (r_var rfl (Or.inl rfl) (by decide) (by decide))))))
theorem sc_read_runs : FnScope ["text"] ["text"] (defScope s_read_runs) := ⟨rfl, rfl, rfl, by decide +kernel, rfl, by decide +kernel, by decide +kernel⟩
noncomputable def b_read_runs : GS :=
    (sRet (gCall 2 m_read_alone (gCons (gVar 0) (gCons (gCall 1 m_runs_in (gCons (gP2 pIx (gMt true pPartition (gVar 0) (gCons (gC (.dat (.str " "))) gNil)) (gC (.dat (.int 0)))) gNil)) gNil))))
noncomputable def m_read_runs : GF := gFn 1 b_read_runs
set_option maxHeartbeats 0 in
theorem ok_read_runs {P : Program} {w : World} {K : PySem.W.Frag} {mg : Str → Option Value} {base : Heap} (T : Txt K mg) (D : Df K mg "read_runs" s_read_runs ["text"]) (h_runs_in : OkD P w K mg base 4 "runs_in" ["word"] m_runs_in) (h_read_alone : OkD P w K mg base 3 "read_alone" ["text", "found"] m_read_alone) : OkD P w K mg base 5 "read_runs" ["text"] m_read_runs :=
  okd D sc_read_runs fun f cdv A outer s H E hg hr =>
    (s_one (s_ret (r_callO h_read_alone rfl tk_def hg (hr.mono (by decide)) rfl (r_cons (r_var rfl (Or.inl rfl) (by decide) (by decide)) (r_cons (r_callO h_runs_in rfl tk_def hg (hr.mono (by decide)) rfl (r_cons (r_ix x_ix (r_mt (k := true) PySem.F.plainAttrs_str PySem.F.slot_str_partition PySem.F.type_str_partition m_partition (r_var rfl (Or.inl rfl) (by decide) (by decide)) (r_cons r_str r_nil rfl) rfl (by rfl) rfl rfl rfl) r_int (fun _ _ => rfl)) r_nil rfl) (by decide) rfl rfl) r_nil rfl) rfl) (by decide) rfl rfl)))
theorem sc_read_row_text : FnScope ["text"] ["text"] (defScope s_read_row_text) := ⟨rfl, rfl, rfl, by decide +kernel, rfl, by decide +kernel, by decide +kernel⟩
noncomputable def b_read_row_text : GS :=
    (sRet (gCall 2 m_read_alone (gCons (gVar 0) (gCons (gCall 1 m_row_in (gCons (gP2 pIx (gMt true pPartition (gVar 0) (gCons (gC (.dat (.str " "))) gNil)) (gC (.dat (.int 0)))) gNil)) gNil))))
noncomputable def m_read_row_text : GF := gFn 1 b_read_row_text
set_option maxHeartbeats 0 in
theorem ok_read_row_text {P : Program} {w : World} {K : PySem.W.Frag} {mg : Str → Option Value} {base : Heap} (T : Txt K mg) (D : Df K mg "read_row_text" s_read_row_text ["text"]) (h_row_in : OkD P w K mg base 3 "row_in" ["word"] m_row_in) (h_read_alone : OkD P w K mg base 3 "read_alone" ["text", "found"] m_read_alone) : OkD P w K mg base 4 "read_row_text" ["text"] m_read_row_text :=
  okd D sc_read_row_text fun f cdv A outer s H E hg hr =>
    (s_one (s_ret (r_callO h_read_alone rfl tk_def hg (hr.mono (by decide)) rfl (r_cons (r_var rfl (Or.inl rfl) (by decide) (by decide)) (r_cons (r_callO h_row_in rfl tk_def hg (hr.mono (by decide)) rfl (r_cons (r_ix x_ix (r_mt (k := true) PySem.F.plainAttrs_str PySem.F.slot_str_partition PySem.F.type_str_partition m_partition (r_var rfl (Or.inl rfl) (by decide) (by decide)) (r_cons r_str r_nil rfl) rfl (by rfl) rfl rfl rfl) r_int (fun _ _ => rfl)) r_nil rfl) (by decide) rfl rfl) r_nil rfl) rfl) (by decide) rfl rfl)))
theorem sc__law_feed : FnScope ["_law_script"] ["_law_script"] (defScope s__law_feed) := ⟨rfl, rfl, rfl, by decide +kernel, rfl, by decide +kernel, by decide +kernel⟩
noncomputable def b__law_feed : GS :=
    (sRet (gPN pLstA (gCons (gSl (gVar 0) (gC (.dat .none)) (gPart (gC (.dat (.int 63))))) (gCons (gC (.dat (.int 0))) (gCons (gC (.dat (.int 0))) gNil)))))
noncomputable def m__law_feed : GF := gFnK 1 b__law_feed
set_option maxHeartbeats 0 in
theorem ok__law_feed {P : Program} {w : World} {K : PySem.W.Frag} {mg : Str → Option Value} {base : Heap} (T : Txt K mg) (D : Df K mg "_law_feed" s__law_feed ["_law_script"])  : OkD P w K mg base 1 "_law_feed" ["_law_script"] m__law_feed :=
  okdK D sc__law_feed fun f cdv A outer s H E hg hr =>
    (s_one (s_ret (r_lstA (r_cons (r_sl (r_var rfl (Or.inl rfl) (by decide) (by decide)) po_no (po_of r_int)) (r_cons r_int (r_cons r_int r_nil rfl) rfl) rfl))))
theorem sc__law_draw : FnScope ["_law_feed_here", "_law_many", "_law_found", "_law_at", "_law_cell", "_law_first"] ["_law_feed_here", "_law_many"] (defScope s__law_draw) := ⟨rfl, rfl, rfl, by decide +kernel, rfl, by decide +kernel, by decide +kernel⟩
noncomputable def b__law_draw : GS :=
    (sSeq (sIf (gP2 pGt (gP2 pIx (gVar 0) (gC (.dat (.int 2)))) (gC (.dat (.int 0)))) (sSeq (sAsg (gP2 pMod (gP2 pIx (gVar 0) (gC (.dat (.int 2)))) (gVar 1)) (tName 2))
    (sSeq (sSetI (gP2 pFdiv (gP2 pIx (gVar 0) (gC (.dat (.int 2)))) (gVar 1)) (gVar 0) (gC (.dat (.int 2))))
    (sRet (gVar 2)))) sPass)
    (sSeq (sAsg (gP2 pIx (gVar 0) (gC (.dat (.int 1)))) (tName 3))
    (sSeq (sSetI (gP2 pAdd (gVar 3) (gC (.dat (.int 1)))) (gVar 0) (gC (.dat (.int 1))))
    (sSeq (sAsg (gIf (gP2 pGt (gPN pLen (gCons (gP2 pIx (gVar 0) (gC (.dat (.int 0)))) gNil)) (gC (.dat (.int 0)))) (gP2 pIx (gP2 pIx (gVar 0) (gC (.dat (.int 0)))) (gP2 pMod (gVar 3) (gPN pLen (gCons (gP2 pIx (gVar 0) (gC (.dat (.int 0)))) gNil)))) (gC (.dat (.int 0)))) (tName 4))
    (sSeq (sIf (gAnd (gP2 pGe (gVar 4) (gP2 pPow (gC (.dat (.int 10))) (gC (.dat (.int 18))))) (gP2 pLt (gVar 3) (gPN pLen (gCons (gP2 pIx (gVar 0) (gC (.dat (.int 0)))) gNil)))) (sSeq (sSetI (gP2 pFdiv (gVar 4) (gVar 1)) (gVar 0) (gC (.dat (.int 2))))
    (sRet (gP2 pMod (gVar 4) (gVar 1)))) sPass)
    (sSeq (sAsg (gP2 pMod (gP2 pMul (gP2 pAdd (gP2 pAdd (gP2 pAdd (gP2 pMod (gVar 4) (gC (.dat (.int 1000003)))) (gP2 pMul (gP2 pMul (gC (.dat (.int 53))) (gVar 3)) (gVar 3))) (gP2 pMul (gC (.dat (.int 29))) (gVar 3))) (gC (.dat (.int 811)))) (gC (.dat (.int 40009)))) (gC (.dat (.int 2147483629)))) (tName 5))
    (sSeq (sAsg (gP2 pMod (gP2 pAdd (gP2 pAdd (gP2 pMul (gVar 5) (gVar 5)) (gP2 pMul (gC (.dat (.int 38317))) (gVar 3))) (gC (.dat (.int 101)))) (gC (.dat (.int 2147483587)))) (tName 5))
    (sRet (gP2 pMod (gP2 pFdiv (gP2 pMod (gP2 pMul (gVar 5) (gC (.dat (.int 48271)))) (gC (.dat (.int 2147483563)))) (gC (.dat (.int 7)))) (gVar 1))))))))))
noncomputable def m__law_draw : GF := gFn 6 b__law_draw
set_option maxHeartbeats 0 in
theorem ok__law_draw {P : Program} {w : World} {K : PySem.W.Frag} {mg : Str → Option Value} {base : Heap} (T : Txt K mg) (D : Df K mg "_law_draw" s__law_draw ["_law_feed_here", "_law_many"])  : OkD P w K mg base 1 "_law_draw" ["_law_feed_here", "_law_many"] m__law_draw :=
  okd D sc__law_draw fun f cdv A outer s H E hg hr =>
    (s_cons (s_if (t_cmp (o_gt (ru hr (by decide))) (r_ix x_ix (r_var rfl (Or.inl rfl) (by decide) (by decide)) r_int (fun _ _ => rfl)) r_int rfl) (s_cons (s_asg (r_op o_mod (r_ix x_ix (r_var rfl (Or.inl rfl) (by decide) (by decide)) r_int (fun _ _ => rfl)) (r_var rfl (Or.inl rfl) (by decide) (by decide))) (g_name (i := 2) sc__law_draw.nd rfl (Or.inl rfl) (Or.inl rfl)) rfl rfl rfl)
    (s_cons (s_seti (r_op o_fdiv (r_ix x_ix (r_var rfl (Or.inl rfl) (by decide) (by decide)) r_int (fun _ _ => rfl)) (r_var rfl (Or.inl rfl) (by decide) (by decide))) (r_var rfl (Or.inl rfl) (by decide) (by decide)) r_int (fun _ => rfl) rfl rfl rfl)
    (s_one (s_ret (r_var rfl (Or.inl rfl) (by decide) (by decide)))))) s_nil)
    (s_cons (s_asg (r_ix x_ix (r_var rfl (Or.inl rfl) (by decide) (by decide)) r_int (fun _ _ => rfl)) (g_name (i := 3) sc__law_draw.nd rfl (Or.inl rfl) (Or.inl rfl)) rfl rfl rfl)
    (s_cons (s_seti (r_op o_add (r_var rfl (Or.inl rfl) (by decide) (by decide)) r_int) (r_var rfl (Or.inl rfl) (by decide) (by decide)) r_int (fun _ => rfl) rfl rfl rfl)
    (s_cons (s_asg (r_ifx (t_cmp (o_gt (ru hr (by decide))) (r_callB b_len rfl T.b_len (by rfl) (r_cons (r_ix x_ix (r_var rfl (Or.inl rfl) (by decide) (by decide)) r_int (fun _ _ => rfl)) r_nil rfl) (by decide) (by decide) rfl rfl) r_int rfl) (r_ix x_ix (r_ix x_ix (r_var rfl (Or.inl rfl) (by decide) (by decide)) r_int (fun _ _ => rfl)) (r_op o_mod (r_var rfl (Or.inl rfl) (by decide) (by decide)) (r_callB b_len rfl T.b_len (by rfl) (r_cons (r_ix x_ix (r_var rfl (Or.inl rfl) (by decide) (by decide)) r_int (fun _ _ => rfl)) r_nil rfl) (by decide) (by decide) rfl rfl)) (fun _ _ => rfl)) r_int) (g_name (i := 4) sc__law_draw.nd rfl (Or.inl rfl) (Or.inl rfl)) rfl rfl rfl)
    (s_cons (s_if (PW.pt (w_and (t_cmp (o_ge (ru hr (by decide))) (r_var rfl (Or.inl rfl) (by decide) (by decide)) (r_op o_pow r_int r_int) rfl) (w_and1 (t_cmp (o_lt (ru hr (by decide))) (r_var rfl (Or.inl rfl) (by decide) (by decide)) (r_callB b_len rfl T.b_len (by rfl) (r_cons (r_ix x_ix (r_var rfl (Or.inl rfl) (by decide) (by decide)) r_int (fun _ _ => rfl)) r_nil rfl) (by decide) (by decide) rfl rfl) rfl)))) (s_cons (s_seti (r_op o_fdiv (r_var rfl (Or.inl rfl) (by decide) (by decide)) (r_var rfl (Or.inl rfl) (by decide) (by decide))) (r_var rfl (Or.inl rfl) (by decide) (by decide)) r_int (fun _ => rfl) rfl rfl rfl)
    (s_one (s_ret (r_op o_mod (r_var rfl (Or.inl rfl) (by decide) (by decide)) (r_var rfl (Or.inl rfl) (by decide) (by decide)))))) s_nil)
    (s_cons (s_asg (r_op o_mod (r_op o_mul (r_op o_add (r_op o_add (r_op o_add (r_op o_mod (r_var rfl (Or.inl rfl) (by decide) (by decide)) r_int) (r_op o_mul (r_op o_mul r_int (r_var rfl (Or.inl rfl) (by decide) (by decide))) (r_var rfl (Or.inl rfl) (by decide) (by decide)))) (r_op o_mul r_int (r_var rfl (Or.inl rfl) (by decide) (by decide)))) r_int) r_int) r_int) (g_name (i := 5) sc__law_draw.nd rfl (Or.inl rfl) (Or.inl rfl)) rfl rfl rfl)
    (s_cons (s_asg (r_op o_mod (r_op o_add (r_op o_add (r_op o_mul (r_var rfl (Or.inl rfl) (by decide) (by decide)) (r_var rfl (Or.inl rfl) (by decide) (by decide))) (r_op o_mul r_int (r_var rfl (Or.inl rfl) (by decide) (by decide)))) r_int) r_int) (g_name (i := 5) sc__law_draw.nd rfl (Or.inl rfl) (Or.inl rfl)) rfl rfl rfl)
    (s_one (s_ret (r_op o_mod (r_op o_fdiv (r_op o_mod (r_op o_mul (r_var rfl (Or.inl rfl) (by decide) (by decide)) r_int) r_int) r_int) (r_var rfl (Or.inl rfl) (by decide) (by decide))))))))))))
theorem sc__law_same : FnScope ["_law_found", "_law_due"] ["_law_found", "_law_due"] (defScope s__law_same) := ⟨rfl, rfl, rfl, by decide +kernel, rfl, by decide +kernel, by decide +kernel⟩
noncomputable def b__law_same : GS :=
    (sRet (gP2 pEq (gPN pRepr (gCons (gVar 0) gNil)) (gPN pRepr (gCons (gVar 1) gNil))))
noncomputable def m__law_same : GF := gFn 2 b__law_same
set_option maxHeartbeats 0 in
theorem ok__law_same {P : Program} {w : World} {K : PySem.W.Frag} {mg : Str → Option Value} {base : Heap} (T : Txt K mg) (D : Df K mg "_law_same" s__law_same ["_law_found", "_law_due"])  : OkD P w K mg base 1 "_law_same" ["_law_found", "_law_due"] m__law_same :=
  okd D sc__law_same fun f cdv A outer s H E hg hr =>
    (s_one (s_ret (r_cmp (o_eq (ru hr (by decide))) (r_callB (b_repr hg (ru hr (by decide))) rfl T.b_repr (by rfl) (r_cons (r_var rfl (Or.inl rfl) (by decide) (by decide)) r_nil rfl) (by decide) (by decide) rfl rfl) (r_callB (b_repr hg (ru hr (by decide))) rfl T.b_repr (by rfl) (r_cons (r_var rfl (Or.inl rfl) (by decide) (by decide)) r_nil rfl) (by decide) (by decide) rfl rfl) rfl)))
theorem sc__law_series : FnScope ["_law_feed_here"] ["_law_feed_here"] (defScope s__law_series) := ⟨rfl, rfl, rfl, by decide +kernel, rfl, by decide +kernel, by decide +kernel⟩
noncomputable def b__law_series : GS :=
    (sRet (gP2 pIx (gPN pLst (gCons (gC (.dat (.str "a"))) (gCons (gC (.dat (.str "aa"))) (gCons (gC (.dat (.str "b"))) (gCons (gC (.dat (.str "none"))) (gCons (gC (.dat (.str "move"))) (gCons (gC (.dat (.str "abcdefgh"))) (gCons (gC (.dat (.str "zzzzzzzz"))) gNil)))))))) (gCall 2 m__law_draw (gCons (gVar 0) (gCons (gC (.dat (.int 7))) gNil)))))
noncomputable def m__law_series : GF := gFn 1 b__law_series
set_option maxHeartbeats 0 in
theorem ok__law_series {P : Program} {w : World} {K : PySem.W.Frag} {mg : Str → Option Value} {base : Heap} (T : Txt K mg) (D : Df K mg "_law_series" s__law_series ["_law_feed_here"]) (h__law_draw : OkD P w K mg base 1 "_law_draw" ["_law_feed_here", "_law_many"] m__law_draw) : OkD P w K mg base 2 "_law_series" ["_law_feed_here"] m__law_series :=
  okd D sc__law_series fun f cdv A outer s H E hg hr =>
    (s_one (s_ret (r_ix x_ix (r_lst (r_cons r_str (r_cons r_str (r_cons r_str (r_cons r_str (r_cons r_str (r_cons r_str (r_cons r_str r_nil rfl) rfl) rfl) rfl) rfl) rfl) rfl)) (r_callO h__law_draw rfl tk_def hg (hr.mono (by decide)) rfl (r_cons (r_var rfl (Or.inl rfl) (by decide) (by decide)) (r_cons r_int r_nil rfl) rfl) (by decide) rfl rfl) (fun _ _ => rfl))))
theorem sc__law_piece : FnScope ["_law_feed_here", "_law_first", "_law_end"] ["_law_feed_here"] (defScope s__law_piece) := ⟨rfl, rfl, rfl, by decide +kernel, rfl, by decide +kernel, by decide +kernel⟩
noncomputable def b__law_piece : GS :=
    (sSeq (sAsg (gP2 pIx (gPN pLst (gCons (gCall 2 m__law_draw (gCons (gVar 0) (gCons (gC (.dat (.int 30))) gNil))) (gCons (gCall 2 m__law_draw (gCons (gVar 0) (gCons (gP2 pPow (gC (.dat (.int 10))) (gC (.dat (.int 9)))) gNil))) (gCons (gC (.dat (.int 0))) (gCons (gC (.dat (.int 999999999))) gNil))))) (gCall 2 m__law_draw (gCons (gVar 0) (gCons (gC (.dat (.int 4))) gNil)))) (tName 1))
    (sSeq (sAsg (gP2 pIx (gPN pLst (gCons (gP2 pAdd (gVar 1) (gC (.dat (.int 1)))) (gCons (gP2 pAdd (gVar 1) (gC (.dat (.int 2)))) (gCons (gP2 pAdd (gP2 pAdd (gVar 1) (gC (.dat (.int 1)))) (gCall 2 m__law_draw (gCons (gVar 0) (gCons (gC (.dat (.int 40))) gNil)))) (gCons (gP2 pPow (gC (.dat (.int 10))) (gC (.dat (.int 9)))) gNil))))) (gCall 2 m__law_draw (gCons (gVar 0) (gCons (gC (.dat (.int 4))) gNil)))) (tName 2))
    (sRet (gPN pTup (gCons (gCall 1 m__law_series (gCons (gVar 0) gNil)) (gCons (gVar 1) (gCons (gPN pMin2 (gCons (gVar 2) (gCons (gP2 pPow (gC (.dat (.int 10))) (gC (.dat (.int 9)))) gNil))) gNil)))))))
noncomputable def m__law_piece : GF := gFn 3 b__law_piece
set_option maxHeartbeats 0 in
theorem ok__law_piece {P : Program} {w : World} {K : PySem.W.Frag} {mg : Str → Option Value} {base : Heap} (T : Txt K mg) (D : Df K mg "_law_piece" s__law_piece ["_law_feed_here"]) (h__law_draw : OkD P w K mg base 1 "_law_draw" ["_law_feed_here", "_law_many"] m__law_draw) (h__law_series : OkD P w K mg base 2 "_law_series" ["_law_feed_here"] m__law_series) : OkD P w K mg base 3 "_law_piece" ["_law_feed_here"] m__law_piece :=
  okd D sc__law_piece fun f cdv A outer s H E hg hr =>
    (s_cons (s_asg (r_ix x_ix (r_lst (r_cons (r_callO h__law_draw rfl tk_def hg (hr.mono (by decide)) rfl (r_cons (r_var rfl (Or.inl rfl) (by decide) (by decide)) (r_cons r_int r_nil rfl) rfl) (by decide) rfl rfl) (r_cons (r_callO h__law_draw rfl tk_def hg (hr.mono (by decide)) rfl (r_cons (r_var rfl (Or.inl rfl) (by decide) (by decide)) (r_cons (r_op o_pow r_int r_int) r_nil rfl) rfl) (by decide) rfl rfl) (r_cons r_int (r_cons r_int r_nil rfl) rfl) rfl) rfl)) (r_callO h__law_draw rfl tk_def hg (hr.mono (by decide)) rfl (r_cons (r_var rfl (Or.inl rfl) (by decide) (by decide)) (r_cons r_int r_nil rfl) rfl) (by decide) rfl rfl) (fun _ _ => rfl)) (g_name (i := 1) sc__law_piece.nd rfl (Or.inl rfl) (Or.inl rfl)) rfl rfl rfl)
    (s_cons (s_asg (r_ix x_ix (r_lst (r_cons (r_op o_add (r_var rfl (Or.inl rfl) (by decide) (by decide)) r_int) (r_cons (r_op o_add (r_var rfl (Or.inl rfl) (by decide) (by decide)) r_int) (r_cons (r_op o_add (r_op o_add (r_var rfl (Or.inl rfl) (by decide) (by decide)) r_int) (r_callO h__law_draw rfl tk_def hg (hr.mono (by decide)) rfl (r_cons (r_var rfl (Or.inl rfl) (by decide) (by decide)) (r_cons r_int r_nil rfl) rfl) (by decide) rfl rfl)) (r_cons (r_op o_pow r_int r_int) r_nil rfl) rfl) rfl) rfl)) (r_callO h__law_draw rfl tk_def hg (hr.mono (by decide)) rfl (r_cons (r_var rfl (Or.inl rfl) (by decide) (by decide)) (r_cons r_int r_nil rfl) rfl) (by decide) rfl rfl) (fun _ _ => rfl)) (g_name (i := 2) sc__law_piece.nd rfl (Or.inl rfl) (Or.inl rfl)) rfl rfl rfl)
    (s_one (s_ret (r_tup (r_cons (r_callO h__law_series rfl tk_def hg (hr.mono (by decide)) rfl (r_cons (r_var rfl (Or.inl rfl) (by decide) (by decide)) r_nil rfl) (by decide) rfl rfl) (r_cons (r_var rfl (Or.inl rfl) (by decide) (by decide)) (r_cons (r_callB (b_min2 rfl) rfl T.b_min (by rfl) (r_cons (r_var rfl (Or.inl rfl) (by decide) (by decide)) (r_cons (r_op o_pow r_int r_int) r_nil rfl) rfl) (by decide) (by decide) rfl rfl) r_nil rfl) rfl) rfl))))))
theorem sc__law_text : FnScope ["_law_pieces", "_law_words", "_law_series_here", "_law_first", "_law_end", "_law_word"] ["_law_pieces"] (defScope s__law_text) := ⟨rfl, rfl, rfl, by decide +kernel, rfl, by decide +kernel, by decide +kernel⟩
noncomputable def b__law_text : GS :=
    (sSeq (sAsg (gPN pLstA gNil) (tName 1))
    (sSeq (sFor (gIter (gVar 0)) (tTupT 3 (tsCons (tName 2) (tsCons (tName 3) (tsCons (tName 4) tsNil)))) (sSeq (sAsg (gP2 pAdd (gP2 pAdd (gVar 2) (gC (.dat (.str ":")))) (gPN pStr (gCons (gVar 3) gNil))) (tName 5))
    (sSeq (sIf (gP2 pGt (gVar 4) (gP2 pAdd (gVar 3) (gC (.dat (.int 1))))) (sAsg (gP2 pAdd (gP2 pAdd (gVar 5) (gC (.dat (.str "-")))) (gPN pStr (gCons (gP2 pSub (gVar 4) (gC (.dat (.int 1)))) gNil))) (tName 5)) sPass)
    (sDrop (gMt false pAppend (gVar 1) (gCons (gVar 5) gNil))))))
    (sRet (gMt true pJoin (gC (.dat (.str ","))) (gCons (gVar 1) gNil)))))
noncomputable def m__law_text : GF := gFn 6 b__law_text
set_option maxHeartbeats 0 in
theorem ok__law_text {P : Program} {w : World} {K : PySem.W.Frag} {mg : Str → Option Value} {base : Heap} (T : Txt K mg) (D : Df K mg "_law_text" s__law_text ["_law_pieces"])  : OkD P w K mg base 1 "_law_text" ["_law_pieces"] m__law_text :=
  okd D sc__law_text fun f cdv A outer s H E hg hr =>
    (s_cons (s_asg (r_lstA r_nil) (g_name (i := 1) sc__law_text.nd rfl (Or.inl rfl) (Or.inl rfl)) rfl rfl rfl)
    (s_cons (s_for (passes_of rfl) rfl (i_any (r_var rfl (Or.inl rfl) (by decide) (by decide))) (g_tup rfl (gs_cons (g_name (i := 2) sc__law_text.nd rfl (Or.inl rfl) (Or.inl rfl)) (gs_cons (g_name (i := 3) sc__law_text.nd rfl (Or.inl rfl) (Or.inl rfl)) (gs_cons (g_name (i := 4) sc__law_text.nd rfl (Or.inl rfl) (Or.inl rfl)) gs_nil rfl) rfl) rfl) rfl rfl) (s_cons (s_asg (r_op o_add (r_op o_add (r_var rfl (Or.inl rfl) (by decide) (by decide)) r_str) (r_callTy b_str rfl T.b_str (by rfl) (r_cons (r_var rfl (Or.inl rfl) (by decide) (by decide)) r_nil rfl) (by decide) (by decide) rfl rfl)) (g_name (i := 5) sc__law_text.nd rfl (Or.inl rfl) (Or.inl rfl)) rfl rfl rfl)
    (s_cons (s_if (t_cmp (o_gt (ru hr (by decide))) (r_var rfl (Or.inl rfl) (by decide) (by decide)) (r_op o_add (r_var rfl (Or.inl rfl) (by decide) (by decide)) r_int) rfl) (s_one (s_asg (r_op o_add (r_op o_add (r_var rfl (Or.inl rfl) (by decide) (by decide)) r_str) (r_callTy b_str rfl T.b_str (by rfl) (r_cons (r_op o_sub (r_var rfl (Or.inl rfl) (by decide) (by decide)) r_int) r_nil rfl) (by decide) (by decide) rfl rfl)) (g_name (i := 5) sc__law_text.nd rfl (Or.inl rfl) (Or.inl rfl)) rfl rfl rfl)) s_nil)
    (s_one (s_expr (r_mt (k := false) PySem.F.plainAttrs_list PySem.F.slot_list_append PySem.F.type_list_append m_append (r_var rfl (Or.inl rfl) (by decide) (by decide)) (r_cons (r_var rfl (Or.inl rfl) (by decide) (by decide)) r_nil rfl) rfl (by rfl) rfl rfl rfl) rfl)))) (fun _ => rfl))
    (s_one (s_ret (r_mt (k := true) PySem.F.plainAttrs_str PySem.F.slot_str_join PySem.F.type_str_join m_join r_str (r_cons (r_var rfl (Or.inl rfl) (by decide) (by decide)) r_nil rfl) rfl (by rfl) rfl rfl rfl)))))
theorem sc__law_are_runs : FnScope ["_law_pieces", "_law_one", "_law_other"] ["_law_pieces"] (defScope s__law_are_runs) := ⟨rfl, rfl, rfl, by decide +kernel, rfl, by decide +kernel, by decide +kernel⟩
noncomputable def b__law_are_runs : GS :=
    (sSeq (sFor (gZip (gCons (gVar 0) (gCons (gSl (gVar 0) (gPart (gC (.dat (.int 1)))) (gC (.dat .none))) gNil))) (tTupT 2 (tsCons (tName 1) (tsCons (tName 2) tsNil))) (sIf (gOr (gP2 pGe (gVar 1) (gVar 2)) (gAnd (gP2 pEq (gP2 pIx (gVar 1) (gC (.dat (.int 0)))) (gP2 pIx (gVar 2) (gC (.dat (.int 0))))) (gP2 pGe (gP2 pIx (gVar 1) (gC (.dat (.int 2)))) (gP2 pIx (gVar 2) (gC (.dat (.int 1))))))) (sRet (gC (.dat (.bool false)))) sPass))
    (sRet (gC (.dat (.bool true)))))
noncomputable def m__law_are_runs : GF := gFn 3 b__law_are_runs
set_option maxHeartbeats 0 in
theorem ok__law_are_runs {P : Program} {w : World} {K : PySem.W.Frag} {mg : Str → Option Value} {base : Heap} (T : Txt K mg) (D : Df K mg "_law_are_runs" s__law_are_runs ["_law_pieces"])  : OkD P w K mg base 1 "_law_are_runs" ["_law_pieces"] m__law_are_runs :=
  okd D sc__law_are_runs fun f cdv A outer s H E hg hr =>
    (s_cons (s_for (passes_of rfl) rfl (i_zip rfl T.b_zip (r_cons (r_var rfl (Or.inl rfl) (by decide) (by decide)) (r_cons (r_sl (r_var rfl (Or.inl rfl) (by decide) (by decide)) (po_of r_int) po_no) r_nil rfl) rfl) rfl rfl) (g_tup rfl (gs_cons (g_name (i := 1) sc__law_are_runs.nd rfl (Or.inl rfl) (Or.inl rfl)) (gs_cons (g_name (i := 2) sc__law_are_runs.nd rfl (Or.inl rfl) (Or.inl rfl)) gs_nil rfl) rfl) rfl rfl) (s_one (s_if (PW.pt (w_or (t_cmp (o_ge (ru hr (by decide))) (r_var rfl (Or.inl rfl) (by decide) (by decide)) (r_var rfl (Or.inl rfl) (by decide) (by decide)) rfl) (w_or1 (PW.pt (w_and (t_cmp (o_eq (ru hr (by decide))) (r_ix x_ix (r_var rfl (Or.inl rfl) (by decide) (by decide)) r_int (fun _ _ => rfl)) (r_ix x_ix (r_var rfl (Or.inl rfl) (by decide) (by decide)) r_int (fun _ _ => rfl)) rfl) (w_and1 (t_cmp (o_ge (ru hr (by decide))) (r_ix x_ix (r_var rfl (Or.inl rfl) (by decide) (by decide)) r_int (fun _ _ => rfl)) (r_ix x_ix (r_var rfl (Or.inl rfl) (by decide) (by decide)) r_int (fun _ _ => rfl)) rfl))))))) (s_one (s_ret r_bl)) s_nil)) (fun _ => rfl))
    (s_one (s_ret r_bl)))
theorem sc__law_runs : FnScope ["_law_feed_here", "_law_found", "_law_piece_here", "_law_k"] ["_law_feed_here"] (defScope s__law_runs) := ⟨rfl, rfl, rfl, by decide +kernel, rfl, by decide +kernel, by decide +kernel⟩
noncomputable def b__law_runs : GS :=
    (sSeq (sAsg (gPN pLstA gNil) (tName 1))
    (sSeq (sFor (gIter (gPN pSorted (gCons (gPN pLst (gLcA [3] (gRange1 (gCons (gP2 pIx (gPN pLst (gCons (gCall 2 m__law_draw (gCons (gVar 0) (gCons (gC (.dat (.int 6))) gNil))) (gCons (gC (.dat (.int 40))) gNil))) (gPN pInt (gCons (gP2 pEq (gCall 2 m__law_draw (gCons (gVar 0) (gCons (gC (.dat (.int 6))) gNil))) (gC (.dat (.int 0)))) gNil))) gNil)) (tName 3) gYes (gCall 1 m__law_piece (gCons (gVar 0) gNil)))) gNil))) (tName 2) (sIf (gAnd (gP2 pLt (gPN pLen (gCons (gVar 1) gNil)) (gC (.dat (.int 24)))) (gCall 1 m__law_are_runs (gCons (gP2 pAdd (gSl (gVar 1) (gPart (gP1 pNeg (gC (.dat (.int 1))))) (gC (.dat .none))) (gPN pLst (gCons (gVar 2) gNil))) gNil))) (sDrop (gMt false pAppend (gVar 1) (gCons (gVar 2) gNil))) sPass))
    (sRet (gPN pTupleOf (gCons (gVar 1) gNil)))))
noncomputable def m__law_runs : GF := gFn 4 b__law_runs
set_option maxHeartbeats 0 in
theorem ok__law_runs {P : Program} {w : World} {K : PySem.W.Frag} {mg : Str → Option Value} {base : Heap} (T : Txt K mg) (D : Df K mg "_law_runs" s__law_runs ["_law_feed_here"]) (h__law_draw : OkD P w K mg base 1 "_law_draw" ["_law_feed_here", "_law_many"] m__law_draw) (h__law_piece : OkD P w K mg base 3 "_law_piece" ["_law_feed_here"] m__law_piece) (h__law_are_runs : OkD P w K mg base 1 "_law_are_runs" ["_law_pieces"] m__law_are_runs) : OkD P w K mg base 4 "_law_runs" ["_law_feed_here"] m__law_runs :=
  okd D sc__law_runs fun f cdv A outer s H E hg hr =>
    (s_cons (s_asg (r_lstA r_nil) (g_name (i := 1) sc__law_runs.nd rfl (Or.inl rfl) (Or.inl rfl)) rfl rfl rfl)
    (s_cons (s_for (passes_of rfl) rfl (i_any (r_callB (b_sorted (ru hr (by decide))) rfl T.b_sorted (by rfl) (r_cons (r_lc (own := [("_law_k", 3)]) rfl sc__law_runs.nd (i_range1 rfl T.b_range (r_cons (r_ix x_ix (r_lst (r_cons (r_callO h__law_draw rfl tk_def hg (hr.mono (by decide)) rfl (r_cons (r_var rfl (Or.inr (Or.inl rfl)) (by decide) (by decide)) (r_cons r_int r_nil rfl) rfl) (by decide) rfl rfl) (r_cons r_int r_nil rfl) rfl)) (r_callTy b_int rfl T.b_int (by rfl) (r_cons (r_cmp (o_eq (ru hr (by decide))) (r_callO h__law_draw rfl tk_def hg (hr.mono (by decide)) rfl (r_cons (r_var rfl (Or.inr (Or.inl rfl)) (by decide) (by decide)) (r_cons r_int r_nil rfl) rfl) (by decide) rfl rfl) r_int rfl) r_nil rfl) (by decide) (by decide) rfl rfl) (fun _ _ => rfl)) r_nil rfl) rfl) (blkOk_by (N := ["_law_feed_here", "_law_found", "_law_piece_here", "_law_k"]) (sc := (defScope s__law_runs)) (by decide +kernel)) (by decide) (fun _ _ _ _ _ => (g_name (i := 3) sc__law_runs.nd rfl (Or.inl rfl) (Or.inr rfl))) (fun _ _ _ _ _ => pts0) (fun _ _ _ _ _ => (r_callO h__law_piece rfl takes_none5 hg (hr.mono (by decide)) rfl (r_cons (r_var rfl (Or.inr (Or.inl rfl)) (by decide) (by decide)) r_nil rfl) (by decide) rfl rfl)) (fun _ => rfl)) r_nil rfl) (by decide) (by decide) rfl rfl)) (g_name (i := 2) sc__law_runs.nd rfl (Or.inl rfl) (Or.inl rfl)) (s_one (s_if (PW.pt (w_and (t_cmp (o_lt (ru hr (by decide))) (r_callB b_len rfl T.b_len (by rfl) (r_cons (r_var rfl (Or.inl rfl) (by decide) (by decide)) r_nil rfl) (by decide) (by decide) rfl rfl) r_int rfl) (w_and1 (t_of (r_callO h__law_are_runs rfl tk_def hg (hr.mono (by decide)) rfl (r_cons (r_op o_add (r_sl (r_var rfl (Or.inl rfl) (by decide) (by decide)) (po_of (r_un o_neg r_int)) po_no) (r_lst (r_cons (r_var rfl (Or.inl rfl) (by decide) (by decide)) r_nil rfl))) r_nil rfl) (by decide) rfl rfl) (fun _ => rfl))))) (s_one (s_expr (r_mt (k := false) PySem.F.plainAttrs_list PySem.F.slot_list_append PySem.F.type_list_append m_append (r_var rfl (Or.inl rfl) (by decide) (by decide)) (r_cons (r_var rfl (Or.inl rfl) (by decide) (by decide)) r_nil rfl) rfl (by rfl) rfl rfl rfl) rfl)) s_nil)) (fun _ => rfl))
    (s_one (s_ret (r_callTy b_tuple rfl T.b_tuple (by rfl) (r_cons (r_var rfl (Or.inl rfl) (by decide) (by decide)) r_nil rfl) (by decide) (by decide) rfl rfl)))))
theorem sc__law_read : FnScope ["_law_reader", "_law_text_here", "e"] ["_law_reader", "_law_text_here"] (defScope s__law_read) := ⟨rfl, rfl, rfl, by decide +kernel, rfl, by decide +kernel, by decide +kernel⟩
noncomputable def b__law_read : GS :=
    (sTryR (sRet (gPN pTup (gCons (gC (.dat (.str "told"))) (gCons (gCallL 1 0 (tbOf [("read_runs", m_read_runs), ("read_row_text", m_read_row_text)]) (gCons (gVar 1) gNil)) gNil)))) 2 (tbX "NoText") [.inl "no", .inr "row", .inr "word"])
noncomputable def m__law_read : GF := gFn 3 b__law_read
set_option maxHeartbeats 0 in
theorem ok__law_read {P : Program} {w : World} {K : PySem.W.Frag} {mg : Str → Option Value} {base : Heap} (T : Txt K mg) (D : Df K mg "_law_read" s__law_read ["_law_reader", "_law_text_here"]) (h_NoText : XcD P w K mg base 1 "NoText" ["self", "row", "word"] ["row", "word"]) (h_read_runs : OkD P w K mg base 5 "read_runs" ["text"] m_read_runs) (h_read_row_text : OkD P w K mg base 4 "read_row_text" ["text"] m_read_row_text) : OkD P w K mg base 6 "_law_read" ["_law_reader", "_law_text_here"] m__law_read :=
  okd D sc__law_read fun f cdv A outer s H E hg hr =>
    (s_one (s_tryO h_NoText rfl rfl sc__law_read.nd rfl rfl rfl (by decide) tk_def (fun W pn xe tk hp => (s_one (s_ret (r_tup (r_cons r_str (r_cons (r_callL (k := 5) (tb_cons (h_read_runs.mono (by decide)) rfl (tb_cons (h_read_row_text.mono (by decide)) rfl tb_nil)) tk hg (hr.mono (by decide)) rfl (Or.inl rfl) (r_cons (r_var rfl (Or.inl rfl) (by decide) (by decide)) r_nil rfl) (by decide) (by decide) rfl rfl) r_nil rfl) rfl))))) (fun C xf hno a oe cls d pn hz hv => (XIs.con pe_str rfl (XIs.fld (pe_xf xf (hno _ (.head _)) hz hv (pe_var rfl (Or.inl rfl))) rfl (XIs.fld (pe_xf xf (hno _ (.tail _ (.head _))) hz hv (pe_var rfl (Or.inl rfl))) rfl XIs.nil))))))
theorem sc_law : FnScope ["_law_script", "_law_feed_here", "_law_lap", "_law_runs_here", "_law_text_here", "_law_row", "_law_other", "_law_name", "_law_told", "_law_turn", "_law_due", "_law_many", "_law_k"] ["_law_script"] (defScope s_law) := ⟨rfl, rfl, rfl, by decide +kernel, rfl, by decide +kernel, by decide +kernel⟩
noncomputable def b_law : GS :=
    (sSeq (sAsg (gCall 1 m__law_feed (gCons (gVar 0) gNil)) (tName 1))
    (sSeq (sFor (gRange1 (gCons (gC (.dat (.int 4))) gNil)) (tName 2) (sSeq (sAsg (gCall 1 m__law_runs (gCons (gVar 1) gNil)) (tName 3))
    (sSeq (sAsg (gIf (gP2 pGt (gPN pLen (gCons (gVar 3) gNil)) (gC (.dat (.int 0)))) (gCall 1 m__law_text (gCons (gVar 3) gNil)) (gC (.dat (.str "-")))) (tName 4))
    (sSeq (sAsg (gPN pTupleOf (gCons (gPN pLst (gLcA [12] (gRange1 (gCons (gP2 pAdd (gC (.dat (.int 1))) (gCall 2 m__law_draw (gCons (gVar 1) (gCons (gC (.dat (.int 6))) gNil)))) gNil)) (tName 12) gYes (gCall 1 m__law_piece (gCons (gVar 1) gNil)))) gNil)) (tName 5))
    (sSeq (sIf (gP2 pEq (gCall 2 m__law_draw (gCons (gVar 1) (gCons (gC (.dat (.int 3))) gNil))) (gC (.dat (.int 0)))) (sAsg (gP2 pAdd (gP2 pAdd (gSl (gVar 5) (gC (.dat .none)) (gPart (gC (.dat (.int 1))))) (gPN pTup (gCons (gPN pTup (gCons (gP2 pIx (gP2 pIx (gVar 5) (gC (.dat (.int 0)))) (gC (.dat (.int 0)))) (gCons (gP2 pIx (gP2 pIx (gVar 5) (gC (.dat (.int 0)))) (gC (.dat (.int 1)))) (gCons (gP2 pIx (gP2 pIx (gVar 5) (gC (.dat (.int 0)))) (gC (.dat (.int 2)))) gNil)))) gNil))) (gSl (gVar 5) (gPart (gC (.dat (.int 1)))) (gC (.dat .none)))) (tName 5)) sPass)
    (sSeq (sAsg (gCall 1 m__law_text (gCons (gVar 5) gNil)) (tName 6))
    (sSeq (sAsg (gPN pTup (gCons (gP2 pIx (gPN pLst (gCons (gCall 2 m__law_draw (gCons (gVar 1) (gCons (gC (.dat (.int 99))) gNil))) (gCons (gC (.dat (.int 99999))) (gCons (gC (.dat (.int 0))) gNil)))) (gCall 2 m__law_draw (gCons (gVar 1) (gCons (gC (.dat (.int 3))) gNil)))) (gCons (gP2 pIx (gPN pLst (gCons (gC (.dat (.int 0))) (gCons (gC (.dat (.int 7))) (gCons (gC (.dat (.int 999))) gNil)))) (gCall 2 m__law_draw (gCons (gVar 1) (gCons (gC (.dat (.int 3))) gNil)))) (gCons (gCall 1 m__law_series (gCons (gVar 1) gNil)) gNil)))) (tName 7))
    (sSeq (sAsg (gPN pLst (gCons (gCall 1 m_shown_runs (gCons (gVar 3) gNil)) (gCons (gCall 1 m_shown_row (gCons (gVar 5) gNil)) (gCons (gCall 1 m_shown_name (gCons (gVar 7) gNil)) gNil)))) (tName 8))
    (sSeq (sIf (gNot (gCall 2 m__law_same (gCons (gVar 8) (gCons (gPN pLst (gCons (gVar 4) (gCons (gVar 6) (gCons (gP2 pAdd (gP2 pAdd (gP2 pAdd (gP2 pAdd (gPN pStr (gCons (gP2 pIx (gVar 7) (gC (.dat (.int 0)))) gNil)) (gC (.dat (.str ".")))) (gPN pStr (gCons (gP2 pIx (gVar 7) (gC (.dat (.int 1)))) gNil))) (gC (.dat (.str ".")))) (gP2 pIx (gVar 7) (gC (.dat (.int 2))))) gNil)))) gNil)))) (sRet (gC (.dat (.bool false)))) sPass)
    (sSeq (sFor (gRange1 (gCons (gC (.dat (.int 2))) gNil)) (tName 9) (sSeq (sIf (gNot (gCall 2 m__law_same (gCons (gCall 2 m__law_read (gCons (gC (.fn "read_runs")) (gCons (gVar 4) gNil))) (gCons (gPN pTup (gCons (gC (.dat (.str "told"))) (gCons (gVar 3) gNil))) gNil)))) (sRet (gC (.dat (.bool false)))) sPass)
    (sSeq (sIf (gNot (gCall 2 m__law_same (gCons (gCall 2 m__law_read (gCons (gC (.fn "read_row_text")) (gCons (gVar 6) gNil))) (gCons (gPN pTup (gCons (gC (.dat (.str "told"))) (gCons (gVar 5) gNil))) gNil)))) (sRet (gC (.dat (.bool false)))) sPass)
    (sSeq (sAsg (gIf (gCall 1 m__law_are_runs (gCons (gVar 5) gNil)) (gPN pTup (gCons (gC (.dat (.str "told"))) (gCons (gVar 5) gNil))) (gPN pTup (gCons (gC (.dat (.str "no"))) (gCons (gC (.dat (.int 0))) (gCons (gC (.dat (.int 0))) gNil))))) (tName 10))
    (sIf (gNot (gCall 2 m__law_same (gCons (gCall 2 m__law_read (gCons (gC (.fn "read_runs")) (gCons (gVar 6) gNil))) (gCons (gVar 10) gNil)))) (sRet (gC (.dat (.bool false)))) sPass)))))
    (sSeq (sAsg (gIf (gP2 pGt (gPN pLen (gCons (gVar 3) gNil)) (gC (.dat (.int 0)))) (gPN pTup (gCons (gC (.dat (.str "told"))) (gCons (gVar 3) gNil))) (gPN pTup (gCons (gC (.dat (.str "no"))) (gCons (gC (.dat (.int 0))) (gCons (gC (.dat (.int 0))) gNil))))) (tName 10))
    (sSeq (sIf (gNot (gCall 2 m__law_same (gCons (gCall 2 m__law_read (gCons (gC (.fn "read_row_text")) (gCons (gVar 4) gNil))) (gCons (gVar 10) gNil)))) (sRet (gC (.dat (.bool false)))) sPass)
    (sIf (gOr (gP2 pNe (gCall 2 m__law_read (gCons (gC (.fn "read_runs")) (gCons (gP2 pAdd (gVar 4) (gC (.dat (.str " ")))) gNil))) (gPN pTup (gCons (gC (.dat (.str "no"))) (gCons (gC (.dat (.int 0))) (gCons (gC (.dat (.int 1))) gNil))))) (gP2 pNe (gCall 2 m__law_read (gCons (gC (.fn "read_row_text")) (gCons (gP2 pAdd (gVar 6) (gC (.dat (.str " ")))) gNil))) (gPN pTup (gCons (gC (.dat (.str "no"))) (gCons (gC (.dat (.int 0))) (gCons (gC (.dat (.int 1))) gNil)))))) (sRet (gC (.dat (.bool false)))) sPass)))))))))))))
    (sSeq (sAsg (gPN pLst (gLcA [12] (gRange1 (gCons (gP2 pAdd (gC (.dat (.int 25))) (gCall 2 m__law_draw (gCons (gVar 1) (gCons (gC (.dat (.int 36))) gNil)))) gNil)) (tName 12) gYes (gPN pTup (gCons (gCall 1 m__law_series (gCons (gVar 1) gNil)) (gCons (gP2 pMul (gC (.dat (.int 2))) (gVar 12)) (gCons (gP2 pAdd (gP2 pAdd (gP2 pMul (gC (.dat (.int 2))) (gVar 12)) (gC (.dat (.int 1)))) (gPN pInt (gCons (gP2 pEq (gVar 12) (gC (.dat (.int 59)))) gNil))) gNil)))))) (tName 11))
    (sSeq (sAsg (gPN pTupleOf (gCons (gPN pSorted (gCons (gVar 11) gNil)) gNil)) (tName 11))
    (sSeq (sAsg (gPN pLst (gCons (gCall 2 m__law_read (gCons (gC (.fn "read_runs")) (gCons (gCall 1 m__law_text (gCons (gVar 11) gNil)) gNil))) (gCons (gCall 2 m__law_read (gCons (gC (.fn "read_row_text")) (gCons (gCall 1 m__law_text (gCons (gVar 11) gNil)) gNil))) gNil))) (tName 8))
    (sRet (gCall 2 m__law_same (gCons (gVar 8) (gCons (gPN pLst (gCons (gPN pTup (gCons (gC (.dat (.str "told"))) (gCons (gVar 11) gNil))) (gCons (gPN pTup (gCons (gC (.dat (.str "told"))) (gCons (gVar 11) gNil))) gNil))) gNil)))))))))
noncomputable def m_law : GF := gFn 13 b_law
set_option maxHeartbeats 0 in
theorem ok_law {P : Program} {w : World} {K : PySem.W.Frag} {mg : Str → Option Value} {base : Heap} {f : Addr} {fd : FuncData} (F : Fun K "law" "law" s_law f fd) (T : Txt K mg) (h_shown_row : OkD P w K mg base 2 "shown_row" ["row"] m_shown_row) (h_shown_runs : OkD P w K mg base 3 "shown_runs" ["runs"] m_shown_runs) (h_shown_name : OkD P w K mg base 1 "shown_name" ["name"] m_shown_name) (h_read_runs : OkD P w K mg base 5 "read_runs" ["text"] m_read_runs) (h_read_row_text : OkD P w K mg base 4 "read_row_text" ["text"] m_read_row_text) (h__law_feed : OkD P w K mg base 1 "_law_feed" ["_law_script"] m__law_feed) (h__law_draw : OkD P w K mg base 1 "_law_draw" ["_law_feed_here", "_law_many"] m__law_draw) (h__law_same : OkD P w K mg base 1 "_law_same" ["_law_found", "_law_due"] m__law_same) (h__law_series : OkD P w K mg base 2 "_law_series" ["_law_feed_here"] m__law_series) (h__law_piece : OkD P w K mg base 3 "_law_piece" ["_law_feed_here"] m__law_piece) (h__law_text : OkD P w K mg base 1 "_law_text" ["_law_pieces"] m__law_text) (h__law_are_runs : OkD P w K mg base 1 "_law_are_runs" ["_law_pieces"] m__law_are_runs) (h__law_runs : OkD P w K mg base 4 "_law_runs" ["_law_feed_here"] m__law_runs) (h__law_read : OkD P w K mg base 6 "_law_read" ["_law_reader", "_law_text_here"] m__law_read) : FnG P w K mg base 7 f fd ["_law_script"] (spM K mg 1 m_law) :=
  fn_ok F sc_law fun cdv A outer s H E hg hr =>
    (s_cons (s_asg (r_callO h__law_feed rfl tk_def hg (hr.mono (by decide)) rfl (r_cons (r_var rfl (Or.inl rfl) (by decide) (by decide)) r_nil rfl) (by decide) rfl rfl) (g_name (i := 1) sc_law.nd rfl (Or.inr rfl) (Or.inl rfl)) rfl rfl rfl)
    (s_cons (s_for (passes_of rfl) rfl (i_range1 rfl T.b_range (r_cons r_int r_nil rfl) rfl) (g_name (i := 2) sc_law.nd rfl (Or.inl rfl) (Or.inl rfl)) (s_cons (s_asg (r_callO h__law_runs rfl tk_def hg (hr.mono (by decide)) rfl (r_cons (r_var rfl (Or.inr (Or.inl rfl)) (by decide) (by decide)) r_nil rfl) (by decide) rfl rfl) (g_name (i := 3) sc_law.nd rfl (Or.inl rfl) (Or.inl rfl)) rfl rfl rfl)
    (s_cons (s_asg (r_ifx (t_cmp (o_gt (ru hr (by decide))) (r_callB b_len rfl T.b_len (by rfl) (r_cons (r_var rfl (Or.inl rfl) (by decide) (by decide)) r_nil rfl) (by decide) (by decide) rfl rfl) r_int rfl) (r_callO h__law_text rfl tk_def hg (hr.mono (by decide)) rfl (r_cons (r_var rfl (Or.inl rfl) (by decide) (by decide)) r_nil rfl) (by decide) rfl rfl) r_str) (g_name (i := 4) sc_law.nd rfl (Or.inl rfl) (Or.inl rfl)) rfl rfl rfl)
    (s_cons (s_asg (r_callTy b_tuple rfl T.b_tuple (by rfl) (r_cons (r_lc (own := [("_law_k", 12)]) rfl sc_law.nd (i_range1 rfl T.b_range (r_cons (r_op o_add r_int (r_callO h__law_draw rfl tk_def hg (hr.mono (by decide)) rfl (r_cons (r_var rfl (Or.inr (Or.inl rfl)) (by decide) (by decide)) (r_cons r_int r_nil rfl) rfl) (by decide) rfl rfl)) r_nil rfl) rfl) (blkOk_by (N := ["_law_script", "_law_feed_here", "_law_lap", "_law_runs_here", "_law_text_here", "_law_row", "_law_other", "_law_name", "_law_told", "_law_turn", "_law_due", "_law_many", "_law_k"]) (sc := (defScope s_law)) (by decide +kernel)) (by decide) (fun _ _ _ _ _ => (g_name (i := 12) sc_law.nd rfl (Or.inl rfl) (Or.inr rfl))) (fun _ _ _ _ _ => pts0) (fun _ _ _ _ _ => (r_callO h__law_piece rfl takes_none5 hg (hr.mono (by decide)) rfl (r_cons (r_var rfl (Or.inr (Or.inl rfl)) (by decide) (by decide)) r_nil rfl) (by decide) rfl rfl)) (fun _ => rfl)) r_nil rfl) (by decide) (by decide) rfl rfl) (g_name (i := 5) sc_law.nd rfl (Or.inl rfl) (Or.inl rfl)) rfl rfl rfl)
    (s_cons (s_if (t_cmp (o_eq (ru hr (by decide))) (r_callO h__law_draw rfl tk_def hg (hr.mono (by decide)) rfl (r_cons (r_var rfl (Or.inr (Or.inl rfl)) (by decide) (by decide)) (r_cons r_int r_nil rfl) rfl) (by decide) rfl rfl) r_int rfl) (s_one (s_asg (r_op o_add (r_op o_add (r_sl (r_var rfl (Or.inl rfl) (by decide) (by decide)) po_no (po_of r_int)) (r_tup (r_cons (r_tup (r_cons (r_ix x_ix (r_ix x_ix (r_var rfl (Or.inl rfl) (by decide) (by decide)) r_int (fun _ _ => rfl)) r_int (fun _ _ => rfl)) (r_cons (r_ix x_ix (r_ix x_ix (r_var rfl (Or.inl rfl) (by decide) (by decide)) r_int (fun _ _ => rfl)) r_int (fun _ _ => rfl)) (r_cons (r_ix x_ix (r_ix x_ix (r_var rfl (Or.inl rfl) (by decide) (by decide)) r_int (fun _ _ => rfl)) r_int (fun _ _ => rfl)) r_nil rfl) rfl) rfl)) r_nil rfl))) (r_sl (r_var rfl (Or.inl rfl) (by decide) (by decide)) (po_of r_int) po_no)) (g_name (i := 5) sc_law.nd rfl (Or.inl rfl) (Or.inl rfl)) rfl rfl rfl)) s_nil)
    (s_cons (s_asg (r_callO h__law_text rfl tk_def hg (hr.mono (by decide)) rfl (r_cons (r_var rfl (Or.inl rfl) (by decide) (by decide)) r_nil rfl) (by decide) rfl rfl) (g_name (i := 6) sc_law.nd rfl (Or.inl rfl) (Or.inl rfl)) rfl rfl rfl)
    (s_cons (s_asg (r_tup (r_cons (r_ix x_ix (r_lst (r_cons (r_callO h__law_draw rfl tk_def hg (hr.mono (by decide)) rfl (r_cons (r_var rfl (Or.inr (Or.inl rfl)) (by decide) (by decide)) (r_cons r_int r_nil rfl) rfl) (by decide) rfl rfl) (r_cons r_int (r_cons r_int r_nil rfl) rfl) rfl)) (r_callO h__law_draw rfl tk_def hg (hr.mono (by decide)) rfl (r_cons (r_var rfl (Or.inr (Or.inl rfl)) (by decide) (by decide)) (r_cons r_int r_nil rfl) rfl) (by decide) rfl rfl) (fun _ _ => rfl)) (r_cons (r_ix x_ix (r_lst (r_cons r_int (r_cons r_int (r_cons r_int r_nil rfl) rfl) rfl)) (r_callO h__law_draw rfl tk_def hg (hr.mono (by decide)) rfl (r_cons (r_var rfl (Or.inr (Or.inl rfl)) (by decide) (by decide)) (r_cons r_int r_nil rfl) rfl) (by decide) rfl rfl) (fun _ _ => rfl)) (r_cons (r_callO h__law_series rfl tk_def hg (hr.mono (by decide)) rfl (r_cons (r_var rfl (Or.inr (Or.inl rfl)) (by decide) (by decide)) r_nil rfl) (by decide) rfl rfl) r_nil rfl) rfl) rfl)) (g_name (i := 7) sc_law.nd rfl (Or.inl rfl) (Or.inl rfl)) rfl rfl rfl)
    (s_cons (s_asg (r_lst (r_cons (r_callO h_shown_runs rfl tk_def hg (hr.mono (by decide)) rfl (r_cons (r_var rfl (Or.inl rfl) (by decide) (by decide)) r_nil rfl) (by decide) rfl rfl) (r_cons (r_callO h_shown_row rfl tk_def hg (hr.mono (by decide)) rfl (r_cons (r_var rfl (Or.inl rfl) (by decide) (by decide)) r_nil rfl) (by decide) rfl rfl) (r_cons (r_callO h_shown_name rfl tk_def hg (hr.mono (by decide)) rfl (r_cons (r_var rfl (Or.inl rfl) (by decide) (by decide)) r_nil rfl) (by decide) rfl rfl) r_nil rfl) rfl) rfl)) (g_name (i := 8) sc_law.nd rfl (Or.inl rfl) (Or.inl rfl)) rfl rfl rfl)
    (s_cons (s_if (t_not (t_of (r_callO h__law_same rfl tk_def hg (hr.mono (by decide)) rfl (r_cons (r_var rfl (Or.inl rfl) (by decide) (by decide)) (r_cons (r_lst (r_cons (r_var rfl (Or.inl rfl) (by decide) (by decide)) (r_cons (r_var rfl (Or.inl rfl) (by decide) (by decide)) (r_cons (r_op o_add (r_op o_add (r_op o_add (r_op o_add (r_callTy b_str rfl T.b_str (by rfl) (r_cons (r_ix x_ix (r_var rfl (Or.inl rfl) (by decide) (by decide)) r_int (fun _ _ => rfl)) r_nil rfl) (by decide) (by decide) rfl rfl) r_str) (r_callTy b_str rfl T.b_str (by rfl) (r_cons (r_ix x_ix (r_var rfl (Or.inl rfl) (by decide) (by decide)) r_int (fun _ _ => rfl)) r_nil rfl) (by decide) (by decide) rfl rfl)) r_str) (r_ix x_ix (r_var rfl (Or.inl rfl) (by decide) (by decide)) r_int (fun _ _ => rfl))) r_nil rfl) rfl) rfl)) r_nil rfl) rfl) (by decide) rfl rfl) (fun _ => rfl))) (s_one (s_ret r_bl)) s_nil)
    (s_cons (s_for (passes_of rfl) rfl (i_range1 rfl T.b_range (r_cons r_int r_nil rfl) rfl) (g_name (i := 9) sc_law.nd rfl (Or.inl rfl) (Or.inl rfl)) (s_cons (s_if (t_not (t_of (r_callO h__law_same rfl tk_def hg (hr.mono (by decide)) rfl (r_cons (r_callO h__law_read rfl tk_def hg (hr.mono (by decide)) rfl (r_cons (r_gf h_read_runs.fn rfl (by decide)) (r_cons (r_var rfl (Or.inl rfl) (by decide) (by decide)) r_nil rfl) rfl) (by decide) rfl rfl) (r_cons (r_tup (r_cons r_str (r_cons (r_var rfl (Or.inl rfl) (by decide) (by decide)) r_nil rfl) rfl)) r_nil rfl) rfl) (by decide) rfl rfl) (fun _ => rfl))) (s_one (s_ret r_bl)) s_nil)
    (s_cons (s_if (t_not (t_of (r_callO h__law_same rfl tk_def hg (hr.mono (by decide)) rfl (r_cons (r_callO h__law_read rfl tk_def hg (hr.mono (by decide)) rfl (r_cons (r_gf h_read_row_text.fn rfl (by decide)) (r_cons (r_var rfl (Or.inl rfl) (by decide) (by decide)) r_nil rfl) rfl) (by decide) rfl rfl) (r_cons (r_tup (r_cons r_str (r_cons (r_var rfl (Or.inl rfl) (by decide) (by decide)) r_nil rfl) rfl)) r_nil rfl) rfl) (by decide) rfl rfl) (fun _ => rfl))) (s_one (s_ret r_bl)) s_nil)
    (s_cons (s_asg (r_ifx (t_of (r_callO h__law_are_runs rfl tk_def hg (hr.mono (by decide)) rfl (r_cons (r_var rfl (Or.inl rfl) (by decide) (by decide)) r_nil rfl) (by decide) rfl rfl) (fun _ => rfl)) (r_tup (r_cons r_str (r_cons (r_var rfl (Or.inl rfl) (by decide) (by decide)) r_nil rfl) rfl)) (r_tup (r_cons r_str (r_cons r_int (r_cons r_int r_nil rfl) rfl) rfl))) (g_name (i := 10) sc_law.nd rfl (Or.inl rfl) (Or.inl rfl)) rfl rfl rfl)
    (s_one (s_if (t_not (t_of (r_callO h__law_same rfl tk_def hg (hr.mono (by decide)) rfl (r_cons (r_callO h__law_read rfl tk_def hg (hr.mono (by decide)) rfl (r_cons (r_gf h_read_runs.fn rfl (by decide)) (r_cons (r_var rfl (Or.inl rfl) (by decide) (by decide)) r_nil rfl) rfl) (by decide) rfl rfl) (r_cons (r_var rfl (Or.inl rfl) (by decide) (by decide)) r_nil rfl) rfl) (by decide) rfl rfl) (fun _ => rfl))) (s_one (s_ret r_bl)) s_nil))))) (fun _ => rfl))
    (s_cons (s_asg (r_ifx (t_cmp (o_gt (ru hr (by decide))) (r_callB b_len rfl T.b_len (by rfl) (r_cons (r_var rfl (Or.inl rfl) (by decide) (by decide)) r_nil rfl) (by decide) (by decide) rfl rfl) r_int rfl) (r_tup (r_cons r_str (r_cons (r_var rfl (Or.inl rfl) (by decide) (by decide)) r_nil rfl) rfl)) (r_tup (r_cons r_str (r_cons r_int (r_cons r_int r_nil rfl) rfl) rfl))) (g_name (i := 10) sc_law.nd rfl (Or.inl rfl) (Or.inl rfl)) rfl rfl rfl)
    (s_cons (s_if (t_not (t_of (r_callO h__law_same rfl tk_def hg (hr.mono (by decide)) rfl (r_cons (r_callO h__law_read rfl tk_def hg (hr.mono (by decide)) rfl (r_cons (r_gf h_read_row_text.fn rfl (by decide)) (r_cons (r_var rfl (Or.inl rfl) (by decide) (by decide)) r_nil rfl) rfl) (by decide) rfl rfl) (r_cons (r_var rfl (Or.inl rfl) (by decide) (by decide)) r_nil rfl) rfl) (by decide) rfl rfl) (fun _ => rfl))) (s_one (s_ret r_bl)) s_nil)
    (s_one (s_if (PW.pt (w_or (t_cmp (o_ne (ru hr (by decide))) (r_callO h__law_read rfl tk_def hg (hr.mono (by decide)) rfl (r_cons (r_gf h_read_runs.fn rfl (by decide)) (r_cons (r_op o_add (r_var rfl (Or.inl rfl) (by decide) (by decide)) r_str) r_nil rfl) rfl) (by decide) rfl rfl) (r_tup (r_cons r_str (r_cons r_int (r_cons r_int r_nil rfl) rfl) rfl)) rfl) (w_or1 (t_cmp (o_ne (ru hr (by decide))) (r_callO h__law_read rfl tk_def hg (hr.mono (by decide)) rfl (r_cons (r_gf h_read_row_text.fn rfl (by decide)) (r_cons (r_op o_add (r_var rfl (Or.inl rfl) (by decide) (by decide)) r_str) r_nil rfl) rfl) (by decide) rfl rfl) (r_tup (r_cons r_str (r_cons r_int (r_cons r_int r_nil rfl) rfl) rfl)) rfl)))) (s_one (s_ret r_bl)) s_nil))))))))))))) (fun _ => rfl))
    (s_cons (s_setLc (i := 11) (own := [("_law_k", 12)]) rfl sc_law.nd rfl rfl (sw_true rfl rfl rfl (by decide +kernel)) (i_range1 rfl T.b_range (r_cons (r_op o_add r_int (r_callO h__law_draw rfl tk_def hg (hr.mono (by decide)) rfl (r_cons (r_var rfl (Or.inr (Or.inl rfl)) (by decide) (by decide)) (r_cons r_int r_nil rfl) rfl) (by decide) rfl rfl)) r_nil rfl) rfl) (blkOk_by (N := ["_law_script", "_law_feed_here", "_law_lap", "_law_runs_here", "_law_text_here", "_law_row", "_law_other", "_law_name", "_law_told", "_law_turn", "_law_due", "_law_many", "_law_k"]) (sc := (defScope s_law)) (by decide +kernel)) (by decide) (fun _ _ _ _ _ => (g_name (i := 12) sc_law.nd rfl (Or.inl rfl) (Or.inr rfl))) (fun _ _ _ _ _ => pts0) (fun _ _ _ _ _ => (r_tup (r_cons (r_callO h__law_series rfl takes_none5 hg (hr.mono (by decide)) rfl (r_cons (r_var rfl (Or.inr (Or.inl rfl)) (by decide) (by decide)) r_nil rfl) (by decide) rfl rfl) (r_cons (r_op o_mul r_int (r_var rfl (Or.inl rfl) (by decide) (by decide))) (r_cons (r_op o_add (r_op o_add (r_op o_mul r_int (r_var rfl (Or.inl rfl) (by decide) (by decide))) r_int) (r_callTy b_int rfl T.b_int (by rfl) (r_cons (r_cmp (o_eq (ru hr (by decide))) (r_var rfl (Or.inl rfl) (by decide) (by decide)) r_int rfl) r_nil rfl) (by decide) (by decide) rfl rfl)) r_nil rfl) rfl) rfl))) (fun _ => rfl))
    (s_cons (s_asg (r_callTy b_tuple rfl T.b_tuple (by rfl) (r_cons (r_callB (b_sorted (ru hr (by decide))) rfl T.b_sorted (by rfl) (r_cons (r_var rfl (Or.inl rfl) (by decide) (by decide)) r_nil rfl) (by decide) (by decide) rfl rfl) r_nil rfl) (by decide) (by decide) rfl rfl) (g_name (i := 11) sc_law.nd rfl (Or.inl rfl) (Or.inl rfl)) rfl rfl rfl)
    (s_cons (s_asg (r_lst (r_cons (r_callO h__law_read rfl tk_def hg (hr.mono (by decide)) rfl (r_cons (r_gf h_read_runs.fn rfl (by decide)) (r_cons (r_callO h__law_text rfl tk_def hg (hr.mono (by decide)) rfl (r_cons (r_var rfl (Or.inl rfl) (by decide) (by decide)) r_nil rfl) (by decide) rfl rfl) r_nil rfl) rfl) (by decide) rfl rfl) (r_cons (r_callO h__law_read rfl tk_def hg (hr.mono (by decide)) rfl (r_cons (r_gf h_read_row_text.fn rfl (by decide)) (r_cons (r_callO h__law_text rfl tk_def hg (hr.mono (by decide)) rfl (r_cons (r_var rfl (Or.inl rfl) (by decide) (by decide)) r_nil rfl) (by decide) rfl rfl) r_nil rfl) rfl) (by decide) rfl rfl) r_nil rfl) rfl)) (g_name (i := 8) sc_law.nd rfl (Or.inl rfl) (Or.inl rfl)) rfl rfl rfl)
    (s_one (s_ret (r_callO h__law_same rfl tk_def hg (hr.mono (by decide)) rfl (r_cons (r_var rfl (Or.inl rfl) (by decide) (by decide)) (r_cons (r_lst (r_cons (r_tup (r_cons r_str (r_cons (r_var rfl (Or.inl rfl) (by decide) (by decide)) r_nil rfl) rfl)) (r_cons (r_tup (r_cons r_str (r_cons (r_var rfl (Or.inl rfl) (by decide) (by decide)) r_nil rfl) rfl)) r_nil rfl) rfl)) r_nil rfl) rfl) (by decide) rfl rfl))))))))
end Lw

set_option maxRecDepth 100000
set_option maxHeartbeats 4000000
namespace Lw
open PySem L2 PN
theorem p_mulM {i j : Int} {B : Bs} : pMul [.dat (.int (i % 2147483629)), .dat (.int j)] B = some (.dat (.int (i % 2147483629 * j)), B) := p_mulI (.inl ⟨by omega, by omega⟩)
theorem draw_ok (c : List Int) (m : Int) (hm : 0 < m) (hm2 : m < 1073741824) : Draws (c.map .int) 1 (fun d => ∃ i, d = .int i ∧ 0 ≤ i ∧ i < m) (fun B => m__law_draw [.ref 0, .dat (.int m)] B) := by
  intro a r B0 ha hr hB
  unfold m__law_draw
  simp -implicitDefEqProofs only [e_P2, e_k2, e_k1, e_P1, e_k0, e_lift, e_C, gVar, e_nil, e_cons, e_kc, e_kd, e_PN, e_kN, e_call, e_kCall, e_if, e_kIf_t, e_kIf_f, e_and, e_kAnd_t, e_kAnd_f, e_or, e_kOr_t, e_kOr_f, e_not, e_kNot, e_seq, e_kS_nx, e_kS_ret, e_kS_brk, e_kS_ct, e_kS_exc, e_pass, e_brk, e_ct, e_sif, e_kSIf_t, e_kSIf_f, e_asg, e_kAsg, e_kO, e_name, e_ret, e_kRet, e_kRet_x, e_drop, e_kDrop, e_set, e_kSet, e_kSet2, e_kSet3, e_kSet4, e_fn, e_kFn_ret, e_kFn_nx, e_kFn_exc, e_fnK, e_kFnK_ret, e_mt, e_kMt2, e_isi, e_kIs, e_kI, e_chain, e_kCh, e_kCh2, e_kCh3_t, e_kCh3_f, e_shut, e_kSh, e_sl, e_kSl, e_kSl2n, e_kSl2i, e_kSl3, e_part, e_kPart, List.map_cons, List.map_nil, List.length_cons, List.length_nil, List.replicate, List.cons_append, List.nil_append, List.getElem?_cons_zero, List.getElem?_cons_succ, List.set_cons_zero, List.set_cons_succ, Nat.reduceSub, Nat.reduceAdd, Nat.zero_add, if_true, if_false, reduceIte, p_ix, itemS, l_dat, l_scr, l_ref0, atI_0, atI_1, atI_2, atI_3, Option.map_some, Option.bind_some, p_gtI, p_ltI, p_geI, p_leI, p_ltS, p_eqI, p_neI, p_eqS, p_neS, p_addI, p_subI, p_negI, p_lenL, p_lenT, p_intB, v_dat, l_tup, a_tup, p_isN, p_notN, set_feed1, set_feed2, p_pow9, p_pow12, p_pow18, e_iter, e_kIter_t, e_kIter_l, e_kIter_s, e_r1, e_zip, e_kZip, zip2_t, zip2_l, e_for, e_kFor, e_lc, e_try, e_kTry_ret, e_raise, e_kRaise, e_callL, ts_nil, ts_cons, e_kMtS, gYes, x_k2, x_k1, x_kc, x_kd, x_kN, x_kCall, x_kIf, x_kSIf, x_kAsg, x_kDrop, Bool.false_eq_true, Bool.not_true, Bool.not_false, tup_2, tup_3, tup_4, p_tup0, p_lst0, p_tup1, p_lst1, p_tup2, p_lst2, p_tup3, p_lst3, p_tup4, p_lst4, p_tup5, p_lst5, p_tup6, p_lst6, p_tup7, p_lst7, p_tup8, p_lst8]
  unfold b__law_draw
  simp -implicitDefEqProofs only [e_P2, e_k2, e_k1, e_P1, e_k0, e_lift, e_C, gVar, e_nil, e_cons, e_kc, e_kd, e_PN, e_kN, e_call, e_kCall, e_if, e_kIf_t, e_kIf_f, e_and, e_kAnd_t, e_kAnd_f, e_or, e_kOr_t, e_kOr_f, e_not, e_kNot, e_seq, e_kS_nx, e_kS_ret, e_kS_brk, e_kS_ct, e_kS_exc, e_pass, e_brk, e_ct, e_sif, e_kSIf_t, e_kSIf_f, e_asg, e_kAsg, e_kO, e_name, e_ret, e_kRet, e_kRet_x, e_drop, e_kDrop, e_set, e_kSet, e_kSet2, e_kSet3, e_kSet4, e_fn, e_kFn_ret, e_kFn_nx, e_kFn_exc, e_fnK, e_kFnK_ret, e_mt, e_kMt2, e_isi, e_kIs, e_kI, e_chain, e_kCh, e_kCh2, e_kCh3_t, e_kCh3_f, e_shut, e_kSh, e_sl, e_kSl, e_kSl2n, e_kSl2i, e_kSl3, e_part, e_kPart, List.map_cons, List.map_nil, List.length_cons, List.length_nil, List.replicate, List.cons_append, List.nil_append, List.getElem?_cons_zero, List.getElem?_cons_succ, List.set_cons_zero, List.set_cons_succ, Nat.reduceSub, Nat.reduceAdd, Nat.zero_add, if_true, if_false, reduceIte, p_ix, itemS, l_dat, l_scr, l_ref0, atI_0, atI_1, atI_2, atI_3, Option.map_some, Option.bind_some, p_gtI, p_ltI, p_geI, p_leI, p_ltS, p_eqI, p_neI, p_eqS, p_neS, p_addI, p_subI, p_negI, p_lenL, p_lenT, p_intB, v_dat, l_tup, a_tup, p_isN, p_notN, set_feed1, set_feed2, p_pow9, p_pow12, p_pow18, e_iter, e_kIter_t, e_kIter_l, e_kIter_s, e_r1, e_zip, e_kZip, zip2_t, zip2_l, e_for, e_kFor, e_lc, e_try, e_kTry_ret, e_raise, e_kRaise, e_callL, ts_nil, ts_cons, e_kMtS, gYes, x_k2, x_k1, x_kc, x_kd, x_kN, x_kCall, x_kIf, x_kSIf, x_kAsg, x_kDrop, Bool.false_eq_true, Bool.not_true, Bool.not_false, tup_2, tup_3, tup_4, p_tup0, p_lst0, p_tup1, p_lst1, p_tup2, p_lst2, p_tup3, p_lst3, p_tup4, p_lst4, p_tup5, p_lst5, p_tup6, p_lst6, p_tup7, p_lst7, p_tup8, p_lst8]
  by_cases q : 0 < r
  · rw [decide_eq_true q]
    simp -implicitDefEqProofs only [e_P2, e_k2, e_k1, e_P1, e_k0, e_lift, e_C, gVar, e_nil, e_cons, e_kc, e_kd, e_PN, e_kN, e_call, e_kCall, e_if, e_kIf_t, e_kIf_f, e_and, e_kAnd_t, e_kAnd_f, e_or, e_kOr_t, e_kOr_f, e_not, e_kNot, e_seq, e_kS_nx, e_kS_ret, e_kS_brk, e_kS_ct, e_kS_exc, e_pass, e_brk, e_ct, e_sif, e_kSIf_t, e_kSIf_f, e_asg, e_kAsg, e_kO, e_name, e_ret, e_kRet, e_kRet_x, e_drop, e_kDrop, e_set, e_kSet, e_kSet2, e_kSet3, e_kSet4, e_fn, e_kFn_ret, e_kFn_nx, e_kFn_exc, e_fnK, e_kFnK_ret, e_mt, e_kMt2, e_isi, e_kIs, e_kI, e_chain, e_kCh, e_kCh2, e_kCh3_t, e_kCh3_f, e_shut, e_kSh, e_sl, e_kSl, e_kSl2n, e_kSl2i, e_kSl3, e_part, e_kPart, List.map_cons, List.map_nil, List.length_cons, List.length_nil, List.replicate, List.cons_append, List.nil_append, List.getElem?_cons_zero, List.getElem?_cons_succ, List.set_cons_zero, List.set_cons_succ, Nat.reduceSub, Nat.reduceAdd, Nat.zero_add, if_true, if_false, reduceIte, p_ix, itemS, l_dat, l_scr, l_ref0, atI_0, atI_1, atI_2, atI_3, Option.map_some, Option.bind_some, p_gtI, p_ltI, p_geI, p_leI, p_ltS, p_eqI, p_neI, p_eqS, p_neS, p_addI, p_subI, p_negI, p_lenL, p_lenT, p_intB, v_dat, l_tup, a_tup, p_isN, p_notN, set_feed1, set_feed2, p_pow9, p_pow12, p_pow18, e_iter, e_kIter_t, e_kIter_l, e_kIter_s, e_r1, e_zip, e_kZip, zip2_t, zip2_l, e_for, e_kFor, e_lc, e_try, e_kTry_ret, e_raise, e_kRaise, e_callL, ts_nil, ts_cons, e_kMtS, gYes, x_k2, x_k1, x_kc, x_kd, x_kN, x_kCall, x_kIf, x_kSIf, x_kAsg, x_kDrop, Bool.false_eq_true, Bool.not_true, Bool.not_false, tup_2, tup_3, tup_4, p_tup0, p_lst0, p_tup1, p_lst1, p_tup2, p_lst2, p_tup3, p_lst3, p_tup4, p_lst4, p_tup5, p_lst5, p_tup6, p_lst6, p_tup7, p_lst7, p_tup8, p_lst8, p_modI hm, p_fdivI hm hm2]
    exact ⟨_, a, r / m, end_feed hB _, Nat.le_succ a, Int.ediv_nonneg hr (Int.le_of_lt hm), _, rfl, Int.emod_nonneg _ (by omega), Int.emod_lt_of_pos _ hm⟩
  · rw [decide_eq_false q]
    simp -implicitDefEqProofs only [e_P2, e_k2, e_k1, e_P1, e_k0, e_lift, e_C, gVar, e_nil, e_cons, e_kc, e_kd, e_PN, e_kN, e_call, e_kCall, e_if, e_kIf_t, e_kIf_f, e_and, e_kAnd_t, e_kAnd_f, e_or, e_kOr_t, e_kOr_f, e_not, e_kNot, e_seq, e_kS_nx, e_kS_ret, e_kS_brk, e_kS_ct, e_kS_exc, e_pass, e_brk, e_ct, e_sif, e_kSIf_t, e_kSIf_f, e_asg, e_kAsg, e_kO, e_name, e_ret, e_kRet, e_kRet_x, e_drop, e_kDrop, e_set, e_kSet, e_kSet2, e_kSet3, e_kSet4, e_fn, e_kFn_ret, e_kFn_nx, e_kFn_exc, e_fnK, e_kFnK_ret, e_mt, e_kMt2, e_isi, e_kIs, e_kI, e_chain, e_kCh, e_kCh2, e_kCh3_t, e_kCh3_f, e_shut, e_kSh, e_sl, e_kSl, e_kSl2n, e_kSl2i, e_kSl3, e_part, e_kPart, List.map_cons, List.map_nil, List.length_cons, List.length_nil, List.replicate, List.cons_append, List.nil_append, List.getElem?_cons_zero, List.getElem?_cons_succ, List.set_cons_zero, List.set_cons_succ, Nat.reduceSub, Nat.reduceAdd, Nat.zero_add, if_true, if_false, reduceIte, p_ix, itemS, l_dat, l_scr, l_ref0, atI_0, atI_1, atI_2, atI_3, Option.map_some, Option.bind_some, p_gtI, p_ltI, p_geI, p_leI, p_ltS, p_eqI, p_neI, p_eqS, p_neS, p_addI, p_subI, p_negI, p_lenL, p_lenT, p_intB, v_dat, l_tup, a_tup, p_isN, p_notN, set_feed1, set_feed2, p_pow9, p_pow12, p_pow18, e_iter, e_kIter_t, e_kIter_l, e_kIter_s, e_r1, e_zip, e_kZip, zip2_t, zip2_l, e_for, e_kFor, e_lc, e_try, e_kTry_ret, e_raise, e_kRaise, e_callL, ts_nil, ts_cons, e_kMtS, gYes, x_k2, x_k1, x_kc, x_kd, x_kN, x_kCall, x_kIf, x_kSIf, x_kAsg, x_kDrop, Bool.false_eq_true, Bool.not_true, Bool.not_false, tup_2, tup_3, tup_4, p_tup0, p_lst0, p_tup1, p_lst1, p_tup2, p_lst2, p_tup3, p_lst3, p_tup4, p_lst4, p_tup5, p_lst5, p_tup6, p_lst6, p_tup7, p_lst7, p_tup8, p_lst8]
    obtain ⟨x, e⟩ : ∃ x : Int, Ev.kIf (Re.ok (S.dat (PyData.bool (decide (0 < ((List.map PyData.int c).length : Int))))) (fcell (List.map PyData.int c) (a + 1) r :: B0)) (gP2 pIx (gP2 pIx (gVar 0) (gC (S.dat (PyData.int 0)))) (gP2 pMod (gVar 3) (gPN pLen (PN.gCons (gP2 pIx (gVar 0) (gC (S.dat (PyData.int 0)))) PN.gNil)))) (gC (S.dat (PyData.int 0))) [some (S.ref 0), some (S.dat (PyData.int m)), none, some (S.dat (PyData.int (a : Int))), none, none] = .ok (.dat (.int x)) (fcell (List.map PyData.int c) (a + 1) r :: B0) := by
      by_cases hc : 0 < ((List.map PyData.int c).length : Int)
      · rw [decide_eq_true hc]
        obtain ⟨x, e⟩ := atI_int (c := c) (i := (a : Int) % ((List.map PyData.int c).length : Int)) (Int.emod_nonneg _ (by omega)) (by have := Int.emod_lt_of_pos (a : Int) hc; rw [List.length_map] at this ⊢; exact this)
        exact ⟨x, by simp -implicitDefEqProofs only [e_P2, e_k2, e_k1, e_P1, e_k0, e_lift, e_C, gVar, e_nil, e_cons, e_kc, e_kd, e_PN, e_kN, e_call, e_kCall, e_if, e_kIf_t, e_kIf_f, e_and, e_kAnd_t, e_kAnd_f, e_or, e_kOr_t, e_kOr_f, e_not, e_kNot, e_seq, e_kS_nx, e_kS_ret, e_kS_brk, e_kS_ct, e_kS_exc, e_pass, e_brk, e_ct, e_sif, e_kSIf_t, e_kSIf_f, e_asg, e_kAsg, e_kO, e_name, e_ret, e_kRet, e_kRet_x, e_drop, e_kDrop, e_set, e_kSet, e_kSet2, e_kSet3, e_kSet4, e_fn, e_kFn_ret, e_kFn_nx, e_kFn_exc, e_fnK, e_kFnK_ret, e_mt, e_kMt2, e_isi, e_kIs, e_kI, e_chain, e_kCh, e_kCh2, e_kCh3_t, e_kCh3_f, e_shut, e_kSh, e_sl, e_kSl, e_kSl2n, e_kSl2i, e_kSl3, e_part, e_kPart, List.map_cons, List.map_nil, List.length_cons, List.length_nil, List.replicate, List.cons_append, List.nil_append, List.getElem?_cons_zero, List.getElem?_cons_succ, List.set_cons_zero, List.set_cons_succ, Nat.reduceSub, Nat.reduceAdd, Nat.zero_add, if_true, if_false, reduceIte, p_ix, itemS, l_dat, l_scr, l_ref0, atI_0, atI_1, atI_2, atI_3, Option.map_some, Option.bind_some, p_gtI, p_ltI, p_geI, p_leI, p_ltS, p_eqI, p_neI, p_eqS, p_neS, p_addI, p_subI, p_negI, p_lenL, p_lenT, p_intB, v_dat, l_tup, a_tup, p_isN, p_notN, set_feed1, set_feed2, p_pow9, p_pow12, p_pow18, e_iter, e_kIter_t, e_kIter_l, e_kIter_s, e_r1, e_zip, e_kZip, zip2_t, zip2_l, e_for, e_kFor, e_lc, e_try, e_kTry_ret, e_raise, e_kRaise, e_callL, ts_nil, ts_cons, e_kMtS, gYes, x_k2, x_k1, x_kc, x_kd, x_kN, x_kCall, x_kIf, x_kSIf, x_kAsg, x_kDrop, Bool.false_eq_true, Bool.not_true, Bool.not_false, tup_2, tup_3, tup_4, p_tup0, p_lst0, p_tup1, p_lst1, p_tup2, p_lst2, p_tup3, p_lst3, p_tup4, p_lst4, p_tup5, p_lst5, p_tup6, p_lst6, p_tup7, p_lst7, p_tup8, p_lst8, p_modI hc, e]⟩
      · rw [decide_eq_false hc]
        exact ⟨0, by simp -implicitDefEqProofs only [e_P2, e_k2, e_k1, e_P1, e_k0, e_lift, e_C, gVar, e_nil, e_cons, e_kc, e_kd, e_PN, e_kN, e_call, e_kCall, e_if, e_kIf_t, e_kIf_f, e_and, e_kAnd_t, e_kAnd_f, e_or, e_kOr_t, e_kOr_f, e_not, e_kNot, e_seq, e_kS_nx, e_kS_ret, e_kS_brk, e_kS_ct, e_kS_exc, e_pass, e_brk, e_ct, e_sif, e_kSIf_t, e_kSIf_f, e_asg, e_kAsg, e_kO, e_name, e_ret, e_kRet, e_kRet_x, e_drop, e_kDrop, e_set, e_kSet, e_kSet2, e_kSet3, e_kSet4, e_fn, e_kFn_ret, e_kFn_nx, e_kFn_exc, e_fnK, e_kFnK_ret, e_mt, e_kMt2, e_isi, e_kIs, e_kI, e_chain, e_kCh, e_kCh2, e_kCh3_t, e_kCh3_f, e_shut, e_kSh, e_sl, e_kSl, e_kSl2n, e_kSl2i, e_kSl3, e_part, e_kPart, List.map_cons, List.map_nil, List.length_cons, List.length_nil, List.replicate, List.cons_append, List.nil_append, List.getElem?_cons_zero, List.getElem?_cons_succ, List.set_cons_zero, List.set_cons_succ, Nat.reduceSub, Nat.reduceAdd, Nat.zero_add, if_true, if_false, reduceIte, p_ix, itemS, l_dat, l_scr, l_ref0, atI_0, atI_1, atI_2, atI_3, Option.map_some, Option.bind_some, p_gtI, p_ltI, p_geI, p_leI, p_ltS, p_eqI, p_neI, p_eqS, p_neS, p_addI, p_subI, p_negI, p_lenL, p_lenT, p_intB, v_dat, l_tup, a_tup, p_isN, p_notN, set_feed1, set_feed2, p_pow9, p_pow12, p_pow18, e_iter, e_kIter_t, e_kIter_l, e_kIter_s, e_r1, e_zip, e_kZip, zip2_t, zip2_l, e_for, e_kFor, e_lc, e_try, e_kTry_ret, e_raise, e_kRaise, e_callL, ts_nil, ts_cons, e_kMtS, gYes, x_k2, x_k1, x_kc, x_kd, x_kN, x_kCall, x_kIf, x_kSIf, x_kAsg, x_kDrop, Bool.false_eq_true, Bool.not_true, Bool.not_false, tup_2, tup_3, tup_4, p_tup0, p_lst0, p_tup1, p_lst1, p_tup2, p_lst2, p_tup3, p_lst3, p_tup4, p_lst4, p_tup5, p_lst5, p_tup6, p_lst6, p_tup7, p_lst7, p_tup8, p_lst8]⟩
    rw [e]
    simp -implicitDefEqProofs only [e_P2, e_k2, e_k1, e_P1, e_k0, e_lift, e_C, gVar, e_nil, e_cons, e_kc, e_kd, e_PN, e_kN, e_call, e_kCall, e_if, e_kIf_t, e_kIf_f, e_and, e_kAnd_t, e_kAnd_f, e_or, e_kOr_t, e_kOr_f, e_not, e_kNot, e_seq, e_kS_nx, e_kS_ret, e_kS_brk, e_kS_ct, e_kS_exc, e_pass, e_brk, e_ct, e_sif, e_kSIf_t, e_kSIf_f, e_asg, e_kAsg, e_kO, e_name, e_ret, e_kRet, e_kRet_x, e_drop, e_kDrop, e_set, e_kSet, e_kSet2, e_kSet3, e_kSet4, e_fn, e_kFn_ret, e_kFn_nx, e_kFn_exc, e_fnK, e_kFnK_ret, e_mt, e_kMt2, e_isi, e_kIs, e_kI, e_chain, e_kCh, e_kCh2, e_kCh3_t, e_kCh3_f, e_shut, e_kSh, e_sl, e_kSl, e_kSl2n, e_kSl2i, e_kSl3, e_part, e_kPart, List.map_cons, List.map_nil, List.length_cons, List.length_nil, List.replicate, List.cons_append, List.nil_append, List.getElem?_cons_zero, List.getElem?_cons_succ, List.set_cons_zero, List.set_cons_succ, Nat.reduceSub, Nat.reduceAdd, Nat.zero_add, if_true, if_false, reduceIte, p_ix, itemS, l_dat, l_scr, l_ref0, atI_0, atI_1, atI_2, atI_3, Option.map_some, Option.bind_some, p_gtI, p_ltI, p_geI, p_leI, p_ltS, p_eqI, p_neI, p_eqS, p_neS, p_addI, p_subI, p_negI, p_lenL, p_lenT, p_intB, v_dat, l_tup, a_tup, p_isN, p_notN, set_feed1, set_feed2, p_pow9, p_pow12, p_pow18, e_iter, e_kIter_t, e_kIter_l, e_kIter_s, e_r1, e_zip, e_kZip, zip2_t, zip2_l, e_for, e_kFor, e_lc, e_try, e_kTry_ret, e_raise, e_kRaise, e_callL, ts_nil, ts_cons, e_kMtS, gYes, x_k2, x_k1, x_kc, x_kd, x_kN, x_kCall, x_kIf, x_kSIf, x_kAsg, x_kDrop, Bool.false_eq_true, Bool.not_true, Bool.not_false, tup_2, tup_3, tup_4, p_tup0, p_lst0, p_tup1, p_lst1, p_tup2, p_lst2, p_tup3, p_lst3, p_tup4, p_lst4, p_tup5, p_lst5, p_tup6, p_lst6, p_tup7, p_lst7, p_tup8, p_lst8]
    by_cases h1 : (1000000000000000000 : Int) ≤ x
    · rw [decide_eq_true h1]
      simp -implicitDefEqProofs only [e_P2, e_k2, e_k1, e_P1, e_k0, e_lift, e_C, gVar, e_nil, e_cons, e_kc, e_kd, e_PN, e_kN, e_call, e_kCall, e_if, e_kIf_t, e_kIf_f, e_and, e_kAnd_t, e_kAnd_f, e_or, e_kOr_t, e_kOr_f, e_not, e_kNot, e_seq, e_kS_nx, e_kS_ret, e_kS_brk, e_kS_ct, e_kS_exc, e_pass, e_brk, e_ct, e_sif, e_kSIf_t, e_kSIf_f, e_asg, e_kAsg, e_kO, e_name, e_ret, e_kRet, e_kRet_x, e_drop, e_kDrop, e_set, e_kSet, e_kSet2, e_kSet3, e_kSet4, e_fn, e_kFn_ret, e_kFn_nx, e_kFn_exc, e_fnK, e_kFnK_ret, e_mt, e_kMt2, e_isi, e_kIs, e_kI, e_chain, e_kCh, e_kCh2, e_kCh3_t, e_kCh3_f, e_shut, e_kSh, e_sl, e_kSl, e_kSl2n, e_kSl2i, e_kSl3, e_part, e_kPart, List.map_cons, List.map_nil, List.length_cons, List.length_nil, List.replicate, List.cons_append, List.nil_append, List.getElem?_cons_zero, List.getElem?_cons_succ, List.set_cons_zero, List.set_cons_succ, Nat.reduceSub, Nat.reduceAdd, Nat.zero_add, if_true, if_false, reduceIte, p_ix, itemS, l_dat, l_scr, l_ref0, atI_0, atI_1, atI_2, atI_3, Option.map_some, Option.bind_some, p_gtI, p_ltI, p_geI, p_leI, p_ltS, p_eqI, p_neI, p_eqS, p_neS, p_addI, p_subI, p_negI, p_lenL, p_lenT, p_intB, v_dat, l_tup, a_tup, p_isN, p_notN, set_feed1, set_feed2, p_pow9, p_pow12, p_pow18, e_iter, e_kIter_t, e_kIter_l, e_kIter_s, e_r1, e_zip, e_kZip, zip2_t, zip2_l, e_for, e_kFor, e_lc, e_try, e_kTry_ret, e_raise, e_kRaise, e_callL, ts_nil, ts_cons, e_kMtS, gYes, x_k2, x_k1, x_kc, x_kd, x_kN, x_kCall, x_kIf, x_kSIf, x_kAsg, x_kDrop, Bool.false_eq_true, Bool.not_true, Bool.not_false, tup_2, tup_3, tup_4, p_tup0, p_lst0, p_tup1, p_lst1, p_tup2, p_lst2, p_tup3, p_lst3, p_tup4, p_lst4, p_tup5, p_lst5, p_tup6, p_lst6, p_tup7, p_lst7, p_tup8, p_lst8]
      by_cases h2 : (a : Int) < ((List.map PyData.int c).length : Int)
      · rw [decide_eq_true h2]
        simp -implicitDefEqProofs only [e_P2, e_k2, e_k1, e_P1, e_k0, e_lift, e_C, gVar, e_nil, e_cons, e_kc, e_kd, e_PN, e_kN, e_call, e_kCall, e_if, e_kIf_t, e_kIf_f, e_and, e_kAnd_t, e_kAnd_f, e_or, e_kOr_t, e_kOr_f, e_not, e_kNot, e_seq, e_kS_nx, e_kS_ret, e_kS_brk, e_kS_ct, e_kS_exc, e_pass, e_brk, e_ct, e_sif, e_kSIf_t, e_kSIf_f, e_asg, e_kAsg, e_kO, e_name, e_ret, e_kRet, e_kRet_x, e_drop, e_kDrop, e_set, e_kSet, e_kSet2, e_kSet3, e_kSet4, e_fn, e_kFn_ret, e_kFn_nx, e_kFn_exc, e_fnK, e_kFnK_ret, e_mt, e_kMt2, e_isi, e_kIs, e_kI, e_chain, e_kCh, e_kCh2, e_kCh3_t, e_kCh3_f, e_shut, e_kSh, e_sl, e_kSl, e_kSl2n, e_kSl2i, e_kSl3, e_part, e_kPart, List.map_cons, List.map_nil, List.length_cons, List.length_nil, List.replicate, List.cons_append, List.nil_append, List.getElem?_cons_zero, List.getElem?_cons_succ, List.set_cons_zero, List.set_cons_succ, Nat.reduceSub, Nat.reduceAdd, Nat.zero_add, if_true, if_false, reduceIte, p_ix, itemS, l_dat, l_scr, l_ref0, atI_0, atI_1, atI_2, atI_3, Option.map_some, Option.bind_some, p_gtI, p_ltI, p_geI, p_leI, p_ltS, p_eqI, p_neI, p_eqS, p_neS, p_addI, p_subI, p_negI, p_lenL, p_lenT, p_intB, v_dat, l_tup, a_tup, p_isN, p_notN, set_feed1, set_feed2, p_pow9, p_pow12, p_pow18, e_iter, e_kIter_t, e_kIter_l, e_kIter_s, e_r1, e_zip, e_kZip, zip2_t, zip2_l, e_for, e_kFor, e_lc, e_try, e_kTry_ret, e_raise, e_kRaise, e_callL, ts_nil, ts_cons, e_kMtS, gYes, x_k2, x_k1, x_kc, x_kd, x_kN, x_kCall, x_kIf, x_kSIf, x_kAsg, x_kDrop, Bool.false_eq_true, Bool.not_true, Bool.not_false, tup_2, tup_3, tup_4, p_tup0, p_lst0, p_tup1, p_lst1, p_tup2, p_lst2, p_tup3, p_lst3, p_tup4, p_lst4, p_tup5, p_lst5, p_tup6, p_lst6, p_tup7, p_lst7, p_tup8, p_lst8, p_modI hm, p_fdivI hm hm2]
        exact ⟨_, a + 1, x / m, end_feed hB _, Nat.le_refl _, Int.ediv_nonneg (by omega) (Int.le_of_lt hm), _, rfl, Int.emod_nonneg _ (by omega), Int.emod_lt_of_pos _ hm⟩
      · rw [decide_eq_false h2]
        simp -implicitDefEqProofs only [e_P2, e_k2, e_k1, e_P1, e_k0, e_lift, e_C, gVar, e_nil, e_cons, e_kc, e_kd, e_PN, e_kN, e_call, e_kCall, e_if, e_kIf_t, e_kIf_f, e_and, e_kAnd_t, e_kAnd_f, e_or, e_kOr_t, e_kOr_f, e_not, e_kNot, e_seq, e_kS_nx, e_kS_ret, e_kS_brk, e_kS_ct, e_kS_exc, e_pass, e_brk, e_ct, e_sif, e_kSIf_t, e_kSIf_f, e_asg, e_kAsg, e_kO, e_name, e_ret, e_kRet, e_kRet_x, e_drop, e_kDrop, e_set, e_kSet, e_kSet2, e_kSet3, e_kSet4, e_fn, e_kFn_ret, e_kFn_nx, e_kFn_exc, e_fnK, e_kFnK_ret, e_mt, e_kMt2, e_isi, e_kIs, e_kI, e_chain, e_kCh, e_kCh2, e_kCh3_t, e_kCh3_f, e_shut, e_kSh, e_sl, e_kSl, e_kSl2n, e_kSl2i, e_kSl3, e_part, e_kPart, List.map_cons, List.map_nil, List.length_cons, List.length_nil, List.replicate, List.cons_append, List.nil_append, List.getElem?_cons_zero, List.getElem?_cons_succ, List.set_cons_zero, List.set_cons_succ, Nat.reduceSub, Nat.reduceAdd, Nat.zero_add, if_true, if_false, reduceIte, p_ix, itemS, l_dat, l_scr, l_ref0, atI_0, atI_1, atI_2, atI_3, Option.map_some, Option.bind_some, p_gtI, p_ltI, p_geI, p_leI, p_ltS, p_eqI, p_neI, p_eqS, p_neS, p_addI, p_subI, p_negI, p_lenL, p_lenT, p_intB, v_dat, l_tup, a_tup, p_isN, p_notN, set_feed1, set_feed2, p_pow9, p_pow12, p_pow18, e_iter, e_kIter_t, e_kIter_l, e_kIter_s, e_r1, e_zip, e_kZip, zip2_t, zip2_l, e_for, e_kFor, e_lc, e_try, e_kTry_ret, e_raise, e_kRaise, e_callL, ts_nil, ts_cons, e_kMtS, gYes, x_k2, x_k1, x_kc, x_kd, x_kN, x_kCall, x_kIf, x_kSIf, x_kAsg, x_kDrop, Bool.false_eq_true, Bool.not_true, Bool.not_false, tup_2, tup_3, tup_4, p_tup0, p_lst0, p_tup1, p_lst1, p_tup2, p_lst2, p_tup3, p_lst3, p_tup4, p_lst4, p_tup5, p_lst5, p_tup6, p_lst6, p_tup7, p_lst7, p_tup8, p_lst8, p_modI (i := x) (j := 1000003) (by decide), p_mulI (i := 53) (.inl ⟨by decide, by decide⟩), p_mulI (j := (a : Int)) (.inr ⟨by omega, by omega⟩), p_mulI (i := 29) (.inl ⟨by decide, by decide⟩), p_mulI (j := 40009) (.inr ⟨by decide, by decide⟩), p_modI (j := 2147483629) (by decide), p_mulI (i := 38317) (.inl ⟨by decide, by decide⟩), p_modI (j := 2147483587) (by decide), p_mulI (j := 48271) (.inr ⟨by decide, by decide⟩), p_modI (j := 2147483563) (by decide), p_fdivI (j := 7) (by decide) (by decide), p_modI hm, p_mulM]
        exact ⟨_, a + 1, r, end_feed hB _, Nat.le_refl _, hr, _, rfl, Int.emod_nonneg _ (by omega), Int.emod_lt_of_pos _ hm⟩
    · rw [decide_eq_false h1]
      simp -implicitDefEqProofs only [e_P2, e_k2, e_k1, e_P1, e_k0, e_lift, e_C, gVar, e_nil, e_cons, e_kc, e_kd, e_PN, e_kN, e_call, e_kCall, e_if, e_kIf_t, e_kIf_f, e_and, e_kAnd_t, e_kAnd_f, e_or, e_kOr_t, e_kOr_f, e_not, e_kNot, e_seq, e_kS_nx, e_kS_ret, e_kS_brk, e_kS_ct, e_kS_exc, e_pass, e_brk, e_ct, e_sif, e_kSIf_t, e_kSIf_f, e_asg, e_kAsg, e_kO, e_name, e_ret, e_kRet, e_kRet_x, e_drop, e_kDrop, e_set, e_kSet, e_kSet2, e_kSet3, e_kSet4, e_fn, e_kFn_ret, e_kFn_nx, e_kFn_exc, e_fnK, e_kFnK_ret, e_mt, e_kMt2, e_isi, e_kIs, e_kI, e_chain, e_kCh, e_kCh2, e_kCh3_t, e_kCh3_f, e_shut, e_kSh, e_sl, e_kSl, e_kSl2n, e_kSl2i, e_kSl3, e_part, e_kPart, List.map_cons, List.map_nil, List.length_cons, List.length_nil, List.replicate, List.cons_append, List.nil_append, List.getElem?_cons_zero, List.getElem?_cons_succ, List.set_cons_zero, List.set_cons_succ, Nat.reduceSub, Nat.reduceAdd, Nat.zero_add, if_true, if_false, reduceIte, p_ix, itemS, l_dat, l_scr, l_ref0, atI_0, atI_1, atI_2, atI_3, Option.map_some, Option.bind_some, p_gtI, p_ltI, p_geI, p_leI, p_ltS, p_eqI, p_neI, p_eqS, p_neS, p_addI, p_subI, p_negI, p_lenL, p_lenT, p_intB, v_dat, l_tup, a_tup, p_isN, p_notN, set_feed1, set_feed2, p_pow9, p_pow12, p_pow18, e_iter, e_kIter_t, e_kIter_l, e_kIter_s, e_r1, e_zip, e_kZip, zip2_t, zip2_l, e_for, e_kFor, e_lc, e_try, e_kTry_ret, e_raise, e_kRaise, e_callL, ts_nil, ts_cons, e_kMtS, gYes, x_k2, x_k1, x_kc, x_kd, x_kN, x_kCall, x_kIf, x_kSIf, x_kAsg, x_kDrop, Bool.false_eq_true, Bool.not_true, Bool.not_false, tup_2, tup_3, tup_4, p_tup0, p_lst0, p_tup1, p_lst1, p_tup2, p_lst2, p_tup3, p_lst3, p_tup4, p_lst4, p_tup5, p_lst5, p_tup6, p_lst6, p_tup7, p_lst7, p_tup8, p_lst8, p_modI (i := x) (j := 1000003) (by decide), p_mulI (i := 53) (.inl ⟨by decide, by decide⟩), p_mulI (j := (a : Int)) (.inr ⟨by omega, by omega⟩), p_mulI (i := 29) (.inl ⟨by decide, by decide⟩), p_mulI (j := 40009) (.inr ⟨by decide, by decide⟩), p_modI (j := 2147483629) (by decide), p_mulI (i := 38317) (.inl ⟨by decide, by decide⟩), p_modI (j := 2147483587) (by decide), p_mulI (j := 48271) (.inr ⟨by decide, by decide⟩), p_modI (j := 2147483563) (by decide), p_fdivI (j := 7) (by decide) (by decide), p_modI hm, p_mulM]
      exact ⟨_, a + 1, r, end_feed hB _, Nat.le_refl _, hr, _, rfl, Int.emod_nonneg _ (by omega), Int.emod_lt_of_pos _ hm⟩
/-! ### pieces -/
abbrev P3 := Str × Int × Int
def pd (p : P3) : PyData := .tuple [.str p.1, .int p.2.1, .int p.2.2]
def words7 : List Str := ["a", "aa", "b", "none", "move", "abcdefgh", "zzzzzzzz"]
structure Gp (p : P3) : Prop where
  wd : p.1 ∈ words7
  lo : 0 ≤ p.2.1
  up : p.2.1 < p.2.2
  top : p.2.2 ≤ 1000000000
theorem series_ok (c : List Int) : Draws (c.map .int) 1 (fun d => ∃ s ∈ words7, d = .str s) (fun B => m__law_series [.ref 0] B) := by
  intro a r B0 ha hr hB
  obtain ⟨d, a', r', e, g1, g2, i, rfl, h0, h1⟩ := draw_ok c 7 (by decide) (by decide) a r B0 ha hr hB
  have e : m__law_draw [.ref 0, .dat (.int 7)] (fcell (c.map .int) a r :: B0) = _ := e
  unfold m__law_series
  simp -implicitDefEqProofs only [e_P2, e_k2, e_k1, e_P1, e_k0, e_lift, e_C, gVar, e_nil, e_cons, e_kc, e_kd, e_PN, e_kN, e_call, e_kCall, e_if, e_kIf_t, e_kIf_f, e_and, e_kAnd_t, e_kAnd_f, e_or, e_kOr_t, e_kOr_f, e_not, e_kNot, e_seq, e_kS_nx, e_kS_ret, e_kS_brk, e_kS_ct, e_kS_exc, e_pass, e_brk, e_ct, e_sif, e_kSIf_t, e_kSIf_f, e_asg, e_kAsg, e_kO, e_name, e_ret, e_kRet, e_kRet_x, e_drop, e_kDrop, e_set, e_kSet, e_kSet2, e_kSet3, e_kSet4, e_fn, e_kFn_ret, e_kFn_nx, e_kFn_exc, e_fnK, e_kFnK_ret, e_mt, e_kMt2, e_isi, e_kIs, e_kI, e_chain, e_kCh, e_kCh2, e_kCh3_t, e_kCh3_f, e_shut, e_kSh, e_sl, e_kSl, e_kSl2n, e_kSl2i, e_kSl3, e_part, e_kPart, List.map_cons, List.map_nil, List.length_cons, List.length_nil, List.replicate, List.cons_append, List.nil_append, List.getElem?_cons_zero, List.getElem?_cons_succ, List.set_cons_zero, List.set_cons_succ, Nat.reduceSub, Nat.reduceAdd, Nat.zero_add, if_true, if_false, reduceIte, p_ix, itemS, l_dat, l_scr, l_ref0, atI_0, atI_1, atI_2, atI_3, Option.map_some, Option.bind_some, p_gtI, p_ltI, p_geI, p_leI, p_ltS, p_eqI, p_neI, p_eqS, p_neS, p_addI, p_subI, p_negI, p_lenL, p_lenT, p_intB, v_dat, l_tup, a_tup, p_isN, p_notN, set_feed1, set_feed2, p_pow9, p_pow12, p_pow18, e_iter, e_kIter_t, e_kIter_l, e_kIter_s, e_r1, e_zip, e_kZip, zip2_t, zip2_l, e_for, e_kFor, e_lc, e_try, e_kTry_ret, e_raise, e_kRaise, e_callL, ts_nil, ts_cons, e_kMtS, gYes, x_k2, x_k1, x_kc, x_kd, x_kN, x_kCall, x_kIf, x_kSIf, x_kAsg, x_kDrop, Bool.false_eq_true, Bool.not_true, Bool.not_false, tup_2, tup_3, tup_4, p_tup0, p_lst0, p_tup1, p_lst1, p_tup2, p_lst2, p_tup3, p_lst3, p_tup4, p_lst4, p_tup5, p_lst5, p_tup6, p_lst6, p_tup7, p_lst7, p_tup8, p_lst8]
  unfold b__law_series
  obtain ⟨x, hx, ex⟩ := pickA (ds := words7.map .str) h0 (by simpa [words7] using h1)
  have ex : atI [S.dat (.str "a"), S.dat (.str "aa"), S.dat (.str "b"), S.dat (.str "none"), S.dat (.str "move"), S.dat (.str "abcdefgh"), S.dat (.str "zzzzzzzz")] i = some (.dat x) := ex
  simp -implicitDefEqProofs only [e_P2, e_k2, e_k1, e_P1, e_k0, e_lift, e_C, gVar, e_nil, e_cons, e_kc, e_kd, e_PN, e_kN, e_call, e_kCall, e_if, e_kIf_t, e_kIf_f, e_and, e_kAnd_t, e_kAnd_f, e_or, e_kOr_t, e_kOr_f, e_not, e_kNot, e_seq, e_kS_nx, e_kS_ret, e_kS_brk, e_kS_ct, e_kS_exc, e_pass, e_brk, e_ct, e_sif, e_kSIf_t, e_kSIf_f, e_asg, e_kAsg, e_kO, e_name, e_ret, e_kRet, e_kRet_x, e_drop, e_kDrop, e_set, e_kSet, e_kSet2, e_kSet3, e_kSet4, e_fn, e_kFn_ret, e_kFn_nx, e_kFn_exc, e_fnK, e_kFnK_ret, e_mt, e_kMt2, e_isi, e_kIs, e_kI, e_chain, e_kCh, e_kCh2, e_kCh3_t, e_kCh3_f, e_shut, e_kSh, e_sl, e_kSl, e_kSl2n, e_kSl2i, e_kSl3, e_part, e_kPart, List.map_cons, List.map_nil, List.length_cons, List.length_nil, List.replicate, List.cons_append, List.nil_append, List.getElem?_cons_zero, List.getElem?_cons_succ, List.set_cons_zero, List.set_cons_succ, Nat.reduceSub, Nat.reduceAdd, Nat.zero_add, if_true, if_false, reduceIte, p_ix, itemS, l_dat, l_scr, l_ref0, atI_0, atI_1, atI_2, atI_3, Option.map_some, Option.bind_some, p_gtI, p_ltI, p_geI, p_leI, p_ltS, p_eqI, p_neI, p_eqS, p_neS, p_addI, p_subI, p_negI, p_lenL, p_lenT, p_intB, v_dat, l_tup, a_tup, p_isN, p_notN, set_feed1, set_feed2, p_pow9, p_pow12, p_pow18, e_iter, e_kIter_t, e_kIter_l, e_kIter_s, e_r1, e_zip, e_kZip, zip2_t, zip2_l, e_for, e_kFor, e_lc, e_try, e_kTry_ret, e_raise, e_kRaise, e_callL, ts_nil, ts_cons, e_kMtS, gYes, x_k2, x_k1, x_kc, x_kd, x_kN, x_kCall, x_kIf, x_kSIf, x_kAsg, x_kDrop, Bool.false_eq_true, Bool.not_true, Bool.not_false, tup_2, tup_3, tup_4, p_tup0, p_lst0, p_tup1, p_lst1, p_tup2, p_lst2, p_tup3, p_lst3, p_tup4, p_lst4, p_tup5, p_lst5, p_tup6, p_lst6, p_tup7, p_lst7, p_tup8, p_lst8, e, ex]
  obtain ⟨s, hs, rfl⟩ := List.mem_map.mp hx
  exact ⟨_, a', r', end_feed hB _, g1, g2, s, hs, rfl⟩
theorem pick4 {w x y z i : Int} (h0 : 0 ≤ i) (h : i < 4) : ∃ v : Int, (v = w ∨ v = x ∨ v = y ∨ v = z) ∧ atI [S.dat (.int w), S.dat (.int x), S.dat (.int y), S.dat (.int z)] i = some (.dat (.int v)) := by
  obtain ⟨d, m, e⟩ := pickA (ds := [.int w, .int x, .int y, .int z]) h0 (by simpa using h)
  simp only [List.mem_cons, List.not_mem_nil, or_false] at m
  rcases m with rfl | rfl | rfl | rfl
  · exact ⟨w, .inl rfl, e⟩
  · exact ⟨x, .inr (.inl rfl), e⟩
  · exact ⟨y, .inr (.inr (.inl rfl)), e⟩
  · exact ⟨z, .inr (.inr (.inr rfl)), e⟩
theorem piece_ok (c : List Int) : Draws (c.map .int) 6 (fun d => ∃ p, Gp p ∧ d = pd p) (fun B => m__law_piece [.ref 0] B) := by
  intro a r B0 ha hr hB
  obtain ⟨_, a1, r1, e1, g1, k1, i1, rfl, l1, u1⟩ := draw_ok c 30 (by decide) (by decide) a r B0 (by omega) hr hB
  obtain ⟨_, a2, r2, e2, g2, k2, i2, rfl, l2, u2⟩ := draw_ok c 1000000000 (by decide) (by decide) a1 r1 B0 (by omega) k1 hB
  obtain ⟨_, a3, r3, e3, g3, k3, i3, rfl, l3, u3⟩ := draw_ok c 4 (by decide) (by decide) a2 r2 B0 (by omega) k2 hB
  obtain ⟨_, a4, r4, e4, g4, k4, i4, rfl, l4, u4⟩ := draw_ok c 40 (by decide) (by decide) a3 r3 B0 (by omega) k3 hB
  obtain ⟨_, a5, r5, e5, g5, k5, i5, rfl, l5, u5⟩ := draw_ok c 4 (by decide) (by decide) a4 r4 B0 (by omega) k4 hB
  obtain ⟨_, a6, r6, e6, g6, k6, s, hs, rfl⟩ := series_ok c a5 r5 B0 (by omega) k5 hB
  dsimp only at e1 e2 e3 e4 e5 e6
  obtain ⟨f, hf, ef⟩ := pick4 (w := i1) (x := i2) (y := 0) (z := 999999999) l3 u3
  obtain ⟨z, hz, ez⟩ := pick4 (w := f + 1) (x := f + 2) (y := f + 1 + i4) (z := 1000000000) l5 u5
  unfold m__law_piece
  simp -implicitDefEqProofs only [e_P2, e_k2, e_k1, e_P1, e_k0, e_lift, e_C, gVar, e_nil, e_cons, e_kc, e_kd, e_PN, e_kN, e_call, e_kCall, e_if, e_kIf_t, e_kIf_f, e_and, e_kAnd_t, e_kAnd_f, e_or, e_kOr_t, e_kOr_f, e_not, e_kNot, e_seq, e_kS_nx, e_kS_ret, e_kS_brk, e_kS_ct, e_kS_exc, e_pass, e_brk, e_ct, e_sif, e_kSIf_t, e_kSIf_f, e_asg, e_kAsg, e_kO, e_name, e_ret, e_kRet, e_kRet_x, e_drop, e_kDrop, e_set, e_kSet, e_kSet2, e_kSet3, e_kSet4, e_fn, e_kFn_ret, e_kFn_nx, e_kFn_exc, e_fnK, e_kFnK_ret, e_mt, e_kMt2, e_isi, e_kIs, e_kI, e_chain, e_kCh, e_kCh2, e_kCh3_t, e_kCh3_f, e_shut, e_kSh, e_sl, e_kSl, e_kSl2n, e_kSl2i, e_kSl3, e_part, e_kPart, List.map_cons, List.map_nil, List.length_cons, List.length_nil, List.replicate, List.cons_append, List.nil_append, List.getElem?_cons_zero, List.getElem?_cons_succ, List.set_cons_zero, List.set_cons_succ, Nat.reduceSub, Nat.reduceAdd, Nat.zero_add, if_true, if_false, reduceIte, p_ix, itemS, l_dat, l_scr, l_ref0, atI_0, atI_1, atI_2, atI_3, Option.map_some, Option.bind_some, p_gtI, p_ltI, p_geI, p_leI, p_ltS, p_eqI, p_neI, p_eqS, p_neS, p_addI, p_subI, p_negI, p_lenL, p_lenT, p_intB, v_dat, l_tup, a_tup, p_isN, p_notN, set_feed1, set_feed2, p_pow9, p_pow12, p_pow18, e_iter, e_kIter_t, e_kIter_l, e_kIter_s, e_r1, e_zip, e_kZip, zip2_t, zip2_l, e_for, e_kFor, e_lc, e_try, e_kTry_ret, e_raise, e_kRaise, e_callL, ts_nil, ts_cons, e_kMtS, gYes, x_k2, x_k1, x_kc, x_kd, x_kN, x_kCall, x_kIf, x_kSIf, x_kAsg, x_kDrop, Bool.false_eq_true, Bool.not_true, Bool.not_false, tup_2, tup_3, tup_4, p_tup0, p_lst0, p_tup1, p_lst1, p_tup2, p_lst2, p_tup3, p_lst3, p_tup4, p_lst4, p_tup5, p_lst5, p_tup6, p_lst6, p_tup7, p_lst7, p_tup8, p_lst8]
  unfold b__law_piece
  simp -implicitDefEqProofs only [e_P2, e_k2, e_k1, e_P1, e_k0, e_lift, e_C, gVar, e_nil, e_cons, e_kc, e_kd, e_PN, e_kN, e_call, e_kCall, e_if, e_kIf_t, e_kIf_f, e_and, e_kAnd_t, e_kAnd_f, e_or, e_kOr_t, e_kOr_f, e_not, e_kNot, e_seq, e_kS_nx, e_kS_ret, e_kS_brk, e_kS_ct, e_kS_exc, e_pass, e_brk, e_ct, e_sif, e_kSIf_t, e_kSIf_f, e_asg, e_kAsg, e_kO, e_name, e_ret, e_kRet, e_kRet_x, e_drop, e_kDrop, e_set, e_kSet, e_kSet2, e_kSet3, e_kSet4, e_fn, e_kFn_ret, e_kFn_nx, e_kFn_exc, e_fnK, e_kFnK_ret, e_mt, e_kMt2, e_isi, e_kIs, e_kI, e_chain, e_kCh, e_kCh2, e_kCh3_t, e_kCh3_f, e_shut, e_kSh, e_sl, e_kSl, e_kSl2n, e_kSl2i, e_kSl3, e_part, e_kPart, List.map_cons, List.map_nil, List.length_cons, List.length_nil, List.replicate, List.cons_append, List.nil_append, List.getElem?_cons_zero, List.getElem?_cons_succ, List.set_cons_zero, List.set_cons_succ, Nat.reduceSub, Nat.reduceAdd, Nat.zero_add, if_true, if_false, reduceIte, p_ix, itemS, l_dat, l_scr, l_ref0, atI_0, atI_1, atI_2, atI_3, Option.map_some, Option.bind_some, p_gtI, p_ltI, p_geI, p_leI, p_ltS, p_eqI, p_neI, p_eqS, p_neS, p_addI, p_subI, p_negI, p_lenL, p_lenT, p_intB, v_dat, l_tup, a_tup, p_isN, p_notN, set_feed1, set_feed2, p_pow9, p_pow12, p_pow18, e_iter, e_kIter_t, e_kIter_l, e_kIter_s, e_r1, e_zip, e_kZip, zip2_t, zip2_l, e_for, e_kFor, e_lc, e_try, e_kTry_ret, e_raise, e_kRaise, e_callL, ts_nil, ts_cons, e_kMtS, gYes, x_k2, x_k1, x_kc, x_kd, x_kN, x_kCall, x_kIf, x_kSIf, x_kAsg, x_kDrop, Bool.false_eq_true, Bool.not_true, Bool.not_false, tup_2, tup_3, tup_4, p_tup0, p_lst0, p_tup1, p_lst1, p_tup2, p_lst2, p_tup3, p_lst3, p_tup4, p_lst4, p_tup5, p_lst5, p_tup6, p_lst6, p_tup7, p_lst7, p_tup8, p_lst8, e1, e2, e3, e4, e5, e6, ef, ez, show ∀ (i j : Int) B, pMin2 [.dat (.int i), .dat (.int j)] B = some (.dat (.int (if j < i then j else i)), B) from fun _ _ _ => rfl]
  refine ⟨_, a6, r6, end_feed hB _, by omega, k6, (s, f, if (1000000000 : Int) < z then 1000000000 else z), ⟨hs, ?_, ?_, ?_⟩, rfl⟩
  · show 0 ≤ f
    omega
  · show f < if (1000000000 : Int) < z then 1000000000 else z
    split <;> omega
  · show (if (1000000000 : Int) < z then 1000000000 else z) ≤ 1000000000
    split <;> omega
/-! ### texts -/
def base (p : P3) : Str := p.1 ++ ":" ++ numS p.2.1
def txt (p : P3) : Str := if p.2.1 + 1 < p.2.2 then base p ++ "-" ++ numS (p.2.2 - 1) else base p
theorem words_len : ∀ s ∈ words7, s.length ≤ 8 := by decide +kernel
theorem Gp.len {p : P3} (h : Gp p) : p.1.length ≤ 8 := words_len _ h.wd
theorem Gp.n1 {p : P3} (h : Gp p) : p.2.1.natAbs < 10 ^ 18 := by
  have := h.lo; have := h.up; have := h.top
  omega
theorem Gp.n2 {p : P3} (h : Gp p) : (p.2.2 - 1).natAbs < 10 ^ 18 := by
  have := h.lo; have := h.up; have := h.top
  omega
theorem base_len {p : P3} (h : Gp p) : (base p).length ≤ 28 := by
  unfold base
  rw [strLen_append, strLen_append]
  have h1 := h.len
  have h2 := numS_len h.n1
  have h3 : ((":" : String) : Str).length = 1 := rfl
  omega
theorem txt_len {p : P3} (h : Gp p) : (txt p).length ≤ 48 := by
  have h1 := base_len h
  have h2 := numS_len h.n2
  have h3 : (("-" : String) : Str).length = 1 := rfl
  unfold txt
  split
  · rw [strLen_append, strLen_append]; omega
  · omega
section
variable {p : P3} {B : Bs}
theorem add_base (h : Gp p) : pAdd [.dat (.str p.1), .dat (.str ":")] B = some (.dat (.str (p.1 ++ ":")), B) := p_addS' (n := 1) h.len (by decide) (by decide)
theorem add_base2 (h : Gp p) : pAdd [.dat (.str (p.1 ++ ":")), .dat (.str (numS p.2.1))] B = some (.dat (.str (base p)), B) := p_addS' (m := 9) (by rw [strLen_append]; have := h.len; have h3 : ((":" : String) : Str).length = 1 := rfl; omega) (numS_len h.n1) (by decide)
theorem add_dash (h : Gp p) : pAdd [.dat (.str (base p)), .dat (.str "-")] B = some (.dat (.str (base p ++ "-")), B) := p_addS' (n := 1) (base_len h) (by decide) (by decide)
theorem add_dash2 (h : Gp p) : pAdd [.dat (.str (base p ++ "-")), .dat (.str (numS (p.2.2 - 1)))] B = some (.dat (.str (base p ++ "-" ++ numS (p.2.2 - 1))), B) := p_addS' (m := 29) (by rw [strLen_append]; have := base_len h; have h3 : (("-" : String) : Str).length = 1 := rfl; omega) (numS_len h.n2) (by decide)
theorem shown_run_ok (h : Gp p) (hB : Flat B) : m_shown_run [.dat (pd p)] B = .ok (.dat (.str (txt p))) B := by
  unfold m_shown_run
  simp -implicitDefEqProofs only [e_P2, e_k2, e_k1, e_P1, e_k0, e_lift, e_C, gVar, e_nil, e_cons, e_kc, e_kd, e_PN, e_kN, e_call, e_kCall, e_if, e_kIf_t, e_kIf_f, e_and, e_kAnd_t, e_kAnd_f, e_or, e_kOr_t, e_kOr_f, e_not, e_kNot, e_seq, e_kS_nx, e_kS_ret, e_kS_brk, e_kS_ct, e_kS_exc, e_pass, e_brk, e_ct, e_sif, e_kSIf_t, e_kSIf_f, e_asg, e_kAsg, e_kO, e_name, e_ret, e_kRet, e_kRet_x, e_drop, e_kDrop, e_set, e_kSet, e_kSet2, e_kSet3, e_kSet4, e_fn, e_kFn_ret, e_kFn_nx, e_kFn_exc, e_fnK, e_kFnK_ret, e_mt, e_kMt2, e_isi, e_kIs, e_kI, e_chain, e_kCh, e_kCh2, e_kCh3_t, e_kCh3_f, e_shut, e_kSh, e_sl, e_kSl, e_kSl2n, e_kSl2i, e_kSl3, e_part, e_kPart, List.map_cons, List.map_nil, List.length_cons, List.length_nil, List.replicate, List.cons_append, List.nil_append, List.getElem?_cons_zero, List.getElem?_cons_succ, List.set_cons_zero, List.set_cons_succ, Nat.reduceSub, Nat.reduceAdd, Nat.zero_add, if_true, if_false, reduceIte, p_ix, itemS, l_dat, l_scr, l_ref0, atI_0, atI_1, atI_2, atI_3, Option.map_some, Option.bind_some, p_gtI, p_ltI, p_geI, p_leI, p_ltS, p_eqI, p_neI, p_eqS, p_neS, p_addI, p_subI, p_negI, p_lenL, p_lenT, p_intB, v_dat, l_tup, a_tup, p_isN, p_notN, set_feed1, set_feed2, p_pow9, p_pow12, p_pow18, e_iter, e_kIter_t, e_kIter_l, e_kIter_s, e_r1, e_zip, e_kZip, zip2_t, zip2_l, e_for, e_kFor, e_lc, e_try, e_kTry_ret, e_raise, e_kRaise, e_callL, ts_nil, ts_cons, e_kMtS, gYes, x_k2, x_k1, x_kc, x_kd, x_kN, x_kCall, x_kIf, x_kSIf, x_kAsg, x_kDrop, Bool.false_eq_true, Bool.not_true, Bool.not_false, tup_2, tup_3, tup_4, p_tup0, p_lst0, p_tup1, p_lst1, p_tup2, p_lst2, p_tup3, p_lst3, p_tup4, p_lst4, p_tup5, p_lst5, p_tup6, p_lst6, p_tup7, p_lst7, p_tup8, p_lst8]
  unfold b_shown_run
  simp -implicitDefEqProofs only [e_P2, e_k2, e_k1, e_P1, e_k0, e_lift, e_C, gVar, e_nil, e_cons, e_kc, e_kd, e_PN, e_kN, e_call, e_kCall, e_if, e_kIf_t, e_kIf_f, e_and, e_kAnd_t, e_kAnd_f, e_or, e_kOr_t, e_kOr_f, e_not, e_kNot, e_seq, e_kS_nx, e_kS_ret, e_kS_brk, e_kS_ct, e_kS_exc, e_pass, e_brk, e_ct, e_sif, e_kSIf_t, e_kSIf_f, e_asg, e_kAsg, e_kO, e_name, e_ret, e_kRet, e_kRet_x, e_drop, e_kDrop, e_set, e_kSet, e_kSet2, e_kSet3, e_kSet4, e_fn, e_kFn_ret, e_kFn_nx, e_kFn_exc, e_fnK, e_kFnK_ret, e_mt, e_kMt2, e_isi, e_kIs, e_kI, e_chain, e_kCh, e_kCh2, e_kCh3_t, e_kCh3_f, e_shut, e_kSh, e_sl, e_kSl, e_kSl2n, e_kSl2i, e_kSl3, e_part, e_kPart, List.map_cons, List.map_nil, List.length_cons, List.length_nil, List.replicate, List.cons_append, List.nil_append, List.getElem?_cons_zero, List.getElem?_cons_succ, List.set_cons_zero, List.set_cons_succ, Nat.reduceSub, Nat.reduceAdd, Nat.zero_add, if_true, if_false, reduceIte, p_ix, itemS, l_dat, l_scr, l_ref0, atI_0, atI_1, atI_2, atI_3, Option.map_some, Option.bind_some, p_gtI, p_ltI, p_geI, p_leI, p_ltS, p_eqI, p_neI, p_eqS, p_neS, p_addI, p_subI, p_negI, p_lenL, p_lenT, p_intB, v_dat, l_tup, a_tup, p_isN, p_notN, set_feed1, set_feed2, p_pow9, p_pow12, p_pow18, e_iter, e_kIter_t, e_kIter_l, e_kIter_s, e_r1, e_zip, e_kZip, zip2_t, zip2_l, e_for, e_kFor, e_lc, e_try, e_kTry_ret, e_raise, e_kRaise, e_callL, ts_nil, ts_cons, e_kMtS, gYes, x_k2, x_k1, x_kc, x_kd, x_kN, x_kCall, x_kIf, x_kSIf, x_kAsg, x_kDrop, Bool.false_eq_true, Bool.not_true, Bool.not_false, tup_2, tup_3, tup_4, p_tup0, p_lst0, p_tup1, p_lst1, p_tup2, p_lst2, p_tup3, p_lst3, p_tup4, p_lst4, p_tup5, p_lst5, p_tup6, p_lst6, p_tup7, p_lst7, p_tup8, p_lst8, pd, add_base h, add_base2 h, p_strI h.n1]
  by_cases q : p.2.1 + 1 < p.2.2
  · rw [decide_eq_true q]
    simp -implicitDefEqProofs only [e_P2, e_k2, e_k1, e_P1, e_k0, e_lift, e_C, gVar, e_nil, e_cons, e_kc, e_kd, e_PN, e_kN, e_call, e_kCall, e_if, e_kIf_t, e_kIf_f, e_and, e_kAnd_t, e_kAnd_f, e_or, e_kOr_t, e_kOr_f, e_not, e_kNot, e_seq, e_kS_nx, e_kS_ret, e_kS_brk, e_kS_ct, e_kS_exc, e_pass, e_brk, e_ct, e_sif, e_kSIf_t, e_kSIf_f, e_asg, e_kAsg, e_kO, e_name, e_ret, e_kRet, e_kRet_x, e_drop, e_kDrop, e_set, e_kSet, e_kSet2, e_kSet3, e_kSet4, e_fn, e_kFn_ret, e_kFn_nx, e_kFn_exc, e_fnK, e_kFnK_ret, e_mt, e_kMt2, e_isi, e_kIs, e_kI, e_chain, e_kCh, e_kCh2, e_kCh3_t, e_kCh3_f, e_shut, e_kSh, e_sl, e_kSl, e_kSl2n, e_kSl2i, e_kSl3, e_part, e_kPart, List.map_cons, List.map_nil, List.length_cons, List.length_nil, List.replicate, List.cons_append, List.nil_append, List.getElem?_cons_zero, List.getElem?_cons_succ, List.set_cons_zero, List.set_cons_succ, Nat.reduceSub, Nat.reduceAdd, Nat.zero_add, if_true, if_false, reduceIte, p_ix, itemS, l_dat, l_scr, l_ref0, atI_0, atI_1, atI_2, atI_3, Option.map_some, Option.bind_some, p_gtI, p_ltI, p_geI, p_leI, p_ltS, p_eqI, p_neI, p_eqS, p_neS, p_addI, p_subI, p_negI, p_lenL, p_lenT, p_intB, v_dat, l_tup, a_tup, p_isN, p_notN, set_feed1, set_feed2, p_pow9, p_pow12, p_pow18, e_iter, e_kIter_t, e_kIter_l, e_kIter_s, e_r1, e_zip, e_kZip, zip2_t, zip2_l, e_for, e_kFor, e_lc, e_try, e_kTry_ret, e_raise, e_kRaise, e_callL, ts_nil, ts_cons, e_kMtS, gYes, x_k2, x_k1, x_kc, x_kd, x_kN, x_kCall, x_kIf, x_kSIf, x_kAsg, x_kDrop, Bool.false_eq_true, Bool.not_true, Bool.not_false, tup_2, tup_3, tup_4, p_tup0, p_lst0, p_tup1, p_lst1, p_tup2, p_lst2, p_tup3, p_lst3, p_tup4, p_lst4, p_tup5, p_lst5, p_tup6, p_lst6, p_tup7, p_lst7, p_tup8, p_lst8, pd, add_dash h, add_dash2 h, p_strI h.n2]
    rw [endF_self hB]
    unfold txt
    rw [if_pos q]
  · rw [decide_eq_false q]
    simp -implicitDefEqProofs only [e_P2, e_k2, e_k1, e_P1, e_k0, e_lift, e_C, gVar, e_nil, e_cons, e_kc, e_kd, e_PN, e_kN, e_call, e_kCall, e_if, e_kIf_t, e_kIf_f, e_and, e_kAnd_t, e_kAnd_f, e_or, e_kOr_t, e_kOr_f, e_not, e_kNot, e_seq, e_kS_nx, e_kS_ret, e_kS_brk, e_kS_ct, e_kS_exc, e_pass, e_brk, e_ct, e_sif, e_kSIf_t, e_kSIf_f, e_asg, e_kAsg, e_kO, e_name, e_ret, e_kRet, e_kRet_x, e_drop, e_kDrop, e_set, e_kSet, e_kSet2, e_kSet3, e_kSet4, e_fn, e_kFn_ret, e_kFn_nx, e_kFn_exc, e_fnK, e_kFnK_ret, e_mt, e_kMt2, e_isi, e_kIs, e_kI, e_chain, e_kCh, e_kCh2, e_kCh3_t, e_kCh3_f, e_shut, e_kSh, e_sl, e_kSl, e_kSl2n, e_kSl2i, e_kSl3, e_part, e_kPart, List.map_cons, List.map_nil, List.length_cons, List.length_nil, List.replicate, List.cons_append, List.nil_append, List.getElem?_cons_zero, List.getElem?_cons_succ, List.set_cons_zero, List.set_cons_succ, Nat.reduceSub, Nat.reduceAdd, Nat.zero_add, if_true, if_false, reduceIte, p_ix, itemS, l_dat, l_scr, l_ref0, atI_0, atI_1, atI_2, atI_3, Option.map_some, Option.bind_some, p_gtI, p_ltI, p_geI, p_leI, p_ltS, p_eqI, p_neI, p_eqS, p_neS, p_addI, p_subI, p_negI, p_lenL, p_lenT, p_intB, v_dat, l_tup, a_tup, p_isN, p_notN, set_feed1, set_feed2, p_pow9, p_pow12, p_pow18, e_iter, e_kIter_t, e_kIter_l, e_kIter_s, e_r1, e_zip, e_kZip, zip2_t, zip2_l, e_for, e_kFor, e_lc, e_try, e_kTry_ret, e_raise, e_kRaise, e_callL, ts_nil, ts_cons, e_kMtS, gYes, x_k2, x_k1, x_kc, x_kd, x_kN, x_kCall, x_kIf, x_kSIf, x_kAsg, x_kDrop, Bool.false_eq_true, Bool.not_true, Bool.not_false, tup_2, tup_3, tup_4, p_tup0, p_lst0, p_tup1, p_lst1, p_tup2, p_lst2, p_tup3, p_lst3, p_tup4, p_lst4, p_tup5, p_lst5, p_tup6, p_lst6, p_tup7, p_lst7, p_tup8, p_lst8]
    rw [endF_self hB]
    unfold txt
    rw [if_neg q]
end
def rowT (ps : List P3) : Str := Txt.join "," (ps.map txt)
theorem row_fits {ps : List P3} (h : ∀ p ∈ ps, Gp p) (hl : ps.length ≤ 1000) : ((ps.map txt).map (·.length)).sum + (ps.map txt).length * (("," : String) : Str).length ≤ 16777216 :=
  join_fits (by decide) (fun y m => by
    obtain ⟨p, hp, rfl⟩ := List.mem_map.mp m
    have := txt_len (h p hp)
    omega) (by rw [List.length_map]; exact hl)
theorem shown_row_ok {ps : List P3} {B : Bs} (h : ∀ p ∈ ps, Gp p) (hl : ps.length ≤ 1000) (hB : Flat B) : m_shown_row [.dat (.tuple (ps.map pd))] B = .ok (.dat (.str (rowT ps))) B := by
  unfold m_shown_row
  simp -implicitDefEqProofs only [e_P2, e_k2, e_k1, e_P1, e_k0, e_lift, e_C, gVar, e_nil, e_cons, e_kc, e_kd, e_PN, e_kN, e_call, e_kCall, e_if, e_kIf_t, e_kIf_f, e_and, e_kAnd_t, e_kAnd_f, e_or, e_kOr_t, e_kOr_f, e_not, e_kNot, e_seq, e_kS_nx, e_kS_ret, e_kS_brk, e_kS_ct, e_kS_exc, e_pass, e_brk, e_ct, e_sif, e_kSIf_t, e_kSIf_f, e_asg, e_kAsg, e_kO, e_name, e_ret, e_kRet, e_kRet_x, e_drop, e_kDrop, e_set, e_kSet, e_kSet2, e_kSet3, e_kSet4, e_fn, e_kFn_ret, e_kFn_nx, e_kFn_exc, e_fnK, e_kFnK_ret, e_mt, e_kMt2, e_isi, e_kIs, e_kI, e_chain, e_kCh, e_kCh2, e_kCh3_t, e_kCh3_f, e_shut, e_kSh, e_sl, e_kSl, e_kSl2n, e_kSl2i, e_kSl3, e_part, e_kPart, List.map_cons, List.map_nil, List.length_cons, List.length_nil, List.replicate, List.cons_append, List.nil_append, List.getElem?_cons_zero, List.getElem?_cons_succ, List.set_cons_zero, List.set_cons_succ, Nat.reduceSub, Nat.reduceAdd, Nat.zero_add, if_true, if_false, reduceIte, p_ix, itemS, l_dat, l_scr, l_ref0, atI_0, atI_1, atI_2, atI_3, Option.map_some, Option.bind_some, p_gtI, p_ltI, p_geI, p_leI, p_ltS, p_eqI, p_neI, p_eqS, p_neS, p_addI, p_subI, p_negI, p_lenL, p_lenT, p_intB, v_dat, l_tup, a_tup, p_isN, p_notN, set_feed1, set_feed2, p_pow9, p_pow12, p_pow18, e_iter, e_kIter_t, e_kIter_l, e_kIter_s, e_r1, e_zip, e_kZip, zip2_t, zip2_l, e_for, e_kFor, e_lc, e_try, e_kTry_ret, e_raise, e_kRaise, e_callL, ts_nil, ts_cons, e_kMtS, gYes, x_k2, x_k1, x_kc, x_kd, x_kN, x_kCall, x_kIf, x_kSIf, x_kAsg, x_kDrop, Bool.false_eq_true, Bool.not_true, Bool.not_false, tup_2, tup_3, tup_4, p_tup0, p_lst0, p_tup1, p_lst1, p_tup2, p_lst2, p_tup3, p_lst3, p_tup4, p_lst4, p_tup5, p_lst5, p_tup6, p_lst6, p_tup7, p_lst7, p_tup8, p_lst8]
  unfold b_shown_row
  simp -implicitDefEqProofs only [e_P2, e_k2, e_k1, e_P1, e_k0, e_lift, e_C, gVar, e_nil, e_cons, e_kc, e_kd, e_PN, e_kN, e_call, e_kCall, e_if, e_kIf_t, e_kIf_f, e_and, e_kAnd_t, e_kAnd_f, e_or, e_kOr_t, e_kOr_f, e_not, e_kNot, e_seq, e_kS_nx, e_kS_ret, e_kS_brk, e_kS_ct, e_kS_exc, e_pass, e_brk, e_ct, e_sif, e_kSIf_t, e_kSIf_f, e_asg, e_kAsg, e_kO, e_name, e_ret, e_kRet, e_kRet_x, e_drop, e_kDrop, e_set, e_kSet, e_kSet2, e_kSet3, e_kSet4, e_fn, e_kFn_ret, e_kFn_nx, e_kFn_exc, e_fnK, e_kFnK_ret, e_mt, e_kMt2, e_isi, e_kIs, e_kI, e_chain, e_kCh, e_kCh2, e_kCh3_t, e_kCh3_f, e_shut, e_kSh, e_sl, e_kSl, e_kSl2n, e_kSl2i, e_kSl3, e_part, e_kPart, List.map_cons, List.map_nil, List.length_cons, List.length_nil, List.replicate, List.cons_append, List.nil_append, List.getElem?_cons_zero, List.getElem?_cons_succ, List.set_cons_zero, List.set_cons_succ, Nat.reduceSub, Nat.reduceAdd, Nat.zero_add, if_true, if_false, reduceIte, p_ix, itemS, l_dat, l_scr, l_ref0, atI_0, atI_1, atI_2, atI_3, Option.map_some, Option.bind_some, p_gtI, p_ltI, p_geI, p_leI, p_ltS, p_eqI, p_neI, p_eqS, p_neS, p_addI, p_subI, p_negI, p_lenL, p_lenT, p_intB, v_dat, l_tup, a_tup, p_isN, p_notN, set_feed1, set_feed2, p_pow9, p_pow12, p_pow18, e_iter, e_kIter_t, e_kIter_l, e_kIter_s, e_r1, e_zip, e_kZip, zip2_t, zip2_l, e_for, e_kFor, e_lc, e_try, e_kTry_ret, e_raise, e_kRaise, e_callL, ts_nil, ts_cons, e_kMtS, gYes, x_k2, x_k1, x_kc, x_kd, x_kN, x_kCall, x_kIf, x_kSIf, x_kAsg, x_kDrop, Bool.false_eq_true, Bool.not_true, Bool.not_false, tup_2, tup_3, tup_4, p_tup0, p_lst0, p_tup1, p_lst1, p_tup2, p_lst2, p_tup3, p_lst3, p_tup4, p_lst4, p_tup5, p_lst5, p_tup6, p_lst6, p_tup7, p_lst7, p_tup8, p_lst8]
  rw [e_kLc (by rw [List.length_map, List.length_map]; omega), List.map_map, lc_mapL (f := fun p => .dat (.str (txt p))) ps [] trivial fun p hp => ⟨_, rfl, rfl, ?_⟩]
  · simp -implicitDefEqProofs only [e_P2, e_k2, e_k1, e_P1, e_k0, e_lift, e_C, gVar, e_nil, e_cons, e_kc, e_kd, e_PN, e_kN, e_call, e_kCall, e_if, e_kIf_t, e_kIf_f, e_and, e_kAnd_t, e_kAnd_f, e_or, e_kOr_t, e_kOr_f, e_not, e_kNot, e_seq, e_kS_nx, e_kS_ret, e_kS_brk, e_kS_ct, e_kS_exc, e_pass, e_brk, e_ct, e_sif, e_kSIf_t, e_kSIf_f, e_asg, e_kAsg, e_kO, e_name, e_ret, e_kRet, e_kRet_x, e_drop, e_kDrop, e_set, e_kSet, e_kSet2, e_kSet3, e_kSet4, e_fn, e_kFn_ret, e_kFn_nx, e_kFn_exc, e_fnK, e_kFnK_ret, e_mt, e_kMt2, e_isi, e_kIs, e_kI, e_chain, e_kCh, e_kCh2, e_kCh3_t, e_kCh3_f, e_shut, e_kSh, e_sl, e_kSl, e_kSl2n, e_kSl2i, e_kSl3, e_part, e_kPart, List.map_cons, List.map_nil, List.length_cons, List.length_nil, List.replicate, List.cons_append, List.nil_append, List.getElem?_cons_zero, List.getElem?_cons_succ, List.set_cons_zero, List.set_cons_succ, Nat.reduceSub, Nat.reduceAdd, Nat.zero_add, if_true, if_false, reduceIte, p_ix, itemS, l_dat, l_scr, l_ref0, atI_0, atI_1, atI_2, atI_3, Option.map_some, Option.bind_some, p_gtI, p_ltI, p_geI, p_leI, p_ltS, p_eqI, p_neI, p_eqS, p_neS, p_addI, p_subI, p_negI, p_lenL, p_lenT, p_intB, v_dat, l_tup, a_tup, p_isN, p_notN, set_feed1, set_feed2, p_pow9, p_pow12, p_pow18, e_iter, e_kIter_t, e_kIter_l, e_kIter_s, e_r1, e_zip, e_kZip, zip2_t, zip2_l, e_for, e_kFor, e_lc, e_try, e_kTry_ret, e_raise, e_kRaise, e_callL, ts_nil, ts_cons, e_kMtS, gYes, x_k2, x_k1, x_kc, x_kd, x_kN, x_kCall, x_kIf, x_kSIf, x_kAsg, x_kDrop, Bool.false_eq_true, Bool.not_true, Bool.not_false, tup_2, tup_3, tup_4, p_tup0, p_lst0, p_tup1, p_lst1, p_tup2, p_lst2, p_tup3, p_lst3, p_tup4, p_lst4, p_tup5, p_lst5, p_tup6, p_lst6, p_tup7, p_lst7, p_tup8, p_lst8]
    rw [show (ps.map fun p => S.dat (.str (txt p))) = ((ps.map txt).map PyData.str).map S.dat by rw [List.map_map, List.map_map]; rfl, p_lst (by rw [List.length_map, List.length_map]; exact sz_small hl)]
    simp -implicitDefEqProofs only [e_P2, e_k2, e_k1, e_P1, e_k0, e_lift, e_C, gVar, e_nil, e_cons, e_kc, e_kd, e_PN, e_kN, e_call, e_kCall, e_if, e_kIf_t, e_kIf_f, e_and, e_kAnd_t, e_kAnd_f, e_or, e_kOr_t, e_kOr_f, e_not, e_kNot, e_seq, e_kS_nx, e_kS_ret, e_kS_brk, e_kS_ct, e_kS_exc, e_pass, e_brk, e_ct, e_sif, e_kSIf_t, e_kSIf_f, e_asg, e_kAsg, e_kO, e_name, e_ret, e_kRet, e_kRet_x, e_drop, e_kDrop, e_set, e_kSet, e_kSet2, e_kSet3, e_kSet4, e_fn, e_kFn_ret, e_kFn_nx, e_kFn_exc, e_fnK, e_kFnK_ret, e_mt, e_kMt2, e_isi, e_kIs, e_kI, e_chain, e_kCh, e_kCh2, e_kCh3_t, e_kCh3_f, e_shut, e_kSh, e_sl, e_kSl, e_kSl2n, e_kSl2i, e_kSl3, e_part, e_kPart, List.map_cons, List.map_nil, List.length_cons, List.length_nil, List.replicate, List.cons_append, List.nil_append, List.getElem?_cons_zero, List.getElem?_cons_succ, List.set_cons_zero, List.set_cons_succ, Nat.reduceSub, Nat.reduceAdd, Nat.zero_add, if_true, if_false, reduceIte, p_ix, itemS, l_dat, l_scr, l_ref0, atI_0, atI_1, atI_2, atI_3, Option.map_some, Option.bind_some, p_gtI, p_ltI, p_geI, p_leI, p_ltS, p_eqI, p_neI, p_eqS, p_neS, p_addI, p_subI, p_negI, p_lenL, p_lenT, p_intB, v_dat, l_tup, a_tup, p_isN, p_notN, set_feed1, set_feed2, p_pow9, p_pow12, p_pow18, e_iter, e_kIter_t, e_kIter_l, e_kIter_s, e_r1, e_zip, e_kZip, zip2_t, zip2_l, e_for, e_kFor, e_lc, e_try, e_kTry_ret, e_raise, e_kRaise, e_callL, ts_nil, ts_cons, e_kMtS, gYes, x_k2, x_k1, x_kc, x_kd, x_kN, x_kCall, x_kIf, x_kSIf, x_kAsg, x_kDrop, Bool.false_eq_true, Bool.not_true, Bool.not_false, tup_2, tup_3, tup_4, p_tup0, p_lst0, p_tup1, p_lst1, p_tup2, p_lst2, p_tup3, p_lst3, p_tup4, p_lst4, p_tup5, p_lst5, p_tup6, p_lst6, p_tup7, p_lst7, p_tup8, p_lst8, p_joinL (row_fits h hl)]
    rw [endF_self hB]
    rfl
  · simp -implicitDefEqProofs only [e_P2, e_k2, e_k1, e_P1, e_k0, e_lift, e_C, gVar, e_nil, e_cons, e_kc, e_kd, e_PN, e_kN, e_call, e_kCall, e_if, e_kIf_t, e_kIf_f, e_and, e_kAnd_t, e_kAnd_f, e_or, e_kOr_t, e_kOr_f, e_not, e_kNot, e_seq, e_kS_nx, e_kS_ret, e_kS_brk, e_kS_ct, e_kS_exc, e_pass, e_brk, e_ct, e_sif, e_kSIf_t, e_kSIf_f, e_asg, e_kAsg, e_kO, e_name, e_ret, e_kRet, e_kRet_x, e_drop, e_kDrop, e_set, e_kSet, e_kSet2, e_kSet3, e_kSet4, e_fn, e_kFn_ret, e_kFn_nx, e_kFn_exc, e_fnK, e_kFnK_ret, e_mt, e_kMt2, e_isi, e_kIs, e_kI, e_chain, e_kCh, e_kCh2, e_kCh3_t, e_kCh3_f, e_shut, e_kSh, e_sl, e_kSl, e_kSl2n, e_kSl2i, e_kSl3, e_part, e_kPart, List.map_cons, List.map_nil, List.length_cons, List.length_nil, List.replicate, List.cons_append, List.nil_append, List.getElem?_cons_zero, List.getElem?_cons_succ, List.set_cons_zero, List.set_cons_succ, Nat.reduceSub, Nat.reduceAdd, Nat.zero_add, if_true, if_false, reduceIte, p_ix, itemS, l_dat, l_scr, l_ref0, atI_0, atI_1, atI_2, atI_3, Option.map_some, Option.bind_some, p_gtI, p_ltI, p_geI, p_leI, p_ltS, p_eqI, p_neI, p_eqS, p_neS, p_addI, p_subI, p_negI, p_lenL, p_lenT, p_intB, v_dat, l_tup, a_tup, p_isN, p_notN, set_feed1, set_feed2, p_pow9, p_pow12, p_pow18, e_iter, e_kIter_t, e_kIter_l, e_kIter_s, e_r1, e_zip, e_kZip, zip2_t, zip2_l, e_for, e_kFor, e_lc, e_try, e_kTry_ret, e_raise, e_kRaise, e_callL, ts_nil, ts_cons, e_kMtS, gYes, x_k2, x_k1, x_kc, x_kd, x_kN, x_kCall, x_kIf, x_kSIf, x_kAsg, x_kDrop, Bool.false_eq_true, Bool.not_true, Bool.not_false, tup_2, tup_3, tup_4, p_tup0, p_lst0, p_tup1, p_lst1, p_tup2, p_lst2, p_tup3, p_lst3, p_tup4, p_lst4, p_tup5, p_lst5, p_tup6, p_lst6, p_tup7, p_lst7, p_tup8, p_lst8, wipeE, Function.comp, shown_run_ok (h p hp) hB]
theorem flat_str (ys : List Str) : ∀ x, some (MO.lst (ys.map fun y => S.dat (.str y))) = some x → refsO 0 x := fun x e => by
  cases e
  intro s m
  obtain ⟨y, _, rfl⟩ := List.mem_map.mp m
  trivial
theorem law_text_ok {ps : List P3} {B : Bs} (h : ∀ p ∈ ps, Gp p) (hl : ps.length ≤ 1000) (hB : Flat B) : m__law_text [.dat (.tuple (ps.map pd))] B = .ok (.dat (.str (rowT ps))) B := by
  unfold m__law_text
  simp -implicitDefEqProofs only [e_P2, e_k2, e_k1, e_P1, e_k0, e_lift, e_C, gVar, e_nil, e_cons, e_kc, e_kd, e_PN, e_kN, e_call, e_kCall, e_if, e_kIf_t, e_kIf_f, e_and, e_kAnd_t, e_kAnd_f, e_or, e_kOr_t, e_kOr_f, e_not, e_kNot, e_seq, e_kS_nx, e_kS_ret, e_kS_brk, e_kS_ct, e_kS_exc, e_pass, e_brk, e_ct, e_sif, e_kSIf_t, e_kSIf_f, e_asg, e_kAsg, e_kO, e_name, e_ret, e_kRet, e_kRet_x, e_drop, e_kDrop, e_set, e_kSet, e_kSet2, e_kSet3, e_kSet4, e_fn, e_kFn_ret, e_kFn_nx, e_kFn_exc, e_fnK, e_kFnK_ret, e_mt, e_kMt2, e_isi, e_kIs, e_kI, e_chain, e_kCh, e_kCh2, e_kCh3_t, e_kCh3_f, e_shut, e_kSh, e_sl, e_kSl, e_kSl2n, e_kSl2i, e_kSl3, e_part, e_kPart, List.map_cons, List.map_nil, List.length_cons, List.length_nil, List.replicate, List.cons_append, List.nil_append, List.getElem?_cons_zero, List.getElem?_cons_succ, List.set_cons_zero, List.set_cons_succ, Nat.reduceSub, Nat.reduceAdd, Nat.zero_add, if_true, if_false, reduceIte, p_ix, itemS, l_dat, l_scr, l_ref0, atI_0, atI_1, atI_2, atI_3, Option.map_some, Option.bind_some, p_gtI, p_ltI, p_geI, p_leI, p_ltS, p_eqI, p_neI, p_eqS, p_neS, p_addI, p_subI, p_negI, p_lenL, p_lenT, p_intB, v_dat, l_tup, a_tup, p_isN, p_notN, set_feed1, set_feed2, p_pow9, p_pow12, p_pow18, e_iter, e_kIter_t, e_kIter_l, e_kIter_s, e_r1, e_zip, e_kZip, zip2_t, zip2_l, e_for, e_kFor, e_lc, e_try, e_kTry_ret, e_raise, e_kRaise, e_callL, ts_nil, ts_cons, e_kMtS, gYes, x_k2, x_k1, x_kc, x_kd, x_kN, x_kCall, x_kIf, x_kSIf, x_kAsg, x_kDrop, Bool.false_eq_true, Bool.not_true, Bool.not_false, tup_2, tup_3, tup_4, p_tup0, p_lst0, p_tup1, p_lst1, p_tup2, p_lst2, p_tup3, p_lst3, p_tup4, p_lst4, p_tup5, p_lst5, p_tup6, p_lst6, p_tup7, p_lst7, p_tup8, p_lst8]
  unfold b__law_text
  simp -implicitDefEqProofs only [e_P2, e_k2, e_k1, e_P1, e_k0, e_lift, e_C, gVar, e_nil, e_cons, e_kc, e_kd, e_PN, e_kN, e_call, e_kCall, e_if, e_kIf_t, e_kIf_f, e_and, e_kAnd_t, e_kAnd_f, e_or, e_kOr_t, e_kOr_f, e_not, e_kNot, e_seq, e_kS_nx, e_kS_ret, e_kS_brk, e_kS_ct, e_kS_exc, e_pass, e_brk, e_ct, e_sif, e_kSIf_t, e_kSIf_f, e_asg, e_kAsg, e_kO, e_name, e_ret, e_kRet, e_kRet_x, e_drop, e_kDrop, e_set, e_kSet, e_kSet2, e_kSet3, e_kSet4, e_fn, e_kFn_ret, e_kFn_nx, e_kFn_exc, e_fnK, e_kFnK_ret, e_mt, e_kMt2, e_isi, e_kIs, e_kI, e_chain, e_kCh, e_kCh2, e_kCh3_t, e_kCh3_f, e_shut, e_kSh, e_sl, e_kSl, e_kSl2n, e_kSl2i, e_kSl3, e_part, e_kPart, List.map_cons, List.map_nil, List.length_cons, List.length_nil, List.replicate, List.cons_append, List.nil_append, List.getElem?_cons_zero, List.getElem?_cons_succ, List.set_cons_zero, List.set_cons_succ, Nat.reduceSub, Nat.reduceAdd, Nat.zero_add, if_true, if_false, reduceIte, p_ix, itemS, l_dat, l_scr, l_ref0, atI_0, atI_1, atI_2, atI_3, Option.map_some, Option.bind_some, p_gtI, p_ltI, p_geI, p_leI, p_ltS, p_eqI, p_neI, p_eqS, p_neS, p_addI, p_subI, p_negI, p_lenL, p_lenT, p_intB, v_dat, l_tup, a_tup, p_isN, p_notN, set_feed1, set_feed2, p_pow9, p_pow12, p_pow18, e_iter, e_kIter_t, e_kIter_l, e_kIter_s, e_r1, e_zip, e_kZip, zip2_t, zip2_l, e_for, e_kFor, e_lc, e_try, e_kTry_ret, e_raise, e_kRaise, e_callL, ts_nil, ts_cons, e_kMtS, gYes, x_k2, x_k1, x_kc, x_kd, x_kN, x_kCall, x_kIf, x_kSIf, x_kAsg, x_kDrop, Bool.false_eq_true, Bool.not_true, Bool.not_false, tup_2, tup_3, tup_4, p_tup0, p_lst0, p_tup1, p_lst1, p_tup2, p_lst2, p_tup3, p_lst3, p_tup4, p_lst4, p_tup5, p_lst5, p_tup6, p_lst6, p_tup7, p_lst7, p_tup8, p_lst8, p_lstA0]
  rw [List.map_map]
  refine for_go (R := fun x => Ev.kFn (Ev.kS x _) _ = _) (fun (l : List P3) (r : En) (B' : Bs) => (∃ x2 x3 x4 x5, r = [some (.dat (.tuple (ps.map pd))), some (.ref B.length), x2, x3, x4, x5]) ∧ B' = B ++ [some (.lst ((l.map txt).map fun y => .dat (.str y)))]) ps (fun _ _ _ _ => trivial) ⟨⟨_, _, _, _, rfl⟩, rfl⟩ (fun l p rest eps r B1 I => ?_) (fun r' B' I => ?_)
  · obtain ⟨⟨x2, x3, x4, x5, rfl⟩, rfl⟩ := I
    have g : Gp p := h p (by rw [eps]; exact List.mem_append_right _ List.mem_cons_self)
    have q1 : l.length ≤ 1000 := by rw [eps, List.length_append] at hl; omega
    refine ⟨_, tup_asg (ds := [.str p.1, .int p.2.1, .int p.2.2]) rfl, _, B ++ [some (.lst (((l ++ [p]).map txt).map fun y => .dat (.str y)))], .inl ?_, ⟨some (.dat (.str p.1)), some (.dat (.int p.2.1)), some (.dat (.int p.2.2)), some (.dat (.str (txt p))), rfl⟩, rfl⟩
    have fin : pAppend [.ref B.length, .dat (.str (txt p))] (B ++ [some (.lst ((l.map txt).map fun y => .dat (.str y)))]) = some (.dat .none, B ++ [some (.lst (((l ++ [p]).map txt).map fun y => .dat (.str y)))]) := by
      rw [app_end (by rw [List.length_map, List.length_map]; exact q1), List.map_append, List.map_append]
      rfl
    simp -implicitDefEqProofs only [e_P2, e_k2, e_k1, e_P1, e_k0, e_lift, e_C, gVar, e_nil, e_cons, e_kc, e_kd, e_PN, e_kN, e_call, e_kCall, e_if, e_kIf_t, e_kIf_f, e_and, e_kAnd_t, e_kAnd_f, e_or, e_kOr_t, e_kOr_f, e_not, e_kNot, e_seq, e_kS_nx, e_kS_ret, e_kS_brk, e_kS_ct, e_kS_exc, e_pass, e_brk, e_ct, e_sif, e_kSIf_t, e_kSIf_f, e_asg, e_kAsg, e_kO, e_name, e_ret, e_kRet, e_kRet_x, e_drop, e_kDrop, e_set, e_kSet, e_kSet2, e_kSet3, e_kSet4, e_fn, e_kFn_ret, e_kFn_nx, e_kFn_exc, e_fnK, e_kFnK_ret, e_mt, e_kMt2, e_isi, e_kIs, e_kI, e_chain, e_kCh, e_kCh2, e_kCh3_t, e_kCh3_f, e_shut, e_kSh, e_sl, e_kSl, e_kSl2n, e_kSl2i, e_kSl3, e_part, e_kPart, List.map_cons, List.map_nil, List.length_cons, List.length_nil, List.replicate, List.cons_append, List.nil_append, List.getElem?_cons_zero, List.getElem?_cons_succ, List.set_cons_zero, List.set_cons_succ, Nat.reduceSub, Nat.reduceAdd, Nat.zero_add, if_true, if_false, reduceIte, p_ix, itemS, l_dat, l_scr, l_ref0, atI_0, atI_1, atI_2, atI_3, Option.map_some, Option.bind_some, p_gtI, p_ltI, p_geI, p_leI, p_ltS, p_eqI, p_neI, p_eqS, p_neS, p_addI, p_subI, p_negI, p_lenL, p_lenT, p_intB, v_dat, l_tup, a_tup, p_isN, p_notN, set_feed1, set_feed2, p_pow9, p_pow12, p_pow18, e_iter, e_kIter_t, e_kIter_l, e_kIter_s, e_r1, e_zip, e_kZip, zip2_t, zip2_l, e_for, e_kFor, e_lc, e_try, e_kTry_ret, e_raise, e_kRaise, e_callL, ts_nil, ts_cons, e_kMtS, gYes, x_k2, x_k1, x_kc, x_kd, x_kN, x_kCall, x_kIf, x_kSIf, x_kAsg, x_kDrop, Bool.false_eq_true, Bool.not_true, Bool.not_false, tup_2, tup_3, tup_4, p_tup0, p_lst0, p_tup1, p_lst1, p_tup2, p_lst2, p_tup3, p_lst3, p_tup4, p_lst4, p_tup5, p_lst5, p_tup6, p_lst6, p_tup7, p_lst7, p_tup8, p_lst8, add_base g, add_base2 g, p_strI g.n1]
    by_cases q : p.2.1 + 1 < p.2.2
    · rw [decide_eq_true q]
      have et : txt p = base p ++ "-" ++ numS (p.2.2 - 1) := if_pos q
      rw [et] at fin ⊢
      simp -implicitDefEqProofs only [e_P2, e_k2, e_k1, e_P1, e_k0, e_lift, e_C, gVar, e_nil, e_cons, e_kc, e_kd, e_PN, e_kN, e_call, e_kCall, e_if, e_kIf_t, e_kIf_f, e_and, e_kAnd_t, e_kAnd_f, e_or, e_kOr_t, e_kOr_f, e_not, e_kNot, e_seq, e_kS_nx, e_kS_ret, e_kS_brk, e_kS_ct, e_kS_exc, e_pass, e_brk, e_ct, e_sif, e_kSIf_t, e_kSIf_f, e_asg, e_kAsg, e_kO, e_name, e_ret, e_kRet, e_kRet_x, e_drop, e_kDrop, e_set, e_kSet, e_kSet2, e_kSet3, e_kSet4, e_fn, e_kFn_ret, e_kFn_nx, e_kFn_exc, e_fnK, e_kFnK_ret, e_mt, e_kMt2, e_isi, e_kIs, e_kI, e_chain, e_kCh, e_kCh2, e_kCh3_t, e_kCh3_f, e_shut, e_kSh, e_sl, e_kSl, e_kSl2n, e_kSl2i, e_kSl3, e_part, e_kPart, List.map_cons, List.map_nil, List.length_cons, List.length_nil, List.replicate, List.cons_append, List.nil_append, List.getElem?_cons_zero, List.getElem?_cons_succ, List.set_cons_zero, List.set_cons_succ, Nat.reduceSub, Nat.reduceAdd, Nat.zero_add, if_true, if_false, reduceIte, p_ix, itemS, l_dat, l_scr, l_ref0, atI_0, atI_1, atI_2, atI_3, Option.map_some, Option.bind_some, p_gtI, p_ltI, p_geI, p_leI, p_ltS, p_eqI, p_neI, p_eqS, p_neS, p_addI, p_subI, p_negI, p_lenL, p_lenT, p_intB, v_dat, l_tup, a_tup, p_isN, p_notN, set_feed1, set_feed2, p_pow9, p_pow12, p_pow18, e_iter, e_kIter_t, e_kIter_l, e_kIter_s, e_r1, e_zip, e_kZip, zip2_t, zip2_l, e_for, e_kFor, e_lc, e_try, e_kTry_ret, e_raise, e_kRaise, e_callL, ts_nil, ts_cons, e_kMtS, gYes, x_k2, x_k1, x_kc, x_kd, x_kN, x_kCall, x_kIf, x_kSIf, x_kAsg, x_kDrop, Bool.false_eq_true, Bool.not_true, Bool.not_false, tup_2, tup_3, tup_4, p_tup0, p_lst0, p_tup1, p_lst1, p_tup2, p_lst2, p_tup3, p_lst3, p_tup4, p_lst4, p_tup5, p_lst5, p_tup6, p_lst6, p_tup7, p_lst7, p_tup8, p_lst8, add_dash g, add_dash2 g, p_strI g.n2, e_kMtL l_end, fin]
    · rw [decide_eq_false q]
      have et : txt p = base p := if_neg q
      rw [et] at fin ⊢
      simp -implicitDefEqProofs only [e_P2, e_k2, e_k1, e_P1, e_k0, e_lift, e_C, gVar, e_nil, e_cons, e_kc, e_kd, e_PN, e_kN, e_call, e_kCall, e_if, e_kIf_t, e_kIf_f, e_and, e_kAnd_t, e_kAnd_f, e_or, e_kOr_t, e_kOr_f, e_not, e_kNot, e_seq, e_kS_nx, e_kS_ret, e_kS_brk, e_kS_ct, e_kS_exc, e_pass, e_brk, e_ct, e_sif, e_kSIf_t, e_kSIf_f, e_asg, e_kAsg, e_kO, e_name, e_ret, e_kRet, e_kRet_x, e_drop, e_kDrop, e_set, e_kSet, e_kSet2, e_kSet3, e_kSet4, e_fn, e_kFn_ret, e_kFn_nx, e_kFn_exc, e_fnK, e_kFnK_ret, e_mt, e_kMt2, e_isi, e_kIs, e_kI, e_chain, e_kCh, e_kCh2, e_kCh3_t, e_kCh3_f, e_shut, e_kSh, e_sl, e_kSl, e_kSl2n, e_kSl2i, e_kSl3, e_part, e_kPart, List.map_cons, List.map_nil, List.length_cons, List.length_nil, List.replicate, List.cons_append, List.nil_append, List.getElem?_cons_zero, List.getElem?_cons_succ, List.set_cons_zero, List.set_cons_succ, Nat.reduceSub, Nat.reduceAdd, Nat.zero_add, if_true, if_false, reduceIte, p_ix, itemS, l_dat, l_scr, l_ref0, atI_0, atI_1, atI_2, atI_3, Option.map_some, Option.bind_some, p_gtI, p_ltI, p_geI, p_leI, p_ltS, p_eqI, p_neI, p_eqS, p_neS, p_addI, p_subI, p_negI, p_lenL, p_lenT, p_intB, v_dat, l_tup, a_tup, p_isN, p_notN, set_feed1, set_feed2, p_pow9, p_pow12, p_pow18, e_iter, e_kIter_t, e_kIter_l, e_kIter_s, e_r1, e_zip, e_kZip, zip2_t, zip2_l, e_for, e_kFor, e_lc, e_try, e_kTry_ret, e_raise, e_kRaise, e_callL, ts_nil, ts_cons, e_kMtS, gYes, x_k2, x_k1, x_kc, x_kd, x_kN, x_kCall, x_kIf, x_kSIf, x_kAsg, x_kDrop, Bool.false_eq_true, Bool.not_true, Bool.not_false, tup_2, tup_3, tup_4, p_tup0, p_lst0, p_tup1, p_lst1, p_tup2, p_lst2, p_tup3, p_lst3, p_tup4, p_lst4, p_tup5, p_lst5, p_tup6, p_lst6, p_tup7, p_lst7, p_tup8, p_lst8, e_kMtL l_end, fin]
  · obtain ⟨⟨x2, x3, x4, x5, rfl⟩, rfl⟩ := I
    simp -implicitDefEqProofs only [e_P2, e_k2, e_k1, e_P1, e_k0, e_lift, e_C, gVar, e_nil, e_cons, e_kc, e_kd, e_PN, e_kN, e_call, e_kCall, e_if, e_kIf_t, e_kIf_f, e_and, e_kAnd_t, e_kAnd_f, e_or, e_kOr_t, e_kOr_f, e_not, e_kNot, e_seq, e_kS_nx, e_kS_ret, e_kS_brk, e_kS_ct, e_kS_exc, e_pass, e_brk, e_ct, e_sif, e_kSIf_t, e_kSIf_f, e_asg, e_kAsg, e_kO, e_name, e_ret, e_kRet, e_kRet_x, e_drop, e_kDrop, e_set, e_kSet, e_kSet2, e_kSet3, e_kSet4, e_fn, e_kFn_ret, e_kFn_nx, e_kFn_exc, e_fnK, e_kFnK_ret, e_mt, e_kMt2, e_isi, e_kIs, e_kI, e_chain, e_kCh, e_kCh2, e_kCh3_t, e_kCh3_f, e_shut, e_kSh, e_sl, e_kSl, e_kSl2n, e_kSl2i, e_kSl3, e_part, e_kPart, List.map_cons, List.map_nil, List.length_cons, List.length_nil, List.replicate, List.cons_append, List.nil_append, List.getElem?_cons_zero, List.getElem?_cons_succ, List.set_cons_zero, List.set_cons_succ, Nat.reduceSub, Nat.reduceAdd, Nat.zero_add, if_true, if_false, reduceIte, p_ix, itemS, l_dat, l_scr, l_ref0, atI_0, atI_1, atI_2, atI_3, Option.map_some, Option.bind_some, p_gtI, p_ltI, p_geI, p_leI, p_ltS, p_eqI, p_neI, p_eqS, p_neS, p_addI, p_subI, p_negI, p_lenL, p_lenT, p_intB, v_dat, l_tup, a_tup, p_isN, p_notN, set_feed1, set_feed2, p_pow9, p_pow12, p_pow18, e_iter, e_kIter_t, e_kIter_l, e_kIter_s, e_r1, e_zip, e_kZip, zip2_t, zip2_l, e_for, e_kFor, e_lc, e_try, e_kTry_ret, e_raise, e_kRaise, e_callL, ts_nil, ts_cons, e_kMtS, gYes, x_k2, x_k1, x_kc, x_kd, x_kN, x_kCall, x_kIf, x_kSIf, x_kAsg, x_kDrop, Bool.false_eq_true, Bool.not_true, Bool.not_false, tup_2, tup_3, tup_4, p_tup0, p_lst0, p_tup1, p_lst1, p_tup2, p_lst2, p_tup3, p_lst3, p_tup4, p_lst4, p_tup5, p_lst5, p_tup6, p_lst6, p_tup7, p_lst7, p_tup8, p_lst8, p_joinR (row_fits h hl) l_end]
    rw [endF_dat (hB.app (Flat.nil.cons (flat_str _))), List.take_left]
    rfl
/-! ### readers of words and numbers -/
def lets : Str := "abcdefghijklmnopqrstuvwxyz"
def wordB (y : Str) : Bool := (decide (1 ≤ (y.length : Int)) && decide ((y.length : Int) ≤ 8)) && (y.cps.toList.map fun c => decide (c ∈ lets.cps.toList)).all id
theorem big {n : Nat} (h : n ≤ 100000) : n ≤ sizeLine := by rw [sizeLine_eq]; omega
theorem is_word_ok {y : Str} {B : Bs} (hl : y.length ≤ 100000) (hB : Flat B) : m_is_word [.dat (.str y)] B = .ok (.dat (.bool (wordB y))) B := by
  unfold m_is_word
  simp -implicitDefEqProofs only [e_P2, e_k2, e_k1, e_P1, e_k0, e_lift, e_C, gVar, e_nil, e_cons, e_kc, e_kd, e_PN, e_kN, e_call, e_kCall, e_if, e_kIf_t, e_kIf_f, e_and, e_kAnd_t, e_kAnd_f, e_or, e_kOr_t, e_kOr_f, e_not, e_kNot, e_seq, e_kS_nx, e_kS_ret, e_kS_brk, e_kS_ct, e_kS_exc, e_pass, e_brk, e_ct, e_sif, e_kSIf_t, e_kSIf_f, e_asg, e_kAsg, e_kO, e_name, e_ret, e_kRet, e_kRet_x, e_drop, e_kDrop, e_set, e_kSet, e_kSet2, e_kSet3, e_kSet4, e_fn, e_kFn_ret, e_kFn_nx, e_kFn_exc, e_fnK, e_kFnK_ret, e_mt, e_kMt2, e_isi, e_kIs, e_kI, e_chain, e_kCh, e_kCh2, e_kCh3_t, e_kCh3_f, e_shut, e_kSh, e_sl, e_kSl, e_kSl2n, e_kSl2i, e_kSl3, e_part, e_kPart, List.map_cons, List.map_nil, List.length_cons, List.length_nil, List.replicate, List.cons_append, List.nil_append, List.getElem?_cons_zero, List.getElem?_cons_succ, List.set_cons_zero, List.set_cons_succ, Nat.reduceSub, Nat.reduceAdd, Nat.zero_add, if_true, if_false, reduceIte, p_ix, itemS, l_dat, l_scr, l_ref0, atI_0, atI_1, atI_2, atI_3, Option.map_some, Option.bind_some, p_gtI, p_ltI, p_geI, p_leI, p_ltS, p_eqI, p_neI, p_eqS, p_neS, p_addI, p_subI, p_negI, p_lenL, p_lenT, p_intB, v_dat, l_tup, a_tup, p_isN, p_notN, set_feed1, set_feed2, p_pow9, p_pow12, p_pow18, e_iter, e_kIter_t, e_kIter_l, e_kIter_s, e_r1, e_zip, e_kZip, zip2_t, zip2_l, e_for, e_kFor, e_lc, e_try, e_kTry_ret, e_raise, e_kRaise, e_callL, ts_nil, ts_cons, e_kMtS, gYes, x_k2, x_k1, x_kc, x_kd, x_kN, x_kCall, x_kIf, x_kSIf, x_kAsg, x_kDrop, Bool.false_eq_true, Bool.not_true, Bool.not_false, tup_2, tup_3, tup_4, p_tup0, p_lst0, p_tup1, p_lst1, p_tup2, p_lst2, p_tup3, p_lst3, p_tup4, p_lst4, p_tup5, p_lst5, p_tup6, p_lst6, p_tup7, p_lst7, p_tup8, p_lst8]
  unfold b_is_word
  simp -implicitDefEqProofs only [e_P2, e_k2, e_k1, e_P1, e_k0, e_lift, e_C, gVar, e_nil, e_cons, e_kc, e_kd, e_PN, e_kN, e_call, e_kCall, e_if, e_kIf_t, e_kIf_f, e_and, e_kAnd_t, e_kAnd_f, e_or, e_kOr_t, e_kOr_f, e_not, e_kNot, e_seq, e_kS_nx, e_kS_ret, e_kS_brk, e_kS_ct, e_kS_exc, e_pass, e_brk, e_ct, e_sif, e_kSIf_t, e_kSIf_f, e_asg, e_kAsg, e_kO, e_name, e_ret, e_kRet, e_kRet_x, e_drop, e_kDrop, e_set, e_kSet, e_kSet2, e_kSet3, e_kSet4, e_fn, e_kFn_ret, e_kFn_nx, e_kFn_exc, e_fnK, e_kFnK_ret, e_mt, e_kMt2, e_isi, e_kIs, e_kI, e_chain, e_kCh, e_kCh2, e_kCh3_t, e_kCh3_f, e_shut, e_kSh, e_sl, e_kSl, e_kSl2n, e_kSl2i, e_kSl3, e_part, e_kPart, List.map_cons, List.map_nil, List.length_cons, List.length_nil, List.replicate, List.cons_append, List.nil_append, List.getElem?_cons_zero, List.getElem?_cons_succ, List.set_cons_zero, List.set_cons_succ, Nat.reduceSub, Nat.reduceAdd, Nat.zero_add, if_true, if_false, reduceIte, p_ix, itemS, l_dat, l_scr, l_ref0, atI_0, atI_1, atI_2, atI_3, Option.map_some, Option.bind_some, p_gtI, p_ltI, p_geI, p_leI, p_ltS, p_eqI, p_neI, p_eqS, p_neS, p_addI, p_subI, p_negI, p_lenL, p_lenT, p_intB, v_dat, l_tup, a_tup, p_isN, p_notN, set_feed1, set_feed2, p_pow9, p_pow12, p_pow18, e_iter, e_kIter_t, e_kIter_l, e_kIter_s, e_r1, e_zip, e_kZip, zip2_t, zip2_l, e_for, e_kFor, e_lc, e_try, e_kTry_ret, e_raise, e_kRaise, e_callL, ts_nil, ts_cons, e_kMtS, gYes, x_k2, x_k1, x_kc, x_kd, x_kN, x_kCall, x_kIf, x_kSIf, x_kAsg, x_kDrop, Bool.false_eq_true, Bool.not_true, Bool.not_false, tup_2, tup_3, tup_4, p_tup0, p_lst0, p_tup1, p_lst1, p_tup2, p_lst2, p_tup3, p_lst3, p_tup4, p_lst4, p_tup5, p_lst5, p_tup6, p_lst6, p_tup7, p_lst7, p_tup8, p_lst8, tyD, show isTy "str" "str" = true from by decide, p_lenS (big hl)]
  by_cases q1 : 1 ≤ (y.length : Int)
  · by_cases q2 : (y.length : Int) ≤ 8
    · rw [decide_eq_true q1]
      simp -implicitDefEqProofs only [e_P2, e_k2, e_k1, e_P1, e_k0, e_lift, e_C, gVar, e_nil, e_cons, e_kc, e_kd, e_PN, e_kN, e_call, e_kCall, e_if, e_kIf_t, e_kIf_f, e_and, e_kAnd_t, e_kAnd_f, e_or, e_kOr_t, e_kOr_f, e_not, e_kNot, e_seq, e_kS_nx, e_kS_ret, e_kS_brk, e_kS_ct, e_kS_exc, e_pass, e_brk, e_ct, e_sif, e_kSIf_t, e_kSIf_f, e_asg, e_kAsg, e_kO, e_name, e_ret, e_kRet, e_kRet_x, e_drop, e_kDrop, e_set, e_kSet, e_kSet2, e_kSet3, e_kSet4, e_fn, e_kFn_ret, e_kFn_nx, e_kFn_exc, e_fnK, e_kFnK_ret, e_mt, e_kMt2, e_isi, e_kIs, e_kI, e_chain, e_kCh, e_kCh2, e_kCh3_t, e_kCh3_f, e_shut, e_kSh, e_sl, e_kSl, e_kSl2n, e_kSl2i, e_kSl3, e_part, e_kPart, List.map_cons, List.map_nil, List.length_cons, List.length_nil, List.replicate, List.cons_append, List.nil_append, List.getElem?_cons_zero, List.getElem?_cons_succ, List.set_cons_zero, List.set_cons_succ, Nat.reduceSub, Nat.reduceAdd, Nat.zero_add, if_true, if_false, reduceIte, p_ix, itemS, l_dat, l_scr, l_ref0, atI_0, atI_1, atI_2, atI_3, Option.map_some, Option.bind_some, p_gtI, p_ltI, p_geI, p_leI, p_ltS, p_eqI, p_neI, p_eqS, p_neS, p_addI, p_subI, p_negI, p_lenL, p_lenT, p_intB, v_dat, l_tup, a_tup, p_isN, p_notN, set_feed1, set_feed2, p_pow9, p_pow12, p_pow18, e_iter, e_kIter_t, e_kIter_l, e_kIter_s, e_r1, e_zip, e_kZip, zip2_t, zip2_l, e_for, e_kFor, e_lc, e_try, e_kTry_ret, e_raise, e_kRaise, e_callL, ts_nil, ts_cons, e_kMtS, gYes, x_k2, x_k1, x_kc, x_kd, x_kN, x_kCall, x_kIf, x_kSIf, x_kAsg, x_kDrop, Bool.false_eq_true, Bool.not_true, Bool.not_false, tup_2, tup_3, tup_4, p_tup0, p_lst0, p_tup1, p_lst1, p_tup2, p_lst2, p_tup3, p_lst3, p_tup4, p_lst4, p_tup5, p_lst5, p_tup6, p_lst6, p_tup7, p_lst7, p_tup8, p_lst8]
      rw [decide_eq_true q2]
      simp -implicitDefEqProofs only [e_P2, e_k2, e_k1, e_P1, e_k0, e_lift, e_C, gVar, e_nil, e_cons, e_kc, e_kd, e_PN, e_kN, e_call, e_kCall, e_if, e_kIf_t, e_kIf_f, e_and, e_kAnd_t, e_kAnd_f, e_or, e_kOr_t, e_kOr_f, e_not, e_kNot, e_seq, e_kS_nx, e_kS_ret, e_kS_brk, e_kS_ct, e_kS_exc, e_pass, e_brk, e_ct, e_sif, e_kSIf_t, e_kSIf_f, e_asg, e_kAsg, e_kO, e_name, e_ret, e_kRet, e_kRet_x, e_drop, e_kDrop, e_set, e_kSet, e_kSet2, e_kSet3, e_kSet4, e_fn, e_kFn_ret, e_kFn_nx, e_kFn_exc, e_fnK, e_kFnK_ret, e_mt, e_kMt2, e_isi, e_kIs, e_kI, e_chain, e_kCh, e_kCh2, e_kCh3_t, e_kCh3_f, e_shut, e_kSh, e_sl, e_kSl, e_kSl2n, e_kSl2i, e_kSl3, e_part, e_kPart, List.map_cons, List.map_nil, List.length_cons, List.length_nil, List.replicate, List.cons_append, List.nil_append, List.getElem?_cons_zero, List.getElem?_cons_succ, List.set_cons_zero, List.set_cons_succ, Nat.reduceSub, Nat.reduceAdd, Nat.zero_add, if_true, if_false, reduceIte, p_ix, itemS, l_dat, l_scr, l_ref0, atI_0, atI_1, atI_2, atI_3, Option.map_some, Option.bind_some, p_gtI, p_ltI, p_geI, p_leI, p_ltS, p_eqI, p_neI, p_eqS, p_neS, p_addI, p_subI, p_negI, p_lenL, p_lenT, p_intB, v_dat, l_tup, a_tup, p_isN, p_notN, set_feed1, set_feed2, p_pow9, p_pow12, p_pow18, e_iter, e_kIter_t, e_kIter_l, e_kIter_s, e_r1, e_zip, e_kZip, zip2_t, zip2_l, e_for, e_kFor, e_lc, e_try, e_kTry_ret, e_raise, e_kRaise, e_callL, ts_nil, ts_cons, e_kMtS, gYes, x_k2, x_k1, x_kc, x_kd, x_kN, x_kCall, x_kIf, x_kSIf, x_kAsg, x_kDrop, Bool.false_eq_true, Bool.not_true, Bool.not_false, tup_2, tup_3, tup_4, p_tup0, p_lst0, p_tup1, p_lst1, p_tup2, p_lst2, p_tup3, p_lst3, p_tup4, p_lst4, p_tup5, p_lst5, p_tup6, p_lst6, p_tup7, p_lst7, p_tup8, p_lst8]
      rw [e_kLc (by rw [signs_len]; exact hl), show signsOf y = y.cps.toList.map (fun c => S.dat (.str ⟨#[c]⟩)) from rfl, lc_mapL (f := fun c => .dat (.bool (decide (c ∈ lets.cps.toList)))) y.cps.toList [] trivial fun c hc => ⟨_, rfl, rfl, ?_⟩]
      · rw [show (y.cps.toList.map fun c => S.dat (.bool (decide (c ∈ lets.cps.toList)))) = ((y.cps.toList.map fun c => decide (c ∈ lets.cps.toList)).map PyData.bool).map S.dat by rw [List.map_map, List.map_map]; rfl]
        simp -implicitDefEqProofs only [e_P2, e_k2, e_k1, e_P1, e_k0, e_lift, e_C, gVar, e_nil, e_cons, e_kc, e_kd, e_PN, e_kN, e_call, e_kCall, e_if, e_kIf_t, e_kIf_f, e_and, e_kAnd_t, e_kAnd_f, e_or, e_kOr_t, e_kOr_f, e_not, e_kNot, e_seq, e_kS_nx, e_kS_ret, e_kS_brk, e_kS_ct, e_kS_exc, e_pass, e_brk, e_ct, e_sif, e_kSIf_t, e_kSIf_f, e_asg, e_kAsg, e_kO, e_name, e_ret, e_kRet, e_kRet_x, e_drop, e_kDrop, e_set, e_kSet, e_kSet2, e_kSet3, e_kSet4, e_fn, e_kFn_ret, e_kFn_nx, e_kFn_exc, e_fnK, e_kFnK_ret, e_mt, e_kMt2, e_isi, e_kIs, e_kI, e_chain, e_kCh, e_kCh2, e_kCh3_t, e_kCh3_f, e_shut, e_kSh, e_sl, e_kSl, e_kSl2n, e_kSl2i, e_kSl3, e_part, e_kPart, List.map_cons, List.map_nil, List.length_cons, List.length_nil, List.replicate, List.cons_append, List.nil_append, List.getElem?_cons_zero, List.getElem?_cons_succ, List.set_cons_zero, List.set_cons_succ, Nat.reduceSub, Nat.reduceAdd, Nat.zero_add, if_true, if_false, reduceIte, p_ix, itemS, l_dat, l_scr, l_ref0, atI_0, atI_1, atI_2, atI_3, Option.map_some, Option.bind_some, p_gtI, p_ltI, p_geI, p_leI, p_ltS, p_eqI, p_neI, p_eqS, p_neS, p_addI, p_subI, p_negI, p_lenL, p_lenT, p_intB, v_dat, l_tup, a_tup, p_isN, p_notN, set_feed1, set_feed2, p_pow9, p_pow12, p_pow18, e_iter, e_kIter_t, e_kIter_l, e_kIter_s, e_r1, e_zip, e_kZip, zip2_t, zip2_l, e_for, e_kFor, e_lc, e_try, e_kTry_ret, e_raise, e_kRaise, e_callL, ts_nil, ts_cons, e_kMtS, gYes, x_k2, x_k1, x_kc, x_kd, x_kN, x_kCall, x_kIf, x_kSIf, x_kAsg, x_kDrop, Bool.false_eq_true, Bool.not_true, Bool.not_false, tup_2, tup_3, tup_4, p_tup0, p_lst0, p_tup1, p_lst1, p_tup2, p_lst2, p_tup3, p_lst3, p_tup4, p_lst4, p_tup5, p_lst5, p_tup6, p_lst6, p_tup7, p_lst7, p_tup8, p_lst8]
        rw [p_lst (by rw [List.length_map, List.length_map, Array.length_toList]; exact big hl)]
        simp -implicitDefEqProofs only [e_P2, e_k2, e_k1, e_P1, e_k0, e_lift, e_C, gVar, e_nil, e_cons, e_kc, e_kd, e_PN, e_kN, e_call, e_kCall, e_if, e_kIf_t, e_kIf_f, e_and, e_kAnd_t, e_kAnd_f, e_or, e_kOr_t, e_kOr_f, e_not, e_kNot, e_seq, e_kS_nx, e_kS_ret, e_kS_brk, e_kS_ct, e_kS_exc, e_pass, e_brk, e_ct, e_sif, e_kSIf_t, e_kSIf_f, e_asg, e_kAsg, e_kO, e_name, e_ret, e_kRet, e_kRet_x, e_drop, e_kDrop, e_set, e_kSet, e_kSet2, e_kSet3, e_kSet4, e_fn, e_kFn_ret, e_kFn_nx, e_kFn_exc, e_fnK, e_kFnK_ret, e_mt, e_kMt2, e_isi, e_kIs, e_kI, e_chain, e_kCh, e_kCh2, e_kCh3_t, e_kCh3_f, e_shut, e_kSh, e_sl, e_kSl, e_kSl2n, e_kSl2i, e_kSl3, e_part, e_kPart, List.map_cons, List.map_nil, List.length_cons, List.length_nil, List.replicate, List.cons_append, List.nil_append, List.getElem?_cons_zero, List.getElem?_cons_succ, List.set_cons_zero, List.set_cons_succ, Nat.reduceSub, Nat.reduceAdd, Nat.zero_add, if_true, if_false, reduceIte, p_ix, itemS, l_dat, l_scr, l_ref0, atI_0, atI_1, atI_2, atI_3, Option.map_some, Option.bind_some, p_gtI, p_ltI, p_geI, p_leI, p_ltS, p_eqI, p_neI, p_eqS, p_neS, p_addI, p_subI, p_negI, p_lenL, p_lenT, p_intB, v_dat, l_tup, a_tup, p_isN, p_notN, set_feed1, set_feed2, p_pow9, p_pow12, p_pow18, e_iter, e_kIter_t, e_kIter_l, e_kIter_s, e_r1, e_zip, e_kZip, zip2_t, zip2_l, e_for, e_kFor, e_lc, e_try, e_kTry_ret, e_raise, e_kRaise, e_callL, ts_nil, ts_cons, e_kMtS, gYes, x_k2, x_k1, x_kc, x_kd, x_kN, x_kCall, x_kIf, x_kSIf, x_kAsg, x_kDrop, Bool.false_eq_true, Bool.not_true, Bool.not_false, tup_2, tup_3, tup_4, p_tup0, p_lst0, p_tup1, p_lst1, p_tup2, p_lst2, p_tup3, p_lst3, p_tup4, p_lst4, p_tup5, p_lst5, p_tup6, p_lst6, p_tup7, p_lst7, p_tup8, p_lst8, p_allL]
        rw [endF_self hB]
        unfold wordB
        rw [decide_eq_true q1, decide_eq_true q2]
        rfl
      · simp -implicitDefEqProofs only [e_P2, e_k2, e_k1, e_P1, e_k0, e_lift, e_C, gVar, e_nil, e_cons, e_kc, e_kd, e_PN, e_kN, e_call, e_kCall, e_if, e_kIf_t, e_kIf_f, e_and, e_kAnd_t, e_kAnd_f, e_or, e_kOr_t, e_kOr_f, e_not, e_kNot, e_seq, e_kS_nx, e_kS_ret, e_kS_brk, e_kS_ct, e_kS_exc, e_pass, e_brk, e_ct, e_sif, e_kSIf_t, e_kSIf_f, e_asg, e_kAsg, e_kO, e_name, e_ret, e_kRet, e_kRet_x, e_drop, e_kDrop, e_set, e_kSet, e_kSet2, e_kSet3, e_kSet4, e_fn, e_kFn_ret, e_kFn_nx, e_kFn_exc, e_fnK, e_kFnK_ret, e_mt, e_kMt2, e_isi, e_kIs, e_kI, e_chain, e_kCh, e_kCh2, e_kCh3_t, e_kCh3_f, e_shut, e_kSh, e_sl, e_kSl, e_kSl2n, e_kSl2i, e_kSl3, e_part, e_kPart, List.map_cons, List.map_nil, List.length_cons, List.length_nil, List.replicate, List.cons_append, List.nil_append, List.getElem?_cons_zero, List.getElem?_cons_succ, List.set_cons_zero, List.set_cons_succ, Nat.reduceSub, Nat.reduceAdd, Nat.zero_add, if_true, if_false, reduceIte, p_ix, itemS, l_dat, l_scr, l_ref0, atI_0, atI_1, atI_2, atI_3, Option.map_some, Option.bind_some, p_gtI, p_ltI, p_geI, p_leI, p_ltS, p_eqI, p_neI, p_eqS, p_neS, p_addI, p_subI, p_negI, p_lenL, p_lenT, p_intB, v_dat, l_tup, a_tup, p_isN, p_notN, set_feed1, set_feed2, p_pow9, p_pow12, p_pow18, e_iter, e_kIter_t, e_kIter_l, e_kIter_s, e_r1, e_zip, e_kZip, zip2_t, zip2_l, e_for, e_kFor, e_lc, e_try, e_kTry_ret, e_raise, e_kRaise, e_callL, ts_nil, ts_cons, e_kMtS, gYes, x_k2, x_k1, x_kc, x_kd, x_kN, x_kCall, x_kIf, x_kSIf, x_kAsg, x_kDrop, Bool.false_eq_true, Bool.not_true, Bool.not_false, tup_2, tup_3, tup_4, p_tup0, p_lst0, p_tup1, p_lst1, p_tup2, p_lst2, p_tup3, p_lst3, p_tup4, p_lst4, p_tup5, p_lst5, p_tup6, p_lst6, p_tup7, p_lst7, p_tup8, p_lst8, wipeE, p_inSign]
        rfl
    · rw [decide_eq_true q1]
      simp -implicitDefEqProofs only [e_P2, e_k2, e_k1, e_P1, e_k0, e_lift, e_C, gVar, e_nil, e_cons, e_kc, e_kd, e_PN, e_kN, e_call, e_kCall, e_if, e_kIf_t, e_kIf_f, e_and, e_kAnd_t, e_kAnd_f, e_or, e_kOr_t, e_kOr_f, e_not, e_kNot, e_seq, e_kS_nx, e_kS_ret, e_kS_brk, e_kS_ct, e_kS_exc, e_pass, e_brk, e_ct, e_sif, e_kSIf_t, e_kSIf_f, e_asg, e_kAsg, e_kO, e_name, e_ret, e_kRet, e_kRet_x, e_drop, e_kDrop, e_set, e_kSet, e_kSet2, e_kSet3, e_kSet4, e_fn, e_kFn_ret, e_kFn_nx, e_kFn_exc, e_fnK, e_kFnK_ret, e_mt, e_kMt2, e_isi, e_kIs, e_kI, e_chain, e_kCh, e_kCh2, e_kCh3_t, e_kCh3_f, e_shut, e_kSh, e_sl, e_kSl, e_kSl2n, e_kSl2i, e_kSl3, e_part, e_kPart, List.map_cons, List.map_nil, List.length_cons, List.length_nil, List.replicate, List.cons_append, List.nil_append, List.getElem?_cons_zero, List.getElem?_cons_succ, List.set_cons_zero, List.set_cons_succ, Nat.reduceSub, Nat.reduceAdd, Nat.zero_add, if_true, if_false, reduceIte, p_ix, itemS, l_dat, l_scr, l_ref0, atI_0, atI_1, atI_2, atI_3, Option.map_some, Option.bind_some, p_gtI, p_ltI, p_geI, p_leI, p_ltS, p_eqI, p_neI, p_eqS, p_neS, p_addI, p_subI, p_negI, p_lenL, p_lenT, p_intB, v_dat, l_tup, a_tup, p_isN, p_notN, set_feed1, set_feed2, p_pow9, p_pow12, p_pow18, e_iter, e_kIter_t, e_kIter_l, e_kIter_s, e_r1, e_zip, e_kZip, zip2_t, zip2_l, e_for, e_kFor, e_lc, e_try, e_kTry_ret, e_raise, e_kRaise, e_callL, ts_nil, ts_cons, e_kMtS, gYes, x_k2, x_k1, x_kc, x_kd, x_kN, x_kCall, x_kIf, x_kSIf, x_kAsg, x_kDrop, Bool.false_eq_true, Bool.not_true, Bool.not_false, tup_2, tup_3, tup_4, p_tup0, p_lst0, p_tup1, p_lst1, p_tup2, p_lst2, p_tup3, p_lst3, p_tup4, p_lst4, p_tup5, p_lst5, p_tup6, p_lst6, p_tup7, p_lst7, p_tup8, p_lst8]
      rw [decide_eq_false q2]
      simp -implicitDefEqProofs only [e_P2, e_k2, e_k1, e_P1, e_k0, e_lift, e_C, gVar, e_nil, e_cons, e_kc, e_kd, e_PN, e_kN, e_call, e_kCall, e_if, e_kIf_t, e_kIf_f, e_and, e_kAnd_t, e_kAnd_f, e_or, e_kOr_t, e_kOr_f, e_not, e_kNot, e_seq, e_kS_nx, e_kS_ret, e_kS_brk, e_kS_ct, e_kS_exc, e_pass, e_brk, e_ct, e_sif, e_kSIf_t, e_kSIf_f, e_asg, e_kAsg, e_kO, e_name, e_ret, e_kRet, e_kRet_x, e_drop, e_kDrop, e_set, e_kSet, e_kSet2, e_kSet3, e_kSet4, e_fn, e_kFn_ret, e_kFn_nx, e_kFn_exc, e_fnK, e_kFnK_ret, e_mt, e_kMt2, e_isi, e_kIs, e_kI, e_chain, e_kCh, e_kCh2, e_kCh3_t, e_kCh3_f, e_shut, e_kSh, e_sl, e_kSl, e_kSl2n, e_kSl2i, e_kSl3, e_part, e_kPart, List.map_cons, List.map_nil, List.length_cons, List.length_nil, List.replicate, List.cons_append, List.nil_append, List.getElem?_cons_zero, List.getElem?_cons_succ, List.set_cons_zero, List.set_cons_succ, Nat.reduceSub, Nat.reduceAdd, Nat.zero_add, if_true, if_false, reduceIte, p_ix, itemS, l_dat, l_scr, l_ref0, atI_0, atI_1, atI_2, atI_3, Option.map_some, Option.bind_some, p_gtI, p_ltI, p_geI, p_leI, p_ltS, p_eqI, p_neI, p_eqS, p_neS, p_addI, p_subI, p_negI, p_lenL, p_lenT, p_intB, v_dat, l_tup, a_tup, p_isN, p_notN, set_feed1, set_feed2, p_pow9, p_pow12, p_pow18, e_iter, e_kIter_t, e_kIter_l, e_kIter_s, e_r1, e_zip, e_kZip, zip2_t, zip2_l, e_for, e_kFor, e_lc, e_try, e_kTry_ret, e_raise, e_kRaise, e_callL, ts_nil, ts_cons, e_kMtS, gYes, x_k2, x_k1, x_kc, x_kd, x_kN, x_kCall, x_kIf, x_kSIf, x_kAsg, x_kDrop, Bool.false_eq_true, Bool.not_true, Bool.not_false, tup_2, tup_3, tup_4, p_tup0, p_lst0, p_tup1, p_lst1, p_tup2, p_lst2, p_tup3, p_lst3, p_tup4, p_lst4, p_tup5, p_lst5, p_tup6, p_lst6, p_tup7, p_lst7, p_tup8, p_lst8]
      rw [endF_self hB]
      unfold wordB
      rw [decide_eq_false q2, Bool.and_false, Bool.false_and]
  · rw [decide_eq_false q1]
    simp -implicitDefEqProofs only [e_P2, e_k2, e_k1, e_P1, e_k0, e_lift, e_C, gVar, e_nil, e_cons, e_kc, e_kd, e_PN, e_kN, e_call, e_kCall, e_if, e_kIf_t, e_kIf_f, e_and, e_kAnd_t, e_kAnd_f, e_or, e_kOr_t, e_kOr_f, e_not, e_kNot, e_seq, e_kS_nx, e_kS_ret, e_kS_brk, e_kS_ct, e_kS_exc, e_pass, e_brk, e_ct, e_sif, e_kSIf_t, e_kSIf_f, e_asg, e_kAsg, e_kO, e_name, e_ret, e_kRet, e_kRet_x, e_drop, e_kDrop, e_set, e_kSet, e_kSet2, e_kSet3, e_kSet4, e_fn, e_kFn_ret, e_kFn_nx, e_kFn_exc, e_fnK, e_kFnK_ret, e_mt, e_kMt2, e_isi, e_kIs, e_kI, e_chain, e_kCh, e_kCh2, e_kCh3_t, e_kCh3_f, e_shut, e_kSh, e_sl, e_kSl, e_kSl2n, e_kSl2i, e_kSl3, e_part, e_kPart, List.map_cons, List.map_nil, List.length_cons, List.length_nil, List.replicate, List.cons_append, List.nil_append, List.getElem?_cons_zero, List.getElem?_cons_succ, List.set_cons_zero, List.set_cons_succ, Nat.reduceSub, Nat.reduceAdd, Nat.zero_add, if_true, if_false, reduceIte, p_ix, itemS, l_dat, l_scr, l_ref0, atI_0, atI_1, atI_2, atI_3, Option.map_some, Option.bind_some, p_gtI, p_ltI, p_geI, p_leI, p_ltS, p_eqI, p_neI, p_eqS, p_neS, p_addI, p_subI, p_negI, p_lenL, p_lenT, p_intB, v_dat, l_tup, a_tup, p_isN, p_notN, set_feed1, set_feed2, p_pow9, p_pow12, p_pow18, e_iter, e_kIter_t, e_kIter_l, e_kIter_s, e_r1, e_zip, e_kZip, zip2_t, zip2_l, e_for, e_kFor, e_lc, e_try, e_kTry_ret, e_raise, e_kRaise, e_callL, ts_nil, ts_cons, e_kMtS, gYes, x_k2, x_k1, x_kc, x_kd, x_kN, x_kCall, x_kIf, x_kSIf, x_kAsg, x_kDrop, Bool.false_eq_true, Bool.not_true, Bool.not_false, tup_2, tup_3, tup_4, p_tup0, p_lst0, p_tup1, p_lst1, p_tup2, p_lst2, p_tup3, p_lst3, p_tup4, p_lst4, p_tup5, p_lst5, p_tup6, p_lst6, p_tup7, p_lst7, p_tup8, p_lst8]
    rw [endF_self hB]
    unfold wordB
    rw [decide_eq_false q1]
    rfl
theorem is_series_ok {y : Str} {B : Bs} (hl : y.length ≤ 100000) (hB : Flat B) : m_is_series [.dat (.str y)] B = .ok (.dat (.bool (wordB y))) B := is_word_ok hl hB
theorem words_good : ∀ s ∈ words7, wordB s = true := by decide +kernel
theorem str_app_assoc (x y z : Str) : x ++ y ++ z = x ++ (y ++ z) := TL.ext_tl (by rw [TL.tl_append, TL.tl_append, TL.tl_append, TL.tl_append, List.append_assoc])
theorem p_part {a b : Str} {B : Bs} (h : (b.length == 0) = false) (ha : a.length ≤ 100000) : pPartition [.dat (.str a), .dat (.str b)] B = some (.dat (.tuple [.str (Txt.partition a b).1, .str (Txt.partition a b).2.1, .str (Txt.partition a b).2.2]), B) := if_pos ⟨h, big ha⟩
theorem number_none {y : Str} {lo hi : Int} {B : Bs} (hy : y.length = 0) (hB : Flat B) : m_number_in [.dat (.str y), .dat (.int lo), .dat (.int hi)] B = .ok (.dat .none) B := by
  unfold m_number_in
  simp -implicitDefEqProofs only [e_P2, e_k2, e_k1, e_P1, e_k0, e_lift, e_C, gVar, e_nil, e_cons, e_kc, e_kd, e_PN, e_kN, e_call, e_kCall, e_if, e_kIf_t, e_kIf_f, e_and, e_kAnd_t, e_kAnd_f, e_or, e_kOr_t, e_kOr_f, e_not, e_kNot, e_seq, e_kS_nx, e_kS_ret, e_kS_brk, e_kS_ct, e_kS_exc, e_pass, e_brk, e_ct, e_sif, e_kSIf_t, e_kSIf_f, e_asg, e_kAsg, e_kO, e_name, e_ret, e_kRet, e_kRet_x, e_drop, e_kDrop, e_set, e_kSet, e_kSet2, e_kSet3, e_kSet4, e_fn, e_kFn_ret, e_kFn_nx, e_kFn_exc, e_fnK, e_kFnK_ret, e_mt, e_kMt2, e_isi, e_kIs, e_kI, e_chain, e_kCh, e_kCh2, e_kCh3_t, e_kCh3_f, e_shut, e_kSh, e_sl, e_kSl, e_kSl2n, e_kSl2i, e_kSl3, e_part, e_kPart, List.map_cons, List.map_nil, List.length_cons, List.length_nil, List.replicate, List.cons_append, List.nil_append, List.getElem?_cons_zero, List.getElem?_cons_succ, List.set_cons_zero, List.set_cons_succ, Nat.reduceSub, Nat.reduceAdd, Nat.zero_add, if_true, if_false, reduceIte, p_ix, itemS, l_dat, l_scr, l_ref0, atI_0, atI_1, atI_2, atI_3, Option.map_some, Option.bind_some, p_gtI, p_ltI, p_geI, p_leI, p_ltS, p_eqI, p_neI, p_eqS, p_neS, p_addI, p_subI, p_negI, p_lenL, p_lenT, p_intB, v_dat, l_tup, a_tup, p_isN, p_notN, set_feed1, set_feed2, p_pow9, p_pow12, p_pow18, e_iter, e_kIter_t, e_kIter_l, e_kIter_s, e_r1, e_zip, e_kZip, zip2_t, zip2_l, e_for, e_kFor, e_lc, e_try, e_kTry_ret, e_raise, e_kRaise, e_callL, ts_nil, ts_cons, e_kMtS, gYes, x_k2, x_k1, x_kc, x_kd, x_kN, x_kCall, x_kIf, x_kSIf, x_kAsg, x_kDrop, Bool.false_eq_true, Bool.not_true, Bool.not_false, tup_2, tup_3, tup_4, p_tup0, p_lst0, p_tup1, p_lst1, p_tup2, p_lst2, p_tup3, p_lst3, p_tup4, p_lst4, p_tup5, p_lst5, p_tup6, p_lst6, p_tup7, p_lst7, p_tup8, p_lst8]
  unfold b_number_in
  simp -implicitDefEqProofs only [e_P2, e_k2, e_k1, e_P1, e_k0, e_lift, e_C, gVar, e_nil, e_cons, e_kc, e_kd, e_PN, e_kN, e_call, e_kCall, e_if, e_kIf_t, e_kIf_f, e_and, e_kAnd_t, e_kAnd_f, e_or, e_kOr_t, e_kOr_f, e_not, e_kNot, e_seq, e_kS_nx, e_kS_ret, e_kS_brk, e_kS_ct, e_kS_exc, e_pass, e_brk, e_ct, e_sif, e_kSIf_t, e_kSIf_f, e_asg, e_kAsg, e_kO, e_name, e_ret, e_kRet, e_kRet_x, e_drop, e_kDrop, e_set, e_kSet, e_kSet2, e_kSet3, e_kSet4, e_fn, e_kFn_ret, e_kFn_nx, e_kFn_exc, e_fnK, e_kFnK_ret, e_mt, e_kMt2, e_isi, e_kIs, e_kI, e_chain, e_kCh, e_kCh2, e_kCh3_t, e_kCh3_f, e_shut, e_kSh, e_sl, e_kSl, e_kSl2n, e_kSl2i, e_kSl3, e_part, e_kPart, List.map_cons, List.map_nil, List.length_cons, List.length_nil, List.replicate, List.cons_append, List.nil_append, List.getElem?_cons_zero, List.getElem?_cons_succ, List.set_cons_zero, List.set_cons_succ, Nat.reduceSub, Nat.reduceAdd, Nat.zero_add, if_true, if_false, reduceIte, p_ix, itemS, l_dat, l_scr, l_ref0, atI_0, atI_1, atI_2, atI_3, Option.map_some, Option.bind_some, p_gtI, p_ltI, p_geI, p_leI, p_ltS, p_eqI, p_neI, p_eqS, p_neS, p_addI, p_subI, p_negI, p_lenL, p_lenT, p_intB, v_dat, l_tup, a_tup, p_isN, p_notN, set_feed1, set_feed2, p_pow9, p_pow12, p_pow18, e_iter, e_kIter_t, e_kIter_l, e_kIter_s, e_r1, e_zip, e_kZip, zip2_t, zip2_l, e_for, e_kFor, e_lc, e_try, e_kTry_ret, e_raise, e_kRaise, e_callL, ts_nil, ts_cons, e_kMtS, gYes, x_k2, x_k1, x_kc, x_kd, x_kN, x_kCall, x_kIf, x_kSIf, x_kAsg, x_kDrop, Bool.false_eq_true, Bool.not_true, Bool.not_false, tup_2, tup_3, tup_4, p_tup0, p_lst0, p_tup1, p_lst1, p_tup2, p_lst2, p_tup3, p_lst3, p_tup4, p_lst4, p_tup5, p_lst5, p_tup6, p_lst6, p_tup7, p_lst7, p_tup8, p_lst8, p_lenS (y := y) (by rw [hy]; exact big (by decide)), hy]
  rw [decide_eq_false (by decide : ¬ (1 : Int) ≤ ((0 : Nat) : Int))]
  simp -implicitDefEqProofs only [e_P2, e_k2, e_k1, e_P1, e_k0, e_lift, e_C, gVar, e_nil, e_cons, e_kc, e_kd, e_PN, e_kN, e_call, e_kCall, e_if, e_kIf_t, e_kIf_f, e_and, e_kAnd_t, e_kAnd_f, e_or, e_kOr_t, e_kOr_f, e_not, e_kNot, e_seq, e_kS_nx, e_kS_ret, e_kS_brk, e_kS_ct, e_kS_exc, e_pass, e_brk, e_ct, e_sif, e_kSIf_t, e_kSIf_f, e_asg, e_kAsg, e_kO, e_name, e_ret, e_kRet, e_kRet_x, e_drop, e_kDrop, e_set, e_kSet, e_kSet2, e_kSet3, e_kSet4, e_fn, e_kFn_ret, e_kFn_nx, e_kFn_exc, e_fnK, e_kFnK_ret, e_mt, e_kMt2, e_isi, e_kIs, e_kI, e_chain, e_kCh, e_kCh2, e_kCh3_t, e_kCh3_f, e_shut, e_kSh, e_sl, e_kSl, e_kSl2n, e_kSl2i, e_kSl3, e_part, e_kPart, List.map_cons, List.map_nil, List.length_cons, List.length_nil, List.replicate, List.cons_append, List.nil_append, List.getElem?_cons_zero, List.getElem?_cons_succ, List.set_cons_zero, List.set_cons_succ, Nat.reduceSub, Nat.reduceAdd, Nat.zero_add, if_true, if_false, reduceIte, p_ix, itemS, l_dat, l_scr, l_ref0, atI_0, atI_1, atI_2, atI_3, Option.map_some, Option.bind_some, p_gtI, p_ltI, p_geI, p_leI, p_ltS, p_eqI, p_neI, p_eqS, p_neS, p_addI, p_subI, p_negI, p_lenL, p_lenT, p_intB, v_dat, l_tup, a_tup, p_isN, p_notN, set_feed1, set_feed2, p_pow9, p_pow12, p_pow18, e_iter, e_kIter_t, e_kIter_l, e_kIter_s, e_r1, e_zip, e_kZip, zip2_t, zip2_l, e_for, e_kFor, e_lc, e_try, e_kTry_ret, e_raise, e_kRaise, e_callL, ts_nil, ts_cons, e_kMtS, gYes, x_k2, x_k1, x_kc, x_kd, x_kN, x_kCall, x_kIf, x_kSIf, x_kAsg, x_kDrop, Bool.false_eq_true, Bool.not_true, Bool.not_false, tup_2, tup_3, tup_4, p_tup0, p_lst0, p_tup1, p_lst1, p_tup2, p_lst2, p_tup3, p_lst3, p_tup4, p_lst4, p_tup5, p_lst5, p_tup6, p_lst6, p_tup7, p_lst7, p_tup8, p_lst8]
  rw [endF_self hB]
theorem number_ok {i lo hi : Int} {B : Bs} (h0 : 0 ≤ i) (h1 : i < 10000000000000) (hB : Flat B) : m_number_in [.dat (.str (numS i)), .dat (.int lo), .dat (.int hi)] B = .ok (.dat (if lo ≤ i ∧ i ≤ hi then .int i else .none)) B := by
  obtain ⟨l1, l2⟩ := numS_len2 h0 h1
  have n1 : (1 : Int) ≤ ((numS i).length : Int) := by omega
  have n2 : ((numS i).length : Int) ≤ 13 := by omega
  unfold m_number_in
  simp -implicitDefEqProofs only [e_P2, e_k2, e_k1, e_P1, e_k0, e_lift, e_C, gVar, e_nil, e_cons, e_kc, e_kd, e_PN, e_kN, e_call, e_kCall, e_if, e_kIf_t, e_kIf_f, e_and, e_kAnd_t, e_kAnd_f, e_or, e_kOr_t, e_kOr_f, e_not, e_kNot, e_seq, e_kS_nx, e_kS_ret, e_kS_brk, e_kS_ct, e_kS_exc, e_pass, e_brk, e_ct, e_sif, e_kSIf_t, e_kSIf_f, e_asg, e_kAsg, e_kO, e_name, e_ret, e_kRet, e_kRet_x, e_drop, e_kDrop, e_set, e_kSet, e_kSet2, e_kSet3, e_kSet4, e_fn, e_kFn_ret, e_kFn_nx, e_kFn_exc, e_fnK, e_kFnK_ret, e_mt, e_kMt2, e_isi, e_kIs, e_kI, e_chain, e_kCh, e_kCh2, e_kCh3_t, e_kCh3_f, e_shut, e_kSh, e_sl, e_kSl, e_kSl2n, e_kSl2i, e_kSl3, e_part, e_kPart, List.map_cons, List.map_nil, List.length_cons, List.length_nil, List.replicate, List.cons_append, List.nil_append, List.getElem?_cons_zero, List.getElem?_cons_succ, List.set_cons_zero, List.set_cons_succ, Nat.reduceSub, Nat.reduceAdd, Nat.zero_add, if_true, if_false, reduceIte, p_ix, itemS, l_dat, l_scr, l_ref0, atI_0, atI_1, atI_2, atI_3, Option.map_some, Option.bind_some, p_gtI, p_ltI, p_geI, p_leI, p_ltS, p_eqI, p_neI, p_eqS, p_neS, p_addI, p_subI, p_negI, p_lenL, p_lenT, p_intB, v_dat, l_tup, a_tup, p_isN, p_notN, set_feed1, set_feed2, p_pow9, p_pow12, p_pow18, e_iter, e_kIter_t, e_kIter_l, e_kIter_s, e_r1, e_zip, e_kZip, zip2_t, zip2_l, e_for, e_kFor, e_lc, e_try, e_kTry_ret, e_raise, e_kRaise, e_callL, ts_nil, ts_cons, e_kMtS, gYes, x_k2, x_k1, x_kc, x_kd, x_kN, x_kCall, x_kIf, x_kSIf, x_kAsg, x_kDrop, Bool.false_eq_true, Bool.not_true, Bool.not_false, tup_2, tup_3, tup_4, p_tup0, p_lst0, p_tup1, p_lst1, p_tup2, p_lst2, p_tup3, p_lst3, p_tup4, p_lst4, p_tup5, p_lst5, p_tup6, p_lst6, p_tup7, p_lst7, p_tup8, p_lst8]
  unfold b_number_in
  simp -implicitDefEqProofs only [e_P2, e_k2, e_k1, e_P1, e_k0, e_lift, e_C, gVar, e_nil, e_cons, e_kc, e_kd, e_PN, e_kN, e_call, e_kCall, e_if, e_kIf_t, e_kIf_f, e_and, e_kAnd_t, e_kAnd_f, e_or, e_kOr_t, e_kOr_f, e_not, e_kNot, e_seq, e_kS_nx, e_kS_ret, e_kS_brk, e_kS_ct, e_kS_exc, e_pass, e_brk, e_ct, e_sif, e_kSIf_t, e_kSIf_f, e_asg, e_kAsg, e_kO, e_name, e_ret, e_kRet, e_kRet_x, e_drop, e_kDrop, e_set, e_kSet, e_kSet2, e_kSet3, e_kSet4, e_fn, e_kFn_ret, e_kFn_nx, e_kFn_exc, e_fnK, e_kFnK_ret, e_mt, e_kMt2, e_isi, e_kIs, e_kI, e_chain, e_kCh, e_kCh2, e_kCh3_t, e_kCh3_f, e_shut, e_kSh, e_sl, e_kSl, e_kSl2n, e_kSl2i, e_kSl3, e_part, e_kPart, List.map_cons, List.map_nil, List.length_cons, List.length_nil, List.replicate, List.cons_append, List.nil_append, List.getElem?_cons_zero, List.getElem?_cons_succ, List.set_cons_zero, List.set_cons_succ, Nat.reduceSub, Nat.reduceAdd, Nat.zero_add, if_true, if_false, reduceIte, p_ix, itemS, l_dat, l_scr, l_ref0, atI_0, atI_1, atI_2, atI_3, Option.map_some, Option.bind_some, p_gtI, p_ltI, p_geI, p_leI, p_ltS, p_eqI, p_neI, p_eqS, p_neS, p_addI, p_subI, p_negI, p_lenL, p_lenT, p_intB, v_dat, l_tup, a_tup, p_isN, p_notN, set_feed1, set_feed2, p_pow9, p_pow12, p_pow18, e_iter, e_kIter_t, e_kIter_l, e_kIter_s, e_r1, e_zip, e_kZip, zip2_t, zip2_l, e_for, e_kFor, e_lc, e_try, e_kTry_ret, e_raise, e_kRaise, e_callL, ts_nil, ts_cons, e_kMtS, gYes, x_k2, x_k1, x_kc, x_kd, x_kN, x_kCall, x_kIf, x_kSIf, x_kAsg, x_kDrop, Bool.false_eq_true, Bool.not_true, Bool.not_false, tup_2, tup_3, tup_4, p_tup0, p_lst0, p_tup1, p_lst1, p_tup2, p_lst2, p_tup3, p_lst3, p_tup4, p_lst4, p_tup5, p_lst5, p_tup6, p_lst6, p_tup7, p_lst7, p_tup8, p_lst8, p_lenS (y := numS i) (big (by omega))]
  rw [decide_eq_true n1]
  simp -implicitDefEqProofs only [e_P2, e_k2, e_k1, e_P1, e_k0, e_lift, e_C, gVar, e_nil, e_cons, e_kc, e_kd, e_PN, e_kN, e_call, e_kCall, e_if, e_kIf_t, e_kIf_f, e_and, e_kAnd_t, e_kAnd_f, e_or, e_kOr_t, e_kOr_f, e_not, e_kNot, e_seq, e_kS_nx, e_kS_ret, e_kS_brk, e_kS_ct, e_kS_exc, e_pass, e_brk, e_ct, e_sif, e_kSIf_t, e_kSIf_f, e_asg, e_kAsg, e_kO, e_name, e_ret, e_kRet, e_kRet_x, e_drop, e_kDrop, e_set, e_kSet, e_kSet2, e_kSet3, e_kSet4, e_fn, e_kFn_ret, e_kFn_nx, e_kFn_exc, e_fnK, e_kFnK_ret, e_mt, e_kMt2, e_isi, e_kIs, e_kI, e_chain, e_kCh, e_kCh2, e_kCh3_t, e_kCh3_f, e_shut, e_kSh, e_sl, e_kSl, e_kSl2n, e_kSl2i, e_kSl3, e_part, e_kPart, List.map_cons, List.map_nil, List.length_cons, List.length_nil, List.replicate, List.cons_append, List.nil_append, List.getElem?_cons_zero, List.getElem?_cons_succ, List.set_cons_zero, List.set_cons_succ, Nat.reduceSub, Nat.reduceAdd, Nat.zero_add, if_true, if_false, reduceIte, p_ix, itemS, l_dat, l_scr, l_ref0, atI_0, atI_1, atI_2, atI_3, Option.map_some, Option.bind_some, p_gtI, p_ltI, p_geI, p_leI, p_ltS, p_eqI, p_neI, p_eqS, p_neS, p_addI, p_subI, p_negI, p_lenL, p_lenT, p_intB, v_dat, l_tup, a_tup, p_isN, p_notN, set_feed1, set_feed2, p_pow9, p_pow12, p_pow18, e_iter, e_kIter_t, e_kIter_l, e_kIter_s, e_r1, e_zip, e_kZip, zip2_t, zip2_l, e_for, e_kFor, e_lc, e_try, e_kTry_ret, e_raise, e_kRaise, e_callL, ts_nil, ts_cons, e_kMtS, gYes, x_k2, x_k1, x_kc, x_kd, x_kN, x_kCall, x_kIf, x_kSIf, x_kAsg, x_kDrop, Bool.false_eq_true, Bool.not_true, Bool.not_false, tup_2, tup_3, tup_4, p_tup0, p_lst0, p_tup1, p_lst1, p_tup2, p_lst2, p_tup3, p_lst3, p_tup4, p_lst4, p_tup5, p_lst5, p_tup6, p_lst6, p_tup7, p_lst7, p_tup8, p_lst8]
  rw [decide_eq_true n2]
  simp -implicitDefEqProofs only [e_P2, e_k2, e_k1, e_P1, e_k0, e_lift, e_C, gVar, e_nil, e_cons, e_kc, e_kd, e_PN, e_kN, e_call, e_kCall, e_if, e_kIf_t, e_kIf_f, e_and, e_kAnd_t, e_kAnd_f, e_or, e_kOr_t, e_kOr_f, e_not, e_kNot, e_seq, e_kS_nx, e_kS_ret, e_kS_brk, e_kS_ct, e_kS_exc, e_pass, e_brk, e_ct, e_sif, e_kSIf_t, e_kSIf_f, e_asg, e_kAsg, e_kO, e_name, e_ret, e_kRet, e_kRet_x, e_drop, e_kDrop, e_set, e_kSet, e_kSet2, e_kSet3, e_kSet4, e_fn, e_kFn_ret, e_kFn_nx, e_kFn_exc, e_fnK, e_kFnK_ret, e_mt, e_kMt2, e_isi, e_kIs, e_kI, e_chain, e_kCh, e_kCh2, e_kCh3_t, e_kCh3_f, e_shut, e_kSh, e_sl, e_kSl, e_kSl2n, e_kSl2i, e_kSl3, e_part, e_kPart, List.map_cons, List.map_nil, List.length_cons, List.length_nil, List.replicate, List.cons_append, List.nil_append, List.getElem?_cons_zero, List.getElem?_cons_succ, List.set_cons_zero, List.set_cons_succ, Nat.reduceSub, Nat.reduceAdd, Nat.zero_add, if_true, if_false, reduceIte, p_ix, itemS, l_dat, l_scr, l_ref0, atI_0, atI_1, atI_2, atI_3, Option.map_some, Option.bind_some, p_gtI, p_ltI, p_geI, p_leI, p_ltS, p_eqI, p_neI, p_eqS, p_neS, p_addI, p_subI, p_negI, p_lenL, p_lenT, p_intB, v_dat, l_tup, a_tup, p_isN, p_notN, set_feed1, set_feed2, p_pow9, p_pow12, p_pow18, e_iter, e_kIter_t, e_kIter_l, e_kIter_s, e_r1, e_zip, e_kZip, zip2_t, zip2_l, e_for, e_kFor, e_lc, e_try, e_kTry_ret, e_raise, e_kRaise, e_callL, ts_nil, ts_cons, e_kMtS, gYes, x_k2, x_k1, x_kc, x_kd, x_kN, x_kCall, x_kIf, x_kSIf, x_kAsg, x_kDrop, Bool.false_eq_true, Bool.not_true, Bool.not_false, tup_2, tup_3, tup_4, p_tup0, p_lst0, p_tup1, p_lst1, p_tup2, p_lst2, p_tup3, p_lst3, p_tup4, p_lst4, p_tup5, p_lst5, p_tup6, p_lst6, p_tup7, p_lst7, p_tup8, p_lst8]
  rw [e_kLc (by rw [signs_len]; omega), show signsOf (numS i) = (numS i).cps.toList.map (fun c => S.dat (.str ⟨#[c]⟩)) from rfl, lc_mapL (f := fun c => .dat (.bool true)) (numS i).cps.toList [] trivial fun c hc => ⟨_, rfl, rfl, ?_⟩]
  · rw [show ((numS i).cps.toList.map fun c => S.dat (.bool true)) = (((numS i).cps.toList.map fun c => true).map PyData.bool).map S.dat by rw [List.map_map, List.map_map]; rfl]
    simp -implicitDefEqProofs only [e_P2, e_k2, e_k1, e_P1, e_k0, e_lift, e_C, gVar, e_nil, e_cons, e_kc, e_kd, e_PN, e_kN, e_call, e_kCall, e_if, e_kIf_t, e_kIf_f, e_and, e_kAnd_t, e_kAnd_f, e_or, e_kOr_t, e_kOr_f, e_not, e_kNot, e_seq, e_kS_nx, e_kS_ret, e_kS_brk, e_kS_ct, e_kS_exc, e_pass, e_brk, e_ct, e_sif, e_kSIf_t, e_kSIf_f, e_asg, e_kAsg, e_kO, e_name, e_ret, e_kRet, e_kRet_x, e_drop, e_kDrop, e_set, e_kSet, e_kSet2, e_kSet3, e_kSet4, e_fn, e_kFn_ret, e_kFn_nx, e_kFn_exc, e_fnK, e_kFnK_ret, e_mt, e_kMt2, e_isi, e_kIs, e_kI, e_chain, e_kCh, e_kCh2, e_kCh3_t, e_kCh3_f, e_shut, e_kSh, e_sl, e_kSl, e_kSl2n, e_kSl2i, e_kSl3, e_part, e_kPart, List.map_cons, List.map_nil, List.length_cons, List.length_nil, List.replicate, List.cons_append, List.nil_append, List.getElem?_cons_zero, List.getElem?_cons_succ, List.set_cons_zero, List.set_cons_succ, Nat.reduceSub, Nat.reduceAdd, Nat.zero_add, if_true, if_false, reduceIte, p_ix, itemS, l_dat, l_scr, l_ref0, atI_0, atI_1, atI_2, atI_3, Option.map_some, Option.bind_some, p_gtI, p_ltI, p_geI, p_leI, p_ltS, p_eqI, p_neI, p_eqS, p_neS, p_addI, p_subI, p_negI, p_lenL, p_lenT, p_intB, v_dat, l_tup, a_tup, p_isN, p_notN, set_feed1, set_feed2, p_pow9, p_pow12, p_pow18, e_iter, e_kIter_t, e_kIter_l, e_kIter_s, e_r1, e_zip, e_kZip, zip2_t, zip2_l, e_for, e_kFor, e_lc, e_try, e_kTry_ret, e_raise, e_kRaise, e_callL, ts_nil, ts_cons, e_kMtS, gYes, x_k2, x_k1, x_kc, x_kd, x_kN, x_kCall, x_kIf, x_kSIf, x_kAsg, x_kDrop, Bool.false_eq_true, Bool.not_true, Bool.not_false, tup_2, tup_3, tup_4, p_tup0, p_lst0, p_tup1, p_lst1, p_tup2, p_lst2, p_tup3, p_lst3, p_tup4, p_lst4, p_tup5, p_lst5, p_tup6, p_lst6, p_tup7, p_lst7, p_tup8, p_lst8]
    rw [p_lst (by rw [List.length_map, List.length_map, Array.length_toList]; exact big (by have : (numS i).cps.size = (numS i).length := rfl; omega))]
    simp -implicitDefEqProofs only [e_P2, e_k2, e_k1, e_P1, e_k0, e_lift, e_C, gVar, e_nil, e_cons, e_kc, e_kd, e_PN, e_kN, e_call, e_kCall, e_if, e_kIf_t, e_kIf_f, e_and, e_kAnd_t, e_kAnd_f, e_or, e_kOr_t, e_kOr_f, e_not, e_kNot, e_seq, e_kS_nx, e_kS_ret, e_kS_brk, e_kS_ct, e_kS_exc, e_pass, e_brk, e_ct, e_sif, e_kSIf_t, e_kSIf_f, e_asg, e_kAsg, e_kO, e_name, e_ret, e_kRet, e_kRet_x, e_drop, e_kDrop, e_set, e_kSet, e_kSet2, e_kSet3, e_kSet4, e_fn, e_kFn_ret, e_kFn_nx, e_kFn_exc, e_fnK, e_kFnK_ret, e_mt, e_kMt2, e_isi, e_kIs, e_kI, e_chain, e_kCh, e_kCh2, e_kCh3_t, e_kCh3_f, e_shut, e_kSh, e_sl, e_kSl, e_kSl2n, e_kSl2i, e_kSl3, e_part, e_kPart, List.map_cons, List.map_nil, List.length_cons, List.length_nil, List.replicate, List.cons_append, List.nil_append, List.getElem?_cons_zero, List.getElem?_cons_succ, List.set_cons_zero, List.set_cons_succ, Nat.reduceSub, Nat.reduceAdd, Nat.zero_add, if_true, if_false, reduceIte, p_ix, itemS, l_dat, l_scr, l_ref0, atI_0, atI_1, atI_2, atI_3, Option.map_some, Option.bind_some, p_gtI, p_ltI, p_geI, p_leI, p_ltS, p_eqI, p_neI, p_eqS, p_neS, p_addI, p_subI, p_negI, p_lenL, p_lenT, p_intB, v_dat, l_tup, a_tup, p_isN, p_notN, set_feed1, set_feed2, p_pow9, p_pow12, p_pow18, e_iter, e_kIter_t, e_kIter_l, e_kIter_s, e_r1, e_zip, e_kZip, zip2_t, zip2_l, e_for, e_kFor, e_lc, e_try, e_kTry_ret, e_raise, e_kRaise, e_callL, ts_nil, ts_cons, e_kMtS, gYes, x_k2, x_k1, x_kc, x_kd, x_kN, x_kCall, x_kIf, x_kSIf, x_kAsg, x_kDrop, Bool.false_eq_true, Bool.not_true, Bool.not_false, tup_2, tup_3, tup_4, p_tup0, p_lst0, p_tup1, p_lst1, p_tup2, p_lst2, p_tup3, p_lst3, p_tup4, p_lst4, p_tup5, p_lst5, p_tup6, p_lst6, p_tup7, p_lst7, p_tup8, p_lst8, p_allL]
    rw [show ((numS i).cps.toList.map fun _ => true).all id = true by simp]
    simp -implicitDefEqProofs only [e_P2, e_k2, e_k1, e_P1, e_k0, e_lift, e_C, gVar, e_nil, e_cons, e_kc, e_kd, e_PN, e_kN, e_call, e_kCall, e_if, e_kIf_t, e_kIf_f, e_and, e_kAnd_t, e_kAnd_f, e_or, e_kOr_t, e_kOr_f, e_not, e_kNot, e_seq, e_kS_nx, e_kS_ret, e_kS_brk, e_kS_ct, e_kS_exc, e_pass, e_brk, e_ct, e_sif, e_kSIf_t, e_kSIf_f, e_asg, e_kAsg, e_kO, e_name, e_ret, e_kRet, e_kRet_x, e_drop, e_kDrop, e_set, e_kSet, e_kSet2, e_kSet3, e_kSet4, e_fn, e_kFn_ret, e_kFn_nx, e_kFn_exc, e_fnK, e_kFnK_ret, e_mt, e_kMt2, e_isi, e_kIs, e_kI, e_chain, e_kCh, e_kCh2, e_kCh3_t, e_kCh3_f, e_shut, e_kSh, e_sl, e_kSl, e_kSl2n, e_kSl2i, e_kSl3, e_part, e_kPart, List.map_cons, List.map_nil, List.length_cons, List.length_nil, List.replicate, List.cons_append, List.nil_append, List.getElem?_cons_zero, List.getElem?_cons_succ, List.set_cons_zero, List.set_cons_succ, Nat.reduceSub, Nat.reduceAdd, Nat.zero_add, if_true, if_false, reduceIte, p_ix, itemS, l_dat, l_scr, l_ref0, atI_0, atI_1, atI_2, atI_3, Option.map_some, Option.bind_some, p_gtI, p_ltI, p_geI, p_leI, p_ltS, p_eqI, p_neI, p_eqS, p_neS, p_addI, p_subI, p_negI, p_lenL, p_lenT, p_intB, v_dat, l_tup, a_tup, p_isN, p_notN, set_feed1, set_feed2, p_pow9, p_pow12, p_pow18, e_iter, e_kIter_t, e_kIter_l, e_kIter_s, e_r1, e_zip, e_kZip, zip2_t, zip2_l, e_for, e_kFor, e_lc, e_try, e_kTry_ret, e_raise, e_kRaise, e_callL, ts_nil, ts_cons, e_kMtS, gYes, x_k2, x_k1, x_kc, x_kd, x_kN, x_kCall, x_kIf, x_kSIf, x_kAsg, x_kDrop, Bool.false_eq_true, Bool.not_true, Bool.not_false, tup_2, tup_3, tup_4, p_tup0, p_lst0, p_tup1, p_lst1, p_tup2, p_lst2, p_tup3, p_lst3, p_tup4, p_lst4, p_tup5, p_lst5, p_tup6, p_lst6, p_tup7, p_lst7, p_tup8, p_lst8]
    cases ec : (numS i).cps.toList with
    | nil =>
      have : (numS i).cps.toList.length = (numS i).length := by rw [Array.length_toList]; rfl
      rw [ec] at this
      simp at this
      omega
    | cons c l =>
      have e0 : ∀ B, pIx [.dat (.str (numS i)), .dat (.int 0)] B = some (.dat (.str ⟨#[c]⟩), B) := fun B => by
        show (itemS B (.dat (.str (numS i))) 0).map (fun t => (t, B)) = _
        rw [p_ix0S (big (by omega)) ec]
        rfl
      have last : Ev.kFn (Ev.kS (.nx [some (.dat (.str (numS i))), some (.dat (.int lo)), some (.dat (.int hi)), none] B) (sRet (gIf (gChain pLe pLe (gVar 1) (gPN pInt (PN.gCons (gVar 0) PN.gNil)) (gVar 2)) (gPN pInt (PN.gCons (gVar 0) PN.gNil)) (gC (.dat .none))))) B.length = .ok (.dat (if lo ≤ i ∧ i ≤ hi then .int i else .none)) B := by
        simp -implicitDefEqProofs only [e_P2, e_k2, e_k1, e_P1, e_k0, e_lift, e_C, gVar, e_nil, e_cons, e_kc, e_kd, e_PN, e_kN, e_call, e_kCall, e_if, e_kIf_t, e_kIf_f, e_and, e_kAnd_t, e_kAnd_f, e_or, e_kOr_t, e_kOr_f, e_not, e_kNot, e_seq, e_kS_nx, e_kS_ret, e_kS_brk, e_kS_ct, e_kS_exc, e_pass, e_brk, e_ct, e_sif, e_kSIf_t, e_kSIf_f, e_asg, e_kAsg, e_kO, e_name, e_ret, e_kRet, e_kRet_x, e_drop, e_kDrop, e_set, e_kSet, e_kSet2, e_kSet3, e_kSet4, e_fn, e_kFn_ret, e_kFn_nx, e_kFn_exc, e_fnK, e_kFnK_ret, e_mt, e_kMt2, e_isi, e_kIs, e_kI, e_chain, e_kCh, e_kCh2, e_kCh3_t, e_kCh3_f, e_shut, e_kSh, e_sl, e_kSl, e_kSl2n, e_kSl2i, e_kSl3, e_part, e_kPart, List.map_cons, List.map_nil, List.length_cons, List.length_nil, List.replicate, List.cons_append, List.nil_append, List.getElem?_cons_zero, List.getElem?_cons_succ, List.set_cons_zero, List.set_cons_succ, Nat.reduceSub, Nat.reduceAdd, Nat.zero_add, if_true, if_false, reduceIte, p_ix, itemS, l_dat, l_scr, l_ref0, atI_0, atI_1, atI_2, atI_3, Option.map_some, Option.bind_some, p_gtI, p_ltI, p_geI, p_leI, p_ltS, p_eqI, p_neI, p_eqS, p_neS, p_addI, p_subI, p_negI, p_lenL, p_lenT, p_intB, v_dat, l_tup, a_tup, p_isN, p_notN, set_feed1, set_feed2, p_pow9, p_pow12, p_pow18, e_iter, e_kIter_t, e_kIter_l, e_kIter_s, e_r1, e_zip, e_kZip, zip2_t, zip2_l, e_for, e_kFor, e_lc, e_try, e_kTry_ret, e_raise, e_kRaise, e_callL, ts_nil, ts_cons, e_kMtS, gYes, x_k2, x_k1, x_kc, x_kd, x_kN, x_kCall, x_kIf, x_kSIf, x_kAsg, x_kDrop, Bool.false_eq_true, Bool.not_true, Bool.not_false, tup_2, tup_3, tup_4, p_tup0, p_lst0, p_tup1, p_lst1, p_tup2, p_lst2, p_tup3, p_lst3, p_tup4, p_lst4, p_tup5, p_lst5, p_tup6, p_lst6, p_tup7, p_lst7, p_tup8, p_lst8, p_intStr (y := numS i) (by omega) (int_numS h0 h1)]
        by_cases q1 : lo ≤ i
        · rw [decide_eq_true q1]
          simp -implicitDefEqProofs only [e_P2, e_k2, e_k1, e_P1, e_k0, e_lift, e_C, gVar, e_nil, e_cons, e_kc, e_kd, e_PN, e_kN, e_call, e_kCall, e_if, e_kIf_t, e_kIf_f, e_and, e_kAnd_t, e_kAnd_f, e_or, e_kOr_t, e_kOr_f, e_not, e_kNot, e_seq, e_kS_nx, e_kS_ret, e_kS_brk, e_kS_ct, e_kS_exc, e_pass, e_brk, e_ct, e_sif, e_kSIf_t, e_kSIf_f, e_asg, e_kAsg, e_kO, e_name, e_ret, e_kRet, e_kRet_x, e_drop, e_kDrop, e_set, e_kSet, e_kSet2, e_kSet3, e_kSet4, e_fn, e_kFn_ret, e_kFn_nx, e_kFn_exc, e_fnK, e_kFnK_ret, e_mt, e_kMt2, e_isi, e_kIs, e_kI, e_chain, e_kCh, e_kCh2, e_kCh3_t, e_kCh3_f, e_shut, e_kSh, e_sl, e_kSl, e_kSl2n, e_kSl2i, e_kSl3, e_part, e_kPart, List.map_cons, List.map_nil, List.length_cons, List.length_nil, List.replicate, List.cons_append, List.nil_append, List.getElem?_cons_zero, List.getElem?_cons_succ, List.set_cons_zero, List.set_cons_succ, Nat.reduceSub, Nat.reduceAdd, Nat.zero_add, if_true, if_false, reduceIte, p_ix, itemS, l_dat, l_scr, l_ref0, atI_0, atI_1, atI_2, atI_3, Option.map_some, Option.bind_some, p_gtI, p_ltI, p_geI, p_leI, p_ltS, p_eqI, p_neI, p_eqS, p_neS, p_addI, p_subI, p_negI, p_lenL, p_lenT, p_intB, v_dat, l_tup, a_tup, p_isN, p_notN, set_feed1, set_feed2, p_pow9, p_pow12, p_pow18, e_iter, e_kIter_t, e_kIter_l, e_kIter_s, e_r1, e_zip, e_kZip, zip2_t, zip2_l, e_for, e_kFor, e_lc, e_try, e_kTry_ret, e_raise, e_kRaise, e_callL, ts_nil, ts_cons, e_kMtS, gYes, x_k2, x_k1, x_kc, x_kd, x_kN, x_kCall, x_kIf, x_kSIf, x_kAsg, x_kDrop, Bool.false_eq_true, Bool.not_true, Bool.not_false, tup_2, tup_3, tup_4, p_tup0, p_lst0, p_tup1, p_lst1, p_tup2, p_lst2, p_tup3, p_lst3, p_tup4, p_lst4, p_tup5, p_lst5, p_tup6, p_lst6, p_tup7, p_lst7, p_tup8, p_lst8, p_intStr (y := numS i) (by omega) (int_numS h0 h1)]
          by_cases q2 : i ≤ hi
          · rw [decide_eq_true q2, if_pos ⟨q1, q2⟩]
            simp -implicitDefEqProofs only [e_P2, e_k2, e_k1, e_P1, e_k0, e_lift, e_C, gVar, e_nil, e_cons, e_kc, e_kd, e_PN, e_kN, e_call, e_kCall, e_if, e_kIf_t, e_kIf_f, e_and, e_kAnd_t, e_kAnd_f, e_or, e_kOr_t, e_kOr_f, e_not, e_kNot, e_seq, e_kS_nx, e_kS_ret, e_kS_brk, e_kS_ct, e_kS_exc, e_pass, e_brk, e_ct, e_sif, e_kSIf_t, e_kSIf_f, e_asg, e_kAsg, e_kO, e_name, e_ret, e_kRet, e_kRet_x, e_drop, e_kDrop, e_set, e_kSet, e_kSet2, e_kSet3, e_kSet4, e_fn, e_kFn_ret, e_kFn_nx, e_kFn_exc, e_fnK, e_kFnK_ret, e_mt, e_kMt2, e_isi, e_kIs, e_kI, e_chain, e_kCh, e_kCh2, e_kCh3_t, e_kCh3_f, e_shut, e_kSh, e_sl, e_kSl, e_kSl2n, e_kSl2i, e_kSl3, e_part, e_kPart, List.map_cons, List.map_nil, List.length_cons, List.length_nil, List.replicate, List.cons_append, List.nil_append, List.getElem?_cons_zero, List.getElem?_cons_succ, List.set_cons_zero, List.set_cons_succ, Nat.reduceSub, Nat.reduceAdd, Nat.zero_add, if_true, if_false, reduceIte, p_ix, itemS, l_dat, l_scr, l_ref0, atI_0, atI_1, atI_2, atI_3, Option.map_some, Option.bind_some, p_gtI, p_ltI, p_geI, p_leI, p_ltS, p_eqI, p_neI, p_eqS, p_neS, p_addI, p_subI, p_negI, p_lenL, p_lenT, p_intB, v_dat, l_tup, a_tup, p_isN, p_notN, set_feed1, set_feed2, p_pow9, p_pow12, p_pow18, e_iter, e_kIter_t, e_kIter_l, e_kIter_s, e_r1, e_zip, e_kZip, zip2_t, zip2_l, e_for, e_kFor, e_lc, e_try, e_kTry_ret, e_raise, e_kRaise, e_callL, ts_nil, ts_cons, e_kMtS, gYes, x_k2, x_k1, x_kc, x_kd, x_kN, x_kCall, x_kIf, x_kSIf, x_kAsg, x_kDrop, Bool.false_eq_true, Bool.not_true, Bool.not_false, tup_2, tup_3, tup_4, p_tup0, p_lst0, p_tup1, p_lst1, p_tup2, p_lst2, p_tup3, p_lst3, p_tup4, p_lst4, p_tup5, p_lst5, p_tup6, p_lst6, p_tup7, p_lst7, p_tup8, p_lst8, p_intStr (y := numS i) (by omega) (int_numS h0 h1)]
            rw [endF_self hB]
          · rw [decide_eq_false q2, if_neg (fun z => q2 z.2)]
            simp -implicitDefEqProofs only [e_P2, e_k2, e_k1, e_P1, e_k0, e_lift, e_C, gVar, e_nil, e_cons, e_kc, e_kd, e_PN, e_kN, e_call, e_kCall, e_if, e_kIf_t, e_kIf_f, e_and, e_kAnd_t, e_kAnd_f, e_or, e_kOr_t, e_kOr_f, e_not, e_kNot, e_seq, e_kS_nx, e_kS_ret, e_kS_brk, e_kS_ct, e_kS_exc, e_pass, e_brk, e_ct, e_sif, e_kSIf_t, e_kSIf_f, e_asg, e_kAsg, e_kO, e_name, e_ret, e_kRet, e_kRet_x, e_drop, e_kDrop, e_set, e_kSet, e_kSet2, e_kSet3, e_kSet4, e_fn, e_kFn_ret, e_kFn_nx, e_kFn_exc, e_fnK, e_kFnK_ret, e_mt, e_kMt2, e_isi, e_kIs, e_kI, e_chain, e_kCh, e_kCh2, e_kCh3_t, e_kCh3_f, e_shut, e_kSh, e_sl, e_kSl, e_kSl2n, e_kSl2i, e_kSl3, e_part, e_kPart, List.map_cons, List.map_nil, List.length_cons, List.length_nil, List.replicate, List.cons_append, List.nil_append, List.getElem?_cons_zero, List.getElem?_cons_succ, List.set_cons_zero, List.set_cons_succ, Nat.reduceSub, Nat.reduceAdd, Nat.zero_add, if_true, if_false, reduceIte, p_ix, itemS, l_dat, l_scr, l_ref0, atI_0, atI_1, atI_2, atI_3, Option.map_some, Option.bind_some, p_gtI, p_ltI, p_geI, p_leI, p_ltS, p_eqI, p_neI, p_eqS, p_neS, p_addI, p_subI, p_negI, p_lenL, p_lenT, p_intB, v_dat, l_tup, a_tup, p_isN, p_notN, set_feed1, set_feed2, p_pow9, p_pow12, p_pow18, e_iter, e_kIter_t, e_kIter_l, e_kIter_s, e_r1, e_zip, e_kZip, zip2_t, zip2_l, e_for, e_kFor, e_lc, e_try, e_kTry_ret, e_raise, e_kRaise, e_callL, ts_nil, ts_cons, e_kMtS, gYes, x_k2, x_k1, x_kc, x_kd, x_kN, x_kCall, x_kIf, x_kSIf, x_kAsg, x_kDrop, Bool.false_eq_true, Bool.not_true, Bool.not_false, tup_2, tup_3, tup_4, p_tup0, p_lst0, p_tup1, p_lst1, p_tup2, p_lst2, p_tup3, p_lst3, p_tup4, p_lst4, p_tup5, p_lst5, p_tup6, p_lst6, p_tup7, p_lst7, p_tup8, p_lst8]
            rw [endF_self hB]
        · rw [decide_eq_false q1, if_neg (fun z => q1 z.1)]
          simp -implicitDefEqProofs only [e_P2, e_k2, e_k1, e_P1, e_k0, e_lift, e_C, gVar, e_nil, e_cons, e_kc, e_kd, e_PN, e_kN, e_call, e_kCall, e_if, e_kIf_t, e_kIf_f, e_and, e_kAnd_t, e_kAnd_f, e_or, e_kOr_t, e_kOr_f, e_not, e_kNot, e_seq, e_kS_nx, e_kS_ret, e_kS_brk, e_kS_ct, e_kS_exc, e_pass, e_brk, e_ct, e_sif, e_kSIf_t, e_kSIf_f, e_asg, e_kAsg, e_kO, e_name, e_ret, e_kRet, e_kRet_x, e_drop, e_kDrop, e_set, e_kSet, e_kSet2, e_kSet3, e_kSet4, e_fn, e_kFn_ret, e_kFn_nx, e_kFn_exc, e_fnK, e_kFnK_ret, e_mt, e_kMt2, e_isi, e_kIs, e_kI, e_chain, e_kCh, e_kCh2, e_kCh3_t, e_kCh3_f, e_shut, e_kSh, e_sl, e_kSl, e_kSl2n, e_kSl2i, e_kSl3, e_part, e_kPart, List.map_cons, List.map_nil, List.length_cons, List.length_nil, List.replicate, List.cons_append, List.nil_append, List.getElem?_cons_zero, List.getElem?_cons_succ, List.set_cons_zero, List.set_cons_succ, Nat.reduceSub, Nat.reduceAdd, Nat.zero_add, if_true, if_false, reduceIte, p_ix, itemS, l_dat, l_scr, l_ref0, atI_0, atI_1, atI_2, atI_3, Option.map_some, Option.bind_some, p_gtI, p_ltI, p_geI, p_leI, p_ltS, p_eqI, p_neI, p_eqS, p_neS, p_addI, p_subI, p_negI, p_lenL, p_lenT, p_intB, v_dat, l_tup, a_tup, p_isN, p_notN, set_feed1, set_feed2, p_pow9, p_pow12, p_pow18, e_iter, e_kIter_t, e_kIter_l, e_kIter_s, e_r1, e_zip, e_kZip, zip2_t, zip2_l, e_for, e_kFor, e_lc, e_try, e_kTry_ret, e_raise, e_kRaise, e_callL, ts_nil, ts_cons, e_kMtS, gYes, x_k2, x_k1, x_kc, x_kd, x_kN, x_kCall, x_kIf, x_kSIf, x_kAsg, x_kDrop, Bool.false_eq_true, Bool.not_true, Bool.not_false, tup_2, tup_3, tup_4, p_tup0, p_lst0, p_tup1, p_lst1, p_tup2, p_lst2, p_tup3, p_lst3, p_tup4, p_lst4, p_tup5, p_lst5, p_tup6, p_lst6, p_tup7, p_lst7, p_tup8, p_lst8]
          rw [endF_self hB]
      simp -implicitDefEqProofs only [e_P2, e_k2, e_k1, e_P1, e_k0, e_lift, e_C, gVar, e_nil, e_cons, e_kc, e_kd, e_PN, e_kN, e_call, e_kCall, e_if, e_kIf_t, e_kIf_f, e_and, e_kAnd_t, e_kAnd_f, e_or, e_kOr_t, e_kOr_f, e_not, e_kNot, e_seq, e_kS_nx, e_kS_ret, e_kS_brk, e_kS_ct, e_kS_exc, e_pass, e_brk, e_ct, e_sif, e_kSIf_t, e_kSIf_f, e_asg, e_kAsg, e_kO, e_name, e_ret, e_kRet, e_kRet_x, e_drop, e_kDrop, e_set, e_kSet, e_kSet2, e_kSet3, e_kSet4, e_fn, e_kFn_ret, e_kFn_nx, e_kFn_exc, e_fnK, e_kFnK_ret, e_mt, e_kMt2, e_isi, e_kIs, e_kI, e_chain, e_kCh, e_kCh2, e_kCh3_t, e_kCh3_f, e_shut, e_kSh, e_sl, e_kSl, e_kSl2n, e_kSl2i, e_kSl3, e_part, e_kPart, List.map_cons, List.map_nil, List.length_cons, List.length_nil, List.replicate, List.cons_append, List.nil_append, List.getElem?_cons_zero, List.getElem?_cons_succ, List.set_cons_zero, List.set_cons_succ, Nat.reduceSub, Nat.reduceAdd, Nat.zero_add, if_true, if_false, reduceIte, p_ix, itemS, l_dat, l_scr, l_ref0, atI_0, atI_1, atI_2, atI_3, Option.map_some, Option.bind_some, p_gtI, p_ltI, p_geI, p_leI, p_ltS, p_eqI, p_neI, p_eqS, p_neS, p_addI, p_subI, p_negI, p_lenL, p_lenT, p_intB, v_dat, l_tup, a_tup, p_isN, p_notN, set_feed1, set_feed2, p_pow9, p_pow12, p_pow18, e_iter, e_kIter_t, e_kIter_l, e_kIter_s, e_r1, e_zip, e_kZip, zip2_t, zip2_l, e_for, e_kFor, e_lc, e_try, e_kTry_ret, e_raise, e_kRaise, e_callL, ts_nil, ts_cons, e_kMtS, gYes, x_k2, x_k1, x_kc, x_kd, x_kN, x_kCall, x_kIf, x_kSIf, x_kAsg, x_kDrop, Bool.false_eq_true, Bool.not_true, Bool.not_false, tup_2, tup_3, tup_4, p_tup0, p_lst0, p_tup1, p_lst1, p_tup2, p_lst2, p_tup3, p_lst3, p_tup4, p_lst4, p_tup5, p_lst5, p_tup6, p_lst6, p_tup7, p_lst7, p_tup8, p_lst8, l_str, a_str, if_pos (show (numS i).length ≤ sizeLine from big (by omega))]
      by_cases q : (⟨#[c]⟩ : Str) = "0"
      · rw [decide_eq_true q]
        have hc : c = 48 := by
          have := congrArg (fun x : Str => x.cps.toList) q
          exact (List.cons.inj this).1
        have hi0 : i = 0 := by
          have := numL_head i.toNat c l ((tl_numS h0).symm.trans ec) hc
          omega
        have en : numS i = "0" := by rw [hi0]; rfl
        simp -implicitDefEqProofs only [e_P2, e_k2, e_k1, e_P1, e_k0, e_lift, e_C, gVar, e_nil, e_cons, e_kc, e_kd, e_PN, e_kN, e_call, e_kCall, e_if, e_kIf_t, e_kIf_f, e_and, e_kAnd_t, e_kAnd_f, e_or, e_kOr_t, e_kOr_f, e_not, e_kNot, e_seq, e_kS_nx, e_kS_ret, e_kS_brk, e_kS_ct, e_kS_exc, e_pass, e_brk, e_ct, e_sif, e_kSIf_t, e_kSIf_f, e_asg, e_kAsg, e_kO, e_name, e_ret, e_kRet, e_kRet_x, e_drop, e_kDrop, e_set, e_kSet, e_kSet2, e_kSet3, e_kSet4, e_fn, e_kFn_ret, e_kFn_nx, e_kFn_exc, e_fnK, e_kFnK_ret, e_mt, e_kMt2, e_isi, e_kIs, e_kI, e_chain, e_kCh, e_kCh2, e_kCh3_t, e_kCh3_f, e_shut, e_kSh, e_sl, e_kSl, e_kSl2n, e_kSl2i, e_kSl3, e_part, e_kPart, List.map_cons, List.map_nil, List.length_cons, List.length_nil, List.replicate, List.cons_append, List.nil_append, List.getElem?_cons_zero, List.getElem?_cons_succ, List.set_cons_zero, List.set_cons_succ, Nat.reduceSub, Nat.reduceAdd, Nat.zero_add, if_true, if_false, reduceIte, l_dat, l_scr, l_ref0, atI_0, atI_1, atI_2, atI_3, Option.map_some, Option.bind_some, p_gtI, p_ltI, p_geI, p_leI, p_ltS, p_eqI, p_neI, p_eqS, p_neS, p_addI, p_subI, p_negI, p_lenL, p_lenT, p_intB, v_dat, l_tup, a_tup, p_isN, p_notN, set_feed1, set_feed2, p_pow9, p_pow12, p_pow18, e_iter, e_kIter_t, e_kIter_l, e_kIter_s, e_r1, e_zip, e_kZip, zip2_t, zip2_l, e_for, e_kFor, e_lc, e_try, e_kTry_ret, e_raise, e_kRaise, e_callL, ts_nil, ts_cons, e_kMtS, gYes, x_k2, x_k1, x_kc, x_kd, x_kN, x_kCall, x_kIf, x_kSIf, x_kAsg, x_kDrop, Bool.false_eq_true, Bool.not_true, Bool.not_false, tup_2, tup_3, tup_4, p_tup0, p_lst0, p_tup1, p_lst1, p_tup2, p_lst2, p_tup3, p_lst3, p_tup4, p_lst4, p_tup5, p_lst5, p_tup6, p_lst6, p_tup7, p_lst7, p_tup8, p_lst8]
        rw [decide_eq_true en]
        simp -implicitDefEqProofs only [e_P2, e_k2, e_k1, e_P1, e_k0, e_lift, e_C, gVar, e_nil, e_cons, e_kc, e_kd, e_PN, e_kN, e_call, e_kCall, e_if, e_kIf_t, e_kIf_f, e_and, e_kAnd_t, e_kAnd_f, e_or, e_kOr_t, e_kOr_f, e_not, e_kNot, e_seq, e_kS_nx, e_kS_ret, e_kS_brk, e_kS_ct, e_kS_exc, e_pass, e_brk, e_ct, e_sif, e_kSIf_t, e_kSIf_f, e_asg, e_kAsg, e_kO, e_name, e_ret, e_kRet, e_kRet_x, e_drop, e_kDrop, e_set, e_kSet, e_kSet2, e_kSet3, e_kSet4, e_fn, e_kFn_ret, e_kFn_nx, e_kFn_exc, e_fnK, e_kFnK_ret, e_mt, e_kMt2, e_isi, e_kIs, e_kI, e_chain, e_kCh, e_kCh2, e_kCh3_t, e_kCh3_f, e_shut, e_kSh, e_sl, e_kSl, e_kSl2n, e_kSl2i, e_kSl3, e_part, e_kPart, List.map_cons, List.map_nil, List.length_cons, List.length_nil, List.replicate, List.cons_append, List.nil_append, List.getElem?_cons_zero, List.getElem?_cons_succ, List.set_cons_zero, List.set_cons_succ, Nat.reduceSub, Nat.reduceAdd, Nat.zero_add, if_true, if_false, reduceIte, l_dat, l_scr, l_ref0, atI_0, atI_1, atI_2, atI_3, Option.map_some, Option.bind_some, p_gtI, p_ltI, p_geI, p_leI, p_ltS, p_eqI, p_neI, p_eqS, p_neS, p_addI, p_subI, p_negI, p_lenL, p_lenT, p_intB, v_dat, l_tup, a_tup, p_isN, p_notN, set_feed1, set_feed2, p_pow9, p_pow12, p_pow18, e_iter, e_kIter_t, e_kIter_l, e_kIter_s, e_r1, e_zip, e_kZip, zip2_t, zip2_l, e_for, e_kFor, e_lc, e_try, e_kTry_ret, e_raise, e_kRaise, e_callL, ts_nil, ts_cons, e_kMtS, gYes, x_k2, x_k1, x_kc, x_kd, x_kN, x_kCall, x_kIf, x_kSIf, x_kAsg, x_kDrop, Bool.false_eq_true, Bool.not_true, Bool.not_false, tup_2, tup_3, tup_4, p_tup0, p_lst0, p_tup1, p_lst1, p_tup2, p_lst2, p_tup3, p_lst3, p_tup4, p_lst4, p_tup5, p_lst5, p_tup6, p_lst6, p_tup7, p_lst7, p_tup8, p_lst8]
        rw [← last]
        simp -implicitDefEqProofs only [e_P2, e_k2, e_k1, e_P1, e_k0, e_lift, e_C, gVar, e_nil, e_cons, e_kc, e_kd, e_PN, e_kN, e_call, e_kCall, e_if, e_kIf_t, e_kIf_f, e_and, e_kAnd_t, e_kAnd_f, e_or, e_kOr_t, e_kOr_f, e_not, e_kNot, e_seq, e_kS_nx, e_kS_ret, e_kS_brk, e_kS_ct, e_kS_exc, e_pass, e_brk, e_ct, e_sif, e_kSIf_t, e_kSIf_f, e_asg, e_kAsg, e_kO, e_name, e_ret, e_kRet, e_kRet_x, e_drop, e_kDrop, e_set, e_kSet, e_kSet2, e_kSet3, e_kSet4, e_fn, e_kFn_ret, e_kFn_nx, e_kFn_exc, e_fnK, e_kFnK_ret, e_mt, e_kMt2, e_isi, e_kIs, e_kI, e_chain, e_kCh, e_kCh2, e_kCh3_t, e_kCh3_f, e_shut, e_kSh, e_sl, e_kSl, e_kSl2n, e_kSl2i, e_kSl3, e_part, e_kPart, List.map_cons, List.map_nil, List.length_cons, List.length_nil, List.replicate, List.cons_append, List.nil_append, List.getElem?_cons_zero, List.getElem?_cons_succ, List.set_cons_zero, List.set_cons_succ, Nat.reduceSub, Nat.reduceAdd, Nat.zero_add, if_true, if_false, reduceIte, l_dat, l_scr, l_ref0, atI_0, atI_1, atI_2, atI_3, Option.map_some, Option.bind_some, p_gtI, p_ltI, p_geI, p_leI, p_ltS, p_eqI, p_neI, p_eqS, p_neS, p_addI, p_subI, p_negI, p_lenL, p_lenT, p_intB, v_dat, l_tup, a_tup, p_isN, p_notN, set_feed1, set_feed2, p_pow9, p_pow12, p_pow18, e_iter, e_kIter_t, e_kIter_l, e_kIter_s, e_r1, e_zip, e_kZip, zip2_t, zip2_l, e_for, e_kFor, e_lc, e_try, e_kTry_ret, e_raise, e_kRaise, e_callL, ts_nil, ts_cons, e_kMtS, gYes, x_k2, x_k1, x_kc, x_kd, x_kN, x_kCall, x_kIf, x_kSIf, x_kAsg, x_kDrop, Bool.false_eq_true, Bool.not_true, Bool.not_false, tup_2, tup_3, tup_4, p_tup0, p_lst0, p_tup1, p_lst1, p_tup2, p_lst2, p_tup3, p_lst3, p_tup4, p_lst4, p_tup5, p_lst5, p_tup6, p_lst6, p_tup7, p_lst7, p_tup8, p_lst8]
      · rw [decide_eq_false q]
        simp -implicitDefEqProofs only [e_P2, e_k2, e_k1, e_P1, e_k0, e_lift, e_C, gVar, e_nil, e_cons, e_kc, e_kd, e_PN, e_kN, e_call, e_kCall, e_if, e_kIf_t, e_kIf_f, e_and, e_kAnd_t, e_kAnd_f, e_or, e_kOr_t, e_kOr_f, e_not, e_kNot, e_seq, e_kS_nx, e_kS_ret, e_kS_brk, e_kS_ct, e_kS_exc, e_pass, e_brk, e_ct, e_sif, e_kSIf_t, e_kSIf_f, e_asg, e_kAsg, e_kO, e_name, e_ret, e_kRet, e_kRet_x, e_drop, e_kDrop, e_set, e_kSet, e_kSet2, e_kSet3, e_kSet4, e_fn, e_kFn_ret, e_kFn_nx, e_kFn_exc, e_fnK, e_kFnK_ret, e_mt, e_kMt2, e_isi, e_kIs, e_kI, e_chain, e_kCh, e_kCh2, e_kCh3_t, e_kCh3_f, e_shut, e_kSh, e_sl, e_kSl, e_kSl2n, e_kSl2i, e_kSl3, e_part, e_kPart, List.map_cons, List.map_nil, List.length_cons, List.length_nil, List.replicate, List.cons_append, List.nil_append, List.getElem?_cons_zero, List.getElem?_cons_succ, List.set_cons_zero, List.set_cons_succ, Nat.reduceSub, Nat.reduceAdd, Nat.zero_add, if_true, if_false, reduceIte, l_dat, l_scr, l_ref0, atI_0, atI_1, atI_2, atI_3, Option.map_some, Option.bind_some, p_gtI, p_ltI, p_geI, p_leI, p_ltS, p_eqI, p_neI, p_eqS, p_neS, p_addI, p_subI, p_negI, p_lenL, p_lenT, p_intB, v_dat, l_tup, a_tup, p_isN, p_notN, set_feed1, set_feed2, p_pow9, p_pow12, p_pow18, e_iter, e_kIter_t, e_kIter_l, e_kIter_s, e_r1, e_zip, e_kZip, zip2_t, zip2_l, e_for, e_kFor, e_lc, e_try, e_kTry_ret, e_raise, e_kRaise, e_callL, ts_nil, ts_cons, e_kMtS, gYes, x_k2, x_k1, x_kc, x_kd, x_kN, x_kCall, x_kIf, x_kSIf, x_kAsg, x_kDrop, Bool.false_eq_true, Bool.not_true, Bool.not_false, tup_2, tup_3, tup_4, p_tup0, p_lst0, p_tup1, p_lst1, p_tup2, p_lst2, p_tup3, p_lst3, p_tup4, p_lst4, p_tup5, p_lst5, p_tup6, p_lst6, p_tup7, p_lst7, p_tup8, p_lst8]
        rw [← last]
        simp -implicitDefEqProofs only [e_P2, e_k2, e_k1, e_P1, e_k0, e_lift, e_C, gVar, e_nil, e_cons, e_kc, e_kd, e_PN, e_kN, e_call, e_kCall, e_if, e_kIf_t, e_kIf_f, e_and, e_kAnd_t, e_kAnd_f, e_or, e_kOr_t, e_kOr_f, e_not, e_kNot, e_seq, e_kS_nx, e_kS_ret, e_kS_brk, e_kS_ct, e_kS_exc, e_pass, e_brk, e_ct, e_sif, e_kSIf_t, e_kSIf_f, e_asg, e_kAsg, e_kO, e_name, e_ret, e_kRet, e_kRet_x, e_drop, e_kDrop, e_set, e_kSet, e_kSet2, e_kSet3, e_kSet4, e_fn, e_kFn_ret, e_kFn_nx, e_kFn_exc, e_fnK, e_kFnK_ret, e_mt, e_kMt2, e_isi, e_kIs, e_kI, e_chain, e_kCh, e_kCh2, e_kCh3_t, e_kCh3_f, e_shut, e_kSh, e_sl, e_kSl, e_kSl2n, e_kSl2i, e_kSl3, e_part, e_kPart, List.map_cons, List.map_nil, List.length_cons, List.length_nil, List.replicate, List.cons_append, List.nil_append, List.getElem?_cons_zero, List.getElem?_cons_succ, List.set_cons_zero, List.set_cons_succ, Nat.reduceSub, Nat.reduceAdd, Nat.zero_add, if_true, if_false, reduceIte, l_dat, l_scr, l_ref0, atI_0, atI_1, atI_2, atI_3, Option.map_some, Option.bind_some, p_gtI, p_ltI, p_geI, p_leI, p_ltS, p_eqI, p_neI, p_eqS, p_neS, p_addI, p_subI, p_negI, p_lenL, p_lenT, p_intB, v_dat, l_tup, a_tup, p_isN, p_notN, set_feed1, set_feed2, p_pow9, p_pow12, p_pow18, e_iter, e_kIter_t, e_kIter_l, e_kIter_s, e_r1, e_zip, e_kZip, zip2_t, zip2_l, e_for, e_kFor, e_lc, e_try, e_kTry_ret, e_raise, e_kRaise, e_callL, ts_nil, ts_cons, e_kMtS, gYes, x_k2, x_k1, x_kc, x_kd, x_kN, x_kCall, x_kIf, x_kSIf, x_kAsg, x_kDrop, Bool.false_eq_true, Bool.not_true, Bool.not_false, tup_2, tup_3, tup_4, p_tup0, p_lst0, p_tup1, p_lst1, p_tup2, p_lst2, p_tup3, p_lst3, p_tup4, p_lst4, p_tup5, p_lst5, p_tup6, p_lst6, p_tup7, p_lst7, p_tup8, p_lst8]
  · simp -implicitDefEqProofs only [e_P2, e_k2, e_k1, e_P1, e_k0, e_lift, e_C, gVar, e_nil, e_cons, e_kc, e_kd, e_PN, e_kN, e_call, e_kCall, e_if, e_kIf_t, e_kIf_f, e_and, e_kAnd_t, e_kAnd_f, e_or, e_kOr_t, e_kOr_f, e_not, e_kNot, e_seq, e_kS_nx, e_kS_ret, e_kS_brk, e_kS_ct, e_kS_exc, e_pass, e_brk, e_ct, e_sif, e_kSIf_t, e_kSIf_f, e_asg, e_kAsg, e_kO, e_name, e_ret, e_kRet, e_kRet_x, e_drop, e_kDrop, e_set, e_kSet, e_kSet2, e_kSet3, e_kSet4, e_fn, e_kFn_ret, e_kFn_nx, e_kFn_exc, e_fnK, e_kFnK_ret, e_mt, e_kMt2, e_isi, e_kIs, e_kI, e_chain, e_kCh, e_kCh2, e_kCh3_t, e_kCh3_f, e_shut, e_kSh, e_sl, e_kSl, e_kSl2n, e_kSl2i, e_kSl3, e_part, e_kPart, List.map_cons, List.map_nil, List.length_cons, List.length_nil, List.replicate, List.cons_append, List.nil_append, List.getElem?_cons_zero, List.getElem?_cons_succ, List.set_cons_zero, List.set_cons_succ, Nat.reduceSub, Nat.reduceAdd, Nat.zero_add, if_true, if_false, reduceIte, p_ix, itemS, l_dat, l_scr, l_ref0, atI_0, atI_1, atI_2, atI_3, Option.map_some, Option.bind_some, p_gtI, p_ltI, p_geI, p_leI, p_ltS, p_eqI, p_neI, p_eqS, p_neS, p_addI, p_subI, p_negI, p_lenL, p_lenT, p_intB, v_dat, l_tup, a_tup, p_isN, p_notN, set_feed1, set_feed2, p_pow9, p_pow12, p_pow18, e_iter, e_kIter_t, e_kIter_l, e_kIter_s, e_r1, e_zip, e_kZip, zip2_t, zip2_l, e_for, e_kFor, e_lc, e_try, e_kTry_ret, e_raise, e_kRaise, e_callL, ts_nil, ts_cons, e_kMtS, gYes, x_k2, x_k1, x_kc, x_kd, x_kN, x_kCall, x_kIf, x_kSIf, x_kAsg, x_kDrop, Bool.false_eq_true, Bool.not_true, Bool.not_false, tup_2, tup_3, tup_4, p_tup0, p_lst0, p_tup1, p_lst1, p_tup2, p_lst2, p_tup3, p_lst3, p_tup4, p_lst4, p_tup5, p_lst5, p_tup6, p_lst6, p_tup7, p_lst7, p_tup8, p_lst8, wipeE, p_inSign]
    have d := digits_numS h0 c hc
    rw [decide_eq_true]
    show c ∈ [48, 49, 50, 51, 52, 53, 54, 55, 56, 57]
    simp only [List.mem_cons, List.not_mem_nil, or_false]
    omega
theorem words_low : ∀ s ∈ words7, ∀ c ∈ s.cps.toList, 97 ≤ c ∧ c ≤ 122 := by decide +kernel
def tail (p : P3) : Str := if p.2.1 + 1 < p.2.2 then numS p.2.1 ++ "-" ++ numS (p.2.2 - 1) else numS p.2.1
theorem txt_tail (p : P3) : txt p = p.1 ++ ":" ++ tail p := by
  unfold txt tail base
  split
  · rw [str_app_assoc, str_app_assoc, str_app_assoc, str_app_assoc, str_app_assoc]
  · rfl
theorem part_txt {p : P3} (h : Gp p) : Txt.partition (txt p) ":" = (p.1, (":" : Str), tail p) := by
  rw [txt_tail]
  exact TL.partition_app (s := 58) (S := []) rfl fun m => by
    have := words_low _ h.wd 58 m
    omega
theorem no_dash {i : Int} (h : 0 ≤ i) : 45 ∉ (numS i).cps.toList := fun m => by
  have := digits_numS h 45 m
  omega
theorem run_in_ok {p : P3} {B : Bs} (h : Gp p) (hB : Flat B) : m_run_in [.dat (.str (txt p))] B = .ok (.dat (pd p)) B := by
  have ht := txt_len h
  have h0 := h.lo
  have h1 := h.up
  have h2 := h.top
  have tl : (tail p).length ≤ 48 := by
    have := congrArg Str.length (txt_tail p)
    rw [strLen_append, strLen_append] at this
    omega
  have wd : wordB p.1 = true := words_good _ h.wd
  unfold m_run_in
  simp -implicitDefEqProofs only [e_P2, e_k2, e_k1, e_P1, e_k0, e_lift, e_C, gVar, e_nil, e_cons, e_kc, e_kd, e_PN, e_kN, e_call, e_kCall, e_if, e_kIf_t, e_kIf_f, e_and, e_kAnd_t, e_kAnd_f, e_or, e_kOr_t, e_kOr_f, e_not, e_kNot, e_seq, e_kS_nx, e_kS_ret, e_kS_brk, e_kS_ct, e_kS_exc, e_pass, e_brk, e_ct, e_sif, e_kSIf_t, e_kSIf_f, e_asg, e_kAsg, e_kO, e_name, e_ret, e_kRet, e_kRet_x, e_drop, e_kDrop, e_set, e_kSet, e_kSet2, e_kSet3, e_kSet4, e_fn, e_kFn_ret, e_kFn_nx, e_kFn_exc, e_fnK, e_kFnK_ret, e_mt, e_kMt2, e_isi, e_kIs, e_kI, e_chain, e_kCh, e_kCh2, e_kCh3_t, e_kCh3_f, e_shut, e_kSh, e_sl, e_kSl, e_kSl2n, e_kSl2i, e_kSl3, e_part, e_kPart, List.map_cons, List.map_nil, List.length_cons, List.length_nil, List.replicate, List.cons_append, List.nil_append, List.getElem?_cons_zero, List.getElem?_cons_succ, List.set_cons_zero, List.set_cons_succ, Nat.reduceSub, Nat.reduceAdd, Nat.zero_add, if_true, if_false, reduceIte, p_ix, itemS, l_dat, l_scr, l_ref0, atI_0, atI_1, atI_2, atI_3, Option.map_some, Option.bind_some, p_gtI, p_ltI, p_geI, p_leI, p_ltS, p_eqI, p_neI, p_eqS, p_neS, p_addI, p_subI, p_negI, p_lenL, p_lenT, p_intB, v_dat, l_tup, a_tup, p_isN, p_notN, set_feed1, set_feed2, p_pow9, p_pow12, p_pow18, e_iter, e_kIter_t, e_kIter_l, e_kIter_s, e_r1, e_zip, e_kZip, zip2_t, zip2_l, e_for, e_kFor, e_lc, e_try, e_kTry_ret, e_raise, e_kRaise, e_callL, ts_nil, ts_cons, e_kMtS, gYes, x_k2, x_k1, x_kc, x_kd, x_kN, x_kCall, x_kIf, x_kSIf, x_kAsg, x_kDrop, Bool.false_eq_true, Bool.not_true, Bool.not_false, tup_2, tup_3, tup_4, p_tup0, p_lst0, p_tup1, p_lst1, p_tup2, p_lst2, p_tup3, p_lst3, p_tup4, p_lst4, p_tup5, p_lst5, p_tup6, p_lst6, p_tup7, p_lst7, p_tup8, p_lst8]
  unfold b_run_in
  simp -implicitDefEqProofs only [e_P2, e_k2, e_k1, e_P1, e_k0, e_lift, e_C, gVar, e_nil, e_cons, e_kc, e_kd, e_PN, e_kN, e_call, e_kCall, e_if, e_kIf_t, e_kIf_f, e_and, e_kAnd_t, e_kAnd_f, e_or, e_kOr_t, e_kOr_f, e_not, e_kNot, e_seq, e_kS_nx, e_kS_ret, e_kS_brk, e_kS_ct, e_kS_exc, e_pass, e_brk, e_ct, e_sif, e_kSIf_t, e_kSIf_f, e_asg, e_kAsg, e_kO, e_name, e_ret, e_kRet, e_kRet_x, e_drop, e_kDrop, e_set, e_kSet, e_kSet2, e_kSet3, e_kSet4, e_fn, e_kFn_ret, e_kFn_nx, e_kFn_exc, e_fnK, e_kFnK_ret, e_mt, e_kMt2, e_isi, e_kIs, e_kI, e_chain, e_kCh, e_kCh2, e_kCh3_t, e_kCh3_f, e_shut, e_kSh, e_sl, e_kSl, e_kSl2n, e_kSl2i, e_kSl3, e_part, e_kPart, List.map_cons, List.map_nil, List.length_cons, List.length_nil, List.replicate, List.cons_append, List.nil_append, List.getElem?_cons_zero, List.getElem?_cons_succ, List.set_cons_zero, List.set_cons_succ, Nat.reduceSub, Nat.reduceAdd, Nat.zero_add, if_true, if_false, reduceIte, p_ix, itemS, l_dat, l_scr, l_ref0, atI_0, atI_1, atI_2, atI_3, Option.map_some, Option.bind_some, p_gtI, p_ltI, p_geI, p_leI, p_ltS, p_eqI, p_neI, p_eqS, p_neS, p_addI, p_subI, p_negI, p_lenL, p_lenT, p_intB, v_dat, l_tup, a_tup, p_isN, p_notN, set_feed1, set_feed2, p_pow9, p_pow12, p_pow18, e_iter, e_kIter_t, e_kIter_l, e_kIter_s, e_r1, e_zip, e_kZip, zip2_t, zip2_l, e_for, e_kFor, e_lc, e_try, e_kTry_ret, e_raise, e_kRaise, e_callL, ts_nil, ts_cons, e_kMtS, gYes, x_k2, x_k1, x_kc, x_kd, x_kN, x_kCall, x_kIf, x_kSIf, x_kAsg, x_kDrop, Bool.false_eq_true, Bool.not_true, Bool.not_false, tup_2, tup_3, tup_4, p_tup0, p_lst0, p_tup1, p_lst1, p_tup2, p_lst2, p_tup3, p_lst3, p_tup4, p_lst4, p_tup5, p_lst5, p_tup6, p_lst6, p_tup7, p_lst7, p_tup8, p_lst8, p_part (a := txt p) (b := ":") (by decide) (by omega), part_txt h]
  by_cases q : p.2.1 + 1 < p.2.2
  · have et : tail p = numS p.2.1 ++ "-" ++ numS (p.2.2 - 1) := if_pos q
    have ep : Txt.partition (tail p) "-" = (numS p.2.1, ("-" : Str), numS (p.2.2 - 1)) := by
      rw [et]
      exact TL.partition_app (s := 45) (S := []) rfl (no_dash h0)
    simp -implicitDefEqProofs only [e_P2, e_k2, e_k1, e_P1, e_k0, e_lift, e_C, gVar, e_nil, e_cons, e_kc, e_kd, e_PN, e_kN, e_call, e_kCall, e_if, e_kIf_t, e_kIf_f, e_and, e_kAnd_t, e_kAnd_f, e_or, e_kOr_t, e_kOr_f, e_not, e_kNot, e_seq, e_kS_nx, e_kS_ret, e_kS_brk, e_kS_ct, e_kS_exc, e_pass, e_brk, e_ct, e_sif, e_kSIf_t, e_kSIf_f, e_asg, e_kAsg, e_kO, e_name, e_ret, e_kRet, e_kRet_x, e_drop, e_kDrop, e_set, e_kSet, e_kSet2, e_kSet3, e_kSet4, e_fn, e_kFn_ret, e_kFn_nx, e_kFn_exc, e_fnK, e_kFnK_ret, e_mt, e_kMt2, e_isi, e_kIs, e_kI, e_chain, e_kCh, e_kCh2, e_kCh3_t, e_kCh3_f, e_shut, e_kSh, e_sl, e_kSl, e_kSl2n, e_kSl2i, e_kSl3, e_part, e_kPart, List.map_cons, List.map_nil, List.length_cons, List.length_nil, List.replicate, List.cons_append, List.nil_append, List.getElem?_cons_zero, List.getElem?_cons_succ, List.set_cons_zero, List.set_cons_succ, Nat.reduceSub, Nat.reduceAdd, Nat.zero_add, if_true, if_false, reduceIte, p_ix, itemS, l_dat, l_scr, l_ref0, atI_0, atI_1, atI_2, atI_3, Option.map_some, Option.bind_some, p_gtI, p_ltI, p_geI, p_leI, p_ltS, p_eqI, p_neI, p_eqS, p_neS, p_addI, p_subI, p_negI, p_lenL, p_lenT, p_intB, v_dat, l_tup, a_tup, p_isN, p_notN, set_feed1, set_feed2, p_pow9, p_pow12, p_pow18, e_iter, e_kIter_t, e_kIter_l, e_kIter_s, e_r1, e_zip, e_kZip, zip2_t, zip2_l, e_for, e_kFor, e_lc, e_try, e_kTry_ret, e_raise, e_kRaise, e_callL, ts_nil, ts_cons, e_kMtS, gYes, x_k2, x_k1, x_kc, x_kd, x_kN, x_kCall, x_kIf, x_kSIf, x_kAsg, x_kDrop, Bool.false_eq_true, Bool.not_true, Bool.not_false, tup_2, tup_3, tup_4, p_tup0, p_lst0, p_tup1, p_lst1, p_tup2, p_lst2, p_tup3, p_lst3, p_tup4, p_lst4, p_tup5, p_lst5, p_tup6, p_lst6, p_tup7, p_lst7, p_tup8, p_lst8, p_part (a := tail p) (b := "-") (by decide) (by omega), ep, number_ok (i := p.2.1) (lo := 0) (hi := 999999999) h0 (by omega) hB, if_pos (show 0 ≤ p.2.1 ∧ p.2.1 ≤ 999999999 from ⟨h0, by omega⟩), is_word_ok (y := p.1) (by have := h.len; omega) hB, wd, isNon, decide_eq_false (show ¬ (("-" : Str) = "") from by decide +kernel),
      number_ok (i := p.2.2 - 1) (lo := p.2.1 + 1) (hi := 999999999) (by omega) (by omega) hB, if_pos (show p.2.1 + 1 ≤ p.2.2 - 1 ∧ p.2.2 - 1 ≤ 999999999 from ⟨by omega, by omega⟩)]
    rw [endF_self hB, Int.sub_add_cancel]
    rfl
  · have et : tail p = numS p.2.1 := if_neg q
    have ep : Txt.partition (tail p) "-" = (numS p.2.1, Str.empty, Str.empty) := by
      rw [et]
      exact TL.partition_none (s := 45) (S := []) rfl (no_dash h0)
    simp -implicitDefEqProofs only [e_P2, e_k2, e_k1, e_P1, e_k0, e_lift, e_C, gVar, e_nil, e_cons, e_kc, e_kd, e_PN, e_kN, e_call, e_kCall, e_if, e_kIf_t, e_kIf_f, e_and, e_kAnd_t, e_kAnd_f, e_or, e_kOr_t, e_kOr_f, e_not, e_kNot, e_seq, e_kS_nx, e_kS_ret, e_kS_brk, e_kS_ct, e_kS_exc, e_pass, e_brk, e_ct, e_sif, e_kSIf_t, e_kSIf_f, e_asg, e_kAsg, e_kO, e_name, e_ret, e_kRet, e_kRet_x, e_drop, e_kDrop, e_set, e_kSet, e_kSet2, e_kSet3, e_kSet4, e_fn, e_kFn_ret, e_kFn_nx, e_kFn_exc, e_fnK, e_kFnK_ret, e_mt, e_kMt2, e_isi, e_kIs, e_kI, e_chain, e_kCh, e_kCh2, e_kCh3_t, e_kCh3_f, e_shut, e_kSh, e_sl, e_kSl, e_kSl2n, e_kSl2i, e_kSl3, e_part, e_kPart, List.map_cons, List.map_nil, List.length_cons, List.length_nil, List.replicate, List.cons_append, List.nil_append, List.getElem?_cons_zero, List.getElem?_cons_succ, List.set_cons_zero, List.set_cons_succ, Nat.reduceSub, Nat.reduceAdd, Nat.zero_add, if_true, if_false, reduceIte, p_ix, itemS, l_dat, l_scr, l_ref0, atI_0, atI_1, atI_2, atI_3, Option.map_some, Option.bind_some, p_gtI, p_ltI, p_geI, p_leI, p_ltS, p_eqI, p_neI, p_eqS, p_neS, p_addI, p_subI, p_negI, p_lenL, p_lenT, p_intB, v_dat, l_tup, a_tup, p_isN, p_notN, set_feed1, set_feed2, p_pow9, p_pow12, p_pow18, e_iter, e_kIter_t, e_kIter_l, e_kIter_s, e_r1, e_zip, e_kZip, zip2_t, zip2_l, e_for, e_kFor, e_lc, e_try, e_kTry_ret, e_raise, e_kRaise, e_callL, ts_nil, ts_cons, e_kMtS, gYes, x_k2, x_k1, x_kc, x_kd, x_kN, x_kCall, x_kIf, x_kSIf, x_kAsg, x_kDrop, Bool.false_eq_true, Bool.not_true, Bool.not_false, tup_2, tup_3, tup_4, p_tup0, p_lst0, p_tup1, p_lst1, p_tup2, p_lst2, p_tup3, p_lst3, p_tup4, p_lst4, p_tup5, p_lst5, p_tup6, p_lst6, p_tup7, p_lst7, p_tup8, p_lst8, p_part (a := tail p) (b := "-") (by decide) (by omega), ep, number_ok (i := p.2.1) (lo := 0) (hi := 999999999) h0 (by omega) hB, if_pos (show 0 ≤ p.2.1 ∧ p.2.1 ≤ 999999999 from ⟨h0, by omega⟩), is_word_ok (y := p.1) (by have := h.len; omega) hB, wd, isNon, decide_eq_true (show Str.empty = ("" : Str) from by decide +kernel)]
    rw [endF_self hB]
    have : p.2.1 + 1 = p.2.2 := by omega
    rw [this]
    rfl
/-! ### rows read back -/
theorem pd_sm {p : P3} (h : Gp p) : Sm 256 1 (pd p) := by
  have h0 := h.lo
  have h1 := h.up
  have h2 := h.top
  refine Sm.up (n := 3 * (82 + 2) + 4) (Sm.tup (n := 82) (k := 0) (ds := [.str p.1, .int p.2.1, .int p.2.2]) fun d m => ?_) (by decide) (Nat.le_refl _)
  simp only [List.mem_cons, List.not_mem_nil, or_false] at m
  rcases m with rfl | rfl | rfl
  · exact Sm.str (n := 8) (fun c m => by have := words_low _ h.wd c m; omega) h.len
  · exact (Sm.int (by omega)).up (by decide) (Nat.le_refl _)
  · exact (Sm.int (by omega)).up (by decide) (Nat.le_refl _)
theorem row_sm {ps : List P3} (h : ∀ p ∈ ps, Gp p) : Sm (ps.length * 258 + 4) 2 (.tuple (ps.map pd)) := by
  have := Sm.tup (n := 256) (k := 1) (ds := ps.map pd) fun d m => by
    obtain ⟨p, hp, rfl⟩ := List.mem_map.mp m
    exact pd_sm (h p hp)
  rw [List.length_map] at this
  exact this
theorem joinL_len (S : List Nat) : ∀ ps : List (List Nat), (TL.joinL S ps).length ≤ (ps.map List.length).sum + ps.length * S.length
  | [] => Nat.zero_le _
  | [p] => by show p.length ≤ _; simp
  | p :: q :: r => by
    have ih := joinL_len S (q :: r)
    show (p ++ (S ++ TL.joinL S (q :: r))).length ≤ _
    rw [List.length_append, List.length_append, List.map_cons, List.sum_cons, List.length_cons, Nat.succ_mul]
    omega
theorem row_len {ps : List P3} (h : ∀ p ∈ ps, Gp p) (hl : ps.length ≤ 1000) : (rowT ps).length ≤ 60000 := by
  unfold rowT
  rw [TL.join_eq, TL.len_tl, TL.tl_join]
  have h1 := joinL_len (TL.tl ",") ((ps.map txt).map TL.tl)
  have h2 : (((ps.map txt).map TL.tl).map List.length).sum ≤ ps.length * 48 := by
    have := sum_le (n := 48) (ys := ps.map txt) fun y m => by
      obtain ⟨p, hp, rfl⟩ := List.mem_map.mp m
      exact txt_len (h p hp)
    rw [List.length_map] at this
    rw [List.map_map, show (List.length ∘ TL.tl) = (fun x : Str => x.length) from funext fun x => (TL.len_tl x).symm]
    exact this
  have h3 : (TL.tl ",").length = 1 := rfl
  rw [List.length_map, List.length_map, h3] at h1
  omega
theorem txt_signs {p : P3} (h : Gp p) : ∀ c ∈ (txt p).cps.toList, 45 ≤ c ∧ c ≤ 122 := by
  have h0 := h.lo
  have h1 := h.up
  intro c m
  rw [txt_tail] at m
  have m : c ∈ TL.tl (p.1 ++ ":" ++ tail p) := m
  rw [TL.tl_append, TL.tl_append, List.mem_append, List.mem_append] at m
  rcases m with (m | m) | m
  · have := words_low _ h.wd c m
    omega
  · have m : c ∈ [58] := m
    rw [List.mem_singleton.mp m]
    omega
  · unfold tail at m
    split at m
    · rw [TL.tl_append, TL.tl_append, List.mem_append, List.mem_append] at m
      rcases m with (m | m) | m
      · have := digits_numS h0 c m
        omega
      · have m : c ∈ [45] := m
        rw [List.mem_singleton.mp m]
        omega
      · have := digits_numS (i := p.2.2 - 1) (by omega) c m
        omega
    · have := digits_numS h0 c m
      omega
theorem split_row {ps : List P3} (h : ∀ p ∈ ps, Gp p) (hne : ps ≠ []) : Txt.split (rowT ps) "," = ps.map txt :=
  TL.split_join (s := 44) (S := []) rfl (by decide +kernel) (fun e => hne (List.map_eq_nil_iff.mp e)) fun y m z => by
    obtain ⟨p, hp, rfl⟩ := List.mem_map.mp m
    have := txt_signs (h p hp) 44 z
    omega
theorem p_split {a b : Str} {B : Bs} (h : (b.length == 0) = false) (ha : a.length ≤ 100000) : pSplit [.dat (.str a), .dat (.str b)] B = some (.dat (.list ((Txt.split a b).map .str)), B) := if_pos ⟨h, by rw [sizeLine_eq]; omega⟩
theorem p_tupleL {ds : List PyData} {B : Bs} : pTupleOf [.dat (.list ds)] B = some (.dat (.tuple ds), B) := by
  show (some (ds.map S.dat)).bind (fun ss => (datsOf ss).map fun ds => (S.dat (.tuple ds), B)) = _
  rw [Option.bind_some, datsOf_map]
  rfl
theorem row_in_ok {ps : List P3} {B : Bs} (h : ∀ p ∈ ps, Gp p) (hl : ps.length ≤ 1000) (hne : ps ≠ []) (hB : Flat B) : m_row_in [.dat (.str (rowT ps))] B = .ok (.dat (.tuple (ps.map pd))) B := by
  unfold m_row_in
  simp -implicitDefEqProofs only [e_P2, e_k2, e_k1, e_P1, e_k0, e_lift, e_C, gVar, e_nil, e_cons, e_kc, e_kd, e_PN, e_kN, e_call, e_kCall, e_if, e_kIf_t, e_kIf_f, e_and, e_kAnd_t, e_kAnd_f, e_or, e_kOr_t, e_kOr_f, e_not, e_kNot, e_seq, e_kS_nx, e_kS_ret, e_kS_brk, e_kS_ct, e_kS_exc, e_pass, e_brk, e_ct, e_sif, e_kSIf_t, e_kSIf_f, e_asg, e_kAsg, e_kO, e_name, e_ret, e_kRet, e_kRet_x, e_drop, e_kDrop, e_set, e_kSet, e_kSet2, e_kSet3, e_kSet4, e_fn, e_kFn_ret, e_kFn_nx, e_kFn_exc, e_fnK, e_kFnK_ret, e_mt, e_kMt2, e_isi, e_kIs, e_kI, e_chain, e_kCh, e_kCh2, e_kCh3_t, e_kCh3_f, e_shut, e_kSh, e_sl, e_kSl, e_kSl2n, e_kSl2i, e_kSl3, e_part, e_kPart, List.map_cons, List.map_nil, List.length_cons, List.length_nil, List.replicate, List.cons_append, List.nil_append, List.getElem?_cons_zero, List.getElem?_cons_succ, List.set_cons_zero, List.set_cons_succ, Nat.reduceSub, Nat.reduceAdd, Nat.zero_add, if_true, if_false, reduceIte, p_ix, itemS, l_dat, l_scr, l_ref0, atI_0, atI_1, atI_2, atI_3, Option.map_some, Option.bind_some, p_gtI, p_ltI, p_geI, p_leI, p_ltS, p_eqI, p_neI, p_eqS, p_neS, p_addI, p_subI, p_negI, p_lenL, p_lenT, p_intB, v_dat, l_tup, a_tup, p_isN, p_notN, set_feed1, set_feed2, p_pow9, p_pow12, p_pow18, e_iter, e_kIter_t, e_kIter_l, e_kIter_s, e_r1, e_zip, e_kZip, zip2_t, zip2_l, e_for, e_kFor, e_lc, e_try, e_kTry_ret, e_raise, e_kRaise, e_callL, ts_nil, ts_cons, e_kMtS, gYes, x_k2, x_k1, x_kc, x_kd, x_kN, x_kCall, x_kIf, x_kSIf, x_kAsg, x_kDrop, Bool.false_eq_true, Bool.not_true, Bool.not_false, tup_2, tup_3, tup_4, p_tup0, p_lst0, p_tup1, p_lst1, p_tup2, p_lst2, p_tup3, p_lst3, p_tup4, p_lst4, p_tup5, p_lst5, p_tup6, p_lst6, p_tup7, p_lst7, p_tup8, p_lst8]
  unfold b_row_in
  simp -implicitDefEqProofs only [e_P2, e_k2, e_k1, e_P1, e_k0, e_lift, e_C, gVar, e_nil, e_cons, e_kc, e_kd, e_PN, e_kN, e_call, e_kCall, e_if, e_kIf_t, e_kIf_f, e_and, e_kAnd_t, e_kAnd_f, e_or, e_kOr_t, e_kOr_f, e_not, e_kNot, e_seq, e_kS_nx, e_kS_ret, e_kS_brk, e_kS_ct, e_kS_exc, e_pass, e_brk, e_ct, e_sif, e_kSIf_t, e_kSIf_f, e_asg, e_kAsg, e_kO, e_name, e_ret, e_kRet, e_kRet_x, e_drop, e_kDrop, e_set, e_kSet, e_kSet2, e_kSet3, e_kSet4, e_fn, e_kFn_ret, e_kFn_nx, e_kFn_exc, e_fnK, e_kFnK_ret, e_mt, e_kMt2, e_isi, e_kIs, e_kI, e_chain, e_kCh, e_kCh2, e_kCh3_t, e_kCh3_f, e_shut, e_kSh, e_sl, e_kSl, e_kSl2n, e_kSl2i, e_kSl3, e_part, e_kPart, List.map_cons, List.map_nil, List.length_cons, List.length_nil, List.replicate, List.cons_append, List.nil_append, List.getElem?_cons_zero, List.getElem?_cons_succ, List.set_cons_zero, List.set_cons_succ, Nat.reduceSub, Nat.reduceAdd, Nat.zero_add, if_true, if_false, reduceIte, p_ix, itemS, l_dat, l_scr, l_ref0, atI_0, atI_1, atI_2, atI_3, Option.map_some, Option.bind_some, p_gtI, p_ltI, p_geI, p_leI, p_ltS, p_eqI, p_neI, p_eqS, p_neS, p_addI, p_subI, p_negI, p_lenL, p_lenT, p_intB, v_dat, l_tup, a_tup, p_isN, p_notN, set_feed1, set_feed2, p_pow9, p_pow12, p_pow18, e_iter, e_kIter_t, e_kIter_l, e_kIter_s, e_r1, e_zip, e_kZip, zip2_t, zip2_l, e_for, e_kFor, e_lc, e_try, e_kTry_ret, e_raise, e_kRaise, e_callL, ts_nil, ts_cons, e_kMtS, gYes, x_k2, x_k1, x_kc, x_kd, x_kN, x_kCall, x_kIf, x_kSIf, x_kAsg, x_kDrop, Bool.false_eq_true, Bool.not_true, Bool.not_false, tup_2, tup_3, tup_4, p_tup0, p_lst0, p_tup1, p_lst1, p_tup2, p_lst2, p_tup3, p_lst3, p_tup4, p_lst4, p_tup5, p_lst5, p_tup6, p_lst6, p_tup7, p_lst7, p_tup8, p_lst8, p_split (a := rowT ps) (b := ",") (by decide) (by have := row_len h hl; omega), split_row h hne]
  rw [e_kLc (by rw [List.length_map, List.length_map, List.length_map]; omega), List.map_map, List.map_map, lc_mapL (f := fun p => .dat (pd p)) ps [] trivial fun p hp => ⟨_, rfl, rfl, ?_⟩]
  · rw [show (ps.map fun p => S.dat (pd p)) = (ps.map pd).map S.dat by rw [List.map_map]; rfl]
    simp -implicitDefEqProofs only [e_P2, e_k2, e_k1, e_P1, e_k0, e_lift, e_C, gVar, e_nil, e_cons, e_kc, e_kd, e_PN, e_kN, e_call, e_kCall, e_if, e_kIf_t, e_kIf_f, e_and, e_kAnd_t, e_kAnd_f, e_or, e_kOr_t, e_kOr_f, e_not, e_kNot, e_seq, e_kS_nx, e_kS_ret, e_kS_brk, e_kS_ct, e_kS_exc, e_pass, e_brk, e_ct, e_sif, e_kSIf_t, e_kSIf_f, e_asg, e_kAsg, e_kO, e_name, e_ret, e_kRet, e_kRet_x, e_drop, e_kDrop, e_set, e_kSet, e_kSet2, e_kSet3, e_kSet4, e_fn, e_kFn_ret, e_kFn_nx, e_kFn_exc, e_fnK, e_kFnK_ret, e_mt, e_kMt2, e_isi, e_kIs, e_kI, e_chain, e_kCh, e_kCh2, e_kCh3_t, e_kCh3_f, e_shut, e_kSh, e_sl, e_kSl, e_kSl2n, e_kSl2i, e_kSl3, e_part, e_kPart, List.map_cons, List.map_nil, List.length_cons, List.length_nil, List.replicate, List.cons_append, List.nil_append, List.getElem?_cons_zero, List.getElem?_cons_succ, List.set_cons_zero, List.set_cons_succ, Nat.reduceSub, Nat.reduceAdd, Nat.zero_add, if_true, if_false, reduceIte, p_ix, itemS, l_dat, l_scr, l_ref0, atI_0, atI_1, atI_2, atI_3, Option.map_some, Option.bind_some, p_gtI, p_ltI, p_geI, p_leI, p_ltS, p_eqI, p_neI, p_eqS, p_neS, p_addI, p_subI, p_negI, p_lenL, p_lenT, p_intB, v_dat, l_tup, a_tup, p_isN, p_notN, set_feed1, set_feed2, p_pow9, p_pow12, p_pow18, e_iter, e_kIter_t, e_kIter_l, e_kIter_s, e_r1, e_zip, e_kZip, zip2_t, zip2_l, e_for, e_kFor, e_lc, e_try, e_kTry_ret, e_raise, e_kRaise, e_callL, ts_nil, ts_cons, e_kMtS, gYes, x_k2, x_k1, x_kc, x_kd, x_kN, x_kCall, x_kIf, x_kSIf, x_kAsg, x_kDrop, Bool.false_eq_true, Bool.not_true, Bool.not_false, tup_2, tup_3, tup_4, p_tup0, p_lst0, p_tup1, p_lst1, p_tup2, p_lst2, p_tup3, p_lst3, p_tup4, p_lst4, p_tup5, p_lst5, p_tup6, p_lst6, p_tup7, p_lst7, p_tup8, p_lst8]
    rw [p_lst (by rw [List.length_map]; exact sz_small hl)]
    simp -implicitDefEqProofs only [e_P2, e_k2, e_k1, e_P1, e_k0, e_lift, e_C, gVar, e_nil, e_cons, e_kc, e_kd, e_PN, e_kN, e_call, e_kCall, e_if, e_kIf_t, e_kIf_f, e_and, e_kAnd_t, e_kAnd_f, e_or, e_kOr_t, e_kOr_f, e_not, e_kNot, e_seq, e_kS_nx, e_kS_ret, e_kS_brk, e_kS_ct, e_kS_exc, e_pass, e_brk, e_ct, e_sif, e_kSIf_t, e_kSIf_f, e_asg, e_kAsg, e_kO, e_name, e_ret, e_kRet, e_kRet_x, e_drop, e_kDrop, e_set, e_kSet, e_kSet2, e_kSet3, e_kSet4, e_fn, e_kFn_ret, e_kFn_nx, e_kFn_exc, e_fnK, e_kFnK_ret, e_mt, e_kMt2, e_isi, e_kIs, e_kI, e_chain, e_kCh, e_kCh2, e_kCh3_t, e_kCh3_f, e_shut, e_kSh, e_sl, e_kSl, e_kSl2n, e_kSl2i, e_kSl3, e_part, e_kPart, List.map_cons, List.map_nil, List.length_cons, List.length_nil, List.replicate, List.cons_append, List.nil_append, List.getElem?_cons_zero, List.getElem?_cons_succ, List.set_cons_zero, List.set_cons_succ, Nat.reduceSub, Nat.reduceAdd, Nat.zero_add, if_true, if_false, reduceIte, p_ix, itemS, l_dat, l_scr, l_ref0, atI_0, atI_1, atI_2, atI_3, Option.map_some, Option.bind_some, p_gtI, p_ltI, p_geI, p_leI, p_ltS, p_eqI, p_neI, p_eqS, p_neS, p_addI, p_subI, p_negI, p_lenL, p_lenT, p_intB, v_dat, l_tup, a_tup, p_isN, p_notN, set_feed1, set_feed2, p_pow9, p_pow12, p_pow18, e_iter, e_kIter_t, e_kIter_l, e_kIter_s, e_r1, e_zip, e_kZip, zip2_t, zip2_l, e_for, e_kFor, e_lc, e_try, e_kTry_ret, e_raise, e_kRaise, e_callL, ts_nil, ts_cons, e_kMtS, gYes, x_k2, x_k1, x_kc, x_kd, x_kN, x_kCall, x_kIf, x_kSIf, x_kAsg, x_kDrop, Bool.false_eq_true, Bool.not_true, Bool.not_false, tup_2, tup_3, tup_4, p_tup0, p_lst0, p_tup1, p_lst1, p_tup2, p_lst2, p_tup3, p_lst3, p_tup4, p_lst4, p_tup5, p_lst5, p_tup6, p_lst6, p_tup7, p_lst7, p_tup8, p_lst8, p_tupleL, p_inT Sm.non (row_sm h) (by decide) (by decide)]
    rw [show ((ps.map pd).any fun z => PyData.eqv z .none) = false by
      rw [List.any_eq_false]
      intro d m
      obtain ⟨p, hp, rfl⟩ := List.mem_map.mp m
      simp [pd, PyData.eqv]]
    simp -implicitDefEqProofs only [e_P2, e_k2, e_k1, e_P1, e_k0, e_lift, e_C, gVar, e_nil, e_cons, e_kc, e_kd, e_PN, e_kN, e_call, e_kCall, e_if, e_kIf_t, e_kIf_f, e_and, e_kAnd_t, e_kAnd_f, e_or, e_kOr_t, e_kOr_f, e_not, e_kNot, e_seq, e_kS_nx, e_kS_ret, e_kS_brk, e_kS_ct, e_kS_exc, e_pass, e_brk, e_ct, e_sif, e_kSIf_t, e_kSIf_f, e_asg, e_kAsg, e_kO, e_name, e_ret, e_kRet, e_kRet_x, e_drop, e_kDrop, e_set, e_kSet, e_kSet2, e_kSet3, e_kSet4, e_fn, e_kFn_ret, e_kFn_nx, e_kFn_exc, e_fnK, e_kFnK_ret, e_mt, e_kMt2, e_isi, e_kIs, e_kI, e_chain, e_kCh, e_kCh2, e_kCh3_t, e_kCh3_f, e_shut, e_kSh, e_sl, e_kSl, e_kSl2n, e_kSl2i, e_kSl3, e_part, e_kPart, List.map_cons, List.map_nil, List.length_cons, List.length_nil, List.replicate, List.cons_append, List.nil_append, List.getElem?_cons_zero, List.getElem?_cons_succ, List.set_cons_zero, List.set_cons_succ, Nat.reduceSub, Nat.reduceAdd, Nat.zero_add, if_true, if_false, reduceIte, p_ix, itemS, l_dat, l_scr, l_ref0, atI_0, atI_1, atI_2, atI_3, Option.map_some, Option.bind_some, p_gtI, p_ltI, p_geI, p_leI, p_ltS, p_eqI, p_neI, p_eqS, p_neS, p_addI, p_subI, p_negI, p_lenL, p_lenT, p_intB, v_dat, l_tup, a_tup, p_isN, p_notN, set_feed1, set_feed2, p_pow9, p_pow12, p_pow18, e_iter, e_kIter_t, e_kIter_l, e_kIter_s, e_r1, e_zip, e_kZip, zip2_t, zip2_l, e_for, e_kFor, e_lc, e_try, e_kTry_ret, e_raise, e_kRaise, e_callL, ts_nil, ts_cons, e_kMtS, gYes, x_k2, x_k1, x_kc, x_kd, x_kN, x_kCall, x_kIf, x_kSIf, x_kAsg, x_kDrop, Bool.false_eq_true, Bool.not_true, Bool.not_false, tup_2, tup_3, tup_4, p_tup0, p_lst0, p_tup1, p_lst1, p_tup2, p_lst2, p_tup3, p_lst3, p_tup4, p_lst4, p_tup5, p_lst5, p_tup6, p_lst6, p_tup7, p_lst7, p_tup8, p_lst8]
    rw [endF_self hB]
  · simp -implicitDefEqProofs only [e_P2, e_k2, e_k1, e_P1, e_k0, e_lift, e_C, gVar, e_nil, e_cons, e_kc, e_kd, e_PN, e_kN, e_call, e_kCall, e_if, e_kIf_t, e_kIf_f, e_and, e_kAnd_t, e_kAnd_f, e_or, e_kOr_t, e_kOr_f, e_not, e_kNot, e_seq, e_kS_nx, e_kS_ret, e_kS_brk, e_kS_ct, e_kS_exc, e_pass, e_brk, e_ct, e_sif, e_kSIf_t, e_kSIf_f, e_asg, e_kAsg, e_kO, e_name, e_ret, e_kRet, e_kRet_x, e_drop, e_kDrop, e_set, e_kSet, e_kSet2, e_kSet3, e_kSet4, e_fn, e_kFn_ret, e_kFn_nx, e_kFn_exc, e_fnK, e_kFnK_ret, e_mt, e_kMt2, e_isi, e_kIs, e_kI, e_chain, e_kCh, e_kCh2, e_kCh3_t, e_kCh3_f, e_shut, e_kSh, e_sl, e_kSl, e_kSl2n, e_kSl2i, e_kSl3, e_part, e_kPart, List.map_cons, List.map_nil, List.length_cons, List.length_nil, List.replicate, List.cons_append, List.nil_append, List.getElem?_cons_zero, List.getElem?_cons_succ, List.set_cons_zero, List.set_cons_succ, Nat.reduceSub, Nat.reduceAdd, Nat.zero_add, if_true, if_false, reduceIte, p_ix, itemS, l_dat, l_scr, l_ref0, atI_0, atI_1, atI_2, atI_3, Option.map_some, Option.bind_some, p_gtI, p_ltI, p_geI, p_leI, p_ltS, p_eqI, p_neI, p_eqS, p_neS, p_addI, p_subI, p_negI, p_lenL, p_lenT, p_intB, v_dat, l_tup, a_tup, p_isN, p_notN, set_feed1, set_feed2, p_pow9, p_pow12, p_pow18, e_iter, e_kIter_t, e_kIter_l, e_kIter_s, e_r1, e_zip, e_kZip, zip2_t, zip2_l, e_for, e_kFor, e_lc, e_try, e_kTry_ret, e_raise, e_kRaise, e_callL, ts_nil, ts_cons, e_kMtS, gYes, x_k2, x_k1, x_kc, x_kd, x_kN, x_kCall, x_kIf, x_kSIf, x_kAsg, x_kDrop, Bool.false_eq_true, Bool.not_true, Bool.not_false, tup_2, tup_3, tup_4, p_tup0, p_lst0, p_tup1, p_lst1, p_tup2, p_lst2, p_tup3, p_lst3, p_tup4, p_lst4, p_tup5, p_lst5, p_tup6, p_lst6, p_tup7, p_lst7, p_tup8, p_lst8, wipeE, Function.comp, run_in_ok (h p hp) hB]
/-! ### runs -/
def ltS' (x y : Str) : Bool := decide (x.cps.toList < y.cps.toList)
def goes (p q : P3) : Bool := ltS' p.1 q.1 || (decide (p.1 = q.1) && decide (p.2.2 < q.2.1))
def chain : List P3 → Bool
  | p :: q :: r => goes p q && chain (q :: r)
  | _ => true
theorem number_yes {i lo hi : Int} {B : Bs} (h1 : lo ≤ i) (h2 : i ≤ hi) (hB : Flat B) : m_is_number [.dat (.int i), .dat (.int lo), .dat (.int hi)] B = .ok (.dat (.bool true)) B := by
  unfold m_is_number
  simp -implicitDefEqProofs only [e_P2, e_k2, e_k1, e_P1, e_k0, e_lift, e_C, gVar, e_nil, e_cons, e_kc, e_kd, e_PN, e_kN, e_call, e_kCall, e_if, e_kIf_t, e_kIf_f, e_and, e_kAnd_t, e_kAnd_f, e_or, e_kOr_t, e_kOr_f, e_not, e_kNot, e_seq, e_kS_nx, e_kS_ret, e_kS_brk, e_kS_ct, e_kS_exc, e_pass, e_brk, e_ct, e_sif, e_kSIf_t, e_kSIf_f, e_asg, e_kAsg, e_kO, e_name, e_ret, e_kRet, e_kRet_x, e_drop, e_kDrop, e_set, e_kSet, e_kSet2, e_kSet3, e_kSet4, e_fn, e_kFn_ret, e_kFn_nx, e_kFn_exc, e_fnK, e_kFnK_ret, e_mt, e_kMt2, e_isi, e_kIs, e_kI, e_chain, e_kCh, e_kCh2, e_kCh3_t, e_kCh3_f, e_shut, e_kSh, e_sl, e_kSl, e_kSl2n, e_kSl2i, e_kSl3, e_part, e_kPart, List.map_cons, List.map_nil, List.length_cons, List.length_nil, List.replicate, List.cons_append, List.nil_append, List.getElem?_cons_zero, List.getElem?_cons_succ, List.set_cons_zero, List.set_cons_succ, Nat.reduceSub, Nat.reduceAdd, Nat.zero_add, if_true, if_false, reduceIte, p_ix, itemS, l_dat, l_scr, l_ref0, atI_0, atI_1, atI_2, atI_3, Option.map_some, Option.bind_some, p_gtI, p_ltI, p_geI, p_leI, p_ltS, p_eqI, p_neI, p_eqS, p_neS, p_addI, p_subI, p_negI, p_lenL, p_lenT, p_intB, v_dat, l_tup, a_tup, p_isN, p_notN, set_feed1, set_feed2, p_pow9, p_pow12, p_pow18, e_iter, e_kIter_t, e_kIter_l, e_kIter_s, e_r1, e_zip, e_kZip, zip2_t, zip2_l, e_for, e_kFor, e_lc, e_try, e_kTry_ret, e_raise, e_kRaise, e_callL, ts_nil, ts_cons, e_kMtS, gYes, x_k2, x_k1, x_kc, x_kd, x_kN, x_kCall, x_kIf, x_kSIf, x_kAsg, x_kDrop, Bool.false_eq_true, Bool.not_true, Bool.not_false, tup_2, tup_3, tup_4, p_tup0, p_lst0, p_tup1, p_lst1, p_tup2, p_lst2, p_tup3, p_lst3, p_tup4, p_lst4, p_tup5, p_lst5, p_tup6, p_lst6, p_tup7, p_lst7, p_tup8, p_lst8]
  unfold b_is_number
  simp -implicitDefEqProofs only [e_P2, e_k2, e_k1, e_P1, e_k0, e_lift, e_C, gVar, e_nil, e_cons, e_kc, e_kd, e_PN, e_kN, e_call, e_kCall, e_if, e_kIf_t, e_kIf_f, e_and, e_kAnd_t, e_kAnd_f, e_or, e_kOr_t, e_kOr_f, e_not, e_kNot, e_seq, e_kS_nx, e_kS_ret, e_kS_brk, e_kS_ct, e_kS_exc, e_pass, e_brk, e_ct, e_sif, e_kSIf_t, e_kSIf_f, e_asg, e_kAsg, e_kO, e_name, e_ret, e_kRet, e_kRet_x, e_drop, e_kDrop, e_set, e_kSet, e_kSet2, e_kSet3, e_kSet4, e_fn, e_kFn_ret, e_kFn_nx, e_kFn_exc, e_fnK, e_kFnK_ret, e_mt, e_kMt2, e_isi, e_kIs, e_kI, e_chain, e_kCh, e_kCh2, e_kCh3_t, e_kCh3_f, e_shut, e_kSh, e_sl, e_kSl, e_kSl2n, e_kSl2i, e_kSl3, e_part, e_kPart, List.map_cons, List.map_nil, List.length_cons, List.length_nil, List.replicate, List.cons_append, List.nil_append, List.getElem?_cons_zero, List.getElem?_cons_succ, List.set_cons_zero, List.set_cons_succ, Nat.reduceSub, Nat.reduceAdd, Nat.zero_add, if_true, if_false, reduceIte, p_ix, itemS, l_dat, l_scr, l_ref0, atI_0, atI_1, atI_2, atI_3, Option.map_some, Option.bind_some, p_gtI, p_ltI, p_geI, p_leI, p_ltS, p_eqI, p_neI, p_eqS, p_neS, p_addI, p_subI, p_negI, p_lenL, p_lenT, p_intB, v_dat, l_tup, a_tup, p_isN, p_notN, set_feed1, set_feed2, p_pow9, p_pow12, p_pow18, e_iter, e_kIter_t, e_kIter_l, e_kIter_s, e_r1, e_zip, e_kZip, zip2_t, zip2_l, e_for, e_kFor, e_lc, e_try, e_kTry_ret, e_raise, e_kRaise, e_callL, ts_nil, ts_cons, e_kMtS, gYes, x_k2, x_k1, x_kc, x_kd, x_kN, x_kCall, x_kIf, x_kSIf, x_kAsg, x_kDrop, Bool.false_eq_true, Bool.not_true, Bool.not_false, tup_2, tup_3, tup_4, p_tup0, p_lst0, p_tup1, p_lst1, p_tup2, p_lst2, p_tup3, p_lst3, p_tup4, p_lst4, p_tup5, p_lst5, p_tup6, p_lst6, p_tup7, p_lst7, p_tup8, p_lst8, tyD, show isTy "int" "int" = true from by decide, show isTy "int" "bool" = false from by decide]
  rw [decide_eq_true h1]
  simp -implicitDefEqProofs only [e_P2, e_k2, e_k1, e_P1, e_k0, e_lift, e_C, gVar, e_nil, e_cons, e_kc, e_kd, e_PN, e_kN, e_call, e_kCall, e_if, e_kIf_t, e_kIf_f, e_and, e_kAnd_t, e_kAnd_f, e_or, e_kOr_t, e_kOr_f, e_not, e_kNot, e_seq, e_kS_nx, e_kS_ret, e_kS_brk, e_kS_ct, e_kS_exc, e_pass, e_brk, e_ct, e_sif, e_kSIf_t, e_kSIf_f, e_asg, e_kAsg, e_kO, e_name, e_ret, e_kRet, e_kRet_x, e_drop, e_kDrop, e_set, e_kSet, e_kSet2, e_kSet3, e_kSet4, e_fn, e_kFn_ret, e_kFn_nx, e_kFn_exc, e_fnK, e_kFnK_ret, e_mt, e_kMt2, e_isi, e_kIs, e_kI, e_chain, e_kCh, e_kCh2, e_kCh3_t, e_kCh3_f, e_shut, e_kSh, e_sl, e_kSl, e_kSl2n, e_kSl2i, e_kSl3, e_part, e_kPart, List.map_cons, List.map_nil, List.length_cons, List.length_nil, List.replicate, List.cons_append, List.nil_append, List.getElem?_cons_zero, List.getElem?_cons_succ, List.set_cons_zero, List.set_cons_succ, Nat.reduceSub, Nat.reduceAdd, Nat.zero_add, if_true, if_false, reduceIte, p_ix, itemS, l_dat, l_scr, l_ref0, atI_0, atI_1, atI_2, atI_3, Option.map_some, Option.bind_some, p_gtI, p_ltI, p_geI, p_leI, p_ltS, p_eqI, p_neI, p_eqS, p_neS, p_addI, p_subI, p_negI, p_lenL, p_lenT, p_intB, v_dat, l_tup, a_tup, p_isN, p_notN, set_feed1, set_feed2, p_pow9, p_pow12, p_pow18, e_iter, e_kIter_t, e_kIter_l, e_kIter_s, e_r1, e_zip, e_kZip, zip2_t, zip2_l, e_for, e_kFor, e_lc, e_try, e_kTry_ret, e_raise, e_kRaise, e_callL, ts_nil, ts_cons, e_kMtS, gYes, x_k2, x_k1, x_kc, x_kd, x_kN, x_kCall, x_kIf, x_kSIf, x_kAsg, x_kDrop, Bool.false_eq_true, Bool.not_true, Bool.not_false, tup_2, tup_3, tup_4, p_tup0, p_lst0, p_tup1, p_lst1, p_tup2, p_lst2, p_tup3, p_lst3, p_tup4, p_lst4, p_tup5, p_lst5, p_tup6, p_lst6, p_tup7, p_lst7, p_tup8, p_lst8]
  rw [decide_eq_true h2, endF_self hB]
theorem is_run_ok {p : P3} {B : Bs} (h : Gp p) (hB : Flat B) : m_is_run [.dat (pd p)] B = .ok (.dat (.bool true)) B := by
  have h0 := h.lo
  have h1 := h.up
  have h2 := h.top
  unfold m_is_run
  simp -implicitDefEqProofs only [e_P2, e_k2, e_k1, e_P1, e_k0, e_lift, e_C, gVar, e_nil, e_cons, e_kc, e_kd, e_PN, e_kN, e_call, e_kCall, e_if, e_kIf_t, e_kIf_f, e_and, e_kAnd_t, e_kAnd_f, e_or, e_kOr_t, e_kOr_f, e_not, e_kNot, e_seq, e_kS_nx, e_kS_ret, e_kS_brk, e_kS_ct, e_kS_exc, e_pass, e_brk, e_ct, e_sif, e_kSIf_t, e_kSIf_f, e_asg, e_kAsg, e_kO, e_name, e_ret, e_kRet, e_kRet_x, e_drop, e_kDrop, e_set, e_kSet, e_kSet2, e_kSet3, e_kSet4, e_fn, e_kFn_ret, e_kFn_nx, e_kFn_exc, e_fnK, e_kFnK_ret, e_mt, e_kMt2, e_isi, e_kIs, e_kI, e_chain, e_kCh, e_kCh2, e_kCh3_t, e_kCh3_f, e_shut, e_kSh, e_sl, e_kSl, e_kSl2n, e_kSl2i, e_kSl3, e_part, e_kPart, List.map_cons, List.map_nil, List.length_cons, List.length_nil, List.replicate, List.cons_append, List.nil_append, List.getElem?_cons_zero, List.getElem?_cons_succ, List.set_cons_zero, List.set_cons_succ, Nat.reduceSub, Nat.reduceAdd, Nat.zero_add, if_true, if_false, reduceIte, p_ix, itemS, l_dat, l_scr, l_ref0, atI_0, atI_1, atI_2, atI_3, Option.map_some, Option.bind_some, p_gtI, p_ltI, p_geI, p_leI, p_ltS, p_eqI, p_neI, p_eqS, p_neS, p_addI, p_subI, p_negI, p_lenL, p_lenT, p_intB, v_dat, l_tup, a_tup, p_isN, p_notN, set_feed1, set_feed2, p_pow9, p_pow12, p_pow18, e_iter, e_kIter_t, e_kIter_l, e_kIter_s, e_r1, e_zip, e_kZip, zip2_t, zip2_l, e_for, e_kFor, e_lc, e_try, e_kTry_ret, e_raise, e_kRaise, e_callL, ts_nil, ts_cons, e_kMtS, gYes, x_k2, x_k1, x_kc, x_kd, x_kN, x_kCall, x_kIf, x_kSIf, x_kAsg, x_kDrop, Bool.false_eq_true, Bool.not_true, Bool.not_false, tup_2, tup_3, tup_4, p_tup0, p_lst0, p_tup1, p_lst1, p_tup2, p_lst2, p_tup3, p_lst3, p_tup4, p_lst4, p_tup5, p_lst5, p_tup6, p_lst6, p_tup7, p_lst7, p_tup8, p_lst8]
  unfold b_is_run
  simp -implicitDefEqProofs only [e_P2, e_k2, e_k1, e_P1, e_k0, e_lift, e_C, gVar, e_nil, e_cons, e_kc, e_kd, e_PN, e_kN, e_call, e_kCall, e_if, e_kIf_t, e_kIf_f, e_and, e_kAnd_t, e_kAnd_f, e_or, e_kOr_t, e_kOr_f, e_not, e_kNot, e_seq, e_kS_nx, e_kS_ret, e_kS_brk, e_kS_ct, e_kS_exc, e_pass, e_brk, e_ct, e_sif, e_kSIf_t, e_kSIf_f, e_asg, e_kAsg, e_kO, e_name, e_ret, e_kRet, e_kRet_x, e_drop, e_kDrop, e_set, e_kSet, e_kSet2, e_kSet3, e_kSet4, e_fn, e_kFn_ret, e_kFn_nx, e_kFn_exc, e_fnK, e_kFnK_ret, e_mt, e_kMt2, e_isi, e_kIs, e_kI, e_chain, e_kCh, e_kCh2, e_kCh3_t, e_kCh3_f, e_shut, e_kSh, e_sl, e_kSl, e_kSl2n, e_kSl2i, e_kSl3, e_part, e_kPart, List.map_cons, List.map_nil, List.length_cons, List.length_nil, List.replicate, List.cons_append, List.nil_append, List.getElem?_cons_zero, List.getElem?_cons_succ, List.set_cons_zero, List.set_cons_succ, Nat.reduceSub, Nat.reduceAdd, Nat.zero_add, if_true, if_false, reduceIte, p_ix, itemS, l_dat, l_scr, l_ref0, atI_0, atI_1, atI_2, atI_3, Option.map_some, Option.bind_some, p_gtI, p_ltI, p_geI, p_leI, p_ltS, p_eqI, p_neI, p_eqS, p_neS, p_addI, p_subI, p_negI, p_lenL, p_lenT, p_intB, v_dat, l_tup, a_tup, p_isN, p_notN, set_feed1, set_feed2, p_pow9, p_pow12, p_pow18, e_iter, e_kIter_t, e_kIter_l, e_kIter_s, e_r1, e_zip, e_kZip, zip2_t, zip2_l, e_for, e_kFor, e_lc, e_try, e_kTry_ret, e_raise, e_kRaise, e_callL, ts_nil, ts_cons, e_kMtS, gYes, x_k2, x_k1, x_kc, x_kd, x_kN, x_kCall, x_kIf, x_kSIf, x_kAsg, x_kDrop, Bool.false_eq_true, Bool.not_true, Bool.not_false, tup_2, tup_3, tup_4, p_tup0, p_lst0, p_tup1, p_lst1, p_tup2, p_lst2, p_tup3, p_lst3, p_tup4, p_lst4, p_tup5, p_lst5, p_tup6, p_lst6, p_tup7, p_lst7, p_tup8, p_lst8, pd, tyD, show isTy "tuple" "tuple" = true from by decide, is_series_ok (y := p.1) (by have := h.len; omega) hB, words_good _ h.wd, number_yes (i := p.2.1) (lo := 0) (hi := 999999999) h0 (by omega) hB]
  rw [show (!decide (((3 : Nat) : Int) = 3)) = false from by decide]
  simp -implicitDefEqProofs only [e_P2, e_k2, e_k1, e_P1, e_k0, e_lift, e_C, gVar, e_nil, e_cons, e_kc, e_kd, e_PN, e_kN, e_call, e_kCall, e_if, e_kIf_t, e_kIf_f, e_and, e_kAnd_t, e_kAnd_f, e_or, e_kOr_t, e_kOr_f, e_not, e_kNot, e_seq, e_kS_nx, e_kS_ret, e_kS_brk, e_kS_ct, e_kS_exc, e_pass, e_brk, e_ct, e_sif, e_kSIf_t, e_kSIf_f, e_asg, e_kAsg, e_kO, e_name, e_ret, e_kRet, e_kRet_x, e_drop, e_kDrop, e_set, e_kSet, e_kSet2, e_kSet3, e_kSet4, e_fn, e_kFn_ret, e_kFn_nx, e_kFn_exc, e_fnK, e_kFnK_ret, e_mt, e_kMt2, e_isi, e_kIs, e_kI, e_chain, e_kCh, e_kCh2, e_kCh3_t, e_kCh3_f, e_shut, e_kSh, e_sl, e_kSl, e_kSl2n, e_kSl2i, e_kSl3, e_part, e_kPart, List.map_cons, List.map_nil, List.length_cons, List.length_nil, List.replicate, List.cons_append, List.nil_append, List.getElem?_cons_zero, List.getElem?_cons_succ, List.set_cons_zero, List.set_cons_succ, Nat.reduceSub, Nat.reduceAdd, Nat.zero_add, if_true, if_false, reduceIte, p_ix, itemS, l_dat, l_scr, l_ref0, atI_0, atI_1, atI_2, atI_3, Option.map_some, Option.bind_some, p_gtI, p_ltI, p_geI, p_leI, p_ltS, p_eqI, p_neI, p_eqS, p_neS, p_addI, p_subI, p_negI, p_lenL, p_lenT, p_intB, v_dat, l_tup, a_tup, p_isN, p_notN, set_feed1, set_feed2, p_pow9, p_pow12, p_pow18, e_iter, e_kIter_t, e_kIter_l, e_kIter_s, e_r1, e_zip, e_kZip, zip2_t, zip2_l, e_for, e_kFor, e_lc, e_try, e_kTry_ret, e_raise, e_kRaise, e_callL, ts_nil, ts_cons, e_kMtS, gYes, x_k2, x_k1, x_kc, x_kd, x_kN, x_kCall, x_kIf, x_kSIf, x_kAsg, x_kDrop, Bool.false_eq_true, Bool.not_true, Bool.not_false, tup_2, tup_3, tup_4, p_tup0, p_lst0, p_tup1, p_lst1, p_tup2, p_lst2, p_tup3, p_lst3, p_tup4, p_lst4, p_tup5, p_lst5, p_tup6, p_lst6, p_tup7, p_lst7, p_tup8, p_lst8, number_yes (i := p.2.2) (lo := 1) (hi := 999999999 + 1) (by omega) (by omega) hB, is_series_ok (y := p.1) (by have := h.len; omega) hB, words_good _ h.wd, number_yes (i := p.2.1) (lo := 0) (hi := 999999999) h0 (by omega) hB]
  rw [decide_eq_true h1, endF_self hB]
theorem goes_ok {p q : P3} {B : Bs} (hB : Flat B) : m_goes_ahead [.dat (pd p), .dat (pd q)] B = .ok (.dat (.bool (goes p q))) B := by
  unfold m_goes_ahead
  simp -implicitDefEqProofs only [e_P2, e_k2, e_k1, e_P1, e_k0, e_lift, e_C, gVar, e_nil, e_cons, e_kc, e_kd, e_PN, e_kN, e_call, e_kCall, e_if, e_kIf_t, e_kIf_f, e_and, e_kAnd_t, e_kAnd_f, e_or, e_kOr_t, e_kOr_f, e_not, e_kNot, e_seq, e_kS_nx, e_kS_ret, e_kS_brk, e_kS_ct, e_kS_exc, e_pass, e_brk, e_ct, e_sif, e_kSIf_t, e_kSIf_f, e_asg, e_kAsg, e_kO, e_name, e_ret, e_kRet, e_kRet_x, e_drop, e_kDrop, e_set, e_kSet, e_kSet2, e_kSet3, e_kSet4, e_fn, e_kFn_ret, e_kFn_nx, e_kFn_exc, e_fnK, e_kFnK_ret, e_mt, e_kMt2, e_isi, e_kIs, e_kI, e_chain, e_kCh, e_kCh2, e_kCh3_t, e_kCh3_f, e_shut, e_kSh, e_sl, e_kSl, e_kSl2n, e_kSl2i, e_kSl3, e_part, e_kPart, List.map_cons, List.map_nil, List.length_cons, List.length_nil, List.replicate, List.cons_append, List.nil_append, List.getElem?_cons_zero, List.getElem?_cons_succ, List.set_cons_zero, List.set_cons_succ, Nat.reduceSub, Nat.reduceAdd, Nat.zero_add, if_true, if_false, reduceIte, p_ix, itemS, l_dat, l_scr, l_ref0, atI_0, atI_1, atI_2, atI_3, Option.map_some, Option.bind_some, p_gtI, p_ltI, p_geI, p_leI, p_ltS, p_eqI, p_neI, p_eqS, p_neS, p_addI, p_subI, p_negI, p_lenL, p_lenT, p_intB, v_dat, l_tup, a_tup, p_isN, p_notN, set_feed1, set_feed2, p_pow9, p_pow12, p_pow18, e_iter, e_kIter_t, e_kIter_l, e_kIter_s, e_r1, e_zip, e_kZip, zip2_t, zip2_l, e_for, e_kFor, e_lc, e_try, e_kTry_ret, e_raise, e_kRaise, e_callL, ts_nil, ts_cons, e_kMtS, gYes, x_k2, x_k1, x_kc, x_kd, x_kN, x_kCall, x_kIf, x_kSIf, x_kAsg, x_kDrop, Bool.false_eq_true, Bool.not_true, Bool.not_false, tup_2, tup_3, tup_4, p_tup0, p_lst0, p_tup1, p_lst1, p_tup2, p_lst2, p_tup3, p_lst3, p_tup4, p_lst4, p_tup5, p_lst5, p_tup6, p_lst6, p_tup7, p_lst7, p_tup8, p_lst8]
  unfold b_goes_ahead
  simp -implicitDefEqProofs only [e_P2, e_k2, e_k1, e_P1, e_k0, e_lift, e_C, gVar, e_nil, e_cons, e_kc, e_kd, e_PN, e_kN, e_call, e_kCall, e_if, e_kIf_t, e_kIf_f, e_and, e_kAnd_t, e_kAnd_f, e_or, e_kOr_t, e_kOr_f, e_not, e_kNot, e_seq, e_kS_nx, e_kS_ret, e_kS_brk, e_kS_ct, e_kS_exc, e_pass, e_brk, e_ct, e_sif, e_kSIf_t, e_kSIf_f, e_asg, e_kAsg, e_kO, e_name, e_ret, e_kRet, e_kRet_x, e_drop, e_kDrop, e_set, e_kSet, e_kSet2, e_kSet3, e_kSet4, e_fn, e_kFn_ret, e_kFn_nx, e_kFn_exc, e_fnK, e_kFnK_ret, e_mt, e_kMt2, e_isi, e_kIs, e_kI, e_chain, e_kCh, e_kCh2, e_kCh3_t, e_kCh3_f, e_shut, e_kSh, e_sl, e_kSl, e_kSl2n, e_kSl2i, e_kSl3, e_part, e_kPart, List.map_cons, List.map_nil, List.length_cons, List.length_nil, List.replicate, List.cons_append, List.nil_append, List.getElem?_cons_zero, List.getElem?_cons_succ, List.set_cons_zero, List.set_cons_succ, Nat.reduceSub, Nat.reduceAdd, Nat.zero_add, if_true, if_false, reduceIte, p_ix, itemS, l_dat, l_scr, l_ref0, atI_0, atI_1, atI_2, atI_3, Option.map_some, Option.bind_some, p_gtI, p_ltI, p_geI, p_leI, p_ltS, p_eqI, p_neI, p_eqS, p_neS, p_addI, p_subI, p_negI, p_lenL, p_lenT, p_intB, v_dat, l_tup, a_tup, p_isN, p_notN, set_feed1, set_feed2, p_pow9, p_pow12, p_pow18, e_iter, e_kIter_t, e_kIter_l, e_kIter_s, e_r1, e_zip, e_kZip, zip2_t, zip2_l, e_for, e_kFor, e_lc, e_try, e_kTry_ret, e_raise, e_kRaise, e_callL, ts_nil, ts_cons, e_kMtS, gYes, x_k2, x_k1, x_kc, x_kd, x_kN, x_kCall, x_kIf, x_kSIf, x_kAsg, x_kDrop, Bool.false_eq_true, Bool.not_true, Bool.not_false, tup_2, tup_3, tup_4, p_tup0, p_lst0, p_tup1, p_lst1, p_tup2, p_lst2, p_tup3, p_lst3, p_tup4, p_lst4, p_tup5, p_lst5, p_tup6, p_lst6, p_tup7, p_lst7, p_tup8, p_lst8, pd]
  unfold goes ltS'
  by_cases h1 : p.1.cps.toList < q.1.cps.toList
  · rw [decide_eq_true h1]
    simp -implicitDefEqProofs only [e_P2, e_k2, e_k1, e_P1, e_k0, e_lift, e_C, gVar, e_nil, e_cons, e_kc, e_kd, e_PN, e_kN, e_call, e_kCall, e_if, e_kIf_t, e_kIf_f, e_and, e_kAnd_t, e_kAnd_f, e_or, e_kOr_t, e_kOr_f, e_not, e_kNot, e_seq, e_kS_nx, e_kS_ret, e_kS_brk, e_kS_ct, e_kS_exc, e_pass, e_brk, e_ct, e_sif, e_kSIf_t, e_kSIf_f, e_asg, e_kAsg, e_kO, e_name, e_ret, e_kRet, e_kRet_x, e_drop, e_kDrop, e_set, e_kSet, e_kSet2, e_kSet3, e_kSet4, e_fn, e_kFn_ret, e_kFn_nx, e_kFn_exc, e_fnK, e_kFnK_ret, e_mt, e_kMt2, e_isi, e_kIs, e_kI, e_chain, e_kCh, e_kCh2, e_kCh3_t, e_kCh3_f, e_shut, e_kSh, e_sl, e_kSl, e_kSl2n, e_kSl2i, e_kSl3, e_part, e_kPart, List.map_cons, List.map_nil, List.length_cons, List.length_nil, List.replicate, List.cons_append, List.nil_append, List.getElem?_cons_zero, List.getElem?_cons_succ, List.set_cons_zero, List.set_cons_succ, Nat.reduceSub, Nat.reduceAdd, Nat.zero_add, if_true, if_false, reduceIte, p_ix, itemS, l_dat, l_scr, l_ref0, atI_0, atI_1, atI_2, atI_3, Option.map_some, Option.bind_some, p_gtI, p_ltI, p_geI, p_leI, p_ltS, p_eqI, p_neI, p_eqS, p_neS, p_addI, p_subI, p_negI, p_lenL, p_lenT, p_intB, v_dat, l_tup, a_tup, p_isN, p_notN, set_feed1, set_feed2, p_pow9, p_pow12, p_pow18, e_iter, e_kIter_t, e_kIter_l, e_kIter_s, e_r1, e_zip, e_kZip, zip2_t, zip2_l, e_for, e_kFor, e_lc, e_try, e_kTry_ret, e_raise, e_kRaise, e_callL, ts_nil, ts_cons, e_kMtS, gYes, x_k2, x_k1, x_kc, x_kd, x_kN, x_kCall, x_kIf, x_kSIf, x_kAsg, x_kDrop, Bool.false_eq_true, Bool.not_true, Bool.not_false, tup_2, tup_3, tup_4, p_tup0, p_lst0, p_tup1, p_lst1, p_tup2, p_lst2, p_tup3, p_lst3, p_tup4, p_lst4, p_tup5, p_lst5, p_tup6, p_lst6, p_tup7, p_lst7, p_tup8, p_lst8]
    rw [endF_self hB]
    rfl
  · rw [decide_eq_false h1]
    simp -implicitDefEqProofs only [e_P2, e_k2, e_k1, e_P1, e_k0, e_lift, e_C, gVar, e_nil, e_cons, e_kc, e_kd, e_PN, e_kN, e_call, e_kCall, e_if, e_kIf_t, e_kIf_f, e_and, e_kAnd_t, e_kAnd_f, e_or, e_kOr_t, e_kOr_f, e_not, e_kNot, e_seq, e_kS_nx, e_kS_ret, e_kS_brk, e_kS_ct, e_kS_exc, e_pass, e_brk, e_ct, e_sif, e_kSIf_t, e_kSIf_f, e_asg, e_kAsg, e_kO, e_name, e_ret, e_kRet, e_kRet_x, e_drop, e_kDrop, e_set, e_kSet, e_kSet2, e_kSet3, e_kSet4, e_fn, e_kFn_ret, e_kFn_nx, e_kFn_exc, e_fnK, e_kFnK_ret, e_mt, e_kMt2, e_isi, e_kIs, e_kI, e_chain, e_kCh, e_kCh2, e_kCh3_t, e_kCh3_f, e_shut, e_kSh, e_sl, e_kSl, e_kSl2n, e_kSl2i, e_kSl3, e_part, e_kPart, List.map_cons, List.map_nil, List.length_cons, List.length_nil, List.replicate, List.cons_append, List.nil_append, List.getElem?_cons_zero, List.getElem?_cons_succ, List.set_cons_zero, List.set_cons_succ, Nat.reduceSub, Nat.reduceAdd, Nat.zero_add, if_true, if_false, reduceIte, p_ix, itemS, l_dat, l_scr, l_ref0, atI_0, atI_1, atI_2, atI_3, Option.map_some, Option.bind_some, p_gtI, p_ltI, p_geI, p_leI, p_ltS, p_eqI, p_neI, p_eqS, p_neS, p_addI, p_subI, p_negI, p_lenL, p_lenT, p_intB, v_dat, l_tup, a_tup, p_isN, p_notN, set_feed1, set_feed2, p_pow9, p_pow12, p_pow18, e_iter, e_kIter_t, e_kIter_l, e_kIter_s, e_r1, e_zip, e_kZip, zip2_t, zip2_l, e_for, e_kFor, e_lc, e_try, e_kTry_ret, e_raise, e_kRaise, e_callL, ts_nil, ts_cons, e_kMtS, gYes, x_k2, x_k1, x_kc, x_kd, x_kN, x_kCall, x_kIf, x_kSIf, x_kAsg, x_kDrop, Bool.false_eq_true, Bool.not_true, Bool.not_false, tup_2, tup_3, tup_4, p_tup0, p_lst0, p_tup1, p_lst1, p_tup2, p_lst2, p_tup3, p_lst3, p_tup4, p_lst4, p_tup5, p_lst5, p_tup6, p_lst6, p_tup7, p_lst7, p_tup8, p_lst8]
    by_cases h2 : p.1 = q.1
    · rw [decide_eq_true h2]
      simp -implicitDefEqProofs only [e_P2, e_k2, e_k1, e_P1, e_k0, e_lift, e_C, gVar, e_nil, e_cons, e_kc, e_kd, e_PN, e_kN, e_call, e_kCall, e_if, e_kIf_t, e_kIf_f, e_and, e_kAnd_t, e_kAnd_f, e_or, e_kOr_t, e_kOr_f, e_not, e_kNot, e_seq, e_kS_nx, e_kS_ret, e_kS_brk, e_kS_ct, e_kS_exc, e_pass, e_brk, e_ct, e_sif, e_kSIf_t, e_kSIf_f, e_asg, e_kAsg, e_kO, e_name, e_ret, e_kRet, e_kRet_x, e_drop, e_kDrop, e_set, e_kSet, e_kSet2, e_kSet3, e_kSet4, e_fn, e_kFn_ret, e_kFn_nx, e_kFn_exc, e_fnK, e_kFnK_ret, e_mt, e_kMt2, e_isi, e_kIs, e_kI, e_chain, e_kCh, e_kCh2, e_kCh3_t, e_kCh3_f, e_shut, e_kSh, e_sl, e_kSl, e_kSl2n, e_kSl2i, e_kSl3, e_part, e_kPart, List.map_cons, List.map_nil, List.length_cons, List.length_nil, List.replicate, List.cons_append, List.nil_append, List.getElem?_cons_zero, List.getElem?_cons_succ, List.set_cons_zero, List.set_cons_succ, Nat.reduceSub, Nat.reduceAdd, Nat.zero_add, if_true, if_false, reduceIte, p_ix, itemS, l_dat, l_scr, l_ref0, atI_0, atI_1, atI_2, atI_3, Option.map_some, Option.bind_some, p_gtI, p_ltI, p_geI, p_leI, p_ltS, p_eqI, p_neI, p_eqS, p_neS, p_addI, p_subI, p_negI, p_lenL, p_lenT, p_intB, v_dat, l_tup, a_tup, p_isN, p_notN, set_feed1, set_feed2, p_pow9, p_pow12, p_pow18, e_iter, e_kIter_t, e_kIter_l, e_kIter_s, e_r1, e_zip, e_kZip, zip2_t, zip2_l, e_for, e_kFor, e_lc, e_try, e_kTry_ret, e_raise, e_kRaise, e_callL, ts_nil, ts_cons, e_kMtS, gYes, x_k2, x_k1, x_kc, x_kd, x_kN, x_kCall, x_kIf, x_kSIf, x_kAsg, x_kDrop, Bool.false_eq_true, Bool.not_true, Bool.not_false, tup_2, tup_3, tup_4, p_tup0, p_lst0, p_tup1, p_lst1, p_tup2, p_lst2, p_tup3, p_lst3, p_tup4, p_lst4, p_tup5, p_lst5, p_tup6, p_lst6, p_tup7, p_lst7, p_tup8, p_lst8]
      rw [endF_self hB]
      rfl
    · rw [decide_eq_false h2]
      simp -implicitDefEqProofs only [e_P2, e_k2, e_k1, e_P1, e_k0, e_lift, e_C, gVar, e_nil, e_cons, e_kc, e_kd, e_PN, e_kN, e_call, e_kCall, e_if, e_kIf_t, e_kIf_f, e_and, e_kAnd_t, e_kAnd_f, e_or, e_kOr_t, e_kOr_f, e_not, e_kNot, e_seq, e_kS_nx, e_kS_ret, e_kS_brk, e_kS_ct, e_kS_exc, e_pass, e_brk, e_ct, e_sif, e_kSIf_t, e_kSIf_f, e_asg, e_kAsg, e_kO, e_name, e_ret, e_kRet, e_kRet_x, e_drop, e_kDrop, e_set, e_kSet, e_kSet2, e_kSet3, e_kSet4, e_fn, e_kFn_ret, e_kFn_nx, e_kFn_exc, e_fnK, e_kFnK_ret, e_mt, e_kMt2, e_isi, e_kIs, e_kI, e_chain, e_kCh, e_kCh2, e_kCh3_t, e_kCh3_f, e_shut, e_kSh, e_sl, e_kSl, e_kSl2n, e_kSl2i, e_kSl3, e_part, e_kPart, List.map_cons, List.map_nil, List.length_cons, List.length_nil, List.replicate, List.cons_append, List.nil_append, List.getElem?_cons_zero, List.getElem?_cons_succ, List.set_cons_zero, List.set_cons_succ, Nat.reduceSub, Nat.reduceAdd, Nat.zero_add, if_true, if_false, reduceIte, p_ix, itemS, l_dat, l_scr, l_ref0, atI_0, atI_1, atI_2, atI_3, Option.map_some, Option.bind_some, p_gtI, p_ltI, p_geI, p_leI, p_ltS, p_eqI, p_neI, p_eqS, p_neS, p_addI, p_subI, p_negI, p_lenL, p_lenT, p_intB, v_dat, l_tup, a_tup, p_isN, p_notN, set_feed1, set_feed2, p_pow9, p_pow12, p_pow18, e_iter, e_kIter_t, e_kIter_l, e_kIter_s, e_r1, e_zip, e_kZip, zip2_t, zip2_l, e_for, e_kFor, e_lc, e_try, e_kTry_ret, e_raise, e_kRaise, e_callL, ts_nil, ts_cons, e_kMtS, gYes, x_k2, x_k1, x_kc, x_kd, x_kN, x_kCall, x_kIf, x_kSIf, x_kAsg, x_kDrop, Bool.false_eq_true, Bool.not_true, Bool.not_false, tup_2, tup_3, tup_4, p_tup0, p_lst0, p_tup1, p_lst1, p_tup2, p_lst2, p_tup3, p_lst3, p_tup4, p_lst4, p_tup5, p_lst5, p_tup6, p_lst6, p_tup7, p_lst7, p_tup8, p_lst8]
      rw [endF_self hB]
      rfl
theorem cut1 {α : Type} (xs : List α) : cutL xs (some 1) none = xs.drop 1 := by
  unfold cutL
  cases xs with
  | nil => rfl
  | cons x xs =>
    have e1 : HT.sIx (x :: xs).length 0 (some 1) = 1 := by
      unfold HT.sIx
      simp
    have e2 : HT.sIx (x :: xs).length (x :: xs).length none = (x :: xs).length := rfl
    rw [e1, e2]
    simp
theorem sl1 {ds : List PyData} {B : Bs} : pSl [.dat (.tuple ds), .dat (.int 1), .dat .none] B = some (.dat (.tuple (ds.drop 1)), B) := by
  rw [p_sl (lo := some 1) (hi := none) rfl rfl]
  show some (S.dat (.tuple (cutL ds (some 1) none)), B) = _
  rw [cut1]
theorem zip_pairs (ps : List P3) : (List.zip (ps.map pd) ((ps.map pd).drop 1)).map (fun p => S.dat (.tuple [p.1, p.2])) = (List.zip ps (ps.drop 1)).map fun p => S.dat (.tuple [pd p.1, pd p.2]) := by
  rw [← List.map_drop, List.zip_map, List.map_map]
  rfl
theorem chain_all : ∀ ps : List P3, ((List.zip ps (ps.drop 1)).map fun p => goes p.1 p.2).all id = chain ps
  | [] => rfl
  | [p] => rfl
  | p :: q :: r => by
    show (goes p q && ((List.zip (q :: r) r).map fun p => goes p.1 p.2).all id) = (goes p q && chain (q :: r))
    rw [← chain_all (q :: r)]
    rfl
theorem is_runs_ok {ps : List P3} {B : Bs} (h : ∀ p ∈ ps, Gp p) (hl : ps.length ≤ 1000) (hB : Flat B) : m_is_runs [.dat (.tuple (ps.map pd))] B = .ok (.dat (.bool (chain ps))) B := by
  unfold m_is_runs
  simp -implicitDefEqProofs only [e_P2, e_k2, e_k1, e_P1, e_k0, e_lift, e_C, gVar, e_nil, e_cons, e_kc, e_kd, e_PN, e_kN, e_call, e_kCall, e_if, e_kIf_t, e_kIf_f, e_and, e_kAnd_t, e_kAnd_f, e_or, e_kOr_t, e_kOr_f, e_not, e_kNot, e_seq, e_kS_nx, e_kS_ret, e_kS_brk, e_kS_ct, e_kS_exc, e_pass, e_brk, e_ct, e_sif, e_kSIf_t, e_kSIf_f, e_asg, e_kAsg, e_kO, e_name, e_ret, e_kRet, e_kRet_x, e_drop, e_kDrop, e_set, e_kSet, e_kSet2, e_kSet3, e_kSet4, e_fn, e_kFn_ret, e_kFn_nx, e_kFn_exc, e_fnK, e_kFnK_ret, e_mt, e_kMt2, e_isi, e_kIs, e_kI, e_chain, e_kCh, e_kCh2, e_kCh3_t, e_kCh3_f, e_shut, e_kSh, e_sl, e_kSl, e_kSl2n, e_kSl2i, e_kSl3, e_part, e_kPart, List.map_cons, List.map_nil, List.length_cons, List.length_nil, List.replicate, List.cons_append, List.nil_append, List.getElem?_cons_zero, List.getElem?_cons_succ, List.set_cons_zero, List.set_cons_succ, Nat.reduceSub, Nat.reduceAdd, Nat.zero_add, if_true, if_false, reduceIte, p_ix, itemS, l_dat, l_scr, l_ref0, atI_0, atI_1, atI_2, atI_3, Option.map_some, Option.bind_some, p_gtI, p_ltI, p_geI, p_leI, p_ltS, p_eqI, p_neI, p_eqS, p_neS, p_addI, p_subI, p_negI, p_lenL, p_lenT, p_intB, v_dat, l_tup, a_tup, p_isN, p_notN, set_feed1, set_feed2, p_pow9, p_pow12, p_pow18, e_iter, e_kIter_t, e_kIter_l, e_kIter_s, e_r1, e_zip, e_kZip, zip2_t, zip2_l, e_for, e_kFor, e_lc, e_try, e_kTry_ret, e_raise, e_kRaise, e_callL, ts_nil, ts_cons, e_kMtS, gYes, x_k2, x_k1, x_kc, x_kd, x_kN, x_kCall, x_kIf, x_kSIf, x_kAsg, x_kDrop, Bool.false_eq_true, Bool.not_true, Bool.not_false, tup_2, tup_3, tup_4, p_tup0, p_lst0, p_tup1, p_lst1, p_tup2, p_lst2, p_tup3, p_lst3, p_tup4, p_lst4, p_tup5, p_lst5, p_tup6, p_lst6, p_tup7, p_lst7, p_tup8, p_lst8]
  unfold b_is_runs
  simp -implicitDefEqProofs only [e_P2, e_k2, e_k1, e_P1, e_k0, e_lift, e_C, gVar, e_nil, e_cons, e_kc, e_kd, e_PN, e_kN, e_call, e_kCall, e_if, e_kIf_t, e_kIf_f, e_and, e_kAnd_t, e_kAnd_f, e_or, e_kOr_t, e_kOr_f, e_not, e_kNot, e_seq, e_kS_nx, e_kS_ret, e_kS_brk, e_kS_ct, e_kS_exc, e_pass, e_brk, e_ct, e_sif, e_kSIf_t, e_kSIf_f, e_asg, e_kAsg, e_kO, e_name, e_ret, e_kRet, e_kRet_x, e_drop, e_kDrop, e_set, e_kSet, e_kSet2, e_kSet3, e_kSet4, e_fn, e_kFn_ret, e_kFn_nx, e_kFn_exc, e_fnK, e_kFnK_ret, e_mt, e_kMt2, e_isi, e_kIs, e_kI, e_chain, e_kCh, e_kCh2, e_kCh3_t, e_kCh3_f, e_shut, e_kSh, e_sl, e_kSl, e_kSl2n, e_kSl2i, e_kSl3, e_part, e_kPart, List.map_cons, List.map_nil, List.length_cons, List.length_nil, List.replicate, List.cons_append, List.nil_append, List.getElem?_cons_zero, List.getElem?_cons_succ, List.set_cons_zero, List.set_cons_succ, Nat.reduceSub, Nat.reduceAdd, Nat.zero_add, if_true, if_false, reduceIte, p_ix, itemS, l_dat, l_scr, l_ref0, atI_0, atI_1, atI_2, atI_3, Option.map_some, Option.bind_some, p_gtI, p_ltI, p_geI, p_leI, p_ltS, p_eqI, p_neI, p_eqS, p_neS, p_addI, p_subI, p_negI, p_lenL, p_lenT, p_intB, v_dat, l_tup, a_tup, p_isN, p_notN, set_feed1, set_feed2, p_pow9, p_pow12, p_pow18, e_iter, e_kIter_t, e_kIter_l, e_kIter_s, e_r1, e_zip, e_kZip, zip2_t, zip2_l, e_for, e_kFor, e_lc, e_try, e_kTry_ret, e_raise, e_kRaise, e_callL, ts_nil, ts_cons, e_kMtS, gYes, x_k2, x_k1, x_kc, x_kd, x_kN, x_kCall, x_kIf, x_kSIf, x_kAsg, x_kDrop, Bool.false_eq_true, Bool.not_true, Bool.not_false, tup_2, tup_3, tup_4, p_tup0, p_lst0, p_tup1, p_lst1, p_tup2, p_lst2, p_tup3, p_lst3, p_tup4, p_lst4, p_tup5, p_lst5, p_tup6, p_lst6, p_tup7, p_lst7, p_tup8, p_lst8, tyD, show isTy "tuple" "tuple" = true from by decide]
  rw [e_kLc (by rw [List.length_map, List.length_map]; omega), List.map_map, lc_mapL (f := fun p => .dat (.bool true)) ps [] trivial fun p hp => ⟨_, rfl, rfl, ?_⟩]
  · rw [show (ps.map fun p => S.dat (.bool true)) = ((ps.map fun p => true).map PyData.bool).map S.dat by rw [List.map_map, List.map_map]; rfl]
    simp -implicitDefEqProofs only [e_P2, e_k2, e_k1, e_P1, e_k0, e_lift, e_C, gVar, e_nil, e_cons, e_kc, e_kd, e_PN, e_kN, e_call, e_kCall, e_if, e_kIf_t, e_kIf_f, e_and, e_kAnd_t, e_kAnd_f, e_or, e_kOr_t, e_kOr_f, e_not, e_kNot, e_seq, e_kS_nx, e_kS_ret, e_kS_brk, e_kS_ct, e_kS_exc, e_pass, e_brk, e_ct, e_sif, e_kSIf_t, e_kSIf_f, e_asg, e_kAsg, e_kO, e_name, e_ret, e_kRet, e_kRet_x, e_drop, e_kDrop, e_set, e_kSet, e_kSet2, e_kSet3, e_kSet4, e_fn, e_kFn_ret, e_kFn_nx, e_kFn_exc, e_fnK, e_kFnK_ret, e_mt, e_kMt2, e_isi, e_kIs, e_kI, e_chain, e_kCh, e_kCh2, e_kCh3_t, e_kCh3_f, e_shut, e_kSh, e_sl, e_kSl, e_kSl2n, e_kSl2i, e_kSl3, e_part, e_kPart, List.map_cons, List.map_nil, List.length_cons, List.length_nil, List.replicate, List.cons_append, List.nil_append, List.getElem?_cons_zero, List.getElem?_cons_succ, List.set_cons_zero, List.set_cons_succ, Nat.reduceSub, Nat.reduceAdd, Nat.zero_add, if_true, if_false, reduceIte, p_ix, itemS, l_dat, l_scr, l_ref0, atI_0, atI_1, atI_2, atI_3, Option.map_some, Option.bind_some, p_gtI, p_ltI, p_geI, p_leI, p_ltS, p_eqI, p_neI, p_eqS, p_neS, p_addI, p_subI, p_negI, p_lenL, p_lenT, p_intB, v_dat, l_tup, a_tup, p_isN, p_notN, set_feed1, set_feed2, p_pow9, p_pow12, p_pow18, e_iter, e_kIter_t, e_kIter_l, e_kIter_s, e_r1, e_zip, e_kZip, zip2_t, zip2_l, e_for, e_kFor, e_lc, e_try, e_kTry_ret, e_raise, e_kRaise, e_callL, ts_nil, ts_cons, e_kMtS, gYes, x_k2, x_k1, x_kc, x_kd, x_kN, x_kCall, x_kIf, x_kSIf, x_kAsg, x_kDrop, Bool.false_eq_true, Bool.not_true, Bool.not_false, tup_2, tup_3, tup_4, p_tup0, p_lst0, p_tup1, p_lst1, p_tup2, p_lst2, p_tup3, p_lst3, p_tup4, p_lst4, p_tup5, p_lst5, p_tup6, p_lst6, p_tup7, p_lst7, p_tup8, p_lst8]
    rw [p_lst (by rw [List.length_map, List.length_map]; exact sz_small hl)]
    simp -implicitDefEqProofs only [e_P2, e_k2, e_k1, e_P1, e_k0, e_lift, e_C, gVar, e_nil, e_cons, e_kc, e_kd, e_PN, e_kN, e_call, e_kCall, e_if, e_kIf_t, e_kIf_f, e_and, e_kAnd_t, e_kAnd_f, e_or, e_kOr_t, e_kOr_f, e_not, e_kNot, e_seq, e_kS_nx, e_kS_ret, e_kS_brk, e_kS_ct, e_kS_exc, e_pass, e_brk, e_ct, e_sif, e_kSIf_t, e_kSIf_f, e_asg, e_kAsg, e_kO, e_name, e_ret, e_kRet, e_kRet_x, e_drop, e_kDrop, e_set, e_kSet, e_kSet2, e_kSet3, e_kSet4, e_fn, e_kFn_ret, e_kFn_nx, e_kFn_exc, e_fnK, e_kFnK_ret, e_mt, e_kMt2, e_isi, e_kIs, e_kI, e_chain, e_kCh, e_kCh2, e_kCh3_t, e_kCh3_f, e_shut, e_kSh, e_sl, e_kSl, e_kSl2n, e_kSl2i, e_kSl3, e_part, e_kPart, List.map_cons, List.map_nil, List.length_cons, List.length_nil, List.replicate, List.cons_append, List.nil_append, List.getElem?_cons_zero, List.getElem?_cons_succ, List.set_cons_zero, List.set_cons_succ, Nat.reduceSub, Nat.reduceAdd, Nat.zero_add, if_true, if_false, reduceIte, p_ix, itemS, l_dat, l_scr, l_ref0, atI_0, atI_1, atI_2, atI_3, Option.map_some, Option.bind_some, p_gtI, p_ltI, p_geI, p_leI, p_ltS, p_eqI, p_neI, p_eqS, p_neS, p_addI, p_subI, p_negI, p_lenL, p_lenT, p_intB, v_dat, l_tup, a_tup, p_isN, p_notN, set_feed1, set_feed2, p_pow9, p_pow12, p_pow18, e_iter, e_kIter_t, e_kIter_l, e_kIter_s, e_r1, e_zip, e_kZip, zip2_t, zip2_l, e_for, e_kFor, e_lc, e_try, e_kTry_ret, e_raise, e_kRaise, e_callL, ts_nil, ts_cons, e_kMtS, gYes, x_k2, x_k1, x_kc, x_kd, x_kN, x_kCall, x_kIf, x_kSIf, x_kAsg, x_kDrop, Bool.false_eq_true, Bool.not_true, Bool.not_false, tup_2, tup_3, tup_4, p_tup0, p_lst0, p_tup1, p_lst1, p_tup2, p_lst2, p_tup3, p_lst3, p_tup4, p_lst4, p_tup5, p_lst5, p_tup6, p_lst6, p_tup7, p_lst7, p_tup8, p_lst8, p_allL]
    rw [show (ps.map fun _ => true).all id = true by simp]
    simp -implicitDefEqProofs only [e_P2, e_k2, e_k1, e_P1, e_k0, e_lift, e_C, gVar, e_nil, e_cons, e_kc, e_kd, e_PN, e_kN, e_call, e_kCall, e_if, e_kIf_t, e_kIf_f, e_and, e_kAnd_t, e_kAnd_f, e_or, e_kOr_t, e_kOr_f, e_not, e_kNot, e_seq, e_kS_nx, e_kS_ret, e_kS_brk, e_kS_ct, e_kS_exc, e_pass, e_brk, e_ct, e_sif, e_kSIf_t, e_kSIf_f, e_asg, e_kAsg, e_kO, e_name, e_ret, e_kRet, e_kRet_x, e_drop, e_kDrop, e_set, e_kSet, e_kSet2, e_kSet3, e_kSet4, e_fn, e_kFn_ret, e_kFn_nx, e_kFn_exc, e_fnK, e_kFnK_ret, e_mt, e_kMt2, e_isi, e_kIs, e_kI, e_chain, e_kCh, e_kCh2, e_kCh3_t, e_kCh3_f, e_shut, e_kSh, e_sl, e_kSl, e_kSl2n, e_kSl2i, e_kSl3, e_part, e_kPart, List.map_cons, List.map_nil, List.length_cons, List.length_nil, List.replicate, List.cons_append, List.nil_append, List.getElem?_cons_zero, List.getElem?_cons_succ, List.set_cons_zero, List.set_cons_succ, Nat.reduceSub, Nat.reduceAdd, Nat.zero_add, if_true, if_false, reduceIte, p_ix, itemS, l_dat, l_scr, l_ref0, atI_0, atI_1, atI_2, atI_3, Option.map_some, Option.bind_some, p_gtI, p_ltI, p_geI, p_leI, p_ltS, p_eqI, p_neI, p_eqS, p_neS, p_addI, p_subI, p_negI, p_lenL, p_lenT, p_intB, v_dat, l_tup, a_tup, p_isN, p_notN, set_feed1, set_feed2, p_pow9, p_pow12, p_pow18, e_iter, e_kIter_t, e_kIter_l, e_kIter_s, e_r1, e_zip, e_kZip, zip2_t, zip2_l, e_for, e_kFor, e_lc, e_try, e_kTry_ret, e_raise, e_kRaise, e_callL, ts_nil, ts_cons, e_kMtS, gYes, x_k2, x_k1, x_kc, x_kd, x_kN, x_kCall, x_kIf, x_kSIf, x_kAsg, x_kDrop, Bool.false_eq_true, Bool.not_true, Bool.not_false, tup_2, tup_3, tup_4, p_tup0, p_lst0, p_tup1, p_lst1, p_tup2, p_lst2, p_tup3, p_lst3, p_tup4, p_lst4, p_tup5, p_lst5, p_tup6, p_lst6, p_tup7, p_lst7, p_tup8, p_lst8, sl1]
    have hz : (List.zip ps (ps.drop 1)).length ≤ 1000 := by rw [List.length_zip]; omega
    rw [zip_pairs, e_kLc (by rw [List.length_map]; omega), lc_mapL (f := fun p => .dat (.bool (goes p.1 p.2))) (List.zip ps (ps.drop 1)) [] trivial fun p hp => ⟨_, rfl, rfl, ?_⟩]
    · rw [show ((List.zip ps (ps.drop 1)).map fun p => S.dat (.bool (goes p.1 p.2))) = (((List.zip ps (ps.drop 1)).map fun p => goes p.1 p.2).map PyData.bool).map S.dat by rw [List.map_map, List.map_map]; rfl]
      simp -implicitDefEqProofs only [e_P2, e_k2, e_k1, e_P1, e_k0, e_lift, e_C, gVar, e_nil, e_cons, e_kc, e_kd, e_PN, e_kN, e_call, e_kCall, e_if, e_kIf_t, e_kIf_f, e_and, e_kAnd_t, e_kAnd_f, e_or, e_kOr_t, e_kOr_f, e_not, e_kNot, e_seq, e_kS_nx, e_kS_ret, e_kS_brk, e_kS_ct, e_kS_exc, e_pass, e_brk, e_ct, e_sif, e_kSIf_t, e_kSIf_f, e_asg, e_kAsg, e_kO, e_name, e_ret, e_kRet, e_kRet_x, e_drop, e_kDrop, e_set, e_kSet, e_kSet2, e_kSet3, e_kSet4, e_fn, e_kFn_ret, e_kFn_nx, e_kFn_exc, e_fnK, e_kFnK_ret, e_mt, e_kMt2, e_isi, e_kIs, e_kI, e_chain, e_kCh, e_kCh2, e_kCh3_t, e_kCh3_f, e_shut, e_kSh, e_sl, e_kSl, e_kSl2n, e_kSl2i, e_kSl3, e_part, e_kPart, List.map_cons, List.map_nil, List.length_cons, List.length_nil, List.replicate, List.cons_append, List.nil_append, List.getElem?_cons_zero, List.getElem?_cons_succ, List.set_cons_zero, List.set_cons_succ, Nat.reduceSub, Nat.reduceAdd, Nat.zero_add, if_true, if_false, reduceIte, p_ix, itemS, l_dat, l_scr, l_ref0, atI_0, atI_1, atI_2, atI_3, Option.map_some, Option.bind_some, p_gtI, p_ltI, p_geI, p_leI, p_ltS, p_eqI, p_neI, p_eqS, p_neS, p_addI, p_subI, p_negI, p_lenL, p_lenT, p_intB, v_dat, l_tup, a_tup, p_isN, p_notN, set_feed1, set_feed2, p_pow9, p_pow12, p_pow18, e_iter, e_kIter_t, e_kIter_l, e_kIter_s, e_r1, e_zip, e_kZip, zip2_t, zip2_l, e_for, e_kFor, e_lc, e_try, e_kTry_ret, e_raise, e_kRaise, e_callL, ts_nil, ts_cons, e_kMtS, gYes, x_k2, x_k1, x_kc, x_kd, x_kN, x_kCall, x_kIf, x_kSIf, x_kAsg, x_kDrop, Bool.false_eq_true, Bool.not_true, Bool.not_false, tup_2, tup_3, tup_4, p_tup0, p_lst0, p_tup1, p_lst1, p_tup2, p_lst2, p_tup3, p_lst3, p_tup4, p_lst4, p_tup5, p_lst5, p_tup6, p_lst6, p_tup7, p_lst7, p_tup8, p_lst8]
      rw [p_lst (by rw [List.length_map, List.length_map]; exact sz_small hz)]
      simp -implicitDefEqProofs only [e_P2, e_k2, e_k1, e_P1, e_k0, e_lift, e_C, gVar, e_nil, e_cons, e_kc, e_kd, e_PN, e_kN, e_call, e_kCall, e_if, e_kIf_t, e_kIf_f, e_and, e_kAnd_t, e_kAnd_f, e_or, e_kOr_t, e_kOr_f, e_not, e_kNot, e_seq, e_kS_nx, e_kS_ret, e_kS_brk, e_kS_ct, e_kS_exc, e_pass, e_brk, e_ct, e_sif, e_kSIf_t, e_kSIf_f, e_asg, e_kAsg, e_kO, e_name, e_ret, e_kRet, e_kRet_x, e_drop, e_kDrop, e_set, e_kSet, e_kSet2, e_kSet3, e_kSet4, e_fn, e_kFn_ret, e_kFn_nx, e_kFn_exc, e_fnK, e_kFnK_ret, e_mt, e_kMt2, e_isi, e_kIs, e_kI, e_chain, e_kCh, e_kCh2, e_kCh3_t, e_kCh3_f, e_shut, e_kSh, e_sl, e_kSl, e_kSl2n, e_kSl2i, e_kSl3, e_part, e_kPart, List.map_cons, List.map_nil, List.length_cons, List.length_nil, List.replicate, List.cons_append, List.nil_append, List.getElem?_cons_zero, List.getElem?_cons_succ, List.set_cons_zero, List.set_cons_succ, Nat.reduceSub, Nat.reduceAdd, Nat.zero_add, if_true, if_false, reduceIte, p_ix, itemS, l_dat, l_scr, l_ref0, atI_0, atI_1, atI_2, atI_3, Option.map_some, Option.bind_some, p_gtI, p_ltI, p_geI, p_leI, p_ltS, p_eqI, p_neI, p_eqS, p_neS, p_addI, p_subI, p_negI, p_lenL, p_lenT, p_intB, v_dat, l_tup, a_tup, p_isN, p_notN, set_feed1, set_feed2, p_pow9, p_pow12, p_pow18, e_iter, e_kIter_t, e_kIter_l, e_kIter_s, e_r1, e_zip, e_kZip, zip2_t, zip2_l, e_for, e_kFor, e_lc, e_try, e_kTry_ret, e_raise, e_kRaise, e_callL, ts_nil, ts_cons, e_kMtS, gYes, x_k2, x_k1, x_kc, x_kd, x_kN, x_kCall, x_kIf, x_kSIf, x_kAsg, x_kDrop, Bool.false_eq_true, Bool.not_true, Bool.not_false, tup_2, tup_3, tup_4, p_tup0, p_lst0, p_tup1, p_lst1, p_tup2, p_lst2, p_tup3, p_lst3, p_tup4, p_lst4, p_tup5, p_lst5, p_tup6, p_lst6, p_tup7, p_lst7, p_tup8, p_lst8, p_allL]
      rw [chain_all, endF_self hB]
    · simp -implicitDefEqProofs only [e_P2, e_k2, e_k1, e_P1, e_k0, e_lift, e_C, gVar, e_nil, e_cons, e_kc, e_kd, e_PN, e_kN, e_call, e_kCall, e_if, e_kIf_t, e_kIf_f, e_and, e_kAnd_t, e_kAnd_f, e_or, e_kOr_t, e_kOr_f, e_not, e_kNot, e_seq, e_kS_nx, e_kS_ret, e_kS_brk, e_kS_ct, e_kS_exc, e_pass, e_brk, e_ct, e_sif, e_kSIf_t, e_kSIf_f, e_asg, e_kAsg, e_kO, e_name, e_ret, e_kRet, e_kRet_x, e_drop, e_kDrop, e_set, e_kSet, e_kSet2, e_kSet3, e_kSet4, e_fn, e_kFn_ret, e_kFn_nx, e_kFn_exc, e_fnK, e_kFnK_ret, e_mt, e_kMt2, e_isi, e_kIs, e_kI, e_chain, e_kCh, e_kCh2, e_kCh3_t, e_kCh3_f, e_shut, e_kSh, e_sl, e_kSl, e_kSl2n, e_kSl2i, e_kSl3, e_part, e_kPart, List.map_cons, List.map_nil, List.length_cons, List.length_nil, List.replicate, List.cons_append, List.nil_append, List.getElem?_cons_zero, List.getElem?_cons_succ, List.set_cons_zero, List.set_cons_succ, Nat.reduceSub, Nat.reduceAdd, Nat.zero_add, if_true, if_false, reduceIte, p_ix, itemS, l_dat, l_scr, l_ref0, atI_0, atI_1, atI_2, atI_3, Option.map_some, Option.bind_some, p_gtI, p_ltI, p_geI, p_leI, p_ltS, p_eqI, p_neI, p_eqS, p_neS, p_addI, p_subI, p_negI, p_lenL, p_lenT, p_intB, v_dat, l_tup, a_tup, p_isN, p_notN, set_feed1, set_feed2, p_pow9, p_pow12, p_pow18, e_iter, e_kIter_t, e_kIter_l, e_kIter_s, e_r1, e_zip, e_kZip, zip2_t, zip2_l, e_for, e_kFor, e_lc, e_try, e_kTry_ret, e_raise, e_kRaise, e_callL, ts_nil, ts_cons, e_kMtS, gYes, x_k2, x_k1, x_kc, x_kd, x_kN, x_kCall, x_kIf, x_kSIf, x_kAsg, x_kDrop, Bool.false_eq_true, Bool.not_true, Bool.not_false, tup_2, tup_3, tup_4, p_tup0, p_lst0, p_tup1, p_lst1, p_tup2, p_lst2, p_tup3, p_lst3, p_tup4, p_lst4, p_tup5, p_lst5, p_tup6, p_lst6, p_tup7, p_lst7, p_tup8, p_lst8, wipeE, goes_ok hB]
  · simp -implicitDefEqProofs only [e_P2, e_k2, e_k1, e_P1, e_k0, e_lift, e_C, gVar, e_nil, e_cons, e_kc, e_kd, e_PN, e_kN, e_call, e_kCall, e_if, e_kIf_t, e_kIf_f, e_and, e_kAnd_t, e_kAnd_f, e_or, e_kOr_t, e_kOr_f, e_not, e_kNot, e_seq, e_kS_nx, e_kS_ret, e_kS_brk, e_kS_ct, e_kS_exc, e_pass, e_brk, e_ct, e_sif, e_kSIf_t, e_kSIf_f, e_asg, e_kAsg, e_kO, e_name, e_ret, e_kRet, e_kRet_x, e_drop, e_kDrop, e_set, e_kSet, e_kSet2, e_kSet3, e_kSet4, e_fn, e_kFn_ret, e_kFn_nx, e_kFn_exc, e_fnK, e_kFnK_ret, e_mt, e_kMt2, e_isi, e_kIs, e_kI, e_chain, e_kCh, e_kCh2, e_kCh3_t, e_kCh3_f, e_shut, e_kSh, e_sl, e_kSl, e_kSl2n, e_kSl2i, e_kSl3, e_part, e_kPart, List.map_cons, List.map_nil, List.length_cons, List.length_nil, List.replicate, List.cons_append, List.nil_append, List.getElem?_cons_zero, List.getElem?_cons_succ, List.set_cons_zero, List.set_cons_succ, Nat.reduceSub, Nat.reduceAdd, Nat.zero_add, if_true, if_false, reduceIte, p_ix, itemS, l_dat, l_scr, l_ref0, atI_0, atI_1, atI_2, atI_3, Option.map_some, Option.bind_some, p_gtI, p_ltI, p_geI, p_leI, p_ltS, p_eqI, p_neI, p_eqS, p_neS, p_addI, p_subI, p_negI, p_lenL, p_lenT, p_intB, v_dat, l_tup, a_tup, p_isN, p_notN, set_feed1, set_feed2, p_pow9, p_pow12, p_pow18, e_iter, e_kIter_t, e_kIter_l, e_kIter_s, e_r1, e_zip, e_kZip, zip2_t, zip2_l, e_for, e_kFor, e_lc, e_try, e_kTry_ret, e_raise, e_kRaise, e_callL, ts_nil, ts_cons, e_kMtS, gYes, x_k2, x_k1, x_kc, x_kd, x_kN, x_kCall, x_kIf, x_kSIf, x_kAsg, x_kDrop, Bool.false_eq_true, Bool.not_true, Bool.not_false, tup_2, tup_3, tup_4, p_tup0, p_lst0, p_tup1, p_lst1, p_tup2, p_lst2, p_tup3, p_lst3, p_tup4, p_lst4, p_tup5, p_lst5, p_tup6, p_lst6, p_tup7, p_lst7, p_tup8, p_lst8, wipeE, Function.comp, is_run_ok (h p hp) hB]
/-! ### reading -/
theorem row_head {ps : List P3} (h : ∀ p ∈ ps, Gp p) (hne : ps ≠ []) : ¬ (rowT ps = "-") := by
  intro e
  cases ps with
  | nil => exact hne rfl
  | cons p r =>
    have g := h p List.mem_cons_self
    have e := congrArg TL.tl e
    unfold rowT at e
    rw [TL.join_eq, TL.tl_join, List.map_cons, List.map_cons] at e
    have hd : ∃ l, TL.joinL (TL.tl ",") (TL.tl (txt p) :: (r.map txt).map TL.tl) = TL.tl (txt p) ++ l := by
      cases (r.map txt).map TL.tl with
      | nil => exact ⟨[], (List.append_nil _).symm⟩
      | cons q l => exact ⟨_, rfl⟩
    obtain ⟨l, hd⟩ := hd
    rw [hd, txt_tail, TL.tl_append, TL.tl_append, List.append_assoc, List.append_assoc] at e
    cases ew : TL.tl p.1 with
    | nil =>
      have : ∀ s ∈ words7, s.length ≠ 0 := by decide +kernel
      exact this _ g.wd (by rw [TL.len_tl, ew]; rfl)
    | cons c m =>
      rw [ew] at e
      have hc : c = 45 := (List.cons.inj e).1
      have := words_low _ g.wd c (by show c ∈ TL.tl p.1; rw [ew]; exact List.mem_cons_self)
      omega
theorem runs_in_ok {ps : List P3} {B : Bs} (h : ∀ p ∈ ps, Gp p) (hl : ps.length ≤ 1000) (hne : ps ≠ []) (hB : Flat B) : m_runs_in [.dat (.str (rowT ps))] B = .ok (.dat (if chain ps = true then .tuple (ps.map pd) else .none)) B := by
  unfold m_runs_in
  simp -implicitDefEqProofs only [e_P2, e_k2, e_k1, e_P1, e_k0, e_lift, e_C, gVar, e_nil, e_cons, e_kc, e_kd, e_PN, e_kN, e_call, e_kCall, e_if, e_kIf_t, e_kIf_f, e_and, e_kAnd_t, e_kAnd_f, e_or, e_kOr_t, e_kOr_f, e_not, e_kNot, e_seq, e_kS_nx, e_kS_ret, e_kS_brk, e_kS_ct, e_kS_exc, e_pass, e_brk, e_ct, e_sif, e_kSIf_t, e_kSIf_f, e_asg, e_kAsg, e_kO, e_name, e_ret, e_kRet, e_kRet_x, e_drop, e_kDrop, e_set, e_kSet, e_kSet2, e_kSet3, e_kSet4, e_fn, e_kFn_ret, e_kFn_nx, e_kFn_exc, e_fnK, e_kFnK_ret, e_mt, e_kMt2, e_isi, e_kIs, e_kI, e_chain, e_kCh, e_kCh2, e_kCh3_t, e_kCh3_f, e_shut, e_kSh, e_sl, e_kSl, e_kSl2n, e_kSl2i, e_kSl3, e_part, e_kPart, List.map_cons, List.map_nil, List.length_cons, List.length_nil, List.replicate, List.cons_append, List.nil_append, List.getElem?_cons_zero, List.getElem?_cons_succ, List.set_cons_zero, List.set_cons_succ, Nat.reduceSub, Nat.reduceAdd, Nat.zero_add, if_true, if_false, reduceIte, p_ix, itemS, l_dat, l_scr, l_ref0, atI_0, atI_1, atI_2, atI_3, Option.map_some, Option.bind_some, p_gtI, p_ltI, p_geI, p_leI, p_ltS, p_eqI, p_neI, p_eqS, p_neS, p_addI, p_subI, p_negI, p_lenL, p_lenT, p_intB, v_dat, l_tup, a_tup, p_isN, p_notN, set_feed1, set_feed2, p_pow9, p_pow12, p_pow18, e_iter, e_kIter_t, e_kIter_l, e_kIter_s, e_r1, e_zip, e_kZip, zip2_t, zip2_l, e_for, e_kFor, e_lc, e_try, e_kTry_ret, e_raise, e_kRaise, e_callL, ts_nil, ts_cons, e_kMtS, gYes, x_k2, x_k1, x_kc, x_kd, x_kN, x_kCall, x_kIf, x_kSIf, x_kAsg, x_kDrop, Bool.false_eq_true, Bool.not_true, Bool.not_false, tup_2, tup_3, tup_4, p_tup0, p_lst0, p_tup1, p_lst1, p_tup2, p_lst2, p_tup3, p_lst3, p_tup4, p_lst4, p_tup5, p_lst5, p_tup6, p_lst6, p_tup7, p_lst7, p_tup8, p_lst8]
  unfold b_runs_in
  simp -implicitDefEqProofs only [e_P2, e_k2, e_k1, e_P1, e_k0, e_lift, e_C, gVar, e_nil, e_cons, e_kc, e_kd, e_PN, e_kN, e_call, e_kCall, e_if, e_kIf_t, e_kIf_f, e_and, e_kAnd_t, e_kAnd_f, e_or, e_kOr_t, e_kOr_f, e_not, e_kNot, e_seq, e_kS_nx, e_kS_ret, e_kS_brk, e_kS_ct, e_kS_exc, e_pass, e_brk, e_ct, e_sif, e_kSIf_t, e_kSIf_f, e_asg, e_kAsg, e_kO, e_name, e_ret, e_kRet, e_kRet_x, e_drop, e_kDrop, e_set, e_kSet, e_kSet2, e_kSet3, e_kSet4, e_fn, e_kFn_ret, e_kFn_nx, e_kFn_exc, e_fnK, e_kFnK_ret, e_mt, e_kMt2, e_isi, e_kIs, e_kI, e_chain, e_kCh, e_kCh2, e_kCh3_t, e_kCh3_f, e_shut, e_kSh, e_sl, e_kSl, e_kSl2n, e_kSl2i, e_kSl3, e_part, e_kPart, List.map_cons, List.map_nil, List.length_cons, List.length_nil, List.replicate, List.cons_append, List.nil_append, List.getElem?_cons_zero, List.getElem?_cons_succ, List.set_cons_zero, List.set_cons_succ, Nat.reduceSub, Nat.reduceAdd, Nat.zero_add, if_true, if_false, reduceIte, p_ix, itemS, l_dat, l_scr, l_ref0, atI_0, atI_1, atI_2, atI_3, Option.map_some, Option.bind_some, p_gtI, p_ltI, p_geI, p_leI, p_ltS, p_eqI, p_neI, p_eqS, p_neS, p_addI, p_subI, p_negI, p_lenL, p_lenT, p_intB, v_dat, l_tup, a_tup, p_isN, p_notN, set_feed1, set_feed2, p_pow9, p_pow12, p_pow18, e_iter, e_kIter_t, e_kIter_l, e_kIter_s, e_r1, e_zip, e_kZip, zip2_t, zip2_l, e_for, e_kFor, e_lc, e_try, e_kTry_ret, e_raise, e_kRaise, e_callL, ts_nil, ts_cons, e_kMtS, gYes, x_k2, x_k1, x_kc, x_kd, x_kN, x_kCall, x_kIf, x_kSIf, x_kAsg, x_kDrop, Bool.false_eq_true, Bool.not_true, Bool.not_false, tup_2, tup_3, tup_4, p_tup0, p_lst0, p_tup1, p_lst1, p_tup2, p_lst2, p_tup3, p_lst3, p_tup4, p_lst4, p_tup5, p_lst5, p_tup6, p_lst6, p_tup7, p_lst7, p_tup8, p_lst8, decide_eq_false (row_head h hne), row_in_ok h hl hne hB, is_runs_ok h hl hB]
  cases chain ps with
  | true =>
    simp -implicitDefEqProofs only [e_P2, e_k2, e_k1, e_P1, e_k0, e_lift, e_C, gVar, e_nil, e_cons, e_kc, e_kd, e_PN, e_kN, e_call, e_kCall, e_if, e_kIf_t, e_kIf_f, e_and, e_kAnd_t, e_kAnd_f, e_or, e_kOr_t, e_kOr_f, e_not, e_kNot, e_seq, e_kS_nx, e_kS_ret, e_kS_brk, e_kS_ct, e_kS_exc, e_pass, e_brk, e_ct, e_sif, e_kSIf_t, e_kSIf_f, e_asg, e_kAsg, e_kO, e_name, e_ret, e_kRet, e_kRet_x, e_drop, e_kDrop, e_set, e_kSet, e_kSet2, e_kSet3, e_kSet4, e_fn, e_kFn_ret, e_kFn_nx, e_kFn_exc, e_fnK, e_kFnK_ret, e_mt, e_kMt2, e_isi, e_kIs, e_kI, e_chain, e_kCh, e_kCh2, e_kCh3_t, e_kCh3_f, e_shut, e_kSh, e_sl, e_kSl, e_kSl2n, e_kSl2i, e_kSl3, e_part, e_kPart, List.map_cons, List.map_nil, List.length_cons, List.length_nil, List.replicate, List.cons_append, List.nil_append, List.getElem?_cons_zero, List.getElem?_cons_succ, List.set_cons_zero, List.set_cons_succ, Nat.reduceSub, Nat.reduceAdd, Nat.zero_add, if_true, if_false, reduceIte, p_ix, itemS, l_dat, l_scr, l_ref0, atI_0, atI_1, atI_2, atI_3, Option.map_some, Option.bind_some, p_gtI, p_ltI, p_geI, p_leI, p_ltS, p_eqI, p_neI, p_eqS, p_neS, p_addI, p_subI, p_negI, p_lenL, p_lenT, p_intB, v_dat, l_tup, a_tup, p_isN, p_notN, set_feed1, set_feed2, p_pow9, p_pow12, p_pow18, e_iter, e_kIter_t, e_kIter_l, e_kIter_s, e_r1, e_zip, e_kZip, zip2_t, zip2_l, e_for, e_kFor, e_lc, e_try, e_kTry_ret, e_raise, e_kRaise, e_callL, ts_nil, ts_cons, e_kMtS, gYes, x_k2, x_k1, x_kc, x_kd, x_kN, x_kCall, x_kIf, x_kSIf, x_kAsg, x_kDrop, Bool.false_eq_true, Bool.not_true, Bool.not_false, tup_2, tup_3, tup_4, p_tup0, p_lst0, p_tup1, p_lst1, p_tup2, p_lst2, p_tup3, p_lst3, p_tup4, p_lst4, p_tup5, p_lst5, p_tup6, p_lst6, p_tup7, p_lst7, p_tup8, p_lst8]
    rw [endF_self hB]
  | false =>
    simp -implicitDefEqProofs only [e_P2, e_k2, e_k1, e_P1, e_k0, e_lift, e_C, gVar, e_nil, e_cons, e_kc, e_kd, e_PN, e_kN, e_call, e_kCall, e_if, e_kIf_t, e_kIf_f, e_and, e_kAnd_t, e_kAnd_f, e_or, e_kOr_t, e_kOr_f, e_not, e_kNot, e_seq, e_kS_nx, e_kS_ret, e_kS_brk, e_kS_ct, e_kS_exc, e_pass, e_brk, e_ct, e_sif, e_kSIf_t, e_kSIf_f, e_asg, e_kAsg, e_kO, e_name, e_ret, e_kRet, e_kRet_x, e_drop, e_kDrop, e_set, e_kSet, e_kSet2, e_kSet3, e_kSet4, e_fn, e_kFn_ret, e_kFn_nx, e_kFn_exc, e_fnK, e_kFnK_ret, e_mt, e_kMt2, e_isi, e_kIs, e_kI, e_chain, e_kCh, e_kCh2, e_kCh3_t, e_kCh3_f, e_shut, e_kSh, e_sl, e_kSl, e_kSl2n, e_kSl2i, e_kSl3, e_part, e_kPart, List.map_cons, List.map_nil, List.length_cons, List.length_nil, List.replicate, List.cons_append, List.nil_append, List.getElem?_cons_zero, List.getElem?_cons_succ, List.set_cons_zero, List.set_cons_succ, Nat.reduceSub, Nat.reduceAdd, Nat.zero_add, if_true, if_false, reduceIte, p_ix, itemS, l_dat, l_scr, l_ref0, atI_0, atI_1, atI_2, atI_3, Option.map_some, Option.bind_some, p_gtI, p_ltI, p_geI, p_leI, p_ltS, p_eqI, p_neI, p_eqS, p_neS, p_addI, p_subI, p_negI, p_lenL, p_lenT, p_intB, v_dat, l_tup, a_tup, p_isN, p_notN, set_feed1, set_feed2, p_pow9, p_pow12, p_pow18, e_iter, e_kIter_t, e_kIter_l, e_kIter_s, e_r1, e_zip, e_kZip, zip2_t, zip2_l, e_for, e_kFor, e_lc, e_try, e_kTry_ret, e_raise, e_kRaise, e_callL, ts_nil, ts_cons, e_kMtS, gYes, x_k2, x_k1, x_kc, x_kd, x_kN, x_kCall, x_kIf, x_kSIf, x_kAsg, x_kDrop, Bool.false_eq_true, Bool.not_true, Bool.not_false, tup_2, tup_3, tup_4, p_tup0, p_lst0, p_tup1, p_lst1, p_tup2, p_lst2, p_tup3, p_lst3, p_tup4, p_lst4, p_tup5, p_lst5, p_tup6, p_lst6, p_tup7, p_lst7, p_tup8, p_lst8]
    rw [endF_self hB]
theorem runs_in_dash {B : Bs} (hB : Flat B) : m_runs_in [.dat (.str "-")] B = .ok (.dat (.tuple [])) B := by
  unfold m_runs_in
  simp -implicitDefEqProofs only [e_P2, e_k2, e_k1, e_P1, e_k0, e_lift, e_C, gVar, e_nil, e_cons, e_kc, e_kd, e_PN, e_kN, e_call, e_kCall, e_if, e_kIf_t, e_kIf_f, e_and, e_kAnd_t, e_kAnd_f, e_or, e_kOr_t, e_kOr_f, e_not, e_kNot, e_seq, e_kS_nx, e_kS_ret, e_kS_brk, e_kS_ct, e_kS_exc, e_pass, e_brk, e_ct, e_sif, e_kSIf_t, e_kSIf_f, e_asg, e_kAsg, e_kO, e_name, e_ret, e_kRet, e_kRet_x, e_drop, e_kDrop, e_set, e_kSet, e_kSet2, e_kSet3, e_kSet4, e_fn, e_kFn_ret, e_kFn_nx, e_kFn_exc, e_fnK, e_kFnK_ret, e_mt, e_kMt2, e_isi, e_kIs, e_kI, e_chain, e_kCh, e_kCh2, e_kCh3_t, e_kCh3_f, e_shut, e_kSh, e_sl, e_kSl, e_kSl2n, e_kSl2i, e_kSl3, e_part, e_kPart, List.map_cons, List.map_nil, List.length_cons, List.length_nil, List.replicate, List.cons_append, List.nil_append, List.getElem?_cons_zero, List.getElem?_cons_succ, List.set_cons_zero, List.set_cons_succ, Nat.reduceSub, Nat.reduceAdd, Nat.zero_add, if_true, if_false, reduceIte, p_ix, itemS, l_dat, l_scr, l_ref0, atI_0, atI_1, atI_2, atI_3, Option.map_some, Option.bind_some, p_gtI, p_ltI, p_geI, p_leI, p_ltS, p_eqI, p_neI, p_eqS, p_neS, p_addI, p_subI, p_negI, p_lenL, p_lenT, p_intB, v_dat, l_tup, a_tup, p_isN, p_notN, set_feed1, set_feed2, p_pow9, p_pow12, p_pow18, e_iter, e_kIter_t, e_kIter_l, e_kIter_s, e_r1, e_zip, e_kZip, zip2_t, zip2_l, e_for, e_kFor, e_lc, e_try, e_kTry_ret, e_raise, e_kRaise, e_callL, ts_nil, ts_cons, e_kMtS, gYes, x_k2, x_k1, x_kc, x_kd, x_kN, x_kCall, x_kIf, x_kSIf, x_kAsg, x_kDrop, Bool.false_eq_true, Bool.not_true, Bool.not_false, tup_2, tup_3, tup_4, p_tup0, p_lst0, p_tup1, p_lst1, p_tup2, p_lst2, p_tup3, p_lst3, p_tup4, p_lst4, p_tup5, p_lst5, p_tup6, p_lst6, p_tup7, p_lst7, p_tup8, p_lst8]
  unfold b_runs_in
  simp -implicitDefEqProofs only [e_P2, e_k2, e_k1, e_P1, e_k0, e_lift, e_C, gVar, e_nil, e_cons, e_kc, e_kd, e_PN, e_kN, e_call, e_kCall, e_if, e_kIf_t, e_kIf_f, e_and, e_kAnd_t, e_kAnd_f, e_or, e_kOr_t, e_kOr_f, e_not, e_kNot, e_seq, e_kS_nx, e_kS_ret, e_kS_brk, e_kS_ct, e_kS_exc, e_pass, e_brk, e_ct, e_sif, e_kSIf_t, e_kSIf_f, e_asg, e_kAsg, e_kO, e_name, e_ret, e_kRet, e_kRet_x, e_drop, e_kDrop, e_set, e_kSet, e_kSet2, e_kSet3, e_kSet4, e_fn, e_kFn_ret, e_kFn_nx, e_kFn_exc, e_fnK, e_kFnK_ret, e_mt, e_kMt2, e_isi, e_kIs, e_kI, e_chain, e_kCh, e_kCh2, e_kCh3_t, e_kCh3_f, e_shut, e_kSh, e_sl, e_kSl, e_kSl2n, e_kSl2i, e_kSl3, e_part, e_kPart, List.map_cons, List.map_nil, List.length_cons, List.length_nil, List.replicate, List.cons_append, List.nil_append, List.getElem?_cons_zero, List.getElem?_cons_succ, List.set_cons_zero, List.set_cons_succ, Nat.reduceSub, Nat.reduceAdd, Nat.zero_add, if_true, if_false, reduceIte, p_ix, itemS, l_dat, l_scr, l_ref0, atI_0, atI_1, atI_2, atI_3, Option.map_some, Option.bind_some, p_gtI, p_ltI, p_geI, p_leI, p_ltS, p_eqI, p_neI, p_eqS, p_neS, p_addI, p_subI, p_negI, p_lenL, p_lenT, p_intB, v_dat, l_tup, a_tup, p_isN, p_notN, set_feed1, set_feed2, p_pow9, p_pow12, p_pow18, e_iter, e_kIter_t, e_kIter_l, e_kIter_s, e_r1, e_zip, e_kZip, zip2_t, zip2_l, e_for, e_kFor, e_lc, e_try, e_kTry_ret, e_raise, e_kRaise, e_callL, ts_nil, ts_cons, e_kMtS, gYes, x_k2, x_k1, x_kc, x_kd, x_kN, x_kCall, x_kIf, x_kSIf, x_kAsg, x_kDrop, Bool.false_eq_true, Bool.not_true, Bool.not_false, tup_2, tup_3, tup_4, p_tup0, p_lst0, p_tup1, p_lst1, p_tup2, p_lst2, p_tup3, p_lst3, p_tup4, p_lst4, p_tup5, p_lst5, p_tup6, p_lst6, p_tup7, p_lst7, p_tup8, p_lst8, decide_true]
  rw [endF_self hB]
theorem split_dash : Txt.split "-" "," = [("-" : Str)] := by
  have := TL.split_join (y := ",") (s := 44) (S := []) rfl (by decide +kernel) (parts := ["-"]) (by simp) (fun p m => by rw [List.mem_singleton.mp m]; decide +kernel)
  rwa [TL.join_eq] at this
theorem part_dash : Txt.partition "-" ":" = (("-" : Str), Str.empty, Str.empty) := TL.partition_none (y := ":") (a := "-") (s := 58) (S := []) rfl (by decide +kernel)
theorem part_empty : Txt.partition Str.empty "-" = (Str.empty, Str.empty, Str.empty) := TL.partition_none (s := 45) (S := []) rfl (by decide +kernel)
theorem run_in_dash {B : Bs} (hB : Flat B) : m_run_in [.dat (.str "-")] B = .ok (.dat .none) B := by
  unfold m_run_in
  simp -implicitDefEqProofs only [e_P2, e_k2, e_k1, e_P1, e_k0, e_lift, e_C, gVar, e_nil, e_cons, e_kc, e_kd, e_PN, e_kN, e_call, e_kCall, e_if, e_kIf_t, e_kIf_f, e_and, e_kAnd_t, e_kAnd_f, e_or, e_kOr_t, e_kOr_f, e_not, e_kNot, e_seq, e_kS_nx, e_kS_ret, e_kS_brk, e_kS_ct, e_kS_exc, e_pass, e_brk, e_ct, e_sif, e_kSIf_t, e_kSIf_f, e_asg, e_kAsg, e_kO, e_name, e_ret, e_kRet, e_kRet_x, e_drop, e_kDrop, e_set, e_kSet, e_kSet2, e_kSet3, e_kSet4, e_fn, e_kFn_ret, e_kFn_nx, e_kFn_exc, e_fnK, e_kFnK_ret, e_mt, e_kMt2, e_isi, e_kIs, e_kI, e_chain, e_kCh, e_kCh2, e_kCh3_t, e_kCh3_f, e_shut, e_kSh, e_sl, e_kSl, e_kSl2n, e_kSl2i, e_kSl3, e_part, e_kPart, List.map_cons, List.map_nil, List.length_cons, List.length_nil, List.replicate, List.cons_append, List.nil_append, List.getElem?_cons_zero, List.getElem?_cons_succ, List.set_cons_zero, List.set_cons_succ, Nat.reduceSub, Nat.reduceAdd, Nat.zero_add, if_true, if_false, reduceIte, p_ix, itemS, l_dat, l_scr, l_ref0, atI_0, atI_1, atI_2, atI_3, Option.map_some, Option.bind_some, p_gtI, p_ltI, p_geI, p_leI, p_ltS, p_eqI, p_neI, p_eqS, p_neS, p_addI, p_subI, p_negI, p_lenL, p_lenT, p_intB, v_dat, l_tup, a_tup, p_isN, p_notN, set_feed1, set_feed2, p_pow9, p_pow12, p_pow18, e_iter, e_kIter_t, e_kIter_l, e_kIter_s, e_r1, e_zip, e_kZip, zip2_t, zip2_l, e_for, e_kFor, e_lc, e_try, e_kTry_ret, e_raise, e_kRaise, e_callL, ts_nil, ts_cons, e_kMtS, gYes, x_k2, x_k1, x_kc, x_kd, x_kN, x_kCall, x_kIf, x_kSIf, x_kAsg, x_kDrop, Bool.false_eq_true, Bool.not_true, Bool.not_false, tup_2, tup_3, tup_4, p_tup0, p_lst0, p_tup1, p_lst1, p_tup2, p_lst2, p_tup3, p_lst3, p_tup4, p_lst4, p_tup5, p_lst5, p_tup6, p_lst6, p_tup7, p_lst7, p_tup8, p_lst8]
  unfold b_run_in
  simp -implicitDefEqProofs only [e_P2, e_k2, e_k1, e_P1, e_k0, e_lift, e_C, gVar, e_nil, e_cons, e_kc, e_kd, e_PN, e_kN, e_call, e_kCall, e_if, e_kIf_t, e_kIf_f, e_and, e_kAnd_t, e_kAnd_f, e_or, e_kOr_t, e_kOr_f, e_not, e_kNot, e_seq, e_kS_nx, e_kS_ret, e_kS_brk, e_kS_ct, e_kS_exc, e_pass, e_brk, e_ct, e_sif, e_kSIf_t, e_kSIf_f, e_asg, e_kAsg, e_kO, e_name, e_ret, e_kRet, e_kRet_x, e_drop, e_kDrop, e_set, e_kSet, e_kSet2, e_kSet3, e_kSet4, e_fn, e_kFn_ret, e_kFn_nx, e_kFn_exc, e_fnK, e_kFnK_ret, e_mt, e_kMt2, e_isi, e_kIs, e_kI, e_chain, e_kCh, e_kCh2, e_kCh3_t, e_kCh3_f, e_shut, e_kSh, e_sl, e_kSl, e_kSl2n, e_kSl2i, e_kSl3, e_part, e_kPart, List.map_cons, List.map_nil, List.length_cons, List.length_nil, List.replicate, List.cons_append, List.nil_append, List.getElem?_cons_zero, List.getElem?_cons_succ, List.set_cons_zero, List.set_cons_succ, Nat.reduceSub, Nat.reduceAdd, Nat.zero_add, if_true, if_false, reduceIte, p_ix, itemS, l_dat, l_scr, l_ref0, atI_0, atI_1, atI_2, atI_3, Option.map_some, Option.bind_some, p_gtI, p_ltI, p_geI, p_leI, p_ltS, p_eqI, p_neI, p_eqS, p_neS, p_addI, p_subI, p_negI, p_lenL, p_lenT, p_intB, v_dat, l_tup, a_tup, p_isN, p_notN, set_feed1, set_feed2, p_pow9, p_pow12, p_pow18, e_iter, e_kIter_t, e_kIter_l, e_kIter_s, e_r1, e_zip, e_kZip, zip2_t, zip2_l, e_for, e_kFor, e_lc, e_try, e_kTry_ret, e_raise, e_kRaise, e_callL, ts_nil, ts_cons, e_kMtS, gYes, x_k2, x_k1, x_kc, x_kd, x_kN, x_kCall, x_kIf, x_kSIf, x_kAsg, x_kDrop, Bool.false_eq_true, Bool.not_true, Bool.not_false, tup_2, tup_3, tup_4, p_tup0, p_lst0, p_tup1, p_lst1, p_tup2, p_lst2, p_tup3, p_lst3, p_tup4, p_lst4, p_tup5, p_lst5, p_tup6, p_lst6, p_tup7, p_lst7, p_tup8, p_lst8, p_part (a := "-") (b := ":") (by decide) (by decide), part_dash, p_part (a := Str.empty) (b := "-") (by decide) (by decide), part_empty, number_none (y := Str.empty) rfl hB, is_word_ok (y := "-") (by decide) hB, isNon, show wordB "-" = false from by decide +kernel]
  rw [endF_self hB]
theorem row_in_dash {B : Bs} (hB : Flat B) : m_row_in [.dat (.str "-")] B = .ok (.dat .none) B := by
  unfold m_row_in
  simp -implicitDefEqProofs only [e_P2, e_k2, e_k1, e_P1, e_k0, e_lift, e_C, gVar, e_nil, e_cons, e_kc, e_kd, e_PN, e_kN, e_call, e_kCall, e_if, e_kIf_t, e_kIf_f, e_and, e_kAnd_t, e_kAnd_f, e_or, e_kOr_t, e_kOr_f, e_not, e_kNot, e_seq, e_kS_nx, e_kS_ret, e_kS_brk, e_kS_ct, e_kS_exc, e_pass, e_brk, e_ct, e_sif, e_kSIf_t, e_kSIf_f, e_asg, e_kAsg, e_kO, e_name, e_ret, e_kRet, e_kRet_x, e_drop, e_kDrop, e_set, e_kSet, e_kSet2, e_kSet3, e_kSet4, e_fn, e_kFn_ret, e_kFn_nx, e_kFn_exc, e_fnK, e_kFnK_ret, e_mt, e_kMt2, e_isi, e_kIs, e_kI, e_chain, e_kCh, e_kCh2, e_kCh3_t, e_kCh3_f, e_shut, e_kSh, e_sl, e_kSl, e_kSl2n, e_kSl2i, e_kSl3, e_part, e_kPart, List.map_cons, List.map_nil, List.length_cons, List.length_nil, List.replicate, List.cons_append, List.nil_append, List.getElem?_cons_zero, List.getElem?_cons_succ, List.set_cons_zero, List.set_cons_succ, Nat.reduceSub, Nat.reduceAdd, Nat.zero_add, if_true, if_false, reduceIte, p_ix, itemS, l_dat, l_scr, l_ref0, atI_0, atI_1, atI_2, atI_3, Option.map_some, Option.bind_some, p_gtI, p_ltI, p_geI, p_leI, p_ltS, p_eqI, p_neI, p_eqS, p_neS, p_addI, p_subI, p_negI, p_lenL, p_lenT, p_intB, v_dat, l_tup, a_tup, p_isN, p_notN, set_feed1, set_feed2, p_pow9, p_pow12, p_pow18, e_iter, e_kIter_t, e_kIter_l, e_kIter_s, e_r1, e_zip, e_kZip, zip2_t, zip2_l, e_for, e_kFor, e_lc, e_try, e_kTry_ret, e_raise, e_kRaise, e_callL, ts_nil, ts_cons, e_kMtS, gYes, x_k2, x_k1, x_kc, x_kd, x_kN, x_kCall, x_kIf, x_kSIf, x_kAsg, x_kDrop, Bool.false_eq_true, Bool.not_true, Bool.not_false, tup_2, tup_3, tup_4, p_tup0, p_lst0, p_tup1, p_lst1, p_tup2, p_lst2, p_tup3, p_lst3, p_tup4, p_lst4, p_tup5, p_lst5, p_tup6, p_lst6, p_tup7, p_lst7, p_tup8, p_lst8]
  unfold b_row_in
  simp -implicitDefEqProofs only [e_P2, e_k2, e_k1, e_P1, e_k0, e_lift, e_C, gVar, e_nil, e_cons, e_kc, e_kd, e_PN, e_kN, e_call, e_kCall, e_if, e_kIf_t, e_kIf_f, e_and, e_kAnd_t, e_kAnd_f, e_or, e_kOr_t, e_kOr_f, e_not, e_kNot, e_seq, e_kS_nx, e_kS_ret, e_kS_brk, e_kS_ct, e_kS_exc, e_pass, e_brk, e_ct, e_sif, e_kSIf_t, e_kSIf_f, e_asg, e_kAsg, e_kO, e_name, e_ret, e_kRet, e_kRet_x, e_drop, e_kDrop, e_set, e_kSet, e_kSet2, e_kSet3, e_kSet4, e_fn, e_kFn_ret, e_kFn_nx, e_kFn_exc, e_fnK, e_kFnK_ret, e_mt, e_kMt2, e_isi, e_kIs, e_kI, e_chain, e_kCh, e_kCh2, e_kCh3_t, e_kCh3_f, e_shut, e_kSh, e_sl, e_kSl, e_kSl2n, e_kSl2i, e_kSl3, e_part, e_kPart, List.map_cons, List.map_nil, List.length_cons, List.length_nil, List.replicate, List.cons_append, List.nil_append, List.getElem?_cons_zero, List.getElem?_cons_succ, List.set_cons_zero, List.set_cons_succ, Nat.reduceSub, Nat.reduceAdd, Nat.zero_add, if_true, if_false, reduceIte, p_ix, itemS, l_dat, l_scr, l_ref0, atI_0, atI_1, atI_2, atI_3, Option.map_some, Option.bind_some, p_gtI, p_ltI, p_geI, p_leI, p_ltS, p_eqI, p_neI, p_eqS, p_neS, p_addI, p_subI, p_negI, p_lenL, p_lenT, p_intB, v_dat, l_tup, a_tup, p_isN, p_notN, set_feed1, set_feed2, p_pow9, p_pow12, p_pow18, e_iter, e_kIter_t, e_kIter_l, e_kIter_s, e_r1, e_zip, e_kZip, zip2_t, zip2_l, e_for, e_kFor, e_lc, e_try, e_kTry_ret, e_raise, e_kRaise, e_callL, ts_nil, ts_cons, e_kMtS, gYes, x_k2, x_k1, x_kc, x_kd, x_kN, x_kCall, x_kIf, x_kSIf, x_kAsg, x_kDrop, Bool.false_eq_true, Bool.not_true, Bool.not_false, tup_2, tup_3, tup_4, p_tup0, p_lst0, p_tup1, p_lst1, p_tup2, p_lst2, p_tup3, p_lst3, p_tup4, p_lst4, p_tup5, p_lst5, p_tup6, p_lst6, p_tup7, p_lst7, p_tup8, p_lst8, p_split (a := "-") (b := ",") (by decide) (by decide), split_dash]
  rw [e_kLc (by decide), show [S.dat (.str "-")] = [("-" : Str)].map (fun s => S.dat (.str s)) from rfl, lc_mapL (f := fun _ => .dat .none) [("-" : Str)] [] trivial fun p hp => ⟨_, rfl, rfl, ?_⟩]
  · simp -implicitDefEqProofs only [e_P2, e_k2, e_k1, e_P1, e_k0, e_lift, e_C, gVar, e_nil, e_cons, e_kc, e_kd, e_PN, e_kN, e_call, e_kCall, e_if, e_kIf_t, e_kIf_f, e_and, e_kAnd_t, e_kAnd_f, e_or, e_kOr_t, e_kOr_f, e_not, e_kNot, e_seq, e_kS_nx, e_kS_ret, e_kS_brk, e_kS_ct, e_kS_exc, e_pass, e_brk, e_ct, e_sif, e_kSIf_t, e_kSIf_f, e_asg, e_kAsg, e_kO, e_name, e_ret, e_kRet, e_kRet_x, e_drop, e_kDrop, e_set, e_kSet, e_kSet2, e_kSet3, e_kSet4, e_fn, e_kFn_ret, e_kFn_nx, e_kFn_exc, e_fnK, e_kFnK_ret, e_mt, e_kMt2, e_isi, e_kIs, e_kI, e_chain, e_kCh, e_kCh2, e_kCh3_t, e_kCh3_f, e_shut, e_kSh, e_sl, e_kSl, e_kSl2n, e_kSl2i, e_kSl3, e_part, e_kPart, List.map_cons, List.map_nil, List.length_cons, List.length_nil, List.replicate, List.cons_append, List.nil_append, List.getElem?_cons_zero, List.getElem?_cons_succ, List.set_cons_zero, List.set_cons_succ, Nat.reduceSub, Nat.reduceAdd, Nat.zero_add, if_true, if_false, reduceIte, p_ix, itemS, l_dat, l_scr, l_ref0, atI_0, atI_1, atI_2, atI_3, Option.map_some, Option.bind_some, p_gtI, p_ltI, p_geI, p_leI, p_ltS, p_eqI, p_neI, p_eqS, p_neS, p_addI, p_subI, p_negI, p_lenL, p_lenT, p_intB, v_dat, l_tup, a_tup, p_isN, p_notN, set_feed1, set_feed2, p_pow9, p_pow12, p_pow18, e_iter, e_kIter_t, e_kIter_l, e_kIter_s, e_r1, e_zip, e_kZip, zip2_t, zip2_l, e_for, e_kFor, e_lc, e_try, e_kTry_ret, e_raise, e_kRaise, e_callL, ts_nil, ts_cons, e_kMtS, gYes, x_k2, x_k1, x_kc, x_kd, x_kN, x_kCall, x_kIf, x_kSIf, x_kAsg, x_kDrop, Bool.false_eq_true, Bool.not_true, Bool.not_false, tup_2, tup_3, tup_4, p_tup0, p_lst0, p_tup1, p_lst1, p_tup2, p_lst2, p_tup3, p_lst3, p_tup4, p_lst4, p_tup5, p_lst5, p_tup6, p_lst6, p_tup7, p_lst7, p_tup8, p_lst8, p_tupleL, p_inT Sm.non (Sm.tup (n := 4) (k := 0) (ds := [.none]) fun d m => by rw [List.mem_singleton.mp m]; exact Sm.non) (by decide) (by decide)]
    rw [show ([PyData.none].any fun z => PyData.eqv z .none) = true from by simp [PyData.eqv]]
    simp -implicitDefEqProofs only [e_P2, e_k2, e_k1, e_P1, e_k0, e_lift, e_C, gVar, e_nil, e_cons, e_kc, e_kd, e_PN, e_kN, e_call, e_kCall, e_if, e_kIf_t, e_kIf_f, e_and, e_kAnd_t, e_kAnd_f, e_or, e_kOr_t, e_kOr_f, e_not, e_kNot, e_seq, e_kS_nx, e_kS_ret, e_kS_brk, e_kS_ct, e_kS_exc, e_pass, e_brk, e_ct, e_sif, e_kSIf_t, e_kSIf_f, e_asg, e_kAsg, e_kO, e_name, e_ret, e_kRet, e_kRet_x, e_drop, e_kDrop, e_set, e_kSet, e_kSet2, e_kSet3, e_kSet4, e_fn, e_kFn_ret, e_kFn_nx, e_kFn_exc, e_fnK, e_kFnK_ret, e_mt, e_kMt2, e_isi, e_kIs, e_kI, e_chain, e_kCh, e_kCh2, e_kCh3_t, e_kCh3_f, e_shut, e_kSh, e_sl, e_kSl, e_kSl2n, e_kSl2i, e_kSl3, e_part, e_kPart, List.map_cons, List.map_nil, List.length_cons, List.length_nil, List.replicate, List.cons_append, List.nil_append, List.getElem?_cons_zero, List.getElem?_cons_succ, List.set_cons_zero, List.set_cons_succ, Nat.reduceSub, Nat.reduceAdd, Nat.zero_add, if_true, if_false, reduceIte, p_ix, itemS, l_dat, l_scr, l_ref0, atI_0, atI_1, atI_2, atI_3, Option.map_some, Option.bind_some, p_gtI, p_ltI, p_geI, p_leI, p_ltS, p_eqI, p_neI, p_eqS, p_neS, p_addI, p_subI, p_negI, p_lenL, p_lenT, p_intB, v_dat, l_tup, a_tup, p_isN, p_notN, set_feed1, set_feed2, p_pow9, p_pow12, p_pow18, e_iter, e_kIter_t, e_kIter_l, e_kIter_s, e_r1, e_zip, e_kZip, zip2_t, zip2_l, e_for, e_kFor, e_lc, e_try, e_kTry_ret, e_raise, e_kRaise, e_callL, ts_nil, ts_cons, e_kMtS, gYes, x_k2, x_k1, x_kc, x_kd, x_kN, x_kCall, x_kIf, x_kSIf, x_kAsg, x_kDrop, Bool.false_eq_true, Bool.not_true, Bool.not_false, tup_2, tup_3, tup_4, p_tup0, p_lst0, p_tup1, p_lst1, p_tup2, p_lst2, p_tup3, p_lst3, p_tup4, p_lst4, p_tup5, p_lst5, p_tup6, p_lst6, p_tup7, p_lst7, p_tup8, p_lst8]
    rw [endF_self hB]
  · rw [List.mem_singleton.mp hp]
    simp -implicitDefEqProofs only [e_P2, e_k2, e_k1, e_P1, e_k0, e_lift, e_C, gVar, e_nil, e_cons, e_kc, e_kd, e_PN, e_kN, e_call, e_kCall, e_if, e_kIf_t, e_kIf_f, e_and, e_kAnd_t, e_kAnd_f, e_or, e_kOr_t, e_kOr_f, e_not, e_kNot, e_seq, e_kS_nx, e_kS_ret, e_kS_brk, e_kS_ct, e_kS_exc, e_pass, e_brk, e_ct, e_sif, e_kSIf_t, e_kSIf_f, e_asg, e_kAsg, e_kO, e_name, e_ret, e_kRet, e_kRet_x, e_drop, e_kDrop, e_set, e_kSet, e_kSet2, e_kSet3, e_kSet4, e_fn, e_kFn_ret, e_kFn_nx, e_kFn_exc, e_fnK, e_kFnK_ret, e_mt, e_kMt2, e_isi, e_kIs, e_kI, e_chain, e_kCh, e_kCh2, e_kCh3_t, e_kCh3_f, e_shut, e_kSh, e_sl, e_kSl, e_kSl2n, e_kSl2i, e_kSl3, e_part, e_kPart, List.map_cons, List.map_nil, List.length_cons, List.length_nil, List.replicate, List.cons_append, List.nil_append, List.getElem?_cons_zero, List.getElem?_cons_succ, List.set_cons_zero, List.set_cons_succ, Nat.reduceSub, Nat.reduceAdd, Nat.zero_add, if_true, if_false, reduceIte, p_ix, itemS, l_dat, l_scr, l_ref0, atI_0, atI_1, atI_2, atI_3, Option.map_some, Option.bind_some, p_gtI, p_ltI, p_geI, p_leI, p_ltS, p_eqI, p_neI, p_eqS, p_neS, p_addI, p_subI, p_negI, p_lenL, p_lenT, p_intB, v_dat, l_tup, a_tup, p_isN, p_notN, set_feed1, set_feed2, p_pow9, p_pow12, p_pow18, e_iter, e_kIter_t, e_kIter_l, e_kIter_s, e_r1, e_zip, e_kZip, zip2_t, zip2_l, e_for, e_kFor, e_lc, e_try, e_kTry_ret, e_raise, e_kRaise, e_callL, ts_nil, ts_cons, e_kMtS, gYes, x_k2, x_k1, x_kc, x_kd, x_kN, x_kCall, x_kIf, x_kSIf, x_kAsg, x_kDrop, Bool.false_eq_true, Bool.not_true, Bool.not_false, tup_2, tup_3, tup_4, p_tup0, p_lst0, p_tup1, p_lst1, p_tup2, p_lst2, p_tup3, p_lst3, p_tup4, p_lst4, p_tup5, p_lst5, p_tup6, p_lst6, p_tup7, p_lst7, p_tup8, p_lst8, wipeE, run_in_dash hB]
/-- NoText(0, w) -/
def noTx (w : Int) : List (Str × S) := [("word", .dat (.int w)), ("row", .dat (.int 0))]
theorem noTx_flat (w : Int) : ∀ p ∈ noTx w, refsS 0 p.2 := fun p m => by
  simp only [noTx, List.mem_cons, List.not_mem_nil, or_false] at m
  rcases m with rfl | rfl <;> trivial
theorem p_inSp {y : Str} {B : Bs} : pIn [.dat (.str " "), .dat (.str y)] B = some (.dat (.bool (decide (32 ∈ y.cps.toList))), B) := rfl
theorem alone_none {y : Str} {B : Bs} (hB : Flat B) : m_read_alone [.dat (.str y), .dat .none] B = .exc "NoText" (noTx 0) B := by
  unfold m_read_alone
  simp -implicitDefEqProofs only [e_P2, e_k2, e_k1, e_P1, e_k0, e_lift, e_C, gVar, e_nil, e_cons, e_kc, e_kd, e_PN, e_kN, e_call, e_kCall, e_if, e_kIf_t, e_kIf_f, e_and, e_kAnd_t, e_kAnd_f, e_or, e_kOr_t, e_kOr_f, e_not, e_kNot, e_seq, e_kS_nx, e_kS_ret, e_kS_brk, e_kS_ct, e_kS_exc, e_pass, e_brk, e_ct, e_sif, e_kSIf_t, e_kSIf_f, e_asg, e_kAsg, e_kO, e_name, e_ret, e_kRet, e_kRet_x, e_drop, e_kDrop, e_set, e_kSet, e_kSet2, e_kSet3, e_kSet4, e_fn, e_kFn_ret, e_kFn_nx, e_kFn_exc, e_fnK, e_kFnK_ret, e_mt, e_kMt2, e_isi, e_kIs, e_kI, e_chain, e_kCh, e_kCh2, e_kCh3_t, e_kCh3_f, e_shut, e_kSh, e_sl, e_kSl, e_kSl2n, e_kSl2i, e_kSl3, e_part, e_kPart, List.map_cons, List.map_nil, List.length_cons, List.length_nil, List.replicate, List.cons_append, List.nil_append, List.getElem?_cons_zero, List.getElem?_cons_succ, List.set_cons_zero, List.set_cons_succ, Nat.reduceSub, Nat.reduceAdd, Nat.zero_add, if_true, if_false, reduceIte, p_ix, itemS, l_dat, l_scr, l_ref0, atI_0, atI_1, atI_2, atI_3, Option.map_some, Option.bind_some, p_gtI, p_ltI, p_geI, p_leI, p_ltS, p_eqI, p_neI, p_eqS, p_neS, p_addI, p_subI, p_negI, p_lenL, p_lenT, p_intB, v_dat, l_tup, a_tup, p_isN, p_notN, set_feed1, set_feed2, p_pow9, p_pow12, p_pow18, e_iter, e_kIter_t, e_kIter_l, e_kIter_s, e_r1, e_zip, e_kZip, zip2_t, zip2_l, e_for, e_kFor, e_lc, e_try, e_kTry_ret, e_raise, e_kRaise, e_callL, ts_nil, ts_cons, e_kMtS, gYes, x_k2, x_k1, x_kc, x_kd, x_kN, x_kCall, x_kIf, x_kSIf, x_kAsg, x_kDrop, Bool.false_eq_true, Bool.not_true, Bool.not_false, tup_2, tup_3, tup_4, p_tup0, p_lst0, p_tup1, p_lst1, p_tup2, p_lst2, p_tup3, p_lst3, p_tup4, p_lst4, p_tup5, p_lst5, p_tup6, p_lst6, p_tup7, p_lst7, p_tup8, p_lst8]
  unfold b_read_alone
  simp -implicitDefEqProofs only [e_P2, e_k2, e_k1, e_P1, e_k0, e_lift, e_C, gVar, e_nil, e_cons, e_kc, e_kd, e_PN, e_kN, e_call, e_kCall, e_if, e_kIf_t, e_kIf_f, e_and, e_kAnd_t, e_kAnd_f, e_or, e_kOr_t, e_kOr_f, e_not, e_kNot, e_seq, e_kS_nx, e_kS_ret, e_kS_brk, e_kS_ct, e_kS_exc, e_pass, e_brk, e_ct, e_sif, e_kSIf_t, e_kSIf_f, e_asg, e_kAsg, e_kO, e_name, e_ret, e_kRet, e_kRet_x, e_drop, e_kDrop, e_set, e_kSet, e_kSet2, e_kSet3, e_kSet4, e_fn, e_kFn_ret, e_kFn_nx, e_kFn_exc, e_fnK, e_kFnK_ret, e_mt, e_kMt2, e_isi, e_kIs, e_kI, e_chain, e_kCh, e_kCh2, e_kCh3_t, e_kCh3_f, e_shut, e_kSh, e_sl, e_kSl, e_kSl2n, e_kSl2i, e_kSl3, e_part, e_kPart, List.map_cons, List.map_nil, List.length_cons, List.length_nil, List.replicate, List.cons_append, List.nil_append, List.getElem?_cons_zero, List.getElem?_cons_succ, List.set_cons_zero, List.set_cons_succ, Nat.reduceSub, Nat.reduceAdd, Nat.zero_add, if_true, if_false, reduceIte, p_ix, itemS, l_dat, l_scr, l_ref0, atI_0, atI_1, atI_2, atI_3, Option.map_some, Option.bind_some, p_gtI, p_ltI, p_geI, p_leI, p_ltS, p_eqI, p_neI, p_eqS, p_neS, p_addI, p_subI, p_negI, p_lenL, p_lenT, p_intB, v_dat, l_tup, a_tup, p_isN, p_notN, set_feed1, set_feed2, p_pow9, p_pow12, p_pow18, e_iter, e_kIter_t, e_kIter_l, e_kIter_s, e_r1, e_zip, e_kZip, zip2_t, zip2_l, e_for, e_kFor, e_lc, e_try, e_kTry_ret, e_raise, e_kRaise, e_callL, ts_nil, ts_cons, e_kMtS, gYes, x_k2, x_k1, x_kc, x_kd, x_kN, x_kCall, x_kIf, x_kSIf, x_kAsg, x_kDrop, Bool.false_eq_true, Bool.not_true, Bool.not_false, tup_2, tup_3, tup_4, p_tup0, p_lst0, p_tup1, p_lst1, p_tup2, p_lst2, p_tup3, p_lst3, p_tup4, p_lst4, p_tup5, p_lst5, p_tup6, p_lst6, p_tup7, p_lst7, p_tup8, p_lst8, isNon, show ((2 : Nat) = 2 ∧ 2 ≤ 900) from ⟨rfl, by decide⟩, and_self]
  exact endX_self hB (noTx_flat 0)
theorem alone_told {y : Str} {d : PyData} {B : Bs} (hd : isNon (.dat d) = false) (hy : 32 ∉ y.cps.toList) (hB : Flat B) : m_read_alone [.dat (.str y), .dat d] B = .ok (.dat d) B := by
  unfold m_read_alone
  simp -implicitDefEqProofs only [e_P2, e_k2, e_k1, e_P1, e_k0, e_lift, e_C, gVar, e_nil, e_cons, e_kc, e_kd, e_PN, e_kN, e_call, e_kCall, e_if, e_kIf_t, e_kIf_f, e_and, e_kAnd_t, e_kAnd_f, e_or, e_kOr_t, e_kOr_f, e_not, e_kNot, e_seq, e_kS_nx, e_kS_ret, e_kS_brk, e_kS_ct, e_kS_exc, e_pass, e_brk, e_ct, e_sif, e_kSIf_t, e_kSIf_f, e_asg, e_kAsg, e_kO, e_name, e_ret, e_kRet, e_kRet_x, e_drop, e_kDrop, e_set, e_kSet, e_kSet2, e_kSet3, e_kSet4, e_fn, e_kFn_ret, e_kFn_nx, e_kFn_exc, e_fnK, e_kFnK_ret, e_mt, e_kMt2, e_isi, e_kIs, e_kI, e_chain, e_kCh, e_kCh2, e_kCh3_t, e_kCh3_f, e_shut, e_kSh, e_sl, e_kSl, e_kSl2n, e_kSl2i, e_kSl3, e_part, e_kPart, List.map_cons, List.map_nil, List.length_cons, List.length_nil, List.replicate, List.cons_append, List.nil_append, List.getElem?_cons_zero, List.getElem?_cons_succ, List.set_cons_zero, List.set_cons_succ, Nat.reduceSub, Nat.reduceAdd, Nat.zero_add, if_true, if_false, reduceIte, p_ix, itemS, l_dat, l_scr, l_ref0, atI_0, atI_1, atI_2, atI_3, Option.map_some, Option.bind_some, p_gtI, p_ltI, p_geI, p_leI, p_ltS, p_eqI, p_neI, p_eqS, p_neS, p_addI, p_subI, p_negI, p_lenL, p_lenT, p_intB, v_dat, l_tup, a_tup, p_isN, p_notN, set_feed1, set_feed2, p_pow9, p_pow12, p_pow18, e_iter, e_kIter_t, e_kIter_l, e_kIter_s, e_r1, e_zip, e_kZip, zip2_t, zip2_l, e_for, e_kFor, e_lc, e_try, e_kTry_ret, e_raise, e_kRaise, e_callL, ts_nil, ts_cons, e_kMtS, gYes, x_k2, x_k1, x_kc, x_kd, x_kN, x_kCall, x_kIf, x_kSIf, x_kAsg, x_kDrop, Bool.false_eq_true, Bool.not_true, Bool.not_false, tup_2, tup_3, tup_4, p_tup0, p_lst0, p_tup1, p_lst1, p_tup2, p_lst2, p_tup3, p_lst3, p_tup4, p_lst4, p_tup5, p_lst5, p_tup6, p_lst6, p_tup7, p_lst7, p_tup8, p_lst8]
  unfold b_read_alone
  simp -implicitDefEqProofs only [e_P2, e_k2, e_k1, e_P1, e_k0, e_lift, e_C, gVar, e_nil, e_cons, e_kc, e_kd, e_PN, e_kN, e_call, e_kCall, e_if, e_kIf_t, e_kIf_f, e_and, e_kAnd_t, e_kAnd_f, e_or, e_kOr_t, e_kOr_f, e_not, e_kNot, e_seq, e_kS_nx, e_kS_ret, e_kS_brk, e_kS_ct, e_kS_exc, e_pass, e_brk, e_ct, e_sif, e_kSIf_t, e_kSIf_f, e_asg, e_kAsg, e_kO, e_name, e_ret, e_kRet, e_kRet_x, e_drop, e_kDrop, e_set, e_kSet, e_kSet2, e_kSet3, e_kSet4, e_fn, e_kFn_ret, e_kFn_nx, e_kFn_exc, e_fnK, e_kFnK_ret, e_mt, e_kMt2, e_isi, e_kIs, e_kI, e_chain, e_kCh, e_kCh2, e_kCh3_t, e_kCh3_f, e_shut, e_kSh, e_sl, e_kSl, e_kSl2n, e_kSl2i, e_kSl3, e_part, e_kPart, List.map_cons, List.map_nil, List.length_cons, List.length_nil, List.replicate, List.cons_append, List.nil_append, List.getElem?_cons_zero, List.getElem?_cons_succ, List.set_cons_zero, List.set_cons_succ, Nat.reduceSub, Nat.reduceAdd, Nat.zero_add, if_true, if_false, reduceIte, p_ix, itemS, l_dat, l_scr, l_ref0, atI_0, atI_1, atI_2, atI_3, Option.map_some, Option.bind_some, p_gtI, p_ltI, p_geI, p_leI, p_ltS, p_eqI, p_neI, p_eqS, p_neS, p_addI, p_subI, p_negI, p_lenL, p_lenT, p_intB, v_dat, l_tup, a_tup, p_isN, p_notN, set_feed1, set_feed2, p_pow9, p_pow12, p_pow18, e_iter, e_kIter_t, e_kIter_l, e_kIter_s, e_r1, e_zip, e_kZip, zip2_t, zip2_l, e_for, e_kFor, e_lc, e_try, e_kTry_ret, e_raise, e_kRaise, e_callL, ts_nil, ts_cons, e_kMtS, gYes, x_k2, x_k1, x_kc, x_kd, x_kN, x_kCall, x_kIf, x_kSIf, x_kAsg, x_kDrop, Bool.false_eq_true, Bool.not_true, Bool.not_false, tup_2, tup_3, tup_4, p_tup0, p_lst0, p_tup1, p_lst1, p_tup2, p_lst2, p_tup3, p_lst3, p_tup4, p_lst4, p_tup5, p_lst5, p_tup6, p_lst6, p_tup7, p_lst7, p_tup8, p_lst8, hd, p_inSp, decide_eq_false hy]
  rw [endF_self hB]
theorem alone_more {y : Str} {d : PyData} {B : Bs} (hd : isNon (.dat d) = false) (hy : 32 ∈ y.cps.toList) (hB : Flat B) : m_read_alone [.dat (.str y), .dat d] B = .exc "NoText" (noTx 1) B := by
  unfold m_read_alone
  simp -implicitDefEqProofs only [e_P2, e_k2, e_k1, e_P1, e_k0, e_lift, e_C, gVar, e_nil, e_cons, e_kc, e_kd, e_PN, e_kN, e_call, e_kCall, e_if, e_kIf_t, e_kIf_f, e_and, e_kAnd_t, e_kAnd_f, e_or, e_kOr_t, e_kOr_f, e_not, e_kNot, e_seq, e_kS_nx, e_kS_ret, e_kS_brk, e_kS_ct, e_kS_exc, e_pass, e_brk, e_ct, e_sif, e_kSIf_t, e_kSIf_f, e_asg, e_kAsg, e_kO, e_name, e_ret, e_kRet, e_kRet_x, e_drop, e_kDrop, e_set, e_kSet, e_kSet2, e_kSet3, e_kSet4, e_fn, e_kFn_ret, e_kFn_nx, e_kFn_exc, e_fnK, e_kFnK_ret, e_mt, e_kMt2, e_isi, e_kIs, e_kI, e_chain, e_kCh, e_kCh2, e_kCh3_t, e_kCh3_f, e_shut, e_kSh, e_sl, e_kSl, e_kSl2n, e_kSl2i, e_kSl3, e_part, e_kPart, List.map_cons, List.map_nil, List.length_cons, List.length_nil, List.replicate, List.cons_append, List.nil_append, List.getElem?_cons_zero, List.getElem?_cons_succ, List.set_cons_zero, List.set_cons_succ, Nat.reduceSub, Nat.reduceAdd, Nat.zero_add, if_true, if_false, reduceIte, p_ix, itemS, l_dat, l_scr, l_ref0, atI_0, atI_1, atI_2, atI_3, Option.map_some, Option.bind_some, p_gtI, p_ltI, p_geI, p_leI, p_ltS, p_eqI, p_neI, p_eqS, p_neS, p_addI, p_subI, p_negI, p_lenL, p_lenT, p_intB, v_dat, l_tup, a_tup, p_isN, p_notN, set_feed1, set_feed2, p_pow9, p_pow12, p_pow18, e_iter, e_kIter_t, e_kIter_l, e_kIter_s, e_r1, e_zip, e_kZip, zip2_t, zip2_l, e_for, e_kFor, e_lc, e_try, e_kTry_ret, e_raise, e_kRaise, e_callL, ts_nil, ts_cons, e_kMtS, gYes, x_k2, x_k1, x_kc, x_kd, x_kN, x_kCall, x_kIf, x_kSIf, x_kAsg, x_kDrop, Bool.false_eq_true, Bool.not_true, Bool.not_false, tup_2, tup_3, tup_4, p_tup0, p_lst0, p_tup1, p_lst1, p_tup2, p_lst2, p_tup3, p_lst3, p_tup4, p_lst4, p_tup5, p_lst5, p_tup6, p_lst6, p_tup7, p_lst7, p_tup8, p_lst8]
  unfold b_read_alone
  simp -implicitDefEqProofs only [e_P2, e_k2, e_k1, e_P1, e_k0, e_lift, e_C, gVar, e_nil, e_cons, e_kc, e_kd, e_PN, e_kN, e_call, e_kCall, e_if, e_kIf_t, e_kIf_f, e_and, e_kAnd_t, e_kAnd_f, e_or, e_kOr_t, e_kOr_f, e_not, e_kNot, e_seq, e_kS_nx, e_kS_ret, e_kS_brk, e_kS_ct, e_kS_exc, e_pass, e_brk, e_ct, e_sif, e_kSIf_t, e_kSIf_f, e_asg, e_kAsg, e_kO, e_name, e_ret, e_kRet, e_kRet_x, e_drop, e_kDrop, e_set, e_kSet, e_kSet2, e_kSet3, e_kSet4, e_fn, e_kFn_ret, e_kFn_nx, e_kFn_exc, e_fnK, e_kFnK_ret, e_mt, e_kMt2, e_isi, e_kIs, e_kI, e_chain, e_kCh, e_kCh2, e_kCh3_t, e_kCh3_f, e_shut, e_kSh, e_sl, e_kSl, e_kSl2n, e_kSl2i, e_kSl3, e_part, e_kPart, List.map_cons, List.map_nil, List.length_cons, List.length_nil, List.replicate, List.cons_append, List.nil_append, List.getElem?_cons_zero, List.getElem?_cons_succ, List.set_cons_zero, List.set_cons_succ, Nat.reduceSub, Nat.reduceAdd, Nat.zero_add, if_true, if_false, reduceIte, p_ix, itemS, l_dat, l_scr, l_ref0, atI_0, atI_1, atI_2, atI_3, Option.map_some, Option.bind_some, p_gtI, p_ltI, p_geI, p_leI, p_ltS, p_eqI, p_neI, p_eqS, p_neS, p_addI, p_subI, p_negI, p_lenL, p_lenT, p_intB, v_dat, l_tup, a_tup, p_isN, p_notN, set_feed1, set_feed2, p_pow9, p_pow12, p_pow18, e_iter, e_kIter_t, e_kIter_l, e_kIter_s, e_r1, e_zip, e_kZip, zip2_t, zip2_l, e_for, e_kFor, e_lc, e_try, e_kTry_ret, e_raise, e_kRaise, e_callL, ts_nil, ts_cons, e_kMtS, gYes, x_k2, x_k1, x_kc, x_kd, x_kN, x_kCall, x_kIf, x_kSIf, x_kAsg, x_kDrop, Bool.false_eq_true, Bool.not_true, Bool.not_false, tup_2, tup_3, tup_4, p_tup0, p_lst0, p_tup1, p_lst1, p_tup2, p_lst2, p_tup3, p_lst3, p_tup4, p_lst4, p_tup5, p_lst5, p_tup6, p_lst6, p_tup7, p_lst7, p_tup8, p_lst8, hd, p_inSp, decide_eq_true hy, show ((2 : Nat) = 2 ∧ 2 ≤ 900) from ⟨rfl, by decide⟩, and_self]
  exact endX_self hB (noTx_flat 1)
/-- the reader's word: what stands ahead of the first blank -/
theorem part_sp {y : Str} (h : 32 ∉ y.cps.toList) : Txt.partition y " " = (y, Str.empty, Str.empty) := TL.partition_none (s := 32) (S := []) rfl h
theorem part_sp2 {y : Str} (h : 32 ∉ y.cps.toList) : Txt.partition (y ++ " ") " " = (y, (" " : Str), Str.empty) := by
  have := TL.partition_app (y := " ") (s := 32) (S := []) rfl (a := y) (b := Str.empty) h
  rwa [show y ++ (" " : Str) ++ Str.empty = y ++ " " from TL.ext_tl (by rw [TL.tl_append]; exact List.append_nil _)] at this
theorem read_row_eq {y w x z : Str} {B : Bs} {R : Re} (hl : y.length ≤ 100000) (hp : Txt.partition y " " = (w, x, z)) (d : PyData) (hr : m_row_in [.dat (.str w)] B = .ok (.dat d) B) (hR : m_read_alone [.dat (.str y), .dat d] B = R) (hE : (∃ e, R = .ok (.dat e) B) ∨ ∃ k, R = .exc "NoText" (noTx k) B) (hB : Flat B) : m_read_row_text [.dat (.str y)] B = R := by
  unfold m_read_row_text
  simp -implicitDefEqProofs only [e_P2, e_k2, e_k1, e_P1, e_k0, e_lift, e_C, gVar, e_nil, e_cons, e_kc, e_kd, e_PN, e_kN, e_call, e_kCall, e_if, e_kIf_t, e_kIf_f, e_and, e_kAnd_t, e_kAnd_f, e_or, e_kOr_t, e_kOr_f, e_not, e_kNot, e_seq, e_kS_nx, e_kS_ret, e_kS_brk, e_kS_ct, e_kS_exc, e_pass, e_brk, e_ct, e_sif, e_kSIf_t, e_kSIf_f, e_asg, e_kAsg, e_kO, e_name, e_ret, e_kRet, e_kRet_x, e_drop, e_kDrop, e_set, e_kSet, e_kSet2, e_kSet3, e_kSet4, e_fn, e_kFn_ret, e_kFn_nx, e_kFn_exc, e_fnK, e_kFnK_ret, e_mt, e_kMt2, e_isi, e_kIs, e_kI, e_chain, e_kCh, e_kCh2, e_kCh3_t, e_kCh3_f, e_shut, e_kSh, e_sl, e_kSl, e_kSl2n, e_kSl2i, e_kSl3, e_part, e_kPart, List.map_cons, List.map_nil, List.length_cons, List.length_nil, List.replicate, List.cons_append, List.nil_append, List.getElem?_cons_zero, List.getElem?_cons_succ, List.set_cons_zero, List.set_cons_succ, Nat.reduceSub, Nat.reduceAdd, Nat.zero_add, if_true, if_false, reduceIte, p_ix, itemS, l_dat, l_scr, l_ref0, atI_0, atI_1, atI_2, atI_3, Option.map_some, Option.bind_some, p_gtI, p_ltI, p_geI, p_leI, p_ltS, p_eqI, p_neI, p_eqS, p_neS, p_addI, p_subI, p_negI, p_lenL, p_lenT, p_intB, v_dat, l_tup, a_tup, p_isN, p_notN, set_feed1, set_feed2, p_pow9, p_pow12, p_pow18, e_iter, e_kIter_t, e_kIter_l, e_kIter_s, e_r1, e_zip, e_kZip, zip2_t, zip2_l, e_for, e_kFor, e_lc, e_try, e_kTry_ret, e_raise, e_kRaise, e_callL, ts_nil, ts_cons, e_kMtS, gYes, x_k2, x_k1, x_kc, x_kd, x_kN, x_kCall, x_kIf, x_kSIf, x_kAsg, x_kDrop, Bool.false_eq_true, Bool.not_true, Bool.not_false, tup_2, tup_3, tup_4, p_tup0, p_lst0, p_tup1, p_lst1, p_tup2, p_lst2, p_tup3, p_lst3, p_tup4, p_lst4, p_tup5, p_lst5, p_tup6, p_lst6, p_tup7, p_lst7, p_tup8, p_lst8]
  unfold b_read_row_text
  simp -implicitDefEqProofs only [e_P2, e_k2, e_k1, e_P1, e_k0, e_lift, e_C, gVar, e_nil, e_cons, e_kc, e_kd, e_PN, e_kN, e_call, e_kCall, e_if, e_kIf_t, e_kIf_f, e_and, e_kAnd_t, e_kAnd_f, e_or, e_kOr_t, e_kOr_f, e_not, e_kNot, e_seq, e_kS_nx, e_kS_ret, e_kS_brk, e_kS_ct, e_kS_exc, e_pass, e_brk, e_ct, e_sif, e_kSIf_t, e_kSIf_f, e_asg, e_kAsg, e_kO, e_name, e_ret, e_kRet, e_kRet_x, e_drop, e_kDrop, e_set, e_kSet, e_kSet2, e_kSet3, e_kSet4, e_fn, e_kFn_ret, e_kFn_nx, e_kFn_exc, e_fnK, e_kFnK_ret, e_mt, e_kMt2, e_isi, e_kIs, e_kI, e_chain, e_kCh, e_kCh2, e_kCh3_t, e_kCh3_f, e_shut, e_kSh, e_sl, e_kSl, e_kSl2n, e_kSl2i, e_kSl3, e_part, e_kPart, List.map_cons, List.map_nil, List.length_cons, List.length_nil, List.replicate, List.cons_append, List.nil_append, List.getElem?_cons_zero, List.getElem?_cons_succ, List.set_cons_zero, List.set_cons_succ, Nat.reduceSub, Nat.reduceAdd, Nat.zero_add, if_true, if_false, reduceIte, p_ix, itemS, l_dat, l_scr, l_ref0, atI_0, atI_1, atI_2, atI_3, Option.map_some, Option.bind_some, p_gtI, p_ltI, p_geI, p_leI, p_ltS, p_eqI, p_neI, p_eqS, p_neS, p_addI, p_subI, p_negI, p_lenL, p_lenT, p_intB, v_dat, l_tup, a_tup, p_isN, p_notN, set_feed1, set_feed2, p_pow9, p_pow12, p_pow18, e_iter, e_kIter_t, e_kIter_l, e_kIter_s, e_r1, e_zip, e_kZip, zip2_t, zip2_l, e_for, e_kFor, e_lc, e_try, e_kTry_ret, e_raise, e_kRaise, e_callL, ts_nil, ts_cons, e_kMtS, gYes, x_k2, x_k1, x_kc, x_kd, x_kN, x_kCall, x_kIf, x_kSIf, x_kAsg, x_kDrop, Bool.false_eq_true, Bool.not_true, Bool.not_false, tup_2, tup_3, tup_4, p_tup0, p_lst0, p_tup1, p_lst1, p_tup2, p_lst2, p_tup3, p_lst3, p_tup4, p_lst4, p_tup5, p_lst5, p_tup6, p_lst6, p_tup7, p_lst7, p_tup8, p_lst8, p_part (a := y) (b := " ") (by decide) hl, hp, hr, hR]
  rcases hE with ⟨e, rfl⟩ | ⟨k, rfl⟩
  · simp -implicitDefEqProofs only [e_P2, e_k2, e_k1, e_P1, e_k0, e_lift, e_C, gVar, e_nil, e_cons, e_kc, e_kd, e_PN, e_kN, e_call, e_kCall, e_if, e_kIf_t, e_kIf_f, e_and, e_kAnd_t, e_kAnd_f, e_or, e_kOr_t, e_kOr_f, e_not, e_kNot, e_seq, e_kS_nx, e_kS_ret, e_kS_brk, e_kS_ct, e_kS_exc, e_pass, e_brk, e_ct, e_sif, e_kSIf_t, e_kSIf_f, e_asg, e_kAsg, e_kO, e_name, e_ret, e_kRet, e_kRet_x, e_drop, e_kDrop, e_set, e_kSet, e_kSet2, e_kSet3, e_kSet4, e_fn, e_kFn_ret, e_kFn_nx, e_kFn_exc, e_fnK, e_kFnK_ret, e_mt, e_kMt2, e_isi, e_kIs, e_kI, e_chain, e_kCh, e_kCh2, e_kCh3_t, e_kCh3_f, e_shut, e_kSh, e_sl, e_kSl, e_kSl2n, e_kSl2i, e_kSl3, e_part, e_kPart, List.map_cons, List.map_nil, List.length_cons, List.length_nil, List.replicate, List.cons_append, List.nil_append, List.getElem?_cons_zero, List.getElem?_cons_succ, List.set_cons_zero, List.set_cons_succ, Nat.reduceSub, Nat.reduceAdd, Nat.zero_add, if_true, if_false, reduceIte, p_ix, itemS, l_dat, l_scr, l_ref0, atI_0, atI_1, atI_2, atI_3, Option.map_some, Option.bind_some, p_gtI, p_ltI, p_geI, p_leI, p_ltS, p_eqI, p_neI, p_eqS, p_neS, p_addI, p_subI, p_negI, p_lenL, p_lenT, p_intB, v_dat, l_tup, a_tup, p_isN, p_notN, set_feed1, set_feed2, p_pow9, p_pow12, p_pow18, e_iter, e_kIter_t, e_kIter_l, e_kIter_s, e_r1, e_zip, e_kZip, zip2_t, zip2_l, e_for, e_kFor, e_lc, e_try, e_kTry_ret, e_raise, e_kRaise, e_callL, ts_nil, ts_cons, e_kMtS, gYes, x_k2, x_k1, x_kc, x_kd, x_kN, x_kCall, x_kIf, x_kSIf, x_kAsg, x_kDrop, Bool.false_eq_true, Bool.not_true, Bool.not_false, tup_2, tup_3, tup_4, p_tup0, p_lst0, p_tup1, p_lst1, p_tup2, p_lst2, p_tup3, p_lst3, p_tup4, p_lst4, p_tup5, p_lst5, p_tup6, p_lst6, p_tup7, p_lst7, p_tup8, p_lst8]
    rw [endF_self hB]
  · simp -implicitDefEqProofs only [e_P2, e_k2, e_k1, e_P1, e_k0, e_lift, e_C, gVar, e_nil, e_cons, e_kc, e_kd, e_PN, e_kN, e_call, e_kCall, e_if, e_kIf_t, e_kIf_f, e_and, e_kAnd_t, e_kAnd_f, e_or, e_kOr_t, e_kOr_f, e_not, e_kNot, e_seq, e_kS_nx, e_kS_ret, e_kS_brk, e_kS_ct, e_kS_exc, e_pass, e_brk, e_ct, e_sif, e_kSIf_t, e_kSIf_f, e_asg, e_kAsg, e_kO, e_name, e_ret, e_kRet, e_kRet_x, e_drop, e_kDrop, e_set, e_kSet, e_kSet2, e_kSet3, e_kSet4, e_fn, e_kFn_ret, e_kFn_nx, e_kFn_exc, e_fnK, e_kFnK_ret, e_mt, e_kMt2, e_isi, e_kIs, e_kI, e_chain, e_kCh, e_kCh2, e_kCh3_t, e_kCh3_f, e_shut, e_kSh, e_sl, e_kSl, e_kSl2n, e_kSl2i, e_kSl3, e_part, e_kPart, List.map_cons, List.map_nil, List.length_cons, List.length_nil, List.replicate, List.cons_append, List.nil_append, List.getElem?_cons_zero, List.getElem?_cons_succ, List.set_cons_zero, List.set_cons_succ, Nat.reduceSub, Nat.reduceAdd, Nat.zero_add, if_true, if_false, reduceIte, p_ix, itemS, l_dat, l_scr, l_ref0, atI_0, atI_1, atI_2, atI_3, Option.map_some, Option.bind_some, p_gtI, p_ltI, p_geI, p_leI, p_ltS, p_eqI, p_neI, p_eqS, p_neS, p_addI, p_subI, p_negI, p_lenL, p_lenT, p_intB, v_dat, l_tup, a_tup, p_isN, p_notN, set_feed1, set_feed2, p_pow9, p_pow12, p_pow18, e_iter, e_kIter_t, e_kIter_l, e_kIter_s, e_r1, e_zip, e_kZip, zip2_t, zip2_l, e_for, e_kFor, e_lc, e_try, e_kTry_ret, e_raise, e_kRaise, e_callL, ts_nil, ts_cons, e_kMtS, gYes, x_k2, x_k1, x_kc, x_kd, x_kN, x_kCall, x_kIf, x_kSIf, x_kAsg, x_kDrop, Bool.false_eq_true, Bool.not_true, Bool.not_false, tup_2, tup_3, tup_4, p_tup0, p_lst0, p_tup1, p_lst1, p_tup2, p_lst2, p_tup3, p_lst3, p_tup4, p_lst4, p_tup5, p_lst5, p_tup6, p_lst6, p_tup7, p_lst7, p_tup8, p_lst8]
    exact endX_self hB (noTx_flat k)
theorem read_runs_eq {y w x z : Str} {B : Bs} {R : Re} (hl : y.length ≤ 100000) (hp : Txt.partition y " " = (w, x, z)) (d : PyData) (hr : m_runs_in [.dat (.str w)] B = .ok (.dat d) B) (hR : m_read_alone [.dat (.str y), .dat d] B = R) (hE : (∃ e, R = .ok (.dat e) B) ∨ ∃ k, R = .exc "NoText" (noTx k) B) (hB : Flat B) : m_read_runs [.dat (.str y)] B = R := by
  unfold m_read_runs
  simp -implicitDefEqProofs only [e_P2, e_k2, e_k1, e_P1, e_k0, e_lift, e_C, gVar, e_nil, e_cons, e_kc, e_kd, e_PN, e_kN, e_call, e_kCall, e_if, e_kIf_t, e_kIf_f, e_and, e_kAnd_t, e_kAnd_f, e_or, e_kOr_t, e_kOr_f, e_not, e_kNot, e_seq, e_kS_nx, e_kS_ret, e_kS_brk, e_kS_ct, e_kS_exc, e_pass, e_brk, e_ct, e_sif, e_kSIf_t, e_kSIf_f, e_asg, e_kAsg, e_kO, e_name, e_ret, e_kRet, e_kRet_x, e_drop, e_kDrop, e_set, e_kSet, e_kSet2, e_kSet3, e_kSet4, e_fn, e_kFn_ret, e_kFn_nx, e_kFn_exc, e_fnK, e_kFnK_ret, e_mt, e_kMt2, e_isi, e_kIs, e_kI, e_chain, e_kCh, e_kCh2, e_kCh3_t, e_kCh3_f, e_shut, e_kSh, e_sl, e_kSl, e_kSl2n, e_kSl2i, e_kSl3, e_part, e_kPart, List.map_cons, List.map_nil, List.length_cons, List.length_nil, List.replicate, List.cons_append, List.nil_append, List.getElem?_cons_zero, List.getElem?_cons_succ, List.set_cons_zero, List.set_cons_succ, Nat.reduceSub, Nat.reduceAdd, Nat.zero_add, if_true, if_false, reduceIte, p_ix, itemS, l_dat, l_scr, l_ref0, atI_0, atI_1, atI_2, atI_3, Option.map_some, Option.bind_some, p_gtI, p_ltI, p_geI, p_leI, p_ltS, p_eqI, p_neI, p_eqS, p_neS, p_addI, p_subI, p_negI, p_lenL, p_lenT, p_intB, v_dat, l_tup, a_tup, p_isN, p_notN, set_feed1, set_feed2, p_pow9, p_pow12, p_pow18, e_iter, e_kIter_t, e_kIter_l, e_kIter_s, e_r1, e_zip, e_kZip, zip2_t, zip2_l, e_for, e_kFor, e_lc, e_try, e_kTry_ret, e_raise, e_kRaise, e_callL, ts_nil, ts_cons, e_kMtS, gYes, x_k2, x_k1, x_kc, x_kd, x_kN, x_kCall, x_kIf, x_kSIf, x_kAsg, x_kDrop, Bool.false_eq_true, Bool.not_true, Bool.not_false, tup_2, tup_3, tup_4, p_tup0, p_lst0, p_tup1, p_lst1, p_tup2, p_lst2, p_tup3, p_lst3, p_tup4, p_lst4, p_tup5, p_lst5, p_tup6, p_lst6, p_tup7, p_lst7, p_tup8, p_lst8]
  unfold b_read_runs
  simp -implicitDefEqProofs only [e_P2, e_k2, e_k1, e_P1, e_k0, e_lift, e_C, gVar, e_nil, e_cons, e_kc, e_kd, e_PN, e_kN, e_call, e_kCall, e_if, e_kIf_t, e_kIf_f, e_and, e_kAnd_t, e_kAnd_f, e_or, e_kOr_t, e_kOr_f, e_not, e_kNot, e_seq, e_kS_nx, e_kS_ret, e_kS_brk, e_kS_ct, e_kS_exc, e_pass, e_brk, e_ct, e_sif, e_kSIf_t, e_kSIf_f, e_asg, e_kAsg, e_kO, e_name, e_ret, e_kRet, e_kRet_x, e_drop, e_kDrop, e_set, e_kSet, e_kSet2, e_kSet3, e_kSet4, e_fn, e_kFn_ret, e_kFn_nx, e_kFn_exc, e_fnK, e_kFnK_ret, e_mt, e_kMt2, e_isi, e_kIs, e_kI, e_chain, e_kCh, e_kCh2, e_kCh3_t, e_kCh3_f, e_shut, e_kSh, e_sl, e_kSl, e_kSl2n, e_kSl2i, e_kSl3, e_part, e_kPart, List.map_cons, List.map_nil, List.length_cons, List.length_nil, List.replicate, List.cons_append, List.nil_append, List.getElem?_cons_zero, List.getElem?_cons_succ, List.set_cons_zero, List.set_cons_succ, Nat.reduceSub, Nat.reduceAdd, Nat.zero_add, if_true, if_false, reduceIte, p_ix, itemS, l_dat, l_scr, l_ref0, atI_0, atI_1, atI_2, atI_3, Option.map_some, Option.bind_some, p_gtI, p_ltI, p_geI, p_leI, p_ltS, p_eqI, p_neI, p_eqS, p_neS, p_addI, p_subI, p_negI, p_lenL, p_lenT, p_intB, v_dat, l_tup, a_tup, p_isN, p_notN, set_feed1, set_feed2, p_pow9, p_pow12, p_pow18, e_iter, e_kIter_t, e_kIter_l, e_kIter_s, e_r1, e_zip, e_kZip, zip2_t, zip2_l, e_for, e_kFor, e_lc, e_try, e_kTry_ret, e_raise, e_kRaise, e_callL, ts_nil, ts_cons, e_kMtS, gYes, x_k2, x_k1, x_kc, x_kd, x_kN, x_kCall, x_kIf, x_kSIf, x_kAsg, x_kDrop, Bool.false_eq_true, Bool.not_true, Bool.not_false, tup_2, tup_3, tup_4, p_tup0, p_lst0, p_tup1, p_lst1, p_tup2, p_lst2, p_tup3, p_lst3, p_tup4, p_lst4, p_tup5, p_lst5, p_tup6, p_lst6, p_tup7, p_lst7, p_tup8, p_lst8, p_part (a := y) (b := " ") (by decide) hl, hp, hr, hR]
  rcases hE with ⟨e, rfl⟩ | ⟨k, rfl⟩
  · simp -implicitDefEqProofs only [e_P2, e_k2, e_k1, e_P1, e_k0, e_lift, e_C, gVar, e_nil, e_cons, e_kc, e_kd, e_PN, e_kN, e_call, e_kCall, e_if, e_kIf_t, e_kIf_f, e_and, e_kAnd_t, e_kAnd_f, e_or, e_kOr_t, e_kOr_f, e_not, e_kNot, e_seq, e_kS_nx, e_kS_ret, e_kS_brk, e_kS_ct, e_kS_exc, e_pass, e_brk, e_ct, e_sif, e_kSIf_t, e_kSIf_f, e_asg, e_kAsg, e_kO, e_name, e_ret, e_kRet, e_kRet_x, e_drop, e_kDrop, e_set, e_kSet, e_kSet2, e_kSet3, e_kSet4, e_fn, e_kFn_ret, e_kFn_nx, e_kFn_exc, e_fnK, e_kFnK_ret, e_mt, e_kMt2, e_isi, e_kIs, e_kI, e_chain, e_kCh, e_kCh2, e_kCh3_t, e_kCh3_f, e_shut, e_kSh, e_sl, e_kSl, e_kSl2n, e_kSl2i, e_kSl3, e_part, e_kPart, List.map_cons, List.map_nil, List.length_cons, List.length_nil, List.replicate, List.cons_append, List.nil_append, List.getElem?_cons_zero, List.getElem?_cons_succ, List.set_cons_zero, List.set_cons_succ, Nat.reduceSub, Nat.reduceAdd, Nat.zero_add, if_true, if_false, reduceIte, p_ix, itemS, l_dat, l_scr, l_ref0, atI_0, atI_1, atI_2, atI_3, Option.map_some, Option.bind_some, p_gtI, p_ltI, p_geI, p_leI, p_ltS, p_eqI, p_neI, p_eqS, p_neS, p_addI, p_subI, p_negI, p_lenL, p_lenT, p_intB, v_dat, l_tup, a_tup, p_isN, p_notN, set_feed1, set_feed2, p_pow9, p_pow12, p_pow18, e_iter, e_kIter_t, e_kIter_l, e_kIter_s, e_r1, e_zip, e_kZip, zip2_t, zip2_l, e_for, e_kFor, e_lc, e_try, e_kTry_ret, e_raise, e_kRaise, e_callL, ts_nil, ts_cons, e_kMtS, gYes, x_k2, x_k1, x_kc, x_kd, x_kN, x_kCall, x_kIf, x_kSIf, x_kAsg, x_kDrop, Bool.false_eq_true, Bool.not_true, Bool.not_false, tup_2, tup_3, tup_4, p_tup0, p_lst0, p_tup1, p_lst1, p_tup2, p_lst2, p_tup3, p_lst3, p_tup4, p_lst4, p_tup5, p_lst5, p_tup6, p_lst6, p_tup7, p_lst7, p_tup8, p_lst8]
    rw [endF_self hB]
  · simp -implicitDefEqProofs only [e_P2, e_k2, e_k1, e_P1, e_k0, e_lift, e_C, gVar, e_nil, e_cons, e_kc, e_kd, e_PN, e_kN, e_call, e_kCall, e_if, e_kIf_t, e_kIf_f, e_and, e_kAnd_t, e_kAnd_f, e_or, e_kOr_t, e_kOr_f, e_not, e_kNot, e_seq, e_kS_nx, e_kS_ret, e_kS_brk, e_kS_ct, e_kS_exc, e_pass, e_brk, e_ct, e_sif, e_kSIf_t, e_kSIf_f, e_asg, e_kAsg, e_kO, e_name, e_ret, e_kRet, e_kRet_x, e_drop, e_kDrop, e_set, e_kSet, e_kSet2, e_kSet3, e_kSet4, e_fn, e_kFn_ret, e_kFn_nx, e_kFn_exc, e_fnK, e_kFnK_ret, e_mt, e_kMt2, e_isi, e_kIs, e_kI, e_chain, e_kCh, e_kCh2, e_kCh3_t, e_kCh3_f, e_shut, e_kSh, e_sl, e_kSl, e_kSl2n, e_kSl2i, e_kSl3, e_part, e_kPart, List.map_cons, List.map_nil, List.length_cons, List.length_nil, List.replicate, List.cons_append, List.nil_append, List.getElem?_cons_zero, List.getElem?_cons_succ, List.set_cons_zero, List.set_cons_succ, Nat.reduceSub, Nat.reduceAdd, Nat.zero_add, if_true, if_false, reduceIte, p_ix, itemS, l_dat, l_scr, l_ref0, atI_0, atI_1, atI_2, atI_3, Option.map_some, Option.bind_some, p_gtI, p_ltI, p_geI, p_leI, p_ltS, p_eqI, p_neI, p_eqS, p_neS, p_addI, p_subI, p_negI, p_lenL, p_lenT, p_intB, v_dat, l_tup, a_tup, p_isN, p_notN, set_feed1, set_feed2, p_pow9, p_pow12, p_pow18, e_iter, e_kIter_t, e_kIter_l, e_kIter_s, e_r1, e_zip, e_kZip, zip2_t, zip2_l, e_for, e_kFor, e_lc, e_try, e_kTry_ret, e_raise, e_kRaise, e_callL, ts_nil, ts_cons, e_kMtS, gYes, x_k2, x_k1, x_kc, x_kd, x_kN, x_kCall, x_kIf, x_kSIf, x_kAsg, x_kDrop, Bool.false_eq_true, Bool.not_true, Bool.not_false, tup_2, tup_3, tup_4, p_tup0, p_lst0, p_tup1, p_lst1, p_tup2, p_lst2, p_tup3, p_lst3, p_tup4, p_lst4, p_tup5, p_lst5, p_tup6, p_lst6, p_tup7, p_lst7, p_tup8, p_lst8]
    exact endX_self hB (noTx_flat k)
def told (d : PyData) : PyData := .tuple [.str "told", d]
def refused (w : Int) : PyData := .tuple [.str "no", .int 0, .int w]
def outD : Re → PyData
  | .ok (.dat d) _ => told d
  | .exc _ (p :: _) _ => (match p.2 with | .dat (.int w) => refused w | _ => .none)
  | _ => .none
theorem law_read_ok {x : Str} {m : GF} {y : Str} {B : Bs} {R : Re} (ht : tbOf [("read_runs", m_read_runs), ("read_row_text", m_read_row_text)] x = some m) (hm : m [.dat (.str y)] B = R) (hE : (∃ e, R = .ok (.dat e) B) ∨ ∃ k, R = .exc "NoText" (noTx k) B) (hB : Flat B) : m__law_read [.fn x, .dat (.str y)] B = .ok (.dat (outD R)) B := by
  unfold m__law_read
  simp -implicitDefEqProofs only [e_P2, e_k2, e_k1, e_P1, e_k0, e_lift, e_C, gVar, e_nil, e_cons, e_kc, e_kd, e_PN, e_kN, e_call, e_kCall, e_if, e_kIf_t, e_kIf_f, e_and, e_kAnd_t, e_kAnd_f, e_or, e_kOr_t, e_kOr_f, e_not, e_kNot, e_seq, e_kS_nx, e_kS_ret, e_kS_brk, e_kS_ct, e_kS_exc, e_pass, e_brk, e_ct, e_sif, e_kSIf_t, e_kSIf_f, e_asg, e_kAsg, e_kO, e_name, e_ret, e_kRet, e_kRet_x, e_drop, e_kDrop, e_set, e_kSet, e_kSet2, e_kSet3, e_kSet4, e_fn, e_kFn_ret, e_kFn_nx, e_kFn_exc, e_fnK, e_kFnK_ret, e_mt, e_kMt2, e_isi, e_kIs, e_kI, e_chain, e_kCh, e_kCh2, e_kCh3_t, e_kCh3_f, e_shut, e_kSh, e_sl, e_kSl, e_kSl2n, e_kSl2i, e_kSl3, e_part, e_kPart, List.map_cons, List.map_nil, List.length_cons, List.length_nil, List.replicate, List.cons_append, List.nil_append, List.getElem?_cons_zero, List.getElem?_cons_succ, List.set_cons_zero, List.set_cons_succ, Nat.reduceSub, Nat.reduceAdd, Nat.zero_add, if_true, if_false, reduceIte, p_ix, itemS, l_dat, l_scr, l_ref0, atI_0, atI_1, atI_2, atI_3, Option.map_some, Option.bind_some, p_gtI, p_ltI, p_geI, p_leI, p_ltS, p_eqI, p_neI, p_eqS, p_neS, p_addI, p_subI, p_negI, p_lenL, p_lenT, p_intB, v_dat, l_tup, a_tup, p_isN, p_notN, set_feed1, set_feed2, p_pow9, p_pow12, p_pow18, e_iter, e_kIter_t, e_kIter_l, e_kIter_s, e_r1, e_zip, e_kZip, zip2_t, zip2_l, e_for, e_kFor, e_lc, e_try, e_kTry_ret, e_raise, e_kRaise, e_callL, ts_nil, ts_cons, e_kMtS, gYes, x_k2, x_k1, x_kc, x_kd, x_kN, x_kCall, x_kIf, x_kSIf, x_kAsg, x_kDrop, Bool.false_eq_true, Bool.not_true, Bool.not_false, tup_2, tup_3, tup_4, p_tup0, p_lst0, p_tup1, p_lst1, p_tup2, p_lst2, p_tup3, p_lst3, p_tup4, p_lst4, p_tup5, p_lst5, p_tup6, p_lst6, p_tup7, p_lst7, p_tup8, p_lst8]
  unfold b__law_read
  simp -implicitDefEqProofs only [e_P2, e_k2, e_k1, e_P1, e_k0, e_lift, e_C, gVar, e_nil, e_cons, e_kc, e_kd, e_PN, e_kN, e_call, e_kCall, e_if, e_kIf_t, e_kIf_f, e_and, e_kAnd_t, e_kAnd_f, e_or, e_kOr_t, e_kOr_f, e_not, e_kNot, e_seq, e_kS_nx, e_kS_ret, e_kS_brk, e_kS_ct, e_kS_exc, e_pass, e_brk, e_ct, e_sif, e_kSIf_t, e_kSIf_f, e_asg, e_kAsg, e_kO, e_name, e_ret, e_kRet, e_kRet_x, e_drop, e_kDrop, e_set, e_kSet, e_kSet2, e_kSet3, e_kSet4, e_fn, e_kFn_ret, e_kFn_nx, e_kFn_exc, e_fnK, e_kFnK_ret, e_mt, e_kMt2, e_isi, e_kIs, e_kI, e_chain, e_kCh, e_kCh2, e_kCh3_t, e_kCh3_f, e_shut, e_kSh, e_sl, e_kSl, e_kSl2n, e_kSl2i, e_kSl3, e_part, e_kPart, List.map_cons, List.map_nil, List.length_cons, List.length_nil, List.replicate, List.cons_append, List.nil_append, List.getElem?_cons_zero, List.getElem?_cons_succ, List.set_cons_zero, List.set_cons_succ, Nat.reduceSub, Nat.reduceAdd, Nat.zero_add, if_true, if_false, reduceIte, p_ix, itemS, l_dat, l_scr, l_ref0, atI_0, atI_1, atI_2, atI_3, Option.map_some, Option.bind_some, p_gtI, p_ltI, p_geI, p_leI, p_ltS, p_eqI, p_neI, p_eqS, p_neS, p_addI, p_subI, p_negI, p_lenL, p_lenT, p_intB, v_dat, l_tup, a_tup, p_isN, p_notN, set_feed1, set_feed2, p_pow9, p_pow12, p_pow18, e_iter, e_kIter_t, e_kIter_l, e_kIter_s, e_r1, e_zip, e_kZip, zip2_t, zip2_l, e_for, e_kFor, e_lc, e_try, e_kTry_ret, e_raise, e_kRaise, e_callL, ts_nil, ts_cons, e_kMtS, gYes, x_k2, x_k1, x_kc, x_kd, x_kN, x_kCall, x_kIf, x_kSIf, x_kAsg, x_kDrop, Bool.false_eq_true, Bool.not_true, Bool.not_false, tup_2, tup_3, tup_4, p_tup0, p_lst0, p_tup1, p_lst1, p_tup2, p_lst2, p_tup3, p_lst3, p_tup4, p_lst4, p_tup5, p_lst5, p_tup6, p_lst6, p_tup7, p_lst7, p_tup8, p_lst8, e_kCL ht, hm]
  rcases hE with ⟨e, rfl⟩ | ⟨k, rfl⟩
  · simp -implicitDefEqProofs only [e_P2, e_k2, e_k1, e_P1, e_k0, e_lift, e_C, gVar, e_nil, e_cons, e_kc, e_kd, e_PN, e_kN, e_call, e_kCall, e_if, e_kIf_t, e_kIf_f, e_and, e_kAnd_t, e_kAnd_f, e_or, e_kOr_t, e_kOr_f, e_not, e_kNot, e_seq, e_kS_nx, e_kS_ret, e_kS_brk, e_kS_ct, e_kS_exc, e_pass, e_brk, e_ct, e_sif, e_kSIf_t, e_kSIf_f, e_asg, e_kAsg, e_kO, e_name, e_ret, e_kRet, e_kRet_x, e_drop, e_kDrop, e_set, e_kSet, e_kSet2, e_kSet3, e_kSet4, e_fn, e_kFn_ret, e_kFn_nx, e_kFn_exc, e_fnK, e_kFnK_ret, e_mt, e_kMt2, e_isi, e_kIs, e_kI, e_chain, e_kCh, e_kCh2, e_kCh3_t, e_kCh3_f, e_shut, e_kSh, e_sl, e_kSl, e_kSl2n, e_kSl2i, e_kSl3, e_part, e_kPart, List.map_cons, List.map_nil, List.length_cons, List.length_nil, List.replicate, List.cons_append, List.nil_append, List.getElem?_cons_zero, List.getElem?_cons_succ, List.set_cons_zero, List.set_cons_succ, Nat.reduceSub, Nat.reduceAdd, Nat.zero_add, if_true, if_false, reduceIte, p_ix, itemS, l_dat, l_scr, l_ref0, atI_0, atI_1, atI_2, atI_3, Option.map_some, Option.bind_some, p_gtI, p_ltI, p_geI, p_leI, p_ltS, p_eqI, p_neI, p_eqS, p_neS, p_addI, p_subI, p_negI, p_lenL, p_lenT, p_intB, v_dat, l_tup, a_tup, p_isN, p_notN, set_feed1, set_feed2, p_pow9, p_pow12, p_pow18, e_iter, e_kIter_t, e_kIter_l, e_kIter_s, e_r1, e_zip, e_kZip, zip2_t, zip2_l, e_for, e_kFor, e_lc, e_try, e_kTry_ret, e_raise, e_kRaise, e_callL, ts_nil, ts_cons, e_kMtS, gYes, x_k2, x_k1, x_kc, x_kd, x_kN, x_kCall, x_kIf, x_kSIf, x_kAsg, x_kDrop, Bool.false_eq_true, Bool.not_true, Bool.not_false, tup_2, tup_3, tup_4, p_tup0, p_lst0, p_tup1, p_lst1, p_tup2, p_lst2, p_tup3, p_lst3, p_tup4, p_lst4, p_tup5, p_lst5, p_tup6, p_lst6, p_tup7, p_lst7, p_tup8, p_lst8]
    rw [endF_self hB]
    rfl
  · simp -implicitDefEqProofs only [e_P2, e_k2, e_k1, e_P1, e_k0, e_lift, e_C, gVar, e_nil, e_cons, e_kc, e_kd, e_PN, e_kN, e_call, e_kCall, e_if, e_kIf_t, e_kIf_f, e_and, e_kAnd_t, e_kAnd_f, e_or, e_kOr_t, e_kOr_f, e_not, e_kNot, e_seq, e_kS_nx, e_kS_ret, e_kS_brk, e_kS_ct, e_kS_exc, e_pass, e_brk, e_ct, e_sif, e_kSIf_t, e_kSIf_f, e_asg, e_kAsg, e_kO, e_name, e_ret, e_kRet, e_kRet_x, e_drop, e_kDrop, e_set, e_kSet, e_kSet2, e_kSet3, e_kSet4, e_fn, e_kFn_ret, e_kFn_nx, e_kFn_exc, e_fnK, e_kFnK_ret, e_mt, e_kMt2, e_isi, e_kIs, e_kI, e_chain, e_kCh, e_kCh2, e_kCh3_t, e_kCh3_f, e_shut, e_kSh, e_sl, e_kSl, e_kSl2n, e_kSl2i, e_kSl3, e_part, e_kPart, List.map_cons, List.map_nil, List.length_cons, List.length_nil, List.replicate, List.cons_append, List.nil_append, List.getElem?_cons_zero, List.getElem?_cons_succ, List.set_cons_zero, List.set_cons_succ, Nat.reduceSub, Nat.reduceAdd, Nat.zero_add, if_true, if_false, reduceIte, p_ix, itemS, l_dat, l_scr, l_ref0, atI_0, atI_1, atI_2, atI_3, Option.map_some, Option.bind_some, p_gtI, p_ltI, p_geI, p_leI, p_ltS, p_eqI, p_neI, p_eqS, p_neS, p_addI, p_subI, p_negI, p_lenL, p_lenT, p_intB, v_dat, l_tup, a_tup, p_isN, p_notN, set_feed1, set_feed2, p_pow9, p_pow12, p_pow18, e_iter, e_kIter_t, e_kIter_l, e_kIter_s, e_r1, e_zip, e_kZip, zip2_t, zip2_l, e_for, e_kFor, e_lc, e_try, e_kTry_ret, e_raise, e_kRaise, e_callL, ts_nil, ts_cons, e_kMtS, gYes, x_k2, x_k1, x_kc, x_kd, x_kN, x_kCall, x_kIf, x_kSIf, x_kAsg, x_kDrop, Bool.false_eq_true, Bool.not_true, Bool.not_false, tup_2, tup_3, tup_4, p_tup0, p_lst0, p_tup1, p_lst1, p_tup2, p_lst2, p_tup3, p_lst3, p_tup4, p_lst4, p_tup5, p_lst5, p_tup6, p_lst6, p_tup7, p_lst7, p_tup8, p_lst8]
    rw [x_kTry (ds := [.str "no", .int 0, .int k]) (by decide) rfl ⟨by simp, by simp⟩]
    simp -implicitDefEqProofs only [e_P2, e_k2, e_k1, e_P1, e_k0, e_lift, e_C, gVar, e_nil, e_cons, e_kc, e_kd, e_PN, e_kN, e_call, e_kCall, e_if, e_kIf_t, e_kIf_f, e_and, e_kAnd_t, e_kAnd_f, e_or, e_kOr_t, e_kOr_f, e_not, e_kNot, e_seq, e_kS_nx, e_kS_ret, e_kS_brk, e_kS_ct, e_kS_exc, e_pass, e_brk, e_ct, e_sif, e_kSIf_t, e_kSIf_f, e_asg, e_kAsg, e_kO, e_name, e_ret, e_kRet, e_kRet_x, e_drop, e_kDrop, e_set, e_kSet, e_kSet2, e_kSet3, e_kSet4, e_fn, e_kFn_ret, e_kFn_nx, e_kFn_exc, e_fnK, e_kFnK_ret, e_mt, e_kMt2, e_isi, e_kIs, e_kI, e_chain, e_kCh, e_kCh2, e_kCh3_t, e_kCh3_f, e_shut, e_kSh, e_sl, e_kSl, e_kSl2n, e_kSl2i, e_kSl3, e_part, e_kPart, List.map_cons, List.map_nil, List.length_cons, List.length_nil, List.replicate, List.cons_append, List.nil_append, List.getElem?_cons_zero, List.getElem?_cons_succ, List.set_cons_zero, List.set_cons_succ, Nat.reduceSub, Nat.reduceAdd, Nat.zero_add, if_true, if_false, reduceIte, p_ix, itemS, l_dat, l_scr, l_ref0, atI_0, atI_1, atI_2, atI_3, Option.map_some, Option.bind_some, p_gtI, p_ltI, p_geI, p_leI, p_ltS, p_eqI, p_neI, p_eqS, p_neS, p_addI, p_subI, p_negI, p_lenL, p_lenT, p_intB, v_dat, l_tup, a_tup, p_isN, p_notN, set_feed1, set_feed2, p_pow9, p_pow12, p_pow18, e_iter, e_kIter_t, e_kIter_l, e_kIter_s, e_r1, e_zip, e_kZip, zip2_t, zip2_l, e_for, e_kFor, e_lc, e_try, e_kTry_ret, e_raise, e_kRaise, e_callL, ts_nil, ts_cons, e_kMtS, gYes, x_k2, x_k1, x_kc, x_kd, x_kN, x_kCall, x_kIf, x_kSIf, x_kAsg, x_kDrop, Bool.false_eq_true, Bool.not_true, Bool.not_false, tup_2, tup_3, tup_4, p_tup0, p_lst0, p_tup1, p_lst1, p_tup2, p_lst2, p_tup3, p_lst3, p_tup4, p_lst4, p_tup5, p_lst5, p_tup6, p_lst6, p_tup7, p_lst7, p_tup8, p_lst8]
    rw [endF_self hB]
    rfl
theorem tb1 : tbOf [("read_runs", m_read_runs), ("read_row_text", m_read_row_text)] "read_runs" = some m_read_runs := rfl
theorem tb2 : tbOf [("read_runs", m_read_runs), ("read_row_text", m_read_row_text)] "read_row_text" = some m_read_row_text := rfl
/-! ### the law's own check of runs -/
def geP (p q : P3) : Bool := if p.1 = q.1 then (if p.2.1 = q.2.1 then (if p.2.2 = q.2.2 then true else decide (q.2.2 ≤ p.2.2)) else decide (q.2.1 ≤ p.2.1)) else !decide (p.1.cps.toList < q.1.cps.toList)
theorem p_gePd {p q : P3} {B : Bs} (hp : Gp p) (hq : Gp q) : pGe [.dat (pd p), .dat (pd q)] B = some (.dat (.bool (geP p q)), B) := by
  show (if SeqAt.shaped (pd p) = true ∧ SeqAt.shaped (pd q) = true ∧ allS (fun d e => leS e d) [.str p.1, .int p.2.1, .int p.2.2] [.str q.1, .int q.2.1, .int q.2.2] = true then lexO (fun d e => leS e d) (fun m n => decide (n ≤ m)) [.str p.1, .int p.2.1, .int p.2.2] [.str q.1, .int q.2.1, .int q.2.2] else none).bind (fun b => bool' b B) = _
  rw [if_pos ⟨(pd_sm hp).shaped (by decide), (pd_sm hq).shaped (by decide), rfl⟩]
  unfold lexO lexO lexO lexO geP
  simp only [eqv_str, eqv_int, decide_eq_true_eq]
  by_cases h1 : p.1 = q.1
  · simp only [if_pos h1]
    by_cases h2 : p.2.1 = q.2.1
    · simp only [if_pos h2]
      by_cases h3 : p.2.2 = q.2.2
      · simp only [if_pos h3]; rfl
      · simp only [if_neg h3]; rfl
    · simp only [if_neg h2]; rfl
  · simp only [if_neg h1]; rfl
def okP (p q : P3) : Bool := !(geP p q || (decide (p.1 = q.1) && decide (q.2.1 ≤ p.2.2)))
theorem okP_goes {p q : P3} (hp : Gp p) (hq : Gp q) : okP p q = goes p q := by
  have h0 := hp.up
  have h1 := hq.up
  unfold okP geP goes ltS'
  by_cases e : p.1 = q.1
  · have hlt : ¬ (p.1.cps.toList < q.1.cps.toList) := by rw [e]; exact List.lt_irrefl _
    simp only [if_pos e, decide_eq_false hlt, decide_eq_true e, Bool.true_and, Bool.false_or]
    by_cases k : p.2.2 < q.2.1
    · have : ¬ (q.2.1 ≤ p.2.2) := by omega
      have k2 : ¬ (p.2.1 = q.2.1) := by omega
      have k3 : ¬ (q.2.1 ≤ p.2.1) := by omega
      simp [k, this, k2, k3]
    · have : q.2.1 ≤ p.2.2 := by omega
      simp [k, this]
  · simp only [if_neg e, decide_eq_false e, Bool.false_and, Bool.or_false, Bool.not_not]
def okL : List P3 → Bool
  | p :: q :: r => okP p q && okL (q :: r)
  | _ => true
theorem okL_chain : ∀ {ps : List P3}, (∀ p ∈ ps, Gp p) → okL ps = chain ps
  | [], _ => rfl
  | [p], _ => rfl
  | p :: q :: r, h => by
    show (okP p q && okL (q :: r)) = (goes p q && chain (q :: r))
    rw [okP_goes (h p (by simp)) (h q (by simp)), okL_chain fun x m => h x (List.mem_cons_of_mem _ m)]
theorem okL_all : ∀ ps : List P3, (List.zip ps (ps.drop 1)).all (fun p => okP p.1 p.2) = okL ps
  | [] => rfl
  | [p] => rfl
  | p :: q :: r => by
    show (okP p q && (List.zip (q :: r) r).all fun p => okP p.1 p.2) = (okP p q && okL (q :: r))
    rw [← okL_all (q :: r)]
    rfl
theorem sl1L {ds : List PyData} {B : Bs} : pSl [.dat (.list ds), .dat (.int 1), .dat .none] B = some (.dat (.list (ds.drop 1)), B) := by
  rw [p_sl (lo := some 1) (hi := none) rfl rfl]
  show (some (ds.map S.dat)).bind (fun ss => (datsOf (cutL ss (some 1) none)).map fun ds => (S.dat (.list ds), B)) = _
  rw [Option.bind_some, cut1, ← List.map_drop, datsOf_map]
  rfl
theorem are_loop {ps : List P3} {x0 : S} {B : Bs} {chk : Bs → Prop} (hc : chk B) (h : ∀ p ∈ ps, Gp p) (hB : Flat B) :
    Ev.kFn (Ev.kS (forL chk (tTupT 2 (tsCons (tName 1) (tsCons (tName 2) tsNil))) (sIf (gOr (gP2 pGe (gVar 1) (gVar 2)) (gAnd (gP2 pEq (gP2 pIx (gVar 1) (gC (.dat (.int 0)))) (gP2 pIx (gVar 2) (gC (.dat (.int 0))))) (gP2 pGe (gP2 pIx (gVar 1) (gC (.dat (.int 2)))) (gP2 pIx (gVar 2) (gC (.dat (.int 1))))))) (sRet (gC (.dat (.bool false)))) sPass)
      ((List.zip ps (ps.drop 1)).map fun p => S.dat (.tuple [pd p.1, pd p.2])) [some x0, none, none] B) (sRet (gC (.dat (.bool true))))) B.length = .ok (.dat (.bool (chain ps))) B := by
  have key := for_check (t := tTupT 2 (tsCons (tName 1) (tsCons (tName 2) tsNil))) (body := sIf (gOr (gP2 pGe (gVar 1) (gVar 2)) (gAnd (gP2 pEq (gP2 pIx (gVar 1) (gC (.dat (.int 0)))) (gP2 pIx (gVar 2) (gC (.dat (.int 0))))) (gP2 pGe (gP2 pIx (gVar 1) (gC (.dat (.int 2)))) (gP2 pIx (gVar 2) (gC (.dat (.int 1))))))) (sRet (gC (.dat (.bool false)))) sPass)
    (h := fun p : P3 × P3 => S.dat (.tuple [pd p.1, pd p.2])) (good := fun p => okP p.1 p.2) (I := fun r => ∃ x1 x2, r = [some x0, x1, x2]) (s := .dat (.bool false)) hc (List.zip ps (ps.drop 1)) [some x0, none, none] (fun p hp r I => ?_) ⟨_, _, rfl⟩
  · rw [okL_all, okL_chain h] at key
    cases e : chain ps with
    | true =>
      obtain ⟨r', e1, x1, x2, rfl⟩ := key.1 e
      rw [e1]
      simp -implicitDefEqProofs only [e_P2, e_k2, e_k1, e_P1, e_k0, e_lift, e_C, gVar, e_nil, e_cons, e_kc, e_kd, e_PN, e_kN, e_call, e_kCall, e_if, e_kIf_t, e_kIf_f, e_and, e_kAnd_t, e_kAnd_f, e_or, e_kOr_t, e_kOr_f, e_not, e_kNot, e_seq, e_kS_nx, e_kS_ret, e_kS_brk, e_kS_ct, e_kS_exc, e_pass, e_brk, e_ct, e_sif, e_kSIf_t, e_kSIf_f, e_asg, e_kAsg, e_kO, e_name, e_ret, e_kRet, e_kRet_x, e_drop, e_kDrop, e_set, e_kSet, e_kSet2, e_kSet3, e_kSet4, e_fn, e_kFn_ret, e_kFn_nx, e_kFn_exc, e_fnK, e_kFnK_ret, e_mt, e_kMt2, e_isi, e_kIs, e_kI, e_chain, e_kCh, e_kCh2, e_kCh3_t, e_kCh3_f, e_shut, e_kSh, e_sl, e_kSl, e_kSl2n, e_kSl2i, e_kSl3, e_part, e_kPart, List.map_cons, List.map_nil, List.length_cons, List.length_nil, List.replicate, List.cons_append, List.nil_append, List.getElem?_cons_zero, List.getElem?_cons_succ, List.set_cons_zero, List.set_cons_succ, Nat.reduceSub, Nat.reduceAdd, Nat.zero_add, if_true, if_false, reduceIte, p_ix, itemS, l_dat, l_scr, l_ref0, atI_0, atI_1, atI_2, atI_3, Option.map_some, Option.bind_some, p_gtI, p_ltI, p_geI, p_leI, p_ltS, p_eqI, p_neI, p_eqS, p_neS, p_addI, p_subI, p_negI, p_lenL, p_lenT, p_intB, v_dat, l_tup, a_tup, p_isN, p_notN, set_feed1, set_feed2, p_pow9, p_pow12, p_pow18, e_iter, e_kIter_t, e_kIter_l, e_kIter_s, e_r1, e_zip, e_kZip, zip2_t, zip2_l, e_for, e_kFor, e_lc, e_try, e_kTry_ret, e_raise, e_kRaise, e_callL, ts_nil, ts_cons, e_kMtS, gYes, x_k2, x_k1, x_kc, x_kd, x_kN, x_kCall, x_kIf, x_kSIf, x_kAsg, x_kDrop, Bool.false_eq_true, Bool.not_true, Bool.not_false, tup_2, tup_3, tup_4, p_tup0, p_lst0, p_tup1, p_lst1, p_tup2, p_lst2, p_tup3, p_lst3, p_tup4, p_lst4, p_tup5, p_lst5, p_tup6, p_lst6, p_tup7, p_lst7, p_tup8, p_lst8]
      rw [endF_self hB]
    | false =>
      rw [key.2 e]
      simp -implicitDefEqProofs only [e_P2, e_k2, e_k1, e_P1, e_k0, e_lift, e_C, gVar, e_nil, e_cons, e_kc, e_kd, e_PN, e_kN, e_call, e_kCall, e_if, e_kIf_t, e_kIf_f, e_and, e_kAnd_t, e_kAnd_f, e_or, e_kOr_t, e_kOr_f, e_not, e_kNot, e_seq, e_kS_nx, e_kS_ret, e_kS_brk, e_kS_ct, e_kS_exc, e_pass, e_brk, e_ct, e_sif, e_kSIf_t, e_kSIf_f, e_asg, e_kAsg, e_kO, e_name, e_ret, e_kRet, e_kRet_x, e_drop, e_kDrop, e_set, e_kSet, e_kSet2, e_kSet3, e_kSet4, e_fn, e_kFn_ret, e_kFn_nx, e_kFn_exc, e_fnK, e_kFnK_ret, e_mt, e_kMt2, e_isi, e_kIs, e_kI, e_chain, e_kCh, e_kCh2, e_kCh3_t, e_kCh3_f, e_shut, e_kSh, e_sl, e_kSl, e_kSl2n, e_kSl2i, e_kSl3, e_part, e_kPart, List.map_cons, List.map_nil, List.length_cons, List.length_nil, List.replicate, List.cons_append, List.nil_append, List.getElem?_cons_zero, List.getElem?_cons_succ, List.set_cons_zero, List.set_cons_succ, Nat.reduceSub, Nat.reduceAdd, Nat.zero_add, if_true, if_false, reduceIte, p_ix, itemS, l_dat, l_scr, l_ref0, atI_0, atI_1, atI_2, atI_3, Option.map_some, Option.bind_some, p_gtI, p_ltI, p_geI, p_leI, p_ltS, p_eqI, p_neI, p_eqS, p_neS, p_addI, p_subI, p_negI, p_lenL, p_lenT, p_intB, v_dat, l_tup, a_tup, p_isN, p_notN, set_feed1, set_feed2, p_pow9, p_pow12, p_pow18, e_iter, e_kIter_t, e_kIter_l, e_kIter_s, e_r1, e_zip, e_kZip, zip2_t, zip2_l, e_for, e_kFor, e_lc, e_try, e_kTry_ret, e_raise, e_kRaise, e_callL, ts_nil, ts_cons, e_kMtS, gYes, x_k2, x_k1, x_kc, x_kd, x_kN, x_kCall, x_kIf, x_kSIf, x_kAsg, x_kDrop, Bool.false_eq_true, Bool.not_true, Bool.not_false, tup_2, tup_3, tup_4, p_tup0, p_lst0, p_tup1, p_lst1, p_tup2, p_lst2, p_tup3, p_lst3, p_tup4, p_lst4, p_tup5, p_lst5, p_tup6, p_lst6, p_tup7, p_lst7, p_tup8, p_lst8]
      rw [endF_self hB]
  · obtain ⟨x1, x2, rfl⟩ := I
    have g1 : Gp p.1 := h _ (List.of_mem_zip hp).1
    have g2 : Gp p.2 := h _ (List.mem_of_mem_drop (List.of_mem_zip hp).2)
    refine ⟨_, rfl, fun g => ?_, fun g => ?_⟩
    · have g : okP p.1 p.2 = true := g
      unfold okP at g
      refine ⟨[some x0, some (.dat (pd p.1)), some (.dat (pd p.2))], ?_, _, _, rfl⟩
      cases e1 : geP p.1 p.2 with
      | true => rw [e1] at g; simp at g
      | false =>
        rw [e1, Bool.false_or] at g
        simp -implicitDefEqProofs only [e_P2, e_k2, e_k1, e_P1, e_k0, e_lift, e_C, gVar, e_nil, e_cons, e_kc, e_kd, e_PN, e_kN, e_call, e_kCall, e_if, e_kIf_t, e_kIf_f, e_and, e_kAnd_t, e_kAnd_f, e_or, e_kOr_t, e_kOr_f, e_not, e_kNot, e_seq, e_kS_nx, e_kS_ret, e_kS_brk, e_kS_ct, e_kS_exc, e_pass, e_brk, e_ct, e_sif, e_kSIf_t, e_kSIf_f, e_asg, e_kAsg, e_kO, e_name, e_ret, e_kRet, e_kRet_x, e_drop, e_kDrop, e_set, e_kSet, e_kSet2, e_kSet3, e_kSet4, e_fn, e_kFn_ret, e_kFn_nx, e_kFn_exc, e_fnK, e_kFnK_ret, e_mt, e_kMt2, e_isi, e_kIs, e_kI, e_chain, e_kCh, e_kCh2, e_kCh3_t, e_kCh3_f, e_shut, e_kSh, e_sl, e_kSl, e_kSl2n, e_kSl2i, e_kSl3, e_part, e_kPart, List.map_cons, List.map_nil, List.length_cons, List.length_nil, List.replicate, List.cons_append, List.nil_append, List.getElem?_cons_zero, List.getElem?_cons_succ, List.set_cons_zero, List.set_cons_succ, Nat.reduceSub, Nat.reduceAdd, Nat.zero_add, if_true, if_false, reduceIte, p_ix, itemS, l_dat, l_scr, l_ref0, atI_0, atI_1, atI_2, atI_3, Option.map_some, Option.bind_some, p_gtI, p_ltI, p_geI, p_leI, p_ltS, p_eqI, p_neI, p_eqS, p_neS, p_addI, p_subI, p_negI, p_lenL, p_lenT, p_intB, v_dat, l_tup, a_tup, p_isN, p_notN, set_feed1, set_feed2, p_pow9, p_pow12, p_pow18, e_iter, e_kIter_t, e_kIter_l, e_kIter_s, e_r1, e_zip, e_kZip, zip2_t, zip2_l, e_for, e_kFor, e_lc, e_try, e_kTry_ret, e_raise, e_kRaise, e_callL, ts_nil, ts_cons, e_kMtS, gYes, x_k2, x_k1, x_kc, x_kd, x_kN, x_kCall, x_kIf, x_kSIf, x_kAsg, x_kDrop, Bool.false_eq_true, Bool.not_true, Bool.not_false, tup_2, tup_3, tup_4, p_tup0, p_lst0, p_tup1, p_lst1, p_tup2, p_lst2, p_tup3, p_lst3, p_tup4, p_lst4, p_tup5, p_lst5, p_tup6, p_lst6, p_tup7, p_lst7, p_tup8, p_lst8, p_gePd g1 g2, e1]
        simp -implicitDefEqProofs only [e_P2, e_k2, e_k1, e_P1, e_k0, e_lift, e_C, gVar, e_nil, e_cons, e_kc, e_kd, e_PN, e_kN, e_call, e_kCall, e_if, e_kIf_t, e_kIf_f, e_and, e_kAnd_t, e_kAnd_f, e_or, e_kOr_t, e_kOr_f, e_not, e_kNot, e_seq, e_kS_nx, e_kS_ret, e_kS_brk, e_kS_ct, e_kS_exc, e_pass, e_brk, e_ct, e_sif, e_kSIf_t, e_kSIf_f, e_asg, e_kAsg, e_kO, e_name, e_ret, e_kRet, e_kRet_x, e_drop, e_kDrop, e_set, e_kSet, e_kSet2, e_kSet3, e_kSet4, e_fn, e_kFn_ret, e_kFn_nx, e_kFn_exc, e_fnK, e_kFnK_ret, e_mt, e_kMt2, e_isi, e_kIs, e_kI, e_chain, e_kCh, e_kCh2, e_kCh3_t, e_kCh3_f, e_shut, e_kSh, e_sl, e_kSl, e_kSl2n, e_kSl2i, e_kSl3, e_part, e_kPart, List.map_cons, List.map_nil, List.length_cons, List.length_nil, List.replicate, List.cons_append, List.nil_append, List.getElem?_cons_zero, List.getElem?_cons_succ, List.set_cons_zero, List.set_cons_succ, Nat.reduceSub, Nat.reduceAdd, Nat.zero_add, if_true, if_false, reduceIte, p_ix, itemS, l_dat, l_scr, l_ref0, atI_0, atI_1, atI_2, atI_3, Option.map_some, Option.bind_some, p_gtI, p_ltI, p_geI, p_leI, p_ltS, p_eqI, p_neI, p_eqS, p_neS, p_addI, p_subI, p_negI, p_lenL, p_lenT, p_intB, v_dat, l_tup, a_tup, p_isN, p_notN, set_feed1, set_feed2, p_pow9, p_pow12, p_pow18, e_iter, e_kIter_t, e_kIter_l, e_kIter_s, e_r1, e_zip, e_kZip, zip2_t, zip2_l, e_for, e_kFor, e_lc, e_try, e_kTry_ret, e_raise, e_kRaise, e_callL, ts_nil, ts_cons, e_kMtS, gYes, x_k2, x_k1, x_kc, x_kd, x_kN, x_kCall, x_kIf, x_kSIf, x_kAsg, x_kDrop, Bool.false_eq_true, Bool.not_true, Bool.not_false, tup_2, tup_3, tup_4, p_tup0, p_lst0, p_tup1, p_lst1, p_tup2, p_lst2, p_tup3, p_lst3, p_tup4, p_lst4, p_tup5, p_lst5, p_tup6, p_lst6, p_tup7, p_lst7, p_tup8, p_lst8, pd]
        cases e2 : decide (p.1.1 = p.2.1) with
        | false => simp -implicitDefEqProofs only [e_P2, e_k2, e_k1, e_P1, e_k0, e_lift, e_C, gVar, e_nil, e_cons, e_kc, e_kd, e_PN, e_kN, e_call, e_kCall, e_if, e_kIf_t, e_kIf_f, e_and, e_kAnd_t, e_kAnd_f, e_or, e_kOr_t, e_kOr_f, e_not, e_kNot, e_seq, e_kS_nx, e_kS_ret, e_kS_brk, e_kS_ct, e_kS_exc, e_pass, e_brk, e_ct, e_sif, e_kSIf_t, e_kSIf_f, e_asg, e_kAsg, e_kO, e_name, e_ret, e_kRet, e_kRet_x, e_drop, e_kDrop, e_set, e_kSet, e_kSet2, e_kSet3, e_kSet4, e_fn, e_kFn_ret, e_kFn_nx, e_kFn_exc, e_fnK, e_kFnK_ret, e_mt, e_kMt2, e_isi, e_kIs, e_kI, e_chain, e_kCh, e_kCh2, e_kCh3_t, e_kCh3_f, e_shut, e_kSh, e_sl, e_kSl, e_kSl2n, e_kSl2i, e_kSl3, e_part, e_kPart, List.map_cons, List.map_nil, List.length_cons, List.length_nil, List.replicate, List.cons_append, List.nil_append, List.getElem?_cons_zero, List.getElem?_cons_succ, List.set_cons_zero, List.set_cons_succ, Nat.reduceSub, Nat.reduceAdd, Nat.zero_add, if_true, if_false, reduceIte, p_ix, itemS, l_dat, l_scr, l_ref0, atI_0, atI_1, atI_2, atI_3, Option.map_some, Option.bind_some, p_gtI, p_ltI, p_geI, p_leI, p_ltS, p_eqI, p_neI, p_eqS, p_neS, p_addI, p_subI, p_negI, p_lenL, p_lenT, p_intB, v_dat, l_tup, a_tup, p_isN, p_notN, set_feed1, set_feed2, p_pow9, p_pow12, p_pow18, e_iter, e_kIter_t, e_kIter_l, e_kIter_s, e_r1, e_zip, e_kZip, zip2_t, zip2_l, e_for, e_kFor, e_lc, e_try, e_kTry_ret, e_raise, e_kRaise, e_callL, ts_nil, ts_cons, e_kMtS, gYes, x_k2, x_k1, x_kc, x_kd, x_kN, x_kCall, x_kIf, x_kSIf, x_kAsg, x_kDrop, Bool.false_eq_true, Bool.not_true, Bool.not_false, tup_2, tup_3, tup_4, p_tup0, p_lst0, p_tup1, p_lst1, p_tup2, p_lst2, p_tup3, p_lst3, p_tup4, p_lst4, p_tup5, p_lst5, p_tup6, p_lst6, p_tup7, p_lst7, p_tup8, p_lst8]
        | true =>
          rw [e2, Bool.true_and] at g
          have e3 : decide (p.2.2.1 ≤ p.1.2.2) = false := by simpa using g
          simp -implicitDefEqProofs only [e_P2, e_k2, e_k1, e_P1, e_k0, e_lift, e_C, gVar, e_nil, e_cons, e_kc, e_kd, e_PN, e_kN, e_call, e_kCall, e_if, e_kIf_t, e_kIf_f, e_and, e_kAnd_t, e_kAnd_f, e_or, e_kOr_t, e_kOr_f, e_not, e_kNot, e_seq, e_kS_nx, e_kS_ret, e_kS_brk, e_kS_ct, e_kS_exc, e_pass, e_brk, e_ct, e_sif, e_kSIf_t, e_kSIf_f, e_asg, e_kAsg, e_kO, e_name, e_ret, e_kRet, e_kRet_x, e_drop, e_kDrop, e_set, e_kSet, e_kSet2, e_kSet3, e_kSet4, e_fn, e_kFn_ret, e_kFn_nx, e_kFn_exc, e_fnK, e_kFnK_ret, e_mt, e_kMt2, e_isi, e_kIs, e_kI, e_chain, e_kCh, e_kCh2, e_kCh3_t, e_kCh3_f, e_shut, e_kSh, e_sl, e_kSl, e_kSl2n, e_kSl2i, e_kSl3, e_part, e_kPart, List.map_cons, List.map_nil, List.length_cons, List.length_nil, List.replicate, List.cons_append, List.nil_append, List.getElem?_cons_zero, List.getElem?_cons_succ, List.set_cons_zero, List.set_cons_succ, Nat.reduceSub, Nat.reduceAdd, Nat.zero_add, if_true, if_false, reduceIte, p_ix, itemS, l_dat, l_scr, l_ref0, atI_0, atI_1, atI_2, atI_3, Option.map_some, Option.bind_some, p_gtI, p_ltI, p_geI, p_leI, p_ltS, p_eqI, p_neI, p_eqS, p_neS, p_addI, p_subI, p_negI, p_lenL, p_lenT, p_intB, v_dat, l_tup, a_tup, p_isN, p_notN, set_feed1, set_feed2, p_pow9, p_pow12, p_pow18, e_iter, e_kIter_t, e_kIter_l, e_kIter_s, e_r1, e_zip, e_kZip, zip2_t, zip2_l, e_for, e_kFor, e_lc, e_try, e_kTry_ret, e_raise, e_kRaise, e_callL, ts_nil, ts_cons, e_kMtS, gYes, x_k2, x_k1, x_kc, x_kd, x_kN, x_kCall, x_kIf, x_kSIf, x_kAsg, x_kDrop, Bool.false_eq_true, Bool.not_true, Bool.not_false, tup_2, tup_3, tup_4, p_tup0, p_lst0, p_tup1, p_lst1, p_tup2, p_lst2, p_tup3, p_lst3, p_tup4, p_lst4, p_tup5, p_lst5, p_tup6, p_lst6, p_tup7, p_lst7, p_tup8, p_lst8, e3]
    · have g : okP p.1 p.2 = false := g
      unfold okP at g
      cases e1 : geP p.1 p.2 with
      | true => simp -implicitDefEqProofs only [e_P2, e_k2, e_k1, e_P1, e_k0, e_lift, e_C, gVar, e_nil, e_cons, e_kc, e_kd, e_PN, e_kN, e_call, e_kCall, e_if, e_kIf_t, e_kIf_f, e_and, e_kAnd_t, e_kAnd_f, e_or, e_kOr_t, e_kOr_f, e_not, e_kNot, e_seq, e_kS_nx, e_kS_ret, e_kS_brk, e_kS_ct, e_kS_exc, e_pass, e_brk, e_ct, e_sif, e_kSIf_t, e_kSIf_f, e_asg, e_kAsg, e_kO, e_name, e_ret, e_kRet, e_kRet_x, e_drop, e_kDrop, e_set, e_kSet, e_kSet2, e_kSet3, e_kSet4, e_fn, e_kFn_ret, e_kFn_nx, e_kFn_exc, e_fnK, e_kFnK_ret, e_mt, e_kMt2, e_isi, e_kIs, e_kI, e_chain, e_kCh, e_kCh2, e_kCh3_t, e_kCh3_f, e_shut, e_kSh, e_sl, e_kSl, e_kSl2n, e_kSl2i, e_kSl3, e_part, e_kPart, List.map_cons, List.map_nil, List.length_cons, List.length_nil, List.replicate, List.cons_append, List.nil_append, List.getElem?_cons_zero, List.getElem?_cons_succ, List.set_cons_zero, List.set_cons_succ, Nat.reduceSub, Nat.reduceAdd, Nat.zero_add, if_true, if_false, reduceIte, p_ix, itemS, l_dat, l_scr, l_ref0, atI_0, atI_1, atI_2, atI_3, Option.map_some, Option.bind_some, p_gtI, p_ltI, p_geI, p_leI, p_ltS, p_eqI, p_neI, p_eqS, p_neS, p_addI, p_subI, p_negI, p_lenL, p_lenT, p_intB, v_dat, l_tup, a_tup, p_isN, p_notN, set_feed1, set_feed2, p_pow9, p_pow12, p_pow18, e_iter, e_kIter_t, e_kIter_l, e_kIter_s, e_r1, e_zip, e_kZip, zip2_t, zip2_l, e_for, e_kFor, e_lc, e_try, e_kTry_ret, e_raise, e_kRaise, e_callL, ts_nil, ts_cons, e_kMtS, gYes, x_k2, x_k1, x_kc, x_kd, x_kN, x_kCall, x_kIf, x_kSIf, x_kAsg, x_kDrop, Bool.false_eq_true, Bool.not_true, Bool.not_false, tup_2, tup_3, tup_4, p_tup0, p_lst0, p_tup1, p_lst1, p_tup2, p_lst2, p_tup3, p_lst3, p_tup4, p_lst4, p_tup5, p_lst5, p_tup6, p_lst6, p_tup7, p_lst7, p_tup8, p_lst8, p_gePd g1 g2, e1]
      | false =>
        rw [e1, Bool.false_or] at g
        have g : (decide (p.1.1 = p.2.1) && decide (p.2.2.1 ≤ p.1.2.2)) = true := by simpa using g
        obtain ⟨e2, e3⟩ := Bool.and_eq_true_iff.mp g
        simp -implicitDefEqProofs only [e_P2, e_k2, e_k1, e_P1, e_k0, e_lift, e_C, gVar, e_nil, e_cons, e_kc, e_kd, e_PN, e_kN, e_call, e_kCall, e_if, e_kIf_t, e_kIf_f, e_and, e_kAnd_t, e_kAnd_f, e_or, e_kOr_t, e_kOr_f, e_not, e_kNot, e_seq, e_kS_nx, e_kS_ret, e_kS_brk, e_kS_ct, e_kS_exc, e_pass, e_brk, e_ct, e_sif, e_kSIf_t, e_kSIf_f, e_asg, e_kAsg, e_kO, e_name, e_ret, e_kRet, e_kRet_x, e_drop, e_kDrop, e_set, e_kSet, e_kSet2, e_kSet3, e_kSet4, e_fn, e_kFn_ret, e_kFn_nx, e_kFn_exc, e_fnK, e_kFnK_ret, e_mt, e_kMt2, e_isi, e_kIs, e_kI, e_chain, e_kCh, e_kCh2, e_kCh3_t, e_kCh3_f, e_shut, e_kSh, e_sl, e_kSl, e_kSl2n, e_kSl2i, e_kSl3, e_part, e_kPart, List.map_cons, List.map_nil, List.length_cons, List.length_nil, List.replicate, List.cons_append, List.nil_append, List.getElem?_cons_zero, List.getElem?_cons_succ, List.set_cons_zero, List.set_cons_succ, Nat.reduceSub, Nat.reduceAdd, Nat.zero_add, if_true, if_false, reduceIte, p_ix, itemS, l_dat, l_scr, l_ref0, atI_0, atI_1, atI_2, atI_3, Option.map_some, Option.bind_some, p_gtI, p_ltI, p_geI, p_leI, p_ltS, p_eqI, p_neI, p_eqS, p_neS, p_addI, p_subI, p_negI, p_lenL, p_lenT, p_intB, v_dat, l_tup, a_tup, p_isN, p_notN, set_feed1, set_feed2, p_pow9, p_pow12, p_pow18, e_iter, e_kIter_t, e_kIter_l, e_kIter_s, e_r1, e_zip, e_kZip, zip2_t, zip2_l, e_for, e_kFor, e_lc, e_try, e_kTry_ret, e_raise, e_kRaise, e_callL, ts_nil, ts_cons, e_kMtS, gYes, x_k2, x_k1, x_kc, x_kd, x_kN, x_kCall, x_kIf, x_kSIf, x_kAsg, x_kDrop, Bool.false_eq_true, Bool.not_true, Bool.not_false, tup_2, tup_3, tup_4, p_tup0, p_lst0, p_tup1, p_lst1, p_tup2, p_lst2, p_tup3, p_lst3, p_tup4, p_lst4, p_tup5, p_lst5, p_tup6, p_lst6, p_tup7, p_lst7, p_tup8, p_lst8, p_gePd g1 g2, e1]
        simp -implicitDefEqProofs only [e_P2, e_k2, e_k1, e_P1, e_k0, e_lift, e_C, gVar, e_nil, e_cons, e_kc, e_kd, e_PN, e_kN, e_call, e_kCall, e_if, e_kIf_t, e_kIf_f, e_and, e_kAnd_t, e_kAnd_f, e_or, e_kOr_t, e_kOr_f, e_not, e_kNot, e_seq, e_kS_nx, e_kS_ret, e_kS_brk, e_kS_ct, e_kS_exc, e_pass, e_brk, e_ct, e_sif, e_kSIf_t, e_kSIf_f, e_asg, e_kAsg, e_kO, e_name, e_ret, e_kRet, e_kRet_x, e_drop, e_kDrop, e_set, e_kSet, e_kSet2, e_kSet3, e_kSet4, e_fn, e_kFn_ret, e_kFn_nx, e_kFn_exc, e_fnK, e_kFnK_ret, e_mt, e_kMt2, e_isi, e_kIs, e_kI, e_chain, e_kCh, e_kCh2, e_kCh3_t, e_kCh3_f, e_shut, e_kSh, e_sl, e_kSl, e_kSl2n, e_kSl2i, e_kSl3, e_part, e_kPart, List.map_cons, List.map_nil, List.length_cons, List.length_nil, List.replicate, List.cons_append, List.nil_append, List.getElem?_cons_zero, List.getElem?_cons_succ, List.set_cons_zero, List.set_cons_succ, Nat.reduceSub, Nat.reduceAdd, Nat.zero_add, if_true, if_false, reduceIte, p_ix, itemS, l_dat, l_scr, l_ref0, atI_0, atI_1, atI_2, atI_3, Option.map_some, Option.bind_some, p_gtI, p_ltI, p_geI, p_leI, p_ltS, p_eqI, p_neI, p_eqS, p_neS, p_addI, p_subI, p_negI, p_lenL, p_lenT, p_intB, v_dat, l_tup, a_tup, p_isN, p_notN, set_feed1, set_feed2, p_pow9, p_pow12, p_pow18, e_iter, e_kIter_t, e_kIter_l, e_kIter_s, e_r1, e_zip, e_kZip, zip2_t, zip2_l, e_for, e_kFor, e_lc, e_try, e_kTry_ret, e_raise, e_kRaise, e_callL, ts_nil, ts_cons, e_kMtS, gYes, x_k2, x_k1, x_kc, x_kd, x_kN, x_kCall, x_kIf, x_kSIf, x_kAsg, x_kDrop, Bool.false_eq_true, Bool.not_true, Bool.not_false, tup_2, tup_3, tup_4, p_tup0, p_lst0, p_tup1, p_lst1, p_tup2, p_lst2, p_tup3, p_lst3, p_tup4, p_lst4, p_tup5, p_lst5, p_tup6, p_lst6, p_tup7, p_lst7, p_tup8, p_lst8, pd, e2, e3]
theorem are_runsT {ps : List P3} {B : Bs} (h : ∀ p ∈ ps, Gp p) (hB : Flat B) : m__law_are_runs [.dat (.tuple (ps.map pd))] B = .ok (.dat (.bool (chain ps))) B := by
  unfold m__law_are_runs
  simp -implicitDefEqProofs only [e_P2, e_k2, e_k1, e_P1, e_k0, e_lift, e_C, gVar, e_nil, e_cons, e_kc, e_kd, e_PN, e_kN, e_call, e_kCall, e_if, e_kIf_t, e_kIf_f, e_and, e_kAnd_t, e_kAnd_f, e_or, e_kOr_t, e_kOr_f, e_not, e_kNot, e_seq, e_kS_nx, e_kS_ret, e_kS_brk, e_kS_ct, e_kS_exc, e_pass, e_brk, e_ct, e_sif, e_kSIf_t, e_kSIf_f, e_asg, e_kAsg, e_kO, e_name, e_ret, e_kRet, e_kRet_x, e_drop, e_kDrop, e_set, e_kSet, e_kSet2, e_kSet3, e_kSet4, e_fn, e_kFn_ret, e_kFn_nx, e_kFn_exc, e_fnK, e_kFnK_ret, e_mt, e_kMt2, e_isi, e_kIs, e_kI, e_chain, e_kCh, e_kCh2, e_kCh3_t, e_kCh3_f, e_shut, e_kSh, e_sl, e_kSl, e_kSl2n, e_kSl2i, e_kSl3, e_part, e_kPart, List.map_cons, List.map_nil, List.length_cons, List.length_nil, List.replicate, List.cons_append, List.nil_append, List.getElem?_cons_zero, List.getElem?_cons_succ, List.set_cons_zero, List.set_cons_succ, Nat.reduceSub, Nat.reduceAdd, Nat.zero_add, if_true, if_false, reduceIte, p_ix, itemS, l_dat, l_scr, l_ref0, atI_0, atI_1, atI_2, atI_3, Option.map_some, Option.bind_some, p_gtI, p_ltI, p_geI, p_leI, p_ltS, p_eqI, p_neI, p_eqS, p_neS, p_addI, p_subI, p_negI, p_lenL, p_lenT, p_intB, v_dat, l_tup, a_tup, p_isN, p_notN, set_feed1, set_feed2, p_pow9, p_pow12, p_pow18, e_iter, e_kIter_t, e_kIter_l, e_kIter_s, e_r1, e_zip, e_kZip, zip2_t, zip2_l, e_for, e_kFor, e_lc, e_try, e_kTry_ret, e_raise, e_kRaise, e_callL, ts_nil, ts_cons, e_kMtS, gYes, x_k2, x_k1, x_kc, x_kd, x_kN, x_kCall, x_kIf, x_kSIf, x_kAsg, x_kDrop, Bool.false_eq_true, Bool.not_true, Bool.not_false, tup_2, tup_3, tup_4, p_tup0, p_lst0, p_tup1, p_lst1, p_tup2, p_lst2, p_tup3, p_lst3, p_tup4, p_lst4, p_tup5, p_lst5, p_tup6, p_lst6, p_tup7, p_lst7, p_tup8, p_lst8]
  unfold b__law_are_runs
  simp -implicitDefEqProofs only [e_P2, e_k2, e_k1, e_P1, e_k0, e_lift, e_C, gVar, e_nil, e_cons, e_kc, e_kd, e_PN, e_kN, e_call, e_kCall, e_if, e_kIf_t, e_kIf_f, e_and, e_kAnd_t, e_kAnd_f, e_or, e_kOr_t, e_kOr_f, e_not, e_kNot, e_seq, e_kS_nx, e_kS_ret, e_kS_brk, e_kS_ct, e_kS_exc, e_pass, e_brk, e_ct, e_sif, e_kSIf_t, e_kSIf_f, e_asg, e_kAsg, e_kO, e_name, e_ret, e_kRet, e_kRet_x, e_drop, e_kDrop, e_set, e_kSet, e_kSet2, e_kSet3, e_kSet4, e_fn, e_kFn_ret, e_kFn_nx, e_kFn_exc, e_fnK, e_kFnK_ret, e_mt, e_kMt2, e_isi, e_kIs, e_kI, e_chain, e_kCh, e_kCh2, e_kCh3_t, e_kCh3_f, e_shut, e_kSh, e_sl, e_kSl, e_kSl2n, e_kSl2i, e_kSl3, e_part, e_kPart, List.map_cons, List.map_nil, List.length_cons, List.length_nil, List.replicate, List.cons_append, List.nil_append, List.getElem?_cons_zero, List.getElem?_cons_succ, List.set_cons_zero, List.set_cons_succ, Nat.reduceSub, Nat.reduceAdd, Nat.zero_add, if_true, if_false, reduceIte, p_ix, itemS, l_dat, l_scr, l_ref0, atI_0, atI_1, atI_2, atI_3, Option.map_some, Option.bind_some, p_gtI, p_ltI, p_geI, p_leI, p_ltS, p_eqI, p_neI, p_eqS, p_neS, p_addI, p_subI, p_negI, p_lenL, p_lenT, p_intB, v_dat, l_tup, a_tup, p_isN, p_notN, set_feed1, set_feed2, p_pow9, p_pow12, p_pow18, e_iter, e_kIter_t, e_kIter_l, e_kIter_s, e_r1, e_zip, e_kZip, zip2_t, zip2_l, e_for, e_kFor, e_lc, e_try, e_kTry_ret, e_raise, e_kRaise, e_callL, ts_nil, ts_cons, e_kMtS, gYes, x_k2, x_k1, x_kc, x_kd, x_kN, x_kCall, x_kIf, x_kSIf, x_kAsg, x_kDrop, Bool.false_eq_true, Bool.not_true, Bool.not_false, tup_2, tup_3, tup_4, p_tup0, p_lst0, p_tup1, p_lst1, p_tup2, p_lst2, p_tup3, p_lst3, p_tup4, p_lst4, p_tup5, p_lst5, p_tup6, p_lst6, p_tup7, p_lst7, p_tup8, p_lst8, sl1]
  rw [zip_pairs]
  exact are_loop trivial h hB
theorem are_runsL {ps : List P3} {B : Bs} (h : ∀ p ∈ ps, Gp p) (hB : Flat B) : m__law_are_runs [.dat (.list (ps.map pd))] B = .ok (.dat (.bool (chain ps))) B := by
  unfold m__law_are_runs
  simp -implicitDefEqProofs only [e_P2, e_k2, e_k1, e_P1, e_k0, e_lift, e_C, gVar, e_nil, e_cons, e_kc, e_kd, e_PN, e_kN, e_call, e_kCall, e_if, e_kIf_t, e_kIf_f, e_and, e_kAnd_t, e_kAnd_f, e_or, e_kOr_t, e_kOr_f, e_not, e_kNot, e_seq, e_kS_nx, e_kS_ret, e_kS_brk, e_kS_ct, e_kS_exc, e_pass, e_brk, e_ct, e_sif, e_kSIf_t, e_kSIf_f, e_asg, e_kAsg, e_kO, e_name, e_ret, e_kRet, e_kRet_x, e_drop, e_kDrop, e_set, e_kSet, e_kSet2, e_kSet3, e_kSet4, e_fn, e_kFn_ret, e_kFn_nx, e_kFn_exc, e_fnK, e_kFnK_ret, e_mt, e_kMt2, e_isi, e_kIs, e_kI, e_chain, e_kCh, e_kCh2, e_kCh3_t, e_kCh3_f, e_shut, e_kSh, e_sl, e_kSl, e_kSl2n, e_kSl2i, e_kSl3, e_part, e_kPart, List.map_cons, List.map_nil, List.length_cons, List.length_nil, List.replicate, List.cons_append, List.nil_append, List.getElem?_cons_zero, List.getElem?_cons_succ, List.set_cons_zero, List.set_cons_succ, Nat.reduceSub, Nat.reduceAdd, Nat.zero_add, if_true, if_false, reduceIte, p_ix, itemS, l_dat, l_scr, l_ref0, atI_0, atI_1, atI_2, atI_3, Option.map_some, Option.bind_some, p_gtI, p_ltI, p_geI, p_leI, p_ltS, p_eqI, p_neI, p_eqS, p_neS, p_addI, p_subI, p_negI, p_lenL, p_lenT, p_intB, v_dat, l_tup, a_tup, p_isN, p_notN, set_feed1, set_feed2, p_pow9, p_pow12, p_pow18, e_iter, e_kIter_t, e_kIter_l, e_kIter_s, e_r1, e_zip, e_kZip, zip2_t, zip2_l, e_for, e_kFor, e_lc, e_try, e_kTry_ret, e_raise, e_kRaise, e_callL, ts_nil, ts_cons, e_kMtS, gYes, x_k2, x_k1, x_kc, x_kd, x_kN, x_kCall, x_kIf, x_kSIf, x_kAsg, x_kDrop, Bool.false_eq_true, Bool.not_true, Bool.not_false, tup_2, tup_3, tup_4, p_tup0, p_lst0, p_tup1, p_lst1, p_tup2, p_lst2, p_tup3, p_lst3, p_tup4, p_lst4, p_tup5, p_lst5, p_tup6, p_lst6, p_tup7, p_lst7, p_tup8, p_lst8]
  unfold b__law_are_runs
  simp -implicitDefEqProofs only [e_P2, e_k2, e_k1, e_P1, e_k0, e_lift, e_C, gVar, e_nil, e_cons, e_kc, e_kd, e_PN, e_kN, e_call, e_kCall, e_if, e_kIf_t, e_kIf_f, e_and, e_kAnd_t, e_kAnd_f, e_or, e_kOr_t, e_kOr_f, e_not, e_kNot, e_seq, e_kS_nx, e_kS_ret, e_kS_brk, e_kS_ct, e_kS_exc, e_pass, e_brk, e_ct, e_sif, e_kSIf_t, e_kSIf_f, e_asg, e_kAsg, e_kO, e_name, e_ret, e_kRet, e_kRet_x, e_drop, e_kDrop, e_set, e_kSet, e_kSet2, e_kSet3, e_kSet4, e_fn, e_kFn_ret, e_kFn_nx, e_kFn_exc, e_fnK, e_kFnK_ret, e_mt, e_kMt2, e_isi, e_kIs, e_kI, e_chain, e_kCh, e_kCh2, e_kCh3_t, e_kCh3_f, e_shut, e_kSh, e_sl, e_kSl, e_kSl2n, e_kSl2i, e_kSl3, e_part, e_kPart, List.map_cons, List.map_nil, List.length_cons, List.length_nil, List.replicate, List.cons_append, List.nil_append, List.getElem?_cons_zero, List.getElem?_cons_succ, List.set_cons_zero, List.set_cons_succ, Nat.reduceSub, Nat.reduceAdd, Nat.zero_add, if_true, if_false, reduceIte, p_ix, itemS, l_dat, l_scr, l_ref0, atI_0, atI_1, atI_2, atI_3, Option.map_some, Option.bind_some, p_gtI, p_ltI, p_geI, p_leI, p_ltS, p_eqI, p_neI, p_eqS, p_neS, p_addI, p_subI, p_negI, p_lenL, p_lenT, p_intB, v_dat, l_tup, a_tup, p_isN, p_notN, set_feed1, set_feed2, p_pow9, p_pow12, p_pow18, e_iter, e_kIter_t, e_kIter_l, e_kIter_s, e_r1, e_zip, e_kZip, zip2_t, zip2_l, e_for, e_kFor, e_lc, e_try, e_kTry_ret, e_raise, e_kRaise, e_callL, ts_nil, ts_cons, e_kMtS, gYes, x_k2, x_k1, x_kc, x_kd, x_kN, x_kCall, x_kIf, x_kSIf, x_kAsg, x_kDrop, Bool.false_eq_true, Bool.not_true, Bool.not_false, tup_2, tup_3, tup_4, p_tup0, p_lst0, p_tup1, p_lst1, p_tup2, p_lst2, p_tup3, p_lst3, p_tup4, p_lst4, p_tup5, p_lst5, p_tup6, p_lst6, p_tup7, p_lst7, p_tup8, p_lst8, sl1L]
  rw [zip_pairs]
  exact are_loop ⟨trivial, trivial⟩ h hB
/-! ### runs drawn -/
noncomputable def sortP (ps : List P3) : List P3 := ps.mergeSort (fun p q => PySem.W.dataLe false id (pd p) (pd q))
theorem sortP_perm (ps : List P3) : (sortP ps).Perm ps := List.mergeSort_perm ps _
theorem sortD_pd (ps : List P3) : sortD (ps.map pd) = (sortP ps).map pd := by
  unfold sortD sortP
  exact (List.map_mergeSort (f := pd) (r := fun p q => PySem.W.dataLe false id (pd p) (pd q)) (s := PySem.W.dataLe false id) fun _ _ _ _ => rfl).symm
theorem sort_ok {ps : List P3} (h : ∀ p ∈ ps, Gp p) (hl : ps.length ≤ 1000) : SortOk (ps.map pd) := by
  refine ⟨fun d m d' m' => ?_, .inl fun d m => ?_, by rw [List.length_map]; exact sz_small hl, fun d m => ?_⟩
  · obtain ⟨p, hp, rfl⟩ := List.mem_map.mp m
    obtain ⟨q, hq, rfl⟩ := List.mem_map.mp m'
    rfl
  · obtain ⟨p, hp, rfl⟩ := List.mem_map.mp m
    exact ⟨_, _, rfl⟩
  · obtain ⟨p, hp, rfl⟩ := List.mem_map.mp m
    exact Nat.le_trans (pd_sm (h p hp)).dep (by decide)
theorem p_sorted {ps : List P3} {B : Bs} (h : ∀ p ∈ ps, Gp p) (hl : ps.length ≤ 1000) : pSorted [.dat (.list (ps.map pd))] B = some (.dat (.list ((sortP ps).map pd)), B) := by
  show sortedS B (.dat (.list (ps.map pd))) = _
  unfold sortedS
  rw [l_dat, Option.bind_some, datsOf_map, Option.bind_some, if_pos (sort_ok h hl), sortD_pd]
theorem cutm1 {α : Type} (xs : List α) : cutL xs (some (-1)) none = xs.drop (xs.length - 1) := by
  unfold cutL
  have e1 : HT.sIx xs.length 0 (some (-1)) = xs.length - 1 := by
    unfold HT.sIx
    simp
    omega
  have e2 : HT.sIx xs.length xs.length none = xs.length := rfl
  rw [e1, e2]
  rw [List.take_of_length_le (by rw [List.length_drop]; exact Nat.le_refl _)]
theorem chain_snoc : ∀ {l : List P3} {p : P3}, chain l = true → chain (l.drop (l.length - 1) ++ [p]) = true → chain (l ++ [p]) = true
  | [], _, _, h => h
  | [x], _, _, h => h
  | x :: y :: r, p, h, h2 => by
    have h : (goes x y && chain (y :: r)) = true := h
    obtain ⟨h3, h4⟩ := Bool.and_eq_true_iff.mp h
    show (goes x y && chain (y :: r ++ [p])) = true
    rw [h3, Bool.true_and]
    exact chain_snoc h4 h2
section
variable {B0 : Bs} {o : Option MO} {ss : List S}
theorem l_own : asL (o :: (B0 ++ [some (.lst ss)])) (.ref (B0.length + 1)) = some ss := l_end (B := o :: B0)
theorem app_own {z : S} (h : ss.length ≤ 1000) : pAppend [.ref (B0.length + 1), z] (o :: (B0 ++ [some (.lst ss)])) = some (.dat .none, o :: (B0 ++ [some (.lst (ss ++ [z]))])) := app_end (B := o :: B0) h
theorem lstA_own : pLstA [] (o :: B0) = some (.ref (B0.length + 1), o :: (B0 ++ [some (.lst [])])) := p_lstA0 (B := o :: B0)
theorem len_own : pLen [.ref (B0.length + 1)] (o :: (B0 ++ [some (.lst ss)])) = some (.dat (.int ss.length), o :: (B0 ++ [some (.lst ss)])) := by
  show (lenS (o :: (B0 ++ [some (.lst ss)])) (.ref (B0.length + 1))).bind (fun n => int' (n : Int) _) = _
  unfold lenS
  rw [l_own]
  rfl
theorem tup_own {ds : List PyData} : pTupleOf [.ref (B0.length + 1)] (o :: (B0 ++ [some (.lst (ds.map .dat))])) = some (.dat (.tuple ds), o :: (B0 ++ [some (.lst (ds.map .dat))])) := by
  show (asL (o :: (B0 ++ [some (.lst (ds.map S.dat))])) (.ref (B0.length + 1))).bind (fun ss => (datsOf ss).map fun ds => (S.dat (.tuple ds), _)) = _
  rw [l_own, Option.bind_some, datsOf_map]
  rfl
theorem slm_own {ds : List PyData} : pSl [.ref (B0.length + 1), .dat (.int (-1)), .dat .none] (o :: (B0 ++ [some (.lst (ds.map .dat))])) = some (.dat (.list (ds.drop (ds.length - 1))), o :: (B0 ++ [some (.lst (ds.map .dat))])) := by
  rw [p_sl (lo := some (-1)) (hi := none) rfl rfl]
  show (asL (o :: (B0 ++ [some (.lst (ds.map S.dat))])) (.ref (B0.length + 1))).bind (fun ss => (datsOf (cutL ss (some (-1)) none)).map fun ds => (S.dat (.list ds), _)) = _
  rw [l_own, Option.bind_some, cutm1, ← List.map_drop, List.length_map, datsOf_map]
  rfl
end
end Lw

set_option maxRecDepth 100000
set_option maxHeartbeats 4000000
namespace Lw
open PySem L2 PN
theorem runs_ok (c : List Int) : Draws (c.map .int) 242 (fun d => ∃ ps, d = .tuple (ps.map pd) ∧ (∀ p ∈ ps, Gp p) ∧ chain ps = true ∧ ps.length ≤ 24) (fun B => m__law_runs [.ref 0] B) := by
  intro a r B0 ha hr hB
  have hB1 : Flat (B0 ++ [some (.lst [])]) := hB.app (Flat.nil.cons (flat_str []))
  obtain ⟨_, a1, r1, e1, g1, k1, i1, rfl, l1, u1⟩ := draw_ok c 6 (by decide) (by decide) a r _ (by omega) hr hB1
  obtain ⟨_, a2, r2, e2, g2, k2, i2, rfl, l2, u2⟩ := draw_ok c 6 (by decide) (by decide) a1 r1 _ (by omega) k1 hB1
  dsimp only at e1 e2
  -- how many
  obtain ⟨n, n0, n40, en⟩ : ∃ n : Int, 0 ≤ n ∧ n ≤ 40 ∧ atI [S.dat (.int i1), S.dat (.int 40)] (if decide (i2 = 0) = true then 1 else 0) = some (.dat (.int n)) := by
    by_cases q : i2 = 0
    · exact ⟨40, by decide, by decide, by rw [decide_eq_true q]; rfl⟩
    · exact ⟨i1, l1, by omega, by rw [decide_eq_false q]; rfl⟩
  unfold m__law_runs
  simp -implicitDefEqProofs only [e_P2, e_k2, e_k1, e_P1, e_k0, e_lift, e_C, gVar, e_nil, e_cons, e_kc, e_kd, e_PN, e_kN, e_call, e_kCall, e_if, e_kIf_t, e_kIf_f, e_and, e_kAnd_t, e_kAnd_f, e_or, e_kOr_t, e_kOr_f, e_not, e_kNot, e_seq, e_kS_nx, e_kS_ret, e_kS_brk, e_kS_ct, e_kS_exc, e_pass, e_brk, e_ct, e_sif, e_kSIf_t, e_kSIf_f, e_asg, e_kAsg, e_kO, e_name, e_ret, e_kRet, e_kRet_x, e_drop, e_kDrop, e_set, e_kSet, e_kSet2, e_kSet3, e_kSet4, e_fn, e_kFn_ret, e_kFn_nx, e_kFn_exc, e_fnK, e_kFnK_ret, e_mt, e_kMt2, e_isi, e_kIs, e_kI, e_chain, e_kCh, e_kCh2, e_kCh3_t, e_kCh3_f, e_shut, e_kSh, e_sl, e_kSl, e_kSl2n, e_kSl2i, e_kSl3, e_part, e_kPart, List.map_cons, List.map_nil, List.length_cons, List.length_nil, List.replicate, List.cons_append, List.nil_append, List.getElem?_cons_zero, List.getElem?_cons_succ, List.set_cons_zero, List.set_cons_succ, Nat.reduceSub, Nat.reduceAdd, Nat.zero_add, if_true, if_false, reduceIte, p_ix, itemS, l_dat, l_scr, l_ref0, atI_0, atI_1, atI_2, atI_3, Option.map_some, Option.bind_some, p_gtI, p_ltI, p_geI, p_leI, p_ltS, p_eqI, p_neI, p_eqS, p_neS, p_addI, p_subI, p_negI, p_lenL, p_lenT, p_intB, v_dat, l_tup, a_tup, p_isN, p_notN, set_feed1, set_feed2, p_pow9, p_pow12, p_pow18, e_iter, e_kIter_t, e_kIter_l, e_kIter_s, e_r1, e_zip, e_kZip, zip2_t, zip2_l, e_for, e_kFor, e_lc, e_try, e_kTry_ret, e_raise, e_kRaise, e_callL, ts_nil, ts_cons, e_kMtS, gYes, x_k2, x_k1, x_kc, x_kd, x_kN, x_kCall, x_kIf, x_kSIf, x_kAsg, x_kDrop, Bool.false_eq_true, Bool.not_true, Bool.not_false, tup_2, tup_3, tup_4, p_tup0, p_lst0, p_tup1, p_lst1, p_tup2, p_lst2, p_tup3, p_lst3, p_tup4, p_lst4, p_tup5, p_lst5, p_tup6, p_lst6, p_tup7, p_lst7, p_tup8, p_lst8]
  unfold b__law_runs
  simp -implicitDefEqProofs only [e_P2, e_k2, e_k1, e_P1, e_k0, e_lift, e_C, gVar, e_nil, e_cons, e_kc, e_kd, e_PN, e_kN, e_call, e_kCall, e_if, e_kIf_t, e_kIf_f, e_and, e_kAnd_t, e_kAnd_f, e_or, e_kOr_t, e_kOr_f, e_not, e_kNot, e_seq, e_kS_nx, e_kS_ret, e_kS_brk, e_kS_ct, e_kS_exc, e_pass, e_brk, e_ct, e_sif, e_kSIf_t, e_kSIf_f, e_asg, e_kAsg, e_kO, e_name, e_ret, e_kRet, e_kRet_x, e_drop, e_kDrop, e_set, e_kSet, e_kSet2, e_kSet3, e_kSet4, e_fn, e_kFn_ret, e_kFn_nx, e_kFn_exc, e_fnK, e_kFnK_ret, e_mt, e_kMt2, e_isi, e_kIs, e_kI, e_chain, e_kCh, e_kCh2, e_kCh3_t, e_kCh3_f, e_shut, e_kSh, e_sl, e_kSl, e_kSl2n, e_kSl2i, e_kSl3, e_part, e_kPart, List.map_cons, List.map_nil, List.length_cons, List.length_nil, List.replicate, List.cons_append, List.nil_append, List.getElem?_cons_zero, List.getElem?_cons_succ, List.set_cons_zero, List.set_cons_succ, Nat.reduceSub, Nat.reduceAdd, Nat.zero_add, if_true, if_false, reduceIte, p_ix, itemS, l_dat, l_scr, l_ref0, atI_0, atI_1, atI_2, atI_3, Option.map_some, Option.bind_some, p_gtI, p_ltI, p_geI, p_leI, p_ltS, p_eqI, p_neI, p_eqS, p_neS, p_addI, p_subI, p_negI, p_lenL, p_lenT, p_intB, v_dat, l_tup, a_tup, p_isN, p_notN, set_feed1, set_feed2, p_pow9, p_pow12, p_pow18, e_iter, e_kIter_t, e_kIter_l, e_kIter_s, e_r1, e_zip, e_kZip, zip2_t, zip2_l, e_for, e_kFor, e_lc, e_try, e_kTry_ret, e_raise, e_kRaise, e_callL, ts_nil, ts_cons, e_kMtS, gYes, x_k2, x_k1, x_kc, x_kd, x_kN, x_kCall, x_kIf, x_kSIf, x_kAsg, x_kDrop, Bool.false_eq_true, Bool.not_true, Bool.not_false, tup_2, tup_3, tup_4, p_tup0, p_lst0, p_tup1, p_lst1, p_tup2, p_lst2, p_tup3, p_lst3, p_tup4, p_lst4, p_tup5, p_lst5, p_tup6, p_lst6, p_tup7, p_lst7, p_tup8, p_lst8, lstA_own, e1, e2, en, e_kR1 n0 (show n ≤ 1000000 by omega)]
  rw [e_kLc (by rw [show (intsUp 0 n.toNat).length = n.toNat from by unfold intsUp; simp]; omega)]
  have hlen : (intsUp 0 n.toNat).length = n.toNat := by unfold intsUp; simp
  obtain ⟨ds, a3, r3, e3, len3, P3', g3, k3⟩ := lc_draws (c := c.map .int) (D := 6) (P := fun d => ∃ p, Gp p ∧ d = pd p) (t := tName 3) (gt := gYes) (ge := gCall 1 m__law_piece (PN.gCons (gVar 0) PN.gNil)) (r := wipeE [some (S.ref 0), some (S.ref (B0.length + 1)), none, none] [3]) (chk := fun _ => True) (fun _ => trivial) (intsUp 0 n.toNat) [] a2 r2 (B0 ++ [some (.lst [])])
    (fun x hx => ⟨[some (S.ref 0), some (S.ref (B0.length + 1)), none, some x], rfl, fun _ => rfl, fun a r B0 ha hr hB => by
      obtain ⟨d, a', r', e, q⟩ := piece_ok c a r B0 ha hr hB
      exact ⟨d, a', r', by simp -implicitDefEqProofs only [e_P2, e_k2, e_k1, e_P1, e_k0, e_lift, e_C, gVar, e_nil, e_cons, e_kc, e_kd, e_PN, e_kN, e_call, e_kCall, e_if, e_kIf_t, e_kIf_f, e_and, e_kAnd_t, e_kAnd_f, e_or, e_kOr_t, e_kOr_f, e_not, e_kNot, e_seq, e_kS_nx, e_kS_ret, e_kS_brk, e_kS_ct, e_kS_exc, e_pass, e_brk, e_ct, e_sif, e_kSIf_t, e_kSIf_f, e_asg, e_kAsg, e_kO, e_name, e_ret, e_kRet, e_kRet_x, e_drop, e_kDrop, e_set, e_kSet, e_kSet2, e_kSet3, e_kSet4, e_fn, e_kFn_ret, e_kFn_nx, e_kFn_exc, e_fnK, e_kFnK_ret, e_mt, e_kMt2, e_isi, e_kIs, e_kI, e_chain, e_kCh, e_kCh2, e_kCh3_t, e_kCh3_f, e_shut, e_kSh, e_sl, e_kSl, e_kSl2n, e_kSl2i, e_kSl3, e_part, e_kPart, List.map_cons, List.map_nil, List.length_cons, List.length_nil, List.replicate, List.cons_append, List.nil_append, List.getElem?_cons_zero, List.getElem?_cons_succ, List.set_cons_zero, List.set_cons_succ, Nat.reduceSub, Nat.reduceAdd, Nat.zero_add, if_true, if_false, reduceIte, p_ix, itemS, l_dat, l_scr, l_ref0, atI_0, atI_1, atI_2, atI_3, Option.map_some, Option.bind_some, p_gtI, p_ltI, p_geI, p_leI, p_ltS, p_eqI, p_neI, p_eqS, p_neS, p_addI, p_subI, p_negI, p_lenL, p_lenT, p_intB, v_dat, l_tup, a_tup, p_isN, p_notN, set_feed1, set_feed2, p_pow9, p_pow12, p_pow18, e_iter, e_kIter_t, e_kIter_l, e_kIter_s, e_r1, e_zip, e_kZip, zip2_t, zip2_l, e_for, e_kFor, e_lc, e_try, e_kTry_ret, e_raise, e_kRaise, e_callL, ts_nil, ts_cons, e_kMtS, gYes, x_k2, x_k1, x_kc, x_kd, x_kN, x_kCall, x_kIf, x_kSIf, x_kAsg, x_kDrop, Bool.false_eq_true, Bool.not_true, Bool.not_false, tup_2, tup_3, tup_4, p_tup0, p_lst0, p_tup1, p_lst1, p_tup2, p_lst2, p_tup3, p_lst3, p_tup4, p_lst4, p_tup5, p_lst5, p_tup6, p_lst6, p_tup7, p_lst7, p_tup8, p_lst8]; exact e, q⟩⟩) (by rw [hlen]; omega) k2 hB1
  rw [hlen] at g3 len3
  obtain ⟨ps, rfl, hps⟩ : ∃ ps : List P3, ds = ps.map pd ∧ ∀ p ∈ ps, Gp p := by
    clear e3 len3
    induction ds with
    | nil => exact ⟨[], rfl, fun p m => absurd m (by simp)⟩
    | cons d ds ih =>
      obtain ⟨p, hp, rfl⟩ := P3' d List.mem_cons_self
      obtain ⟨ps, rfl, h⟩ := ih fun d m => P3' d (List.mem_cons_of_mem _ m)
      exact ⟨p :: ps, rfl, fun q m => by
        rcases List.mem_cons.mp m with rfl | m
        · exact hp
        · exact h q m⟩
  rw [List.length_map] at len3
  have hl : ps.length ≤ 1000 := by omega
  rw [List.map_nil, List.nil_append] at e3
  rw [e3]
  simp -implicitDefEqProofs only [e_P2, e_k2, e_k1, e_P1, e_k0, e_lift, e_C, gVar, e_nil, e_cons, e_kc, e_kd, e_PN, e_kN, e_call, e_kCall, e_if, e_kIf_t, e_kIf_f, e_and, e_kAnd_t, e_kAnd_f, e_or, e_kOr_t, e_kOr_f, e_not, e_kNot, e_seq, e_kS_nx, e_kS_ret, e_kS_brk, e_kS_ct, e_kS_exc, e_pass, e_brk, e_ct, e_sif, e_kSIf_t, e_kSIf_f, e_asg, e_kAsg, e_kO, e_name, e_ret, e_kRet, e_kRet_x, e_drop, e_kDrop, e_set, e_kSet, e_kSet2, e_kSet3, e_kSet4, e_fn, e_kFn_ret, e_kFn_nx, e_kFn_exc, e_fnK, e_kFnK_ret, e_mt, e_kMt2, e_isi, e_kIs, e_kI, e_chain, e_kCh, e_kCh2, e_kCh3_t, e_kCh3_f, e_shut, e_kSh, e_sl, e_kSl, e_kSl2n, e_kSl2i, e_kSl3, e_part, e_kPart, List.map_cons, List.map_nil, List.length_cons, List.length_nil, List.replicate, List.cons_append, List.nil_append, List.getElem?_cons_zero, List.getElem?_cons_succ, List.set_cons_zero, List.set_cons_succ, Nat.reduceSub, Nat.reduceAdd, Nat.zero_add, if_true, if_false, reduceIte, p_ix, itemS, l_dat, l_scr, l_ref0, atI_0, atI_1, atI_2, atI_3, Option.map_some, Option.bind_some, p_gtI, p_ltI, p_geI, p_leI, p_ltS, p_eqI, p_neI, p_eqS, p_neS, p_addI, p_subI, p_negI, p_lenL, p_lenT, p_intB, v_dat, l_tup, a_tup, p_isN, p_notN, set_feed1, set_feed2, p_pow9, p_pow12, p_pow18, e_iter, e_kIter_t, e_kIter_l, e_kIter_s, e_r1, e_zip, e_kZip, zip2_t, zip2_l, e_for, e_kFor, e_lc, e_try, e_kTry_ret, e_raise, e_kRaise, e_callL, ts_nil, ts_cons, e_kMtS, gYes, x_k2, x_k1, x_kc, x_kd, x_kN, x_kCall, x_kIf, x_kSIf, x_kAsg, x_kDrop, Bool.false_eq_true, Bool.not_true, Bool.not_false, tup_2, tup_3, tup_4, p_tup0, p_lst0, p_tup1, p_lst1, p_tup2, p_lst2, p_tup3, p_lst3, p_tup4, p_lst4, p_tup5, p_lst5, p_tup6, p_lst6, p_tup7, p_lst7, p_tup8, p_lst8]
  rw [p_lst (by rw [List.length_map]; exact sz_small hl)]
  simp -implicitDefEqProofs only [e_P2, e_k2, e_k1, e_P1, e_k0, e_lift, e_C, gVar, e_nil, e_cons, e_kc, e_kd, e_PN, e_kN, e_call, e_kCall, e_if, e_kIf_t, e_kIf_f, e_and, e_kAnd_t, e_kAnd_f, e_or, e_kOr_t, e_kOr_f, e_not, e_kNot, e_seq, e_kS_nx, e_kS_ret, e_kS_brk, e_kS_ct, e_kS_exc, e_pass, e_brk, e_ct, e_sif, e_kSIf_t, e_kSIf_f, e_asg, e_kAsg, e_kO, e_name, e_ret, e_kRet, e_kRet_x, e_drop, e_kDrop, e_set, e_kSet, e_kSet2, e_kSet3, e_kSet4, e_fn, e_kFn_ret, e_kFn_nx, e_kFn_exc, e_fnK, e_kFnK_ret, e_mt, e_kMt2, e_isi, e_kIs, e_kI, e_chain, e_kCh, e_kCh2, e_kCh3_t, e_kCh3_f, e_shut, e_kSh, e_sl, e_kSl, e_kSl2n, e_kSl2i, e_kSl3, e_part, e_kPart, List.map_cons, List.map_nil, List.length_cons, List.length_nil, List.replicate, List.cons_append, List.nil_append, List.getElem?_cons_zero, List.getElem?_cons_succ, List.set_cons_zero, List.set_cons_succ, Nat.reduceSub, Nat.reduceAdd, Nat.zero_add, if_true, if_false, reduceIte, p_ix, itemS, l_dat, l_scr, l_ref0, atI_0, atI_1, atI_2, atI_3, Option.map_some, Option.bind_some, p_gtI, p_ltI, p_geI, p_leI, p_ltS, p_eqI, p_neI, p_eqS, p_neS, p_addI, p_subI, p_negI, p_lenL, p_lenT, p_intB, v_dat, l_tup, a_tup, p_isN, p_notN, set_feed1, set_feed2, p_pow9, p_pow12, p_pow18, e_iter, e_kIter_t, e_kIter_l, e_kIter_s, e_r1, e_zip, e_kZip, zip2_t, zip2_l, e_for, e_kFor, e_lc, e_try, e_kTry_ret, e_raise, e_kRaise, e_callL, ts_nil, ts_cons, e_kMtS, gYes, x_k2, x_k1, x_kc, x_kd, x_kN, x_kCall, x_kIf, x_kSIf, x_kAsg, x_kDrop, Bool.false_eq_true, Bool.not_true, Bool.not_false, tup_2, tup_3, tup_4, p_tup0, p_lst0, p_tup1, p_lst1, p_tup2, p_lst2, p_tup3, p_lst3, p_tup4, p_lst4, p_tup5, p_lst5, p_tup6, p_lst6, p_tup7, p_lst7, p_tup8, p_lst8, p_sorted hps hl]
  rw [List.map_map]
  have hsp : ∀ p ∈ sortP ps, Gp p := fun p m => hps p ((sortP_perm ps).mem_iff.mp m)
  refine for_go (R := fun x => ∃ d a' r', Ev.kFn (Ev.kS x (sRet (gPN pTupleOf (PN.gCons (gVar 1) PN.gNil)))) (B0.length + 1) = Re.ok (S.dat d) (fcell (c.map .int) a' r' :: B0) ∧ a' ≤ a + 242 ∧ 0 ≤ r' ∧ ∃ ps, d = PyData.tuple (List.map pd ps) ∧ (∀ p ∈ ps, Gp p) ∧ chain ps = true ∧ ps.length ≤ 24) (fun (l : List P3) (r : En) (B' : Bs) => ∃ (found : List P3) (x2 x3 : Option S), r = [some (.ref 0), some (.ref (B0.length + 1)), x2, x3] ∧ B' = fcell (c.map .int) a3 r3 :: (B0 ++ [some (.lst ((found.map pd).map .dat))]) ∧ (∀ p ∈ found, Gp p) ∧ chain found = true ∧ found.length ≤ 24) (sortP ps) (fun _ _ _ _ => trivial) ?_ (fun l p rest eps r' B' I => ?_) (fun r' B' I => ?_)
  · exact ⟨[], none, none, rfl, rfl, fun p m => absurd m (by simp), rfl, by decide⟩
  · obtain ⟨found, x2, x3, rfl, rfl, f1, f2, f3⟩ := I
    have g : Gp p := hsp p (by rw [eps]; exact List.mem_append_right _ List.mem_cons_self)
    have hF : ∀ xs : List P3, Flat (fcell (c.map .int) a3 r3 :: (B0 ++ [some (.lst ((xs.map pd).map .dat))])) := fun xs => flat_feed (hB.app (Flat.nil.cons (flat_lst _)))
    refine ⟨[some (.ref 0), some (.ref (B0.length + 1)), some (.dat (pd p)), x3], rfl, ?_⟩
    have hd1 : ∀ q ∈ found.drop (found.length - 1) ++ [p], Gp q := fun q m => by
      rcases List.mem_append.mp m with m | m
      · exact f1 q (List.mem_of_mem_drop m)
      · rw [List.mem_singleton.mp m]; exact g
    have add : ∀ B, pAdd [S.dat (.list ((found.map pd).drop (found.length - 1))), S.dat (.list [pd p])] B = some (.dat (.list ((found.drop (found.length - 1) ++ [p]).map pd)), B) := fun B => by
      rw [p_addL (by rw [List.length_drop, List.length_map]; exact sz_small (by simp; omega)), ← List.map_drop, List.map_append]
      rfl
    have are := are_runsL (B := fcell (c.map .int) a3 r3 :: (B0 ++ [some (.lst ((found.map pd).map .dat))])) hd1 (hF found)
    by_cases q1 : found.length < 24
    · cases q2 : chain (found.drop (found.length - 1) ++ [p]) with
      | true =>
        have f4 := chain_snoc f2 q2
        refine ⟨[some (.ref 0), some (.ref (B0.length + 1)), some (.dat (pd p)), x3], fcell (c.map .int) a3 r3 :: (B0 ++ [some (.lst (((found ++ [p]).map pd).map .dat))]), .inl ?_, found ++ [p], _, _, rfl, rfl, fun q m => ?_, f4, by rw [List.length_append]; exact q1⟩
        · have app := app_own (B0 := B0) (o := fcell (c.map .int) a3 r3) (ss := (found.map pd).map .dat) (z := .dat (pd p)) (by rw [List.length_map, List.length_map]; omega)
          rw [show (found.map pd).map S.dat ++ [S.dat (pd p)] = ((found ++ [p]).map pd).map .dat by rw [List.map_append, List.map_append]; rfl] at app
          simp -implicitDefEqProofs only [e_P2, e_k2, e_k1, e_P1, e_k0, e_lift, e_C, gVar, e_nil, e_cons, e_kc, e_kd, e_PN, e_kN, e_call, e_kCall, e_if, e_kIf_t, e_kIf_f, e_and, e_kAnd_t, e_kAnd_f, e_or, e_kOr_t, e_kOr_f, e_not, e_kNot, e_seq, e_kS_nx, e_kS_ret, e_kS_brk, e_kS_ct, e_kS_exc, e_pass, e_brk, e_ct, e_sif, e_kSIf_t, e_kSIf_f, e_asg, e_kAsg, e_kO, e_name, e_ret, e_kRet, e_kRet_x, e_drop, e_kDrop, e_set, e_kSet, e_kSet2, e_kSet3, e_kSet4, e_fn, e_kFn_ret, e_kFn_nx, e_kFn_exc, e_fnK, e_kFnK_ret, e_mt, e_kMt2, e_isi, e_kIs, e_kI, e_chain, e_kCh, e_kCh2, e_kCh3_t, e_kCh3_f, e_shut, e_kSh, e_sl, e_kSl, e_kSl2n, e_kSl2i, e_kSl3, e_part, e_kPart, List.map_cons, List.map_nil, List.length_cons, List.length_nil, List.replicate, List.cons_append, List.nil_append, List.getElem?_cons_zero, List.getElem?_cons_succ, List.set_cons_zero, List.set_cons_succ, Nat.reduceSub, Nat.reduceAdd, Nat.zero_add, if_true, if_false, reduceIte, p_ix, itemS, l_dat, l_scr, l_ref0, atI_0, atI_1, atI_2, atI_3, Option.map_some, Option.bind_some, p_gtI, p_ltI, p_geI, p_leI, p_ltS, p_eqI, p_neI, p_eqS, p_neS, p_addI, p_subI, p_negI, p_lenL, p_lenT, p_intB, v_dat, l_tup, a_tup, p_isN, p_notN, set_feed1, set_feed2, p_pow9, p_pow12, p_pow18, e_iter, e_kIter_t, e_kIter_l, e_kIter_s, e_r1, e_zip, e_kZip, zip2_t, zip2_l, e_for, e_kFor, e_lc, e_try, e_kTry_ret, e_raise, e_kRaise, e_callL, ts_nil, ts_cons, e_kMtS, gYes, x_k2, x_k1, x_kc, x_kd, x_kN, x_kCall, x_kIf, x_kSIf, x_kAsg, x_kDrop, Bool.false_eq_true, Bool.not_true, Bool.not_false, tup_2, tup_3, tup_4, p_tup0, p_lst0, p_tup1, p_lst1, p_tup2, p_lst2, p_tup3, p_lst3, p_tup4, p_lst4, p_tup5, p_lst5, p_tup6, p_lst6, p_tup7, p_lst7, p_tup8, p_lst8, len_own, slm_own, add, are, q2, e_kMtL l_own, app, List.length_map, decide_eq_true (show ((found.length : Nat) : Int) < 24 by omega)]
        · rcases List.mem_append.mp m with m | m
          · exact f1 q m
          · rw [List.mem_singleton.mp m]; exact g
      | false =>
        refine ⟨[some (.ref 0), some (.ref (B0.length + 1)), some (.dat (pd p)), x3], _, .inl ?_, found, _, _, rfl, rfl, f1, f2, f3⟩
        simp -implicitDefEqProofs only [e_P2, e_k2, e_k1, e_P1, e_k0, e_lift, e_C, gVar, e_nil, e_cons, e_kc, e_kd, e_PN, e_kN, e_call, e_kCall, e_if, e_kIf_t, e_kIf_f, e_and, e_kAnd_t, e_kAnd_f, e_or, e_kOr_t, e_kOr_f, e_not, e_kNot, e_seq, e_kS_nx, e_kS_ret, e_kS_brk, e_kS_ct, e_kS_exc, e_pass, e_brk, e_ct, e_sif, e_kSIf_t, e_kSIf_f, e_asg, e_kAsg, e_kO, e_name, e_ret, e_kRet, e_kRet_x, e_drop, e_kDrop, e_set, e_kSet, e_kSet2, e_kSet3, e_kSet4, e_fn, e_kFn_ret, e_kFn_nx, e_kFn_exc, e_fnK, e_kFnK_ret, e_mt, e_kMt2, e_isi, e_kIs, e_kI, e_chain, e_kCh, e_kCh2, e_kCh3_t, e_kCh3_f, e_shut, e_kSh, e_sl, e_kSl, e_kSl2n, e_kSl2i, e_kSl3, e_part, e_kPart, List.map_cons, List.map_nil, List.length_cons, List.length_nil, List.replicate, List.cons_append, List.nil_append, List.getElem?_cons_zero, List.getElem?_cons_succ, List.set_cons_zero, List.set_cons_succ, Nat.reduceSub, Nat.reduceAdd, Nat.zero_add, if_true, if_false, reduceIte, p_ix, itemS, l_dat, l_scr, l_ref0, atI_0, atI_1, atI_2, atI_3, Option.map_some, Option.bind_some, p_gtI, p_ltI, p_geI, p_leI, p_ltS, p_eqI, p_neI, p_eqS, p_neS, p_addI, p_subI, p_negI, p_lenL, p_lenT, p_intB, v_dat, l_tup, a_tup, p_isN, p_notN, set_feed1, set_feed2, p_pow9, p_pow12, p_pow18, e_iter, e_kIter_t, e_kIter_l, e_kIter_s, e_r1, e_zip, e_kZip, zip2_t, zip2_l, e_for, e_kFor, e_lc, e_try, e_kTry_ret, e_raise, e_kRaise, e_callL, ts_nil, ts_cons, e_kMtS, gYes, x_k2, x_k1, x_kc, x_kd, x_kN, x_kCall, x_kIf, x_kSIf, x_kAsg, x_kDrop, Bool.false_eq_true, Bool.not_true, Bool.not_false, tup_2, tup_3, tup_4, p_tup0, p_lst0, p_tup1, p_lst1, p_tup2, p_lst2, p_tup3, p_lst3, p_tup4, p_lst4, p_tup5, p_lst5, p_tup6, p_lst6, p_tup7, p_lst7, p_tup8, p_lst8, len_own, slm_own, add, are, q2, List.length_map, decide_eq_true (show ((found.length : Nat) : Int) < 24 by omega)]
    · refine ⟨[some (.ref 0), some (.ref (B0.length + 1)), some (.dat (pd p)), x3], _, .inl ?_, found, _, _, rfl, rfl, f1, f2, f3⟩
      simp -implicitDefEqProofs only [e_P2, e_k2, e_k1, e_P1, e_k0, e_lift, e_C, gVar, e_nil, e_cons, e_kc, e_kd, e_PN, e_kN, e_call, e_kCall, e_if, e_kIf_t, e_kIf_f, e_and, e_kAnd_t, e_kAnd_f, e_or, e_kOr_t, e_kOr_f, e_not, e_kNot, e_seq, e_kS_nx, e_kS_ret, e_kS_brk, e_kS_ct, e_kS_exc, e_pass, e_brk, e_ct, e_sif, e_kSIf_t, e_kSIf_f, e_asg, e_kAsg, e_kO, e_name, e_ret, e_kRet, e_kRet_x, e_drop, e_kDrop, e_set, e_kSet, e_kSet2, e_kSet3, e_kSet4, e_fn, e_kFn_ret, e_kFn_nx, e_kFn_exc, e_fnK, e_kFnK_ret, e_mt, e_kMt2, e_isi, e_kIs, e_kI, e_chain, e_kCh, e_kCh2, e_kCh3_t, e_kCh3_f, e_shut, e_kSh, e_sl, e_kSl, e_kSl2n, e_kSl2i, e_kSl3, e_part, e_kPart, List.map_cons, List.map_nil, List.length_cons, List.length_nil, List.replicate, List.cons_append, List.nil_append, List.getElem?_cons_zero, List.getElem?_cons_succ, List.set_cons_zero, List.set_cons_succ, Nat.reduceSub, Nat.reduceAdd, Nat.zero_add, if_true, if_false, reduceIte, p_ix, itemS, l_dat, l_scr, l_ref0, atI_0, atI_1, atI_2, atI_3, Option.map_some, Option.bind_some, p_gtI, p_ltI, p_geI, p_leI, p_ltS, p_eqI, p_neI, p_eqS, p_neS, p_addI, p_subI, p_negI, p_lenL, p_lenT, p_intB, v_dat, l_tup, a_tup, p_isN, p_notN, set_feed1, set_feed2, p_pow9, p_pow12, p_pow18, e_iter, e_kIter_t, e_kIter_l, e_kIter_s, e_r1, e_zip, e_kZip, zip2_t, zip2_l, e_for, e_kFor, e_lc, e_try, e_kTry_ret, e_raise, e_kRaise, e_callL, ts_nil, ts_cons, e_kMtS, gYes, x_k2, x_k1, x_kc, x_kd, x_kN, x_kCall, x_kIf, x_kSIf, x_kAsg, x_kDrop, Bool.false_eq_true, Bool.not_true, Bool.not_false, tup_2, tup_3, tup_4, p_tup0, p_lst0, p_tup1, p_lst1, p_tup2, p_lst2, p_tup3, p_lst3, p_tup4, p_lst4, p_tup5, p_lst5, p_tup6, p_lst6, p_tup7, p_lst7, p_tup8, p_lst8, len_own, List.length_map, decide_eq_false (show ¬ ((found.length : Nat) : Int) < 24 by omega)]
  · obtain ⟨found, x2, x3, rfl, rfl, f1, f2, f3⟩ := I
    simp -implicitDefEqProofs only [e_P2, e_k2, e_k1, e_P1, e_k0, e_lift, e_C, gVar, e_nil, e_cons, e_kc, e_kd, e_PN, e_kN, e_call, e_kCall, e_if, e_kIf_t, e_kIf_f, e_and, e_kAnd_t, e_kAnd_f, e_or, e_kOr_t, e_kOr_f, e_not, e_kNot, e_seq, e_kS_nx, e_kS_ret, e_kS_brk, e_kS_ct, e_kS_exc, e_pass, e_brk, e_ct, e_sif, e_kSIf_t, e_kSIf_f, e_asg, e_kAsg, e_kO, e_name, e_ret, e_kRet, e_kRet_x, e_drop, e_kDrop, e_set, e_kSet, e_kSet2, e_kSet3, e_kSet4, e_fn, e_kFn_ret, e_kFn_nx, e_kFn_exc, e_fnK, e_kFnK_ret, e_mt, e_kMt2, e_isi, e_kIs, e_kI, e_chain, e_kCh, e_kCh2, e_kCh3_t, e_kCh3_f, e_shut, e_kSh, e_sl, e_kSl, e_kSl2n, e_kSl2i, e_kSl3, e_part, e_kPart, List.map_cons, List.map_nil, List.length_cons, List.length_nil, List.replicate, List.cons_append, List.nil_append, List.getElem?_cons_zero, List.getElem?_cons_succ, List.set_cons_zero, List.set_cons_succ, Nat.reduceSub, Nat.reduceAdd, Nat.zero_add, if_true, if_false, reduceIte, p_ix, itemS, l_dat, l_scr, l_ref0, atI_0, atI_1, atI_2, atI_3, Option.map_some, Option.bind_some, p_gtI, p_ltI, p_geI, p_leI, p_ltS, p_eqI, p_neI, p_eqS, p_neS, p_addI, p_subI, p_negI, p_lenL, p_lenT, p_intB, v_dat, l_tup, a_tup, p_isN, p_notN, set_feed1, set_feed2, p_pow9, p_pow12, p_pow18, e_iter, e_kIter_t, e_kIter_l, e_kIter_s, e_r1, e_zip, e_kZip, zip2_t, zip2_l, e_for, e_kFor, e_lc, e_try, e_kTry_ret, e_raise, e_kRaise, e_callL, ts_nil, ts_cons, e_kMtS, gYes, x_k2, x_k1, x_kc, x_kd, x_kN, x_kCall, x_kIf, x_kSIf, x_kAsg, x_kDrop, Bool.false_eq_true, Bool.not_true, Bool.not_false, tup_2, tup_3, tup_4, p_tup0, p_lst0, p_tup1, p_lst1, p_tup2, p_lst2, p_tup3, p_lst3, p_tup4, p_lst4, p_tup5, p_lst5, p_tup6, p_lst6, p_tup7, p_lst7, p_tup8, p_lst8, tup_own]
    exact ⟨_, a3, r3, end_feed2 hB (Flat.nil.cons (flat_lst _)) _, by omega, k3, found, rfl, f1, f2, f3⟩
end Lw

set_option maxRecDepth 100000
set_option maxHeartbeats 4000000
namespace Lw
open PySem L2 PN
/-! ### what is read of what is shown -/
def shownT (ps : List P3) : Str := if ps = [] then "-" else rowT ps
theorem mem_joinL {S : List Nat} {c : Nat} : ∀ {ps : List (List Nat)}, c ∈ TL.joinL S ps → c ∈ S ∨ ∃ p ∈ ps, c ∈ p
  | [], h => by simp [TL.joinL] at h
  | [p], h => .inr ⟨p, List.mem_cons_self, h⟩
  | p :: q :: r, h => by
    have h : c ∈ p ++ (S ++ TL.joinL S (q :: r)) := h
    rw [List.mem_append, List.mem_append] at h
    rcases h with h | h | h
    · exact .inr ⟨p, List.mem_cons_self, h⟩
    · exact .inl h
    · rcases mem_joinL h with h | ⟨x, hx, h⟩
      · exact .inl h
      · exact .inr ⟨x, List.mem_cons_of_mem _ hx, h⟩
theorem row_signs {ps : List P3} (h : ∀ p ∈ ps, Gp p) : ∀ c ∈ (rowT ps).cps.toList, 44 ≤ c ∧ c ≤ 122 := fun c m => by
  have m : c ∈ TL.tl (rowT ps) := m
  unfold rowT at m
  rw [TL.join_eq, TL.tl_join] at m
  rcases mem_joinL m with m | ⟨x, hx, m⟩
  · have m : c ∈ [44] := m
    rw [List.mem_singleton.mp m]
    omega
  · obtain ⟨y, hy, rfl⟩ := List.mem_map.mp hx
    obtain ⟨p, hp, rfl⟩ := List.mem_map.mp hy
    have := txt_signs (h p hp) c m
    omega
theorem shownT_signs {ps : List P3} (h : ∀ p ∈ ps, Gp p) : ∀ c ∈ (shownT ps).cps.toList, 44 ≤ c ∧ c ≤ 122 := fun c m => by
  unfold shownT at m
  split at m
  · have m : c ∈ [45] := m
    rw [List.mem_singleton.mp m]
    omega
  · exact row_signs h c m
theorem shownT_len {ps : List P3} (h : ∀ p ∈ ps, Gp p) (hl : ps.length ≤ 1000) : (shownT ps).length ≤ 60000 := by
  unfold shownT
  split
  · decide
  · exact row_len h hl
theorem tup_isNon (ds : List PyData) : isNon (.dat (.tuple ds)) = false := rfl
section
variable {ps : List P3} {B : Bs} (h : ∀ p ∈ ps, Gp p) (hl : ps.length ≤ 1000) (hB : Flat B)
include h hl hB
theorem rr_runs (hc : chain ps = true) : m_read_runs [.dat (.str (shownT ps))] B = .ok (.dat (.tuple (ps.map pd))) B := by
  have sp : 32 ∉ (shownT ps).cps.toList := fun m => by have := shownT_signs h 32 m; omega
  refine read_runs_eq (by have := shownT_len h hl; omega) (part_sp sp) (.tuple (ps.map pd)) ?_ (alone_told (tup_isNon _) sp hB) (.inl ⟨_, rfl⟩) hB
  unfold shownT
  by_cases e : ps = []
  · rw [if_pos e, e]
    exact runs_in_dash hB
  · rw [if_neg e, runs_in_ok h hl e hB, if_pos hc]
theorem rr_row (hne : ps ≠ []) : m_read_row_text [.dat (.str (rowT ps))] B = .ok (.dat (.tuple (ps.map pd))) B := by
  have sp : 32 ∉ (rowT ps).cps.toList := fun m => by have := row_signs h 32 m; omega
  exact read_row_eq (by have := row_len h hl; omega) (part_sp sp) (.tuple (ps.map pd)) (row_in_ok h hl hne hB) (alone_told (tup_isNon _) sp hB) (.inl ⟨_, rfl⟩) hB
theorem rr_cross (hne : ps ≠ []) : m_read_runs [.dat (.str (rowT ps))] B = if chain ps = true then .ok (.dat (.tuple (ps.map pd))) B else .exc "NoText" (noTx 0) B := by
  have sp : 32 ∉ (rowT ps).cps.toList := fun m => by have := row_signs h 32 m; omega
  have hr := runs_in_ok h hl hne hB
  cases e : chain ps with
  | true =>
    rw [e, if_pos rfl] at hr
    rw [if_pos rfl]
    exact read_runs_eq (by have := row_len h hl; omega) (part_sp sp) _ hr (alone_told (tup_isNon _) sp hB) (.inl ⟨_, rfl⟩) hB
  | false =>
    rw [e, if_neg Bool.false_ne_true] at hr
    rw [if_neg Bool.false_ne_true]
    exact read_runs_eq (by have := row_len h hl; omega) (part_sp sp) _ hr (alone_none hB) (.inr ⟨0, rfl⟩) hB
theorem rr_back : m_read_row_text [.dat (.str (shownT ps))] B = if ps = [] then .exc "NoText" (noTx 0) B else .ok (.dat (.tuple (ps.map pd))) B := by
  by_cases e : ps = []
  · rw [if_pos e]
    unfold shownT
    rw [if_pos e]
    exact read_row_eq (by decide) (part_sp (by decide +kernel)) _ (row_in_dash hB) (alone_none hB) (.inr ⟨0, rfl⟩) hB
  · rw [if_neg e]
    unfold shownT
    rw [if_neg e]
    exact rr_row h hl hB e
theorem sp_in (y : Str) : 32 ∈ (y ++ " ").cps.toList := by
  have : 32 ∈ TL.tl (y ++ " ") := by
    rw [TL.tl_append]
    exact List.mem_append_right _ (by decide +kernel)
  exact this
theorem rr_more : m_read_runs [.dat (.str (shownT ps ++ " "))] B = .exc "NoText" (noTx 1) B ∨ chain ps = false := by
  have sp : 32 ∉ (shownT ps).cps.toList := fun m => by have := shownT_signs h 32 m; omega
  cases hc : chain ps with
  | false => exact .inr rfl
  | true =>
    refine .inl (read_runs_eq (by rw [strLen_append]; have := shownT_len h hl; have e1 : ((" " : String) : Str).length = 1 := rfl; omega) (part_sp2 sp) (.tuple (ps.map pd)) ?_ (alone_more (tup_isNon _) (sp_in h hl hB _) hB) (.inr ⟨1, rfl⟩) hB)
    unfold shownT
    by_cases e : ps = []
    · rw [if_pos e, e]
      exact runs_in_dash hB
    · rw [if_neg e, runs_in_ok h hl e hB, if_pos hc]
theorem rr_row_more (hne : ps ≠ []) : m_read_row_text [.dat (.str (rowT ps ++ " "))] B = .exc "NoText" (noTx 1) B := by
  have sp : 32 ∉ (rowT ps).cps.toList := fun m => by have := row_signs h 32 m; omega
  exact read_row_eq (by rw [strLen_append]; have := row_len h hl; have e1 : ((" " : String) : Str).length = 1 := rfl; omega) (part_sp2 sp) (.tuple (ps.map pd)) (row_in_ok h hl hne hB) (alone_more (tup_isNon _) (sp_in h hl hB _) hB) (.inr ⟨1, rfl⟩) hB
theorem shown_runs_ok : m_shown_runs [.dat (.tuple (ps.map pd))] B = .ok (.dat (.str (shownT ps))) B := by
  unfold m_shown_runs
  simp -implicitDefEqProofs only [e_P2, e_k2, e_k1, e_P1, e_k0, e_lift, e_C, gVar, e_nil, e_cons, e_kc, e_kd, e_PN, e_kN, e_call, e_kCall, e_if, e_kIf_t, e_kIf_f, e_and, e_kAnd_t, e_kAnd_f, e_or, e_kOr_t, e_kOr_f, e_not, e_kNot, e_seq, e_kS_nx, e_kS_ret, e_kS_brk, e_kS_ct, e_kS_exc, e_pass, e_brk, e_ct, e_sif, e_kSIf_t, e_kSIf_f, e_asg, e_kAsg, e_kO, e_name, e_ret, e_kRet, e_kRet_x, e_drop, e_kDrop, e_set, e_kSet, e_kSet2, e_kSet3, e_kSet4, e_fn, e_kFn_ret, e_kFn_nx, e_kFn_exc, e_fnK, e_kFnK_ret, e_mt, e_kMt2, e_isi, e_kIs, e_kI, e_chain, e_kCh, e_kCh2, e_kCh3_t, e_kCh3_f, e_shut, e_kSh, e_sl, e_kSl, e_kSl2n, e_kSl2i, e_kSl3, e_part, e_kPart, List.map_cons, List.map_nil, List.length_cons, List.length_nil, List.replicate, List.cons_append, List.nil_append, List.getElem?_cons_zero, List.getElem?_cons_succ, List.set_cons_zero, List.set_cons_succ, Nat.reduceSub, Nat.reduceAdd, Nat.zero_add, if_true, if_false, reduceIte, p_ix, itemS, l_dat, l_scr, l_ref0, atI_0, atI_1, atI_2, atI_3, Option.map_some, Option.bind_some, p_gtI, p_ltI, p_geI, p_leI, p_ltS, p_eqI, p_neI, p_eqS, p_neS, p_addI, p_subI, p_negI, p_lenL, p_lenT, p_intB, v_dat, l_tup, a_tup, p_isN, p_notN, set_feed1, set_feed2, p_pow9, p_pow12, p_pow18, e_iter, e_kIter_t, e_kIter_l, e_kIter_s, e_r1, e_zip, e_kZip, zip2_t, zip2_l, e_for, e_kFor, e_lc, e_try, e_kTry_ret, e_raise, e_kRaise, e_callL, ts_nil, ts_cons, e_kMtS, gYes, x_k2, x_k1, x_kc, x_kd, x_kN, x_kCall, x_kIf, x_kSIf, x_kAsg, x_kDrop, Bool.false_eq_true, Bool.not_true, Bool.not_false, tup_2, tup_3, tup_4, p_tup0, p_lst0, p_tup1, p_lst1, p_tup2, p_lst2, p_tup3, p_lst3, p_tup4, p_lst4, p_tup5, p_lst5, p_tup6, p_lst6, p_tup7, p_lst7, p_tup8, p_lst8]
  unfold b_shown_runs
  simp -implicitDefEqProofs only [e_P2, e_k2, e_k1, e_P1, e_k0, e_lift, e_C, gVar, e_nil, e_cons, e_kc, e_kd, e_PN, e_kN, e_call, e_kCall, e_if, e_kIf_t, e_kIf_f, e_and, e_kAnd_t, e_kAnd_f, e_or, e_kOr_t, e_kOr_f, e_not, e_kNot, e_seq, e_kS_nx, e_kS_ret, e_kS_brk, e_kS_ct, e_kS_exc, e_pass, e_brk, e_ct, e_sif, e_kSIf_t, e_kSIf_f, e_asg, e_kAsg, e_kO, e_name, e_ret, e_kRet, e_kRet_x, e_drop, e_kDrop, e_set, e_kSet, e_kSet2, e_kSet3, e_kSet4, e_fn, e_kFn_ret, e_kFn_nx, e_kFn_exc, e_fnK, e_kFnK_ret, e_mt, e_kMt2, e_isi, e_kIs, e_kI, e_chain, e_kCh, e_kCh2, e_kCh3_t, e_kCh3_f, e_shut, e_kSh, e_sl, e_kSl, e_kSl2n, e_kSl2i, e_kSl3, e_part, e_kPart, List.map_cons, List.map_nil, List.length_cons, List.length_nil, List.replicate, List.cons_append, List.nil_append, List.getElem?_cons_zero, List.getElem?_cons_succ, List.set_cons_zero, List.set_cons_succ, Nat.reduceSub, Nat.reduceAdd, Nat.zero_add, if_true, if_false, reduceIte, p_ix, itemS, l_dat, l_scr, l_ref0, atI_0, atI_1, atI_2, atI_3, Option.map_some, Option.bind_some, p_gtI, p_ltI, p_geI, p_leI, p_ltS, p_eqI, p_neI, p_eqS, p_neS, p_addI, p_subI, p_negI, p_lenL, p_lenT, p_intB, v_dat, l_tup, a_tup, p_isN, p_notN, set_feed1, set_feed2, p_pow9, p_pow12, p_pow18, e_iter, e_kIter_t, e_kIter_l, e_kIter_s, e_r1, e_zip, e_kZip, zip2_t, zip2_l, e_for, e_kFor, e_lc, e_try, e_kTry_ret, e_raise, e_kRaise, e_callL, ts_nil, ts_cons, e_kMtS, gYes, x_k2, x_k1, x_kc, x_kd, x_kN, x_kCall, x_kIf, x_kSIf, x_kAsg, x_kDrop, Bool.false_eq_true, Bool.not_true, Bool.not_false, tup_2, tup_3, tup_4, p_tup0, p_lst0, p_tup1, p_lst1, p_tup2, p_lst2, p_tup3, p_lst3, p_tup4, p_lst4, p_tup5, p_lst5, p_tup6, p_lst6, p_tup7, p_lst7, p_tup8, p_lst8, p_eqv (row_sm h) (Sm.tup (n := 0) (k := 0) (ds := []) fun d m => absurd m (by simp)) (by decide) (by decide)]
  unfold shownT
  by_cases e : ps = []
  · rw [if_pos e, e]
    rw [show PyData.eqv (.tuple (List.map pd [])) (.tuple []) = true from by simp [PyData.eqv, PyData.eqvAll]]
    simp -implicitDefEqProofs only [e_P2, e_k2, e_k1, e_P1, e_k0, e_lift, e_C, gVar, e_nil, e_cons, e_kc, e_kd, e_PN, e_kN, e_call, e_kCall, e_if, e_kIf_t, e_kIf_f, e_and, e_kAnd_t, e_kAnd_f, e_or, e_kOr_t, e_kOr_f, e_not, e_kNot, e_seq, e_kS_nx, e_kS_ret, e_kS_brk, e_kS_ct, e_kS_exc, e_pass, e_brk, e_ct, e_sif, e_kSIf_t, e_kSIf_f, e_asg, e_kAsg, e_kO, e_name, e_ret, e_kRet, e_kRet_x, e_drop, e_kDrop, e_set, e_kSet, e_kSet2, e_kSet3, e_kSet4, e_fn, e_kFn_ret, e_kFn_nx, e_kFn_exc, e_fnK, e_kFnK_ret, e_mt, e_kMt2, e_isi, e_kIs, e_kI, e_chain, e_kCh, e_kCh2, e_kCh3_t, e_kCh3_f, e_shut, e_kSh, e_sl, e_kSl, e_kSl2n, e_kSl2i, e_kSl3, e_part, e_kPart, List.map_cons, List.map_nil, List.length_cons, List.length_nil, List.replicate, List.cons_append, List.nil_append, List.getElem?_cons_zero, List.getElem?_cons_succ, List.set_cons_zero, List.set_cons_succ, Nat.reduceSub, Nat.reduceAdd, Nat.zero_add, if_true, if_false, reduceIte, p_ix, itemS, l_dat, l_scr, l_ref0, atI_0, atI_1, atI_2, atI_3, Option.map_some, Option.bind_some, p_gtI, p_ltI, p_geI, p_leI, p_ltS, p_eqI, p_neI, p_eqS, p_neS, p_addI, p_subI, p_negI, p_lenL, p_lenT, p_intB, v_dat, l_tup, a_tup, p_isN, p_notN, set_feed1, set_feed2, p_pow9, p_pow12, p_pow18, e_iter, e_kIter_t, e_kIter_l, e_kIter_s, e_r1, e_zip, e_kZip, zip2_t, zip2_l, e_for, e_kFor, e_lc, e_try, e_kTry_ret, e_raise, e_kRaise, e_callL, ts_nil, ts_cons, e_kMtS, gYes, x_k2, x_k1, x_kc, x_kd, x_kN, x_kCall, x_kIf, x_kSIf, x_kAsg, x_kDrop, Bool.false_eq_true, Bool.not_true, Bool.not_false, tup_2, tup_3, tup_4, p_tup0, p_lst0, p_tup1, p_lst1, p_tup2, p_lst2, p_tup3, p_lst3, p_tup4, p_lst4, p_tup5, p_lst5, p_tup6, p_lst6, p_tup7, p_lst7, p_tup8, p_lst8]
    rw [endF_self hB]
  · rw [if_neg e]
    rw [show PyData.eqv (.tuple (ps.map pd)) (.tuple []) = false from by
      cases ps with
      | nil => exact absurd rfl e
      | cons p r => simp [PyData.eqv, PyData.eqvAll]]
    simp -implicitDefEqProofs only [e_P2, e_k2, e_k1, e_P1, e_k0, e_lift, e_C, gVar, e_nil, e_cons, e_kc, e_kd, e_PN, e_kN, e_call, e_kCall, e_if, e_kIf_t, e_kIf_f, e_and, e_kAnd_t, e_kAnd_f, e_or, e_kOr_t, e_kOr_f, e_not, e_kNot, e_seq, e_kS_nx, e_kS_ret, e_kS_brk, e_kS_ct, e_kS_exc, e_pass, e_brk, e_ct, e_sif, e_kSIf_t, e_kSIf_f, e_asg, e_kAsg, e_kO, e_name, e_ret, e_kRet, e_kRet_x, e_drop, e_kDrop, e_set, e_kSet, e_kSet2, e_kSet3, e_kSet4, e_fn, e_kFn_ret, e_kFn_nx, e_kFn_exc, e_fnK, e_kFnK_ret, e_mt, e_kMt2, e_isi, e_kIs, e_kI, e_chain, e_kCh, e_kCh2, e_kCh3_t, e_kCh3_f, e_shut, e_kSh, e_sl, e_kSl, e_kSl2n, e_kSl2i, e_kSl3, e_part, e_kPart, List.map_cons, List.map_nil, List.length_cons, List.length_nil, List.replicate, List.cons_append, List.nil_append, List.getElem?_cons_zero, List.getElem?_cons_succ, List.set_cons_zero, List.set_cons_succ, Nat.reduceSub, Nat.reduceAdd, Nat.zero_add, if_true, if_false, reduceIte, p_ix, itemS, l_dat, l_scr, l_ref0, atI_0, atI_1, atI_2, atI_3, Option.map_some, Option.bind_some, p_gtI, p_ltI, p_geI, p_leI, p_ltS, p_eqI, p_neI, p_eqS, p_neS, p_addI, p_subI, p_negI, p_lenL, p_lenT, p_intB, v_dat, l_tup, a_tup, p_isN, p_notN, set_feed1, set_feed2, p_pow9, p_pow12, p_pow18, e_iter, e_kIter_t, e_kIter_l, e_kIter_s, e_r1, e_zip, e_kZip, zip2_t, zip2_l, e_for, e_kFor, e_lc, e_try, e_kTry_ret, e_raise, e_kRaise, e_callL, ts_nil, ts_cons, e_kMtS, gYes, x_k2, x_k1, x_kc, x_kd, x_kN, x_kCall, x_kIf, x_kSIf, x_kAsg, x_kDrop, Bool.false_eq_true, Bool.not_true, Bool.not_false, tup_2, tup_3, tup_4, p_tup0, p_lst0, p_tup1, p_lst1, p_tup2, p_lst2, p_tup3, p_lst3, p_tup4, p_lst4, p_tup5, p_lst5, p_tup6, p_lst6, p_tup7, p_lst7, p_tup8, p_lst8, shown_row_ok h hl hB]
    rw [endF_self hB]
end
end Lw

set_option maxRecDepth 100000
set_option maxHeartbeats 4000000
namespace Lw
open PySem L2 PN
noncomputable def turnB : GS := (sSeq (sIf (gNot (gCall 2 m__law_same (PN.gCons (gCall 2 m__law_read (PN.gCons (gC (.fn "read_runs")) (PN.gCons (gVar 4) PN.gNil))) (PN.gCons (gPN pTup (PN.gCons (gC (.dat (.str "told"))) (PN.gCons (gVar 3) PN.gNil))) PN.gNil)))) (sRet (gC (.dat (.bool false)))) sPass)
    (sSeq (sIf (gNot (gCall 2 m__law_same (PN.gCons (gCall 2 m__law_read (PN.gCons (gC (.fn "read_row_text")) (PN.gCons (gVar 6) PN.gNil))) (PN.gCons (gPN pTup (PN.gCons (gC (.dat (.str "told"))) (PN.gCons (gVar 5) PN.gNil))) PN.gNil)))) (sRet (gC (.dat (.bool false)))) sPass)
    (sSeq (sAsg (gIf (gCall 1 m__law_are_runs (PN.gCons (gVar 5) PN.gNil)) (gPN pTup (PN.gCons (gC (.dat (.str "told"))) (PN.gCons (gVar 5) PN.gNil))) (gPN pTup (PN.gCons (gC (.dat (.str "no"))) (PN.gCons (gC (.dat (.int 0))) (PN.gCons (gC (.dat (.int 0))) PN.gNil))))) (tName 10))
    (sIf (gNot (gCall 2 m__law_same (PN.gCons (gCall 2 m__law_read (PN.gCons (gC (.fn "read_runs")) (PN.gCons (gVar 6) PN.gNil))) (PN.gCons (gVar 10) PN.gNil)))) (sRet (gC (.dat (.bool false)))) sPass))))
noncomputable def lapB : GS := (sSeq (sAsg (gCall 1 m__law_runs (PN.gCons (gVar 1) PN.gNil)) (tName 3))
    (sSeq (sAsg (gIf (gP2 pGt (gPN pLen (PN.gCons (gVar 3) PN.gNil)) (gC (.dat (.int 0)))) (gCall 1 m__law_text (PN.gCons (gVar 3) PN.gNil)) (gC (.dat (.str "-")))) (tName 4))
    (sSeq (sAsg (gPN pTupleOf (PN.gCons (gPN pLst (gLcA [12] (gRange1 (PN.gCons (gP2 pAdd (gC (.dat (.int 1))) (gCall 2 m__law_draw (PN.gCons (gVar 1) (PN.gCons (gC (.dat (.int 6))) PN.gNil)))) PN.gNil)) (tName 12) gYes (gCall 1 m__law_piece (PN.gCons (gVar 1) PN.gNil)))) PN.gNil)) (tName 5))
    (sSeq (sIf (gP2 pEq (gCall 2 m__law_draw (PN.gCons (gVar 1) (PN.gCons (gC (.dat (.int 3))) PN.gNil))) (gC (.dat (.int 0)))) (sAsg (gP2 pAdd (gP2 pAdd (gSl (gVar 5) (gC (.dat .none)) (gPart (gC (.dat (.int 1))))) (gPN pTup (PN.gCons (gPN pTup (PN.gCons (gP2 pIx (gP2 pIx (gVar 5) (gC (.dat (.int 0)))) (gC (.dat (.int 0)))) (PN.gCons (gP2 pIx (gP2 pIx (gVar 5) (gC (.dat (.int 0)))) (gC (.dat (.int 1)))) (PN.gCons (gP2 pIx (gP2 pIx (gVar 5) (gC (.dat (.int 0)))) (gC (.dat (.int 2)))) PN.gNil)))) PN.gNil))) (gSl (gVar 5) (gPart (gC (.dat (.int 1)))) (gC (.dat .none)))) (tName 5)) sPass)
    (sSeq (sAsg (gCall 1 m__law_text (PN.gCons (gVar 5) PN.gNil)) (tName 6))
    (sSeq (sAsg (gPN pTup (PN.gCons (gP2 pIx (gPN pLst (PN.gCons (gCall 2 m__law_draw (PN.gCons (gVar 1) (PN.gCons (gC (.dat (.int 99))) PN.gNil))) (PN.gCons (gC (.dat (.int 99999))) (PN.gCons (gC (.dat (.int 0))) PN.gNil)))) (gCall 2 m__law_draw (PN.gCons (gVar 1) (PN.gCons (gC (.dat (.int 3))) PN.gNil)))) (PN.gCons (gP2 pIx (gPN pLst (PN.gCons (gC (.dat (.int 0))) (PN.gCons (gC (.dat (.int 7))) (PN.gCons (gC (.dat (.int 999))) PN.gNil)))) (gCall 2 m__law_draw (PN.gCons (gVar 1) (PN.gCons (gC (.dat (.int 3))) PN.gNil)))) (PN.gCons (gCall 1 m__law_series (PN.gCons (gVar 1) PN.gNil)) PN.gNil)))) (tName 7))
    (sSeq (sAsg (gPN pLst (PN.gCons (gCall 1 m_shown_runs (PN.gCons (gVar 3) PN.gNil)) (PN.gCons (gCall 1 m_shown_row (PN.gCons (gVar 5) PN.gNil)) (PN.gCons (gCall 1 m_shown_name (PN.gCons (gVar 7) PN.gNil)) PN.gNil)))) (tName 8))
    (sSeq (sIf (gNot (gCall 2 m__law_same (PN.gCons (gVar 8) (PN.gCons (gPN pLst (PN.gCons (gVar 4) (PN.gCons (gVar 6) (PN.gCons (gP2 pAdd (gP2 pAdd (gP2 pAdd (gP2 pAdd (gPN pStr (PN.gCons (gP2 pIx (gVar 7) (gC (.dat (.int 0)))) PN.gNil)) (gC (.dat (.str ".")))) (gPN pStr (PN.gCons (gP2 pIx (gVar 7) (gC (.dat (.int 1)))) PN.gNil))) (gC (.dat (.str ".")))) (gP2 pIx (gVar 7) (gC (.dat (.int 2))))) PN.gNil)))) PN.gNil)))) (sRet (gC (.dat (.bool false)))) sPass)
    (sSeq (sFor (gRange1 (PN.gCons (gC (.dat (.int 2))) PN.gNil)) (tName 9) (sSeq (sIf (gNot (gCall 2 m__law_same (PN.gCons (gCall 2 m__law_read (PN.gCons (gC (.fn "read_runs")) (PN.gCons (gVar 4) PN.gNil))) (PN.gCons (gPN pTup (PN.gCons (gC (.dat (.str "told"))) (PN.gCons (gVar 3) PN.gNil))) PN.gNil)))) (sRet (gC (.dat (.bool false)))) sPass)
    (sSeq (sIf (gNot (gCall 2 m__law_same (PN.gCons (gCall 2 m__law_read (PN.gCons (gC (.fn "read_row_text")) (PN.gCons (gVar 6) PN.gNil))) (PN.gCons (gPN pTup (PN.gCons (gC (.dat (.str "told"))) (PN.gCons (gVar 5) PN.gNil))) PN.gNil)))) (sRet (gC (.dat (.bool false)))) sPass)
    (sSeq (sAsg (gIf (gCall 1 m__law_are_runs (PN.gCons (gVar 5) PN.gNil)) (gPN pTup (PN.gCons (gC (.dat (.str "told"))) (PN.gCons (gVar 5) PN.gNil))) (gPN pTup (PN.gCons (gC (.dat (.str "no"))) (PN.gCons (gC (.dat (.int 0))) (PN.gCons (gC (.dat (.int 0))) PN.gNil))))) (tName 10))
    (sIf (gNot (gCall 2 m__law_same (PN.gCons (gCall 2 m__law_read (PN.gCons (gC (.fn "read_runs")) (PN.gCons (gVar 6) PN.gNil))) (PN.gCons (gVar 10) PN.gNil)))) (sRet (gC (.dat (.bool false)))) sPass)))))
    (sSeq (sAsg (gIf (gP2 pGt (gPN pLen (PN.gCons (gVar 3) PN.gNil)) (gC (.dat (.int 0)))) (gPN pTup (PN.gCons (gC (.dat (.str "told"))) (PN.gCons (gVar 3) PN.gNil))) (gPN pTup (PN.gCons (gC (.dat (.str "no"))) (PN.gCons (gC (.dat (.int 0))) (PN.gCons (gC (.dat (.int 0))) PN.gNil))))) (tName 10))
    (sSeq (sIf (gNot (gCall 2 m__law_same (PN.gCons (gCall 2 m__law_read (PN.gCons (gC (.fn "read_row_text")) (PN.gCons (gVar 4) PN.gNil))) (PN.gCons (gVar 10) PN.gNil)))) (sRet (gC (.dat (.bool false)))) sPass)
    (sIf (gOr (gP2 pNe (gCall 2 m__law_read (PN.gCons (gC (.fn "read_runs")) (PN.gCons (gP2 pAdd (gVar 4) (gC (.dat (.str " ")))) PN.gNil))) (gPN pTup (PN.gCons (gC (.dat (.str "no"))) (PN.gCons (gC (.dat (.int 0))) (PN.gCons (gC (.dat (.int 1))) PN.gNil))))) (gP2 pNe (gCall 2 m__law_read (PN.gCons (gC (.fn "read_row_text")) (PN.gCons (gP2 pAdd (gVar 6) (gC (.dat (.str " ")))) PN.gNil))) (gPN pTup (PN.gCons (gC (.dat (.str "no"))) (PN.gCons (gC (.dat (.int 0))) (PN.gCons (gC (.dat (.int 1))) PN.gNil)))))) (sRet (gC (.dat (.bool false)))) sPass))))))))))))
theorem cutTo1 {α : Type} (xs : List α) : cutL xs none (some 1) = xs.take 1 := by
  unfold cutL
  have e1 : HT.sIx xs.length 0 none = 0 := rfl
  have e2 : HT.sIx xs.length xs.length (some 1) = min 1 xs.length := by
    unfold HT.sIx
    simp
    try omega
  rw [e1, e2, List.drop_zero, Nat.sub_zero]
  rw [List.take_eq_take_iff]
  omega
theorem slTo1 {ds : List PyData} {B : Bs} : pSl [.dat (.tuple ds), .dat .none, .dat (.int 1)] B = some (.dat (.tuple (ds.take 1)), B) := by
  rw [p_sl (lo := none) (hi := some 1) rfl rfl]
  show some (S.dat (.tuple (cutL ds none (some 1))), B) = _
  rw [cutTo1]
def nameT (x y : Int) (s : Str) : Str := numS x ++ "." ++ numS y ++ "." ++ s
theorem nameT_join (x y : Int) (s : Str) : Txt.join "." [numS x, numS y, s] = nameT x y s := by
  rw [TL.join_eq]
  show numS x ++ ("." : Str) ++ (numS y ++ ("." : Str) ++ s) = _
  unfold nameT
  rw [str_app_assoc, str_app_assoc, str_app_assoc, str_app_assoc, str_app_assoc]
theorem shown_name_ok {x y : Int} {s : Str} {B : Bs} (hx : 0 ≤ x ∧ x ≤ 99999) (hy : 0 ≤ y ∧ y ≤ 999) (hs : s ∈ words7) (hB : Flat B) : m_shown_name [.dat (.tuple [.int x, .int y, .str s])] B = .ok (.dat (.str (nameT x y s))) B := by
  have l1 := numS_len (i := x) (by omega)
  have l2 := numS_len (i := y) (by omega)
  have l3 := words_len s hs
  unfold m_shown_name
  simp -implicitDefEqProofs only [e_P2, e_k2, e_k1, e_P1, e_k0, e_lift, e_C, gVar, e_nil, e_cons, e_kc, e_kd, e_PN, e_kN, e_call, e_kCall, e_if, e_kIf_t, e_kIf_f, e_and, e_kAnd_t, e_kAnd_f, e_or, e_kOr_t, e_kOr_f, e_not, e_kNot, e_seq, e_kS_nx, e_kS_ret, e_kS_brk, e_kS_ct, e_kS_exc, e_pass, e_brk, e_ct, e_sif, e_kSIf_t, e_kSIf_f, e_asg, e_kAsg, e_kO, e_name, e_ret, e_kRet, e_kRet_x, e_drop, e_kDrop, e_set, e_kSet, e_kSet2, e_kSet3, e_kSet4, e_fn, e_kFn_ret, e_kFn_nx, e_kFn_exc, e_fnK, e_kFnK_ret, e_mt, e_kMt2, e_isi, e_kIs, e_kI, e_chain, e_kCh, e_kCh2, e_kCh3_t, e_kCh3_f, e_shut, e_kSh, e_sl, e_kSl, e_kSl2n, e_kSl2i, e_kSl3, e_part, e_kPart, List.map_cons, List.map_nil, List.length_cons, List.length_nil, List.replicate, List.cons_append, List.nil_append, List.getElem?_cons_zero, List.getElem?_cons_succ, List.set_cons_zero, List.set_cons_succ, Nat.reduceSub, Nat.reduceAdd, Nat.zero_add, if_true, if_false, reduceIte, p_ix, itemS, l_dat, l_scr, l_ref0, atI_0, atI_1, atI_2, atI_3, Option.map_some, Option.bind_some, p_gtI, p_ltI, p_geI, p_leI, p_ltS, p_eqI, p_neI, p_eqS, p_neS, p_addI, p_subI, p_negI, p_lenL, p_lenT, p_intB, v_dat, l_tup, a_tup, p_isN, p_notN, set_feed1, set_feed2, p_pow9, p_pow12, p_pow18, e_iter, e_kIter_t, e_kIter_l, e_kIter_s, e_r1, e_zip, e_kZip, zip2_t, zip2_l, e_for, e_kFor, e_lc, e_try, e_kTry_ret, e_raise, e_kRaise, e_callL, ts_nil, ts_cons, e_kMtS, gYes, x_k2, x_k1, x_kc, x_kd, x_kN, x_kCall, x_kIf, x_kSIf, x_kAsg, x_kDrop, Bool.false_eq_true, Bool.not_true, Bool.not_false, tup_2, tup_3, tup_4, p_tup0, p_lst0, p_tup1, p_lst1, p_tup2, p_lst2, p_tup3, p_lst3, p_tup4, p_lst4, p_tup5, p_lst5, p_tup6, p_lst6, p_tup7, p_lst7, p_tup8, p_lst8]
  unfold b_shown_name
  simp -implicitDefEqProofs only [e_P2, e_k2, e_k1, e_P1, e_k0, e_lift, e_C, gVar, e_nil, e_cons, e_kc, e_kd, e_PN, e_kN, e_call, e_kCall, e_if, e_kIf_t, e_kIf_f, e_and, e_kAnd_t, e_kAnd_f, e_or, e_kOr_t, e_kOr_f, e_not, e_kNot, e_seq, e_kS_nx, e_kS_ret, e_kS_brk, e_kS_ct, e_kS_exc, e_pass, e_brk, e_ct, e_sif, e_kSIf_t, e_kSIf_f, e_asg, e_kAsg, e_kO, e_name, e_ret, e_kRet, e_kRet_x, e_drop, e_kDrop, e_set, e_kSet, e_kSet2, e_kSet3, e_kSet4, e_fn, e_kFn_ret, e_kFn_nx, e_kFn_exc, e_fnK, e_kFnK_ret, e_mt, e_kMt2, e_isi, e_kIs, e_kI, e_chain, e_kCh, e_kCh2, e_kCh3_t, e_kCh3_f, e_shut, e_kSh, e_sl, e_kSl, e_kSl2n, e_kSl2i, e_kSl3, e_part, e_kPart, List.map_cons, List.map_nil, List.length_cons, List.length_nil, List.replicate, List.cons_append, List.nil_append, List.getElem?_cons_zero, List.getElem?_cons_succ, List.set_cons_zero, List.set_cons_succ, Nat.reduceSub, Nat.reduceAdd, Nat.zero_add, if_true, if_false, reduceIte, p_ix, itemS, l_dat, l_scr, l_ref0, atI_0, atI_1, atI_2, atI_3, Option.map_some, Option.bind_some, p_gtI, p_ltI, p_geI, p_leI, p_ltS, p_eqI, p_neI, p_eqS, p_neS, p_addI, p_subI, p_negI, p_lenL, p_lenT, p_intB, v_dat, l_tup, a_tup, p_isN, p_notN, set_feed1, set_feed2, p_pow9, p_pow12, p_pow18, e_iter, e_kIter_t, e_kIter_l, e_kIter_s, e_r1, e_zip, e_kZip, zip2_t, zip2_l, e_for, e_kFor, e_lc, e_try, e_kTry_ret, e_raise, e_kRaise, e_callL, ts_nil, ts_cons, e_kMtS, gYes, x_k2, x_k1, x_kc, x_kd, x_kN, x_kCall, x_kIf, x_kSIf, x_kAsg, x_kDrop, Bool.false_eq_true, Bool.not_true, Bool.not_false, tup_2, tup_3, tup_4, p_tup0, p_lst0, p_tup1, p_lst1, p_tup2, p_lst2, p_tup3, p_lst3, p_tup4, p_lst4, p_tup5, p_lst5, p_tup6, p_lst6, p_tup7, p_lst7, p_tup8, p_lst8, p_strI (i := x) (by omega), p_strI (i := y) (by omega)]
  rw [show [PyData.str (numS x), PyData.str (numS y), PyData.str s] = [numS x, numS y, s].map PyData.str from rfl, p_joinL (by simp; have : (("." : String) : Str).length = 1 := rfl; omega), nameT_join]
  simp -implicitDefEqProofs only [e_P2, e_k2, e_k1, e_P1, e_k0, e_lift, e_C, gVar, e_nil, e_cons, e_kc, e_kd, e_PN, e_kN, e_call, e_kCall, e_if, e_kIf_t, e_kIf_f, e_and, e_kAnd_t, e_kAnd_f, e_or, e_kOr_t, e_kOr_f, e_not, e_kNot, e_seq, e_kS_nx, e_kS_ret, e_kS_brk, e_kS_ct, e_kS_exc, e_pass, e_brk, e_ct, e_sif, e_kSIf_t, e_kSIf_f, e_asg, e_kAsg, e_kO, e_name, e_ret, e_kRet, e_kRet_x, e_drop, e_kDrop, e_set, e_kSet, e_kSet2, e_kSet3, e_kSet4, e_fn, e_kFn_ret, e_kFn_nx, e_kFn_exc, e_fnK, e_kFnK_ret, e_mt, e_kMt2, e_isi, e_kIs, e_kI, e_chain, e_kCh, e_kCh2, e_kCh3_t, e_kCh3_f, e_shut, e_kSh, e_sl, e_kSl, e_kSl2n, e_kSl2i, e_kSl3, e_part, e_kPart, List.map_cons, List.map_nil, List.length_cons, List.length_nil, List.replicate, List.cons_append, List.nil_append, List.getElem?_cons_zero, List.getElem?_cons_succ, List.set_cons_zero, List.set_cons_succ, Nat.reduceSub, Nat.reduceAdd, Nat.zero_add, if_true, if_false, reduceIte, p_ix, itemS, l_dat, l_scr, l_ref0, atI_0, atI_1, atI_2, atI_3, Option.map_some, Option.bind_some, p_gtI, p_ltI, p_geI, p_leI, p_ltS, p_eqI, p_neI, p_eqS, p_neS, p_addI, p_subI, p_negI, p_lenL, p_lenT, p_intB, v_dat, l_tup, a_tup, p_isN, p_notN, set_feed1, set_feed2, p_pow9, p_pow12, p_pow18, e_iter, e_kIter_t, e_kIter_l, e_kIter_s, e_r1, e_zip, e_kZip, zip2_t, zip2_l, e_for, e_kFor, e_lc, e_try, e_kTry_ret, e_raise, e_kRaise, e_callL, ts_nil, ts_cons, e_kMtS, gYes, x_k2, x_k1, x_kc, x_kd, x_kN, x_kCall, x_kIf, x_kSIf, x_kAsg, x_kDrop, Bool.false_eq_true, Bool.not_true, Bool.not_false, tup_2, tup_3, tup_4, p_tup0, p_lst0, p_tup1, p_lst1, p_tup2, p_lst2, p_tup3, p_lst3, p_tup4, p_lst4, p_tup5, p_lst5, p_tup6, p_lst6, p_tup7, p_lst7, p_tup8, p_lst8]
  rw [endF_self hB]
theorem same_ok {n k : Nat} {d : PyData} {B : Bs} (h : Sm n k d) (hn : n ≤ 16777216) (hk : k ≤ 64) (hB : Flat B) : m__law_same [.dat d, .dat d] B = .ok (.dat (.bool true)) B := same_shown h hn hk hB
theorem told_sm {n k : Nat} {d : PyData} (h : Sm n k d) (hn : 42 ≤ n) : Sm (2 * (n + 2) + 4) (k + 1) (told d) := Sm.tup (n := n) (k := k) (ds := [.str "told", d]) fun e m => by
  simp only [List.mem_cons, List.not_mem_nil, or_false] at m
  rcases m with rfl | rfl
  · exact (Sm.str (n := 4) (by decide +kernel) (by decide)).up hn (Nat.zero_le _)
  · exact h
theorem no_sm {w : Int} (h : w.natAbs < 10 ^ 18) : Sm 100 1 (refused w) := (Sm.tup (n := 22) (k := 0) (ds := [.str "no", .int 0, .int w]) fun e m => by
  simp only [List.mem_cons, List.not_mem_nil, or_false] at m
  rcases m with rfl | rfl | rfl
  · exact Sm.str (n := 2) (by decide +kernel) (by decide)
  · exact (Sm.int (by decide)).up (by decide) (Nat.le_refl _)
  · exact (Sm.int h).up (by decide) (Nat.le_refl _)).up (by show 3 * (22 + 2) + 4 ≤ 100; decide) (by decide)
/-- what _law_due is for a row -/
def dueD (qs : List P3) : PyData := if chain qs = true then told (.tuple (qs.map pd)) else refused 0
theorem row_sm' {ps : List P3} (h : ∀ p ∈ ps, Gp p) (hl : ps.length ≤ 1000) : Sm 300000 2 (.tuple (ps.map pd)) := (row_sm h).up (by omega) (Nat.le_refl _)
theorem turn_ok {ps qs : List P3} {B : Bs} {s0 s1 x2 x7 x8 x9 x10 x11 x12 : Option S} (hp : ∀ p ∈ ps, Gp p) (hq : ∀ p ∈ qs, Gp p) (lp : ps.length ≤ 1000) (lq : qs.length ≤ 1000) (hc : chain ps = true) (hne : qs ≠ []) (hB : Flat B) :
    turnB [s0, s1, x2, some (.dat (.tuple (ps.map pd))), some (.dat (.str (shownT ps))), some (.dat (.tuple (qs.map pd))), some (.dat (.str (rowT qs))), x7, x8, x9, x10, x11, x12] B =
      .nx [s0, s1, x2, some (.dat (.tuple (ps.map pd))), some (.dat (.str (shownT ps))), some (.dat (.tuple (qs.map pd))), some (.dat (.str (rowT qs))), x7, x8, x9, some (.dat (dueD qs)), x11, x12] B := by
  have L1 : m__law_read [.fn "read_runs", .dat (.str (shownT ps))] B = .ok (.dat (told (.tuple (ps.map pd)))) B := law_read_ok tb1 (rr_runs hp lp hB hc) (.inl ⟨_, rfl⟩) hB
  have L2' : m__law_read [.fn "read_row_text", .dat (.str (rowT qs))] B = .ok (.dat (told (.tuple (qs.map pd)))) B := law_read_ok tb2 (rr_row hq lq hB hne) (.inl ⟨_, rfl⟩) hB
  have L3 : m__law_read [.fn "read_runs", .dat (.str (rowT qs))] B = .ok (.dat (dueD qs)) B := by
    have := law_read_ok tb1 (rr_cross hq lq hB hne) (Classical.byCases (p := chain qs = true) (fun e => .inl ⟨_, if_pos e⟩) (fun e => .inr ⟨0, if_neg e⟩)) hB
    rw [this]
    unfold dueD
    by_cases e : chain qs = true
    · rw [if_pos e, if_pos e]; rfl
    · rw [if_neg e, if_neg e]; rfl
  have S1 := same_ok (B := B) (told_sm (row_sm' hp lp) (by decide)) (by decide) (by decide) hB
  have S2 := same_ok (B := B) (told_sm (row_sm' hq lq) (by decide)) (by decide) (by decide) hB
  have S3 : m__law_same [.dat (dueD qs), .dat (dueD qs)] B = .ok (.dat (.bool true)) B := by
    unfold dueD
    split
    · exact S2
    · exact same_ok (no_sm (by decide)) (by decide) (by decide) hB
  have T1 : ∀ d : PyData, PyData.tuple [.str "told", d] = told d := fun _ => rfl
  have T2 : PyData.tuple [.str "no", .int 0, .int 0] = refused 0 := rfl
  unfold turnB
  simp -implicitDefEqProofs only [e_P2, e_k2, e_k1, e_P1, e_k0, e_lift, e_C, gVar, e_nil, e_cons, e_kc, e_kd, e_PN, e_kN, e_call, e_kCall, e_if, e_kIf_t, e_kIf_f, e_and, e_kAnd_t, e_kAnd_f, e_or, e_kOr_t, e_kOr_f, e_not, e_kNot, e_seq, e_kS_nx, e_kS_ret, e_kS_brk, e_kS_ct, e_kS_exc, e_pass, e_brk, e_ct, e_sif, e_kSIf_t, e_kSIf_f, e_asg, e_kAsg, e_kO, e_name, e_ret, e_kRet, e_kRet_x, e_drop, e_kDrop, e_set, e_kSet, e_kSet2, e_kSet3, e_kSet4, e_fn, e_kFn_ret, e_kFn_nx, e_kFn_exc, e_fnK, e_kFnK_ret, e_mt, e_kMt2, e_isi, e_kIs, e_kI, e_chain, e_kCh, e_kCh2, e_kCh3_t, e_kCh3_f, e_shut, e_kSh, e_sl, e_kSl, e_kSl2n, e_kSl2i, e_kSl3, e_part, e_kPart, List.map_cons, List.map_nil, List.length_cons, List.length_nil, List.replicate, List.cons_append, List.nil_append, List.getElem?_cons_zero, List.getElem?_cons_succ, List.set_cons_zero, List.set_cons_succ, Nat.reduceSub, Nat.reduceAdd, Nat.zero_add, if_true, if_false, reduceIte, p_ix, itemS, l_dat, l_scr, l_ref0, atI_0, atI_1, atI_2, atI_3, Option.map_some, Option.bind_some, p_gtI, p_ltI, p_geI, p_leI, p_ltS, p_eqI, p_neI, p_eqS, p_neS, p_addI, p_subI, p_negI, p_lenL, p_lenT, p_intB, v_dat, l_tup, a_tup, p_isN, p_notN, set_feed1, set_feed2, p_pow9, p_pow12, p_pow18, e_iter, e_kIter_t, e_kIter_l, e_kIter_s, e_r1, e_zip, e_kZip, zip2_t, zip2_l, e_for, e_kFor, e_lc, e_try, e_kTry_ret, e_raise, e_kRaise, e_callL, ts_nil, ts_cons, e_kMtS, gYes, x_k2, x_k1, x_kc, x_kd, x_kN, x_kCall, x_kIf, x_kSIf, x_kAsg, x_kDrop, Bool.false_eq_true, Bool.not_true, Bool.not_false, tup_2, tup_3, tup_4, p_tup0, p_lst0, p_tup1, p_lst1, p_tup2, p_lst2, p_tup3, p_lst3, p_tup4, p_lst4, p_tup5, p_lst5, p_tup6, p_lst6, p_tup7, p_lst7, p_tup8, p_lst8, L1, L2', T1, S1, S2, are_runsT hq hB]
  cases e : chain qs with
  | true =>
    have ed : dueD qs = told (.tuple (qs.map pd)) := if_pos e
    rw [ed] at L3 S3 ⊢
    simp -implicitDefEqProofs only [e_P2, e_k2, e_k1, e_P1, e_k0, e_lift, e_C, gVar, e_nil, e_cons, e_kc, e_kd, e_PN, e_kN, e_call, e_kCall, e_if, e_kIf_t, e_kIf_f, e_and, e_kAnd_t, e_kAnd_f, e_or, e_kOr_t, e_kOr_f, e_not, e_kNot, e_seq, e_kS_nx, e_kS_ret, e_kS_brk, e_kS_ct, e_kS_exc, e_pass, e_brk, e_ct, e_sif, e_kSIf_t, e_kSIf_f, e_asg, e_kAsg, e_kO, e_name, e_ret, e_kRet, e_kRet_x, e_drop, e_kDrop, e_set, e_kSet, e_kSet2, e_kSet3, e_kSet4, e_fn, e_kFn_ret, e_kFn_nx, e_kFn_exc, e_fnK, e_kFnK_ret, e_mt, e_kMt2, e_isi, e_kIs, e_kI, e_chain, e_kCh, e_kCh2, e_kCh3_t, e_kCh3_f, e_shut, e_kSh, e_sl, e_kSl, e_kSl2n, e_kSl2i, e_kSl3, e_part, e_kPart, List.map_cons, List.map_nil, List.length_cons, List.length_nil, List.replicate, List.cons_append, List.nil_append, List.getElem?_cons_zero, List.getElem?_cons_succ, List.set_cons_zero, List.set_cons_succ, Nat.reduceSub, Nat.reduceAdd, Nat.zero_add, if_true, if_false, reduceIte, p_ix, itemS, l_dat, l_scr, l_ref0, atI_0, atI_1, atI_2, atI_3, Option.map_some, Option.bind_some, p_gtI, p_ltI, p_geI, p_leI, p_ltS, p_eqI, p_neI, p_eqS, p_neS, p_addI, p_subI, p_negI, p_lenL, p_lenT, p_intB, v_dat, l_tup, a_tup, p_isN, p_notN, set_feed1, set_feed2, p_pow9, p_pow12, p_pow18, e_iter, e_kIter_t, e_kIter_l, e_kIter_s, e_r1, e_zip, e_kZip, zip2_t, zip2_l, e_for, e_kFor, e_lc, e_try, e_kTry_ret, e_raise, e_kRaise, e_callL, ts_nil, ts_cons, e_kMtS, gYes, x_k2, x_k1, x_kc, x_kd, x_kN, x_kCall, x_kIf, x_kSIf, x_kAsg, x_kDrop, Bool.false_eq_true, Bool.not_true, Bool.not_false, tup_2, tup_3, tup_4, p_tup0, p_lst0, p_tup1, p_lst1, p_tup2, p_lst2, p_tup3, p_lst3, p_tup4, p_lst4, p_tup5, p_lst5, p_tup6, p_lst6, p_tup7, p_lst7, p_tup8, p_lst8, L3, T1, S3]
  | false =>
    have ed : dueD qs = refused 0 := if_neg (by rw [e]; exact Bool.false_ne_true)
    rw [ed] at L3 S3 ⊢
    simp -implicitDefEqProofs only [e_P2, e_k2, e_k1, e_P1, e_k0, e_lift, e_C, gVar, e_nil, e_cons, e_kc, e_kd, e_PN, e_kN, e_call, e_kCall, e_if, e_kIf_t, e_kIf_f, e_and, e_kAnd_t, e_kAnd_f, e_or, e_kOr_t, e_kOr_f, e_not, e_kNot, e_seq, e_kS_nx, e_kS_ret, e_kS_brk, e_kS_ct, e_kS_exc, e_pass, e_brk, e_ct, e_sif, e_kSIf_t, e_kSIf_f, e_asg, e_kAsg, e_kO, e_name, e_ret, e_kRet, e_kRet_x, e_drop, e_kDrop, e_set, e_kSet, e_kSet2, e_kSet3, e_kSet4, e_fn, e_kFn_ret, e_kFn_nx, e_kFn_exc, e_fnK, e_kFnK_ret, e_mt, e_kMt2, e_isi, e_kIs, e_kI, e_chain, e_kCh, e_kCh2, e_kCh3_t, e_kCh3_f, e_shut, e_kSh, e_sl, e_kSl, e_kSl2n, e_kSl2i, e_kSl3, e_part, e_kPart, List.map_cons, List.map_nil, List.length_cons, List.length_nil, List.replicate, List.cons_append, List.nil_append, List.getElem?_cons_zero, List.getElem?_cons_succ, List.set_cons_zero, List.set_cons_succ, Nat.reduceSub, Nat.reduceAdd, Nat.zero_add, if_true, if_false, reduceIte, p_ix, itemS, l_dat, l_scr, l_ref0, atI_0, atI_1, atI_2, atI_3, Option.map_some, Option.bind_some, p_gtI, p_ltI, p_geI, p_leI, p_ltS, p_eqI, p_neI, p_eqS, p_neS, p_addI, p_subI, p_negI, p_lenL, p_lenT, p_intB, v_dat, l_tup, a_tup, p_isN, p_notN, set_feed1, set_feed2, p_pow9, p_pow12, p_pow18, e_iter, e_kIter_t, e_kIter_l, e_kIter_s, e_r1, e_zip, e_kZip, zip2_t, zip2_l, e_for, e_kFor, e_lc, e_try, e_kTry_ret, e_raise, e_kRaise, e_callL, ts_nil, ts_cons, e_kMtS, gYes, x_k2, x_k1, x_kc, x_kd, x_kN, x_kCall, x_kIf, x_kSIf, x_kAsg, x_kDrop, Bool.false_eq_true, Bool.not_true, Bool.not_false, tup_2, tup_3, tup_4, p_tup0, p_lst0, p_tup1, p_lst1, p_tup2, p_lst2, p_tup3, p_lst3, p_tup4, p_lst4, p_tup5, p_lst5, p_tup6, p_lst6, p_tup7, p_lst7, p_tup8, p_lst8, L3, T2, S3]
end Lw

set_option maxRecDepth 100000
set_option maxHeartbeats 4000000
namespace Lw
open PySem L2 PN
theorem pick3 {w x y i : Int} (h0 : 0 ≤ i) (h : i < 3) : ∃ v : Int, (v = w ∨ v = x ∨ v = y) ∧ atI [S.dat (.int w), S.dat (.int x), S.dat (.int y)] i = some (.dat (.int v)) := by
  obtain ⟨d, m, e⟩ := pickA (ds := [.int w, .int x, .int y]) h0 (by simpa using h)
  simp only [List.mem_cons, List.not_mem_nil, or_false] at m
  rcases m with rfl | rfl | rfl
  · exact ⟨w, .inl rfl, e⟩
  · exact ⟨x, .inr (.inl rfl), e⟩
  · exact ⟨y, .inr (.inr rfl), e⟩
theorem pieces_of {ds : List PyData} (h : ∀ d ∈ ds, ∃ p, Gp p ∧ d = pd p) : ∃ ps : List P3, ds = ps.map pd ∧ ∀ p ∈ ps, Gp p := by
  induction ds with
  | nil => exact ⟨[], rfl, fun p m => absurd m (by simp)⟩
  | cons d ds ih =>
    obtain ⟨p, hp, rfl⟩ := h d List.mem_cons_self
    obtain ⟨ps, rfl, hps⟩ := ih fun d m => h d (List.mem_cons_of_mem _ m)
    exact ⟨p :: ps, rfl, fun q m => by
      rcases List.mem_cons.mp m with rfl | m
      · exact hp
      · exact hps q m⟩
noncomputable def lapB2 : GS := (sSeq (sAsg (gCall 1 m__law_text (PN.gCons (gVar 5) PN.gNil)) (tName 6))
    (sSeq (sAsg (gPN pTup (PN.gCons (gP2 pIx (gPN pLst (PN.gCons (gCall 2 m__law_draw (PN.gCons (gVar 1) (PN.gCons (gC (.dat (.int 99))) PN.gNil))) (PN.gCons (gC (.dat (.int 99999))) (PN.gCons (gC (.dat (.int 0))) PN.gNil)))) (gCall 2 m__law_draw (PN.gCons (gVar 1) (PN.gCons (gC (.dat (.int 3))) PN.gNil)))) (PN.gCons (gP2 pIx (gPN pLst (PN.gCons (gC (.dat (.int 0))) (PN.gCons (gC (.dat (.int 7))) (PN.gCons (gC (.dat (.int 999))) PN.gNil)))) (gCall 2 m__law_draw (PN.gCons (gVar 1) (PN.gCons (gC (.dat (.int 3))) PN.gNil)))) (PN.gCons (gCall 1 m__law_series (PN.gCons (gVar 1) PN.gNil)) PN.gNil)))) (tName 7))
    (sSeq (sAsg (gPN pLst (PN.gCons (gCall 1 m_shown_runs (PN.gCons (gVar 3) PN.gNil)) (PN.gCons (gCall 1 m_shown_row (PN.gCons (gVar 5) PN.gNil)) (PN.gCons (gCall 1 m_shown_name (PN.gCons (gVar 7) PN.gNil)) PN.gNil)))) (tName 8))
    (sSeq (sIf (gNot (gCall 2 m__law_same (PN.gCons (gVar 8) (PN.gCons (gPN pLst (PN.gCons (gVar 4) (PN.gCons (gVar 6) (PN.gCons (gP2 pAdd (gP2 pAdd (gP2 pAdd (gP2 pAdd (gPN pStr (PN.gCons (gP2 pIx (gVar 7) (gC (.dat (.int 0)))) PN.gNil)) (gC (.dat (.str ".")))) (gPN pStr (PN.gCons (gP2 pIx (gVar 7) (gC (.dat (.int 1)))) PN.gNil))) (gC (.dat (.str ".")))) (gP2 pIx (gVar 7) (gC (.dat (.int 2))))) PN.gNil)))) PN.gNil)))) (sRet (gC (.dat (.bool false)))) sPass)
    (sSeq (sFor (gRange1 (PN.gCons (gC (.dat (.int 2))) PN.gNil)) (tName 9) (sSeq (sIf (gNot (gCall 2 m__law_same (PN.gCons (gCall 2 m__law_read (PN.gCons (gC (.fn "read_runs")) (PN.gCons (gVar 4) PN.gNil))) (PN.gCons (gPN pTup (PN.gCons (gC (.dat (.str "told"))) (PN.gCons (gVar 3) PN.gNil))) PN.gNil)))) (sRet (gC (.dat (.bool false)))) sPass)
    (sSeq (sIf (gNot (gCall 2 m__law_same (PN.gCons (gCall 2 m__law_read (PN.gCons (gC (.fn "read_row_text")) (PN.gCons (gVar 6) PN.gNil))) (PN.gCons (gPN pTup (PN.gCons (gC (.dat (.str "told"))) (PN.gCons (gVar 5) PN.gNil))) PN.gNil)))) (sRet (gC (.dat (.bool false)))) sPass)
    (sSeq (sAsg (gIf (gCall 1 m__law_are_runs (PN.gCons (gVar 5) PN.gNil)) (gPN pTup (PN.gCons (gC (.dat (.str "told"))) (PN.gCons (gVar 5) PN.gNil))) (gPN pTup (PN.gCons (gC (.dat (.str "no"))) (PN.gCons (gC (.dat (.int 0))) (PN.gCons (gC (.dat (.int 0))) PN.gNil))))) (tName 10))
    (sIf (gNot (gCall 2 m__law_same (PN.gCons (gCall 2 m__law_read (PN.gCons (gC (.fn "read_runs")) (PN.gCons (gVar 6) PN.gNil))) (PN.gCons (gVar 10) PN.gNil)))) (sRet (gC (.dat (.bool false)))) sPass)))))
    (sSeq (sAsg (gIf (gP2 pGt (gPN pLen (PN.gCons (gVar 3) PN.gNil)) (gC (.dat (.int 0)))) (gPN pTup (PN.gCons (gC (.dat (.str "told"))) (PN.gCons (gVar 3) PN.gNil))) (gPN pTup (PN.gCons (gC (.dat (.str "no"))) (PN.gCons (gC (.dat (.int 0))) (PN.gCons (gC (.dat (.int 0))) PN.gNil))))) (tName 10))
    (sSeq (sIf (gNot (gCall 2 m__law_same (PN.gCons (gCall 2 m__law_read (PN.gCons (gC (.fn "read_row_text")) (PN.gCons (gVar 4) PN.gNil))) (PN.gCons (gVar 10) PN.gNil)))) (sRet (gC (.dat (.bool false)))) sPass)
    (sIf (gOr (gP2 pNe (gCall 2 m__law_read (PN.gCons (gC (.fn "read_runs")) (PN.gCons (gP2 pAdd (gVar 4) (gC (.dat (.str " ")))) PN.gNil))) (gPN pTup (PN.gCons (gC (.dat (.str "no"))) (PN.gCons (gC (.dat (.int 0))) (PN.gCons (gC (.dat (.int 1))) PN.gNil))))) (gP2 pNe (gCall 2 m__law_read (PN.gCons (gC (.fn "read_row_text")) (PN.gCons (gP2 pAdd (gVar 6) (gC (.dat (.str " ")))) PN.gNil))) (gPN pTup (PN.gCons (gC (.dat (.str "no"))) (PN.gCons (gC (.dat (.int 0))) (PN.gCons (gC (.dat (.int 1))) PN.gNil)))))) (sRet (gC (.dat (.bool false)))) sPass))))))))
theorem rest_ok (c : List Int) (s0 : S) (x2 x6 x7 x8 x9 x10 x11 x12 : Option S) (a4 : Nat) (r4 : Int) (ha : a4 + 10 ≤ 10 ^ 9) (k4 : 0 ≤ r4) {ps qs : List P3} (hp : ∀ p ∈ ps, Gp p) (hq : ∀ p ∈ qs, Gp p) (lp : ps.length ≤ 1000) (lq : qs.length ≤ 1000) (hc : chain ps = true) (hne : qs ≠ []) : ∃ (y6 y7 y8 y9 y10 : Option S) (a' : Nat) (r' : Int),
    lapB2 [some s0, some (.ref 0), x2, some (.dat (.tuple (ps.map pd))), some (.dat (.str (shownT ps))), some (.dat (.tuple (qs.map pd))), x6, x7, x8, x9, x10, x11, x12] [fcell (c.map .int) a4 r4] = .nx [some s0, some (.ref 0), x2, some (.dat (.tuple (ps.map pd))), some (.dat (.str (shownT ps))), some (.dat (.tuple (qs.map pd))), y6, y7, y8, y9, y10, x11, x12] [fcell (c.map .int) a' r'] ∧ a' ≤ a4 + 10 ∧ 0 ≤ r' := by
  have fl : ∀ a r, Flat [fcell (c.map .int) a r] := fun a r => flat_feed Flat.nil
  obtain ⟨_, a5, r5, e5, g5, k5, i5, rfl, l5, u5⟩ := draw_ok c 99 (by decide) (by decide) a4 r4 [] (by omega) k4 Flat.nil
  obtain ⟨_, a6, r6, e6, g6, k6, i6, rfl, l6, u6⟩ := draw_ok c 3 (by decide) (by decide) a5 r5 [] (by omega) k5 Flat.nil
  obtain ⟨_, a7, r7, e7, g7, k7, i7, rfl, l7, u7⟩ := draw_ok c 3 (by decide) (by decide) a6 r6 [] (by omega) k6 Flat.nil
  obtain ⟨_, a8, r8, e8, g8, k8, s, hs, rfl⟩ := series_ok c a7 r7 [] (by omega) k7 Flat.nil
  dsimp only at e5 e6 e7 e8
  obtain ⟨x, hx, ex⟩ := pick3 (w := i5) (x := 99999) (y := 0) l6 u6
  obtain ⟨y, hy, ey⟩ := pick3 (w := 0) (x := 7) (y := 999) l7 u7
  have hx' : 0 ≤ x ∧ x ≤ 99999 := by omega
  have hy' : 0 ≤ y ∧ y ≤ 999 := by omega
  have ls := words_len s hs
  have tn := numS_len (i := x) (by omega)
  have tm := numS_len (i := y) (by omega)
  have ld : (("." : String) : Str).length = 1 := rfl
  unfold lapB2
  simp -implicitDefEqProofs only [e_P2, e_k2, e_k1, e_P1, e_k0, e_lift, e_C, gVar, e_nil, e_cons, e_kc, e_kd, e_PN, e_kN, e_call, e_kCall, e_if, e_kIf_t, e_kIf_f, e_and, e_kAnd_t, e_kAnd_f, e_or, e_kOr_t, e_kOr_f, e_not, e_kNot, e_seq, e_kS_nx, e_kS_ret, e_kS_brk, e_kS_ct, e_kS_exc, e_pass, e_brk, e_ct, e_sif, e_kSIf_t, e_kSIf_f, e_asg, e_kAsg, e_kO, e_name, e_ret, e_kRet, e_kRet_x, e_drop, e_kDrop, e_set, e_kSet, e_kSet2, e_kSet3, e_kSet4, e_fn, e_kFn_ret, e_kFn_nx, e_kFn_exc, e_fnK, e_kFnK_ret, e_mt, e_kMt2, e_isi, e_kIs, e_kI, e_chain, e_kCh, e_kCh2, e_kCh3_t, e_kCh3_f, e_shut, e_kSh, e_sl, e_kSl, e_kSl2n, e_kSl2i, e_kSl3, e_part, e_kPart, List.map_cons, List.map_nil, List.length_cons, List.length_nil, List.replicate, List.cons_append, List.nil_append, List.getElem?_cons_zero, List.getElem?_cons_succ, List.set_cons_zero, List.set_cons_succ, Nat.reduceSub, Nat.reduceAdd, Nat.zero_add, if_true, if_false, reduceIte, p_ix, itemS, l_dat, l_scr, l_ref0, atI_0, atI_1, atI_2, atI_3, Option.map_some, Option.bind_some, p_gtI, p_ltI, p_geI, p_leI, p_ltS, p_eqI, p_neI, p_eqS, p_neS, p_addI, p_subI, p_negI, p_lenL, p_lenT, p_intB, v_dat, l_tup, a_tup, p_isN, p_notN, set_feed1, set_feed2, p_pow9, p_pow12, p_pow18, e_iter, e_kIter_t, e_kIter_l, e_kIter_s, e_r1, e_zip, e_kZip, zip2_t, zip2_l, e_for, e_kFor, e_lc, e_try, e_kTry_ret, e_raise, e_kRaise, e_callL, ts_nil, ts_cons, e_kMtS, gYes, x_k2, x_k1, x_kc, x_kd, x_kN, x_kCall, x_kIf, x_kSIf, x_kAsg, x_kDrop, Bool.false_eq_true, Bool.not_true, Bool.not_false, tup_2, tup_3, tup_4, p_tup0, p_lst0, p_tup1, p_lst1, p_tup2, p_lst2, p_tup3, p_lst3, p_tup4, p_lst4, p_tup5, p_lst5, p_tup6, p_lst6, p_tup7, p_lst7, p_tup8, p_lst8, law_text_ok hq lq (fl _ _), e5, e6, e7, e8, ex, ey, shown_runs_ok hp lp (fl _ _), shown_row_ok hq lq (fl _ _), shown_name_ok hx' hy' hs (fl _ _), p_strI (i := x) (by omega), p_strI (i := y) (by omega), p_addS' (x := numS x) (y := ".") (m := 19) (n := 1) tn (by decide) (by decide), p_addS' (x := numS x ++ ".") (y := numS y) (m := 20) (n := 19) (by rw [strLen_append]; omega) tm (by decide), p_addS' (x := numS x ++ "." ++ numS y) (y := ".") (m := 39) (n := 1) (by rw [strLen_append, strLen_append]; omega) (by decide) (by decide), p_addS' (x := numS x ++ "." ++ numS y ++ ".") (y := s) (m := 40) (n := 8) (by rw [strLen_append, strLen_append, strLen_append]; omega) ls (by decide)]
  have en : numS x ++ ("." : Str) ++ numS y ++ ("." : Str) ++ s = nameT x y s := rfl
  have nlen : (nameT x y s).length ≤ 60000 := by rw [← en, strLen_append, strLen_append, strLen_append, strLen_append]; omega
  have nsig : ∀ c ∈ (nameT x y s).cps.toList, c < 0x110000 := fun c m => by
    have m : c ∈ TL.tl (numS x ++ ("." : Str) ++ numS y ++ ("." : Str) ++ s) := m
    rw [TL.tl_append, TL.tl_append, TL.tl_append, TL.tl_append] at m
    simp only [List.mem_append] at m
    rcases m with (((m | m) | m) | m) | m
    · have := digits_numS hx'.1 c m; omega
    · have m : c ∈ [46] := m
      rw [List.mem_singleton.mp m]; omega
    · have := digits_numS hy'.1 c m; omega
    · have m : c ∈ [46] := m
      rw [List.mem_singleton.mp m]; omega
    · have := words_low s hs c m; omega
  have sm0 := Sm.lst (n := 600002) (k := 0) (ds := [.str (shownT ps), .str (rowT qs), .str (nameT x y s)]) fun d m => by
    simp only [List.mem_cons, List.not_mem_nil, or_false] at m
    rcases m with rfl | rfl | rfl
    · exact Sm.str (n := 60000) (fun c m => by have := shownT_signs hp c m; omega) (shownT_len hp lp)
    · exact Sm.str (n := 60000) (fun c m => by have := row_signs hq c m; omega) (row_len hq lq)
    · exact Sm.str (n := 60000) nsig nlen
  have sm : Sm 2000000 1 (.list [.str (shownT ps), .str (rowT qs), .str (nameT x y s)]) := sm0.up (by simp only [List.length_cons, List.length_nil]; omega) (Nat.le_refl _)
  have F8 := fl a8 r8
  have key := for_inv (t := tName 9) (body := turnB) (chk := fun _ => True) (I := fun _ r B => B = [fcell (c.map .int) a8 r8] ∧ ∃ z9 z10, r = [some s0, some (S.ref 0), x2, some (S.dat (PyData.tuple (List.map pd ps))), some (S.dat (PyData.str (shownT ps))), some (S.dat (PyData.tuple (List.map pd qs))), some (S.dat (PyData.str (rowT qs))), some (S.dat (PyData.tuple [PyData.int x, PyData.int y, PyData.str s])), some (S.dat (PyData.list [PyData.str (shownT ps), PyData.str (rowT qs), PyData.str (nameT x y s)])), z9, z10, x11, x12])
    (intsUp 0 (2 : Int).toNat) 0 _ _ (fun _ _ _ _ => trivial) (fun j z hz r B I => by
      obtain ⟨rfl, z9, z10, rfl⟩ := I
      exact ⟨_, rfl, _, _, .inl (turn_ok hp hq lp lq hc hne F8), rfl, _, _, rfl⟩) ⟨rfl, x9, x10, rfl⟩
  unfold turnB at key
  obtain ⟨r', B', ek, rfl, z9, z10, rfl⟩ := key
  rw [en, same_ok (B := [fcell (c.map .int) a8 r8]) sm (by decide) (by decide) F8]
  simp -implicitDefEqProofs only [e_P2, e_k2, e_k1, e_P1, e_k0, e_lift, e_C, gVar, e_nil, e_cons, e_kc, e_kd, e_PN, e_kN, e_call, e_kCall, e_if, e_kIf_t, e_kIf_f, e_and, e_kAnd_t, e_kAnd_f, e_or, e_kOr_t, e_kOr_f, e_not, e_kNot, e_seq, e_kS_nx, e_kS_ret, e_kS_brk, e_kS_ct, e_kS_exc, e_pass, e_brk, e_ct, e_sif, e_kSIf_t, e_kSIf_f, e_asg, e_kAsg, e_kO, e_name, e_ret, e_kRet, e_kRet_x, e_drop, e_kDrop, e_set, e_kSet, e_kSet2, e_kSet3, e_kSet4, e_fn, e_kFn_ret, e_kFn_nx, e_kFn_exc, e_fnK, e_kFnK_ret, e_mt, e_kMt2, e_isi, e_kIs, e_kI, e_chain, e_kCh, e_kCh2, e_kCh3_t, e_kCh3_f, e_shut, e_kSh, e_sl, e_kSl, e_kSl2n, e_kSl2i, e_kSl3, e_part, e_kPart, List.map_cons, List.map_nil, List.length_cons, List.length_nil, List.replicate, List.cons_append, List.nil_append, List.getElem?_cons_zero, List.getElem?_cons_succ, List.set_cons_zero, List.set_cons_succ, Nat.reduceSub, Nat.reduceAdd, Nat.zero_add, if_true, if_false, reduceIte, p_ix, itemS, l_dat, l_scr, l_ref0, atI_0, atI_1, atI_2, atI_3, Option.map_some, Option.bind_some, p_gtI, p_ltI, p_geI, p_leI, p_ltS, p_eqI, p_neI, p_eqS, p_neS, p_addI, p_subI, p_negI, p_lenL, p_lenT, p_intB, v_dat, l_tup, a_tup, p_isN, p_notN, set_feed1, set_feed2, p_pow9, p_pow12, p_pow18, e_iter, e_kIter_t, e_kIter_l, e_kIter_s, e_r1, e_zip, e_kZip, zip2_t, zip2_l, e_for, e_kFor, e_lc, e_try, e_kTry_ret, e_raise, e_kRaise, e_callL, ts_nil, ts_cons, e_kMtS, gYes, x_k2, x_k1, x_kc, x_kd, x_kN, x_kCall, x_kIf, x_kSIf, x_kAsg, x_kDrop, Bool.false_eq_true, Bool.not_true, Bool.not_false, tup_2, tup_3, tup_4, p_tup0, p_lst0, p_tup1, p_lst1, p_tup2, p_lst2, p_tup3, p_lst3, p_tup4, p_lst4, p_tup5, p_lst5, p_tup6, p_lst6, p_tup7, p_lst7, p_tup8, p_lst8, e_kR1 (show (0 : Int) ≤ 2 by decide) (show (2 : Int) ≤ 1000000 by decide)]
  rw [ek]
  have L4 := law_read_ok tb2 (rr_back hp lp F8) (Classical.byCases (p := ps = []) (fun e => .inr ⟨0, if_pos e⟩) (fun e => .inl ⟨_, if_neg e⟩)) F8
  have L5 : m__law_read [.fn "read_runs", .dat (.str (shownT ps ++ " "))] [fcell (c.map .int) a8 r8] = .ok (.dat (refused 1)) [fcell (c.map .int) a8 r8] := law_read_ok tb1 ((rr_more hp lp F8).resolve_right (by rw [hc]; simp)) (.inr ⟨1, rfl⟩) F8
  have L6 : m__law_read [.fn "read_row_text", .dat (.str (rowT qs ++ " "))] [fcell (c.map .int) a8 r8] = .ok (.dat (refused 1)) [fcell (c.map .int) a8 r8] := law_read_ok tb2 (rr_row_more hq lq F8 hne) (.inr ⟨1, rfl⟩) F8
  have ne1 : ∀ B, pNe [.dat (refused 1), .dat (refused 1)] B = some (.dat (.bool false), B) := fun B => by
    rw [p_nev (no_sm (by decide)) (no_sm (by decide)) (by decide) (by decide), (eqv_iff (refused 1) (refused 1) rfl rfl).mpr rfl]
    rfl
  have T1 : ∀ d : PyData, PyData.tuple [.str "told", d] = told d := fun _ => rfl
  have T2 : ∀ w : Int, PyData.tuple [.str "no", .int 0, .int w] = refused w := fun _ => rfl
  have A1 : ∀ B, pAdd [.dat (.str (shownT ps)), .dat (.str " ")] B = some (.dat (.str (shownT ps ++ " ")), B) := fun B => p_addS' (m := 60000) (n := 1) (shownT_len hp lp) (by decide) (by decide)
  have A2 : ∀ B, pAdd [.dat (.str (rowT qs)), .dat (.str " ")] B = some (.dat (.str (rowT qs ++ " ")), B) := fun B => p_addS' (m := 60000) (n := 1) (row_len hq lq) (by decide) (by decide)
  by_cases e : ps = []
  · rw [if_pos e] at L4
    have L4 : m__law_read [.fn "read_row_text", .dat (.str (shownT ps))] [fcell (c.map .int) a8 r8] = .ok (.dat (refused 0)) [fcell (c.map .int) a8 r8] := L4
    have S4 := same_ok (B := [fcell (c.map .int) a8 r8]) (no_sm (w := 0) (by decide)) (by decide) (by decide) F8
    simp -implicitDefEqProofs only [e_P2, e_k2, e_k1, e_P1, e_k0, e_lift, e_C, gVar, e_nil, e_cons, e_kc, e_kd, e_PN, e_kN, e_call, e_kCall, e_if, e_kIf_t, e_kIf_f, e_and, e_kAnd_t, e_kAnd_f, e_or, e_kOr_t, e_kOr_f, e_not, e_kNot, e_seq, e_kS_nx, e_kS_ret, e_kS_brk, e_kS_ct, e_kS_exc, e_pass, e_brk, e_ct, e_sif, e_kSIf_t, e_kSIf_f, e_asg, e_kAsg, e_kO, e_name, e_ret, e_kRet, e_kRet_x, e_drop, e_kDrop, e_set, e_kSet, e_kSet2, e_kSet3, e_kSet4, e_fn, e_kFn_ret, e_kFn_nx, e_kFn_exc, e_fnK, e_kFnK_ret, e_mt, e_kMt2, e_isi, e_kIs, e_kI, e_chain, e_kCh, e_kCh2, e_kCh3_t, e_kCh3_f, e_shut, e_kSh, e_sl, e_kSl, e_kSl2n, e_kSl2i, e_kSl3, e_part, e_kPart, List.map_cons, List.map_nil, List.length_cons, List.length_nil, List.replicate, List.cons_append, List.nil_append, List.getElem?_cons_zero, List.getElem?_cons_succ, List.set_cons_zero, List.set_cons_succ, Nat.reduceSub, Nat.reduceAdd, Nat.zero_add, if_true, if_false, reduceIte, p_ix, itemS, l_dat, l_scr, l_ref0, atI_0, atI_1, atI_2, atI_3, Option.map_some, Option.bind_some, p_gtI, p_ltI, p_geI, p_leI, p_ltS, p_eqI, p_neI, p_eqS, p_neS, p_addI, p_subI, p_negI, p_lenL, p_lenT, p_intB, v_dat, l_tup, a_tup, p_isN, p_notN, set_feed1, set_feed2, p_pow9, p_pow12, p_pow18, e_iter, e_kIter_t, e_kIter_l, e_kIter_s, e_r1, e_zip, e_kZip, zip2_t, zip2_l, e_for, e_kFor, e_lc, e_try, e_kTry_ret, e_raise, e_kRaise, e_callL, ts_nil, ts_cons, e_kMtS, gYes, x_k2, x_k1, x_kc, x_kd, x_kN, x_kCall, x_kIf, x_kSIf, x_kAsg, x_kDrop, Bool.false_eq_true, Bool.not_true, Bool.not_false, tup_2, tup_3, tup_4, p_tup0, p_lst0, p_tup1, p_lst1, p_tup2, p_lst2, p_tup3, p_lst3, p_tup4, p_lst4, p_tup5, p_lst5, p_tup6, p_lst6, p_tup7, p_lst7, p_tup8, p_lst8]
    rw [decide_eq_false (by rw [e]; decide)]
    simp -implicitDefEqProofs only [e_P2, e_k2, e_k1, e_P1, e_k0, e_lift, e_C, gVar, e_nil, e_cons, e_kc, e_kd, e_PN, e_kN, e_call, e_kCall, e_if, e_kIf_t, e_kIf_f, e_and, e_kAnd_t, e_kAnd_f, e_or, e_kOr_t, e_kOr_f, e_not, e_kNot, e_seq, e_kS_nx, e_kS_ret, e_kS_brk, e_kS_ct, e_kS_exc, e_pass, e_brk, e_ct, e_sif, e_kSIf_t, e_kSIf_f, e_asg, e_kAsg, e_kO, e_name, e_ret, e_kRet, e_kRet_x, e_drop, e_kDrop, e_set, e_kSet, e_kSet2, e_kSet3, e_kSet4, e_fn, e_kFn_ret, e_kFn_nx, e_kFn_exc, e_fnK, e_kFnK_ret, e_mt, e_kMt2, e_isi, e_kIs, e_kI, e_chain, e_kCh, e_kCh2, e_kCh3_t, e_kCh3_f, e_shut, e_kSh, e_sl, e_kSl, e_kSl2n, e_kSl2i, e_kSl3, e_part, e_kPart, List.map_cons, List.map_nil, List.length_cons, List.length_nil, List.replicate, List.cons_append, List.nil_append, List.getElem?_cons_zero, List.getElem?_cons_succ, List.set_cons_zero, List.set_cons_succ, Nat.reduceSub, Nat.reduceAdd, Nat.zero_add, if_true, if_false, reduceIte, p_ix, itemS, l_dat, l_scr, l_ref0, atI_0, atI_1, atI_2, atI_3, Option.map_some, Option.bind_some, p_gtI, p_ltI, p_geI, p_leI, p_ltS, p_eqI, p_neI, p_eqS, p_neS, p_addI, p_subI, p_negI, p_lenL, p_lenT, p_intB, v_dat, l_tup, a_tup, p_isN, p_notN, set_feed1, set_feed2, p_pow9, p_pow12, p_pow18, e_iter, e_kIter_t, e_kIter_l, e_kIter_s, e_r1, e_zip, e_kZip, zip2_t, zip2_l, e_for, e_kFor, e_lc, e_try, e_kTry_ret, e_raise, e_kRaise, e_callL, ts_nil, ts_cons, e_kMtS, gYes, x_k2, x_k1, x_kc, x_kd, x_kN, x_kCall, x_kIf, x_kSIf, x_kAsg, x_kDrop, Bool.false_eq_true, Bool.not_true, Bool.not_false, tup_2, tup_3, tup_4, p_tup0, p_lst0, p_tup1, p_lst1, p_tup2, p_lst2, p_tup3, p_lst3, p_tup4, p_lst4, p_tup5, p_lst5, p_tup6, p_lst6, p_tup7, p_lst7, p_tup8, p_lst8, T2, L4, S4, L5, L6, A1, A2, ne1]
    exact ⟨_, _, _, _, _, a8, r8, rfl, by omega, k8⟩
  · rw [if_neg e] at L4
    have L4 : m__law_read [.fn "read_row_text", .dat (.str (shownT ps))] [fcell (c.map .int) a8 r8] = .ok (.dat (told (.tuple (ps.map pd)))) [fcell (c.map .int) a8 r8] := L4
    have S4 := same_ok (B := [fcell (c.map .int) a8 r8]) (told_sm (row_sm' hp lp) (by decide)) (by decide) (by decide) F8
    have hpos : 0 < ps.length := List.length_pos_iff.mpr e
    simp -implicitDefEqProofs only [e_P2, e_k2, e_k1, e_P1, e_k0, e_lift, e_C, gVar, e_nil, e_cons, e_kc, e_kd, e_PN, e_kN, e_call, e_kCall, e_if, e_kIf_t, e_kIf_f, e_and, e_kAnd_t, e_kAnd_f, e_or, e_kOr_t, e_kOr_f, e_not, e_kNot, e_seq, e_kS_nx, e_kS_ret, e_kS_brk, e_kS_ct, e_kS_exc, e_pass, e_brk, e_ct, e_sif, e_kSIf_t, e_kSIf_f, e_asg, e_kAsg, e_kO, e_name, e_ret, e_kRet, e_kRet_x, e_drop, e_kDrop, e_set, e_kSet, e_kSet2, e_kSet3, e_kSet4, e_fn, e_kFn_ret, e_kFn_nx, e_kFn_exc, e_fnK, e_kFnK_ret, e_mt, e_kMt2, e_isi, e_kIs, e_kI, e_chain, e_kCh, e_kCh2, e_kCh3_t, e_kCh3_f, e_shut, e_kSh, e_sl, e_kSl, e_kSl2n, e_kSl2i, e_kSl3, e_part, e_kPart, List.map_cons, List.map_nil, List.length_cons, List.length_nil, List.replicate, List.cons_append, List.nil_append, List.getElem?_cons_zero, List.getElem?_cons_succ, List.set_cons_zero, List.set_cons_succ, Nat.reduceSub, Nat.reduceAdd, Nat.zero_add, if_true, if_false, reduceIte, p_ix, itemS, l_dat, l_scr, l_ref0, atI_0, atI_1, atI_2, atI_3, Option.map_some, Option.bind_some, p_gtI, p_ltI, p_geI, p_leI, p_ltS, p_eqI, p_neI, p_eqS, p_neS, p_addI, p_subI, p_negI, p_lenL, p_lenT, p_intB, v_dat, l_tup, a_tup, p_isN, p_notN, set_feed1, set_feed2, p_pow9, p_pow12, p_pow18, e_iter, e_kIter_t, e_kIter_l, e_kIter_s, e_r1, e_zip, e_kZip, zip2_t, zip2_l, e_for, e_kFor, e_lc, e_try, e_kTry_ret, e_raise, e_kRaise, e_callL, ts_nil, ts_cons, e_kMtS, gYes, x_k2, x_k1, x_kc, x_kd, x_kN, x_kCall, x_kIf, x_kSIf, x_kAsg, x_kDrop, Bool.false_eq_true, Bool.not_true, Bool.not_false, tup_2, tup_3, tup_4, p_tup0, p_lst0, p_tup1, p_lst1, p_tup2, p_lst2, p_tup3, p_lst3, p_tup4, p_lst4, p_tup5, p_lst5, p_tup6, p_lst6, p_tup7, p_lst7, p_tup8, p_lst8]
    rw [decide_eq_true (by rw [List.length_map]; omega)]
    simp -implicitDefEqProofs only [e_P2, e_k2, e_k1, e_P1, e_k0, e_lift, e_C, gVar, e_nil, e_cons, e_kc, e_kd, e_PN, e_kN, e_call, e_kCall, e_if, e_kIf_t, e_kIf_f, e_and, e_kAnd_t, e_kAnd_f, e_or, e_kOr_t, e_kOr_f, e_not, e_kNot, e_seq, e_kS_nx, e_kS_ret, e_kS_brk, e_kS_ct, e_kS_exc, e_pass, e_brk, e_ct, e_sif, e_kSIf_t, e_kSIf_f, e_asg, e_kAsg, e_kO, e_name, e_ret, e_kRet, e_kRet_x, e_drop, e_kDrop, e_set, e_kSet, e_kSet2, e_kSet3, e_kSet4, e_fn, e_kFn_ret, e_kFn_nx, e_kFn_exc, e_fnK, e_kFnK_ret, e_mt, e_kMt2, e_isi, e_kIs, e_kI, e_chain, e_kCh, e_kCh2, e_kCh3_t, e_kCh3_f, e_shut, e_kSh, e_sl, e_kSl, e_kSl2n, e_kSl2i, e_kSl3, e_part, e_kPart, List.map_cons, List.map_nil, List.length_cons, List.length_nil, List.replicate, List.cons_append, List.nil_append, List.getElem?_cons_zero, List.getElem?_cons_succ, List.set_cons_zero, List.set_cons_succ, Nat.reduceSub, Nat.reduceAdd, Nat.zero_add, if_true, if_false, reduceIte, p_ix, itemS, l_dat, l_scr, l_ref0, atI_0, atI_1, atI_2, atI_3, Option.map_some, Option.bind_some, p_gtI, p_ltI, p_geI, p_leI, p_ltS, p_eqI, p_neI, p_eqS, p_neS, p_addI, p_subI, p_negI, p_lenL, p_lenT, p_intB, v_dat, l_tup, a_tup, p_isN, p_notN, set_feed1, set_feed2, p_pow9, p_pow12, p_pow18, e_iter, e_kIter_t, e_kIter_l, e_kIter_s, e_r1, e_zip, e_kZip, zip2_t, zip2_l, e_for, e_kFor, e_lc, e_try, e_kTry_ret, e_raise, e_kRaise, e_callL, ts_nil, ts_cons, e_kMtS, gYes, x_k2, x_k1, x_kc, x_kd, x_kN, x_kCall, x_kIf, x_kSIf, x_kAsg, x_kDrop, Bool.false_eq_true, Bool.not_true, Bool.not_false, tup_2, tup_3, tup_4, p_tup0, p_lst0, p_tup1, p_lst1, p_tup2, p_lst2, p_tup3, p_lst3, p_tup4, p_lst4, p_tup5, p_lst5, p_tup6, p_lst6, p_tup7, p_lst7, p_tup8, p_lst8, T1, T2, L4, S4, L5, L6, A1, A2, ne1]
    exact ⟨_, _, _, _, _, a8, r8, rfl, by omega, k8⟩
theorem lap_ok (c : List Int) (s0 : S) (x2 x3 x4 x5 x6 x7 x8 x9 x10 x11 x12 : Option S) (a : Nat) (r : Int) (ha : a + 400 ≤ 10 ^ 9) (hr : 0 ≤ r) : ∃ (y3 y4 y5 y6 y7 y8 y9 y10 : Option S) (a' : Nat) (r' : Int),
    lapB [some s0, some (.ref 0), x2, x3, x4, x5, x6, x7, x8, x9, x10, x11, x12] [fcell (c.map .int) a r] = .nx [some s0, some (.ref 0), x2, y3, y4, y5, y6, y7, y8, y9, y10, x11, x12] [fcell (c.map .int) a' r'] ∧ a' ≤ a + 400 ∧ 0 ≤ r' := by
  obtain ⟨_, a1, r1, e1, g1, k1, ps, rfl, hp, hc, lp⟩ := runs_ok c a r [] (by omega) hr Flat.nil
  obtain ⟨_, a2, r2, e2, g2, k2, i2, rfl, l2, u2⟩ := draw_ok c 6 (by decide) (by decide) a1 r1 [] (by omega) k1 Flat.nil
  dsimp only at e1 e2
  have lp' : ps.length ≤ 1000 := by omega
  have fl : ∀ a r, Flat [fcell (c.map .int) a r] := fun a r => flat_feed Flat.nil
  have hlen : (intsUp 0 (1 + i2).toNat).length = (1 + i2).toNat := by unfold intsUp; simp
  obtain ⟨ds, a3, r3, e3, len3, P3', g3, k3⟩ := lc_draws (c := c.map .int) (D := 6) (P := fun d => ∃ p, Gp p ∧ d = pd p) (t := tName 12) (gt := gYes) (ge := gCall 1 m__law_piece (PN.gCons (gVar 1) PN.gNil)) (r := [some s0, some (.ref 0), x2, some (.dat (.tuple (ps.map pd))), some (.dat (.str (shownT ps))), x5, x6, x7, x8, x9, x10, x11, none]) (chk := fun _ => True) (fun _ => trivial) (intsUp 0 (1 + i2).toNat) [] a2 r2 []
    (fun x hx => ⟨[some s0, some (.ref 0), x2, some (.dat (.tuple (ps.map pd))), some (.dat (.str (shownT ps))), x5, x6, x7, x8, x9, x10, x11, some x], rfl, fun _ => rfl, fun a r B0 ha hr hB => by
      obtain ⟨d, a', r', e, q⟩ := piece_ok c a r B0 ha hr hB
      exact ⟨d, a', r', by simp -implicitDefEqProofs only [e_P2, e_k2, e_k1, e_P1, e_k0, e_lift, e_C, gVar, e_nil, e_cons, e_kc, e_kd, e_PN, e_kN, e_call, e_kCall, e_if, e_kIf_t, e_kIf_f, e_and, e_kAnd_t, e_kAnd_f, e_or, e_kOr_t, e_kOr_f, e_not, e_kNot, e_seq, e_kS_nx, e_kS_ret, e_kS_brk, e_kS_ct, e_kS_exc, e_pass, e_brk, e_ct, e_sif, e_kSIf_t, e_kSIf_f, e_asg, e_kAsg, e_kO, e_name, e_ret, e_kRet, e_kRet_x, e_drop, e_kDrop, e_set, e_kSet, e_kSet2, e_kSet3, e_kSet4, e_fn, e_kFn_ret, e_kFn_nx, e_kFn_exc, e_fnK, e_kFnK_ret, e_mt, e_kMt2, e_isi, e_kIs, e_kI, e_chain, e_kCh, e_kCh2, e_kCh3_t, e_kCh3_f, e_shut, e_kSh, e_sl, e_kSl, e_kSl2n, e_kSl2i, e_kSl3, e_part, e_kPart, List.map_cons, List.map_nil, List.length_cons, List.length_nil, List.replicate, List.cons_append, List.nil_append, List.getElem?_cons_zero, List.getElem?_cons_succ, List.set_cons_zero, List.set_cons_succ, Nat.reduceSub, Nat.reduceAdd, Nat.zero_add, if_true, if_false, reduceIte, p_ix, itemS, l_dat, l_scr, l_ref0, atI_0, atI_1, atI_2, atI_3, Option.map_some, Option.bind_some, p_gtI, p_ltI, p_geI, p_leI, p_ltS, p_eqI, p_neI, p_eqS, p_neS, p_addI, p_subI, p_negI, p_lenL, p_lenT, p_intB, v_dat, l_tup, a_tup, p_isN, p_notN, set_feed1, set_feed2, p_pow9, p_pow12, p_pow18, e_iter, e_kIter_t, e_kIter_l, e_kIter_s, e_r1, e_zip, e_kZip, zip2_t, zip2_l, e_for, e_kFor, e_lc, e_try, e_kTry_ret, e_raise, e_kRaise, e_callL, ts_nil, ts_cons, e_kMtS, gYes, x_k2, x_k1, x_kc, x_kd, x_kN, x_kCall, x_kIf, x_kSIf, x_kAsg, x_kDrop, Bool.false_eq_true, Bool.not_true, Bool.not_false, tup_2, tup_3, tup_4, p_tup0, p_lst0, p_tup1, p_lst1, p_tup2, p_lst2, p_tup3, p_lst3, p_tup4, p_lst4, p_tup5, p_lst5, p_tup6, p_lst6, p_tup7, p_lst7, p_tup8, p_lst8]; exact e, q⟩⟩) (by rw [hlen]; omega) k2 Flat.nil
  rw [hlen] at g3 len3
  obtain ⟨qs0, rfl, hq0⟩ := pieces_of P3'
  rw [List.length_map] at len3
  rw [List.map_nil, List.nil_append] at e3
  obtain ⟨_, a4, r4, e4, g4, k4, i4, rfl, l4, u4⟩ := draw_ok c 3 (by decide) (by decide) a3 r3 [] (by omega) k3 Flat.nil
  obtain ⟨_, a5, r5, e5, g5, k5, i5, rfl, l5, u5⟩ := draw_ok c 99 (by decide) (by decide) a4 r4 [] (by omega) k4 Flat.nil
  obtain ⟨_, a6, r6, e6, g6, k6, i6, rfl, l6, u6⟩ := draw_ok c 3 (by decide) (by decide) a5 r5 [] (by omega) k5 Flat.nil
  obtain ⟨_, a7, r7, e7, g7, k7, i7, rfl, l7, u7⟩ := draw_ok c 3 (by decide) (by decide) a6 r6 [] (by omega) k6 Flat.nil
  obtain ⟨_, a8, r8, e8, g8, k8, s, hs, rfl⟩ := series_ok c a7 r7 [] (by omega) k7 Flat.nil
  dsimp only at e4 e5 e6 e7 e8
  obtain ⟨x, hx, ex⟩ := pick3 (w := i5) (x := 99999) (y := 0) l6 u6
  obtain ⟨y, hy, ey⟩ := pick3 (w := 0) (x := 7) (y := 999) l7 u7
  have hx' : 0 ≤ x ∧ x ≤ 99999 := by omega
  have hy' : 0 ≤ y ∧ y ≤ 999 := by omega
  -- the text of the runs
  have tx : ∀ B, Flat B → Ev.kIf (.ok (.dat (.bool (decide (0 < ((ps.map pd).length : Int))))) B) (gCall 1 m__law_text (PN.gCons (gVar 3) PN.gNil)) (gC (.dat (.str "-"))) [some s0, some (.ref 0), x2, some (.dat (.tuple (ps.map pd))), x4, x5, x6, x7, x8, x9, x10, x11, x12] = .ok (.dat (.str (shownT ps))) B := fun B hB => by
    unfold shownT
    by_cases e : ps = []
    · rw [if_pos e, e]
      simp -implicitDefEqProofs only [e_P2, e_k2, e_k1, e_P1, e_k0, e_lift, e_C, gVar, e_nil, e_cons, e_kc, e_kd, e_PN, e_kN, e_call, e_kCall, e_if, e_kIf_t, e_kIf_f, e_and, e_kAnd_t, e_kAnd_f, e_or, e_kOr_t, e_kOr_f, e_not, e_kNot, e_seq, e_kS_nx, e_kS_ret, e_kS_brk, e_kS_ct, e_kS_exc, e_pass, e_brk, e_ct, e_sif, e_kSIf_t, e_kSIf_f, e_asg, e_kAsg, e_kO, e_name, e_ret, e_kRet, e_kRet_x, e_drop, e_kDrop, e_set, e_kSet, e_kSet2, e_kSet3, e_kSet4, e_fn, e_kFn_ret, e_kFn_nx, e_kFn_exc, e_fnK, e_kFnK_ret, e_mt, e_kMt2, e_isi, e_kIs, e_kI, e_chain, e_kCh, e_kCh2, e_kCh3_t, e_kCh3_f, e_shut, e_kSh, e_sl, e_kSl, e_kSl2n, e_kSl2i, e_kSl3, e_part, e_kPart, List.map_cons, List.map_nil, List.length_cons, List.length_nil, List.replicate, List.cons_append, List.nil_append, List.getElem?_cons_zero, List.getElem?_cons_succ, List.set_cons_zero, List.set_cons_succ, Nat.reduceSub, Nat.reduceAdd, Nat.zero_add, if_true, if_false, reduceIte, p_ix, itemS, l_dat, l_scr, l_ref0, atI_0, atI_1, atI_2, atI_3, Option.map_some, Option.bind_some, p_gtI, p_ltI, p_geI, p_leI, p_ltS, p_eqI, p_neI, p_eqS, p_neS, p_addI, p_subI, p_negI, p_lenL, p_lenT, p_intB, v_dat, l_tup, a_tup, p_isN, p_notN, set_feed1, set_feed2, p_pow9, p_pow12, p_pow18, e_iter, e_kIter_t, e_kIter_l, e_kIter_s, e_r1, e_zip, e_kZip, zip2_t, zip2_l, e_for, e_kFor, e_lc, e_try, e_kTry_ret, e_raise, e_kRaise, e_callL, ts_nil, ts_cons, e_kMtS, gYes, x_k2, x_k1, x_kc, x_kd, x_kN, x_kCall, x_kIf, x_kSIf, x_kAsg, x_kDrop, Bool.false_eq_true, Bool.not_true, Bool.not_false, tup_2, tup_3, tup_4, p_tup0, p_lst0, p_tup1, p_lst1, p_tup2, p_lst2, p_tup3, p_lst3, p_tup4, p_lst4, p_tup5, p_lst5, p_tup6, p_lst6, p_tup7, p_lst7, p_tup8, p_lst8]
      rw [decide_eq_false (by decide)]
      simp -implicitDefEqProofs only [e_P2, e_k2, e_k1, e_P1, e_k0, e_lift, e_C, gVar, e_nil, e_cons, e_kc, e_kd, e_PN, e_kN, e_call, e_kCall, e_if, e_kIf_t, e_kIf_f, e_and, e_kAnd_t, e_kAnd_f, e_or, e_kOr_t, e_kOr_f, e_not, e_kNot, e_seq, e_kS_nx, e_kS_ret, e_kS_brk, e_kS_ct, e_kS_exc, e_pass, e_brk, e_ct, e_sif, e_kSIf_t, e_kSIf_f, e_asg, e_kAsg, e_kO, e_name, e_ret, e_kRet, e_kRet_x, e_drop, e_kDrop, e_set, e_kSet, e_kSet2, e_kSet3, e_kSet4, e_fn, e_kFn_ret, e_kFn_nx, e_kFn_exc, e_fnK, e_kFnK_ret, e_mt, e_kMt2, e_isi, e_kIs, e_kI, e_chain, e_kCh, e_kCh2, e_kCh3_t, e_kCh3_f, e_shut, e_kSh, e_sl, e_kSl, e_kSl2n, e_kSl2i, e_kSl3, e_part, e_kPart, List.map_cons, List.map_nil, List.length_cons, List.length_nil, List.replicate, List.cons_append, List.nil_append, List.getElem?_cons_zero, List.getElem?_cons_succ, List.set_cons_zero, List.set_cons_succ, Nat.reduceSub, Nat.reduceAdd, Nat.zero_add, if_true, if_false, reduceIte, p_ix, itemS, l_dat, l_scr, l_ref0, atI_0, atI_1, atI_2, atI_3, Option.map_some, Option.bind_some, p_gtI, p_ltI, p_geI, p_leI, p_ltS, p_eqI, p_neI, p_eqS, p_neS, p_addI, p_subI, p_negI, p_lenL, p_lenT, p_intB, v_dat, l_tup, a_tup, p_isN, p_notN, set_feed1, set_feed2, p_pow9, p_pow12, p_pow18, e_iter, e_kIter_t, e_kIter_l, e_kIter_s, e_r1, e_zip, e_kZip, zip2_t, zip2_l, e_for, e_kFor, e_lc, e_try, e_kTry_ret, e_raise, e_kRaise, e_callL, ts_nil, ts_cons, e_kMtS, gYes, x_k2, x_k1, x_kc, x_kd, x_kN, x_kCall, x_kIf, x_kSIf, x_kAsg, x_kDrop, Bool.false_eq_true, Bool.not_true, Bool.not_false, tup_2, tup_3, tup_4, p_tup0, p_lst0, p_tup1, p_lst1, p_tup2, p_lst2, p_tup3, p_lst3, p_tup4, p_lst4, p_tup5, p_lst5, p_tup6, p_lst6, p_tup7, p_lst7, p_tup8, p_lst8]
    · have hpos : 0 < ps.length := List.length_pos_iff.mpr e
      rw [if_neg e, decide_eq_true (by rw [List.length_map]; omega)]
      simp -implicitDefEqProofs only [e_P2, e_k2, e_k1, e_P1, e_k0, e_lift, e_C, gVar, e_nil, e_cons, e_kc, e_kd, e_PN, e_kN, e_call, e_kCall, e_if, e_kIf_t, e_kIf_f, e_and, e_kAnd_t, e_kAnd_f, e_or, e_kOr_t, e_kOr_f, e_not, e_kNot, e_seq, e_kS_nx, e_kS_ret, e_kS_brk, e_kS_ct, e_kS_exc, e_pass, e_brk, e_ct, e_sif, e_kSIf_t, e_kSIf_f, e_asg, e_kAsg, e_kO, e_name, e_ret, e_kRet, e_kRet_x, e_drop, e_kDrop, e_set, e_kSet, e_kSet2, e_kSet3, e_kSet4, e_fn, e_kFn_ret, e_kFn_nx, e_kFn_exc, e_fnK, e_kFnK_ret, e_mt, e_kMt2, e_isi, e_kIs, e_kI, e_chain, e_kCh, e_kCh2, e_kCh3_t, e_kCh3_f, e_shut, e_kSh, e_sl, e_kSl, e_kSl2n, e_kSl2i, e_kSl3, e_part, e_kPart, List.map_cons, List.map_nil, List.length_cons, List.length_nil, List.replicate, List.cons_append, List.nil_append, List.getElem?_cons_zero, List.getElem?_cons_succ, List.set_cons_zero, List.set_cons_succ, Nat.reduceSub, Nat.reduceAdd, Nat.zero_add, if_true, if_false, reduceIte, p_ix, itemS, l_dat, l_scr, l_ref0, atI_0, atI_1, atI_2, atI_3, Option.map_some, Option.bind_some, p_gtI, p_ltI, p_geI, p_leI, p_ltS, p_eqI, p_neI, p_eqS, p_neS, p_addI, p_subI, p_negI, p_lenL, p_lenT, p_intB, v_dat, l_tup, a_tup, p_isN, p_notN, set_feed1, set_feed2, p_pow9, p_pow12, p_pow18, e_iter, e_kIter_t, e_kIter_l, e_kIter_s, e_r1, e_zip, e_kZip, zip2_t, zip2_l, e_for, e_kFor, e_lc, e_try, e_kTry_ret, e_raise, e_kRaise, e_callL, ts_nil, ts_cons, e_kMtS, gYes, x_k2, x_k1, x_kc, x_kd, x_kN, x_kCall, x_kIf, x_kSIf, x_kAsg, x_kDrop, Bool.false_eq_true, Bool.not_true, Bool.not_false, tup_2, tup_3, tup_4, p_tup0, p_lst0, p_tup1, p_lst1, p_tup2, p_lst2, p_tup3, p_lst3, p_tup4, p_lst4, p_tup5, p_lst5, p_tup6, p_lst6, p_tup7, p_lst7, p_tup8, p_lst8, law_text_ok hp lp' hB]
  unfold lapB
  simp -implicitDefEqProofs only [e_P2, e_k2, e_k1, e_P1, e_k0, e_lift, e_C, gVar, e_nil, e_cons, e_kc, e_kd, e_PN, e_kN, e_call, e_kCall, e_if, e_kIf_t, e_kIf_f, e_and, e_kAnd_t, e_kAnd_f, e_or, e_kOr_t, e_kOr_f, e_not, e_kNot, e_seq, e_kS_nx, e_kS_ret, e_kS_brk, e_kS_ct, e_kS_exc, e_pass, e_brk, e_ct, e_sif, e_kSIf_t, e_kSIf_f, e_asg, e_kAsg, e_kO, e_name, e_ret, e_kRet, e_kRet_x, e_drop, e_kDrop, e_set, e_kSet, e_kSet2, e_kSet3, e_kSet4, e_fn, e_kFn_ret, e_kFn_nx, e_kFn_exc, e_fnK, e_kFnK_ret, e_mt, e_kMt2, e_isi, e_kIs, e_kI, e_chain, e_kCh, e_kCh2, e_kCh3_t, e_kCh3_f, e_shut, e_kSh, e_sl, e_kSl, e_kSl2n, e_kSl2i, e_kSl3, e_part, e_kPart, List.map_cons, List.map_nil, List.length_cons, List.length_nil, List.replicate, List.cons_append, List.nil_append, List.getElem?_cons_zero, List.getElem?_cons_succ, List.set_cons_zero, List.set_cons_succ, Nat.reduceSub, Nat.reduceAdd, Nat.zero_add, if_true, if_false, reduceIte, p_ix, itemS, l_dat, l_scr, l_ref0, atI_0, atI_1, atI_2, atI_3, Option.map_some, Option.bind_some, p_gtI, p_ltI, p_geI, p_leI, p_ltS, p_eqI, p_neI, p_eqS, p_neS, p_addI, p_subI, p_negI, p_lenL, p_lenT, p_intB, v_dat, l_tup, a_tup, p_isN, p_notN, set_feed1, set_feed2, p_pow9, p_pow12, p_pow18, e_iter, e_kIter_t, e_kIter_l, e_kIter_s, e_r1, e_zip, e_kZip, zip2_t, zip2_l, e_for, e_kFor, e_lc, e_try, e_kTry_ret, e_raise, e_kRaise, e_callL, ts_nil, ts_cons, e_kMtS, gYes, x_k2, x_k1, x_kc, x_kd, x_kN, x_kCall, x_kIf, x_kSIf, x_kAsg, x_kDrop, Bool.false_eq_true, Bool.not_true, Bool.not_false, tup_2, tup_3, tup_4, p_tup0, p_lst0, p_tup1, p_lst1, p_tup2, p_lst2, p_tup3, p_lst3, p_tup4, p_lst4, p_tup5, p_lst5, p_tup6, p_lst6, p_tup7, p_lst7, p_tup8, p_lst8, e1]
  rw [tx _ (fl _ _)]
  simp -implicitDefEqProofs only [e_P2, e_k2, e_k1, e_P1, e_k0, e_lift, e_C, gVar, e_nil, e_cons, e_kc, e_kd, e_PN, e_kN, e_call, e_kCall, e_if, e_kIf_t, e_kIf_f, e_and, e_kAnd_t, e_kAnd_f, e_or, e_kOr_t, e_kOr_f, e_not, e_kNot, e_seq, e_kS_nx, e_kS_ret, e_kS_brk, e_kS_ct, e_kS_exc, e_pass, e_brk, e_ct, e_sif, e_kSIf_t, e_kSIf_f, e_asg, e_kAsg, e_kO, e_name, e_ret, e_kRet, e_kRet_x, e_drop, e_kDrop, e_set, e_kSet, e_kSet2, e_kSet3, e_kSet4, e_fn, e_kFn_ret, e_kFn_nx, e_kFn_exc, e_fnK, e_kFnK_ret, e_mt, e_kMt2, e_isi, e_kIs, e_kI, e_chain, e_kCh, e_kCh2, e_kCh3_t, e_kCh3_f, e_shut, e_kSh, e_sl, e_kSl, e_kSl2n, e_kSl2i, e_kSl3, e_part, e_kPart, List.map_cons, List.map_nil, List.length_cons, List.length_nil, List.replicate, List.cons_append, List.nil_append, List.getElem?_cons_zero, List.getElem?_cons_succ, List.set_cons_zero, List.set_cons_succ, Nat.reduceSub, Nat.reduceAdd, Nat.zero_add, if_true, if_false, reduceIte, p_ix, itemS, l_dat, l_scr, l_ref0, atI_0, atI_1, atI_2, atI_3, Option.map_some, Option.bind_some, p_gtI, p_ltI, p_geI, p_leI, p_ltS, p_eqI, p_neI, p_eqS, p_neS, p_addI, p_subI, p_negI, p_lenL, p_lenT, p_intB, v_dat, l_tup, a_tup, p_isN, p_notN, set_feed1, set_feed2, p_pow9, p_pow12, p_pow18, e_iter, e_kIter_t, e_kIter_l, e_kIter_s, e_r1, e_zip, e_kZip, zip2_t, zip2_l, e_for, e_kFor, e_lc, e_try, e_kTry_ret, e_raise, e_kRaise, e_callL, ts_nil, ts_cons, e_kMtS, gYes, x_k2, x_k1, x_kc, x_kd, x_kN, x_kCall, x_kIf, x_kSIf, x_kAsg, x_kDrop, Bool.false_eq_true, Bool.not_true, Bool.not_false, tup_2, tup_3, tup_4, p_tup0, p_lst0, p_tup1, p_lst1, p_tup2, p_lst2, p_tup3, p_lst3, p_tup4, p_lst4, p_tup5, p_lst5, p_tup6, p_lst6, p_tup7, p_lst7, p_tup8, p_lst8, e2, e_kR1 (show 0 ≤ 1 + i2 by omega) (show 1 + i2 ≤ 1000000 by omega)]
  rw [e_kLc (by rw [hlen]; omega)]
  simp -implicitDefEqProofs only [e_P2, e_k2, e_k1, e_P1, e_k0, e_lift, e_C, gVar, e_nil, e_cons, e_kc, e_kd, e_PN, e_kN, e_call, e_kCall, e_if, e_kIf_t, e_kIf_f, e_and, e_kAnd_t, e_kAnd_f, e_or, e_kOr_t, e_kOr_f, e_not, e_kNot, e_seq, e_kS_nx, e_kS_ret, e_kS_brk, e_kS_ct, e_kS_exc, e_pass, e_brk, e_ct, e_sif, e_kSIf_t, e_kSIf_f, e_asg, e_kAsg, e_kO, e_name, e_ret, e_kRet, e_kRet_x, e_drop, e_kDrop, e_set, e_kSet, e_kSet2, e_kSet3, e_kSet4, e_fn, e_kFn_ret, e_kFn_nx, e_kFn_exc, e_fnK, e_kFnK_ret, e_mt, e_kMt2, e_isi, e_kIs, e_kI, e_chain, e_kCh, e_kCh2, e_kCh3_t, e_kCh3_f, e_shut, e_kSh, e_sl, e_kSl, e_kSl2n, e_kSl2i, e_kSl3, e_part, e_kPart, List.map_cons, List.map_nil, List.length_cons, List.length_nil, List.replicate, List.cons_append, List.nil_append, List.getElem?_cons_zero, List.getElem?_cons_succ, List.set_cons_zero, List.set_cons_succ, Nat.reduceSub, Nat.reduceAdd, Nat.zero_add, if_true, if_false, reduceIte, p_ix, itemS, l_dat, l_scr, l_ref0, atI_0, atI_1, atI_2, atI_3, Option.map_some, Option.bind_some, p_gtI, p_ltI, p_geI, p_leI, p_ltS, p_eqI, p_neI, p_eqS, p_neS, p_addI, p_subI, p_negI, p_lenL, p_lenT, p_intB, v_dat, l_tup, a_tup, p_isN, p_notN, set_feed1, set_feed2, p_pow9, p_pow12, p_pow18, e_iter, e_kIter_t, e_kIter_l, e_kIter_s, e_r1, e_zip, e_kZip, zip2_t, zip2_l, e_for, e_kFor, e_lc, e_try, e_kTry_ret, e_raise, e_kRaise, e_callL, ts_nil, ts_cons, e_kMtS, gYes, x_k2, x_k1, x_kc, x_kd, x_kN, x_kCall, x_kIf, x_kSIf, x_kAsg, x_kDrop, Bool.false_eq_true, Bool.not_true, Bool.not_false, tup_2, tup_3, tup_4, p_tup0, p_lst0, p_tup1, p_lst1, p_tup2, p_lst2, p_tup3, p_lst3, p_tup4, p_lst4, p_tup5, p_lst5, p_tup6, p_lst6, p_tup7, p_lst7, p_tup8, p_lst8, wipeE]
  rw [e3]
  simp -implicitDefEqProofs only [e_P2, e_k2, e_k1, e_P1, e_k0, e_lift, e_C, gVar, e_nil, e_cons, e_kc, e_kd, e_PN, e_kN, e_call, e_kCall, e_if, e_kIf_t, e_kIf_f, e_and, e_kAnd_t, e_kAnd_f, e_or, e_kOr_t, e_kOr_f, e_not, e_kNot, e_seq, e_kS_nx, e_kS_ret, e_kS_brk, e_kS_ct, e_kS_exc, e_pass, e_brk, e_ct, e_sif, e_kSIf_t, e_kSIf_f, e_asg, e_kAsg, e_kO, e_name, e_ret, e_kRet, e_kRet_x, e_drop, e_kDrop, e_set, e_kSet, e_kSet2, e_kSet3, e_kSet4, e_fn, e_kFn_ret, e_kFn_nx, e_kFn_exc, e_fnK, e_kFnK_ret, e_mt, e_kMt2, e_isi, e_kIs, e_kI, e_chain, e_kCh, e_kCh2, e_kCh3_t, e_kCh3_f, e_shut, e_kSh, e_sl, e_kSl, e_kSl2n, e_kSl2i, e_kSl3, e_part, e_kPart, List.map_cons, List.map_nil, List.length_cons, List.length_nil, List.replicate, List.cons_append, List.nil_append, List.getElem?_cons_zero, List.getElem?_cons_succ, List.set_cons_zero, List.set_cons_succ, Nat.reduceSub, Nat.reduceAdd, Nat.zero_add, if_true, if_false, reduceIte, p_ix, itemS, l_dat, l_scr, l_ref0, atI_0, atI_1, atI_2, atI_3, Option.map_some, Option.bind_some, p_gtI, p_ltI, p_geI, p_leI, p_ltS, p_eqI, p_neI, p_eqS, p_neS, p_addI, p_subI, p_negI, p_lenL, p_lenT, p_intB, v_dat, l_tup, a_tup, p_isN, p_notN, set_feed1, set_feed2, p_pow9, p_pow12, p_pow18, e_iter, e_kIter_t, e_kIter_l, e_kIter_s, e_r1, e_zip, e_kZip, zip2_t, zip2_l, e_for, e_kFor, e_lc, e_try, e_kTry_ret, e_raise, e_kRaise, e_callL, ts_nil, ts_cons, e_kMtS, gYes, x_k2, x_k1, x_kc, x_kd, x_kN, x_kCall, x_kIf, x_kSIf, x_kAsg, x_kDrop, Bool.false_eq_true, Bool.not_true, Bool.not_false, tup_2, tup_3, tup_4, p_tup0, p_lst0, p_tup1, p_lst1, p_tup2, p_lst2, p_tup3, p_lst3, p_tup4, p_lst4, p_tup5, p_lst5, p_tup6, p_lst6, p_tup7, p_lst7, p_tup8, p_lst8]
  rw [p_lst (by rw [List.length_map]; exact sz_small (by omega))]
  simp -implicitDefEqProofs only [e_P2, e_k2, e_k1, e_P1, e_k0, e_lift, e_C, gVar, e_nil, e_cons, e_kc, e_kd, e_PN, e_kN, e_call, e_kCall, e_if, e_kIf_t, e_kIf_f, e_and, e_kAnd_t, e_kAnd_f, e_or, e_kOr_t, e_kOr_f, e_not, e_kNot, e_seq, e_kS_nx, e_kS_ret, e_kS_brk, e_kS_ct, e_kS_exc, e_pass, e_brk, e_ct, e_sif, e_kSIf_t, e_kSIf_f, e_asg, e_kAsg, e_kO, e_name, e_ret, e_kRet, e_kRet_x, e_drop, e_kDrop, e_set, e_kSet, e_kSet2, e_kSet3, e_kSet4, e_fn, e_kFn_ret, e_kFn_nx, e_kFn_exc, e_fnK, e_kFnK_ret, e_mt, e_kMt2, e_isi, e_kIs, e_kI, e_chain, e_kCh, e_kCh2, e_kCh3_t, e_kCh3_f, e_shut, e_kSh, e_sl, e_kSl, e_kSl2n, e_kSl2i, e_kSl3, e_part, e_kPart, List.map_cons, List.map_nil, List.length_cons, List.length_nil, List.replicate, List.cons_append, List.nil_append, List.getElem?_cons_zero, List.getElem?_cons_succ, List.set_cons_zero, List.set_cons_succ, Nat.reduceSub, Nat.reduceAdd, Nat.zero_add, if_true, if_false, reduceIte, p_ix, itemS, l_dat, l_scr, l_ref0, atI_0, atI_1, atI_2, atI_3, Option.map_some, Option.bind_some, p_gtI, p_ltI, p_geI, p_leI, p_ltS, p_eqI, p_neI, p_eqS, p_neS, p_addI, p_subI, p_negI, p_lenL, p_lenT, p_intB, v_dat, l_tup, a_tup, p_isN, p_notN, set_feed1, set_feed2, p_pow9, p_pow12, p_pow18, e_iter, e_kIter_t, e_kIter_l, e_kIter_s, e_r1, e_zip, e_kZip, zip2_t, zip2_l, e_for, e_kFor, e_lc, e_try, e_kTry_ret, e_raise, e_kRaise, e_callL, ts_nil, ts_cons, e_kMtS, gYes, x_k2, x_k1, x_kc, x_kd, x_kN, x_kCall, x_kIf, x_kSIf, x_kAsg, x_kDrop, Bool.false_eq_true, Bool.not_true, Bool.not_false, tup_2, tup_3, tup_4, p_tup0, p_lst0, p_tup1, p_lst1, p_tup2, p_lst2, p_tup3, p_lst3, p_tup4, p_lst4, p_tup5, p_lst5, p_tup6, p_lst6, p_tup7, p_lst7, p_tup8, p_lst8, p_tupleL, e4]
  have lq0 : qs0.length ≤ 1000 := by omega
  have hne0 : qs0 ≠ [] := fun e => by rw [e] at len3; simp at len3; omega
  have fin : ∀ qs : List P3, (∀ p ∈ qs, Gp p) → qs.length ≤ 1000 → qs ≠ [] → ∃ (y3 y4 y5 y6 y7 y8 y9 y10 : Option S) (a' : Nat) (r' : Int), lapB2 [some s0, some (.ref 0), x2, some (.dat (.tuple (ps.map pd))), some (.dat (.str (shownT ps))), some (.dat (.tuple (qs.map pd))), x6, x7, x8, x9, x10, x11, x12] [fcell (c.map .int) a4 r4] = .nx [some s0, some (.ref 0), x2, y3, y4, y5, y6, y7, y8, y9, y10, x11, x12] [fcell (c.map .int) a' r'] ∧ a' ≤ a + 400 ∧ 0 ≤ r' := fun qs hq lq hne => by
    obtain ⟨y6, y7, y8, y9, y10, a', r', e, g, k⟩ := rest_ok c s0 x2 x6 x7 x8 x9 x10 x11 x12 a4 r4 (by omega) k4 hp hq lp' lq hc hne
    exact ⟨_, _, _, y6, y7, y8, y9, y10, a', r', e, by omega, k⟩
  unfold lapB2 at fin
  by_cases q : i4 = 0
  · rw [decide_eq_true q]
    obtain ⟨p, rest, rfl⟩ : ∃ p rest, qs0 = p :: rest := by
      cases qs0 with
      | nil => exact absurd rfl hne0
      | cons p rest => exact ⟨p, rest, rfl⟩
    have f2 := fin (p :: p :: rest) (fun z m => by
      rcases List.mem_cons.mp m with rfl | m
      · exact hq0 _ List.mem_cons_self
      · exact hq0 z m) (by simp only [List.length_cons] at len3 ⊢; omega) (by simp)
    have lr : rest.length ≤ 900 := by rw [List.length_cons] at len3; omega
    simp -implicitDefEqProofs only [e_P2, e_k2, e_k1, e_P1, e_k0, e_lift, e_C, gVar, e_nil, e_cons, e_kc, e_kd, e_PN, e_kN, e_call, e_kCall, e_if, e_kIf_t, e_kIf_f, e_and, e_kAnd_t, e_kAnd_f, e_or, e_kOr_t, e_kOr_f, e_not, e_kNot, e_seq, e_kS_nx, e_kS_ret, e_kS_brk, e_kS_ct, e_kS_exc, e_pass, e_brk, e_ct, e_sif, e_kSIf_t, e_kSIf_f, e_asg, e_kAsg, e_kO, e_name, e_ret, e_kRet, e_kRet_x, e_drop, e_kDrop, e_set, e_kSet, e_kSet2, e_kSet3, e_kSet4, e_fn, e_kFn_ret, e_kFn_nx, e_kFn_exc, e_fnK, e_kFnK_ret, e_mt, e_kMt2, e_isi, e_kIs, e_kI, e_chain, e_kCh, e_kCh2, e_kCh3_t, e_kCh3_f, e_shut, e_kSh, e_sl, e_kSl, e_kSl2n, e_kSl2i, e_kSl3, e_part, e_kPart, List.map_cons, List.map_nil, List.length_cons, List.length_nil, List.replicate, List.cons_append, List.nil_append, List.getElem?_cons_zero, List.getElem?_cons_succ, List.set_cons_zero, List.set_cons_succ, Nat.reduceSub, Nat.reduceAdd, Nat.zero_add, if_true, if_false, reduceIte, p_ix, itemS, l_dat, l_scr, l_ref0, atI_0, atI_1, atI_2, atI_3, Option.map_some, Option.bind_some, p_gtI, p_ltI, p_geI, p_leI, p_ltS, p_eqI, p_neI, p_eqS, p_neS, p_addI, p_subI, p_negI, p_lenL, p_lenT, p_intB, v_dat, l_tup, a_tup, p_isN, p_notN, set_feed1, set_feed2, p_pow9, p_pow12, p_pow18, e_iter, e_kIter_t, e_kIter_l, e_kIter_s, e_r1, e_zip, e_kZip, zip2_t, zip2_l, e_for, e_kFor, e_lc, e_try, e_kTry_ret, e_raise, e_kRaise, e_callL, ts_nil, ts_cons, e_kMtS, gYes, x_k2, x_k1, x_kc, x_kd, x_kN, x_kCall, x_kIf, x_kSIf, x_kAsg, x_kDrop, Bool.false_eq_true, Bool.not_true, Bool.not_false, tup_2, tup_3, tup_4, p_tup0, p_lst0, p_tup1, p_lst1, p_tup2, p_lst2, p_tup3, p_lst3, p_tup4, p_lst4, p_tup5, p_lst5, p_tup6, p_lst6, p_tup7, p_lst7, p_tup8, p_lst8, slTo1, sl1, pd, List.take_succ_cons, List.take_zero, List.drop_succ_cons, List.drop_zero]
    rw [p_addT (i := [PyData.tuple [.str p.1, .int p.2.1, .int p.2.2]]) (j := [PyData.tuple [.str p.1, .int p.2.1, .int p.2.2]]) (sz_small (by simp))]
    simp -implicitDefEqProofs only [e_P2, e_k2, e_k1, e_P1, e_k0, e_lift, e_C, gVar, e_nil, e_cons, e_kc, e_kd, e_PN, e_kN, e_call, e_kCall, e_if, e_kIf_t, e_kIf_f, e_and, e_kAnd_t, e_kAnd_f, e_or, e_kOr_t, e_kOr_f, e_not, e_kNot, e_seq, e_kS_nx, e_kS_ret, e_kS_brk, e_kS_ct, e_kS_exc, e_pass, e_brk, e_ct, e_sif, e_kSIf_t, e_kSIf_f, e_asg, e_kAsg, e_kO, e_name, e_ret, e_kRet, e_kRet_x, e_drop, e_kDrop, e_set, e_kSet, e_kSet2, e_kSet3, e_kSet4, e_fn, e_kFn_ret, e_kFn_nx, e_kFn_exc, e_fnK, e_kFnK_ret, e_mt, e_kMt2, e_isi, e_kIs, e_kI, e_chain, e_kCh, e_kCh2, e_kCh3_t, e_kCh3_f, e_shut, e_kSh, e_sl, e_kSl, e_kSl2n, e_kSl2i, e_kSl3, e_part, e_kPart, List.map_cons, List.map_nil, List.length_cons, List.length_nil, List.replicate, List.cons_append, List.nil_append, List.getElem?_cons_zero, List.getElem?_cons_succ, List.set_cons_zero, List.set_cons_succ, Nat.reduceSub, Nat.reduceAdd, Nat.zero_add, if_true, if_false, reduceIte, p_ix, itemS, l_dat, l_scr, l_ref0, atI_0, atI_1, atI_2, atI_3, Option.map_some, Option.bind_some, p_gtI, p_ltI, p_geI, p_leI, p_ltS, p_eqI, p_neI, p_eqS, p_neS, p_addI, p_subI, p_negI, p_lenL, p_lenT, p_intB, v_dat, l_tup, a_tup, p_isN, p_notN, set_feed1, set_feed2, p_pow9, p_pow12, p_pow18, e_iter, e_kIter_t, e_kIter_l, e_kIter_s, e_r1, e_zip, e_kZip, zip2_t, zip2_l, e_for, e_kFor, e_lc, e_try, e_kTry_ret, e_raise, e_kRaise, e_callL, ts_nil, ts_cons, e_kMtS, gYes, x_k2, x_k1, x_kc, x_kd, x_kN, x_kCall, x_kIf, x_kSIf, x_kAsg, x_kDrop, Bool.false_eq_true, Bool.not_true, Bool.not_false, tup_2, tup_3, tup_4, p_tup0, p_lst0, p_tup1, p_lst1, p_tup2, p_lst2, p_tup3, p_lst3, p_tup4, p_lst4, p_tup5, p_lst5, p_tup6, p_lst6, p_tup7, p_lst7, p_tup8, p_lst8, sl1, List.drop_succ_cons, List.drop_zero]
    rw [p_addT (sz_small (by simp; omega))]
    simp -implicitDefEqProofs only [e_kAsg, e_kO, e_lift, e_name, e_kS_nx, List.set_cons_zero, List.set_cons_succ]
    exact f2
  · rw [decide_eq_false q]
    rw [e_kSIf_f, e_pass, e_kS_nx]
    exact fin qs0 hq0 lq0 hne0
end Lw

set_option maxRecDepth 100000
set_option maxHeartbeats 4000000
namespace Lw
open PySem L2 PN
theorem cutTo {α : Type} (xs : List α) (k : Nat) : cutL xs none (some (k : Int)) = xs.take k := by
  unfold cutL
  have e1 : HT.sIx xs.length 0 none = 0 := rfl
  have e2 : HT.sIx xs.length xs.length (some (k : Int)) = min k xs.length := by
    unfold HT.sIx
    simp
    try omega
  rw [e1, e2, List.drop_zero, Nat.sub_zero, List.take_eq_take_iff]
  omega
theorem feed_ok (ns : List Int) : m__law_feed [.scr ns] [] = .ok (.ref 0) [fcell ((ns.take 63).map .int) 0 0] := by
  have e : ∀ B, pSl [.scr ns, .dat .none, .dat (.int 63)] B = some (.dat (.list ((ns.take 63).map .int)), B) := fun B => by
    rw [p_sl (lo := none) (hi := some 63) rfl rfl]
    show (some (ns.map fun i => S.dat (.int i))).bind (fun ss => (datsOf (cutL ss none (some ((63 : Nat) : Int)))).map fun ds => (S.dat (.list ds), B)) = _
    rw [Option.bind_some, cutTo, ← List.map_take, show ((ns.take 63).map fun i => S.dat (.int i)) = ((ns.take 63).map PyData.int).map S.dat by rw [List.map_map]; rfl, datsOf_map]
    rfl
  unfold m__law_feed
  simp -implicitDefEqProofs only [e_P2, e_k2, e_k1, e_P1, e_k0, e_lift, e_C, gVar, e_nil, e_cons, e_kc, e_kd, e_PN, e_kN, e_call, e_kCall, e_if, e_kIf_t, e_kIf_f, e_and, e_kAnd_t, e_kAnd_f, e_or, e_kOr_t, e_kOr_f, e_not, e_kNot, e_seq, e_kS_nx, e_kS_ret, e_kS_brk, e_kS_ct, e_kS_exc, e_pass, e_brk, e_ct, e_sif, e_kSIf_t, e_kSIf_f, e_asg, e_kAsg, e_kO, e_name, e_ret, e_kRet, e_kRet_x, e_drop, e_kDrop, e_set, e_kSet, e_kSet2, e_kSet3, e_kSet4, e_fn, e_kFn_ret, e_kFn_nx, e_kFn_exc, e_fnK, e_kFnK_ret, e_mt, e_kMt2, e_isi, e_kIs, e_kI, e_chain, e_kCh, e_kCh2, e_kCh3_t, e_kCh3_f, e_shut, e_kSh, e_sl, e_kSl, e_kSl2n, e_kSl2i, e_kSl3, e_part, e_kPart, List.map_cons, List.map_nil, List.length_cons, List.length_nil, List.replicate, List.cons_append, List.nil_append, List.getElem?_cons_zero, List.getElem?_cons_succ, List.set_cons_zero, List.set_cons_succ, Nat.reduceSub, Nat.reduceAdd, Nat.zero_add, if_true, if_false, reduceIte, p_ix, itemS, l_dat, l_scr, l_ref0, atI_0, atI_1, atI_2, atI_3, Option.map_some, Option.bind_some, p_gtI, p_ltI, p_geI, p_leI, p_ltS, p_eqI, p_neI, p_eqS, p_neS, p_addI, p_subI, p_negI, p_lenL, p_lenT, p_intB, v_dat, l_tup, a_tup, p_isN, p_notN, set_feed1, set_feed2, p_pow9, p_pow12, p_pow18, e_iter, e_kIter_t, e_kIter_l, e_kIter_s, e_r1, e_zip, e_kZip, zip2_t, zip2_l, e_for, e_kFor, e_lc, e_try, e_kTry_ret, e_raise, e_kRaise, e_callL, ts_nil, ts_cons, e_kMtS, gYes, x_k2, x_k1, x_kc, x_kd, x_kN, x_kCall, x_kIf, x_kSIf, x_kAsg, x_kDrop, Bool.false_eq_true, Bool.not_true, Bool.not_false, tup_2, tup_3, tup_4, p_tup0, p_lst0, p_tup1, p_lst1, p_tup2, p_lst2, p_tup3, p_lst3, p_tup4, p_lst4, p_tup5, p_lst5, p_tup6, p_lst6, p_tup7, p_lst7, p_tup8, p_lst8]
  unfold b__law_feed
  simp -implicitDefEqProofs only [e_P2, e_k2, e_k1, e_P1, e_k0, e_lift, e_C, gVar, e_nil, e_cons, e_kc, e_kd, e_PN, e_kN, e_call, e_kCall, e_if, e_kIf_t, e_kIf_f, e_and, e_kAnd_t, e_kAnd_f, e_or, e_kOr_t, e_kOr_f, e_not, e_kNot, e_seq, e_kS_nx, e_kS_ret, e_kS_brk, e_kS_ct, e_kS_exc, e_pass, e_brk, e_ct, e_sif, e_kSIf_t, e_kSIf_f, e_asg, e_kAsg, e_kO, e_name, e_ret, e_kRet, e_kRet_x, e_drop, e_kDrop, e_set, e_kSet, e_kSet2, e_kSet3, e_kSet4, e_fn, e_kFn_ret, e_kFn_nx, e_kFn_exc, e_fnK, e_kFnK_ret, e_mt, e_kMt2, e_isi, e_kIs, e_kI, e_chain, e_kCh, e_kCh2, e_kCh3_t, e_kCh3_f, e_shut, e_kSh, e_sl, e_kSl, e_kSl2n, e_kSl2i, e_kSl3, e_part, e_kPart, List.map_cons, List.map_nil, List.length_cons, List.length_nil, List.replicate, List.cons_append, List.nil_append, List.getElem?_cons_zero, List.getElem?_cons_succ, List.set_cons_zero, List.set_cons_succ, Nat.reduceSub, Nat.reduceAdd, Nat.zero_add, if_true, if_false, reduceIte, p_ix, itemS, l_dat, l_scr, l_ref0, atI_0, atI_1, atI_2, atI_3, Option.map_some, Option.bind_some, p_gtI, p_ltI, p_geI, p_leI, p_ltS, p_eqI, p_neI, p_eqS, p_neS, p_addI, p_subI, p_negI, p_lenL, p_lenT, p_intB, v_dat, l_tup, a_tup, p_isN, p_notN, set_feed1, set_feed2, p_pow9, p_pow12, p_pow18, e_iter, e_kIter_t, e_kIter_l, e_kIter_s, e_r1, e_zip, e_kZip, zip2_t, zip2_l, e_for, e_kFor, e_lc, e_try, e_kTry_ret, e_raise, e_kRaise, e_callL, ts_nil, ts_cons, e_kMtS, gYes, x_k2, x_k1, x_kc, x_kd, x_kN, x_kCall, x_kIf, x_kSIf, x_kAsg, x_kDrop, Bool.false_eq_true, Bool.not_true, Bool.not_false, tup_2, tup_3, tup_4, p_tup0, p_lst0, p_tup1, p_lst1, p_tup2, p_lst2, p_tup3, p_lst3, p_tup4, p_lst4, p_tup5, p_lst5, p_tup6, p_lst6, p_tup7, p_lst7, p_tup8, p_lst8, e, show pLstA [.dat (.list ((ns.take 63).map .int)), .dat (.int 0), .dat (.int 0)] [] = some (.ref 0, [fcell ((ns.take 63).map .int) 0 0]) from if_pos (by rw [sizeLine_eq]; show 3 ≤ 16777216; decide)]
/-- a comprehension whose items are drawn, item by item -/
theorem lc_drawsP {c : List PyData} {D : Nat} {P : S → PyData → Prop} {t : GT} {gt ge : GE} {r : En} {chk : Bs → Prop} (hc : ∀ B, chk B) : ∀ (its : List S) (acc : List PyData) (a : Nat) (r0 : Int) (B0 : Bs),
    (∀ x ∈ its, ∃ r1, t x r = some r1 ∧ (∀ B, gt r1 B = .ok (.dat (.bool true)) B) ∧ Draws c D (P x) (ge r1)) → a + D * its.length ≤ 10 ^ 9 → 0 ≤ r0 → Flat B0 →
    ∃ (ds : List PyData) (a' : Nat) (r' : Int), lcL chk t gt ge r its (acc.map .dat) (fcell c a r0 :: B0) = .ok ((acc ++ ds).map .dat) (fcell c a' r' :: B0) ∧ Paired P its ds ∧ a' ≤ a + D * its.length ∧ 0 ≤ r'
  | [], acc, a, r0, B0, _, _, h0, _ => ⟨[], a, r0, by unfold lcL; rw [if_pos (hc _), List.append_nil], .nil, Nat.le_add_right _ _, h0⟩
  | x :: its, acc, a, r0, B0, h, ha, h0, hB => by
    obtain ⟨r1, h1, h2, h3⟩ := h x List.mem_cons_self
    have e6 : D * (its.length + 1) = D * its.length + D := Nat.mul_succ _ _
    rw [List.length_cons, e6] at ha
    obtain ⟨d, a1, r2, e1, g1, g2, g3⟩ := h3 a r0 B0 (by omega) h0 hB
    obtain ⟨ds, a2, r3, e2, e3, e5, g4⟩ := lc_drawsP hc its (acc ++ [d]) a1 r2 B0 (fun y m => h y (List.mem_cons_of_mem _ m)) (by omega) g2 hB
    refine ⟨d :: ds, a2, r3, ?_, .cons g3 e3, by rw [List.length_cons, e6]; omega, g4⟩
    unfold lcL
    rw [if_pos (hc _), h1]
    dsimp only
    rw [h2]
    dsimp only
    rw [e1]
    dsimp only
    rw [List.map_append] at e2
    rw [show acc.map S.dat ++ [S.dat d] = acc.map S.dat ++ [d].map S.dat from rfl, e2, List.append_assoc]
    rfl
/-! ### the many -/
/-- the k-th -/
def manyP (k : Nat) (p : P3) : Prop := p.1 ∈ words7 ∧ p.2.1 = 2 * (k : Int) ∧ p.2.2 = 2 * (k : Int) + 1 + (if k = 59 then 1 else 0)
theorem manyP_good {k : Nat} {p : P3} (h : manyP k p) (hk : k ≤ 60) : Gp p := by
  obtain ⟨h1, h2, h3⟩ := h
  refine ⟨h1, by omega, ?_, ?_⟩
  · rw [h2, h3]; split <;> omega
  · rw [h3]; split <;> omega
theorem pd_lt (p q : P3) : PySem.W.dataLt (pd p) (pd q) = if p.1 = q.1 then (if p.2.1 = q.2.1 then decide (p.2.2 < q.2.2) else decide (p.2.1 < q.2.1)) else decide (p.1.cps.toList < q.1.cps.toList) := by
  unfold pd
  rw [PySem.W.dataLt_tuple, PySem.W.dataLt_cons rfl, PySem.W.dataLt_cons rfl, PySem.W.dataLt_cons rfl, PySem.W.dataLt_str, PySem.W.dataLt_int, PySem.W.dataLt_int]
  simp only [eqv_str, eqv_int, decide_eq_true_eq]
  by_cases h1 : p.1 = q.1
  · rw [if_pos h1, if_pos h1]
    by_cases h2 : p.2.1 = q.2.1
    · rw [if_pos h2, if_pos h2]
      by_cases h3 : p.2.2 = q.2.2
      · rw [if_pos h3, decide_eq_false (by omega)]
        rfl
      · rw [if_neg h3]
    · rw [if_neg h2, if_neg h2]
  · rw [if_neg h1, if_neg h1]
end Lw

set_option maxRecDepth 100000
set_option maxHeartbeats 4000000
namespace Lw
open PySem L2 PN
theorem lt_tri (x y : List Nat) : x < y ∨ x = y ∨ y < x := by
  by_cases h : x < y
  · exact .inl h
  · by_cases h2 : y < x
    · exact .inr (.inr h2)
    · exact .inr (.inl (List.le_antisymm (List.not_lt.mp h2) (List.not_lt.mp h)))
/-- sorted: each goes ahead of the next, where no two are of the same number -/
theorem chain_of : ∀ (ps : List P3), ps.Pairwise (fun p q => goes p q = true) → chain ps = true
  | [], _ => rfl
  | [_], _ => rfl
  | p :: q :: r, h => by
    obtain ⟨h1, h2⟩ := List.pairwise_cons.mp h
    show (goes p q && chain (q :: r)) = true
    rw [h1 q List.mem_cons_self, chain_of (q :: r) h2]
    rfl
theorem many_goes {k l : Nat} {p q : P3} (hp : manyP k p) (hq : manyP l q) (hk : k < 60) (hl : l < 60) (hne : k ≠ l) (h : PySem.W.dataLt (pd q) (pd p) = false) : goes p q = true := by
  obtain ⟨p1, p2, p3⟩ := hp
  obtain ⟨q1, q2, q3⟩ := hq
  rw [pd_lt] at h
  unfold goes ltS'
  by_cases e : q.1 = p.1
  · rw [if_pos e] at h
    have e2 : ¬ (q.2.1 = p.2.1) := by omega
    rw [if_neg e2] at h
    have h : ¬ (q.2.1 < p.2.1) := of_decide_eq_false h
    have : p.2.2 < q.2.1 := by
      rw [p3]
      split <;> omega
    rw [decide_eq_true this, decide_eq_true e.symm]
    simp
  · rw [if_neg e] at h
    have h : ¬ (q.1.cps.toList < p.1.cps.toList) := of_decide_eq_false h
    rcases lt_tri p.1.cps.toList q.1.cps.toList with z | z | z
    · rw [decide_eq_true z]; rfl
    · exact absurd (TL.ext_tl z).symm e
    · exact absurd z h
theorem dlt_trans (x y z : PyData) (h : PySem.W.dataLt x y = true) (h2 : PySem.W.dataLt y z = true) : PySem.W.dataLt x z = true := PyProof.Rows.lex_trans _ _ _ h h2
theorem sort_le (ps : List P3) : (sortP ps).Pairwise (fun p q => PySem.W.dataLt (pd q) (pd p) = false) := by
  have h := List.pairwise_mergeSort (le := fun p q : P3 => PySem.W.dataLe false id (pd p) (pd q)) (fun p q r h1 h2 => ?_) (fun p q => ?_) ps
  · refine List.Pairwise.imp (fun {p q} z => ?_) h
    have z : (!PySem.W.dataLt (pd q) (pd p)) = true := z
    simpa using z
  · have h1 : (!PySem.W.dataLt (pd q) (pd p)) = true := h1
    have h2 : (!PySem.W.dataLt (pd r) (pd q)) = true := h2
    show (!PySem.W.dataLt (pd r) (pd p)) = true
    rw [Bool.not_eq_true'] at h1 h2 ⊢
    cases e : PySem.W.dataLt (pd r) (pd p) with
    | false => rfl
    | true =>
      cases e2 : PySem.W.dataLt (pd p) (pd q) with
      | true => rw [dlt_trans _ _ _ e e2] at h2; cases h2
      | false =>
        have k := PyProof.Rows.lex_total _ _ e2 h1
        have : PySem.W.dataLt (pd r) (pd q) = PySem.W.dataLt (pd r) (pd p) := by unfold PySem.W.dataLt; rw [k]
        rw [this, e] at h2
        cases h2
  · show ((!PySem.W.dataLt (pd q) (pd p)) || (!PySem.W.dataLt (pd p) (pd q))) = true
    cases e : PySem.W.dataLt (pd q) (pd p) with
    | false => rfl
    | true =>
      cases e2 : PySem.W.dataLt (pd p) (pd q) with
      | false => rfl
      | true =>
        have := dlt_trans _ _ _ e e2
        rw [show PySem.W.dataLt (pd q) (pd q) = false from PyProof.Rows.lex_irrefl _] at this
        cases this
end Lw

set_option maxRecDepth 100000
set_option maxHeartbeats 4000000
namespace Lw
open PySem L2 PN
def manyR (x : S) (d : PyData) : Prop := ∃ (k : Nat) (p : P3), x = .dat (.int k) ∧ k < 60 ∧ manyP k p ∧ d = pd p
theorem many_list : ∀ {its : List S} {ds : List PyData}, Paired manyR its ds → its.Pairwise (fun x y => x ≠ y) → ∃ ps : List P3, ds = ps.map pd ∧ (∀ p ∈ ps, ∃ k, k < 60 ∧ .dat (.int (k : Nat)) ∈ its ∧ manyP k p) ∧ ps.Pairwise (fun p q => p.2.1 ≠ q.2.1)
  | _, _, .nil, _ => ⟨[], rfl, fun p m => absurd m (by simp), .nil⟩
  | _, _, .cons (l₁ := its) h t, hn => by
    obtain ⟨n1, n2⟩ := List.pairwise_cons.mp hn
    obtain ⟨ps, rfl, h1, h2⟩ := many_list t n2
    obtain ⟨k, p, rfl, hk, hm, rfl⟩ := h
    refine ⟨p :: ps, rfl, fun q m => ?_, List.pairwise_cons.mpr ⟨fun q m e => ?_, h2⟩⟩
    · rcases List.mem_cons.mp m with rfl | m
      · exact ⟨k, hk, List.mem_cons_self, hm⟩
      · obtain ⟨l, hl, ml, g⟩ := h1 q m
        exact ⟨l, hl, List.mem_cons_of_mem _ ml, g⟩
    · obtain ⟨l, hl, ml, g⟩ := h1 q m
      have : k = l := by
        have e1 := hm.2.1
        have e2 := g.2.1
        omega
      subst this
      exact n1 _ ml rfl
theorem intsUp_nodup (n : Nat) : (intsUp 0 n).Pairwise (fun x y => x ≠ y) := by
  unfold intsUp
  rw [List.pairwise_map]
  refine List.Pairwise.imp (fun {i j} h e => ?_) (List.nodup_iff_pairwise_ne.mp List.nodup_range)
  have e1 : (0 : Int) + (i : Int) = 0 + (j : Int) := by
    injection e with e
    injection e with e
  exact h (by omega)
theorem many_chain {ps : List P3} (h : ∀ p ∈ ps, ∃ k, k < 60 ∧ manyP k p) (hn : ps.Pairwise (fun p q => p.2.1 ≠ q.2.1)) : chain (sortP ps) = true := by
  refine chain_of _ ?_
  have hp := sortP_perm ps
  have h2 : (sortP ps).Pairwise (fun p q => p.2.1 ≠ q.2.1) := (hp.pairwise_iff (fun {x y} z e => z e.symm)).mpr hn
  refine List.Pairwise.imp_of_mem (fun {p q} mp mq z => ?_) ((sort_le ps).and h2)
  obtain ⟨k, hk, g⟩ := h p (hp.mem_iff.mp mp)
  obtain ⟨l, hl, g'⟩ := h q (hp.mem_iff.mp mq)
  refine many_goes g g' hk hl (fun e => z.2 ?_) z.1
  subst e
  exact g.2.1.trans g'.2.1.symm
end Lw

set_option maxRecDepth 100000
set_option maxHeartbeats 4000000
namespace Lw
open PySem L2 PN
theorem law_true (ns : List Int) (h : ns.length ≤ 63) : ∃ B', m_law [.scr ns] [] = .ok (.dat (.bool true)) B' := by
  obtain ⟨c, hc⟩ : ∃ c, c = ns.take 63 := ⟨_, rfl⟩
  have fl : ∀ a r, Flat [fcell (c.map .int) a r] := fun a r => flat_feed Flat.nil
  have key := for_inv (t := tName 2) (body := lapB) (chk := fun _ => True) (I := fun i r B => ∃ (a : Nat) (r0 : Int) (x2 x3 x4 x5 x6 x7 x8 x9 x10 x11 x12 : Option S), B = [fcell (c.map .int) a r0] ∧ a ≤ 400 * i ∧ i ≤ 1000 ∧ 0 ≤ r0 ∧ r = [some (.scr ns), some (.ref 0), x2, x3, x4, x5, x6, x7, x8, x9, x10, x11, x12])
    (intsUp 0 (4 : Int).toNat) 0 [some (.scr ns), some (.ref 0), none, none, none, none, none, none, none, none, none, none, none] [fcell (c.map .int) 0 0] (fun _ _ _ _ => trivial) (fun j z hz r B I => by
      obtain ⟨a, r0, x2, x3, x4, x5, x6, x7, x8, x9, x10, x11, x12, rfl, ha, hi, h0, rfl⟩ := I
      have hj : j < 4 := (List.getElem?_eq_some_iff.mp hz).1
      obtain ⟨y3, y4, y5, y6, y7, y8, y9, y10, a', r', e, g, k⟩ := lap_ok c (.scr ns) (some z) x3 x4 x5 x6 x7 x8 x9 x10 x11 x12 a r0 (by omega) h0
      exact ⟨_, rfl, _, _, .inl e, a', r', _, _, _, _, _, _, _, _, _, _, _, rfl, by omega, by omega, k, rfl⟩) ⟨0, 0, none, none, none, none, none, none, none, none, none, none, none, rfl, by omega, by omega, by omega, rfl⟩
  unfold lapB at key
  obtain ⟨_, _, ek, a, r0, x2, x3, x4, x5, x6, x7, x8, x9, x10, x11, x12, rfl, ha, _, h0, rfl⟩ := key
  have ha : a ≤ 400 * (0 + 4) := ha
  obtain ⟨_, a1, r1, e1, g1, k1, i1, rfl, l1, u1⟩ := draw_ok c 36 (by decide) (by decide) a r0 [] (by omega) h0 Flat.nil
  dsimp only at e1
  have hlen : (intsUp 0 (25 + i1).toNat).length = (25 + i1).toNat := by unfold intsUp; simp
  obtain ⟨ds, a2, r2, e2, P2, g2, k2⟩ := lc_drawsP (c := c.map .int) (D := 1) (P := manyR) (t := tName 12) (gt := gYes) (ge := gPN pTup (PN.gCons (gCall 1 m__law_series (PN.gCons (gVar 1) PN.gNil)) (PN.gCons (gP2 pMul (gC (.dat (.int 2))) (gVar 12)) (PN.gCons (gP2 pAdd (gP2 pAdd (gP2 pMul (gC (.dat (.int 2))) (gVar 12)) (gC (.dat (.int 1)))) (gPN pInt (PN.gCons (gP2 pEq (gVar 12) (gC (.dat (.int 59)))) PN.gNil))) PN.gNil))))
    (r := [some (.scr ns), some (.ref 0), x2, x3, x4, x5, x6, x7, x8, x9, x10, x11, none]) (chk := fun _ => True) (fun _ => trivial) (intsUp 0 (25 + i1).toNat) [] a1 r1 []
    (fun x hx => ⟨[some (.scr ns), some (.ref 0), x2, x3, x4, x5, x6, x7, x8, x9, x10, x11, some x], rfl, fun _ => rfl, fun a r B0 ha hr hB => by
      obtain ⟨k, hk, rfl⟩ : ∃ k : Nat, k < 60 ∧ x = .dat (.int (k : Int)) := by
        unfold intsUp at hx
        obtain ⟨k, hk, rfl⟩ := List.mem_map.mp hx
        have := List.mem_range.mp hk
        exact ⟨k, by omega, by rw [Int.zero_add]⟩
      obtain ⟨_, a', r', e, g, kk, s, hs, rfl⟩ := series_ok c a r B0 ha hr hB
      dsimp only at e
      refine ⟨.tuple [.str s, .int (2 * (k : Int)), .int (2 * (k : Int) + 1 + (if decide ((k : Int) = 59) = true then 1 else 0))], a', r', by simp -implicitDefEqProofs only [e_P2, e_k2, e_k1, e_P1, e_k0, e_lift, e_C, gVar, e_nil, e_cons, e_kc, e_kd, e_PN, e_kN, e_call, e_kCall, e_if, e_kIf_t, e_kIf_f, e_and, e_kAnd_t, e_kAnd_f, e_or, e_kOr_t, e_kOr_f, e_not, e_kNot, e_seq, e_kS_nx, e_kS_ret, e_kS_brk, e_kS_ct, e_kS_exc, e_pass, e_brk, e_ct, e_sif, e_kSIf_t, e_kSIf_f, e_asg, e_kAsg, e_kO, e_name, e_ret, e_kRet, e_kRet_x, e_drop, e_kDrop, e_set, e_kSet, e_kSet2, e_kSet3, e_kSet4, e_fn, e_kFn_ret, e_kFn_nx, e_kFn_exc, e_fnK, e_kFnK_ret, e_mt, e_kMt2, e_isi, e_kIs, e_kI, e_chain, e_kCh, e_kCh2, e_kCh3_t, e_kCh3_f, e_shut, e_kSh, e_sl, e_kSl, e_kSl2n, e_kSl2i, e_kSl3, e_part, e_kPart, List.map_cons, List.map_nil, List.length_cons, List.length_nil, List.replicate, List.cons_append, List.nil_append, List.getElem?_cons_zero, List.getElem?_cons_succ, List.set_cons_zero, List.set_cons_succ, Nat.reduceSub, Nat.reduceAdd, Nat.zero_add, if_true, if_false, reduceIte, p_ix, itemS, l_dat, l_scr, l_ref0, atI_0, atI_1, atI_2, atI_3, Option.map_some, Option.bind_some, p_gtI, p_ltI, p_geI, p_leI, p_ltS, p_eqI, p_neI, p_eqS, p_neS, p_addI, p_subI, p_negI, p_lenL, p_lenT, p_intB, v_dat, l_tup, a_tup, p_isN, p_notN, set_feed1, set_feed2, p_pow9, p_pow12, p_pow18, e_iter, e_kIter_t, e_kIter_l, e_kIter_s, e_r1, e_zip, e_kZip, zip2_t, zip2_l, e_for, e_kFor, e_lc, e_try, e_kTry_ret, e_raise, e_kRaise, e_callL, ts_nil, ts_cons, e_kMtS, gYes, x_k2, x_k1, x_kc, x_kd, x_kN, x_kCall, x_kIf, x_kSIf, x_kAsg, x_kDrop, Bool.false_eq_true, Bool.not_true, Bool.not_false, tup_2, tup_3, tup_4, p_tup0, p_lst0, p_tup1, p_lst1, p_tup2, p_lst2, p_tup3, p_lst3, p_tup4, p_lst4, p_tup5, p_lst5, p_tup6, p_lst6, p_tup7, p_lst7, p_tup8, p_lst8, e, p_mulI (i := 2) (.inl ⟨by decide, by decide⟩)], g, kk, k, (s, 2 * (k : Int), 2 * (k : Int) + 1 + (if decide ((k : Int) = 59) = true then 1 else 0)), rfl, hk, ⟨hs, rfl, ?_⟩, rfl⟩
      show 2 * (k : Int) + 1 + (if decide ((k : Int) = 59) = true then 1 else 0) = 2 * (k : Int) + 1 + (if k = 59 then 1 else 0)
      by_cases q : k = 59
      · rw [if_pos q, if_pos (decide_eq_true (by omega))]
      · rw [if_neg q, if_neg (fun z => q (by have := of_decide_eq_true z; omega))]⟩) (by rw [hlen]; omega) k1 Flat.nil
  rw [List.map_nil, List.nil_append] at e2
  obtain ⟨ps, rfl, hps, hnd⟩ := many_list P2 (intsUp_nodup _)
  have lps : ps.length ≤ 1000 := by
    have := PN.paired_len P2
    rw [hlen, List.length_map] at this
    omega
  have gps : ∀ p ∈ ps, Gp p := fun p m => by
    obtain ⟨k, hk, _, g⟩ := hps p m
    exact manyP_good g (by omega)
  have ch := many_chain (fun p m => by obtain ⟨k, hk, _, g⟩ := hps p m; exact ⟨k, hk, g⟩) hnd
  have gs : ∀ p ∈ sortP ps, Gp p := fun p m => gps p ((sortP_perm ps).mem_iff.mp m)
  have ls : (sortP ps).length ≤ 1000 := by rw [(sortP_perm ps).length_eq]; exact lps
  unfold m_law
  simp -implicitDefEqProofs only [e_P2, e_k2, e_k1, e_P1, e_k0, e_lift, e_C, gVar, e_nil, e_cons, e_kc, e_kd, e_PN, e_kN, e_call, e_kCall, e_if, e_kIf_t, e_kIf_f, e_and, e_kAnd_t, e_kAnd_f, e_or, e_kOr_t, e_kOr_f, e_not, e_kNot, e_seq, e_kS_nx, e_kS_ret, e_kS_brk, e_kS_ct, e_kS_exc, e_pass, e_brk, e_ct, e_sif, e_kSIf_t, e_kSIf_f, e_asg, e_kAsg, e_kO, e_name, e_ret, e_kRet, e_kRet_x, e_drop, e_kDrop, e_set, e_kSet, e_kSet2, e_kSet3, e_kSet4, e_fn, e_kFn_ret, e_kFn_nx, e_kFn_exc, e_fnK, e_kFnK_ret, e_mt, e_kMt2, e_isi, e_kIs, e_kI, e_chain, e_kCh, e_kCh2, e_kCh3_t, e_kCh3_f, e_shut, e_kSh, e_sl, e_kSl, e_kSl2n, e_kSl2i, e_kSl3, e_part, e_kPart, List.map_cons, List.map_nil, List.length_cons, List.length_nil, List.replicate, List.cons_append, List.nil_append, List.getElem?_cons_zero, List.getElem?_cons_succ, List.set_cons_zero, List.set_cons_succ, Nat.reduceSub, Nat.reduceAdd, Nat.zero_add, if_true, if_false, reduceIte, p_ix, itemS, l_dat, l_scr, l_ref0, atI_0, atI_1, atI_2, atI_3, Option.map_some, Option.bind_some, p_gtI, p_ltI, p_geI, p_leI, p_ltS, p_eqI, p_neI, p_eqS, p_neS, p_addI, p_subI, p_negI, p_lenL, p_lenT, p_intB, v_dat, l_tup, a_tup, p_isN, p_notN, set_feed1, set_feed2, p_pow9, p_pow12, p_pow18, e_iter, e_kIter_t, e_kIter_l, e_kIter_s, e_r1, e_zip, e_kZip, zip2_t, zip2_l, e_for, e_kFor, e_lc, e_try, e_kTry_ret, e_raise, e_kRaise, e_callL, ts_nil, ts_cons, e_kMtS, gYes, x_k2, x_k1, x_kc, x_kd, x_kN, x_kCall, x_kIf, x_kSIf, x_kAsg, x_kDrop, Bool.false_eq_true, Bool.not_true, Bool.not_false, tup_2, tup_3, tup_4, p_tup0, p_lst0, p_tup1, p_lst1, p_tup2, p_lst2, p_tup3, p_lst3, p_tup4, p_lst4, p_tup5, p_lst5, p_tup6, p_lst6, p_tup7, p_lst7, p_tup8, p_lst8]
  unfold b_law
  simp -implicitDefEqProofs only [e_P2, e_k2, e_k1, e_P1, e_k0, e_lift, e_C, gVar, e_nil, e_cons, e_kc, e_kd, e_PN, e_kN, e_call, e_kCall, e_if, e_kIf_t, e_kIf_f, e_and, e_kAnd_t, e_kAnd_f, e_or, e_kOr_t, e_kOr_f, e_not, e_kNot, e_seq, e_kS_nx, e_kS_ret, e_kS_brk, e_kS_ct, e_kS_exc, e_pass, e_brk, e_ct, e_sif, e_kSIf_t, e_kSIf_f, e_asg, e_kAsg, e_kO, e_name, e_ret, e_kRet, e_kRet_x, e_drop, e_kDrop, e_set, e_kSet, e_kSet2, e_kSet3, e_kSet4, e_fn, e_kFn_ret, e_kFn_nx, e_kFn_exc, e_fnK, e_kFnK_ret, e_mt, e_kMt2, e_isi, e_kIs, e_kI, e_chain, e_kCh, e_kCh2, e_kCh3_t, e_kCh3_f, e_shut, e_kSh, e_sl, e_kSl, e_kSl2n, e_kSl2i, e_kSl3, e_part, e_kPart, List.map_cons, List.map_nil, List.length_cons, List.length_nil, List.replicate, List.cons_append, List.nil_append, List.getElem?_cons_zero, List.getElem?_cons_succ, List.set_cons_zero, List.set_cons_succ, Nat.reduceSub, Nat.reduceAdd, Nat.zero_add, if_true, if_false, reduceIte, p_ix, itemS, l_dat, l_scr, l_ref0, atI_0, atI_1, atI_2, atI_3, Option.map_some, Option.bind_some, p_gtI, p_ltI, p_geI, p_leI, p_ltS, p_eqI, p_neI, p_eqS, p_neS, p_addI, p_subI, p_negI, p_lenL, p_lenT, p_intB, v_dat, l_tup, a_tup, p_isN, p_notN, set_feed1, set_feed2, p_pow9, p_pow12, p_pow18, e_iter, e_kIter_t, e_kIter_l, e_kIter_s, e_r1, e_zip, e_kZip, zip2_t, zip2_l, e_for, e_kFor, e_lc, e_try, e_kTry_ret, e_raise, e_kRaise, e_callL, ts_nil, ts_cons, e_kMtS, gYes, x_k2, x_k1, x_kc, x_kd, x_kN, x_kCall, x_kIf, x_kSIf, x_kAsg, x_kDrop, Bool.false_eq_true, Bool.not_true, Bool.not_false, tup_2, tup_3, tup_4, p_tup0, p_lst0, p_tup1, p_lst1, p_tup2, p_lst2, p_tup3, p_lst3, p_tup4, p_lst4, p_tup5, p_lst5, p_tup6, p_lst6, p_tup7, p_lst7, p_tup8, p_lst8, feed_ok, ← hc, e_kR1 (show (0 : Int) ≤ 4 by decide) (show (4 : Int) ≤ 1000000 by decide)]
  rw [ek]
  simp -implicitDefEqProofs only [e_P2, e_k2, e_k1, e_P1, e_k0, e_lift, e_C, gVar, e_nil, e_cons, e_kc, e_kd, e_PN, e_kN, e_call, e_kCall, e_if, e_kIf_t, e_kIf_f, e_and, e_kAnd_t, e_kAnd_f, e_or, e_kOr_t, e_kOr_f, e_not, e_kNot, e_seq, e_kS_nx, e_kS_ret, e_kS_brk, e_kS_ct, e_kS_exc, e_pass, e_brk, e_ct, e_sif, e_kSIf_t, e_kSIf_f, e_asg, e_kAsg, e_kO, e_name, e_ret, e_kRet, e_kRet_x, e_drop, e_kDrop, e_set, e_kSet, e_kSet2, e_kSet3, e_kSet4, e_fn, e_kFn_ret, e_kFn_nx, e_kFn_exc, e_fnK, e_kFnK_ret, e_mt, e_kMt2, e_isi, e_kIs, e_kI, e_chain, e_kCh, e_kCh2, e_kCh3_t, e_kCh3_f, e_shut, e_kSh, e_sl, e_kSl, e_kSl2n, e_kSl2i, e_kSl3, e_part, e_kPart, List.map_cons, List.map_nil, List.length_cons, List.length_nil, List.replicate, List.cons_append, List.nil_append, List.getElem?_cons_zero, List.getElem?_cons_succ, List.set_cons_zero, List.set_cons_succ, Nat.reduceSub, Nat.reduceAdd, Nat.zero_add, if_true, if_false, reduceIte, p_ix, itemS, l_dat, l_scr, l_ref0, atI_0, atI_1, atI_2, atI_3, Option.map_some, Option.bind_some, p_gtI, p_ltI, p_geI, p_leI, p_ltS, p_eqI, p_neI, p_eqS, p_neS, p_addI, p_subI, p_negI, p_lenL, p_lenT, p_intB, v_dat, l_tup, a_tup, p_isN, p_notN, set_feed1, set_feed2, p_pow9, p_pow12, p_pow18, e_iter, e_kIter_t, e_kIter_l, e_kIter_s, e_r1, e_zip, e_kZip, zip2_t, zip2_l, e_for, e_kFor, e_lc, e_try, e_kTry_ret, e_raise, e_kRaise, e_callL, ts_nil, ts_cons, e_kMtS, gYes, x_k2, x_k1, x_kc, x_kd, x_kN, x_kCall, x_kIf, x_kSIf, x_kAsg, x_kDrop, Bool.false_eq_true, Bool.not_true, Bool.not_false, tup_2, tup_3, tup_4, p_tup0, p_lst0, p_tup1, p_lst1, p_tup2, p_lst2, p_tup3, p_lst3, p_tup4, p_lst4, p_tup5, p_lst5, p_tup6, p_lst6, p_tup7, p_lst7, p_tup8, p_lst8, e1, e_kR1 (show 0 ≤ 25 + i1 by omega) (show 25 + i1 ≤ 1000000 by omega)]
  rw [e_kLc (by rw [hlen]; omega)]
  simp -implicitDefEqProofs only [e_P2, e_k2, e_k1, e_P1, e_k0, e_lift, e_C, gVar, e_nil, e_cons, e_kc, e_kd, e_PN, e_kN, e_call, e_kCall, e_if, e_kIf_t, e_kIf_f, e_and, e_kAnd_t, e_kAnd_f, e_or, e_kOr_t, e_kOr_f, e_not, e_kNot, e_seq, e_kS_nx, e_kS_ret, e_kS_brk, e_kS_ct, e_kS_exc, e_pass, e_brk, e_ct, e_sif, e_kSIf_t, e_kSIf_f, e_asg, e_kAsg, e_kO, e_name, e_ret, e_kRet, e_kRet_x, e_drop, e_kDrop, e_set, e_kSet, e_kSet2, e_kSet3, e_kSet4, e_fn, e_kFn_ret, e_kFn_nx, e_kFn_exc, e_fnK, e_kFnK_ret, e_mt, e_kMt2, e_isi, e_kIs, e_kI, e_chain, e_kCh, e_kCh2, e_kCh3_t, e_kCh3_f, e_shut, e_kSh, e_sl, e_kSl, e_kSl2n, e_kSl2i, e_kSl3, e_part, e_kPart, List.map_cons, List.map_nil, List.length_cons, List.length_nil, List.replicate, List.cons_append, List.nil_append, List.getElem?_cons_zero, List.getElem?_cons_succ, List.set_cons_zero, List.set_cons_succ, Nat.reduceSub, Nat.reduceAdd, Nat.zero_add, if_true, if_false, reduceIte, p_ix, itemS, l_dat, l_scr, l_ref0, atI_0, atI_1, atI_2, atI_3, Option.map_some, Option.bind_some, p_gtI, p_ltI, p_geI, p_leI, p_ltS, p_eqI, p_neI, p_eqS, p_neS, p_addI, p_subI, p_negI, p_lenL, p_lenT, p_intB, v_dat, l_tup, a_tup, p_isN, p_notN, set_feed1, set_feed2, p_pow9, p_pow12, p_pow18, e_iter, e_kIter_t, e_kIter_l, e_kIter_s, e_r1, e_zip, e_kZip, zip2_t, zip2_l, e_for, e_kFor, e_lc, e_try, e_kTry_ret, e_raise, e_kRaise, e_callL, ts_nil, ts_cons, e_kMtS, gYes, x_k2, x_k1, x_kc, x_kd, x_kN, x_kCall, x_kIf, x_kSIf, x_kAsg, x_kDrop, Bool.false_eq_true, Bool.not_true, Bool.not_false, tup_2, tup_3, tup_4, p_tup0, p_lst0, p_tup1, p_lst1, p_tup2, p_lst2, p_tup3, p_lst3, p_tup4, p_lst4, p_tup5, p_lst5, p_tup6, p_lst6, p_tup7, p_lst7, p_tup8, p_lst8, wipeE]
  rw [e2]
  simp -implicitDefEqProofs only [e_P2, e_k2, e_k1, e_P1, e_k0, e_lift, e_C, gVar, e_nil, e_cons, e_kc, e_kd, e_PN, e_kN, e_call, e_kCall, e_if, e_kIf_t, e_kIf_f, e_and, e_kAnd_t, e_kAnd_f, e_or, e_kOr_t, e_kOr_f, e_not, e_kNot, e_seq, e_kS_nx, e_kS_ret, e_kS_brk, e_kS_ct, e_kS_exc, e_pass, e_brk, e_ct, e_sif, e_kSIf_t, e_kSIf_f, e_asg, e_kAsg, e_kO, e_name, e_ret, e_kRet, e_kRet_x, e_drop, e_kDrop, e_set, e_kSet, e_kSet2, e_kSet3, e_kSet4, e_fn, e_kFn_ret, e_kFn_nx, e_kFn_exc, e_fnK, e_kFnK_ret, e_mt, e_kMt2, e_isi, e_kIs, e_kI, e_chain, e_kCh, e_kCh2, e_kCh3_t, e_kCh3_f, e_shut, e_kSh, e_sl, e_kSl, e_kSl2n, e_kSl2i, e_kSl3, e_part, e_kPart, List.map_cons, List.map_nil, List.length_cons, List.length_nil, List.replicate, List.cons_append, List.nil_append, List.getElem?_cons_zero, List.getElem?_cons_succ, List.set_cons_zero, List.set_cons_succ, Nat.reduceSub, Nat.reduceAdd, Nat.zero_add, if_true, if_false, reduceIte, p_ix, itemS, l_dat, l_scr, l_ref0, atI_0, atI_1, atI_2, atI_3, Option.map_some, Option.bind_some, p_gtI, p_ltI, p_geI, p_leI, p_ltS, p_eqI, p_neI, p_eqS, p_neS, p_addI, p_subI, p_negI, p_lenL, p_lenT, p_intB, v_dat, l_tup, a_tup, p_isN, p_notN, set_feed1, set_feed2, p_pow9, p_pow12, p_pow18, e_iter, e_kIter_t, e_kIter_l, e_kIter_s, e_r1, e_zip, e_kZip, zip2_t, zip2_l, e_for, e_kFor, e_lc, e_try, e_kTry_ret, e_raise, e_kRaise, e_callL, ts_nil, ts_cons, e_kMtS, gYes, x_k2, x_k1, x_kc, x_kd, x_kN, x_kCall, x_kIf, x_kSIf, x_kAsg, x_kDrop, Bool.false_eq_true, Bool.not_true, Bool.not_false, tup_2, tup_3, tup_4, p_tup0, p_lst0, p_tup1, p_lst1, p_tup2, p_lst2, p_tup3, p_lst3, p_tup4, p_lst4, p_tup5, p_lst5, p_tup6, p_lst6, p_tup7, p_lst7, p_tup8, p_lst8]
  rw [p_lst (by rw [List.length_map]; exact sz_small lps)]
  simp -implicitDefEqProofs only [e_P2, e_k2, e_k1, e_P1, e_k0, e_lift, e_C, gVar, e_nil, e_cons, e_kc, e_kd, e_PN, e_kN, e_call, e_kCall, e_if, e_kIf_t, e_kIf_f, e_and, e_kAnd_t, e_kAnd_f, e_or, e_kOr_t, e_kOr_f, e_not, e_kNot, e_seq, e_kS_nx, e_kS_ret, e_kS_brk, e_kS_ct, e_kS_exc, e_pass, e_brk, e_ct, e_sif, e_kSIf_t, e_kSIf_f, e_asg, e_kAsg, e_kO, e_name, e_ret, e_kRet, e_kRet_x, e_drop, e_kDrop, e_set, e_kSet, e_kSet2, e_kSet3, e_kSet4, e_fn, e_kFn_ret, e_kFn_nx, e_kFn_exc, e_fnK, e_kFnK_ret, e_mt, e_kMt2, e_isi, e_kIs, e_kI, e_chain, e_kCh, e_kCh2, e_kCh3_t, e_kCh3_f, e_shut, e_kSh, e_sl, e_kSl, e_kSl2n, e_kSl2i, e_kSl3, e_part, e_kPart, List.map_cons, List.map_nil, List.length_cons, List.length_nil, List.replicate, List.cons_append, List.nil_append, List.getElem?_cons_zero, List.getElem?_cons_succ, List.set_cons_zero, List.set_cons_succ, Nat.reduceSub, Nat.reduceAdd, Nat.zero_add, if_true, if_false, reduceIte, p_ix, itemS, l_dat, l_scr, l_ref0, atI_0, atI_1, atI_2, atI_3, Option.map_some, Option.bind_some, p_gtI, p_ltI, p_geI, p_leI, p_ltS, p_eqI, p_neI, p_eqS, p_neS, p_addI, p_subI, p_negI, p_lenL, p_lenT, p_intB, v_dat, l_tup, a_tup, p_isN, p_notN, set_feed1, set_feed2, p_pow9, p_pow12, p_pow18, e_iter, e_kIter_t, e_kIter_l, e_kIter_s, e_r1, e_zip, e_kZip, zip2_t, zip2_l, e_for, e_kFor, e_lc, e_try, e_kTry_ret, e_raise, e_kRaise, e_callL, ts_nil, ts_cons, e_kMtS, gYes, x_k2, x_k1, x_kc, x_kd, x_kN, x_kCall, x_kIf, x_kSIf, x_kAsg, x_kDrop, Bool.false_eq_true, Bool.not_true, Bool.not_false, tup_2, tup_3, tup_4, p_tup0, p_lst0, p_tup1, p_lst1, p_tup2, p_lst2, p_tup3, p_lst3, p_tup4, p_lst4, p_tup5, p_lst5, p_tup6, p_lst6, p_tup7, p_lst7, p_tup8, p_lst8, p_sorted gps lps, p_tupleL, law_text_ok gs ls (fl _ _)]
  have hne : sortP ps ≠ [] := fun e => by
    have h1 := (sortP_perm ps).length_eq
    have h2 := PN.paired_len P2
    rw [hlen, List.length_map] at h2
    rw [e] at h1
    simp at h1
    omega
  have F2 := fl a2 r2
  have er : rowT (sortP ps) = shownT (sortP ps) := (if_neg hne).symm
  have L1 : m__law_read [.fn "read_runs", .dat (.str (rowT (sortP ps)))] [fcell (c.map .int) a2 r2] = .ok (.dat (told (.tuple ((sortP ps).map pd)))) [fcell (c.map .int) a2 r2] := by
    rw [er]
    exact law_read_ok tb1 (rr_runs gs ls F2 ch) (.inl ⟨_, rfl⟩) F2
  have L2' : m__law_read [.fn "read_row_text", .dat (.str (rowT (sortP ps)))] [fcell (c.map .int) a2 r2] = .ok (.dat (told (.tuple ((sortP ps).map pd)))) [fcell (c.map .int) a2 r2] := law_read_ok tb2 (rr_row gs ls F2 hne) (.inl ⟨_, rfl⟩) F2
  have T1 : ∀ d : PyData, PyData.tuple [.str "told", d] = told d := fun _ => rfl
  have sm0 := Sm.lst (n := 700000) (k := 3) (ds := [told (.tuple ((sortP ps).map pd)), told (.tuple ((sortP ps).map pd))]) fun d m => by
    simp only [List.mem_cons, List.not_mem_nil, or_false, or_self] at m
    subst m
    exact (told_sm (row_sm' gs ls) (by decide)).up (by decide) (Nat.le_refl _)
  have S1 := same_ok (B := [fcell (c.map .int) a2 r2]) (sm0.up (m := 2000000) (by simp only [List.length_cons, List.length_nil]; omega) (Nat.le_refl _)) (by decide) (by decide) F2
  simp -implicitDefEqProofs only [e_P2, e_k2, e_k1, e_P1, e_k0, e_lift, e_C, gVar, e_nil, e_cons, e_kc, e_kd, e_PN, e_kN, e_call, e_kCall, e_if, e_kIf_t, e_kIf_f, e_and, e_kAnd_t, e_kAnd_f, e_or, e_kOr_t, e_kOr_f, e_not, e_kNot, e_seq, e_kS_nx, e_kS_ret, e_kS_brk, e_kS_ct, e_kS_exc, e_pass, e_brk, e_ct, e_sif, e_kSIf_t, e_kSIf_f, e_asg, e_kAsg, e_kO, e_name, e_ret, e_kRet, e_kRet_x, e_drop, e_kDrop, e_set, e_kSet, e_kSet2, e_kSet3, e_kSet4, e_fn, e_kFn_ret, e_kFn_nx, e_kFn_exc, e_fnK, e_kFnK_ret, e_mt, e_kMt2, e_isi, e_kIs, e_kI, e_chain, e_kCh, e_kCh2, e_kCh3_t, e_kCh3_f, e_shut, e_kSh, e_sl, e_kSl, e_kSl2n, e_kSl2i, e_kSl3, e_part, e_kPart, List.map_cons, List.map_nil, List.length_cons, List.length_nil, List.replicate, List.cons_append, List.nil_append, List.getElem?_cons_zero, List.getElem?_cons_succ, List.set_cons_zero, List.set_cons_succ, Nat.reduceSub, Nat.reduceAdd, Nat.zero_add, if_true, if_false, reduceIte, p_ix, itemS, l_dat, l_scr, l_ref0, atI_0, atI_1, atI_2, atI_3, Option.map_some, Option.bind_some, p_gtI, p_ltI, p_geI, p_leI, p_ltS, p_eqI, p_neI, p_eqS, p_neS, p_addI, p_subI, p_negI, p_lenL, p_lenT, p_intB, v_dat, l_tup, a_tup, p_isN, p_notN, set_feed1, set_feed2, p_pow9, p_pow12, p_pow18, e_iter, e_kIter_t, e_kIter_l, e_kIter_s, e_r1, e_zip, e_kZip, zip2_t, zip2_l, e_for, e_kFor, e_lc, e_try, e_kTry_ret, e_raise, e_kRaise, e_callL, ts_nil, ts_cons, e_kMtS, gYes, x_k2, x_k1, x_kc, x_kd, x_kN, x_kCall, x_kIf, x_kSIf, x_kAsg, x_kDrop, Bool.false_eq_true, Bool.not_true, Bool.not_false, tup_2, tup_3, tup_4, p_tup0, p_lst0, p_tup1, p_lst1, p_tup2, p_lst2, p_tup3, p_lst3, p_tup4, p_lst4, p_tup5, p_lst5, p_tup6, p_lst6, p_tup7, p_lst7, p_tup8, p_lst8, L1, L2', T1, law_text_ok gs ls F2, S1]
  exact ⟨_, endF_dat F2 0 _⟩
end Lw

set_option maxRecDepth 100000
open PySem PySem.W PyProof.Rows
set_option maxRecDepth 100000 in
set_option maxHeartbeats 0 in
theorem PySem.Challenge.cw_pressnotes_k76_runs_as_texts_holds : PySem.Challenge.rw_pressnotes_k76_runs_as_texts.Holds := by
  w_on; o_law; k_head; (case hw => w_witness2)
  k_fill
  refine PN.walk_g (l := PySem.Challenge.rw_pressnotes_k76_runs_as_texts) (n := 63) (k := 7) (x := "_law_script") (m := Lw.m_law) rfl (by decide) rfl ⟨rfl, by decide, by decide⟩ (fun w h Y => PySem.W.kIn_of Y) ?FF Lw.law_true
  case FF =>
    intro w mg fa h KX G hmg
    have D_shown_run : PN.Df (L2.KOf KX) mg "shown_run" Lw.s_shown_run ["run"] := by
      unfold L2.KOf
      refine' PN.df_mk KX G ?a ?l ?c ?k ?b
      (case a => k_is); (case l => k_is); (case c => k_is); (case k => k_is); (case b => exact fun _ _ _ _ _ _ us hl => match us, hl with | [_], _ => rfl)
    have D_shown_row : PN.Df (L2.KOf KX) mg "shown_row" Lw.s_shown_row ["row"] := by
      unfold L2.KOf
      refine' PN.df_mk KX G ?a ?l ?c ?k ?b
      (case a => k_is); (case l => k_is); (case c => k_is); (case k => k_is); (case b => exact fun _ _ _ _ _ _ us hl => match us, hl with | [_], _ => rfl)
    have D_shown_runs : PN.Df (L2.KOf KX) mg "shown_runs" Lw.s_shown_runs ["runs"] := by
      unfold L2.KOf
      refine' PN.df_mk KX G ?a ?l ?c ?k ?b
      (case a => k_is); (case l => k_is); (case c => k_is); (case k => k_is); (case b => exact fun _ _ _ _ _ _ us hl => match us, hl with | [_], _ => rfl)
    have D_shown_name : PN.Df (L2.KOf KX) mg "shown_name" Lw.s_shown_name ["name"] := by
      unfold L2.KOf
      refine' PN.df_mk KX G ?a ?l ?c ?k ?b
      (case a => k_is); (case l => k_is); (case c => k_is); (case k => k_is); (case b => exact fun _ _ _ _ _ _ us hl => match us, hl with | [_], _ => rfl)
    have D_is_number : PN.Df (L2.KOf KX) mg "is_number" Lw.s_is_number ["thing", "least", "most"] := by
      unfold L2.KOf
      refine' PN.df_mk KX G ?a ?l ?c ?k ?b
      (case a => k_is); (case l => k_is); (case c => k_is); (case k => k_is); (case b => exact fun _ _ _ _ _ _ us hl => match us, hl with | [_, _, _], _ => rfl)
    have D_is_series : PN.Df (L2.KOf KX) mg "is_series" Lw.s_is_series ["thing"] := by
      unfold L2.KOf
      refine' PN.df_mk KX G ?a ?l ?c ?k ?b
      (case a => k_is); (case l => k_is); (case c => k_is); (case k => k_is); (case b => exact fun _ _ _ _ _ _ us hl => match us, hl with | [_], _ => rfl)
    have D_is_run : PN.Df (L2.KOf KX) mg "is_run" Lw.s_is_run ["thing"] := by
      unfold L2.KOf
      refine' PN.df_mk KX G ?a ?l ?c ?k ?b
      (case a => k_is); (case l => k_is); (case c => k_is); (case k => k_is); (case b => exact fun _ _ _ _ _ _ us hl => match us, hl with | [_], _ => rfl)
    have D_goes_ahead : PN.Df (L2.KOf KX) mg "goes_ahead" Lw.s_goes_ahead ["one", "other"] := by
      unfold L2.KOf
      refine' PN.df_mk KX G ?a ?l ?c ?k ?b
      (case a => k_is); (case l => k_is); (case c => k_is); (case k => k_is); (case b => exact fun _ _ _ _ _ _ us hl => match us, hl with | [_, _], _ => rfl)
    have D_is_runs : PN.Df (L2.KOf KX) mg "is_runs" Lw.s_is_runs ["thing"] := by
      unfold L2.KOf
      refine' PN.df_mk KX G ?a ?l ?c ?k ?b
      (case a => k_is); (case l => k_is); (case c => k_is); (case k => k_is); (case b => exact fun _ _ _ _ _ _ us hl => match us, hl with | [_], _ => rfl)
    have D_is_word : PN.Df (L2.KOf KX) mg "is_word" Lw.s_is_word ["thing"] := by
      unfold L2.KOf
      refine' PN.df_mk KX G ?a ?l ?c ?k ?b
      (case a => k_is); (case l => k_is); (case c => k_is); (case k => k_is); (case b => exact fun _ _ _ _ _ _ us hl => match us, hl with | [_], _ => rfl)
    have D_number_in : PN.Df (L2.KOf KX) mg "number_in" Lw.s_number_in ["word", "least", "most"] := by
      unfold L2.KOf
      refine' PN.df_mk KX G ?a ?l ?c ?k ?b
      (case a => k_is); (case l => k_is); (case c => k_is); (case k => k_is); (case b => exact fun _ _ _ _ _ _ us hl => match us, hl with | [_, _, _], _ => rfl)
    have D_run_in : PN.Df (L2.KOf KX) mg "run_in" Lw.s_run_in ["word"] := by
      unfold L2.KOf
      refine' PN.df_mk KX G ?a ?l ?c ?k ?b
      (case a => k_is); (case l => k_is); (case c => k_is); (case k => k_is); (case b => exact fun _ _ _ _ _ _ us hl => match us, hl with | [_], _ => rfl)
    have D_row_in : PN.Df (L2.KOf KX) mg "row_in" Lw.s_row_in ["word"] := by
      unfold L2.KOf
      refine' PN.df_mk KX G ?a ?l ?c ?k ?b
      (case a => k_is); (case l => k_is); (case c => k_is); (case k => k_is); (case b => exact fun _ _ _ _ _ _ us hl => match us, hl with | [_], _ => rfl)
    have D_runs_in : PN.Df (L2.KOf KX) mg "runs_in" Lw.s_runs_in ["word"] := by
      unfold L2.KOf
      refine' PN.df_mk KX G ?a ?l ?c ?k ?b
      (case a => k_is); (case l => k_is); (case c => k_is); (case k => k_is); (case b => exact fun _ _ _ _ _ _ us hl => match us, hl with | [_], _ => rfl)
    have D_read_alone : PN.Df (L2.KOf KX) mg "read_alone" Lw.s_read_alone ["text", "found"] := by
      unfold L2.KOf
      refine' PN.df_mk KX G ?a ?l ?c ?k ?b
      (case a => k_is); (case l => k_is); (case c => k_is); (case k => k_is); (case b => exact fun _ _ _ _ _ _ us hl => match us, hl with | [_, _], _ => rfl)
    have D_read_runs : PN.Df (L2.KOf KX) mg "read_runs" Lw.s_read_runs ["text"] := by
      unfold L2.KOf
      refine' PN.df_mk KX G ?a ?l ?c ?k ?b
      (case a => k_is); (case l => k_is); (case c => k_is); (case k => k_is); (case b => exact fun _ _ _ _ _ _ us hl => match us, hl with | [_], _ => rfl)
    have D_read_row_text : PN.Df (L2.KOf KX) mg "read_row_text" Lw.s_read_row_text ["text"] := by
      unfold L2.KOf
      refine' PN.df_mk KX G ?a ?l ?c ?k ?b
      (case a => k_is); (case l => k_is); (case c => k_is); (case k => k_is); (case b => exact fun _ _ _ _ _ _ us hl => match us, hl with | [_], _ => rfl)
    have D__law_feed : PN.Df (L2.KOf KX) mg "_law_feed" Lw.s__law_feed ["_law_script"] := by
      unfold L2.KOf
      refine' PN.df_mk KX G ?a ?l ?c ?k ?b
      (case a => k_is); (case l => k_is); (case c => k_is); (case k => k_is); (case b => exact fun _ _ _ _ _ _ us hl => match us, hl with | [_], _ => rfl)
    have D__law_draw : PN.Df (L2.KOf KX) mg "_law_draw" Lw.s__law_draw ["_law_feed_here", "_law_many"] := by
      unfold L2.KOf
      refine' PN.df_mk KX G ?a ?l ?c ?k ?b
      (case a => k_is); (case l => k_is); (case c => k_is); (case k => k_is); (case b => exact fun _ _ _ _ _ _ us hl => match us, hl with | [_, _], _ => rfl)
    have D__law_same : PN.Df (L2.KOf KX) mg "_law_same" Lw.s__law_same ["_law_found", "_law_due"] := by
      unfold L2.KOf
      refine' PN.df_mk KX G ?a ?l ?c ?k ?b
      (case a => k_is); (case l => k_is); (case c => k_is); (case k => k_is); (case b => exact fun _ _ _ _ _ _ us hl => match us, hl with | [_, _], _ => rfl)
    have D__law_series : PN.Df (L2.KOf KX) mg "_law_series" Lw.s__law_series ["_law_feed_here"] := by
      unfold L2.KOf
      refine' PN.df_mk KX G ?a ?l ?c ?k ?b
      (case a => k_is); (case l => k_is); (case c => k_is); (case k => k_is); (case b => exact fun _ _ _ _ _ _ us hl => match us, hl with | [_], _ => rfl)
    have D__law_piece : PN.Df (L2.KOf KX) mg "_law_piece" Lw.s__law_piece ["_law_feed_here"] := by
      unfold L2.KOf
      refine' PN.df_mk KX G ?a ?l ?c ?k ?b
      (case a => k_is); (case l => k_is); (case c => k_is); (case k => k_is); (case b => exact fun _ _ _ _ _ _ us hl => match us, hl with | [_], _ => rfl)
    have D__law_text : PN.Df (L2.KOf KX) mg "_law_text" Lw.s__law_text ["_law_pieces"] := by
      unfold L2.KOf
      refine' PN.df_mk KX G ?a ?l ?c ?k ?b
      (case a => k_is); (case l => k_is); (case c => k_is); (case k => k_is); (case b => exact fun _ _ _ _ _ _ us hl => match us, hl with | [_], _ => rfl)
    have D__law_are_runs : PN.Df (L2.KOf KX) mg "_law_are_runs" Lw.s__law_are_runs ["_law_pieces"] := by
      unfold L2.KOf
      refine' PN.df_mk KX G ?a ?l ?c ?k ?b
      (case a => k_is); (case l => k_is); (case c => k_is); (case k => k_is); (case b => exact fun _ _ _ _ _ _ us hl => match us, hl with | [_], _ => rfl)
    have D__law_runs : PN.Df (L2.KOf KX) mg "_law_runs" Lw.s__law_runs ["_law_feed_here"] := by
      unfold L2.KOf
      refine' PN.df_mk KX G ?a ?l ?c ?k ?b
      (case a => k_is); (case l => k_is); (case c => k_is); (case k => k_is); (case b => exact fun _ _ _ _ _ _ us hl => match us, hl with | [_], _ => rfl)
    have D__law_read : PN.Df (L2.KOf KX) mg "_law_read" Lw.s__law_read ["_law_reader", "_law_text_here"] := by
      unfold L2.KOf
      refine' PN.df_mk KX G ?a ?l ?c ?k ?b
      (case a => k_is); (case l => k_is); (case c => k_is); (case k => k_is); (case b => exact fun _ _ _ _ _ _ us hl => match us, hl with | [_, _], _ => rfl)
    have D_law : PN.Df (L2.KOf KX) mg "law" Lw.s_law ["_law_script"] := by
      unfold L2.KOf
      refine' PN.df_mk KX G ?a ?l ?c ?k ?b
      (case a => k_is); (case l => k_is); (case c => k_is); (case k => k_is); (case b => exact fun _ _ _ _ _ _ us hl => match us, hl with | [_], _ => rfl)
    have T : Lw.Txt (L2.KOf KX) mg := by
      unfold L2.KOf
      refine' ⟨PySem.W.mg_none_of KX G ?z0, PySem.W.mg_none_of KX G ?z1, PySem.W.mg_none_of KX G ?z2, PySem.W.mg_none_of KX G ?z3, PySem.W.mg_none_of KX G ?z4, PySem.W.mg_none_of KX G ?z5, PySem.W.mg_none_of KX G ?z6, PySem.W.mg_none_of KX G ?z7, PySem.W.mg_none_of KX G ?z8, PySem.W.mg_none_of KX G ?z9, PySem.W.mg_none_of KX G ?z10, PySem.W.mg_none_of KX G ?z11, PN.ci_of KX G ?y0, PN.cs_of KX G ?y1, PN.ci_of KX G ?y2, PN.ci_of KX G ?y3, PN.cs_of KX G ?y4, PN.ci_of KX G ?y5, PN.cs_of KX G ?y6, PN.ci_of KX G ?y7⟩
      (case z0 => k_is); (case z1 => k_is); (case z2 => k_is); (case z3 => k_is); (case z4 => k_is); (case z5 => k_is); (case z6 => k_is); (case z7 => k_is); (case z8 => k_is); (case z9 => k_is); (case z10 => k_is); (case z11 => k_is); (case y0 => k_is); (case y1 => k_is); (case y2 => k_is); (case y3 => k_is); (case y4 => k_is); (case y5 => k_is); (case y6 => k_is); (case y7 => k_is)
    have X_NoText : PN.XcF (L2.KOf KX) mg "NoText" "NoText.__init__" Lw.s_NoText ["self", "row", "word"] ["row", "word"] "NoteError" := by
      unfold L2.KOf
      refine' PN.xcf_mk KX G ?a ?xL ?rv ?sa ?ga ?gg (PN.AllNo.cons ?n0 (PN.AllNo.cons ?n1 PN.AllNo.nil)) ?iC ?tI ?l ?c ?k ?kC ?eC ?tC ?hC ?sC ?aB ?rB ?gB ?fB ?bnd
      (case a => k_is); (case xL => k_is); (case rv => decide +kernel); (case sa => k_is); (case ga => k_is); (case gg => k_is); (case n0 => k_is); (case n1 => k_is); (case iC => k_is); (case tI => k_is); (case l => k_is); (case c => k_is); (case k => k_is); (case kC => k_is); (case eC => k_is); (case tC => k_is); (case hC => k_is); (case sC => first | rfl | k_is); (case aB => k_is); (case rB => k_is); (case gB => k_is); (case fB => k_is); (case bnd => exact fun _ _ _ _ _ _ us hl => match us, hl with | [_, _, _], _ => rfl)
    refine PN.law_mk D_law hmg fun f fd F base hK hN => ?_
    have h_NoText := Lw.xc_NoText (P := PySem.Challenge.rw_pressnotes_k76_runs_as_texts.prog) (w := w) (base := base) X_NoText
    have h_shown_run := Lw.ok_shown_run (P := PySem.Challenge.rw_pressnotes_k76_runs_as_texts.prog) (w := w) (base := base) T D_shown_run 
    have h_shown_row := Lw.ok_shown_row (P := PySem.Challenge.rw_pressnotes_k76_runs_as_texts.prog) (w := w) (base := base) T D_shown_row h_shown_run
    have h_shown_runs := Lw.ok_shown_runs (P := PySem.Challenge.rw_pressnotes_k76_runs_as_texts.prog) (w := w) (base := base) T D_shown_runs h_shown_row
    have h_shown_name := Lw.ok_shown_name (P := PySem.Challenge.rw_pressnotes_k76_runs_as_texts.prog) (w := w) (base := base) T D_shown_name 
    have h_is_number := Lw.ok_is_number (P := PySem.Challenge.rw_pressnotes_k76_runs_as_texts.prog) (w := w) (base := base) T D_is_number 
    have h_is_series := Lw.ok_is_series (P := PySem.Challenge.rw_pressnotes_k76_runs_as_texts.prog) (w := w) (base := base) T D_is_series 
    have h_is_run := Lw.ok_is_run (P := PySem.Challenge.rw_pressnotes_k76_runs_as_texts.prog) (w := w) (base := base) T D_is_run h_is_number h_is_series
    have h_goes_ahead := Lw.ok_goes_ahead (P := PySem.Challenge.rw_pressnotes_k76_runs_as_texts.prog) (w := w) (base := base) T D_goes_ahead 
    have h_is_runs := Lw.ok_is_runs (P := PySem.Challenge.rw_pressnotes_k76_runs_as_texts.prog) (w := w) (base := base) T D_is_runs h_is_run h_goes_ahead
    have h_is_word := Lw.ok_is_word (P := PySem.Challenge.rw_pressnotes_k76_runs_as_texts.prog) (w := w) (base := base) T D_is_word 
    have h_number_in := Lw.ok_number_in (P := PySem.Challenge.rw_pressnotes_k76_runs_as_texts.prog) (w := w) (base := base) T D_number_in 
    have h_run_in := Lw.ok_run_in (P := PySem.Challenge.rw_pressnotes_k76_runs_as_texts.prog) (w := w) (base := base) T D_run_in h_is_word h_number_in
    have h_row_in := Lw.ok_row_in (P := PySem.Challenge.rw_pressnotes_k76_runs_as_texts.prog) (w := w) (base := base) T D_row_in h_run_in
    have h_runs_in := Lw.ok_runs_in (P := PySem.Challenge.rw_pressnotes_k76_runs_as_texts.prog) (w := w) (base := base) T D_runs_in h_is_runs h_row_in
    have h_read_alone := Lw.ok_read_alone (P := PySem.Challenge.rw_pressnotes_k76_runs_as_texts.prog) (w := w) (base := base) T D_read_alone h_NoText
    have h_read_runs := Lw.ok_read_runs (P := PySem.Challenge.rw_pressnotes_k76_runs_as_texts.prog) (w := w) (base := base) T D_read_runs h_runs_in h_read_alone
    have h_read_row_text := Lw.ok_read_row_text (P := PySem.Challenge.rw_pressnotes_k76_runs_as_texts.prog) (w := w) (base := base) T D_read_row_text h_row_in h_read_alone
    have h__law_feed := Lw.ok__law_feed (P := PySem.Challenge.rw_pressnotes_k76_runs_as_texts.prog) (w := w) (base := base) T D__law_feed 
    have h__law_draw := Lw.ok__law_draw (P := PySem.Challenge.rw_pressnotes_k76_runs_as_texts.prog) (w := w) (base := base) T D__law_draw 
    have h__law_same := Lw.ok__law_same (P := PySem.Challenge.rw_pressnotes_k76_runs_as_texts.prog) (w := w) (base := base) T D__law_same 
    have h__law_series := Lw.ok__law_series (P := PySem.Challenge.rw_pressnotes_k76_runs_as_texts.prog) (w := w) (base := base) T D__law_series h__law_draw
    have h__law_piece := Lw.ok__law_piece (P := PySem.Challenge.rw_pressnotes_k76_runs_as_texts.prog) (w := w) (base := base) T D__law_piece h__law_draw h__law_series
    have h__law_text := Lw.ok__law_text (P := PySem.Challenge.rw_pressnotes_k76_runs_as_texts.prog) (w := w) (base := base) T D__law_text 
    have h__law_are_runs := Lw.ok__law_are_runs (P := PySem.Challenge.rw_pressnotes_k76_runs_as_texts.prog) (w := w) (base := base) T D__law_are_runs 
    have h__law_runs := Lw.ok__law_runs (P := PySem.Challenge.rw_pressnotes_k76_runs_as_texts.prog) (w := w) (base := base) T D__law_runs h__law_draw h__law_piece h__law_are_runs
    have h__law_read := Lw.ok__law_read (P := PySem.Challenge.rw_pressnotes_k76_runs_as_texts.prog) (w := w) (base := base) T D__law_read h_NoText h_read_runs h_read_row_text
    exact Lw.ok_law F T h_shown_row h_shown_runs h_shown_name h_read_runs h_read_row_text h__law_feed h__law_draw h__law_same h__law_series h__law_piece h__law_text h__law_are_runs h__law_runs h__law_read

