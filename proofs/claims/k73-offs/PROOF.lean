import PyProof.Rows.All
import Wide.All
import OpenK.AllK
import Wide.FinOn
import HandS.ForMost
import HandS.ForExc
import HandS.TupAny
import HandS.IsInst
import HandS.ExcInit
import HandS.Deep
import HandS.Conv
import HandS.CallLocal
import HandS.Zip
import HandS.TupLe
import KE.KDictPairs
import HandS.Wide
import PyProof.ReprRoads
import KE.SortData
import HandS.ExcField
import HandS.TryOnly
import HandS.TryMany
import HandS.Ends
import HandS.ExcIs
import HandS.Text
import PyProof.Rows.ReprShort
import PyProof.StrLawsRepr
import HandS.TupSets
import HandS.SetKeys
import PySem.Challenge.RW_pressnotes_k73_offs
set_option Elab.async false
set_option linter.all false
set_option maxRecDepth 100000
set_option maxHeartbeats 4000000
/-! PN: plain evaluators (GE, GA, GS) for bodies of Python text, each with the rule that the machine does what it tells. -/
namespace PN
open PySem L2

/-! ### values and stores -/
/-- a value: plain data; a changing object by its place in the store; a def by its name; the script -/
inductive S where
  | dat (d : PyData)
  | ref (k : Nat)
  | fn (x : Str)
  | scr (ns : List Int)
/-- what stands at a place of the store -/
inductive MO where
  | lst (ss : List S)
  | dK (kvs : List (Key × S))
  | dT (kvs : List (List Key × S))
  | ins (c : Str) (fs : List (Str × S))
abbrev Bs := List (Option MO)
abbrev En := List (Option S)
/-- how an expression ends -/
inductive Re where
  | ok (s : S) (B : Bs)
  | exc (c : Str) (fs : List (Str × S)) (B : Bs)
  | bad
inductive Ra where
  | ok (s : List S) (B : Bs)
  | exc (c : Str) (fs : List (Str × S)) (B : Bs)
  | bad
/-- how a statement ends -/
inductive Rs where
  | nx (r : En) (B : Bs)
  | ret (s : S) (B : Bs)
  | brk (r : En) (B : Bs)
  | ct (r : En) (B : Bs)
  | exc (c : Str) (fs : List (Str × S)) (r : En) (B : Bs)
  | bad
abbrev GE := En → Bs → Re
abbrev GA := En → Bs → Ra
abbrev GS := En → Bs → Rs
/-- a def, a built-in: what it makes of arguments -/
abbrev GF := List S → Bs → Re

/-! ### what stands for what in the abstract heap -/
/-- an int or a text as data -/
def kD : Key → PyData
  | .inl i => .int i
  | .inr x => .str x
mutual
/-- plain data; lists, tuples and dicts are tracked ones -/
inductive Dq (K : PySem.W.Frag) (H : Hp) : V → PyData → Prop
  | non : Dq K H .non .none
  | bl (b : Bool) : Dq K H (.bl b) (.bool b)
  | int (i : Int) : Dq K H (.int i) (.int i)
  | str (x : Str) : Dq K H (.str x) (.str x)
  | lst {a : Addr} {xs : List V} {ds : List PyData} : H a = some (.lst xs) → DqAll K H xs ds → Dq K H (.ref a) (.list ds)
  | tup {a : Addr} {xs : List V} {ds : List PyData} : H a = some (.tup xs) → DqAll K H xs ds → Dq K H (.ref a) (.tuple ds)
  | dik {a : Addr} {kvs : List (Key × V)} {ps : List (PyData × PyData)} : H a = some (.dK kvs) → DkAll K H kvs ps → Dq K H (.ref a) (.dict ps)
  | dit {a : Addr} {kvs : List (List Key × V)} {ps : List (PyData × PyData)} : H a = some (.dT kvs) → DtAll K H kvs ps → Dq K H (.ref a) (.dict ps)
inductive DqAll (K : PySem.W.Frag) (H : Hp) : List V → List PyData → Prop
  | nil : DqAll K H [] []
  | cons {v : V} {vs : List V} {d : PyData} {ds : List PyData} : Dq K H v d → DqAll K H vs ds → DqAll K H (v :: vs) (d :: ds)
inductive DkAll (K : PySem.W.Frag) (H : Hp) : List (Key × V) → List (PyData × PyData) → Prop
  | nil : DkAll K H [] []
  | cons {k : Key} {v : V} {vs : List (Key × V)} {d : PyData} {ds : List (PyData × PyData)} : Dq K H v d → DkAll K H vs ds → DkAll K H ((k, v) :: vs) ((kD k, d) :: ds)
inductive DtAll (K : PySem.W.Frag) (H : Hp) : List (List Key × V) → List (PyData × PyData) → Prop
  | nil : DtAll K H [] []
  | cons {k : List Key} {v : V} {vs : List (List Key × V)} {d : PyData} {ds : List (PyData × PyData)} : Dq K H v d → DtAll K H vs ds → DtAll K H ((k, v) :: vs) ((.tuple (k.map kD), d) :: ds)
end
/-- where one stands: the places' addresses, what never changes any more, the heap -/
structure Cf where
  al : List Addr
  G : Hp
  H : Hp
section
variable (K : PySem.W.Frag) (mg : Str → Option Value)
def RS (c : Cf) : S → V → Prop
  | .dat d, v => Dq K c.G v d
  | .ref k, v => ∃ a, c.al[k]? = some a ∧ v = .ref a
  | .fn x, v => ∃ a, mg x = some (.ref a) ∧ v = .ref a
  | .scr ns, v => ∃ a, SqL K c.G a (ns.map V.int) ∧ v = .ref a
def RF (c : Cf) : List (Str × S) → List (Str × V) → Prop := Paired fun p q => p.1 = q.1 ∧ RS K mg c p.2 q.2
def RO (c : Cf) : MO → HO → Prop
  | .lst ss, .lst vs => Paired (RS K mg c) ss vs
  | .dK kvs, .dK ws => Paired (fun p q => p.1 = q.1 ∧ RS K mg c p.2 q.2) kvs ws
  | .dT kvs, .dT ws => Paired (fun p q => p.1 = q.1 ∧ RS K mg c p.2 q.2) kvs ws
  | .ins x fs, .ins C _ ws => mg x = some (.ref C) ∧ RF K mg c fs ws
  | _, _ => False
structure Hold (c : Cf) (B : Bs) : Prop where
  len : c.al.length = B.length
  gh : Same c.G c.H
  nd : c.al.Nodup
  tr : ∀ a ∈ c.al, c.H a ≠ none
  ob : ∀ (k : Nat) (o : MO), B[k]? = some (some o) → ∃ a ho, c.al[k]? = some a ∧ c.G a = none ∧ c.H a = some ho ∧ RO K mg c o ho
def RE (c : Cf) (r : En) (σ : St) : Prop := σ.length = r.length ∧ ∀ (i : Nat) (s : S), r[i]? = some (some s) → ∃ v, σ[i]? = some (some v) ∧ RS K mg c s v
end
/-- from one place to a later one -/
structure Step (c c' : Cf) : Prop where
  al : ∃ t, c'.al = c.al ++ t
  g : Same c.G c'.G
  h : ∀ b o, c.H b = some o → b ∉ c.al → c'.H b = some o
  new : ∀ a ∈ c'.al, a ∉ c.al → c.H a = none
  fr : ∀ b, c.G b = none → c.H b ≠ none → b ∉ c.al → c'.G b = none
theorem Step.refl (c : Cf) : Step c c := ⟨⟨[], by simp⟩, Same.refl _, fun _ _ h _ => h, fun _ h n => absurd h n, fun _ h _ _ => h⟩
theorem Step.mem {c c' : Cf} (s : Step c c') {a : Addr} (h : a ∈ c.al) : a ∈ c'.al := by
  obtain ⟨t, e⟩ := s.al
  rw [e]
  exact List.mem_append_left _ h
theorem Step.trans {a b c : Cf} (s : Step a b) (t : Step b c) : Step a c := by
  refine ⟨?_, s.g.trans t.g, fun x o h n => ?_, fun x h n => ?_, fun x h h2 n => ?_⟩
  · obtain ⟨u, e⟩ := s.al
    obtain ⟨v, f⟩ := t.al
    exact ⟨u ++ v, by rw [f, e, List.append_assoc]⟩
  · have h1 := s.h x o h n
    refine t.h x o h1 fun m => ?_
    have := s.new x m n
    rw [h] at this
    cases this
  · by_cases m : x ∈ b.al
    · exact s.new x m n
    · have q := t.new x h m
      cases e : a.H x with
      | none => rfl
      | some o =>
        rw [s.h x o e n] at q
        cases q
  · have g1 := s.fr x h h2 n
    refine t.fr x g1 (fun e => h2 ?_) fun m => h2 (s.new x m n)
    cases e' : a.H x with
    | none => rfl
    | some o =>
      rw [s.h x o e' n] at e
      cases e
section
variable {K : PySem.W.Frag} {mg : Str → Option Value}
theorem same_l {H H' : Hp} {a : Addr} {xs : List V} (e : Same H H') (h : SqL K H a xs) : SqL K H' a xs := e.seq h
theorem same_t {H H' : Hp} {a : Addr} {xs : List V} (e : Same H H') (h : SqT K H a xs) : SqT K H' a xs := by
  rcases h with (h | ⟨o, h⟩) | h
  · exact .inl (.inl (e _ _ h))
  · exact .inl (.inr ⟨o, e _ _ h⟩)
  · exact .inr h
mutual
theorem dp_mono' {H H' : Hp} (e : Same H H') {v : V} {d : PyData} : Dq K H v d → Dq K H' v d
  | .non => .non
  | .bl b => .bl b
  | .int i => .int i
  | .str x => .str x
  | .lst h a => .lst (e _ _ h) (dpAll_mono' e a)
  | .tup h a => .tup (e _ _ h) (dpAll_mono' e a)
  | .dik h a => .dik (e _ _ h) (dkAll_mono e a)
  | .dit h a => .dit (e _ _ h) (dtAll_mono e a)
theorem dpAll_mono' {H H' : Hp} (e : Same H H') {vs : List V} {ds : List PyData} : DqAll K H vs ds → DqAll K H' vs ds
  | .nil => .nil
  | .cons h a => .cons (dp_mono' e h) (dpAll_mono' e a)
theorem dkAll_mono {H H' : Hp} (e : Same H H') {vs : List (Key × V)} {ds : List (PyData × PyData)} : DkAll K H vs ds → DkAll K H' vs ds
  | .nil => .nil
  | .cons h a => .cons (dp_mono' e h) (dkAll_mono e a)
theorem dtAll_mono {H H' : Hp} (e : Same H H') {vs : List (List Key × V)} {ds : List (PyData × PyData)} : DtAll K H vs ds → DtAll K H' vs ds
  | .nil => .nil
  | .cons h a => .cons (dp_mono' e h) (dtAll_mono e a)
end
theorem dp_mono {H H' : Hp} (e : Same H H') (d : PyData) (v : V) (h : Dq K H v d) : Dq K H' v d := dp_mono' e h
theorem dpAll_mono {H H' : Hp} (e : Same H H') (ds : List PyData) (vs : List V) (h : DqAll K H vs ds) : DqAll K H' vs ds := dpAll_mono' e h
mutual
theorem Dq.dp {H : Hp} : ∀ (d : PyData) (v : V), d.hasDict = false → Dq K H v d → Dp K H v d
  | .none, _, _, h => by cases h; exact .non
  | .bool b, _, _, h => by cases h; exact .bl _
  | .int i, _, _, h => by cases h; exact .int _
  | .str x, _, _, h => by cases h; exact .str _
  | .list ds, _, n, h => by
    cases h with
    | lst h1 h2 => exact .lst (.inl (.inl h1)) (DqAll.dp ds _ (by simpa only [PyData.hasDict] using n) h2)
  | .tuple ds, _, n, h => by
    cases h with
    | tup h1 h2 => exact .tup (.inl (.inl h1)) (DqAll.dp ds _ (by simpa only [PyData.hasDict] using n) h2)
  | .dict _, _, n, h => by simp only [PyData.hasDict] at n; cases n
theorem DqAll.dp {H : Hp} : ∀ (ds : List PyData) (vs : List V), PyData.hasDictAll ds = false → DqAll K H vs ds → DpAll K H vs ds
  | [], _, _, h => by cases h; exact .nil
  | d :: ds, _, n, h => by
    have n : PyData.hasDict d = false ∧ PyData.hasDictAll ds = false := by simpa only [PyData.hasDictAll, Bool.or_eq_false_iff] using n
    cases h with
    | cons h1 h2 => exact .cons (Dq.dp d _ n.1 h1) (DqAll.dp ds _ n.2 h2)
end
theorem no_shaped {d : PyData} (h : SeqAt.shaped d = true) : d.hasDict = false := PyData.hasDict_of_canLay d (SeqAt.canLay_of_shaped h)
theorem RS.mono {c c' : Cf} (st : Step c c') {s : S} {v : V} (h : RS K mg c s v) : RS K mg c' s v := by
  cases s with
  | dat d => exact dp_mono st.g d v h
  | ref k =>
    obtain ⟨a, h1, h2⟩ := h
    obtain ⟨t, e⟩ := st.al
    refine ⟨a, ?_, h2⟩
    rw [e, List.getElem?_append_left (List.getElem?_eq_some_iff.mp h1).1]
    exact h1
  | fn x => exact h
  | scr ns =>
    obtain ⟨a, h1, h2⟩ := h
    exact ⟨a, same_l st.g h1, h2⟩
theorem paired_mono {α β : Type} {F F' : α → β → Prop} (f : ∀ a b, F a b → F' a b) : ∀ {l₁ : List α} {l₂ : List β}, Paired F l₁ l₂ → Paired F' l₁ l₂
  | _, _, .nil => .nil
  | _, _, .cons h t => .cons (f _ _ h) (paired_mono f t)
theorem RSs.mono {c c' : Cf} (st : Step c c') {ss : List S} {vs : List V} (h : Paired (RS K mg c) ss vs) : Paired (RS K mg c') ss vs := paired_mono (fun _ _ => RS.mono st) h
theorem RF.mono {c c' : Cf} (st : Step c c') {ss : List (Str × S)} {vs : List (Str × V)} (h : RF K mg c ss vs) : RF K mg c' ss vs := paired_mono (fun _ _ q => ⟨q.1, RS.mono st q.2⟩) h
theorem RO.mono {c c' : Cf} (st : Step c c') {o : MO} {u : HO} (h : RO K mg c o u) : RO K mg c' o u := by
  cases o with
  | lst ss => cases u <;> first | exact RSs.mono st h | exact h.elim
  | dK kvs => cases u <;> first | exact paired_mono (fun _ _ q => ⟨q.1, RS.mono st q.2⟩) h | exact h.elim
  | dT kvs => cases u <;> first | exact paired_mono (fun _ _ q => ⟨q.1, RS.mono st q.2⟩) h | exact h.elim
  | ins x fs => cases u <;> first | exact ⟨h.1, RF.mono st h.2⟩ | exact h.elim
theorem RE.mono {c c' : Cf} (st : Step c c') {r : En} {σ : St} (h : RE K mg c r σ) : RE K mg c' r σ := ⟨h.1, fun i s e => by
  obtain ⟨v, h1, h2⟩ := h.2 i s e
  exact ⟨v, h1, RS.mono st h2⟩⟩
theorem RE.set {c : Cf} {r : En} {σ : St} (h : RE K mg c r σ) (i : Nat) {s : S} {v : V} (hs : RS K mg c s v) : RE K mg c (r.set i (some s)) (σ.set i (some v)) := by
  refine ⟨by rw [List.length_set, List.length_set]; exact h.1, fun j t e => ?_⟩
  by_cases q : i = j
  · subst q
    have hl : i < r.length := by
      have := (List.getElem?_eq_some_iff.mp e).1
      rwa [List.length_set] at this
    rw [List.getElem?_set_self hl] at e
    cases e
    exact ⟨v, by rw [List.getElem?_set_self (by rw [h.1]; exact hl)], hs⟩
  · rw [List.getElem?_set_ne q] at e
    rw [List.getElem?_set_ne q]
    exact h.2 j t e
theorem RE.clr {c : Cf} {r : En} {σ : St} (h : RE K mg c r σ) (i : Nat) (o : Option V) : RE K mg c (r.set i none) (σ.set i o) := by
  refine ⟨by rw [List.length_set, List.length_set]; exact h.1, fun j t e => ?_⟩
  by_cases q : i = j
  · subst q
    have hl : i < r.length := by
      have := (List.getElem?_eq_some_iff.mp e).1
      rwa [List.length_set] at this
    rw [List.getElem?_set_self hl] at e
    cases e
  · rw [List.getElem?_set_ne q] at e
    rw [List.getElem?_set_ne q]
    exact h.2 j t e
theorem nodup_at {α : Type} : ∀ {l : List α} {i j : Nat} {x : α} {hi : i < l.length} {hj : j < l.length}, l.Nodup → l[i] = x → l[j] = x → i = j := by
  intro l i j x hi hj nd e1 e2
  rw [List.nodup_iff_pairwise_ne, List.pairwise_iff_getElem] at nd
  rcases Nat.lt_trichotomy i j with h | h | h
  · exact absurd (e1.trans e2.symm) (nd i j hi hj h)
  · exact h
  · exact absurd (e2.trans e1.symm) (nd j i hj hi h)
theorem Hold.free {c : Cf} {B : Bs} (h : Hold K mg c B) {p : Addr} (hp : c.H p = none) : c.G p = none ∧ p ∉ c.al := by
  refine ⟨h.gh.free hp, fun m => h.tr p m hp⟩
/-- a new thing that never changes, at p -/
theorem frz_step {c : Cf} {B : Bs} (h : Hold K mg c B) {p : Addr} {o : HO} (hp : c.H p = none) : Step c ⟨c.al, upd c.G p o, upd c.H p o⟩ where
  al := ⟨[], by simp⟩
  g := fun b u e => by
    show upd c.G p o b = some u
    rw [upd_ne (ne_of_none e (h.free hp).1)]
    exact e
  h := fun b u e _ => by
    show upd c.H p o b = some u
    rw [upd_ne (ne_of_none e hp)]
    exact e
  new := fun a h n => absurd h n
  fr := fun b g0 h0 _ => by
    show upd c.G p o b = none
    rw [upd_ne (show b ≠ p from fun q => h0 (by rw [q]; exact hp))]
    exact g0
theorem frz_hold {c : Cf} {B : Bs} (h : Hold K mg c B) {p : Addr} {o : HO} (hp : c.H p = none) : Hold K mg ⟨c.al, upd c.G p o, upd c.H p o⟩ B := by
  obtain ⟨g0, n0⟩ := h.free hp
  refine ⟨h.len, fun b u e => ?_, h.nd, fun a m => ?_, fun k u e => ?_⟩
  · show upd c.H p o b = some u
    have e : upd c.G p o b = some u := e
    by_cases q : b = p
    · subst q
      rw [upd_same] at e ⊢
      exact e
    · rw [upd_ne q] at e ⊢
      exact h.gh b u e
  · show upd c.H p o a ≠ none
    rw [upd_ne (show a ≠ p from fun q => n0 (by rw [← q]; exact m))]
    exact h.tr a m
  · obtain ⟨a, ho, h1, h2, h3, h4⟩ := h.ob k u e
    have ne : a ≠ p := ne_of_none h3 hp
    exact ⟨a, ho, h1, by show upd c.G p o a = none; rw [upd_ne ne]; exact h2, by show upd c.H p o a = some ho; rw [upd_ne ne]; exact h3, RO.mono (frz_step h hp) h4⟩
/-- a thing new to the heap, of which nothing is kept -/
theorem bare_step {c : Cf} {p : Addr} {o : HO} (hp : p ∉ c.al) (hq : c.H p = none) : Step c ⟨c.al, c.G, upd c.H p o⟩ where
  al := ⟨[], by simp⟩
  g := Same.refl _
  h := fun b u e _ => by
    show upd c.H p o b = some u
    rw [upd_ne (ne_of_none e hq)]
    exact e
  new := fun a h n => absurd h n
  fr := fun b g0 _ _ => g0
/-- something that is neither kept nor told may turn -/
theorem bare_hold {c : Cf} {B : Bs} (h : Hold K mg c B) {p : Addr} {o : HO} (hp : p ∉ c.al) (hg : c.G p = none) : Hold K mg ⟨c.al, c.G, upd c.H p o⟩ B := by
  have same : ∀ u ho, RO K mg c u ho → RO K mg ⟨c.al, c.G, upd c.H p o⟩ u ho := by
    intro u ho r
    cases u <;> cases ho <;> exact r
  refine ⟨h.len, fun b u e => ?_, h.nd, fun a m => ?_, fun k u e => ?_⟩
  · show upd c.H p o b = some u
    rw [upd_ne (ne_of_none e hg)]
    exact h.gh b u e
  · show upd c.H p o a ≠ none
    rw [upd_ne (show a ≠ p from fun q => hp (by rw [← q]; exact m))]
    exact h.tr a m
  · obtain ⟨a, ho, h1, h2, h3, h4⟩ := h.ob k u e
    have ne : a ≠ p := fun q => hp (by rw [← q]; exact List.mem_of_getElem? h1)
    exact ⟨a, ho, h1, h2, by show upd c.H p o a = some ho; rw [upd_ne ne]; exact h3, same _ _ h4⟩
/-- a new changing object -/
theorem alc_step {c : Cf} {p : Addr} {o : HO} (hp : c.H p = none) : Step c ⟨c.al ++ [p], c.G, upd c.H p o⟩ where
  al := ⟨[p], rfl⟩
  g := Same.refl _
  h := fun b u e _ => by
    show upd c.H p o b = some u
    rw [upd_ne (ne_of_none e hp)]
    exact e
  new := fun a m n => by
    have m : a ∈ c.al ++ [p] := m
    rcases List.mem_append.mp m with q | q
    · exact absurd q n
    · rw [List.mem_singleton.mp q]; exact hp
  fr := fun b g0 _ _ => g0
theorem alc_hold {c : Cf} {B : Bs} (h : Hold K mg c B) {p : Addr} {o : HO} {mo : MO} (hp : c.H p = none) (ho : RO K mg ⟨c.al ++ [p], c.G, upd c.H p o⟩ mo o) : Hold K mg ⟨c.al ++ [p], c.G, upd c.H p o⟩ (B ++ [some mo]) := by
  obtain ⟨g0, n0⟩ := h.free hp
  refine ⟨?_, fun b u e => ?_, ?_, fun a m => ?_, fun k u e => ?_⟩
  · show (c.al ++ [p]).length = (B ++ [some mo]).length
    rw [List.length_append, List.length_append, h.len]
    rfl
  · show upd c.H p o b = some u
    rw [upd_ne (ne_of_none e g0)]
    exact h.gh b u e
  · show (c.al ++ [p]).Nodup
    rw [List.nodup_append]
    exact ⟨h.nd, by simp, fun a ha b hb q => n0 (by rw [List.mem_singleton] at hb; rw [← hb, ← q]; exact ha)⟩
  · show upd c.H p o a ≠ none
    by_cases q : a = p
    · subst q; rw [upd_same]; exact fun z => by cases z
    · rw [upd_ne q]
      have m : a ∈ c.al ++ [p] := m
      rcases List.mem_append.mp m with m | m
      · exact h.tr a m
      · exact absurd (List.mem_singleton.mp m) q
  · by_cases hk : k < B.length
    · rw [List.getElem?_append_left hk] at e
      obtain ⟨a, hu, h1, h2, h3, h4⟩ := h.ob k u e
      have ne : a ≠ p := ne_of_none h3 hp
      exact ⟨a, hu, by show (c.al ++ [p])[k]? = some a; rw [List.getElem?_append_left (by rw [h.len]; exact hk)]; exact h1, h2, by show upd c.H p o a = some hu; rw [upd_ne ne]; exact h3, RO.mono (alc_step hp) h4⟩
    · have hk2 : k = B.length := by
        have := (List.getElem?_eq_some_iff.mp e).1
        rw [List.length_append] at this
        have : k < B.length + 1 := this
        omega
      subst hk2
      rw [List.getElem?_concat_length] at e
      cases e
      exact ⟨p, o, by show (c.al ++ [p])[B.length]? = some p; rw [← h.len, List.getElem?_concat_length], g0, upd_same, ho⟩
/-- the object at the place k turns -/
theorem put_step {c : Cf} {a : Addr} {o : HO} (ha : a ∈ c.al) : Step c ⟨c.al, c.G, upd c.H a o⟩ where
  al := ⟨[], by simp⟩
  g := Same.refl _
  h := fun b u e n => by
    show upd c.H a o b = some u
    rw [upd_ne (show b ≠ a from fun q => n (by rw [q]; exact ha))]
    exact e
  new := fun a h n => absurd h n
  fr := fun b g0 _ _ => g0
theorem RO.heap {c : Cf} {H' : Hp} {u : MO} {ho : HO} (r : RO K mg c u ho) : RO K mg ⟨c.al, c.G, H'⟩ u ho := by
  cases u <;> cases ho <;> exact r
theorem put_hold {c : Cf} {B : Bs} (h : Hold K mg c B) {k : Nat} {a : Addr} {o : HO} {mo mo0 : MO} (hk : B[k]? = some (some mo0)) (ha : c.al[k]? = some a) (ho : RO K mg c mo o) : Hold K mg ⟨c.al, c.G, upd c.H a o⟩ (B.set k (some mo)) := by
  obtain ⟨a', hu, h1, h2, h3, h4⟩ := h.ob k mo0 hk
  have e : a' = a := Option.some.inj (h1.symm.trans ha)
  subst e
  refine ⟨by show c.al.length = _; rw [List.length_set]; exact h.len, fun b u e => ?_, h.nd, fun b m => ?_, fun j u e => ?_⟩
  · show upd c.H a' o b = some u
    rw [upd_ne (ne_of_none e h2)]
    exact h.gh b u e
  · show upd c.H a' o b ≠ none
    by_cases q : b = a'
    · subst q; rw [upd_same]; exact fun z => by cases z
    · rw [upd_ne q]; exact h.tr b m
  · by_cases q : k = j
    · subst q
      have hl : k < B.length := (List.getElem?_eq_some_iff.mp hk).1
      rw [List.getElem?_set_self hl] at e
      cases e
      exact ⟨a', o, h1, h2, upd_same, RO.heap ho⟩
    · rw [List.getElem?_set_ne q] at e
      obtain ⟨b, hv, g1, g2, g3, g4⟩ := h.ob j u e
      have ne : b ≠ a' := by
        intro z
        subst z
        obtain ⟨i1, e1⟩ := List.getElem?_eq_some_iff.mp h1
        obtain ⟨i2, e2⟩ := List.getElem?_eq_some_iff.mp g1
        exact q (nodup_at h.nd e1 e2)
      exact ⟨b, hv, g1, g2, by show upd c.H a' o b = some hv; rw [upd_ne ne]; exact g3, RO.heap g4⟩
/-- a list of data is changed no more -/
theorem shut_step {c : Cf} {a : Addr} {o : HO} (ha : a ∈ c.al) (hg : c.G a = none) : Step c ⟨c.al, upd c.G a o, c.H⟩ where
  al := ⟨[], by simp⟩
  g := fun b u e => by
    show upd c.G a o b = some u
    rw [upd_ne (ne_of_none e hg)]
    exact e
  h := fun b u e _ => e
  new := fun a h n => absurd h n
  fr := fun b g0 _ n => by
    show upd c.G a o b = none
    rw [upd_ne (show b ≠ a from fun q => n (by rw [q]; exact ha))]
    exact g0
theorem shut_hold {c : Cf} {B : Bs} (h : Hold K mg c B) {k : Nat} {a : Addr} {o : HO} (ha : c.al[k]? = some a) (hg : c.G a = none) (ho : c.H a = some o) : Hold K mg ⟨c.al, upd c.G a o, c.H⟩ (B.set k none) := by
  refine ⟨by show c.al.length = _; rw [List.length_set]; exact h.len, fun b u e => ?_, h.nd, h.tr, fun j u e => ?_⟩
  · have e : upd c.G a o b = some u := e
    show c.H b = some u
    by_cases q : b = a
    · subst q; rw [upd_same] at e; rw [ho]; exact e
    · rw [upd_ne q] at e; exact h.gh b u e
  · by_cases q : k = j
    · subst q
      have hl : k < B.length := by rw [← h.len]; exact (List.getElem?_eq_some_iff.mp ha).1
      rw [List.getElem?_set_self hl] at e
      cases e
    · rw [List.getElem?_set_ne q] at e
      obtain ⟨b, hv, g1, g2, g3, g4⟩ := h.ob j u e
      have ne : b ≠ a := by
        intro z
        subst z
        obtain ⟨i1, e1⟩ := List.getElem?_eq_some_iff.mp ha
        obtain ⟨i2, e2⟩ := List.getElem?_eq_some_iff.mp g1
        exact q (nodup_at h.nd e1 e2)
      exact ⟨b, hv, g1, by show upd c.G a o b = none; rw [upd_ne ne]; exact g2, g3, RO.mono (shut_step (List.mem_of_getElem? ha) hg) g4⟩
end
end PN

set_option maxRecDepth 100000
set_option maxHeartbeats 4000000
/-! PN, second part: readings of evaluators; names, constants, operators, tests, displays, calls. -/
namespace PN
open PySem L2
abbrev GP := List S → Bs → Option (S × Bs)
section
variable (K : PySem.W.Frag) (mg : Str → Option Value)
/-- what is wanted behind an expression -/
def Fin (W : WX) (c : Cf) (σ : St) (Q : VK) : Re → Prop
  | .ok s B => ∀ c' v, Step c c' → Hold K mg c' B → RS K mg c' s v → Q v c'.H
  | .exc x fs B => ∀ c' C d ws, Step c c' → Hold K mg c' B → mg x = some (.ref C) → c'.G d = some (.xd ws) → RF K mg c' fs ws → W (.ref C) (some d) σ c'.H
  | .bad => False
def FinA (W : WX) (c : Cf) (σ : St) (Q : List V → Hp → Prop) : Ra → Prop
  | .ok s B => ∀ c' v, Step c c' → Hold K mg c' B → Paired (RS K mg c') s v → Q v c'.H
  | .exc x fs B => ∀ c' C d ws, Step c c' → Hold K mg c' B → mg x = some (.ref C) → c'.G d = some (.xd ws) → RF K mg c' fs ws → W (.ref C) (some d) σ c'.H
  | .bad => False
def FinT (W : WX) (c : Cf) (σ : St) (Q : Bool → Hp → Prop) : Re → Prop
  | .ok (.dat (.bool b)) B => ∀ c', Step c c' → Hold K mg c' B → Q b c'.H
  | .exc x fs B => ∀ c' C d ws, Step c c' → Hold K mg c' B → mg x = some (.ref C) → c'.G d = some (.xd ws) → RF K mg c' fs ws → W (.ref C) (some d) σ c'.H
  | _ => False
def FinP (c : Cf) (Q : VK) : Option (S × Bs) → Prop
  | some (s, B) => ∀ c' v, Step c c' → Hold K mg c' B → RS K mg c' s v → Q v c'.H
  | none => False
def FinS (W : WX) (c : Cf) (D : Ends) : Rs → Prop
  | .nx r B => ∀ c' σ, Step c c' → Hold K mg c' B → RE K mg c' r σ → D.nx σ c'.H
  | .ret s B => ∀ c' v, Step c c' → Hold K mg c' B → RS K mg c' s v → D.rt v c'.H
  | .brk r B => ∀ c' σ, Step c c' → Hold K mg c' B → RE K mg c' r σ → D.bk σ c'.H
  | .ct r B => ∀ c' σ, Step c c' → Hold K mg c' B → RE K mg c' r σ → D.ct σ c'.H
  | .exc x fs r B => ∀ c' σ C d ws, Step c c' → Hold K mg c' B → RE K mg c' r σ → mg x = some (.ref C) → c'.G d = some (.xd ws) → RF K mg c' fs ws → W (.ref C) (some d) σ c'.H
  | .bad => False
def rdE (W : WX) (g : GE) : TE := fun σ H Q => ∃ r B c, c.H = H ∧ Hold K mg c B ∧ RE K mg c r σ ∧ Fin K mg W c σ Q (g r B)
def rdA (W : WX) (g : GA) : TA := fun σ H Q => ∃ r B c, c.H = H ∧ Hold K mg c B ∧ RE K mg c r σ ∧ FinA K mg W c σ Q (g r B)
def rdT (W : WX) (g : GE) : TT := fun σ H Q => ∃ r B c, c.H = H ∧ Hold K mg c B ∧ RE K mg c r σ ∧ FinT K mg W c σ Q (g r B)
def rdS (W : WX) (g : GS) : TS := fun D σ H => ∃ r B c, c.H = H ∧ Hold K mg c B ∧ RE K mg c r σ ∧ FinS K mg W c D (g r B)
end
theorem PE_le {X : Cx} {e : Expr} {t t' : TE} (h : PE X e t) (f : ∀ σ H Q, t' σ H Q → t σ H Q) : PE X e t' := ⟨fun pins s σ H Q I q => h.run pins s σ H Q I (f _ _ _ q)⟩
theorem PA_le {X : Cx} {e : List Expr} {t t' : TA} (h : PA X e t) (f : ∀ σ H Q, t' σ H Q → t σ H Q) : PA X e t' := ⟨fun pos pins s σ H Q I q => h.run pos pins s σ H Q I (f _ _ _ q)⟩
theorem PT_le {X : Cx} {e : Expr} {t t' : TT} (h : PT X e t) (f : ∀ σ H Q, t' σ H Q → t σ H Q) : PT X e t' := ⟨fun pins s σ H Q I q => h.run pins s σ H Q I (f _ _ _ q)⟩
theorem PW_le {X : Cx} {e : Expr} {t t' : TT} (h : PW X e t) (f : ∀ σ H Q, t' σ H Q → t σ H Q) : PW X e t' := ⟨fun w pins s σ H Q I q => h.run w pins s σ H Q I (f _ _ _ q)⟩
theorem PS_le {X : Cx} {e : Stmt} {t t' : TS} (h : PS X e t) (f : ∀ D σ H, t' D σ H → t D σ H) : PS X e t' := ⟨fun pins s σ H D I q => h.run pins s σ H D I (f _ _ _ q)⟩
theorem PSs_le {X : Cx} {e : List Stmt} {t t' : TS} (h : PSs X e t) (f : ∀ D σ H, t' D σ H → t D σ H) : PSs X e t' := ⟨fun pins s σ H D I q => h.run pins s σ H D I (f _ _ _ q)⟩
section
variable {K : PySem.W.Frag} {mg : Str → Option Value} {W : WX} {c c1 : Cf} {σ : St}
theorem Fin.step (s : Step c c1) {Q : VK} : ∀ {x : Re}, Fin K mg W c σ Q x → Fin K mg W c1 σ Q x
  | .ok _ _, h => fun c' v t => h c' v (s.trans t)
  | .exc _ _ _, h => fun c' C d ws t => h c' C d ws (s.trans t)
  | .bad, h => h
theorem FinA.step (s : Step c c1) {Q : List V → Hp → Prop} : ∀ {x : Ra}, FinA K mg W c σ Q x → FinA K mg W c1 σ Q x
  | .ok _ _, h => fun c' v t => h c' v (s.trans t)
  | .exc _ _ _, h => fun c' C d ws t => h c' C d ws (s.trans t)
  | .bad, h => h
theorem FinT.step (s : Step c c1) {Q : Bool → Hp → Prop} : ∀ {x : Re}, FinT K mg W c σ Q x → FinT K mg W c1 σ Q x
  | .ok (.dat (.bool _)) _, h => fun c' t => h c' (s.trans t)
  | .exc _ _ _, h => fun c' C d ws t => h c' C d ws (s.trans t)
  | .bad, h => h
theorem FinS.step (s : Step c c1) {D : Ends} : ∀ {x : Rs}, FinS K mg W c D x → FinS K mg W c1 D x
  | .nx _ _, h => fun c' v t => h c' v (s.trans t)
  | .brk _ _, h => fun c' v t => h c' v (s.trans t)
  | .ct _ _, h => fun c' v t => h c' v (s.trans t)
  | .ret _ _, h => fun c' v t => h c' v (s.trans t)
  | .exc _ _ _ _, h => fun c' σ C d ws t => h c' σ C d ws (s.trans t)
  | .bad, h => h
end
/-! ### one behind the other -/
def gBind (g : GE) (f : S → GE) : GE := fun r B => match g r B with
  | .ok s B1 => f s r B1
  | .exc x fs B1 => .exc x fs B1
  | .bad => .bad
def gBindA (g : GA) (f : List S → GE) : GE := fun r B => match g r B with
  | .ok s B1 => f s r B1
  | .exc x fs B1 => .exc x fs B1
  | .bad => .bad
def aBind (g : GE) (f : S → GA) : GA := fun r B => match g r B with
  | .ok s B1 => f s r B1
  | .exc x fs B1 => .exc x fs B1
  | .bad => .bad
def aBindA (g : GA) (f : List S → GA) : GA := fun r B => match g r B with
  | .ok s B1 => f s r B1
  | .exc x fs B1 => .exc x fs B1
  | .bad => .bad
section
variable {K : PySem.W.Frag} {mg : Str → Option Value} {W : WX} {c c1 : Cf} {σ : St} {r : En} {B : Bs}
theorem fin_bind {g : GE} {f : S → GE} {Q : VK} (hc : Hold K mg c B) (hr : RE K mg c r σ) (h : Fin K mg W c σ Q (gBind g f r B)) :
    rdE K mg W g σ c.H (fun v H1 => ∃ c' s B', c'.H = H1 ∧ Step c c' ∧ Hold K mg c' B' ∧ RE K mg c' r σ ∧ RS K mg c' s v ∧ Fin K mg W c' σ Q (f s r B')) := by
  refine ⟨r, B, c, rfl, hc, hr, ?_⟩
  unfold gBind at h
  cases e : g r B with
  | ok s B1 => rw [e] at h; exact fun c' v st hd hs => ⟨c', s, B1, rfl, st, hd, hr.mono st, hs, Fin.step st h⟩
  | exc x fs B1 => rw [e] at h; exact h
  | bad => rw [e] at h; exact h
theorem fin_bindA {g : GA} {f : List S → GE} {Q : VK} (hc : Hold K mg c B) (hr : RE K mg c r σ) (h : Fin K mg W c σ Q (gBindA g f r B)) :
    rdA K mg W g σ c.H (fun v H1 => ∃ c' s B', c'.H = H1 ∧ Step c c' ∧ Hold K mg c' B' ∧ RE K mg c' r σ ∧ Paired (RS K mg c') s v ∧ Fin K mg W c' σ Q (f s r B')) := by
  refine ⟨r, B, c, rfl, hc, hr, ?_⟩
  unfold gBindA at h
  cases e : g r B with
  | ok s B1 => rw [e] at h; exact fun c' v st hd hs => ⟨c', s, B1, rfl, st, hd, hr.mono st, hs, Fin.step st h⟩
  | exc x fs B1 => rw [e] at h; exact h
  | bad => rw [e] at h; exact h
theorem finA_bind {g : GE} {f : S → GA} {Q : List V → Hp → Prop} (hc : Hold K mg c B) (hr : RE K mg c r σ) (h : FinA K mg W c σ Q (aBind g f r B)) :
    rdE K mg W g σ c.H (fun v H1 => ∃ c' s B', c'.H = H1 ∧ Step c c' ∧ Hold K mg c' B' ∧ RE K mg c' r σ ∧ RS K mg c' s v ∧ FinA K mg W c' σ Q (f s r B')) := by
  refine ⟨r, B, c, rfl, hc, hr, ?_⟩
  unfold aBind at h
  cases e : g r B with
  | ok s B1 => rw [e] at h; exact fun c' v st hd hs => ⟨c', s, B1, rfl, st, hd, hr.mono st, hs, FinA.step st h⟩
  | exc x fs B1 => rw [e] at h; exact h
  | bad => rw [e] at h; exact h
theorem finA_bindA {g : GA} {f : List S → GA} {Q : List V → Hp → Prop} (hc : Hold K mg c B) (hr : RE K mg c r σ) (h : FinA K mg W c σ Q (aBindA g f r B)) :
    rdA K mg W g σ c.H (fun v H1 => ∃ c' s B', c'.H = H1 ∧ Step c c' ∧ Hold K mg c' B' ∧ RE K mg c' r σ ∧ Paired (RS K mg c') s v ∧ FinA K mg W c' σ Q (f s r B')) := by
  refine ⟨r, B, c, rfl, hc, hr, ?_⟩
  unfold aBindA at h
  cases e : g r B with
  | ok s B1 => rw [e] at h; exact fun c' v st hd hs => ⟨c', s, B1, rfl, st, hd, hr.mono st, hs, FinA.step st h⟩
  | exc x fs B1 => rw [e] at h; exact h
  | bad => rw [e] at h; exact h
end
/-! ### names and constants -/
def gC (s : S) : GE := fun _ B => .ok s B
def gVar (i : Nat) : GE := fun r B => match r[i]? with
  | some (some s) => .ok s B
  | _ => .bad
section
variable {X : Cx} {W : WX} {pos : Pos}
theorem r_int {i : Int} {j} : PE X (.Constant (.int i) j pos) (rdE X.K X.mg W (gC (.dat (.int i)))) := PE_le pe_int fun σ H Q h => by
  obtain ⟨r, B, c, rfl, hd, hr, h⟩ := h
  exact h c (.int i) (Step.refl c) hd (.int i)
theorem r_bl {b : Bool} {j} : PE X (.Constant (.bool b) j pos) (rdE X.K X.mg W (gC (.dat (.bool b)))) := PE_le pe_bl fun σ H Q h => by
  obtain ⟨r, B, c, rfl, hd, hr, h⟩ := h
  exact h c (.bl b) (Step.refl c) hd (.bl b)
theorem r_str {x : Str} {j} : PE X (.Constant (.str x) j pos) (rdE X.K X.mg W (gC (.dat (.str x)))) := PE_le pe_str fun σ H Q h => by
  obtain ⟨r, B, c, rfl, hd, hr, h⟩ := h
  exact h c (.str x) (Step.refl c) hd (.str x)
theorem r_non {j} : PE X (.Constant .none j pos) (rdE X.K X.mg W (gC (.dat .none))) := PE_le pe_non fun σ H Q h => by
  obtain ⟨r, B, c, rfl, hd, hr, h⟩ := h
  exact h c .non (Step.refl c) hd .non
theorem r_var {i : Nat} {x : Str} (hN : X.N[i]? = some x) (hv : Vis X.env.scope x) (hd : (x == ("__debug__" : Str)) = false) (hcd : (x == ("__classdict__" : Str)) = false) : PE X (.Name x pos) (rdE X.K X.mg W (gVar i)) := PE_le (pe_var hN hv hd hcd) fun σ H Q h => by
  obtain ⟨r, B, c, rfl, hd, hr, h⟩ := h
  unfold gVar at h
  cases e : r[i]? with
  | none => rw [e] at h; exact h.elim
  | some o =>
    cases o with
    | none => rw [e] at h; exact h.elim
    | some s =>
      rw [e] at h
      obtain ⟨v, h1, h2⟩ := hr.2 i s e
      exact ⟨v, h1, h c v (Step.refl c) hd h2⟩
theorem r_gint {x : Str} {i : Int} {t : Tok} (hg : Gl X x) (hm : X.mg x = some (.int i t)) (hd : (x == ("__debug__" : Str)) = false) : PE X (.Name x pos) (rdE X.K X.mg W (gC (.dat (.int i)))) := PE_le (pe_glob (v := .int i) hg hm ⟨t, rfl⟩ hd) fun σ H Q h => by
  obtain ⟨r, B, c, rfl, hd, hr, h⟩ := h
  exact h c (.int i) (Step.refl c) hd (.int i)
theorem r_gstr {x y : Str} {t : Tok} (hg : Gl X x) (hm : X.mg x = some (.str y t)) (hd : (x == ("__debug__" : Str)) = false) : PE X (.Name x pos) (rdE X.K X.mg W (gC (.dat (.str y)))) := PE_le (pe_glob (v := .str y) hg hm ⟨t, rfl⟩ hd) fun σ H Q h => by
  obtain ⟨r, B, c, rfl, hd, hr, h⟩ := h
  exact h c (.str y) (Step.refl c) hd (.str y)
theorem r_gfn {x : Str} {f : Addr} (hg : Gl X x) (hm : X.mg x = some (.ref f)) (hd : (x == ("__debug__" : Str)) = false) : PE X (.Name x pos) (rdE X.K X.mg W (gC (.fn x))) := PE_le (pe_glob (v := .ref f) hg hm rfl hd) fun σ H Q h => by
  obtain ⟨r, B, c, rfl, hd, hr, h⟩ := h
  exact h c (.ref f) (Step.refl c) hd ⟨f, hm, rfl⟩
end
/-! ### what is made of values -/
def liftP : Option (S × Bs) → Re
  | some (s, B) => .ok s B
  | none => .bad
def gP1 (f : GP) (ga : GE) : GE := gBind ga fun s _ B => liftP (f [s] B)
def gP2 (f : GP) (ga gb : GE) : GE := gBind ga fun s => gBind gb fun t _ B => liftP (f [s, t] B)
def gPN (f : GP) (ga : GA) : GE := gBindA ga fun ss _ B => liftP (f ss B)
def gNil : GA := fun _ B => .ok [] B
def gCons (ga : GE) (gr : GA) : GA := aBind ga fun s => aBindA gr fun ss _ B => .ok (s :: ss) B
def Prim (K : PySem.W.Frag) (mg : Str → Option Value) (f : GP) (R : List V → Hp → VK → Prop) : Prop :=
  ∀ (ss : List S) (vs : List V) (c : Cf) (B : Bs) (Q : VK), Hold K mg c B → Paired (RS K mg c) ss vs → FinP K mg c Q (f ss B) → R vs c.H Q
def PrimOp (X : Cx) (op : Value → Value → Sem Value) (f : GP) : Prop := ∃ r : R2, OpR X op r ∧ ∀ (s t : S) (v u : V) (c : Cf) (B : Bs) (Q : VK), Hold X.K X.mg c B → RS X.K X.mg c s v → RS X.K X.mg c t u → FinP X.K X.mg c Q (f [s, t] B) → r v u c.H Q
def PrimUn (X : Cx) (op : Value → Sem Value) (f : GP) : Prop := ∃ r : V → Hp → VK → Prop, UnR X op r ∧ ∀ (s : S) (v : V) (c : Cf) (B : Bs) (Q : VK), Hold X.K X.mg c B → RS X.K X.mg c s v → FinP X.K X.mg c Q (f [s] B) → r v c.H Q
def PrimCall (X : Cx) (b : Value) (f : GP) : Prop := ∃ R, CallR X b R ∧ Prim X.K X.mg f R
def PrimIx (X : Cx) (f : GP) : Prop := ∃ r : R2, IxR X r ∧ ∀ (s t : S) (v u : V) (c : Cf) (B : Bs) (Q : VK), Hold X.K X.mg c B → RS X.K X.mg c s v → RS X.K X.mg c t u → FinP X.K X.mg c Q (f [s, t] B) → r v u c.H Q
section
variable {K : PySem.W.Frag} {mg : Str → Option Value} {W : WX} {c c1 : Cf} {σ : St}
theorem finP_of {o : Option (S × Bs)} {Q : VK} (h : Fin K mg W c σ Q (liftP o)) : FinP K mg c Q o := by
  cases o with
  | none => exact h
  | some p => exact h
theorem Fin.mono {Q Q' : VK} (f : ∀ v H, Q v H → Q' v H) : ∀ {x : Re}, Fin K mg W c σ Q x → Fin K mg W c σ Q' x
  | .ok _ _, h => fun c' v t hd hs => f _ _ (h c' v t hd hs)
  | .exc _ _ _, h => h
  | .bad, h => h
theorem FinA.mono {Q Q' : List V → Hp → Prop} (f : ∀ v H, Q v H → Q' v H) : ∀ {x : Ra}, FinA K mg W c σ Q x → FinA K mg W c σ Q' x
  | .ok _ _, h => fun c' v t hd hs => f _ _ (h c' v t hd hs)
  | .exc _ _ _, h => h
  | .bad, h => h
theorem FinT.mono {Q Q' : Bool → Hp → Prop} (f : ∀ v H, Q v H → Q' v H) : ∀ {x : Re}, FinT K mg W c σ Q x → FinT K mg W c σ Q' x
  | .ok (.dat (.bool _)) _, h => fun c' t hd => f _ _ (h c' t hd)
  | .exc _ _ _, h => h
  | .bad, h => h
theorem rdE_mono {g : GE} {H : Hp} {Q Q' : VK} (h : rdE K mg W g σ H Q) (f : ∀ v H, Q v H → Q' v H) : rdE K mg W g σ H Q' := by
  obtain ⟨r, B, c, e, hd, hr, h⟩ := h
  exact ⟨r, B, c, e, hd, hr, h.mono f⟩
theorem rdA_mono {g : GA} {H : Hp} {Q Q' : List V → Hp → Prop} (h : rdA K mg W g σ H Q) (f : ∀ v H, Q v H → Q' v H) : rdA K mg W g σ H Q' := by
  obtain ⟨r, B, c, e, hd, hr, h⟩ := h
  exact ⟨r, B, c, e, hd, hr, h.mono f⟩
theorem rdT_mono {g : GE} {H : Hp} {Q Q' : Bool → Hp → Prop} (h : rdT K mg W g σ H Q) (f : ∀ v H, Q v H → Q' v H) : rdT K mg W g σ H Q' := by
  obtain ⟨r, B, c, e, hd, hr, h⟩ := h
  exact ⟨r, B, c, e, hd, hr, h.mono f⟩
theorem rd_one {f : S → GE} {g : GE} {H : Hp} {Q : VK} (h : rdE K mg W (gBind g f) σ H Q) : rdE K mg W g σ H (fun v H1 => ∃ c s B r, c.H = H1 ∧ Hold K mg c B ∧ RE K mg c r σ ∧ RS K mg c s v ∧ Fin K mg W c σ Q (f s r B)) := by
  obtain ⟨r, B, c, rfl, hd, hr, h⟩ := h
  exact rdE_mono (fin_bind hd hr h) fun v H1 ⟨c', s, B', e, st, hd', hr', hs, h'⟩ => ⟨c', s, B', r, e, hd', hr', hs, h'⟩
theorem rd_oneA {f : List S → GE} {g : GA} {H : Hp} {Q : VK} (h : rdE K mg W (gBindA g f) σ H Q) : rdA K mg W g σ H (fun v H1 => ∃ c s B r, c.H = H1 ∧ Hold K mg c B ∧ RE K mg c r σ ∧ Paired (RS K mg c) s v ∧ Fin K mg W c σ Q (f s r B)) := by
  obtain ⟨r, B, c, rfl, hd, hr, h⟩ := h
  exact rdA_mono (fin_bindA hd hr h) fun v H1 ⟨c', s, B', e, st, hd', hr', hs, h'⟩ => ⟨c', s, B', r, e, hd', hr', hs, h'⟩
/-- two, one behind the other -/
theorem rd_two {f : S → S → GE} {g g2 : GE} {H : Hp} {Q : VK} (h : rdE K mg W (gBind g fun s => gBind g2 fun t => f s t) σ H Q) : rdE K mg W g σ H (fun v H1 => rdE K mg W g2 σ H1 fun u H2 => ∃ c s t B r, c.H = H2 ∧ Hold K mg c B ∧ RE K mg c r σ ∧ RS K mg c s v ∧ RS K mg c t u ∧ Fin K mg W c σ Q (f s t r B)) := by
  refine rdE_mono (rd_one h) fun v H1 ⟨c, s, B, r, e, hd, hr, hs, h⟩ => ?_
  subst e
  exact rdE_mono (fin_bind hd hr h) fun u H2 ⟨c2, t, B2, e, st, hd2, hr2, ht, h2⟩ => ⟨c2, s, t, B2, r, e, hd2, hr2, RS.mono st hs, ht, h2⟩
end
section
variable {X : Cx} {W : WX} {pos : Pos} {a b e : Expr} {es : List Expr} {ga gb gt : GE} {gr : GA} {f : GP}
theorem r_op {op : Operator} (h : PrimOp X (binaryOp op) f) (ha : PE X a (rdE X.K X.mg W ga)) (hb : PE X b (rdE X.K X.mg W gb)) : PE X (.BinOp a op b pos) (rdE X.K X.mg W (gP2 f ga gb)) := by
  obtain ⟨r, ho, hp⟩ := h
  refine PE_le (pe_op ho ha hb) fun σ H Q h => rdE_mono (rd_two h) fun v H1 h => rdE_mono h fun u H2 ⟨c, s, t, B, ρ, e, hd, hr, hs, ht, h⟩ => ?_
  subst e
  exact hp s t v u c B Q hd hs ht (finP_of h)
theorem r_un {op : UnaryOp} (h : PrimUn X (unaryOp op) f) (ha : PE X a (rdE X.K X.mg W ga)) : PE X (.UnaryOp op a pos) (rdE X.K X.mg W (gP1 f ga)) := by
  obtain ⟨r, ho, hp⟩ := h
  refine PE_le (pe_un ho ha) fun σ H Q h => rdE_mono (rd_one h) fun v H1 ⟨c, s, B, ρ, e, hd, hr, hs, h⟩ => ?_
  subst e
  exact hp s v c B Q hd hs (finP_of h)
theorem r_cmp {op : CmpOp} (h : PrimOp X (compareOp op) f) (ha : PE X a (rdE X.K X.mg W ga)) (hb : PE X b (rdE X.K X.mg W gb)) (hm : behindInMarks op b = false) : PE X (.Compare a [op] [b] pos) (rdE X.K X.mg W (gP2 f ga gb)) := by
  obtain ⟨r, ho, hp⟩ := h
  refine PE_le (pe_cmpR ho ha hb hm) fun σ H Q h => rdE_mono (rd_two h) fun v H1 h => rdE_mono h fun u H2 ⟨c, s, t, B, ρ, e, hd, hr, hs, ht, h⟩ => ?_
  subst e
  exact hp s t v u c B Q hd hs ht (finP_of h)
theorem r_ix (h : PrimIx X f) (ha : PE X a (rdE X.K X.mg W ga)) (hb : PE X b (rdE X.K X.mg W gb)) (hs : PlainIx b) : PE X (.Subscript a b pos) (rdE X.K X.mg W (gP2 f ga gb)) := by
  obtain ⟨r, ho, hp⟩ := h
  refine PE_le (pe_ix ho ha hb hs) fun σ H Q h => rdE_mono (rd_two h) fun v H1 h => rdE_mono h fun u H2 ⟨c, s, t, B, ρ, e, hd, hr, hs, ht, h⟩ => ?_
  subst e
  exact hp s t v u c B Q hd hs ht (finP_of h)
theorem r_nil : PA X [] (rdA X.K X.mg W gNil) := PA_le pa_nil fun σ H Q h => by
  obtain ⟨r, B, c, rfl, hd, hr, h⟩ := h
  exact h c [] (Step.refl c) hd .nil
theorem r_cons (ha : PE X e (rdE X.K X.mg W ga)) (hr : PA X es (rdA X.K X.mg W gr)) (hs : starEach (e :: es) X.env = (false, eval e X.env) :: starEach es X.env) : PA X (e :: es) (rdA X.K X.mg W (gCons ga gr)) := by
  refine PA_le (pa_cons ha hr hs) fun σ H Q h => ?_
  obtain ⟨r, B, c, rfl, hd, hr, h⟩ := h
  refine rdE_mono (finA_bind hd hr h) fun v H1 ⟨c2, s, B2, e2, st2, hd2, hr2, hs2, h2⟩ => ?_
  subst e2
  refine rdA_mono (finA_bindA hd2 hr2 h2) fun vs H2 ⟨c3, ss, B3, e3, st3, hd3, hr3, hs3, h3⟩ => ?_
  subst e3
  exact h3 c3 (v :: vs) (Step.refl _) hd3 (.cons (RS.mono st3 hs2) hs3)
theorem r_callB {x : Str} {p : Pos} {id : String} (h : PrimCall X (.builtin id) f) (hg : Gl X x) (hm : X.mg x = none) (hv : bootBuiltins x = some (.builtin id)) (ha : PA X (e :: es) (rdA X.K X.mg W gr)) (hn : x ≠ "__name__") (hdb : (x == ("__debug__" : Str)) = false)
    (he : starEach (e :: es) X.env = (false, eval e X.env) :: starEach es X.env) (hpl : (backTo pos (starEach es X.env)).any (·.1) = false) : PE X (.Call (.Name x p) (e :: es) [] pos) (rdE X.K X.mg W (gPN f gr)) := by
  obtain ⟨R, ho, hp⟩ := h
  refine PE_le (pe_callB ho hg hm hv ha hn hdb he hpl) fun σ H Q h => rdA_mono (rd_oneA h) fun v H1 ⟨c, s, B, ρ, e, hd, hr, hs, h⟩ => ?_
  subst e
  exact hp s v c B Q hd hs (finP_of h)
theorem r_callTy {x : Str} {p : Pos} {T : String} (h : PrimCall X (.type T) f) (hg : Gl X x) (hm : X.mg x = none) (hv : bootBuiltins x = some (.type T)) (ha : PA X (e :: es) (rdA X.K X.mg W gr)) (hn : x ≠ "__name__") (hdb : (x == ("__debug__" : Str)) = false)
    (he : starEach (e :: es) X.env = (false, eval e X.env) :: starEach es X.env) (hpl : (backTo pos (starEach es X.env)).any (·.1) = false) : PE X (.Call (.Name x p) (e :: es) [] pos) (rdE X.K X.mg W (gPN f gr)) := by
  obtain ⟨R, ho, hp⟩ := h
  refine PE_le (pe_callTy ho hg hm hv ha hn hdb he hpl) fun σ H Q h => rdA_mono (rd_oneA h) fun v H1 ⟨c, s, B, ρ, e, hd, hr, hs, h⟩ => ?_
  subst e
  exact hp s v c B Q hd hs (finP_of h)
end
/-! ### displays -/
def datOf : S → Option PyData
  | .dat d => some d
  | _ => none
def datsOf : List S → Option (List PyData)
  | [] => some []
  | .dat d :: r => (datsOf r).map (d :: ·)
  | _ :: _ => none
def pTup : GP := fun ss B => if ss.length ≤ sizeLine then (datsOf ss).map fun ds => (.dat (.tuple ds), B) else none
def pLst : GP := fun ss B => if ss.length ≤ sizeLine then (datsOf ss).map fun ds => (.dat (.list ds), B) else none
/-- a list that will change -/
def pLstA : GP := fun ss B => if ss.length ≤ sizeLine then some (.ref B.length, B ++ [some (.lst ss)]) else none
section
variable {K : PySem.W.Frag} {mg : Str → Option Value} {c : Cf}
theorem dats_all : ∀ {ss : List S} {ds : List PyData} {vs : List V}, datsOf ss = some ds → Paired (RS K mg c) ss vs → DqAll K c.G vs ds
  | [], _, _, h, .nil => by cases h; exact .nil
  | .dat d :: r, _, _, h, .cons h1 h2 => by
    have h : (datsOf r).map (d :: ·) = some _ := h
    cases e : datsOf r with
    | none => rw [e] at h; cases h
    | some x => rw [e] at h; cases h; exact .cons h1 (dats_all e h2)
theorem dats_len : ∀ {ss : List S} {ds : List PyData}, datsOf ss = some ds → ss.length = ds.length
  | [], _, h => by cases h; rfl
  | .dat d :: r, _, h => by
    have h : (datsOf r).map (d :: ·) = some _ := h
    cases e : datsOf r with
    | none => rw [e] at h; cases h
    | some x => rw [e] at h; cases h; exact congrArg (· + 1) (dats_len e)
theorem dats_map (ds : List PyData) : datsOf (ds.map S.dat) = some ds := by
  induction ds with
  | nil => rfl
  | cons d r ih => show (datsOf (r.map S.dat)).map (d :: ·) = _; rw [ih]; rfl
theorem all_dats : ∀ {ds : List PyData} {vs : List V}, DqAll K c.G vs ds → Paired (RS K mg c) (ds.map S.dat) vs
  | [], _, h => by cases h; exact .nil
  | d :: r, _, h => by cases h with | cons h1 h2 => exact .cons h1 (all_dats h2)
theorem paired_len {α β : Type} {F : α → β → Prop} {xs : List α} {ys : List β} (h : Paired F xs ys) : xs.length = ys.length := Paired.length h
/-- a new tuple of data -/
theorem new_tup {B : Bs} {ds : List PyData} {vs : List V} (hd : Hold K mg c B) (h : DqAll K c.G vs ds) {p : Addr} (hp : c.H p = none) {Q : VK}
    (q : ∀ c' v, Step c c' → Hold K mg c' B → RS K mg c' (.dat (.tuple ds)) v → Q v c'.H) : Q (.ref p) (upd c.H p (.tup vs)) :=
  q ⟨c.al, upd c.G p (.tup vs), upd c.H p (.tup vs)⟩ (.ref p) (frz_step hd hp) (frz_hold hd hp) (.tup upd_same (dpAll_mono (frz_step hd hp).g ds vs h))
theorem new_lst {B : Bs} {ds : List PyData} {vs : List V} (hd : Hold K mg c B) (h : DqAll K c.G vs ds) {p : Addr} (hp : c.H p = none) {Q : VK}
    (q : ∀ c' v, Step c c' → Hold K mg c' B → RS K mg c' (.dat (.list ds)) v → Q v c'.H) : Q (.ref p) (upd c.H p (.lst vs)) :=
  q ⟨c.al, upd c.G p (.lst vs), upd c.H p (.lst vs)⟩ (.ref p) (frz_step hd hp) (frz_hold hd hp) (.lst upd_same (dpAll_mono (frz_step hd hp).g ds vs h))
theorem new_lstA {B : Bs} {ss : List S} {vs : List V} (hd : Hold K mg c B) (h : Paired (RS K mg c) ss vs) {p : Addr} (hp : c.H p = none) {Q : VK}
    (q : ∀ c' v, Step c c' → Hold K mg c' (B ++ [some (.lst ss)]) → RS K mg c' (.ref B.length) v → Q v c'.H) : Q (.ref p) (upd c.H p (.lst vs)) :=
  q ⟨c.al ++ [p], c.G, upd c.H p (.lst vs)⟩ (.ref p) (alc_step hp) (alc_hold hd hp (RSs.mono (alc_step hp) h)) ⟨p, by show (c.al ++ [p])[B.length]? = some p; rw [← hd.len, List.getElem?_concat_length], rfl⟩
end
section
variable {X : Cx} {W : WX} {pos : Pos} {es : List Expr} {gr : GA}
theorem r_tup {x1} (h : PA X es (rdA X.K X.mg W gr)) : PE X (.Tuple es x1 pos) (rdE X.K X.mg W (gPN pTup gr)) := by
  refine PE_le (pe_tup h) fun σ H Q h => rdA_mono (rd_oneA h) fun v H1 ⟨c, s, B, ρ, e, hd, hr, hs, h⟩ => ?_
  subst e
  have h := finP_of h
  unfold pTup at h
  by_cases hl : s.length ≤ sizeLine
  · rw [if_pos hl] at h
    cases e : datsOf s with
    | none => rw [e] at h; exact h.elim
    | some ds =>
      rw [e] at h
      exact ⟨by rw [← paired_len hs]; exact hl, fun p hp => new_tup hd (dats_all e hs) hp h⟩
  · rw [if_neg hl] at h; exact h.elim
theorem r_lst (h : PA X es (rdA X.K X.mg W gr)) : PE X (.List es pos) (rdE X.K X.mg W (gPN pLst gr)) := by
  refine PE_le (pe_lst h) fun σ H Q h => rdA_mono (rd_oneA h) fun v H1 ⟨c, s, B, ρ, e, hd, hr, hs, h⟩ => ?_
  subst e
  have h := finP_of h
  unfold pLst at h
  by_cases hl : s.length ≤ sizeLine
  · rw [if_pos hl] at h
    cases e : datsOf s with
    | none => rw [e] at h; exact h.elim
    | some ds =>
      rw [e] at h
      exact ⟨by rw [← paired_len hs]; exact hl, fun p hp => new_lst hd (dats_all e hs) hp h⟩
  · rw [if_neg hl] at h; exact h.elim
theorem r_lstA (h : PA X es (rdA X.K X.mg W gr)) : PE X (.List es pos) (rdE X.K X.mg W (gPN pLstA gr)) := by
  refine PE_le (pe_lst h) fun σ H Q h => rdA_mono (rd_oneA h) fun v H1 ⟨c, s, B, ρ, e, hd, hr, hs, h⟩ => ?_
  subst e
  have h := finP_of h
  unfold pLstA at h
  by_cases hl : s.length ≤ sizeLine
  · rw [if_pos hl] at h
    exact ⟨by rw [← paired_len hs]; exact hl, fun p hp => new_lstA hd hs hp h⟩
  · rw [if_neg hl] at h; exact h.elim
end
end PN

set_option maxRecDepth 100000
set_option maxHeartbeats 4000000
/-! PN, third part: tests, statements, loops. -/
namespace PN
open PySem L2
/-! ### tests -/
def gAnd (ga gb : GE) : GE := fun r B => match ga r B with
  | .ok (.dat (.bool true)) B1 => gb r B1
  | .ok (.dat (.bool false)) B1 => .ok (.dat (.bool false)) B1
  | .exc x fs B1 => .exc x fs B1
  | _ => .bad
def gOr (ga gb : GE) : GE := fun r B => match ga r B with
  | .ok (.dat (.bool true)) B1 => .ok (.dat (.bool true)) B1
  | .ok (.dat (.bool false)) B1 => gb r B1
  | .exc x fs B1 => .exc x fs B1
  | _ => .bad
def gNot (ga : GE) : GE := fun r B => match ga r B with
  | .ok (.dat (.bool b)) B1 => .ok (.dat (.bool (!b))) B1
  | .exc x fs B1 => .exc x fs B1
  | _ => .bad
def gIf (gt ga gb : GE) : GE := fun r B => match gt r B with
  | .ok (.dat (.bool true)) B1 => ga r B1
  | .ok (.dat (.bool false)) B1 => gb r B1
  | .exc x fs B1 => .exc x fs B1
  | _ => .bad
section
variable {K : PySem.W.Frag} {mg : Str → Option Value} {c : Cf} {W : WX} {σ : St} {r : En} {B : Bs}
theorem rs_bool {b : Bool} {v : V} (h : RS K mg c (.dat (.bool b)) v) : v = .bl b := by
  have h : Dq K c.G v (.bool b) := h
  cases h
  rfl
theorem rs_int {i : Int} {v : V} (h : RS K mg c (.dat (.int i)) v) : v = .int i := by
  have h : Dq K c.G v (.int i) := h
  cases h
  rfl
theorem rs_str {i : Str} {v : V} (h : RS K mg c (.dat (.str i)) v) : v = .str i := by
  have h : Dq K c.G v (.str i) := h
  cases h
  rfl
theorem rs_non {v : V} (h : RS K mg c (.dat .none) v) : v = .non := by
  have h : Dq K c.G v .none := h
  cases h
  rfl
/-- a test, then one of two -/
theorem finT_of {g : GE} {k : Bool → Re} {P : Bool → Hp → Prop} (hc : Hold K mg c B) (hr : RE K mg c r σ)
    (he : match g r B with
      | .ok (.dat (.bool b)) B1 => ∀ c', Step c c' → Hold K mg c' B1 → P b c'.H
      | .exc x fs B1 => Fin K mg W c σ (fun _ _ => True) (.exc x fs B1)
      | _ => False) : rdT K mg W g σ c.H P := by
  refine ⟨r, B, c, rfl, hc, hr, ?_⟩
  cases e : g r B with
  | ok s B1 =>
    rw [e] at he
    cases s with
    | dat d =>
      cases d <;> first | exact he | exact he.elim
    | ref k => exact he.elim
    | _ => exact he.elim
  | exc x fs B1 => rw [e] at he; exact he
  | bad => rw [e] at he; exact he.elim
end
section
variable {X : Cx} {W : WX} {pos : Pos} {a b e : Expr} {rest : List Expr} {ga gb gt : GE}
theorem t_of (h : PE X e (rdE X.K X.mg W ga)) (he : ∀ whole, isTrue e X.env whole = (do let v ← whole; standAt e.pos; holding [v] (truthy v))) : PT X e (rdT X.K X.mg W ga) := by
  refine PT_le (pt_val h he) fun σ H Q h => ?_
  obtain ⟨r, B, c, rfl, hd, hr, h⟩ := h
  refine ⟨r, B, c, rfl, hd, hr, ?_⟩
  cases e : ga r B with
  | ok s B1 =>
    rw [e] at h
    cases s with
    | dat d =>
      cases d <;> first | exact h.elim | exact fun c' v st hd' hs => ⟨_, rs_bool hs, h c' st hd'⟩
    | ref k => exact h.elim
    | _ => exact h.elim
  | exc x fs B1 => rw [e] at h; exact h
  | bad => rw [e] at h; exact h.elim
theorem w_and1 (ha : PT X a (rdT X.K X.mg W ga)) : PW X (.BoolOp .And [a] pos) (rdT X.K X.mg W ga) := pw_and1 ha
theorem w_or1 (ha : PT X a (rdT X.K X.mg W ga)) : PW X (.BoolOp .Or [a] pos) (rdT X.K X.mg W ga) := pw_or1 ha
theorem w_and (ha : PT X a (rdT X.K X.mg W ga)) (hb : PW X (.BoolOp .And (b :: rest) pos) (rdT X.K X.mg W gb)) : PW X (.BoolOp .And (a :: b :: rest) pos) (rdT X.K X.mg W (gAnd ga gb)) := by
  refine PW_le (pw_and ha hb) fun σ H Q h => ?_
  obtain ⟨r, B, c, rfl, hd, hr, h⟩ := h
  refine ⟨r, B, c, rfl, hd, hr, ?_⟩
  unfold gAnd at h
  cases e : ga r B with
  | ok s B1 =>
    rw [e] at h
    cases s with
    | dat d =>
      cases d with
      | bool b =>
        cases b with
        | true => exact fun c' st hd' => ⟨r, B1, c', rfl, hd', hr.mono st, FinT.step st h⟩
        | false => exact fun c' st hd' => h c' st hd'
      | _ => exact h.elim
    | ref k => exact h.elim
    | _ => exact h.elim
  | exc x fs B1 => rw [e] at h; exact h
  | bad => rw [e] at h; exact h.elim
theorem w_or (ha : PT X a (rdT X.K X.mg W ga)) (hb : PW X (.BoolOp .Or (b :: rest) pos) (rdT X.K X.mg W gb)) : PW X (.BoolOp .Or (a :: b :: rest) pos) (rdT X.K X.mg W (gOr ga gb)) := by
  refine PW_le (pw_or ha hb) fun σ H Q h => ?_
  obtain ⟨r, B, c, rfl, hd, hr, h⟩ := h
  refine ⟨r, B, c, rfl, hd, hr, ?_⟩
  unfold gOr at h
  cases e : ga r B with
  | ok s B1 =>
    rw [e] at h
    cases s with
    | dat d =>
      cases d with
      | bool b =>
        cases b with
        | false => exact fun c' st hd' => ⟨r, B1, c', rfl, hd', hr.mono st, FinT.step st h⟩
        | true => exact fun c' st hd' => h c' st hd'
      | _ => exact h.elim
    | ref k => exact h.elim
    | _ => exact h.elim
  | exc x fs B1 => rw [e] at h; exact h
  | bad => rw [e] at h; exact h.elim
theorem t_not (ha : PT X a (rdT X.K X.mg W ga)) : PT X (.UnaryOp .Not a pos) (rdT X.K X.mg W (gNot ga)) := by
  refine PT_le (pt_not ha) fun σ H Q h => ?_
  obtain ⟨r, B, c, rfl, hd, hr, h⟩ := h
  refine ⟨r, B, c, rfl, hd, hr, ?_⟩
  unfold gNot at h
  cases e : ga r B with
  | ok s B1 =>
    rw [e] at h
    cases s with
    | dat d =>
      cases d <;> first | exact h.elim | exact fun c' st hd' => h c' st hd'
    | ref k => exact h.elim
    | _ => exact h.elim
  | exc x fs B1 => rw [e] at h; exact h
  | bad => rw [e] at h; exact h.elim
theorem r_ifx {t : Expr} (ht : PT X t (rdT X.K X.mg W gt)) (ha : PE X a (rdE X.K X.mg W ga)) (hb : PE X b (rdE X.K X.mg W gb)) : PE X (.IfExp t a b pos) (rdE X.K X.mg W (gIf gt ga gb)) := by
  refine PE_le (pe_ifExp ht ha hb) fun σ H Q h => ?_
  obtain ⟨r, B, c, rfl, hd, hr, h⟩ := h
  refine ⟨r, B, c, rfl, hd, hr, ?_⟩
  unfold gIf at h
  cases e : gt r B with
  | ok s B1 =>
    rw [e] at h
    cases s with
    | dat d =>
      cases d with
      | bool b =>
        cases b with
        | true => exact fun c' st hd' => iteT ⟨r, B1, c', rfl, hd', hr.mono st, Fin.step st h⟩
        | false => exact fun c' st hd' => iteF ⟨r, B1, c', rfl, hd', hr.mono st, Fin.step st h⟩
      | _ => exact h.elim
    | ref k => exact h.elim
    | _ => exact h.elim
  | exc x fs B1 => rw [e] at h; exact h
  | bad => rw [e] at h; exact h.elim
/-- as values -/
theorem r_bo1 {op} (h : PE X a (rdE X.K X.mg W ga)) : PE X (.BoolOp op [a] pos) (rdE X.K X.mg W ga) := pe_one h
theorem r_and (ha : PE X a (rdE X.K X.mg W ga)) (hb : PE X (.BoolOp .And (b :: rest) pos) (rdE X.K X.mg W gb)) : PE X (.BoolOp .And (a :: b :: rest) pos) (rdE X.K X.mg W (gAnd ga gb)) := by
  refine PE_le (pe_and ha hb) fun σ H Q h => ?_
  obtain ⟨r, B, c, rfl, hd, hr, h⟩ := h
  refine ⟨r, B, c, rfl, hd, hr, ?_⟩
  unfold gAnd at h
  cases e : ga r B with
  | ok s B1 =>
    rw [e] at h
    cases s with
    | dat d =>
      cases d with
      | bool b =>
        cases b with
        | true => exact fun c' v st hd' hs => ⟨true, rs_bool hs, iteT ⟨r, B1, c', rfl, hd', hr.mono st, Fin.step st h⟩⟩
        | false => exact fun c' v st hd' hs => ⟨false, rs_bool hs, iteF (h c' (.bl false) st hd' (.bl false))⟩
      | _ => exact h.elim
    | ref k => exact h.elim
    | _ => exact h.elim
  | exc x fs B1 => rw [e] at h; exact h
  | bad => rw [e] at h; exact h.elim
theorem r_or (ha : PE X a (rdE X.K X.mg W ga)) (hb : PE X (.BoolOp .Or (b :: rest) pos) (rdE X.K X.mg W gb)) : PE X (.BoolOp .Or (a :: b :: rest) pos) (rdE X.K X.mg W (gOr ga gb)) := by
  refine PE_le (pe_or ha hb) fun σ H Q h => ?_
  obtain ⟨r, B, c, rfl, hd, hr, h⟩ := h
  refine ⟨r, B, c, rfl, hd, hr, ?_⟩
  unfold gOr at h
  cases e : ga r B with
  | ok s B1 =>
    rw [e] at h
    cases s with
    | dat d =>
      cases d with
      | bool b =>
        cases b with
        | false => exact fun c' v st hd' hs => ⟨false, rs_bool hs, iteF ⟨r, B1, c', rfl, hd', hr.mono st, Fin.step st h⟩⟩
        | true => exact fun c' v st hd' hs => ⟨true, rs_bool hs, iteT (h c' (.bl true) st hd' (.bl true))⟩
      | _ => exact h.elim
    | ref k => exact h.elim
    | _ => exact h.elim
  | exc x fs B1 => rw [e] at h; exact h
  | bad => rw [e] at h; exact h.elim
theorem r_not (ha : PE X a (rdE X.K X.mg W ga)) : PE X (.UnaryOp .Not a pos) (rdE X.K X.mg W (gNot ga)) := by
  refine PE_le (pe_not ha) fun σ H Q h => ?_
  obtain ⟨r, B, c, rfl, hd, hr, h⟩ := h
  refine ⟨r, B, c, rfl, hd, hr, ?_⟩
  unfold gNot at h
  cases e : ga r B with
  | ok s B1 =>
    rw [e] at h
    cases s with
    | dat d =>
      cases d <;> first | exact h.elim | exact fun c' v st hd' hs => ⟨_, rs_bool hs, h c' (.bl _) st hd' (.bl _)⟩
    | ref k => exact h.elim
    | _ => exact h.elim
  | exc x fs B1 => rw [e] at h; exact h
  | bad => rw [e] at h; exact h.elim
end
/-- a op1 b op2 c -/
def gChain (f f' : GP) (ga gb gc : GE) : GE := gBind ga fun s => gBind gb fun t r B => match f [s, t] B with
  | some (.dat (.bool true), B1) => gBind gc (fun u _ B2 => liftP (f' [t, u] B2)) r B1
  | some (.dat (.bool false), B1) => .ok (.dat (.bool false)) B1
  | _ => .bad
section
variable {X : Cx} {W : WX} {pos : Pos} {a b d : Expr} {ga gb gd : GE} {f f' : GP}
theorem r_chain {op op' : CmpOp} (h : PrimOp X (compareOp op) f) (h' : PrimOp X (compareOp op') f') (ha : PE X a (rdE X.K X.mg W ga)) (hb : PE X b (rdE X.K X.mg W gb)) (hc : PE X d (rdE X.K X.mg W gd))
    (hm : lastMarks [op, op'] [b, d] = false) : PE X (.Compare a [op, op'] [b, d] pos) (rdE X.K X.mg W (gChain f f' ga gb gd)) := by
  obtain ⟨r, ho, hp⟩ := h
  obtain ⟨r', ho', hp'⟩ := h'
  refine PE_le (pe_chain ho ho' ha hb hc hm) fun σ H Q h => rdE_mono (rd_two h) fun v H1 h => rdE_mono h fun u H2 ⟨c, s, t, B, ρ, e, hd, hr, hs, ht, h⟩ => ?_
  subst e
  refine hp s t v u c B _ hd hs ht ?_
  cases e : f [s, t] B with
  | none => rw [e] at h; exact h.elim
  | some q =>
    obtain ⟨z, B1⟩ := q
    rw [e] at h
    intro c' x st hd' hz
    cases z with
    | dat z =>
      cases z with
      | bool k =>
        refine ⟨k, rs_bool hz, ?_⟩
        cases k with
        | true =>
          refine iteT ?_
          refine rdE_mono (fin_bind hd' (hr.mono st) (Fin.step st h)) fun w' H4 ⟨c2, s2, B2, e2, st2, hd2, hr2, hs2, h2⟩ => ?_
          subst e2
          exact hp' t s2 u w' c2 B2 Q hd2 (RS.mono (st.trans st2) ht) hs2 (finP_of h2)
        | false => exact iteF (h c' (.bl false) st hd' (.bl false))
      | _ => exact h.elim
    | ref k => exact h.elim
    | _ => exact h.elim
end
/-! ### statements -/
def sSeq (g1 g2 : GS) : GS := fun r B => match g1 r B with
  | .nx r1 B1 => g2 r1 B1
  | e => e
def sPass : GS := fun r B => .nx r B
def sBrk : GS := fun r B => .brk r B
def sCt : GS := fun r B => .ct r B
def sDrop (g : GE) : GS := fun r B => match g r B with
  | .ok _ B1 => .nx r B1
  | .exc x fs B1 => .exc x fs r B1
  | .bad => .bad
def sRet (g : GE) : GS := fun r B => match g r B with
  | .ok s B1 => .ret s B1
  | .exc x fs B1 => .exc x fs r B1
  | .bad => .bad
def sIf (t : GE) (g1 g2 : GS) : GS := fun r B => match t r B with
  | .ok (.dat (.bool true)) B1 => g1 r B1
  | .ok (.dat (.bool false)) B1 => g2 r B1
  | .exc x fs B1 => .exc x fs r B1
  | _ => .bad
abbrev GT := S → En → Option En
def sAsg (g : GE) (t : GT) : GS := fun r B => match g r B with
  | .ok s B1 => (match t s r with | some r1 => .nx r1 B1 | none => .bad)
  | .exc x fs B1 => .exc x fs r B1
  | .bad => .bad
def asT : S → Option (List S)
  | .dat (.tuple ds) => some (ds.map .dat)
  | _ => none
def tName (i : Nat) : GT := fun s r => some (r.set i (some s))
abbrev GTs := List S → En → Option En
def tsNil : GTs := fun ss r => match ss with | [] => some r | _ => none
def tsCons (t : GT) (u : GTs) : GTs := fun ss r => match ss with
  | s :: ss => (match t s r with | some r1 => u ss r1 | none => none)
  | [] => none
def tTupT (n : Nat) (u : GTs) : GT := fun s r => match asT s with
  | some ss => if ss.length = n then u ss r else none
  | none => none
def Away (vs : List Nat) (σ σ' : St) : Prop := σ'.length = σ.length ∧ ∀ i, i ∉ vs → σ'[i]? = σ[i]?
theorem Away.trans {vs ws : List Nat} {a b c : St} (h : Away vs a b) (k : Away ws b c) : Away (vs ++ ws) a c :=
  ⟨k.1.trans h.1, fun i n => (k.2 i fun m => n (List.mem_append_right _ m)).trans (h.2 i fun m => n (List.mem_append_left _ m))⟩
section
variable (K : PySem.W.Frag) (mg : Str → Option Value)
def rdG (vs : List Nat) (t : GT) : TG := fun v σ H Q => ∃ r B c s, c.H = H ∧ Hold K mg c B ∧ RE K mg c r σ ∧ RS K mg c s v ∧ match t s r with
  | some r1 => ∀ σ', RE K mg c r1 σ' → Away vs σ σ' → Q σ' H
  | none => False
def rdGs (vs : List Nat) (t : GTs) : TGs := fun us σ H Q => ∃ r B c ss, c.H = H ∧ Hold K mg c B ∧ RE K mg c r σ ∧ Paired (RS K mg c) ss us ∧ match t ss r with
  | some r1 => ∀ σ', RE K mg c r1 σ' → Away vs σ σ' → Q σ' H
  | none => False
end
section
variable {K : PySem.W.Frag} {mg : Str → Option Value} {c : Cf}
theorem asT_ok {s : S} {v : V} {ss : List S} (h : RS K mg c s v) (e : asT s = some ss) : ∃ a vs, v = .ref a ∧ SqT K c.G a vs ∧ Paired (RS K mg c) ss vs := by
  unfold asT at e
  cases s with
  | dat d =>
    cases d with
    | tuple ds =>
      cases e
      have h : Dq K c.G v (.tuple ds) := h
      cases h with
      | tup h1 h2 => exact ⟨_, _, rfl, .inl (.inl h1), all_dats h2⟩
    | _ => cases e
  | ref k => cases e
  | _ => cases e
end
section
variable {X : Cx} {W : WX} {pos : Pos} {e : Expr} {es : List Expr} {g g2 : GE} {st : Stmt} {rest b1 b2 : List Stmt} {s1 s2 : GS}
theorem s_nil : PSs X [] (rdS X.K X.mg W sPass) := PSs_le pss_nil fun D σ H h => by
  obtain ⟨r, B, c, rfl, hd, hr, h⟩ := h
  exact h c σ (Step.refl c) hd hr
theorem s_pass : PS X (.Pass pos) (rdS X.K X.mg W sPass) := PS_le ps_pass fun D σ H h => by
  obtain ⟨r, B, c, rfl, hd, hr, h⟩ := h
  exact h c σ (Step.refl c) hd hr
theorem s_brk : PS X (.Break pos) (rdS X.K X.mg W sBrk) := PS_le ps_break fun D σ H h => by
  obtain ⟨r, B, c, rfl, hd, hr, h⟩ := h
  exact h c σ (Step.refl c) hd hr
theorem s_ct : PS X (.Continue pos) (rdS X.K X.mg W sCt) := PS_le ps_continue fun D σ H h => by
  obtain ⟨r, B, c, rfl, hd, hr, h⟩ := h
  exact h c σ (Step.refl c) hd hr
theorem s_one (h : PS X st (rdS X.K X.mg W s1)) : PSs X [st] (rdS X.K X.mg W s1) := pss_one h
theorem s_cons (h1 : PS X st (rdS X.K X.mg W s1)) (h2 : PSs X rest (rdS X.K X.mg W s2)) : PSs X (st :: rest) (rdS X.K X.mg W (sSeq s1 s2)) := by
  refine PSs_le (pss_cons h1 h2) fun D σ H h => ?_
  obtain ⟨r, B, c, rfl, hd, hr, h⟩ := h
  refine ⟨r, B, c, rfl, hd, hr, ?_⟩
  unfold sSeq at h
  cases e : s1 r B with
  | nx r1 B1 => rw [e] at h; exact fun c' σ' st hd' hr' => ⟨r1, B1, c', rfl, hd', hr', FinS.step st h⟩
  | ret s B1 => rw [e] at h; exact h
  | brk r1 B1 => rw [e] at h; exact h
  | ct r1 B1 => rw [e] at h; exact h
  | exc x fs r1 B1 => rw [e] at h; exact h
  | bad => rw [e] at h; exact h
theorem s_expr (he : PE X e (rdE X.K X.mg W g)) (hs : swapsWith e none pos.line X.env = pure false) : PS X (.Expr e pos) (rdS X.K X.mg W (sDrop g)) := by
  refine PS_le (ps_expr he hs) fun D σ H h => ?_
  obtain ⟨r, B, c, rfl, hd, hr, h⟩ := h
  refine ⟨r, B, c, rfl, hd, hr, ?_⟩
  unfold sDrop at h
  cases e : g r B with
  | ok s B1 => rw [e] at h; exact fun c' v st hd' hs => h c' σ st hd' (hr.mono st)
  | exc x fs B1 => rw [e] at h; exact fun c' C d ws st hd' => h c' σ C d ws st hd' (hr.mono st)
  | bad => rw [e] at h; exact h
theorem s_ret (he : PE X e (rdE X.K X.mg W g)) : PS X (.Return (some e) pos) (rdS X.K X.mg W (sRet g)) := by
  refine PS_le (ps_ret he) fun D σ H h => ?_
  obtain ⟨r, B, c, rfl, hd, hr, h⟩ := h
  refine ⟨r, B, c, rfl, hd, hr, ?_⟩
  unfold sRet at h
  cases e : g r B with
  | ok s B1 => rw [e] at h; exact fun c' v st hd' hs => h c' v st hd' hs
  | exc x fs B1 => rw [e] at h; exact fun c' C d ws st hd' => h c' σ C d ws st hd' (hr.mono st)
  | bad => rw [e] at h; exact h
theorem s_if {t : Expr} (ht : PT X t (rdT X.K X.mg W g)) (h1 : PSs X b1 (rdS X.K X.mg W s1)) (h2 : PSs X b2 (rdS X.K X.mg W s2)) : PS X (.If t b1 b2 pos) (rdS X.K X.mg W (sIf g s1 s2)) := by
  refine PS_le (ps_if ht h1 h2) fun D σ H h => ?_
  obtain ⟨r, B, c, rfl, hd, hr, h⟩ := h
  refine ⟨r, B, c, rfl, hd, hr, ?_⟩
  unfold sIf at h
  cases e : g r B with
  | ok s B1 =>
    rw [e] at h
    cases s with
    | dat d =>
      cases d with
      | bool b =>
        cases b with
        | true => exact fun c' st hd' => iteT ⟨r, B1, c', rfl, hd', hr.mono st, FinS.step st h⟩
        | false => exact fun c' st hd' => iteF ⟨r, B1, c', rfl, hd', hr.mono st, FinS.step st h⟩
      | _ => exact h.elim
    | ref k => exact h.elim
    | _ => exact h.elim
  | exc x fs B1 => rw [e] at h; exact fun c' C d ws st hd' => h c' σ C d ws st hd' (hr.mono st)
  | bad => rw [e] at h; exact h.elim
/-! targets -/
theorem g_name {i : Nat} {x : Str} (hN : X.N.Nodup) (hi : X.N[i]? = some x) (hx : Loc X.env.scope x) (hf : X.fn x = true ∨ X.env.scope.names.lookup x = some .local) : PG X (.Name x pos) (rdG X.K X.mg [i] (tName i)) := by
  have h := pg_name (X := X) (pos := pos) hN hi hx hf
  refine ⟨fun v u pins s σ H Q I r q => h.run v u pins s σ H Q I r ?_⟩
  obtain ⟨ρ, B, c, t, rfl, hd, hr, hs, h⟩ := q
  exact h _ (hr.set i hs) ⟨by rw [List.length_set], fun j n => List.getElem?_set_ne (fun e => n (by rw [e]; exact List.mem_singleton_self _))⟩
end
end PN

set_option maxRecDepth 100000
set_option maxHeartbeats 4000000
/-! PN, fourth part: targets of tuples, loops, comprehensions, defs. -/
namespace PN
open PySem L2
section
variable {X : Cx} {W : WX} {pos : Pos} {e : Expr} {es : List Expr} {vs ws : List Nat} {t : GT} {u : GTs}
theorem gs_nil : PGs X [] (rdGs X.K X.mg [] tsNil) := by
  refine ⟨fun pins s σ H us us' Q I r q => pgs_nil.run pins s σ H us us' Q I r ?_⟩
  obtain ⟨ρ, B, c, ss, rfl, hd, hr, hs, h⟩ := q
  cases hs with
  | nil => exact ⟨rfl, h σ hr ⟨rfl, fun _ _ => rfl⟩⟩
  | cons a b => exact h.elim
theorem gs_cons (h1 : PG X e (rdG X.K X.mg vs t)) (h2 : PGs X es (rdGs X.K X.mg ws u))
    (hs : (assignEach (e :: es) X.env).map (·.2) = assign e X.env :: (assignEach es X.env).map (·.2)) : PGs X (e :: es) (rdGs X.K X.mg (vs ++ ws) (tsCons t u)) := by
  refine ⟨fun pins s σ H us us' Q I r q => (pgs_cons h1 h2 hs).run pins s σ H us us' Q I r ?_⟩
  obtain ⟨ρ, B, c, ss, rfl, hd, hr, hs, h⟩ := q
  cases hs with
  | nil => exact h.elim
  | cons a b =>
    rename_i s0 v0 ss0 vs0
    refine ⟨v0, vs0, rfl, ρ, B, c, s0, rfl, hd, hr, a, ?_⟩
    unfold tsCons at h
    dsimp only at h
    cases e : t s0 ρ with
    | none => rw [e] at h; exact h.elim
    | some r1 =>
      rw [e] at h
      dsimp only at h
      intro σ1 hr1 aw1
      refine ⟨r1, B, c, ss0, rfl, hd, hr1, b, ?_⟩
      have h : match u ss0 r1 with
        | some r1 => ∀ (σ' : St), RE X.K X.mg c r1 σ' → Away (vs ++ ws) σ σ' → Q σ' c.H
        | none => False := h
      cases e2 : u ss0 r1 with
      | none => rw [e2] at h; exact h.elim
      | some r2 => rw [e2] at h; exact fun σ2 hr2 aw2 => h σ2 hr2 (aw1.trans aw2)
theorem g_tup {k n : Nat} (hc : X.calm = true) (h : PGs X es (rdGs X.K X.mg vs u)) (hn : (assignEach es X.env).length = n) (hst : (assignEach es X.env).findIdx? (·.1) = none) :
    PG X (.Tuple es k pos) (rdG X.K X.mg vs (tTupT n u)) := by
  refine ⟨fun pins s σ H v w Q I r q => (pg_tup hc h hn hst).run pins s σ H v w Q I r ?_⟩
  obtain ⟨ρ, B, c, s0, rfl, hd, hr, hs, h⟩ := q
  unfold tTupT at h
  cases e : asT s0 with
  | none => rw [e] at h; exact h.elim
  | some ss =>
    rw [e] at h
    obtain ⟨a, xs, e1, h1, h2⟩ := asT_ok hs e
    subst e1
    by_cases hl : ss.length = n
    · have h : match (if ss.length = n then u ss ρ else none) with
        | some r1 => ∀ (σ' : St), RE X.K X.mg c r1 σ' → Away vs σ σ' → Q σ' c.H
        | none => False := h
      rw [if_pos hl] at h
      exact ⟨a, xs, rfl, same_t hd.gh h1, by rw [← paired_len h2]; exact hl, ρ, B, c, ss, rfl, hd, hr, h2, h⟩
    · have h : match (if ss.length = n then u ss ρ else none) with
        | some r1 => ∀ (σ' : St), RE X.K X.mg c r1 σ' → Away vs σ σ' → Q σ' c.H
        | none => False := h
      rw [if_neg hl] at h
      exact h.elim
theorem s_asg {tg : Expr} {g : GE} (he : PE X e (rdE X.K X.mg W g)) (hg : PG X tg (rdG X.K X.mg vs t)) (hs : swapsWithSole [tg] e pos.line X.env = pure false) (hw : swappedStores [tg] e X.env = pure none) (h1 : (assignEach [tg] X.env).map (·.2) = [assign tg X.env]) : PS X (.Assign [tg] e pos) (rdS X.K X.mg W (sAsg g t)) := by
  refine PS_le (ps_asg he hg hs hw h1) fun D σ H h => ?_
  obtain ⟨r, B, c, rfl, hd, hr, h⟩ := h
  refine ⟨r, B, c, rfl, hd, hr, ?_⟩
  unfold sAsg at h
  cases e : g r B with
  | ok s B1 =>
    rw [e] at h
    intro c' v st hd' hs
    refine ⟨r, B1, c', s, rfl, hd', hr.mono st, hs, ?_⟩
    have h : FinS X.K X.mg W c D (match t s r with | some r1 => .nx r1 B1 | none => .bad) := h
    cases e2 : t s r with
    | none => rw [e2] at h; exact h.elim
    | some r1 => rw [e2] at h; exact fun σ' hr' aw => h c' σ' st hd' hr'
  | exc x fs B1 => rw [e] at h; exact fun c' C d ws st hd' => h c' σ C d ws st hd' (hr.mono st)
  | bad => rw [e] at h; exact h
end
/-! ### what is walked -/
inductive Ri where
  | ok (its : List S) (chk : Bs → Prop) (B : Bs)
  | exc (c : Str) (fs : List (Str × S)) (B : Bs)
  | bad
abbrev GI := En → Bs → Ri
section
variable (K : PySem.W.Frag) (mg : Str → Option Value)
structure ItOk (J : It) (its : List S) (chk : Bs → Prop) (c0 : Cf) : Prop where
  go : ∀ (i : Nat) (c : Cf) (B : Bs), Step c0 c → Hold K mg c B → chk B → i < its.length → J.go i c.H
  stop : ∀ (i : Nat) (c : Cf) (B : Bs), Step c0 c → Hold K mg c B → chk B → its.length ≤ i → J.stop i c.H
  yld : ∀ (i : Nat) (c : Cf) (B : Bs) (x : V) (H' : Hp) (s : S), Step c0 c → Hold K mg c B → chk B → its[i]? = some s → J.yld i c.H x H' → ∃ c', c'.H = H' ∧ Step c c' ∧ Hold K mg c' B ∧ RS K mg c' s x
def FinI (W : WX) (c : Cf) (σ : St) (R : It → Hp → Prop) : Ri → Prop
  | .ok its chk B => ∀ c' J, Step c c' → Hold K mg c' B → ItOk K mg J its chk c' → R J c'.H
  | .exc x fs B => ∀ c' C d ws, Step c c' → Hold K mg c' B → mg x = some (.ref C) → c'.G d = some (.xd ws) → RF K mg c' fs ws → W (.ref C) (some d) σ c'.H
  | .bad => False
def rdI (W : WX) (g : GI) : TI := fun σ H R => ∃ r B c, c.H = H ∧ Hold K mg c B ∧ RE K mg c r σ ∧ FinI K mg W c σ R (g r B)
end
/-! ### for -/
open Classical in
noncomputable def forL (chk : Bs → Prop) (t : GT) (body : GS) : List S → GS
  | [], r, B => if chk B then .nx r B else .bad
  | x :: xs, r, B => if chk B then (match t x r with
    | none => .bad
    | some r1 => match body r1 B with
      | .nx r2 B2 => forL chk t body xs r2 B2
      | .ct r2 B2 => forL chk t body xs r2 B2
      | .brk r2 B2 => .nx r2 B2
      | e => e) else .bad
noncomputable def sFor (gi : GI) (t : GT) (body : GS) : GS := fun r B => match gi r B with
  | .ok its chk B1 => forL chk t body its r B1
  | .exc x fs B1 => .exc x fs r B1
  | .bad => .bad
section
variable {X : Cx} {W : WX} {pos : Pos} {tg iter : Expr} {body : List Stmt} {vs : List Nat} {t : GT} {gi : GI} {gb : GS}
theorem s_for (hp : PassesOwn (model X.prog X.w) X.A X.env X.xe) (hc : X.calm = true) (hi : PI X tg iter (rdI X.K X.mg W gi)) (hg : PG X tg (rdG X.K X.mg vs t)) (hb : PSs X body (rdS X.K X.mg W gb))
    (hs : ∀ x, foldedSetIterable iter X.env x = pure x) : PS X (.For tg iter body [] pos) (rdS X.K X.mg W (sFor gi t gb)) := by
  refine PS_le (ps_for hp hc hi hg hb hs) fun D σ H h => ?_
  obtain ⟨r, B, c, rfl, hd, hr, h⟩ := h
  refine ⟨r, B, c, rfl, hd, hr, ?_⟩
  unfold sFor at h
  cases e : gi r B with
  | exc x fs B1 => rw [e] at h; exact fun c' C d ws st hd' => h c' σ C d ws st hd' (hr.mono st)
  | bad => rw [e] at h; exact h.elim
  | ok its chk B1 =>
    rw [e] at h
    intro c0 J st0 hd0 ok
    have h : FinS X.K X.mg W c D (forL chk t gb its r B1) := h
    refine ⟨fun i m σ' H' => m = its.length - i ∧ i ≤ its.length ∧ ∃ r' B' c', c'.H = H' ∧ Step c0 c' ∧ Hold X.K X.mg c' B' ∧ RE X.K X.mg c' r' σ' ∧ FinS X.K X.mg W c' D (forL chk t gb (its.drop i) r' B'),
      ⟨its.length, by omega, by omega, r, B1, c0, rfl, Step.refl _, hd0, hr.mono st0, FinS.step st0 h⟩, ?_⟩
    rintro i m σ1 H1 ⟨rfl, hi, r1, B1', c1, rfl, st1, hd1, hr1, h1⟩
    by_cases hlt : i < its.length
    · right
      have ed : its.drop i = its[i] :: its.drop (i + 1) := List.drop_eq_getElem_cons hlt
      rw [ed] at h1
      unfold forL at h1
      by_cases hk : chk B1'
      · rw [if_pos hk] at h1
        refine ⟨ok.go i c1 B1' st1 hd1 hk hlt, fun σ' H' => ∃ r' B' c', c'.H = H' ∧ Step c0 c' ∧ Hold X.K X.mg c' B' ∧ RE X.K X.mg c' r' σ' ∧ FinS X.K X.mg W c' D (forL chk t gb (its.drop (i + 1)) r' B'), fun σ' H' q => ⟨its.length - (i + 1), by omega, rfl, by omega, q⟩, fun x H' y => ?_⟩
        obtain ⟨c2, e2, st2, hd2, hs2⟩ := ok.yld i c1 B1' x H' its[i] st1 hd1 hk (by rw [List.getElem?_eq_getElem hlt]) y
        subst e2
        refine ⟨r1, B1', c2, its[i], rfl, hd2, hr1.mono st2, hs2, ?_⟩
        cases et : t its[i] r1 with
        | none => rw [et] at h1; exact h1.elim
        | some r2 =>
          rw [et] at h1
          intro σ2 hr2 aw
          refine ⟨r2, B1', c2, rfl, hd2, hr2, ?_⟩
          have h1 := FinS.step st2 h1
          dsimp only at h1
          cases eb : gb r2 B1' with
          | nx r3 B3 => rw [eb] at h1; exact fun c3 σ3 st3 hd3 hr3 => ⟨r3, B3, c3, rfl, (st1.trans st2).trans st3, hd3, hr3, FinS.step st3 h1⟩
          | ct r3 B3 => rw [eb] at h1; exact fun c3 σ3 st3 hd3 hr3 => ⟨r3, B3, c3, rfl, (st1.trans st2).trans st3, hd3, hr3, FinS.step st3 h1⟩
          | brk r3 B3 => rw [eb] at h1; exact fun c3 σ3 st3 hd3 hr3 => h1 c3 σ3 st3 hd3 hr3
          | ret s B3 => rw [eb] at h1; exact fun c3 v st3 hd3 hs3 => h1 c3 v st3 hd3 hs3
          | exc x fs r3 B3 => rw [eb] at h1; exact fun c3 σ3 C d ws st3 hd3 hr3 => h1 c3 σ3 C d ws st3 hd3 hr3
          | bad => rw [eb] at h1; exact h1.elim
      · rw [if_neg hk] at h1; exact h1.elim
    · left
      have ed : its.drop i = [] := List.drop_eq_nil_of_le (by omega)
      rw [ed] at h1
      unfold forL at h1
      by_cases hk : chk B1'
      · rw [if_pos hk] at h1
        exact ⟨ok.stop i c1 B1' st1 hd1 hk (by omega), h1 c1 σ1 (Step.refl _) hd1 hr1⟩
      · rw [if_neg hk] at h1; exact h1.elim
end
/-! ### while -/
def whileL (t : GE) (body : GS) : Nat → GS
  | 0, _, _ => .bad
  | n + 1, r, B => match t r B with
    | .ok (.dat (.bool true)) B1 => (match body r B1 with
      | .nx r2 B2 => whileL t body n r2 B2
      | .ct r2 B2 => whileL t body n r2 B2
      | .brk r2 B2 => .nx r2 B2
      | e => e)
    | .ok (.dat (.bool false)) B1 => .nx r B1
    | .exc x fs B1 => .exc x fs r B1
    | _ => .bad
/-! a while that ends within some number of turns -/
open Classical in
noncomputable def sWhile (t : GE) (body : GS) : GS := fun r B => if h : ∃ n, whileL t body n r B ≠ .bad then whileL t body h.choose r B else .bad
section
variable {X : Cx} {W : WX} {pos : Pos} {t : Expr} {body : List Stmt} {gt : GE} {gb : GS}
theorem s_while (hp : PassesOwn (model X.prog X.w) X.A X.env X.xe) (hc : PT X t (rdT X.K X.mg W gt)) (hb : PSs X body (rdS X.K X.mg W gb)) : PS X (.While t body [] pos) (rdS X.K X.mg W (sWhile gt gb)) := by
  refine PS_le (ps_while hp hc hb) fun D σ H h => ?_
  obtain ⟨r, B, c, rfl, hd, hr, h⟩ := h
  unfold sWhile at h
  split at h
  case isFalse => exact h.elim
  case isTrue hx =>
  generalize hx.choose = n0 at h
  refine ⟨fun m σ' H' => ∃ r' B' c', c'.H = H' ∧ Hold X.K X.mg c' B' ∧ RE X.K X.mg c' r' σ' ∧ FinS X.K X.mg W c' D (whileL gt gb m r' B'), ⟨n0, r, B, c, rfl, hd, hr, h⟩, ?_⟩
  rintro m σ1 H1 ⟨r1, B1, c1, rfl, hd1, hr1, h1⟩
  cases m with
  | zero => exact h1.elim
  | succ m =>
    refine ⟨r1, B1, c1, rfl, hd1, hr1, ?_⟩
    unfold whileL at h1
    cases e : gt r1 B1 with
    | exc x fs B2 => rw [e] at h1; exact fun c' C d ws st hd' => h1 c' σ1 C d ws st hd' (hr1.mono st)
    | bad => rw [e] at h1; exact h1.elim
    | ok s B2 =>
      rw [e] at h1
      cases s with
      | ref k => exact h1.elim
      | fn x => exact h1.elim
      | scr x => exact h1.elim
      | dat d =>
        cases d with
        | bool b =>
          cases b with
          | false => exact fun c' st hd' => iteF (h1 c' σ1 st hd' (hr1.mono st))
          | true =>
            intro c2 st2 hd2
            refine iteT ⟨fun σ' H' => ∃ r' B' c', c'.H = H' ∧ Hold X.K X.mg c' B' ∧ RE X.K X.mg c' r' σ' ∧ FinS X.K X.mg W c' D (whileL gt gb m r' B'), fun σ' H' q => ⟨m, by omega, q⟩, ?_⟩
            refine ⟨r1, B2, c2, rfl, hd2, hr1.mono st2, ?_⟩
            have h1 := FinS.step st2 h1
            dsimp only at h1
            cases eb : gb r1 B2 with
            | nx r3 B3 => rw [eb] at h1; exact fun c3 σ3 st3 hd3 hr3 => ⟨r3, B3, c3, rfl, hd3, hr3, FinS.step st3 h1⟩
            | ct r3 B3 => rw [eb] at h1; exact fun c3 σ3 st3 hd3 hr3 => ⟨r3, B3, c3, rfl, hd3, hr3, FinS.step st3 h1⟩
            | brk r3 B3 => rw [eb] at h1; exact fun c3 σ3 st3 hd3 hr3 => h1 c3 σ3 st3 hd3 hr3
            | ret s B3 => rw [eb] at h1; exact fun c3 v st3 hd3 hs3 => h1 c3 v st3 hd3 hs3
            | exc x fs r3 B3 => rw [eb] at h1; exact fun c3 σ3 C d ws st3 hd3 hr3 => h1 c3 σ3 C d ws st3 hd3 hr3
            | bad => rw [eb] at h1; exact h1.elim
        | _ => exact h1.elim
end
/-! ### comprehensions -/
def wipeE (r : En) : List Nat → En
  | [] => r
  | v :: vs => (wipeE r vs).set v none
def gYes : GE := fun _ B => .ok (.dat (.bool true)) B
open Classical in
noncomputable def lcL (chk : Bs → Prop) (t : GT) (gt ge : GE) (r : En) : List S → List S → Bs → Ra
  | [], acc, B => if chk B then .ok acc B else .bad
  | x :: xs, acc, B => if chk B then (match t x r with
    | none => .bad
    | some r1 => match gt r1 B with
      | .ok (.dat (.bool true)) B1 => (match ge r1 B1 with
        | .ok s B2 => lcL chk t gt ge r xs (acc ++ [s]) B2
        | _ => .bad)
      | .ok (.dat (.bool false)) B1 => lcL chk t gt ge r xs acc B1
      | _ => .bad) else .bad
noncomputable def gLcA (own : List Nat) (gi : GI) (t : GT) (gt ge : GE) : GA := fun r B => match gi r B with
  | .ok its chk B1 => if its.length < sizeLine then lcL chk t gt ge (wipeE r own) its [] B1 else .bad
  | _ => .bad
section
variable {K : PySem.W.Frag} {mg : Str → Option Value} {c : Cf}
theorem RE.wipe {r : En} {σ : St} (h : RE K mg c r σ) : ∀ vs : List Nat, RE K mg c (wipeE r vs) (wipe σ vs)
  | [] => h
  | v :: vs => (h.wipe vs).clr v none
theorem away_wipe {σ σ' : St} : ∀ {vs : List Nat}, σ'.length = σ.length → (∀ i, i ∉ vs → σ'[i]? = σ[i]?) → L2.wipe σ' vs = L2.wipe σ vs := by
  have key : ∀ (vs : List Nat) (τ : St) (i : Nat), (L2.wipe τ vs)[i]? = if i ∈ vs then (τ[i]?).map (fun _ => none) else τ[i]? := by
    intro vs
    induction vs with
    | nil => intro τ i; simp [L2.wipe]
    | cons v vs ih =>
      intro τ i
      show ((L2.wipe τ vs).set v none)[i]? = _
      by_cases h : v = i
      · subst h
        rw [if_pos List.mem_cons_self, List.getElem?_set_self']
        have := ih τ v
        rw [this]
        split
        · cases τ[v]? <;> rfl
        · cases τ[v]? <;> rfl
      · rw [List.getElem?_set_ne h, ih τ i]
        by_cases hm : i ∈ vs
        · rw [if_pos hm, if_pos (List.mem_cons_of_mem _ hm)]
        · rw [if_neg hm, if_neg (fun q => by rcases List.mem_cons.mp q with q | q; exact h q.symm; exact hm q)]
  intro vs hl h
  apply List.ext_getElem?
  intro i
  rw [key, key]
  by_cases hm : i ∈ vs
  · rw [if_pos hm, if_pos hm]
    by_cases hi : i < σ.length
    · rw [List.getElem?_eq_getElem hi, List.getElem?_eq_getElem (by rw [hl]; exact hi)]; rfl
    · rw [List.getElem?_eq_none (by omega), List.getElem?_eq_none (by omega)]
  · rw [if_neg hm, if_neg hm]; exact h i hm
end
section
variable {X : Cx} {W : WX} {pos : Pos} {elt tg iter : Expr} {ifs : List Expr} {scope : Scope} {own : List (Str × Nat)} {vs : List Nat} {t : GT} {gi : GI} {gt ge : GE}
abbrev W0 : WX := fun _ _ _ _ => False
theorem wipe_out {σ : St} : ∀ {vs : List Nat} {i : Nat}, i ∉ vs → (L2.wipe σ vs)[i]? = σ[i]?
  | [], _, _ => rfl
  | v :: vs, i, h => by
    show ((L2.wipe σ vs).set v none)[i]? = _
    rw [List.getElem?_set_ne (fun e => h (by rw [e]; exact List.mem_cons_self))]
    exact wipe_out fun m => h (List.mem_cons_of_mem _ m)
theorem own_step {c0 c : Cf} {D : Addr} {o : HO} (hD : c0.H D = none) (s : Step c0 c) : Step c0 ⟨c.al, c.G, upd c.H D o⟩ where
  al := s.al
  g := s.g
  h := fun b u e n => by
    show upd c.H D o b = some u
    rw [upd_ne (ne_of_none e hD)]
    exact s.h b u e n
  new := s.new
  fr := s.fr
theorem RS.heap {K : PySem.W.Frag} {mg : Str → Option Value} {c : Cf} {H' : Hp} {s : S} {v : V} (h : RS K mg c s v) : RS K mg ⟨c.al, c.G, H'⟩ s v := by
  cases s <;> exact h
theorem RSs.heap {K : PySem.W.Frag} {mg : Str → Option Value} {c : Cf} {H' : Hp} {ss : List S} {vs : List V} (h : Paired (RS K mg c) ss vs) : Paired (RS K mg ⟨c.al, c.G, H'⟩) ss vs := paired_mono (fun _ _ => RS.heap) h
def lcEnd : Ra → Re
  | .ok s B1 => liftP (pLst s B1)
  | .exc x fs B1 => .exc x fs B1
  | .bad => .bad
theorem gPN_end {g : GA} {r : En} {B : Bs} : gPN pLst g r B = lcEnd (g r B) := by
  unfold gPN gBindA lcEnd
  cases g r B <;> rfl
theorem RO.gen {K : PySem.W.Frag} {mg : Str → Option Value} {c : Cf} {G' H' : Hp} (g : Same c.G G') {o : MO} {u : HO} (h : RO K mg c o u) : RO K mg ⟨c.al, G', H'⟩ o u := by
  have k : ∀ (s : S) (v : V), RS K mg c s v → RS K mg ⟨c.al, G', H'⟩ s v := fun s v h => by
    cases s with
    | dat d => exact dp_mono g d v h
    | ref k => exact h
    | fn x => exact h
    | scr ns => exact h.imp fun a q => ⟨same_l g q.1, q.2⟩
  cases o with
  | lst ss => cases u <;> first | exact paired_mono k h | exact h.elim
  | dK kvs => cases u <;> first | exact paired_mono (fun _ _ q => ⟨q.1, k _ _ q.2⟩) h | exact h.elim
  | dT kvs => cases u <;> first | exact paired_mono (fun _ _ q => ⟨q.1, k _ _ q.2⟩) h | exact h.elim
  | ins x fs => cases u <;> first | exact ⟨h.1, paired_mono (fun _ _ q => ⟨q.1, k _ _ q.2⟩) h.2⟩ | exact h.elim
/-- a list that is full grown -/
theorem grown_lst {K : PySem.W.Frag} {mg : Str → Option Value} {c0 c : Cf} {B : Bs} {ds : List PyData} {vs : List V} (hd : Hold K mg c B) (h : DqAll K c.G vs ds) {D : Addr} (st : Step c0 c) (h0 : c0.H D = none) (n0 : D ∉ c.al) (g0 : c.G D = none) (hD : c.H D = some (.lst vs)) {Q : VK}
    (q : ∀ c' v, Step c0 c' → Hold K mg c' B → RS K mg c' (.dat (.list ds)) v → Q v c'.H) : Q (.ref D) c.H := by
  refine q ⟨c.al, upd c.G D (.lst vs), c.H⟩ (.ref D) ⟨st.al, fun b u e => ?_, st.h, st.new, fun b g1 h1 n1 => ?_⟩ ⟨hd.len, fun b u e => ?_, hd.nd, hd.tr, fun k o e => ?_⟩ (.lst upd_same (dpAll_mono (fun b u e => ?_) ds vs h))
  · show upd c.G D (.lst vs) b = some u
    have e1 := st.g b u e
    rw [upd_ne (ne_of_none e1 g0)]
    exact e1
  · show upd c.G D (.lst vs) b = none
    rw [upd_ne (show b ≠ D from fun z => h1 (by rw [z]; exact h0))]
    exact st.fr b g1 h1 n1
  · have e : upd c.G D (.lst vs) b = some u := e
    show c.H b = some u
    by_cases z : b = D
    · subst z; rw [upd_same] at e; rw [hD]; exact e
    · rw [upd_ne z] at e; exact hd.gh b u e
  · obtain ⟨a, ho, h1, h2, h3, h4⟩ := hd.ob k o e
    have ne : a ≠ D := fun z => n0 (by rw [← z]; exact List.mem_of_getElem? h1)
    refine ⟨a, ho, h1, by show upd c.G D (.lst vs) a = none; rw [upd_ne ne]; exact h2, h3, RO.gen (fun b u e => ?_) h4⟩
    show upd c.G D (.lst vs) b = some u
    rw [upd_ne (ne_of_none e g0)]; exact e
  · show upd c.G D (.lst vs) b = some u
    rw [upd_ne (ne_of_none e g0)]
    exact e
/-- the reading of a comprehension -/
theorem lc_rd {σ : St} {H : Hp} {Q : VK} (hv : ∀ i, i ∈ vs → i ∈ own.map (·.2)) (h : rdE X.K X.mg W (gPN pLst (gLcA (own.map (·.2)) gi t gt ge)) σ H Q) :
    tLc (rdI X.K X.mg W gi) (rdG X.K X.mg vs t) (rdT X.K X.mg W0 gt) (rdE X.K X.mg W0 ge) (own.map (·.2)) σ H Q := by
  generalize own.map (·.2) = ow at hv h ⊢
  obtain ⟨r, B, c, rfl, hd, hr, h⟩ := h
  refine ⟨r, B, c, rfl, hd, hr, ?_⟩
  rw [gPN_end] at h
  unfold gLcA at h
  cases e : gi r B with
  | exc x fs B1 => rw [e] at h; exact h.elim
  | bad => rw [e] at h; exact h.elim
  | ok its chk B1 =>
    rw [e] at h
    dsimp only at h
    by_cases hz : its.length < sizeLine
    case neg => rw [if_neg hz] at h; exact h.elim
    rw [if_pos hz] at h
    intro c0 J st0 hd0 ok D hD
    obtain ⟨gD, nD⟩ := hd0.free hD
    have h0 := Fin.step st0 h
    refine ⟨fun i m H' => m = its.length - i ∧ i ≤ its.length ∧ ∃ B' c' acc vcc, c'.H = H' ∧ Step c0 c' ∧ D ∉ c'.al ∧ c'.G D = none ∧ c'.H D = some (.lst vcc) ∧ Paired (RS X.K X.mg c') acc vcc ∧ acc.length ≤ i ∧ Hold X.K X.mg c' B' ∧
        Fin X.K X.mg W c0 σ Q (lcEnd (lcL chk t gt ge (wipeE r ow) (its.drop i) acc B')),
      ⟨its.length, by omega, by omega, B1, ⟨c0.al, c0.G, upd c0.H D (.lst [])⟩, [], [], rfl, bare_step nD hD, nD, gD, upd_same, .nil, Nat.le_refl _, bare_hold hd0 nD gD, h0⟩, ?_⟩
    rintro i m H1 ⟨rfl, hi, B', c1, acc, vcc, rfl, st1, nD1, gD1, hD1, pa, la, hd1, h1⟩
    by_cases hlt : i < its.length
    · right
      have ed : its.drop i = its[i] :: its.drop (i + 1) := List.drop_eq_getElem_cons hlt
      rw [ed] at h1
      unfold lcL at h1
      by_cases hk : chk B'
      case neg => rw [if_neg hk] at h1; exact h1.elim
      rw [if_pos hk] at h1
      refine ⟨ok.go i c1 B' st1 hd1 hk hlt, fun H' => ∃ B' c' acc vcc, c'.H = H' ∧ Step c0 c' ∧ D ∉ c'.al ∧ c'.G D = none ∧ c'.H D = some (.lst vcc) ∧ Paired (RS X.K X.mg c') acc vcc ∧ acc.length ≤ i + 1 ∧ Hold X.K X.mg c' B' ∧
        Fin X.K X.mg W c0 σ Q (lcEnd (lcL chk t gt ge (wipeE r ow) (its.drop (i + 1)) acc B')), fun H' q => ⟨its.length - (i + 1), by omega, rfl, by omega, q⟩, fun x H' y => ?_⟩
      obtain ⟨c2, e2, st2, hd2, hs2⟩ := ok.yld i c1 B' x H' its[i] st1 hd1 hk (by rw [List.getElem?_eq_getElem hlt]) y
      subst e2
      refine ⟨wipeE r ow, B', c2, its[i], rfl, hd2, ((hr.mono st0).mono (st1.trans st2)).wipe ow, hs2, ?_⟩
      cases et : t its[i] (wipeE r ow) with
      | none => rw [et] at h1; exact h1.elim
      | some r2 =>
        rw [et] at h1
        dsimp only at h1
        intro σ2 hr2 aw
        refine ⟨?_, ?_⟩
        · have q := away_wipe (vs := ow) aw.1 fun i n => aw.2 i fun m => n (hv i m)
          rw [q]
          exact away_wipe (vs := ow) (σ := σ) (by rw [wipe_length]) fun i n => wipe_out n
        refine ⟨r2, B', c2, rfl, hd2, hr2, ?_⟩
        have hD2 : c2.H D = some (.lst vcc) := st2.h D _ hD1 nD1
        have nD2 : D ∉ c2.al := fun m => by
          have := st2.new D m nD1
          rw [hD1] at this; cases this
        have gD2 : c2.G D = none := st2.fr D gD1 (by rw [hD1]; exact fun z => by cases z) nD1
        cases eb : gt r2 B' with
        | exc x fs B3 => rw [eb] at h1; exact h1.elim
        | bad => rw [eb] at h1; exact h1.elim
        | ok s B3 =>
          rw [eb] at h1
          cases s with
          | ref k => exact h1.elim
          | fn x => exact h1.elim
          | scr x => exact h1.elim
          | dat d =>
            cases d with
            | bool b =>
              intro c3 st3 hd3
              have hD3 : c3.H D = some (.lst vcc) := st3.h D _ hD2 nD2
              have nD3 : D ∉ c3.al := fun m => by
                have := st3.new D m nD2
                rw [hD2] at this; cases this
              have gD3 : c3.G D = none := st3.fr D gD2 (by rw [hD2]; exact fun z => by cases z) nD2
              have st03 := (st1.trans st2).trans st3
              cases b with
              | false =>
                dsimp only at h1
                exact iteF ⟨B3, c3, acc, vcc, rfl, st03, nD3, gD3, hD3, RSs.mono (st2.trans st3) pa, by omega, hd3, h1⟩
              | true =>
                dsimp only at h1
                refine iteT ⟨r2, B3, c3, rfl, hd3, hr2.mono st3, ?_⟩
                cases ee : ge r2 B3 with
                | exc x fs B4 => rw [ee] at h1; exact h1.elim
                | bad => rw [ee] at h1; exact h1.elim
                | ok s B4 =>
                  rw [ee] at h1
                  dsimp only at h1
                  intro c4 v st4 hd4 hs4
                  have hD4 : c4.H D = some (.lst vcc) := st4.h D _ hD3 nD3
                  have nD4 : D ∉ c4.al := fun m => by
                    have := st4.new D m nD3
                    rw [hD3] at this; cases this
                  have gD4 : c4.G D = none := st4.fr D gD3 (by rw [hD3]; exact fun z => by cases z) nD3
                  have pa4 := RSs.mono ((st2.trans st3).trans st4) pa
                  have la4 : vcc.length = acc.length := (paired_len pa4).symm
                  exact ⟨vcc, hD4, by omega, B4, ⟨c4.al, c4.G, upd c4.H D (.lst (vcc ++ [v]))⟩, acc ++ [s], vcc ++ [v], rfl, own_step hD (st03.trans st4), nD4, gD4, upd_same, Paired.snoc (RSs.heap pa4) (RS.heap hs4),
                    by rw [List.length_append]; show acc.length + 1 ≤ i + 1; omega, bare_hold hd4 nD4 gD4, h1⟩
            | _ => exact h1.elim
    · left
      have ed : its.drop i = [] := List.drop_eq_nil_of_le (by omega)
      rw [ed] at h1
      unfold lcL at h1
      by_cases hk : chk B'
      case neg => rw [if_neg hk] at h1; exact h1.elim
      rw [if_pos hk] at h1
      refine ⟨ok.stop i c1 B' st1 hd1 hk (by omega), ?_⟩
      have h1 : Fin X.K X.mg W c0 σ Q (liftP (pLst acc B')) := h1
      have h1 := finP_of h1
      unfold pLst at h1
      by_cases hl : acc.length ≤ sizeLine
      case neg => rw [if_neg hl] at h1; exact h1.elim
      rw [if_pos hl] at h1
      cases ed : datsOf acc with
      | none => rw [ed] at h1; exact h1.elim
      | some ds =>
        rw [ed] at h1
        exact grown_lst hd1 (dats_all ed pa) st1 hD nD1 gD1 hD1 h1
theorem r_lc (hc : X.calm = true) (hN : X.N.Nodup) (hi : PI X tg iter (rdI X.K X.mg W gi)) (ok : BlkOk X.N X.env.scope scope own) (hv : ∀ i, i ∈ vs → i ∈ own.map (·.2))
    (hg : ∀ (s : Shared) (H : Hp) (C : Addr) (cl : List (Str × Addr)) (fp : List Addr), PG (X.blk s H scope (compEnvC scope cl C X.env) fp) tg (rdG X.K X.mg vs t)) (ht : ∀ (s : Shared) (H : Hp) (C : Addr) (cl : List (Str × Addr)) (fp : List Addr), PTs (X.blk s H scope (compEnvC scope cl C X.env) fp) ifs (rdT X.K X.mg W0 gt))
    (he : ∀ (s : Shared) (H : Hp) (C : Addr) (cl : List (Str × Addr)) (fp : List Addr), PE (X.blk s H scope (compEnvC scope cl C X.env) fp) elt (rdE X.K X.mg W0 ge)) (hs : ∀ x, foldedSetIterable iter X.env x = pure x) :
    PE X (.ListComp elt [⟨tg, iter, ifs, 0⟩] scope pos) (rdE X.K X.mg W (gPN pLst (gLcA (own.map (·.2)) gi t gt ge))) :=
  PE_le (pe_lc hc hN hi ok hg ht he hs) fun _ _ _ h => lc_rd hv h
/-- name = [..] on one line -/
theorem s_setLc {i : Nat} {y : Str} {py spos : Pos} (hc : X.calm = true) (hN : X.N.Nodup) (hy : X.N[i]? = some y) (hyl : X.env.scope.names.lookup y = some .local)
    (hsw : swapsWith (.ListComp elt [⟨tg, iter, ifs, 0⟩] scope pos) (some (.Name y py)) spos.line X.env = pure true) (hi : PI X tg iter (rdI X.K X.mg W gi)) (ok : BlkOk X.N X.env.scope scope own) (hv : ∀ i, i ∈ vs → i ∈ own.map (·.2))
    (hg : ∀ (s : Shared) (H : Hp) (C : Addr) (cl : List (Str × Addr)) (fp : List Addr), PG (X.blk s H scope (compEnvC scope cl C X.env) fp) tg (rdG X.K X.mg vs t)) (ht : ∀ (s : Shared) (H : Hp) (C : Addr) (cl : List (Str × Addr)) (fp : List Addr), PTs (X.blk s H scope (compEnvC scope cl C X.env) fp) ifs (rdT X.K X.mg W0 gt))
    (he : ∀ (s : Shared) (H : Hp) (C : Addr) (cl : List (Str × Addr)) (fp : List Addr), PE (X.blk s H scope (compEnvC scope cl C X.env) fp) elt (rdE X.K X.mg W0 ge)) (hs : ∀ x, foldedSetIterable iter X.env x = pure x) :
    PS X (.Assign [.Name y py] (.ListComp elt [⟨tg, iter, ifs, 0⟩] scope pos) spos) (rdS X.K X.mg W (sAsg (gPN pLst (gLcA (own.map (·.2)) gi t gt ge)) (tName i))) := by
  refine PS_le (ps_setLc hc hN hy hyl hsw hi ok hg ht he hs) fun D σ H h => ?_
  show tLc _ _ _ _ _ σ H fun x H1 => gName i x σ H1 D.nx
  refine lc_rd hv ?_
  obtain ⟨r, B, c, rfl, hd, hr, h⟩ := h
  refine ⟨r, B, c, rfl, hd, hr, ?_⟩
  unfold sAsg at h
  cases e : gPN pLst (gLcA (own.map (·.2)) gi t gt ge) r B with
  | ok s B1 => rw [e] at h; exact fun c' v st hd' hs => h c' _ st hd' ((hr.mono st).set i hs)
  | exc x fs B1 => rw [e] at h; exact fun c' C d ws st hd' => h c' σ C d ws st hd' (hr.mono st)
  | bad => rw [e] at h; exact h
end
theorem pts0 {X : Cx} : PTs X [] (rdT X.K X.mg W0 gYes) := ⟨fun pins s σ H Q I h => pts_nil.run pins s σ H Q I (by
  obtain ⟨r, B, c, rfl, hd, hr, h⟩ := h
  exact h c (Step.refl c) hd)⟩
theorem pts1 {X : Cx} {e : Expr} {g : GE} (h : PT X e (rdT X.K X.mg W0 g)) : PTs X [e] (rdT X.K X.mg W0 g) := pts_one h
end PN

set_option maxRecDepth 100000
set_option maxHeartbeats 4000000
/-! PN, fifth part: defs and their calls; what is walked. -/
namespace PN
open PySem L2
/-! ### a def -/
def refsS (n : Nat) : S → Prop
  | .ref k => k < n
  | _ => True
def refsO (n : Nat) : MO → Prop
  | .lst ss => ∀ s ∈ ss, refsS n s
  | .dK kvs => ∀ p ∈ kvs, refsS n p.2
  | .dT kvs => ∀ p ∈ kvs, refsS n p.2
  | .ins _ fs => ∀ p ∈ fs, refsS n p.2
/-- places from n on may be forgotten -/
def CutB (n : Nat) (B : Bs) : Prop := ∀ (k : Nat) (o : MO), k < n → B[k]? = some (some o) → refsO n o
open Classical in
noncomputable def endF (n : Nat) (s : S) (B : Bs) : Re := if refsS n s ∧ CutB n B then .ok s (B.take n) else .bad
open Classical in
noncomputable def endX (n : Nat) (x : Str) (fs : List (Str × S)) (B : Bs) : Re := if (∀ p ∈ fs, refsS n p.2) ∧ CutB n B then .exc x fs (B.take n) else .bad
/-- n slots; behind the end its own places are forgotten -/
noncomputable def gFn (n : Nat) (body : GS) : GF := fun ss B => match body (ss.map some ++ List.replicate (n - ss.length) none) B with
  | .nx _ B1 => endF B.length (.dat .none) B1
  | .ret s B1 => endF B.length s B1
  | .exc x fs _ B1 => endX B.length x fs B1
  | _ => .bad
/-- its places stay -/
def gFnK (n : Nat) (body : GS) : GF := fun ss B => match body (ss.map some ++ List.replicate (n - ss.length) none) B with
  | .nx _ B1 => .ok (.dat .none) B1
  | .ret s B1 => .ok s B1
  | .exc x fs _ B1 => .exc x fs B1
  | _ => .bad
section
variable (K : PySem.W.Frag) (mg : Str → Option Value)
def FinF (c : Cf) (Q : VK) (E : XK) : Re → Prop
  | .ok s B => ∀ c' v, Step c c' → Hold K mg c' B → RS K mg c' s v → Q v c'.H
  | .exc x fs B => ∀ c' C d ws, Step c c' → Hold K mg c' B → mg x = some (.ref C) → c'.G d = some (.xd ws) → RF K mg c' fs ws → E (.ref C) (some d) c'.H
  | .bad => False
/-- a def of n parameters that does what m tells -/
def spM (n : Nat) (m : GF) : Sp := fun vs H Q E => ∃ ss B c, c.H = H ∧ ss.length = n ∧ Hold K mg c B ∧ Paired (RS K mg c) ss vs ∧ FinF K mg c Q E (m ss B)
end
section
variable {K : PySem.W.Frag} {mg : Str → Option Value} {c c' : Cf}
theorem RS.cut {n : Nat} {s : S} {v : V} (h : RS K mg c s v) (r : refsS n s) : RS K mg ⟨c.al.take n, c.G, c.H⟩ s v := by
  cases s with
  | dat d => exact h
  | ref k =>
    obtain ⟨a, h1, h2⟩ := h
    exact ⟨a, by show (c.al.take n)[k]? = some a; rw [List.getElem?_take_of_lt r]; exact h1, h2⟩
  | fn x => exact h
  | scr ns => exact h
theorem RSs.cut {n : Nat} : ∀ {ss : List S} {vs : List V}, Paired (RS K mg c) ss vs → (∀ s ∈ ss, refsS n s) → Paired (RS K mg ⟨c.al.take n, c.G, c.H⟩) ss vs
  | _, _, .nil, _ => .nil
  | _, _, .cons h t, r => .cons (RS.cut h (r _ List.mem_cons_self)) (RSs.cut t fun s m => r s (List.mem_cons_of_mem _ m))
theorem RKs.cut {κ : Type} {n : Nat} : ∀ {ss : List (κ × S)} {vs : List (κ × V)}, Paired (fun p q => p.1 = q.1 ∧ RS K mg c p.2 q.2) ss vs → (∀ s ∈ ss, refsS n s.2) → Paired (fun p q => p.1 = q.1 ∧ RS K mg ⟨c.al.take n, c.G, c.H⟩ p.2 q.2) ss vs
  | _, _, .nil, _ => .nil
  | _, _, .cons h t, r => .cons ⟨h.1, RS.cut h.2 (r _ List.mem_cons_self)⟩ (RKs.cut t fun s m => r s (List.mem_cons_of_mem _ m))
theorem RO.cut {n : Nat} {o : MO} {u : HO} (h : RO K mg c o u) (r : refsO n o) : RO K mg ⟨c.al.take n, c.G, c.H⟩ o u := by
  cases o with
  | lst ss => cases u <;> first | exact RSs.cut h r | exact h.elim
  | dK kvs => cases u <;> first | exact RKs.cut h r | exact h.elim
  | dT kvs => cases u <;> first | exact RKs.cut h r | exact h.elim
  | ins x fs => cases u <;> first | exact ⟨h.1, RKs.cut h.2 r⟩ | exact h.elim
theorem cut_al {B B' : Bs} (hd : Hold K mg c B) (st : Step c c') : c'.al.take B.length = c.al := by
  obtain ⟨t, e⟩ := st.al
  rw [e, ← hd.len, List.take_left]
theorem cut_hold {B B' : Bs} (hd : Hold K mg c B) (st : Step c c') (hd' : Hold K mg c' B') (r : CutB B.length B') : Hold K mg ⟨c'.al.take B.length, c'.G, c'.H⟩ (B'.take B.length) := by
  refine ⟨by show (c'.al.take _).length = _; rw [List.length_take, List.length_take, hd'.len], hd'.gh, hd'.nd.sublist (List.take_sublist _ _), fun a m => hd'.tr a (List.mem_of_mem_take m), fun k o e => ?_⟩
  have hk : k < B.length := by
    have := (List.getElem?_eq_some_iff.mp e).1
    rw [List.length_take] at this
    omega
  rw [List.getElem?_take_of_lt hk] at e
  obtain ⟨a, ho, h1, h2, h3, h4⟩ := hd'.ob k o e
  exact ⟨a, ho, by show (c'.al.take _)[k]? = some a; rw [List.getElem?_take_of_lt hk]; exact h1, h2, h3, RO.cut h4 (r k o hk e)⟩
theorem cut_step {B B' : Bs} (hd : Hold K mg c B) (st : Step c c') : Step c ⟨c'.al.take B.length, c'.G, c'.H⟩ := by
  have e := cut_al (B' := B) hd st
  refine ⟨⟨[], by show c'.al.take B.length = _; rw [e, List.append_nil]⟩, st.g, st.h, fun a h n => ?_, st.fr⟩
  have h : a ∈ c'.al.take B.length := h
  rw [e] at h
  exact absurd h n
theorem start_re {ss : List S} {vs : List V} {N : List Str} (h : Paired (RS K mg c) ss vs) : RE K mg c (ss.map some ++ List.replicate (N.length - ss.length) none) (L2.start N vs) := by
  have hl := paired_len h
  unfold L2.start
  refine ⟨by rw [List.length_append, List.length_append, List.length_map, List.length_map, List.length_replicate, List.length_replicate, hl], fun i s e => ?_⟩
  by_cases hi : i < ss.length
  · rw [List.getElem?_append_left (by rw [List.length_map]; exact hi), List.getElem?_map] at e
    cases q : ss[i]? with
    | none => rw [q] at e; cases e
    | some t =>
      rw [q] at e
      cases e
      obtain ⟨v, h1, h2⟩ := paired_get h q
      exact ⟨v, by rw [List.getElem?_append_left (by rw [List.length_map, ← hl]; exact hi), List.getElem?_map, h1]; rfl, h2⟩
  · rw [List.getElem?_append_right (by rw [List.length_map]; omega), List.getElem?_replicate] at e
    split at e <;> cases e
end
/-- a def keeps its promise wherever no repr is going on -/
structure FnG (P : Program) (w : World) (K : PySem.W.Frag) (mg : Str → Option Value) (base : Heap) (k : Nat) (f : Addr) (fd : FuncData) (ps : List Str) (sp : Sp) : Prop where
  len : ∀ vs H Q E, sp vs H Q E → vs.length = ps.length
  run : ∀ (A : Around) (outer : List Env) (s : Shared) (H : Hp) (args : Args) (us : List Value) (vs : List V) (Q : VK) (E : XK),
    A.guards = some [] → Room k A → Env0 P w K mg base A outer s H → BindsTo s fd args (ps.zip us) → Vals vs us → sp vs H Q E →
    codeAny (model P w) A (.call (.ref f) args) (CR (L2.CX P w) outer P w H s Q E) s
theorem FnG.imp {P : Program} {w : World} {K : PySem.W.Frag} {mg : Str → Option Value} {base : Heap} {k : Nat} {f : Addr} {fd : FuncData} {ps : List Str} {sp sp' : Sp}
    (F : FnG P w K mg base k f fd ps sp) (h : ∀ vs H Q E, sp' vs H Q E → sp vs H Q E) : FnG P w K mg base k f fd ps sp' where
  len vs H Q E q := F.len vs H Q E (h vs H Q E q)
  run A outer s H args us vs Q E hg hr he hb hv hs := F.run A outer s H args us vs Q E hg hr he hb hv (h vs H Q E hs)
theorem FnG.mono {P : Program} {w : World} {K : PySem.W.Frag} {mg : Str → Option Value} {base : Heap} {j k : Nat} {f : Addr} {fd : FuncData} {ps : List Str} {sp : Sp}
    (F : FnG P w K mg base j f fd ps sp) (h : j ≤ k) : FnG P w K mg base k f fd ps sp where
  len := F.len
  run A outer s H args us vs Q E hg hr := F.run A outer s H args us vs Q E hg (hr.mono h)
section
variable {P : Program} {w : World} {K : PySem.W.Frag} {mg : Str → Option Value} {base : Heap}
theorem fng_of {x qual : Str} {st : Stmt} {f : Addr} {fd : FuncData} {N ps : List Str} {k : Nat} {sp : Sp} (F : Fun K x qual st f fd) (Sc : FnScope N ps (defScope st)) (len : ∀ vs H Q E, sp vs H Q E → vs.length = ps.length)
    (hb : ∀ (cdv : Value) (A : Around) (outer : List Env) (s : Shared) (H : Hp) (vs : List V) (Q : VK) (E : XK), A.guards = some [] → Room k (A.deeper (PyProof.Rows.envOfC qual (defScope st) s.heap.objs.size f cdv)) → sp vs H Q E →
      ∃ t, PSs (cxOf (L2.CX P w) P w K mg base N qual (defScope st) f cdv A outer s H E) (defBody st) t ∧ t { nx := fun _ H' => Q .non H', rt := Q } (L2.start N vs) H) : FnG P w K mg base (k + 1) f fd ps sp := by
  obtain ⟨oc, od, kV, doc, pm, an, cdv, ct, osl, rfl, lk, hcd⟩ := F.ex
  constructor
  case len => exact len
  case run =>
    intro A outer s H args us vs Q E hg hr e0 hbd r hsp
    have hl : vs.length = ps.length := len vs H Q E hsp
    have hk0 : ∀ b o, base.get? b = some o → s.heap.get? b = some o := fun b o e => (e0.bs b o e).1
    have KX : K.In s.heap := e0.mod.kin.keeps hk0
    have hkinds : ∀ y ∈ ps.zip us, (defScope st).names.lookup y.1 = some .local ∨
        ((defScope st).names.lookup y.1 = some .cell ∧ ((cellsFrom (s.heap.objs.size + 1) (defScope st).names []).lookup y.1).isSome = true) := by
      intro y hy
      rcases Sc.par y.1 (List.of_mem_zip hy).1 with q | q
      · exact Or.inl q
      · exact Or.inr ⟨q, PySem.W.cellsFrom_some _ _ _ (Or.inl q)⟩
    refine codeAny_call_function hr.depth (KX _ _ lk) rfl Sc.co Sc.gen rfl (PySem.W.codeRec_of KX hcd) (hbd _ _ _ _ ?_)
    refine wpAny_newFunctionEnv_cells Sc.kind hkinds fun env he s1 x => ?_
    cases he
    refine ⟨(e0.mod.nolimit.keeps hk0).keeps x.toInCall.keep, codeAny_func ?_⟩
    obtain ⟨t, ht, hq⟩ := hb cdv A outer s H vs Q E hg (hr.deeper _) hsp
    have I := inv_start (CX := L2.CX P w) (E := E) Sc hr.hd e0 hl r x
    refine wpAny_mono (ht.run [] s1 (L2.start N vs) H _ I hq) (fun fl s' hs => ?_) (fun e s' hs => hs)
    cases fl with
    | ret u =>
      obtain ⟨v, σ', H', J, rv, q⟩ := hs
      exact ⟨v, H', J.os, J.bare, J.base, J.hok, rv, q⟩
    | next =>
      obtain ⟨σ', H', J, q⟩ := hs
      exact ⟨V.non, H', J.os, J.bare, J.base, J.hok, rfl, q⟩
    | brk =>
      obtain ⟨σ', H', J, q⟩ := hs
      exact q.elim
    | cont =>
      obtain ⟨σ', H', J, q⟩ := hs
      exact q.elim
abbrev WF (E : XK) : WX := fun cls d _ H => E cls d H
theorem fn_okK {x qual : Str} {st : Stmt} {f : Addr} {fd : FuncData} {N ps : List Str} {k : Nat} {body : GS} (F : Fun K x qual st f fd) (Sc : FnScope N ps (defScope st))
    (hb : ∀ (cdv : Value) (A : Around) (outer : List Env) (s : Shared) (H : Hp) (E : XK), A.guards = some [] → Room k (A.deeper (PyProof.Rows.envOfC qual (defScope st) s.heap.objs.size f cdv)) →
      PSs (cxOf (L2.CX P w) P w K mg base N qual (defScope st) f cdv A outer s H E) (defBody st) (rdS K mg (WF E) body)) :
    FnG P w K mg base (k + 1) f fd ps (spM K mg ps.length (gFnK N.length body)) := by
  refine fng_of F Sc (fun vs H Q E h => ?_) (fun cdv A outer s H vs Q E hg hr h => ⟨_, hb cdv A outer s H E hg hr, ?_⟩)
  · obtain ⟨ss, B, c, _, hl, _, hs, _⟩ := h
    rw [← hl, ← paired_len hs]
  · obtain ⟨ss, B, c, rfl, hl, hd, hs, h⟩ := h
    refine ⟨_, B, c, rfl, hd, start_re hs, ?_⟩
    unfold gFnK at h
    cases e : body (ss.map some ++ List.replicate (N.length - ss.length) none) B with
    | nx r B1 => rw [e] at h; exact fun c' σ st hd' hr' => h c' .non st hd' .non
    | ret v B1 => rw [e] at h; exact fun c' v st hd' hs' => h c' v st hd' hs'
    | exc x fs r B1 => rw [e] at h; exact fun c' σ C d ws st hd' _ hm hH hf => h c' C d ws st hd' hm hH hf
    | brk r B1 => rw [e] at h; exact h.elim
    | ct r B1 => rw [e] at h; exact h.elim
    | bad => rw [e] at h; exact h.elim
theorem fn_ok {x qual : Str} {st : Stmt} {f : Addr} {fd : FuncData} {N ps : List Str} {k : Nat} {body : GS} (F : Fun K x qual st f fd) (Sc : FnScope N ps (defScope st))
    (hb : ∀ (cdv : Value) (A : Around) (outer : List Env) (s : Shared) (H : Hp) (E : XK), A.guards = some [] → Room k (A.deeper (PyProof.Rows.envOfC qual (defScope st) s.heap.objs.size f cdv)) →
      PSs (cxOf (L2.CX P w) P w K mg base N qual (defScope st) f cdv A outer s H E) (defBody st) (rdS K mg (WF E) body)) :
    FnG P w K mg base (k + 1) f fd ps (spM K mg ps.length (gFn N.length body)) := by
  refine (fn_okK F Sc hb).imp fun vs H Q E h => ?_
  obtain ⟨ss, B, c, rfl, hl, hd, hs, h⟩ := h
  refine ⟨ss, B, c, rfl, hl, hd, hs, ?_⟩
  unfold gFn at h
  unfold gFnK
  have fin : ∀ s B1, FinF K mg c Q E (endF B.length s B1) → FinF K mg c Q E (.ok s B1) := fun s B1 h => by
    unfold endF at h
    by_cases q : refsS B.length s ∧ CutB B.length B1
    · rw [if_pos q] at h
      exact fun c' v st hd' hs' => h ⟨c'.al.take B.length, c'.G, c'.H⟩ v (cut_step (B' := B1) hd st) (cut_hold hd st hd' q.2) (RS.cut hs' q.1)
    · rw [if_neg q] at h; exact h.elim
  cases e : body (ss.map some ++ List.replicate (N.length - ss.length) none) B with
  | nx r B1 => rw [e] at h; exact fin _ _ h
  | ret v B1 => rw [e] at h; exact fin _ _ h
  | exc x fs r B1 =>
    rw [e] at h
    have h : FinF K mg c Q E (endX B.length x fs B1) := h
    unfold endX at h
    by_cases q : (∀ p ∈ fs, refsS B.length p.2) ∧ CutB B.length B1
    · rw [if_pos q] at h
      exact fun c' C d ws st hd' hm hH hf => h ⟨c'.al.take B.length, c'.G, c'.H⟩ C d ws (cut_step (B' := B1) hd st) (cut_hold hd st hd' q.2) hm hH (RKs.cut hf q.1)
    · rw [if_neg q] at h; exact h.elim
  | brk r B1 => rw [e] at h; exact h.elim
  | ct r B1 => rw [e] at h; exact h.elim
  | bad => rw [e] at h; exact h.elim
end
/-! ### a call -/
def gCall (n : Nat) (m : GF) (ga : GA) : GE := gBindA ga fun ss _ B => if ss.length = n then m ss B else .bad
/-- of the def that slot i holds -/
def gCallL (n i : Nat) (tb : Str → Option GF) (ga : GA) : GE := fun r B => match r[i]? with
  | some (some (.fn x)) => (match tb x with
    | some m => gCall n m ga r B
    | none => .bad)
  | _ => .bad
section
variable {X : Cx} {W : WX} {pos p : Pos} {x : Str} {e : Expr} {es : List Expr} {ga : GA} {m : GF} {k n : Nat} {f : Addr} {fd : FuncData} {ps : List Str}
theorem finF_of {c : Cf} {σ : St} {Q : VK} {o : Re} (h : Fin X.K X.mg W c σ Q o) : FinF X.K X.mg c Q (WE W σ) o := by
  cases o <;> exact h
theorem call_rd {c0 : St} {H : Hp} {Q : VK} (h : rdE X.K X.mg W (gCall n m ga) c0 H Q) : rdA X.K X.mg W ga c0 H fun vs H1 => spM X.K X.mg n m vs H1 Q (WE W c0) := by
  obtain ⟨r, B, c, rfl, hd, hr, h⟩ := h
  refine ⟨r, B, c, rfl, hd, hr, ?_⟩
  unfold gCall gBindA at h
  cases e : ga r B with
  | ok ss B1 =>
    rw [e] at h
    dsimp only at h
    by_cases hl : ss.length = n
    · rw [if_pos hl] at h; exact fun c' v st hd' hs => ⟨ss, B1, c', rfl, hl, hd', hs, finF_of (Fin.step st h)⟩
    · rw [if_neg hl] at h; exact h.elim
  | exc x fs B1 => rw [e] at h; exact h
  | bad => rw [e] at h; exact h
theorem run_g {n : Nat} {m : GF} {pins : List (Addr × Obj)} {σ : St} {H : Hp} {s : Shared} {Q : VK} {us : List Value} {vs : List V} (F : FnG X.prog X.w X.K X.mg X.base k f fd ps (spM X.K X.mg n m)) (hgd : X.A.guards = some []) (hr : Room k X.A) (hb : Binds X.K fd ps []) (tk : Takes X W)
    (I : L2.Inv X pins σ H s) (r : Vals vs us) (h : spM X.K X.mg n m vs H Q (WE W σ)) : wpAny (model X.prog X.w) X.A (call (.ref f) us) (EP X pins σ Q) X.xe s := by
  have hl : us.length = ps.length := r.length ▸ F.len _ _ _ _ h
  have b := hb s us I.kIn (by rw [List.append_nil]; exact hl)
  rw [List.append_nil] at b
  have go := F.run X.A X.stack s H ⟨us, []⟩ us vs Q (WE W σ) hgd hr I.env0 b r h
  refine wpAny_call (codeAny_mono go ?_)
  intro rr s' hq
  cases rr with
  | error e => exact passAt tk σ pins H s e s' I hq
  | ok fl => cases fl <;> first | exact False.elim hq | exact I.after hq
theorem r_call (F : FnG X.prog X.w X.K X.mg X.base k f fd ps (spM X.K X.mg n m)) (tk : Takes X W) (hgd : X.A.guards = some []) (hr : Room k X.A) (hg : Gl X x) (hm : X.mg x = some (.ref f)) (hk : PySem.W.keepIn X.K (.ref f) = true) (hb : Binds X.K fd ps [])
    (ha : PA X (e :: es) (rdA X.K X.mg W ga)) (hdb : (x == ("__debug__" : Str)) = false) (he : starEach (e :: es) X.env = (false, eval e X.env) :: starEach es X.env) (hpl : (backTo pos (starEach es X.env)).any (·.1) = false) :
    PE X (.Call (.Name x p) (e :: es) [] pos) (rdE X.K X.mg W (gCall n m ga)) := by
  constructor
  intro pins s σ H Q I h
  refine wpAny_Call_Name_kw (ld_glob I hg hm ?_ hdb)
  exact PySem.W.callWith_K (h₀ := X.base) I.ok.mod.kin hk (thn (ha.run pos pins s σ H _ I (call_rd h)) fun us s1 q => by
    obtain ⟨vs, H1, I1, r, q⟩ := q
    exact ⟨I1.kIn, run_g F hgd hr hb tk I1 r q⟩) he hpl
/-- the defs that a slot may hold -/
def TbOk (X : Cx) (k n : Nat) (tb : Str → Option GF) : Prop := ∀ x m, tb x = some m → ∃ f fd ps, X.mg x = some (.ref f) ∧ FnG X.prog X.w X.K X.mg X.base k f fd ps (spM X.K X.mg n m) ∧ PySem.W.keepIn X.K (.ref f) = true ∧ Binds X.K fd ps []
theorem r_callL {i : Nat} {tb : Str → Option GF} (ht : TbOk X k n tb) (tk : Takes X W) (hgd : X.A.guards = some []) (hr : Room k X.A) (hN : X.N[i]? = some x) (hv : Vis X.env.scope x) (ha : PA X (e :: es) (rdA X.K X.mg W ga)) (hdb : (x == ("__debug__" : Str)) = false) (hcd : (x == ("__classdict__" : Str)) = false)
    (he : starEach (e :: es) X.env = (false, eval e X.env) :: starEach es X.env) (hpl : (backTo pos (starEach es X.env)).any (·.1) = false) : PE X (.Call (.Name x p) (e :: es) [] pos) (rdE X.K X.mg W (gCallL n i tb ga)) := by
  refine ⟨fun pins s σ H Q I h => ?_⟩
  obtain ⟨r, B, c, rfl, hd, hr', h⟩ := h
  unfold gCallL at h
  cases e1 : r[i]? with
  | none => rw [e1] at h; exact h.elim
  | some o =>
    cases o with
    | none => rw [e1] at h; exact h.elim
    | some t =>
      rw [e1] at h
      cases t with
      | dat d => exact h.elim
      | ref k => exact h.elim
      | scr ns => exact h.elim
      | fn y =>
        dsimp only at h
        cases e2 : tb y with
        | none => rw [e2] at h; exact h.elim
        | some m' =>
          rw [e2] at h
          obtain ⟨f, fd, ps, hm, F, hk, hb⟩ := ht y m' e2
          obtain ⟨v, h1, h2⟩ := hr'.2 i _ e1
          obtain ⟨a, h3, h4⟩ := h2
          rw [hm] at h3
          cases h3
          subst h4
          refine wpAny_Call_Name_kw (thn ((pe_var (pos := p) hN hv hdb hcd).run pins s σ c.H (fun v H1 => v = .ref f ∧ H1 = c.H) I ⟨.ref f, h1, rfl, rfl⟩) fun u s1 ⟨v, H1, I1, r1, q1⟩ => ?_)
          obtain ⟨rfl, rfl⟩ := q1
          cases r1
          refine PySem.W.callWith_K (h₀ := X.base) I.ok.mod.kin hk (thn (ha.run pos pins s1 σ _ _ I1 (call_rd ⟨r, B, c, rfl, hd, hr', h⟩)) fun us s2 ⟨vs, H2, I2, r, q⟩ => ⟨I2.kIn, ?_⟩) he hpl
          exact run_g F hgd hr hb tk I2 r q
end
end PN

set_option maxRecDepth 100000
set_option maxHeartbeats 4000000
/-! PN, sixth part: what is walked. -/
namespace PN
open PySem L2
def asL (B : Bs) : S → Option (List S)
  | .dat (.list ds) => some (ds.map .dat)
  | .scr ns => some (ns.map fun i => .dat (.int i))
  | .ref k => (match B[k]? with
    | some (some (.lst ss)) => some ss
    | _ => none)
  | _ => none
/-- a list that is tracked -/
def asM (B : Bs) : S → Option (List S)
  | .scr _ => none
  | s => asL B s
def signsOf (x : Str) : List S := x.cps.toList.map fun c => .dat (.str ⟨#[c]⟩)
/-- a list or tuple is as it was -/
def stays (s : S) (its : List S) : Bs → Prop := match s with
  | .ref k => fun B => B[k]? = some (some (.lst its))
  | _ => fun _ => True
section
variable {K : PySem.W.Frag} {mg : Str → Option Value} {c c0 : Cf} {B : Bs}
theorem asL_ok {s : S} {v : V} {ss : List S} (hd : Hold K mg c B) (h : RS K mg c s v) (e : asL B s = some ss) : ∃ a vs, v = .ref a ∧ SqL K c.H a vs ∧ Paired (RS K mg c) ss vs := by
  cases s with
  | dat d =>
    cases d with
    | list ds =>
      cases e
      have h : Dq K c.G v (.list ds) := h
      cases h with
      | lst h1 h2 => exact ⟨_, _, rfl, .inl (.inl (hd.gh _ _ h1)), all_dats h2⟩
    | _ => cases e
  | ref k =>
    unfold asL at e
    obtain ⟨a, h1, h2⟩ := h
    cases q : B[k]? with
    | none => simp only [q] at e; cases e
    | some o =>
      cases o with
      | none => simp only [q] at e; cases e
      | some mo =>
        simp only [q] at e
        cases mo with
        | lst ss' =>
          cases e
          obtain ⟨a', ho, g1, g2, g3, g4⟩ := hd.ob k _ q
          have ea : a' = a := Option.some.inj (g1.symm.trans h1)
          subst ea
          cases ho with
          | lst vs => exact ⟨a', vs, h2, .inl (.inl g3), g4⟩
          | _ => exact g4.elim
        | _ => cases e
  | fn x => cases e
  | scr ns =>
    cases e
    obtain ⟨a, h1, h2⟩ := h
    refine ⟨a, _, h2, same_l hd.gh h1, ?_⟩
    clear h1 h2
    induction ns with
    | nil => exact .nil
    | cons i r ih => exact .cons (.int i) ih
theorem asM_ok {s : S} {v : V} {ss : List S} (hd : Hold K mg c B) (h : RS K mg c s v) (e : asM B s = some ss) : ∃ a vs, v = .ref a ∧ c.H a = some (.lst vs) ∧ Paired (RS K mg c) ss vs := by
  cases s with
  | dat d =>
    have e : asL B (.dat d) = some ss := e
    cases d with
    | list ds =>
      cases e
      have h : Dq K c.G v (.list ds) := h
      cases h with
      | lst h1 h2 => exact ⟨_, _, rfl, hd.gh _ _ h1, all_dats h2⟩
    | _ => cases e
  | ref k =>
    have e : asL B (.ref k) = some ss := e
    unfold asL at e
    obtain ⟨a, h1, h2⟩ := h
    cases q : B[k]? with
    | none => simp only [q] at e; cases e
    | some o =>
      cases o with
      | none => simp only [q] at e; cases e
      | some mo =>
        simp only [q] at e
        cases mo with
        | lst ss' =>
          cases e
          obtain ⟨a', ho, g1, g2, g3, g4⟩ := hd.ob k _ q
          have ea : a' = a := Option.some.inj (g1.symm.trans h1)
          subst ea
          cases ho with
          | lst vs => exact ⟨a', vs, h2, g3, g4⟩
          | _ => exact g4.elim
        | _ => cases e
  | _ => cases e
theorem asL_stays {s : S} {ss : List S} (e : asL B s = some ss) : stays s ss B := by
  cases s with
  | dat d => trivial
  | ref k =>
    unfold asL at e
    show B[k]? = some (some (.lst ss))
    cases q : B[k]? with
    | none => simp only [q] at e; cases e
    | some o =>
      cases o with
      | none => simp only [q] at e; cases e
      | some mo =>
        simp only [q] at e
        cases mo <;> first | (cases e; rfl) | cases e
  | fn x => trivial
  | scr ns => trivial
theorem stays_asL {s : S} {ss : List S} {B' : Bs} (e : asL B s = some ss) (k : stays s ss B') : asL B' s = some ss := by
  cases s with
  | dat d => cases d <;> exact e
  | ref i =>
    have k : B'[i]? = some (some (.lst ss)) := k
    unfold asL
    simp only [k]
  | fn x => cases e
  | scr ns => exact e
theorem it_list {s : S} {v : V} {ss : List S} (hd : Hold K mg c0 B) (h : RS K mg c0 s v) (e : asL B s = some ss) : ∃ a, v = .ref a ∧ (∃ xs, SqL K c0.H a xs) ∧ ItOk K mg (Itl K a) ss (stays s ss) c0 := by
  obtain ⟨a, vs, e1, h1, h2⟩ := asL_ok hd h e
  subst e1
  have at' : ∀ (c : Cf) (B' : Bs), Step c0 c → Hold K mg c B' → stays s ss B' → ∃ vs, SqL K c.H a vs ∧ Paired (RS K mg c) ss vs := fun c B' st hd' k => by
    obtain ⟨a', vs', e2, h3, h4⟩ := asL_ok hd' (RS.mono st h) (stays_asL e k)
    cases e2
    exact ⟨vs', h3, h4⟩
  refine ⟨a, rfl, ⟨vs, h1⟩, fun i c B' st hd' k hi => ?_, fun i c B' st hd' k hi => ?_, fun i c B' x H' t st hd' k ht y => ?_⟩
  · obtain ⟨us, q1, q2⟩ := at' c B' st hd' k
    have hl := paired_len q2
    exact ⟨us, us[i]'(by omega), q1, List.getElem?_eq_getElem (by omega)⟩
  · obtain ⟨us, q1, q2⟩ := at' c B' st hd' k
    have hl := paired_len q2
    exact ⟨us, q1, by omega⟩
  · obtain ⟨us, q1, q2⟩ := at' c B' st hd' k
    obtain ⟨rfl, y⟩ := y
    obtain ⟨v, q3, q4⟩ := paired_get q2 ht
    have := y us q1
    rw [q3] at this
    cases this
    exact ⟨c, rfl, Step.refl c, hd', q4⟩
theorem it_tup {s : S} {v : V} {ss : List S} (hd : Hold K mg c0 B) (h : RS K mg c0 s v) (e : asT s = some ss) : ∃ a, v = .ref a ∧ (∃ xs, SqT K c0.H a xs) ∧ ItOk K mg (Itt K a) ss (fun _ => True) c0 := by
  obtain ⟨a, vs, e1, h1, h2⟩ := asT_ok h e
  subst e1
  have at' : ∀ (c : Cf) (B' : Bs), Step c0 c → Hold K mg c B' → SqT K c.H a vs ∧ Paired (RS K mg c) ss vs := fun c B' st hd' => ⟨same_t ((st.g).trans hd'.gh) h1, RSs.mono st h2⟩
  have hl := paired_len h2
  refine ⟨a, rfl, ⟨vs, same_t hd.gh h1⟩, fun i c B' st hd' k hi => ?_, fun i c B' st hd' k hi => ?_, fun i c B' x H' t st hd' k ht y => ?_⟩
  · exact ⟨vs, vs[i]'(by omega), (at' c B' st hd').1, List.getElem?_eq_getElem (by omega)⟩
  · exact ⟨vs, (at' c B' st hd').1, by omega⟩
  · obtain ⟨q1, q2⟩ := at' c B' st hd'
    obtain ⟨rfl, y⟩ := y
    obtain ⟨v, q3, q4⟩ := paired_get q2 ht
    have := y vs q1
    rw [q3] at this
    cases this
    exact ⟨c, rfl, Step.refl c, hd', q4⟩
theorem it_str {x : Str} : ItOk K mg (Its x) (signsOf x) (fun _ => True) c0 := by
  have hl : (signsOf x).length = x.cps.size := by unfold signsOf; rw [List.length_map, Array.length_toList]
  refine ⟨fun i c B' st hd' k hi => by show i < x.cps.size; omega, fun i c B' st hd' k hi => by show x.cps.size ≤ i; omega, fun i c B' v H' t st hd' k ht y => ?_⟩
  obtain ⟨rfl, d, e1, e2⟩ := y
  subst e2
  unfold signsOf at ht
  rw [List.getElem?_map, Array.getElem?_toList, e1] at ht
  cases ht
  exact ⟨c, rfl, Step.refl c, hd', .str _⟩
end
/-- a list, a tuple, a text -/
def gIter (g : GE) : GI := fun r B => match g r B with
  | .ok s B1 => (match asL B1 s with
    | some ss => .ok ss (stays s ss) B1
    | none => match asT s with
      | some ss => .ok ss (fun _ => True) B1
      | none => match s with
        | .dat (.str x) => .ok (signsOf x) (fun _ => True) B1
        | _ => .bad)
  | .exc x fs B1 => .exc x fs B1
  | .bad => .bad
theorem PI_or {X : Cx} {tg e : Expr} {w1 w2 : TI} (h1 : PI X tg e w1) (h2 : PI X tg e w2) : PI X tg e (fun σ H R => w1 σ H R ∨ w2 σ H R) := ⟨fun pins s σ H R I q => by
  rcases q with q | q
  · exact h1.run pins s σ H R I q
  · exact h2.run pins s σ H R I q⟩
theorem PI_le {X : Cx} {tg e : Expr} {w w' : TI} (h : PI X tg e w) (f : ∀ σ H R, w' σ H R → w σ H R) : PI X tg e w' := ⟨fun pins s σ H R I q => h.run pins s σ H R I (f _ _ _ q)⟩
section
variable {X : Cx} {W : WX} {tg e e2 : Expr} {g : GE}
theorem i_any (h : PE X e (rdE X.K X.mg W g)) : PI X tg e (rdI X.K X.mg W (gIter g)) := by
  refine PI_le (PI_or (pi_list h) (PI_or (pi_tup h) (pi_str h))) fun σ H R q => ?_
  obtain ⟨r, B, c, rfl, hd, hr, q⟩ := q
  unfold gIter at q
  cases e : g r B with
  | exc x fs B1 => exact .inl ⟨r, B, c, rfl, hd, hr, by rw [e] at q ⊢; exact q⟩
  | bad => rw [e] at q; exact q.elim
  | ok s B1 =>
    rw [e] at q
    dsimp only at q
    cases e1 : asL B1 s with
    | some ss =>
      rw [e1] at q
      refine .inl ⟨r, B, c, rfl, hd, hr, ?_⟩
      rw [e]
      intro c' v st hd' hs
      obtain ⟨a, q1, q2, q3⟩ := it_list hd' hs e1
      exact ⟨a, q1, q2, q c' _ st hd' q3⟩
    | none =>
      rw [e1] at q
      dsimp only at q
      cases e2 : asT s with
      | some ss =>
        rw [e2] at q
        refine .inr (.inl ⟨r, B, c, rfl, hd, hr, ?_⟩)
        rw [e]
        intro c' v st hd' hs
        obtain ⟨a, q1, q2, q3⟩ := it_tup hd' hs e2
        exact ⟨a, q1, q2, q c' _ st hd' q3⟩
      | none =>
        rw [e2] at q
        dsimp only at q
        cases s with
        | dat d =>
          cases d with
          | str x =>
            refine .inr (.inr ⟨r, B, c, rfl, hd, hr, ?_⟩)
            rw [e]
            intro c' v st hd' hs
            exact ⟨x, rs_str hs, q c' _ st hd' it_str⟩
          | _ => exact q.elim
        | ref k => exact q.elim
        | _ => exact q.elim
end
/-! ### range -/
def intsUp (a : Int) (n : Nat) : List S := (List.range n).map fun (i : Nat) => S.dat (.int (a + (i : Int)))
def gRange1 (ga : GA) : GI := fun r B => match ga r B with
  | .ok [.dat (.int n)] B1 => if -(2 ^ 62) ≤ n ∧ n < 2 ^ 62 then .ok (intsUp 0 n.toNat) (fun _ => True) B1 else .bad
  | .exc x fs B1 => .exc x fs B1
  | _ => .bad
def gRange2 (ga : GA) : GI := fun r B => match ga r B with
  | .ok [.dat (.int a), .dat (.int b)] B1 => if -(2 ^ 62) ≤ a ∧ a < 2 ^ 62 ∧ -(2 ^ 62) ≤ b ∧ b < 2 ^ 62 then .ok (intsUp a (b - a).toNat) (fun _ => True) B1 else .bad
  | .exc x fs B1 => .exc x fs B1
  | _ => .bad
theorem it_range {K : PySem.W.Frag} {mg : Str → Option Value} {c0 : Cf} (a : Int) (n : Nat) : ItOk K mg (Itr a n) (intsUp a n) (fun _ => True) c0 := by
  have hl : (intsUp a n).length = n := by unfold intsUp; rw [List.length_map, List.length_range]
  refine ⟨fun i c B' st hd' k hi => by show i < n; omega, fun i c B' st hd' k hi => by show n ≤ i; omega, fun i c B' v H' t st hd' k ht y => ?_⟩
  obtain ⟨rfl, e2⟩ := y
  subst e2
  unfold intsUp at ht
  have hi : i < n := by
    have := (List.getElem?_eq_some_iff.mp ht).1
    rwa [List.length_map, List.length_range] at this
  rw [List.getElem?_map, List.getElem?_range hi] at ht
  cases ht
  exact ⟨c, rfl, Step.refl c, hd', .int _⟩
section
variable {X : Cx} {W : WX} {tg a b : Expr} {ga : GA} {p pos : Pos}
theorem i_range1 (hg : Gl X "range") (hm : X.mg "range" = none) (ha : PA X [a] (rdA X.K X.mg W ga)) (hs : starEach [a] X.env = [(false, eval a X.env)]) : PI X tg (.Call (.Name "range" p) [a] [] pos) (rdI X.K X.mg W (gRange1 ga)) := by
  refine PI_le (pi_range1 hg hm ha hs) fun σ H R q => ?_
  obtain ⟨r, B, c, rfl, hd, hr, q⟩ := q
  refine ⟨r, B, c, rfl, hd, hr, ?_⟩
  unfold gRange1 at q
  cases e : ga r B with
  | exc x fs B1 => rw [e] at q; exact q
  | bad => rw [e] at q; exact q.elim
  | ok ss B1 =>
    rw [e] at q
    intro c' vs st hd' hs
    cases hs with
    | nil => exact q.elim
    | cons h1 h2 =>
      cases h2 with
      | cons h3 h4 => split at q <;> first | exact q.elim | (rename_i z; cases z) | skip
      | nil =>
        rename_i s v
        cases s with
        | ref k => exact q.elim
        | fn k => exact q.elim
        | scr k => exact q.elim
        | dat d =>
          cases d with
          | int n =>
            dsimp only at q
            by_cases hz : -(2 ^ 62) ≤ n ∧ n < 2 ^ 62
            · rw [if_pos hz] at q
              rw [rs_int h1]
              exact ⟨n, rfl, hz.1, hz.2, q c' _ st hd' (it_range 0 n.toNat)⟩
            · rw [if_neg hz] at q; exact q.elim
          | _ => exact q.elim
theorem i_range2 (hg : Gl X "range") (hm : X.mg "range" = none) (ha : PA X [a, b] (rdA X.K X.mg W ga)) (hs : starEach [a, b] X.env = [(false, eval a X.env), (false, eval b X.env)]) (hs2 : starEach [b] X.env = [(false, eval b X.env)]) : PI X tg (.Call (.Name "range" p) [a, b] [] pos) (rdI X.K X.mg W (gRange2 ga)) := by
  refine PI_le (pi_range2 hg hm ha hs hs2) fun σ H R q => ?_
  obtain ⟨r, B, c, rfl, hd, hr, q⟩ := q
  refine ⟨r, B, c, rfl, hd, hr, ?_⟩
  unfold gRange2 at q
  cases e : ga r B with
  | exc x fs B1 => rw [e] at q; exact q
  | bad => rw [e] at q; exact q.elim
  | ok ss B1 =>
    rw [e] at q
    intro c' vs st hd' hs
    split at q
    · rename_i n m B2 z
      cases z
      by_cases hz : -(2 ^ 62) ≤ n ∧ n < 2 ^ 62 ∧ -(2 ^ 62) ≤ m ∧ m < 2 ^ 62
      · rw [if_pos hz] at q
        cases hs with
        | cons h1 h2 =>
          cases h2 with
          | cons h3 h4 =>
            cases h4
            rw [rs_int h1, rs_int h3]
            exact ⟨n, m, rfl, hz, q c' _ st hd' (it_range n (m - n).toNat)⟩
      · rw [if_neg hz] at q; exact q.elim
    · rename_i z; cases z
    · exact q.elim
end
end PN

set_option maxRecDepth 100000
set_option maxHeartbeats 4000000
/-! PN: dicts as data. -/
namespace PN
open PySem L2
/-! ### tables of data -/
open Classical in
noncomputable def valP (ps : List (PyData × PyData)) (k : PyData) : Option PyData := (ps.find? fun p => decide (p.1 = k)).map (·.2)
open Classical in
noncomputable def putP (ps : List (PyData × PyData)) (k v : PyData) : List (PyData × PyData) :=
  if (ps.any fun p => decide (p.1 = k)) = true then ps.map (fun p => if p.1 = k then (p.1, v) else p) else ps ++ [(k, v)]
noncomputable def mergeP (ps qs : List (PyData × PyData)) : List (PyData × PyData) := qs.foldl (fun acc p => putP acc p.1 p.2) ps
theorem kD_inj {a b : Key} (h : kD a = kD b) : a = b := by
  cases a <;> cases b <;> cases h <;> rfl
theorem kDs_inj : ∀ {a b : List Key}, a.map kD = b.map kD → a = b
  | [], [], _ => rfl
  | [], _ :: _, h => by simp at h
  | _ :: _, [], h => by simp at h
  | x :: xs, y :: ys, h => by
    rw [List.map_cons, List.map_cons] at h
    rw [kD_inj (List.cons.inj h).1, kDs_inj (List.cons.inj h).2]
/-- a tuple of ints and texts -/
def tD (ks : List Key) : PyData := .tuple (ks.map kD)
theorem tD_inj {a b : List Key} (h : tD a = tD b) : a = b := kDs_inj (PyData.tuple.inj h)
theorem tD_k {a : List Key} {k : Key} (h : tD a = kD k) : False := by cases k <;> cases h
def KeysK (ps : List (PyData × PyData)) : Prop := ∀ p ∈ ps, ∃ k, p.1 = kD k
def KeysT (ps : List (PyData × PyData)) : Prop := ∀ p ∈ ps, ∃ k, p.1 = tD k
/-- d may be a key of ps -/
def KeyOk (d : PyData) (ps : List (PyData × PyData)) : Prop := (∃ k, d = kD k ∧ KeysK ps) ∨ ∃ k, d = tD k ∧ KeysT ps
section
variable {K : PySem.W.Frag} {G : Hp}
def EAll (K : PySem.W.Frag) (G : Hp) {κ : Type} (enc : κ → PyData) : List (κ × V) → List (PyData × PyData) → Prop := Paired fun p q => q.1 = enc p.1 ∧ Dq K G p.2 q.2
theorem dk_e {kvs : List (Key × V)} {ps : List (PyData × PyData)} : DkAll K G kvs ps → EAll K G kD kvs ps
  | .nil => .nil
  | .cons h t => .cons ⟨rfl, h⟩ (dk_e t)
theorem e_dk : ∀ {kvs : List (Key × V)} {ps : List (PyData × PyData)}, EAll K G kD kvs ps → DkAll K G kvs ps
  | _, _, .nil => .nil
  | (k, v) :: _, (a, d) :: _, .cons h t => by
    obtain ⟨h1, h2⟩ := h
    have h1 : a = kD k := h1
    subst h1
    exact .cons h2 (e_dk t)
theorem dt_e {kvs : List (List Key × V)} {ps : List (PyData × PyData)} : DtAll K G kvs ps → EAll K G tD kvs ps
  | .nil => .nil
  | .cons h t => .cons ⟨rfl, h⟩ (dt_e t)
theorem e_dt : ∀ {kvs : List (List Key × V)} {ps : List (PyData × PyData)}, EAll K G tD kvs ps → DtAll K G kvs ps
  | _, _, .nil => .nil
  | (k, v) :: _, (a, d) :: _, .cons h t => by
    obtain ⟨h1, h2⟩ := h
    have h1 : a = tD k := h1
    subst h1
    exact .cons h2 (e_dt t)
variable {κ : Type} [DecidableEq κ] {enc : κ → PyData} (inj : ∀ a b, enc a = enc b → a = b)
include inj
open Classical in
theorem EAll.val {kvs : List (κ × V)} {ps : List (PyData × PyData)} (h : EAll K G enc kvs ps) (k : κ) : (valV kvs k = none ∧ valP ps (enc k) = none) ∨ ∃ v d, valV kvs k = some v ∧ valP ps (enc k) = some d ∧ Dq K G v d := by
  unfold EAll at h
  induction h with
  | nil => exact .inl ⟨rfl, rfl⟩
  | @cons p q kvs ps h t ih =>
    obtain ⟨h1, h2⟩ := h
    by_cases e : p.1 = k
    · refine .inr ⟨p.2, q.2, valV_pos e, ?_, h2⟩
      unfold valP
      rw [List.find?_cons, decide_eq_true (show q.1 = enc k by rw [h1, e])]
      rfl
    · have e2 : ¬ q.1 = enc k := fun z => e (inj _ _ (h1.symm.trans z))
      have e3 : valP (q :: ps) (enc k) = valP ps (enc k) := by
        unfold valP
        rw [List.find?_cons, decide_eq_false e2]
      rw [valV_neg e, e3]
      exact ih
open Classical in
theorem EAll.any {kvs : List (κ × V)} {ps : List (PyData × PyData)} (h : EAll K G enc kvs ps) (k : κ) : (kvs.any fun p => decide (p.1 = k)) = ps.any fun p => decide (p.1 = enc k) := by
  unfold EAll at h
  induction h with
  | nil => rfl
  | @cons p q kvs ps h t ih =>
    obtain ⟨h1, h2⟩ := h
    rw [List.any_cons, List.any_cons, ih]
    congr 1
    by_cases e : p.1 = k
    · rw [decide_eq_true e, decide_eq_true (show q.1 = enc k by rw [h1, e])]
    · rw [decide_eq_false e, decide_eq_false fun z => e (inj _ _ (h1.symm.trans z))]
open Classical in
theorem EAll.repl {kvs : List (κ × V)} {ps : List (PyData × PyData)} (h : EAll K G enc kvs ps) (k : κ) {v : V} {d : PyData} (hv : Dq K G v d) : EAll K G enc (kvs.map fun kv => if kv.1 = k then (kv.1, v) else kv) (ps.map fun p => if p.1 = enc k then (p.1, d) else p) := by
  unfold EAll at h ⊢
  induction h with
  | nil => exact .nil
  | @cons p q kvs ps h t ih =>
    obtain ⟨h1, h2⟩ := h
    rw [List.map_cons, List.map_cons]
    refine .cons ?_ ih
    by_cases e : p.1 = k
    · rw [if_pos e, if_pos (show q.1 = enc k by rw [h1, e])]; exact ⟨h1, hv⟩
    · rw [if_neg e, if_neg fun z => e (inj _ _ (h1.symm.trans z))]; exact ⟨h1, h2⟩
open Classical in
theorem EAll.put {kvs : List (κ × V)} {ps : List (PyData × PyData)} (h : EAll K G enc kvs ps) (k : κ) {v : V} {d : PyData} (hv : Dq K G v d) : EAll K G enc (putK kvs k v) (putP ps (enc k) d) := by
  have ea := EAll.any inj h k
  unfold putK putP
  rw [ea]
  split
  · exact EAll.repl inj h k hv
  · exact Paired.snoc h ⟨rfl, hv⟩
theorem EAll.merge {more : List (κ × V)} {qs : List (PyData × PyData)} (hm : EAll K G enc more qs) : ∀ {kvs : List (κ × V)} {ps : List (PyData × PyData)}, EAll K G enc kvs ps → EAll K G enc (more.foldl (fun acc kv => putK acc kv.1 kv.2) kvs) (mergeP ps qs) := by
  unfold EAll at hm
  induction hm with
  | nil => exact fun h => h
  | @cons p q more qs h t ih =>
    obtain ⟨h1, h2⟩ := h
    intro kvs ps hk
    unfold mergeP
    rw [List.foldl_cons, List.foldl_cons, h1]
    exact ih (EAll.put inj hk p.1 h2)
end
section
variable {X : Cx} {pins : List (Addr × Obj)} {σ : L2.St} {H : Hp} {s : Shared} {a : Addr}
theorem dq_k {K : PySem.W.Frag} {G : Hp} {x : V} {k : Key} (h : Dq K G x (kD k)) : x = kV k := by
  cases k <;> (cases h; rfl)
theorem dq_ks {K : PySem.W.Frag} {G : Hp} : ∀ {xs : List V} {ks : List Key}, DqAll K G xs (ks.map kD) → xs = ks.map kV
  | _, [], h => by cases h; rfl
  | _, k :: ks, h => by
    cases h with
    | cons a b => rw [dq_k a, dq_ks b]; rfl
theorem dq_t {K : PySem.W.Frag} {G : Hp} {x : V} {k : List Key} (h : Dq K G x (tD k)) : ∃ b, x = .ref b ∧ G b = some (.tup (k.map kV)) := by
  unfold tD at h
  cases h with
  | tup h1 h2 => rw [dq_ks h2] at h1; exact ⟨_, rfl, h1⟩
/-- a dict of data, of keys that are ints and texts -/
theorem view_k (I : L2.Inv X pins σ H s) {ps : List (PyData × PyData)} (h : Dq X.K H (.ref a) (.dict ps)) (hk : KeysK ps) :
    ∃ kvs vs, EAll X.K H kD kvs ps ∧ kvs.length ≤ sizeLine ∧ (a == sysModules) = false ∧ KV kvs vs ∧ s.heap.DictOf (mixKind X.prog X.w) a vs := by
  cases h with
  | dik h1 h2 =>
    obtain ⟨z, hd, vs, rel, dd⟩ := dk_of I.hok h1
    exact ⟨_, vs, dk_e h2, z, hd, rel, dd⟩
  | dit h1 h2 =>
    cases h2 with
    | nil =>
      obtain ⟨z, hd, xs, rel, dd⟩ := dt_of I.hok h1
      cases rel
      obtain ⟨o, es, ep, e1, e2, e3, e4, e5, e6⟩ := dd
      have e4 : es.toList = [] := e4
      have e0 : es = #[] := Array.toList_eq_nil_iff.mp e4
      subst e0
      exact ⟨[], [], .nil, Nat.zero_le _, hd, .nil, o, #[], ep, e1, e2, e3, fun e m => absurd m (by simp), .nil, List.nodup_nil⟩
    | cons q t =>
      obtain ⟨k', e⟩ := hk _ List.mem_cons_self
      exact (tD_k e).elim
theorem view_t (I : L2.Inv X pins σ H s) {ps : List (PyData × PyData)} (h : Dq X.K H (.ref a) (.dict ps)) (hk : KeysT ps) :
    ∃ kvs xs, EAll X.K H tD kvs ps ∧ kvs.length ≤ sizeLine ∧ (a == sysModules) = false ∧ KT H kvs xs ∧ s.heap.DictOfH (tupleKind (mixKind X.prog X.w)) a xs := by
  cases h with
  | dit h1 h2 =>
    obtain ⟨z, hd, xs, rel, dd⟩ := dt_of I.hok h1
    exact ⟨_, xs, dt_e h2, z, hd, rel, dd⟩
  | dik h1 h2 =>
    cases h2 with
    | nil =>
      obtain ⟨z, hd, vs, rel, dd⟩ := dk_of I.hok h1
      cases rel
      obtain ⟨o, es, ep, e1, e2, e3, e4, e5, e6⟩ := dd
      have e0 : es.toList = [] := by
        have := Pairs.length e5
        exact List.eq_nil_of_length_eq_zero this
      exact ⟨[], [], .nil, Nat.zero_le _, hd, .nil, o, es, ep, e1, e2, e3, e0, fun x m => absurd m (by simp), List.nodup_nil⟩
    | cons q t =>
      obtain ⟨k', e⟩ := hk _ List.mem_cons_self
      exact (tD_k e.symm).elim
/-! ### is it there -/
def rInP (K : PySem.W.Frag) (f : Bool → Bool) : R2 := fun x y H Q => ∃ d ps a, y = .ref a ∧ Dq K H x d ∧ Dq K H y (.dict ps) ∧ KeyOk d ps ∧ Q (.bl (f (valP ps d).isSome)) H
theorem val_is {κ : Type} [DecidableEq κ] {enc : κ → PyData} (inj : ∀ a b, enc a = enc b → a = b) {K : PySem.W.Frag} {G : Hp} {kvs : List (κ × V)} {ps : List (PyData × PyData)} (h : EAll K G enc kvs ps) (k : κ) : (valP ps (enc k)).isSome = (valV kvs k).isSome := by
  rcases EAll.val inj h k with ⟨e1, e2⟩ | ⟨v, d, e1, e2, _⟩
  · rw [e1, e2]; rfl
  · rw [e1, e2]; rfl
theorem op_inP (hu : X.A.units + 1 < cLine) : OpR X (compareOp .In) (rInP X.K id) := by
  intro pins s σ H x y v u Q I rx ry h
  obtain ⟨d, ps, a, rfl, hx, hy, ok, q⟩ := h
  cases ry
  rcases ok with ⟨k, rfl, hk⟩ | ⟨k, rfl, hk⟩
  · rw [dq_k hx] at rx
    obtain ⟨kvs, vs, ea, _, hd, rel, dd⟩ := view_k I hy hk
    refine wpAny_in_of (kV_is rx) hd dd.mapOf ?_
    rw [← (rel.val k).isSome_eq, ← val_is (fun _ _ => kD_inj) ea]
    exact ⟨.bl _, H, I.tok _, rfl, q⟩
  · obtain ⟨b, rfl, hb⟩ := dq_t hx
    cases rx
    obtain ⟨kvs, xs, ea, _, hd, rel, dd⟩ := view_t I hy hk
    refine wpAny_in_heap (tupleKind_room_in1 hu) (key_of I.hok hb) hd dd ?_
    have z := (rel.val k).isSome_eq
    rw [Option.isSome_map] at z
    rw [← z, ← val_is (fun _ _ => tD_inj) ea]
    exact ⟨.bl _, H, I.tok _, rfl, q⟩
theorem op_notInP (hu : X.A.units + 1 < cLine) : OpR X (compareOp .NotIn) (rInP X.K fun b => !b) := by
  intro pins s σ H x y v u Q I rx ry h
  obtain ⟨d, ps, a, rfl, hx, hy, ok, q⟩ := h
  cases ry
  rcases ok with ⟨k, rfl, hk⟩ | ⟨k, rfl, hk⟩
  · rw [dq_k hx] at rx
    obtain ⟨kvs, vs, ea, _, hd, rel, dd⟩ := view_k I hy hk
    refine wpAny_notIn_of (kV_is rx) hd dd.mapOf ?_
    rw [← (rel.val k).isSome_eq, ← val_is (fun _ _ => kD_inj) ea]
    exact ⟨.bl _, H, I.tok _, rfl, q⟩
  · obtain ⟨b, rfl, hb⟩ := dq_t hx
    cases rx
    obtain ⟨kvs, xs, ea, _, hd, rel, dd⟩ := view_t I hy hk
    refine PyProof.Rows.wpAny_notIn_heap (tupleKind_room_in1 hu) (key_of I.hok hb) hd dd ?_
    have z := (rel.val k).isSome_eq
    rw [Option.isSome_map] at z
    rw [← z, ← val_is (fun _ _ => tD_inj) ea]
    exact ⟨.bl _, H, I.tok _, rfl, q⟩
end
end PN

set_option maxRecDepth 100000
set_option maxHeartbeats 4000000
/-! PN, seventh part: operators on values. -/
namespace PN
open PySem L2
/-- a value as data, as it stands -/
def valD (B : Bs) : S → Option PyData
  | .dat d => some d
  | .ref k => (match B[k]? with
    | some (some (.lst ss)) => (datsOf ss).map .list
    | _ => none)
  | _ => none
section
variable {K : PySem.W.Frag} {mg : Str → Option Value} {c : Cf} {B : Bs}
theorem valD_ok {s : S} {v : V} {d : PyData} (hd : Hold K mg c B) (h : RS K mg c s v) (e : valD B s = some d) : Dq K c.H v d := by
  cases s with
  | dat d' => cases e; exact dp_mono hd.gh _ _ h
  | ref k =>
    unfold valD at e
    obtain ⟨a, h1, h2⟩ := h
    cases q : B[k]? with
    | none => simp only [q] at e; cases e
    | some o =>
      cases o with
      | none => simp only [q] at e; cases e
      | some mo =>
        simp only [q] at e
        cases mo with
        | lst ss =>
          dsimp only at e
          cases q2 : datsOf ss with
          | none => rw [q2] at e; cases e
          | some ds =>
            rw [q2] at e
            cases e
            obtain ⟨a', ho, g1, g2, g3, g4⟩ := hd.ob k _ q
            have ea : a' = a := Option.some.inj (g1.symm.trans h1)
            subst ea
            subst h2
            cases ho with
            | lst vs => exact .lst g3 (dpAll_mono hd.gh ds vs (dats_all q2 g4))
            | _ => exact g4.elim
        | _ => cases e
  | fn x => cases e
  | scr ns => cases e
theorem valP_ok {s : S} {v : V} {d : PyData} (hd : Hold K mg c B) (h : RS K mg c s v) (e : valD B s = some d) (n : d.hasDict = false) : Dp K c.H v d := (valD_ok hd h e).dp d v n
end
theorem OpR_or {X : Cx} {f : Value → Value → Sem Value} {r r' : R2} (h : OpR X f r) (h' : OpR X f r') : OpR X f (fun x y H Q => r x y H Q ∨ r' x y H Q) := by
  intro pins s σ H x y v u Q I rx ry q
  rcases q with q | q
  · exact h pins s σ H x y v u Q I rx ry q
  · exact h' pins s σ H x y v u Q I rx ry q
theorem UnR_or {X : Cx} {f : Value → Sem Value} {r r' : V → Hp → VK → Prop} (h : UnR X f r) (h' : UnR X f r') : UnR X f (fun x H Q => r x H Q ∨ r' x H Q) := by
  intro pins s σ H x v Q I rx q
  rcases q with q | q
  · exact h pins s σ H x v Q I rx q
  · exact h' pins s σ H x v Q I rx q
theorem CallR_or {X : Cx} {f : Value} {r r' : List V → Hp → VK → Prop} (h : CallR X f r) (h' : CallR X f r') : CallR X f (fun x H Q => r x H Q ∨ r' x H Q) := by
  intro pins s σ H x v Q I rx q
  rcases q with q | q
  · exact h pins s σ H x v Q I rx q
  · exact h' pins s σ H x v Q I rx q
/-- a flat answer -/
def bool' (b : Bool) (B : Bs) : Option (S × Bs) := some (.dat (.bool b), B)
def int' (i : Int) (B : Bs) : Option (S × Bs) := some (.dat (.int i), B)
def str' (x : Str) (B : Bs) : Option (S × Bs) := some (.dat (.str x), B)
section
variable {K : PySem.W.Frag} {mg : Str → Option Value} {c : Cf} {B : Bs} {Q : VK}
theorem fin_bool {b : Bool} (hd : Hold K mg c B) (h : FinP K mg c Q (bool' b B)) : Q (.bl b) c.H := h c (.bl b) (Step.refl c) hd (.bl b)
theorem fin_int {i : Int} (hd : Hold K mg c B) (h : FinP K mg c Q (int' i B)) : Q (.int i) c.H := h c (.int i) (Step.refl c) hd (.int i)
theorem fin_str {x : Str} (hd : Hold K mg c B) (h : FinP K mg c Q (str' x B)) : Q (.str x) c.H := h c (.str x) (Step.refl c) hd (.str x)
end
/-! ### == and != -/
def scalD : PyData → Bool
  | .none | .int _ | .str _ => true
  | _ => false
theorem no_scal {d : PyData} (h : scalD d = true) : d.hasDict = false := by
  cases d <;> first | rfl | (simp only [PyData.hasDict]; done) | cases h
def eqD (d e : PyData) : Option Bool := if scalD d = true ∧ scalD e = true then some (PyData.eqv d e) else if SeqAt.shaped d = true ∧ SeqAt.shaped e = true then some (PyData.eqv d e) else none
def pEq : GP
  | [s, t], B => (valD B s).bind fun d => (valD B t).bind fun e => (eqD d e).bind fun b => bool' b B
  | _, _ => none
def pNe : GP
  | [s, t], B => (valD B s).bind fun d => (valD B t).bind fun e => (eqD d e).bind fun b => bool' (!b) B
  | _, _ => none
section
variable {K : PySem.W.Frag} {mg : Str → Option Value} {c : Cf} {B : Bs} {Q : VK}
theorem finP_bind {α : Type} {o : Option α} {f : α → Option (S × Bs)} (h : FinP K mg c Q (o.bind f)) : ∃ a, o = some a ∧ FinP K mg c Q (f a) := by
  cases o with
  | none => exact h.elim
  | some a => exact ⟨a, rfl, h⟩
end
section
variable {X : Cx}
theorem scal_eq {K : PySem.W.Frag} {H : Hp} {x y : V} {d e : PyData} (hx : Dp K H x d) (hy : Dp K H y e) (h1 : scalD d = true) (h2 : scalD e = true) : scal x y = true ∧ decide (x = y) = PyData.eqv d e := by
  cases d with
  | none =>
    cases hx
    cases e with
    | none => cases hy; exact ⟨rfl, by simp [PyData.eqv]⟩
    | int j => cases hy; exact ⟨rfl, by simp [PyData.eqv]⟩
    | str j => cases hy; exact ⟨rfl, by simp [PyData.eqv]⟩
    | _ => cases h2
  | int i =>
    cases hx
    cases e with
    | none => cases hy; exact ⟨rfl, by simp [PyData.eqv]⟩
    | int j => cases hy; exact ⟨rfl, by simp [PyData.eqv, Bool.beq_eq_decide_eq]⟩
    | str j => cases hy; exact ⟨rfl, by simp [PyData.eqv]⟩
    | _ => cases h2
  | str i =>
    cases hx
    cases e with
    | none => cases hy; exact ⟨rfl, by simp [PyData.eqv]⟩
    | int j => cases hy; exact ⟨rfl, by simp [PyData.eqv]⟩
    | str j => cases hy; exact ⟨rfl, by simp [PyData.eqv, Bool.beq_eq_decide_eq]⟩
    | _ => cases h2
  | _ => cases h1
theorem o_eq (hu : X.A.units + 64 < cLine) : PrimOp X (compareOp .Eq) pEq := by
  refine ⟨_, OpR_or op_eq (op_eqD hu), fun s t v u c B Q hd hs ht h => ?_⟩
  obtain ⟨d, e1, h⟩ := finP_bind h
  obtain ⟨e, e2, h⟩ := finP_bind h
  obtain ⟨b, e3, h⟩ := finP_bind h
  have p1 := valP_ok hd hs e1
  have p2 := valP_ok hd ht e2
  unfold eqD at e3
  split at e3
  · rename_i z
    cases e3
    obtain ⟨q1, q2⟩ := scal_eq (p1 (no_scal z.1)) (p2 (no_scal z.2)) z.1 z.2
    exact .inl ⟨q1, by rw [q2]; exact fin_bool hd h⟩
  · split at e3
    · rename_i z
      cases e3
      exact .inr ⟨d, e, p1 (no_shaped z.1), p2 (no_shaped z.2), z.1, z.2, fin_bool hd h⟩
    · cases e3
theorem o_ne (hu : X.A.units + 64 < cLine) : PrimOp X (compareOp .NotEq) pNe := by
  refine ⟨_, OpR_or op_ne (op_neD hu), fun s t v u c B Q hd hs ht h => ?_⟩
  obtain ⟨d, e1, h⟩ := finP_bind h
  obtain ⟨e, e2, h⟩ := finP_bind h
  obtain ⟨b, e3, h⟩ := finP_bind h
  have p1 := valP_ok hd hs e1
  have p2 := valP_ok hd ht e2
  unfold eqD at e3
  split at e3
  · rename_i z
    cases e3
    obtain ⟨q1, q2⟩ := scal_eq (p1 (no_scal z.1)) (p2 (no_scal z.2)) z.1 z.2
    exact .inl ⟨q1, by rw [q2]; exact fin_bool hd h⟩
  · split at e3
    · rename_i z
      cases e3
      exact .inr ⟨d, e, p1 (no_shaped z.1), p2 (no_shaped z.2), z.1, z.2, fin_bool hd h⟩
    · cases e3
end
/-! ### is None -/
def isNon : S → Bool
  | .dat .none => true
  | _ => false
def pIsN : GP
  | [s, .dat .none], B => bool' (isNon s) B
  | _, _ => none
def pNotN : GP
  | [s, .dat .none], B => bool' (!isNon s) B
  | _, _ => none
theorem isNon_ok {K : PySem.W.Frag} {mg : Str → Option Value} {c : Cf} {s : S} {v : V} (h : RS K mg c s v) : decide (v = .non) = isNon s := by
  cases s with
  | dat d =>
    have h : Dq K c.G v d := h
    cases h <;> rfl
  | ref k => obtain ⟨a, _, rfl⟩ := h; rfl
  | fn x => obtain ⟨a, _, rfl⟩ := h; rfl
  | scr x => obtain ⟨a, _, rfl⟩ := h; rfl
/-! ### in -/
theorem sign_eq {x : Str} {c : Nat} (h : x.cps.toList = [c]) : x = ⟨#[c]⟩ := by
  obtain ⟨⟨l⟩⟩ := x
  have h : l = [c] := h
  subst h
  rfl
open Classical in
noncomputable def inD (d : PyData) : PyData → Option Bool
  | .dict ps => if KeyOk d ps then some (valP ps d).isSome else none
  | .list ds => if SeqAt.shaped d = true ∧ SeqAt.shaped (.list ds) = true then some (ds.any fun z => PyData.eqv z d) else none
  | .tuple ds => if SeqAt.shaped d = true ∧ SeqAt.shaped (.tuple ds) = true then some (ds.any fun z => PyData.eqv z d) else none
  | .str y => (match d with
    | .str x => (match x.cps.toList with
      | [c] => some (decide (c ∈ y.cps.toList))
      | _ => none)
    | _ => none)
  | _ => none
noncomputable def pIn : GP
  | [s, t], B => (valD B s).bind fun d => (valD B t).bind fun e => (inD d e).bind fun b => bool' b B
  | _, _ => none
noncomputable def pNotIn : GP
  | [s, t], B => (valD B s).bind fun d => (valD B t).bind fun e => (inD d e).bind fun b => bool' (!b) B
  | _, _ => none
section
variable {X : Cx}
def rInT (K : PySem.W.Frag) : R2 := fun x y H Q => ∃ d ds, Dp K H x d ∧ Dp K H y (.tuple ds) ∧ SeqAt.shaped d = true ∧ SeqAt.shaped (.tuple ds) = true ∧ Q (.bl (ds.any fun z => PyData.eqv z d)) H
def rNotInT (K : PySem.W.Frag) : R2 := fun x y H Q => ∃ d ds, Dp K H x d ∧ Dp K H y (.tuple ds) ∧ SeqAt.shaped d = true ∧ SeqAt.shaped (.tuple ds) = true ∧ Q (.bl (!ds.any fun z => PyData.eqv z d)) H
theorem op_inT (hu : X.A.units + 65 < cLine) : OpR X (compareOp .In) (rInT X.K) := by
  intro pins s σ H x y v u Q I rx ry h
  obtain ⟨d, ds, hd, he, sd, se, q⟩ := h
  obtain ⟨as, r1⟩ := Dp.reads I d x v hd rx
  obtain ⟨bs, r2⟩ := Dp.reads I (.tuple ds) y u he ry
  exact PySem.SeqAt.in_tuple_reads r2 r1 (SeqAt.canLay_of_shaped se) (SeqAt.canLay_of_shaped sd) (PyProof.Rows.room_in_shaped sd hu) ⟨.bl _, H, I, rfl, q⟩
theorem op_notInT (hu : X.A.units + 65 < cLine) : OpR X (compareOp .NotIn) (rNotInT X.K) := by
  intro pins s σ H x y v u Q I rx ry h
  obtain ⟨d, ds, hd, he, sd, se, q⟩ := h
  obtain ⟨as, r1⟩ := Dp.reads I d x v hd rx
  obtain ⟨bs, r2⟩ := Dp.reads I (.tuple ds) y u he ry
  exact PySem.SeqAt.notIn_tuple_reads r2 r1 (SeqAt.canLay_of_shaped se) (SeqAt.canLay_of_shaped sd) (PyProof.Rows.room_in_shaped sd hu) ⟨.bl _, H, I, rfl, q⟩
theorem o_in (hu : X.A.units + 65 < cLine) : PrimOp X (compareOp .In) pIn := by
  refine ⟨_, OpR_or (op_inD hu) (OpR_or (op_inT hu) (OpR_or op_in_sign (op_inP (by omega)))), fun s t v u c B Q hd hs ht h => ?_⟩
  obtain ⟨d, e1, h⟩ := finP_bind h
  obtain ⟨e, e2, h⟩ := finP_bind h
  obtain ⟨b, e3, h⟩ := finP_bind h
  have p1 := valP_ok hd hs e1
  have p2 := valP_ok hd ht e2
  have w1 := valD_ok hd hs e1
  have w2 := valD_ok hd ht e2
  unfold inD at e3
  split at e3
  · split at e3
    · rename_i ok
      cases e3
      obtain ⟨a, rfl⟩ : ∃ a, u = V.ref a := by cases w2 <;> exact ⟨_, rfl⟩
      exact .inr (.inr (.inr ⟨d, _, a, rfl, w1, w2, ok, fin_bool hd h⟩))
    · cases e3
  · split at e3
    · rename_i ds z
      cases e3
      exact .inl ⟨d, ds, p1 (no_shaped z.1), p2 (no_shaped z.2), z.1, z.2, fin_bool hd h⟩
    · cases e3
  · split at e3
    · rename_i ds z
      cases e3
      exact .inr (.inl ⟨d, ds, p1 (no_shaped z.1), p2 (no_shaped z.2), z.1, z.2, fin_bool hd h⟩)
    · cases e3
  · split at e3
    · rename_i x
      split at e3
      · rename_i c0 ec
        cases e3
        have p1 := p1 rfl
        have p2 := p2 rfl
        cases p1
        cases p2
        exact .inr (.inr (.inl ⟨c0, _, congrArg V.str (sign_eq ec), rfl, fin_bool hd h⟩))
      · cases e3
    · cases e3
  · cases e3
theorem o_notIn (hu : X.A.units + 65 < cLine) : PrimOp X (compareOp .NotIn) pNotIn := by
  refine ⟨_, OpR_or (op_notInD hu) (OpR_or (op_notInT hu) (OpR_or op_notIn_sign (op_notInP (by omega)))), fun s t v u c B Q hd hs ht h => ?_⟩
  obtain ⟨d, e1, h⟩ := finP_bind h
  obtain ⟨e, e2, h⟩ := finP_bind h
  obtain ⟨b, e3, h⟩ := finP_bind h
  have p1 := valP_ok hd hs e1
  have p2 := valP_ok hd ht e2
  have w1 := valD_ok hd hs e1
  have w2 := valD_ok hd ht e2
  unfold inD at e3
  split at e3
  · split at e3
    · rename_i ok
      cases e3
      obtain ⟨a, rfl⟩ : ∃ a, u = V.ref a := by cases w2 <;> exact ⟨_, rfl⟩
      exact .inr (.inr (.inr ⟨d, _, a, rfl, w1, w2, ok, fin_bool hd h⟩))
    · cases e3
  · split at e3
    · rename_i ds z
      cases e3
      exact .inl ⟨d, ds, p1 (no_shaped z.1), p2 (no_shaped z.2), z.1, z.2, fin_bool hd h⟩
    · cases e3
  · split at e3
    · rename_i ds z
      cases e3
      exact .inr (.inl ⟨d, ds, p1 (no_shaped z.1), p2 (no_shaped z.2), z.1, z.2, fin_bool hd h⟩)
    · cases e3
  · split at e3
    · rename_i x
      split at e3
      · rename_i c0 ec
        cases e3
        have p1 := p1 rfl
        have p2 := p2 rfl
        cases p1
        cases p2
        exact .inr (.inr (.inl ⟨c0, _, congrArg V.str (sign_eq ec), rfl, fin_bool hd h⟩))
      · cases e3
    · cases e3
  · cases e3
end
end PN

set_option maxRecDepth 100000
set_option maxHeartbeats 4000000
/-! PN, eighth part: order, sums, items, slices. -/
namespace PN
open PySem L2
/-! ### order -/
def ltS : PyData → PyData → Option Bool
  | .int i, .int j => some (decide (i < j))
  | .str x, .str y => some (decide (x.cps.toList < y.cps.toList))
  | _, _ => none
def leS : PyData → PyData → Option Bool
  | .int i, .int j => some (decide (i ≤ j))
  | .str x, .str y => some (!decide (y.cps.toList < x.cps.toList))
  | _, _ => none
/-- by the first places that differ; f tells of these, z of the lengths -/
def lexO (f : PyData → PyData → Option Bool) (z : Nat → Nat → Bool) : List PyData → List PyData → Option Bool
  | [], ys => some (z 0 ys.length)
  | _ :: xs, [] => some (z (xs.length + 1) 0)
  | x :: xs, y :: ys => if PyData.eqv x y = true then lexO f z xs ys else f x y
def allS (f : PyData → PyData → Option Bool) : List PyData → List PyData → Bool
  | x :: xs, y :: ys => (f x y).isSome && allS f xs ys
  | _, _ => true
def cmpD (f : PyData → PyData → Option Bool) (z : Nat → Nat → Bool) : PyData → PyData → Option Bool
  | .tuple xs, .tuple ys => if SeqAt.shaped (.tuple xs) = true ∧ SeqAt.shaped (.tuple ys) = true ∧ allS f xs ys = true then lexO f z xs ys else none
  | d, e => f d e
def pCmp (f : PyData → PyData → Option Bool) (z : Nat → Nat → Bool) : GP
  | [s, t], B => (valD B s).bind fun d => (valD B t).bind fun e => (cmpD f z d e).bind fun b => bool' b B
  | _, _ => none
def pLt : GP := pCmp ltS fun m n => decide (m < n)
def pLe : GP := pCmp leS fun m n => decide (m ≤ n)
def pGt : GP := pCmp (fun d e => ltS e d) fun m n => decide (n < m)
def pGe : GP := pCmp (fun d e => leS e d) fun m n => decide (n ≤ m)
theorem allS_at {f : PyData → PyData → Option Bool} : ∀ {xs ys : List PyData} {j : Nat} {x y : PyData}, allS f xs ys = true → xs[j]? = some x → ys[j]? = some y → ∃ b, f x y = some b
  | [], _, _, _, _, _, h, _ => by simp at h
  | _ :: _, [], _, _, _, _, _, h => by simp at h
  | a :: xs, b :: ys, 0, x, y, h, h1, h2 => by
    simp at h1 h2
    subst h1; subst h2
    have h : ((f a b).isSome && allS f xs ys) = true := h
    rw [Bool.and_eq_true] at h
    exact Option.isSome_iff_exists.mp h.1
  | a :: xs, b :: ys, j + 1, x, y, h, h1, h2 => by
    have h : ((f a b).isSome && allS f xs ys) = true := h
    rw [Bool.and_eq_true] at h
    exact allS_at (j := j) h.2 (by simpa using h1) (by simpa using h2)
theorem lex_at {f : PyData → PyData → Option Bool} {z : Nat → Nat → Bool} (hz : ∀ a b c, z (a + c) (b + c) = z a b) {e r : Nat → Bool} : ∀ {xs ys : List PyData} {i : Nat} {b : Bool}, lexO f z xs ys = some b →
    (∀ j x y, xs[j]? = some x → ys[j]? = some y → e (i + j) = PyData.eqv x y ∧ (PyData.eqv x y = false → f x y = some (r (i + j)))) → Ob.lexAt e r (z (i + xs.length) (i + ys.length)) i (min xs.length ys.length) = b
  | [], ys, i, b, h, _ => by
    have h : some (z 0 ys.length) = some b := h
    cases h
    rw [List.length_nil, Nat.zero_min]
    show z (i + 0) (i + ys.length) = z 0 ys.length
    rw [← hz 0 ys.length i]
    congr 1 <;> omega
  | x :: xs, [], i, b, h, _ => by
    have h : some (z (xs.length + 1) 0) = some b := h
    cases h
    rw [List.length_nil, Nat.min_zero]
    show z (i + (xs.length + 1)) (i + 0) = z (xs.length + 1) 0
    rw [← hz (xs.length + 1) 0 i]
    congr 1 <;> omega
  | x :: xs, y :: ys, i, b, h, hk => by
    have h : (if PyData.eqv x y = true then lexO f z xs ys else f x y) = some b := h
    obtain ⟨k1, k2⟩ := hk 0 x y rfl rfl
    rw [Nat.add_zero] at k1 k2
    have em : min (x :: xs).length (y :: ys).length = min xs.length ys.length + 1 := by
      rw [List.length_cons, List.length_cons]; omega
    rw [em, Ob.lexAt_succ, k1]
    cases q : PyData.eqv x y with
    | true =>
      rw [q, if_pos rfl] at h
      rw [if_pos rfl]
      have := lex_at hz (e := e) (r := r) (i := i + 1) h fun j x' y' h1 h2 => by
        have := hk (j + 1) x' y' (by simpa using h1) (by simpa using h2)
        rw [show i + 1 + j = i + (j + 1) by omega]
        exact this
      rw [← this, List.length_cons, List.length_cons, show i + 1 + xs.length = i + (xs.length + 1) by omega, show i + 1 + ys.length = i + (ys.length + 1) by omega]
    | false =>
      rw [q, if_neg (by decide)] at h
      rw [if_neg (by decide)]
      rw [k2 q] at h
      exact Option.some.inj h
theorem vget {xs : List V} {us : List Value} (r : Vals xs us) {j : Nat} {u : Value} (h : us[j]? = some u) : ∃ x, xs[j]? = some x ∧ RelV x u := by
  have hl := r.length
  have hj : j < xs.length := by rw [hl]; exact (List.getElem?_eq_some_iff.mp h).1
  obtain ⟨u', h1, h2⟩ := r.get (List.getElem?_eq_getElem hj)
  rw [h] at h1
  cases h1
  exact ⟨_, List.getElem?_eq_getElem hj, h2⟩
theorem dget {K : PySem.W.Frag} {H : Hp} : ∀ {ds : List PyData} {vs : List V} {j : Nat} {v : V}, DpAll K H vs ds → vs[j]? = some v → ∃ d, ds[j]? = some d ∧ Dp K H v d
  | _, _, _, _, .nil, h => by simp at h
  | _, _, 0, _, .cons a b, h => by simp at h; subst h; exact ⟨_, rfl, a⟩
  | _, _, j + 1, _, .cons a b, h => by
    obtain ⟨d, h1, h2⟩ := dget (j := j) b (by simpa using h)
    exact ⟨d, by simpa using h1, h2⟩
theorem dlen {K : PySem.W.Frag} {H : Hp} : ∀ {ds : List PyData} {vs : List V}, DpAll K H vs ds → vs.length = ds.length
  | _, _, .nil => rfl
  | _, _, .cons _ b => congrArg (· + 1) (dlen b)
theorem canAll_at : ∀ {ds : List PyData} {j : Nat} {d : PyData}, PyData.canLayAll0 ds = true → ds[j]? = some d → d.canLay0 = true ∧ d.depth ≤ PyData.depthAll ds
  | [], _, _, _, h => by simp at h
  | x :: xs, 0, d, h, h1 => by
    simp at h1; subst h1
    rw [PyData.canLayAll0, Bool.and_eq_true] at h
    exact ⟨h.1, by rw [PyData.depthAll]; exact Nat.le_max_left _ _⟩
  | x :: xs, j + 1, d, h, h1 => by
    rw [PyData.canLayAll0, Bool.and_eq_true] at h
    obtain ⟨a, b⟩ := canAll_at (j := j) h.2 (by simpa using h1)
    exact ⟨a, by rw [PyData.depthAll]; exact Nat.le_trans b (Nat.le_max_right _ _)⟩
section
variable {X : Cx}
/-- what a comparison of tuples wants of the one of items -/
theorem tup_cmp {op : CmpOp} {f : PyData → PyData → Option Bool} {z : Nat → Nat → Bool} (hu : X.A.units + 65 < cLine)
    (base : ∀ {s : Shared} {l b : Addr} {items items2 : Array Value} {e r : Nat → Bool}, s.heap.IsTuple l items → s.heap.IsTuple b items2 →
      (∀ j (h1 : j < items.size) (h2 : j < items2.size), PySem.SeqAt.EqAt X.A.in1 s items[j] items2[j] (e j)) → (∀ j (h1 : j < items.size) (h2 : j < items2.size), e j = false → Ob.RcOp op X.A.in1 s items[j] items2[j] (r j)) →
      Ob.RcOp op X.A s (.ref l) (.ref b) (Ob.lexAt e r (z items.size items2.size) 0 (min items.size items2.size)))
    (one : ∀ {s : Shared} {x y : V} {u w : Value} {d e : PyData} {H : Hp} {k : Bool}, RelV x u → RelV y w → Dp X.K H x d → Dp X.K H y e → f d e = some k → Ob.RcOp op X.A.in1 s u w k)
    (hz : ∀ a b c, z (a + c) (b + c) = z a b) (hc : ∀ a b, compareOp op a b = richCompare op a b) :
    OpR X (compareOp op) (fun x y H Q => ∃ xs ys k, Dp X.K H x (.tuple xs) ∧ Dp X.K H y (.tuple ys) ∧ SeqAt.shaped (.tuple xs) = true ∧ SeqAt.shaped (.tuple ys) = true ∧ allS f xs ys = true ∧ lexO f z xs ys = some k ∧ Q (.bl k) H) := by
  intro pins s σ H x y v u Q I rx ry h
  obtain ⟨xs, ys, k, hx, hy, sx, sy, ha, hl, q⟩ := h
  cases hx with
  | tup t1 d1 =>
  cases hy with
  | tup t2 d2 =>
  cases rx
  cases ry
  obtain ⟨its, r1, p1, _⟩ := I.tuple t1
  obtain ⟨its2, r2, p2, _⟩ := I.tuple t2
  have l1 : its.toArray.size = xs.length := by rw [List.size_toArray, ← r1.length, dlen d1]
  have l2 : its2.toArray.size = ys.length := by rw [List.size_toArray, ← r2.length, dlen d2]
  have c1 := SeqAt.canLay_of_shaped sx
  have c2 := SeqAt.canLay_of_shaped sy
  have e1 := SeqAt.depth_of_shaped sx
  rw [PyData.depth] at e1
  have at1 : ∀ j (h1 : j < its.toArray.size), ∃ x d, RelV x its.toArray[j] ∧ Dp X.K H x d ∧ xs[j]? = some d := fun j h1 => by
    have h1' : j < its.length := by simpa using h1
    obtain ⟨x, a1, a2⟩ := vget r1 (List.getElem?_eq_getElem h1')
    obtain ⟨d, b1, b2⟩ := dget d1 a1
    exact ⟨x, d, by simpa using a2, b2, b1⟩
  have at2 : ∀ j (h1 : j < its2.toArray.size), ∃ x d, RelV x its2.toArray[j] ∧ Dp X.K H x d ∧ ys[j]? = some d := fun j h1 => by
    have h1' : j < its2.length := by simpa using h1
    obtain ⟨x, a1, a2⟩ := vget r2 (List.getElem?_eq_getElem h1')
    obtain ⟨d, b1, b2⟩ := dget d2 a1
    exact ⟨x, d, by simpa using a2, b2, b1⟩
  have R := base (s := s) (e := fun j => PyData.eqv (xs.getD j .none) (ys.getD j .none)) (r := fun j => (f (xs.getD j .none) (ys.getD j .none)).getD false) p1 p2 (fun j h1 h2 => by
    obtain ⟨a, d, a1, a2, a3⟩ := at1 j h1
    obtain ⟨b, e, b1, b2, b3⟩ := at2 j h2
    rw [List.getD_eq_getElem?_getD, List.getD_eq_getElem?_getD, a3, b3]
    obtain ⟨as, q1⟩ := Dp.reads I d a _ a2 a1
    obtain ⟨bs, q2⟩ := Dp.reads I e b _ b2 b1
    obtain ⟨m1, m2⟩ := canAll_at (show PyData.canLayAll0 xs = true from c1) a3
    obtain ⟨n1, _⟩ := canAll_at (show PyData.canLayAll0 ys = true from c2) b3
    exact PySem.SeqAt.eqAt_reads d e _ s _ _ as bs q1 q2 m1 n1 (by show X.A.units + 1 + min d.depth e.depth < cLine; omega)) (fun j h1 h2 _ => by
    obtain ⟨a, d, a1, a2, a3⟩ := at1 j h1
    obtain ⟨b, e, b1, b2, b3⟩ := at2 j h2
    rw [List.getD_eq_getElem?_getD, List.getD_eq_getElem?_getD, a3, b3]
    obtain ⟨k', hk⟩ := allS_at ha a3 b3
    show Ob.RcOp op X.A.in1 s _ _ ((f d e).getD false)
    rw [hk]
    exact one a1 b1 a2 b2 hk)
  rw [l1, l2] at R
  have ek := lex_at (i := 0) hz (e := fun j => PyData.eqv (xs.getD j .none) (ys.getD j .none)) (r := fun j => (f (xs.getD j .none) (ys.getD j .none)).getD false) hl fun j x y h1 h2 => by
    rw [Nat.zero_add]
    simp only [List.getD_eq_getElem?_getD, h1, h2, Option.getD_some]
    refine ⟨trivial, fun _ => ?_⟩
    obtain ⟨k', hk⟩ := allS_at ha h1 h2
    rw [hk]
    rfl
  rw [Nat.zero_add, Nat.zero_add] at ek
  rw [ek] at R
  rw [hc]
  exact R X.prog X.w X.xe (EP X pins σ Q) ⟨.bl _, H, I, rfl, q⟩
end
end PN

set_option maxRecDepth 100000
set_option maxHeartbeats 4000000
/-! PN, ninth part: order, sums, items, slices. -/
namespace PN
open PySem L2
section
variable {X : Cx}
theorem lt_one {A : Around} {s : Shared} {K : PySem.W.Frag} {x y : V} {u w : Value} {d e : PyData} {H : Hp} {k : Bool} (r1 : RelV x u) (r2 : RelV y w) (h1 : Dp K H x d) (h2 : Dp K H y e) (h : ltS d e = some k) : Ob.RcOp .Lt A s u w k := by
  cases h1 <;> cases h2 <;> first | (cases h; done) | skip
  · cases h
    obtain ⟨t, rfl⟩ := r1
    obtain ⟨t', rfl⟩ := r2
    exact Ob.RcOp.lt_int _ _ _ _
  · cases h
    obtain ⟨t, rfl⟩ := r1
    obtain ⟨t', rfl⟩ := r2
    exact fun _ _ _ _ q => PySem.P.lt_str q
theorem gt_one {A : Around} {s : Shared} {K : PySem.W.Frag} {x y : V} {u w : Value} {d e : PyData} {H : Hp} {k : Bool} (r1 : RelV x u) (r2 : RelV y w) (h1 : Dp K H x d) (h2 : Dp K H y e) (h : ltS e d = some k) : Ob.RcOp .Gt A s u w k := by
  cases h1 <;> cases h2 <;> first | (cases h; done) | skip
  · cases h
    obtain ⟨t, rfl⟩ := r1
    obtain ⟨t', rfl⟩ := r2
    exact Ob.RcOp.gt_int _ _ _ _
  · cases h
    obtain ⟨t, rfl⟩ := r1
    obtain ⟨t', rfl⟩ := r2
    exact fun _ _ _ _ q => PySem.P.gt_str q
theorem le_one {A : Around} {s : Shared} {K : PySem.W.Frag} {x y : V} {u w : Value} {d e : PyData} {H : Hp} {k : Bool} (r1 : RelV x u) (r2 : RelV y w) (h1 : Dp K H x d) (h2 : Dp K H y e) (h : leS d e = some k) : Ob.RcOp .LtE A s u w k := by
  cases h1 <;> cases h2 <;> first | (cases h; done) | skip
  · cases h
    obtain ⟨t, rfl⟩ := r1
    obtain ⟨t', rfl⟩ := r2
    exact Ob.RcOp.le_int _ _ _ _
  · cases h
    obtain ⟨t, rfl⟩ := r1
    obtain ⟨t', rfl⟩ := r2
    exact fun _ _ _ _ q => PySem.P.le_str q
theorem ge_one {A : Around} {s : Shared} {K : PySem.W.Frag} {x y : V} {u w : Value} {d e : PyData} {H : Hp} {k : Bool} (r1 : RelV x u) (r2 : RelV y w) (h1 : Dp K H x d) (h2 : Dp K H y e) (h : leS e d = some k) : Ob.RcOp .GtE A s u w k := by
  cases h1 <;> cases h2 <;> first | (cases h; done) | skip
  · cases h
    obtain ⟨t, rfl⟩ := r1
    obtain ⟨t', rfl⟩ := r2
    exact Ob.RcOp.ge_int _ _ _ _
  · cases h
    obtain ⟨t, rfl⟩ := r1
    obtain ⟨t', rfl⟩ := r2
    exact fun _ _ _ _ q => PySem.P.ge_str q

theorem o_lt (hu : X.A.units + 65 < cLine) : PrimOp X (compareOp .Lt) pLt := by
  refine ⟨_, OpR_or op_lt (OpR_or op_lt_str (tup_cmp (f := ltS) (z := fun m n => decide (m < n)) hu (fun {_ _ _ _ _ _ _} h1 h2 h3 h4 => Ob.RcOp.tuples_lt h1 h2 (by omega) h3 h4) (fun {_ _ _ _ _ _ _ _ _} => lt_one) (fun a b c => by rw [decide_eq_decide]; omega) (fun _ _ => rfl))), fun s t v u c B Q hd hs ht h => ?_⟩
  obtain ⟨d, e1, h⟩ := finP_bind h
  obtain ⟨e, e2, h⟩ := finP_bind h
  obtain ⟨b, e3, h⟩ := finP_bind h
  have p1 := valD_ok hd hs e1
  have p2 := valD_ok hd ht e2
  have q := fin_bool hd h
  unfold cmpD at e3
  split at e3
  · split at e3
    · rename_i xs ys _ z
      exact .inr (.inr ⟨xs, ys, b, p1.dp _ _ (no_shaped z.1), p2.dp _ _ (no_shaped z.2.1), z.1, z.2.1, z.2.2, e3, q⟩)
    · cases e3
  · cases p1 <;> cases p2 <;> first | (cases e3; done) | skip
    · cases e3
      exact .inl ⟨_, _, rfl, rfl, q⟩
    · cases e3
      exact .inr (.inl ⟨_, _, rfl, rfl, q⟩)

theorem o_le (hu : X.A.units + 65 < cLine) : PrimOp X (compareOp .LtE) pLe := by
  refine ⟨_, OpR_or op_le (OpR_or op_le_str (tup_cmp (f := leS) (z := fun m n => decide (m ≤ n)) hu (fun {_ _ _ _ _ _ _} h1 h2 h3 h4 => Ob.RcOp.tuples_le h1 h2 (by omega) h3 h4) (fun {_ _ _ _ _ _ _ _ _} => le_one) (fun a b c => by rw [decide_eq_decide]; omega) (fun _ _ => rfl))), fun s t v u c B Q hd hs ht h => ?_⟩
  obtain ⟨d, e1, h⟩ := finP_bind h
  obtain ⟨e, e2, h⟩ := finP_bind h
  obtain ⟨b, e3, h⟩ := finP_bind h
  have p1 := valD_ok hd hs e1
  have p2 := valD_ok hd ht e2
  have q := fin_bool hd h
  unfold cmpD at e3
  split at e3
  · split at e3
    · rename_i xs ys _ z
      exact .inr (.inr ⟨xs, ys, b, p1.dp _ _ (no_shaped z.1), p2.dp _ _ (no_shaped z.2.1), z.1, z.2.1, z.2.2, e3, q⟩)
    · cases e3
  · cases p1 <;> cases p2 <;> first | (cases e3; done) | skip
    · cases e3
      exact .inl ⟨_, _, rfl, rfl, q⟩
    · cases e3
      exact .inr (.inl ⟨_, _, rfl, rfl, q⟩)

theorem o_gt (hu : X.A.units + 65 < cLine) : PrimOp X (compareOp .Gt) pGt := by
  refine ⟨_, OpR_or op_gt (OpR_or op_gt_str (tup_cmp (f := fun d e => ltS e d) (z := fun m n => decide (n < m)) hu (fun {_ _ _ _ _ _ _} h1 h2 h3 h4 => Ob.RcOp.tuples_gt h1 h2 (by omega) h3 h4) (fun {_ _ _ _ _ _ _ _ _} => gt_one) (fun a b c => by rw [decide_eq_decide]; omega) (fun _ _ => rfl))), fun s t v u c B Q hd hs ht h => ?_⟩
  obtain ⟨d, e1, h⟩ := finP_bind h
  obtain ⟨e, e2, h⟩ := finP_bind h
  obtain ⟨b, e3, h⟩ := finP_bind h
  have p1 := valD_ok hd hs e1
  have p2 := valD_ok hd ht e2
  have q := fin_bool hd h
  unfold cmpD at e3
  split at e3
  · split at e3
    · rename_i xs ys _ z
      exact .inr (.inr ⟨xs, ys, b, p1.dp _ _ (no_shaped z.1), p2.dp _ _ (no_shaped z.2.1), z.1, z.2.1, z.2.2, e3, q⟩)
    · cases e3
  · cases p1 <;> cases p2 <;> first | (cases e3; done) | skip
    · cases e3
      exact .inl ⟨_, _, rfl, rfl, q⟩
    · cases e3
      exact .inr (.inl ⟨_, _, rfl, rfl, q⟩)

theorem o_ge (hu : X.A.units + 65 < cLine) : PrimOp X (compareOp .GtE) pGe := by
  refine ⟨_, OpR_or op_ge (OpR_or op_ge_str (tup_cmp (f := fun d e => leS e d) (z := fun m n => decide (n ≤ m)) hu (fun {_ _ _ _ _ _ _} h1 h2 h3 h4 => Ob.RcOp.tuples_ge h1 h2 (by omega) h3 h4) (fun {_ _ _ _ _ _ _ _ _} => ge_one) (fun a b c => by rw [decide_eq_decide]; omega) (fun _ _ => rfl))), fun s t v u c B Q hd hs ht h => ?_⟩
  obtain ⟨d, e1, h⟩ := finP_bind h
  obtain ⟨e, e2, h⟩ := finP_bind h
  obtain ⟨b, e3, h⟩ := finP_bind h
  have p1 := valD_ok hd hs e1
  have p2 := valD_ok hd ht e2
  have q := fin_bool hd h
  unfold cmpD at e3
  split at e3
  · split at e3
    · rename_i xs ys _ z
      exact .inr (.inr ⟨xs, ys, b, p1.dp _ _ (no_shaped z.1), p2.dp _ _ (no_shaped z.2.1), z.1, z.2.1, z.2.2, e3, q⟩)
    · cases e3
  · cases p1 <;> cases p2 <;> first | (cases e3; done) | skip
    · cases e3
      exact .inl ⟨_, _, rfl, rfl, q⟩
    · cases e3
      exact .inr (.inl ⟨_, _, rfl, rfl, q⟩)

theorem o_isN : PrimOp X (compareOp .Is) pIsN := by
  refine ⟨_, op_isN, fun s t v u c B Q hd hs ht h => ?_⟩
  cases t with
  | dat d =>
    cases d with
    | none =>
      refine ⟨rs_non ht, ?_⟩
      rw [isNon_ok hs]
      exact fin_bool hd h
    | _ => exact h.elim
  | _ => exact h.elim
theorem o_notN : PrimOp X (compareOp .IsNot) pNotN := by
  refine ⟨_, op_notN, fun s t v u c B Q hd hs ht h => ?_⟩
  cases t with
  | dat d =>
    cases d with
    | none =>
      refine ⟨rs_non ht, ?_⟩
      rw [isNon_ok hs]
      exact fin_bool hd h
    | _ => exact h.elim
  | _ => exact h.elim
end
/-! ### sums -/
def pSub : GP
  | [.dat (.int i), .dat (.int j)], B => int' (i - j) B
  | _, _ => none
def pFdiv : GP
  | [.dat (.int i), .dat (.int j)], B => if 0 < j ∧ j < 1073741824 then int' (i / j) B else none
  | _, _ => none
def pMod : GP
  | [.dat (.int i), .dat (.int j)], B => if 0 < j then int' (i % j) B else none
  | _, _ => none
def pPow : GP
  | [.dat (.int i), .dat (.int j)], B => if 0 ≤ j ∧ j ≤ 1000000 ∧ i.natAbs < 2 ^ 64 then int' (i ^ j.toNat) B else none
  | _, _ => none
def pNeg : GP
  | [.dat (.int i)], B => int' (-i) B
  | _, _ => none
/-- ints; a list so many times -/
def pMul : GP
  | [.dat (.int i), .dat (.int j)], B => if (-(2 ^ 64) < i ∧ i < 2 ^ 64) ∨ (-(2 ^ 64) < j ∧ j < 2 ^ 64) then int' (i * j) B else none
  | _, _ => none
/-- ints, texts, tuples, lists -/
def addS (B : Bs) (s t : S) : Option (S × Bs) := match s, t with
  | .dat (.int i), .dat (.int j) => int' (i + j) B
  | .dat (.str x), .dat (.str y) => if x.length + y.length ≤ sizeLine then str' (x ++ y) B else none
  | .dat (.tuple xs), .dat (.tuple ys) => if xs.length + ys.length ≤ sizeLine then some (.dat (.tuple (xs ++ ys)), B) else none
  | _, _ => (asM B s).bind fun xs => (asM B t).bind fun ys => (datsOf (xs ++ ys)).bind fun ds => if xs.length + ys.length ≤ sizeLine then some (.dat (.list ds), B) else none
def pAdd : GP
  | [s, t], B => addS B s t
  | _, _ => none
theorem paired_app {α β : Type} {F : α → β → Prop} : ∀ {xs : List α} {ys : List β} {zs : List α} {ws : List β}, Paired F xs ys → Paired F zs ws → Paired F (xs ++ zs) (ys ++ ws)
  | _, _, _, _, .nil, h => h
  | _, _, _, _, .cons a b, h => .cons a (paired_app b h)
section
variable {X : Cx}
theorem o_sub : PrimOp X (binaryOp .Sub) pSub := by
  refine ⟨_, op_sub, fun s t v u c B Q hd hs ht h => ?_⟩
  unfold pSub at h
  split at h
  · rename_i z; cases z
    exact ⟨_, _, rs_int hs, rs_int ht, fin_int hd h⟩
  · exact h.elim
theorem o_fdiv : PrimOp X (binaryOp .FloorDiv) pFdiv := by
  refine ⟨_, op_fdiv, fun s t v u c B Q hd hs ht h => ?_⟩
  unfold pFdiv at h
  split at h
  · rename_i z; cases z
    split at h
    · rename_i z
      exact ⟨_, _, rs_int hs, rs_int ht, z, fin_int hd h⟩
    · exact h.elim
  · exact h.elim
theorem o_mod : PrimOp X (binaryOp .Mod) pMod := by
  refine ⟨_, op_mod, fun s t v u c B Q hd hs ht h => ?_⟩
  unfold pMod at h
  split at h
  · rename_i z; cases z
    split at h
    · rename_i z
      exact ⟨_, _, rs_int hs, rs_int ht, z, fin_int hd h⟩
    · exact h.elim
  · exact h.elim
theorem o_pow : PrimOp X (binaryOp .Pow) pPow := by
  refine ⟨_, op_pow, fun s t v u c B Q hd hs ht h => ?_⟩
  unfold pPow at h
  split at h
  · rename_i z; cases z
    split at h
    · rename_i z
      exact ⟨_, _, rs_int hs, rs_int ht, z, fin_int hd h⟩
    · exact h.elim
  · exact h.elim
theorem o_mul : PrimOp X (binaryOp .Mult) pMul := by
  refine ⟨_, op_mul, fun s t v u c B Q hd hs ht h => ?_⟩
  unfold pMul at h
  split at h
  · rename_i z; cases z
    split at h
    · rename_i z
      exact ⟨_, _, rs_int hs, rs_int ht, z, fin_int hd h⟩
    · exact h.elim
  · exact h.elim
theorem o_neg : PrimUn X (unaryOp .USub) pNeg := by
  refine ⟨_, un_neg, fun s v c B Q hd hs h => ?_⟩
  unfold pNeg at h
  split at h
  · rename_i z; cases z
    exact ⟨_, rs_int hs, fin_int hd h⟩
  · exact h.elim
theorem o_add : PrimOp X (binaryOp .Add) pAdd := by
  refine ⟨_, OpR_or op_add (OpR_or op_add_str (OpR_or op_catA op_cat)), fun s t v u c B Q hd hs ht h => ?_⟩
  have h : FinP X.K X.mg c Q (addS B s t) := h
  unfold addS at h
  split at h
  · exact .inl ⟨_, _, rs_int hs, rs_int ht, fin_int hd h⟩
  · split at h
    · rename_i z
      exact .inr (.inl ⟨_, _, rs_str hs, rs_str ht, z, fin_str hd h⟩)
    · exact h.elim
  · split at h
    · rename_i xs ys _ z
      obtain ⟨a, vs, rfl, h1, h2⟩ := asT_ok (ss := xs.map S.dat) hs rfl
      obtain ⟨b, us, rfl, h3, h4⟩ := asT_ok (ss := ys.map S.dat) ht rfl
      have hs : Dq X.K c.G (.ref a) (.tuple xs) := hs
      have ht : Dq X.K c.G (.ref b) (.tuple ys) := ht
      have l1 : xs.length = vs.length := by have := paired_len h2; rwa [List.length_map] at this
      have l2 : ys.length = us.length := by have := paired_len h4; rwa [List.length_map] at this
      refine .inr (.inr (.inl ⟨a, b, vs, us, rfl, rfl, same_t hd.gh h1, same_t hd.gh h3, by omega, fun e => ?_, fun e1 e2 => ?_, fun e1 e2 p hp => ?_⟩))
      · have : xs = [] := List.eq_nil_of_length_eq_zero (by rw [l1, e]; rfl)
        subst this
        exact h c _ (Step.refl c) hd ht
      · have : ys = [] := List.eq_nil_of_length_eq_zero (by rw [l2, e2]; rfl)
        subst this
        exact h c _ (Step.refl c) hd (by rw [List.append_nil]; exact hs)
      · refine new_tup hd (dats_all (mg := X.mg) (ss := (xs ++ ys).map S.dat) (dats_map _) ?_) hp h
        rw [List.map_append]
        exact paired_app h2 h4
    · exact h.elim
  · obtain ⟨xs, e1, h⟩ := finP_bind h
    obtain ⟨ys, e2, h⟩ := finP_bind h
    obtain ⟨ds, e3, h⟩ := finP_bind h
    split at h
    · rename_i z
      obtain ⟨a, vs, rfl, h1, h2⟩ := asM_ok hd hs e1
      obtain ⟨b, us, rfl, h3, h4⟩ := asM_ok hd ht e2
      have l1 := paired_len h2
      have l2 := paired_len h4
      exact .inr (.inr (.inr ⟨a, b, vs, us, rfl, rfl, h1, h3, by omega, fun p hp => new_lst hd (dats_all e3 (paired_app h2 h4)) hp h⟩))
    · exact h.elim
end
end PN

set_option maxRecDepth 100000
set_option maxHeartbeats 4000000
/-! PN, tenth part: items, slices, built-in calls. -/
namespace PN
open PySem L2
/-! ### items -/
def itemS (B : Bs) (s : S) (i : Int) : Option S := match asL B s with
  | some ss => atI ss i
  | none => match asT s with
    | some ss => atI ss i
    | none => match s with
      | .dat (.str x) => if x.length ≤ sizeLine then (atI x.cps.toList i).map fun c => .dat (.str ⟨#[c]⟩) else none
      | _ => none
def pIx : GP
  | [s, .dat (.int i)], B => (itemS B s i).map fun t => (t, B)
  | _, _ => none
theorem paired_atI {α β : Type} {F : α → β → Prop} {xs : List α} {ys : List β} (h : Paired F xs ys) {i : Int} {x : α} (e : atI xs i = some x) : ∃ y, atI ys i = some y ∧ F x y := by
  unfold atI at e ⊢
  rw [← paired_len h]
  cases q : ixN xs.length i with
  | none => rw [q] at e; cases e
  | some j =>
    rw [q] at e
    obtain ⟨y, h1, h2⟩ := paired_get h (show xs[j]? = some x from e)
    exact ⟨y, h1, h2⟩
section
variable {X : Cx}
theorem x_ix : PrimIx X pIx := by
  refine ⟨_, ix_seq, fun s t v u c B Q hd hs ht h => ?_⟩
  cases t with
  | ref k => exact h.elim
  | fn x => exact h.elim
  | scr x => exact h.elim
  | dat d =>
  cases d with
  | none => exact h.elim
  | bool b => exact h.elim
  | str x => exact h.elim
  | list x => exact h.elim
  | tuple x => exact h.elim
  | dict x => exact h.elim
  | int i =>
  have h : FinP X.K X.mg c Q ((itemS B s i).map fun t => (t, B)) := h
  rw [rs_int ht]
  cases e : itemS B s i with
  | none => rw [e] at h; exact h.elim
  | some x =>
    rw [e] at h
    have h : ∀ c' v, Step c c' → Hold X.K X.mg c' B → RS X.K X.mg c' x v → Q v c'.H := h
    unfold itemS at e
    cases e1 : asL B s with
    | some ss =>
      rw [e1] at e
      obtain ⟨a, vs, rfl, h1, h2⟩ := asL_ok hd hs e1
      obtain ⟨y, h3, h4⟩ := paired_atI h2 e
      exact .inl ⟨a, vs, i, y, rfl, rfl, h1, h3, h c y (Step.refl c) hd h4⟩
    | none =>
      rw [e1] at e
      dsimp only at e
      cases e2 : asT s with
      | some ss =>
        rw [e2] at e
        obtain ⟨a, vs, rfl, h1, h2⟩ := asT_ok hs e2
        obtain ⟨y, h3, h4⟩ := paired_atI h2 e
        exact .inr (.inl ⟨a, vs, i, y, rfl, rfl, same_t hd.gh h1, h3, h c y (Step.refl c) hd h4⟩)
      | none =>
        rw [e2] at e
        dsimp only at e
        cases s with
        | dat d =>
          cases d with
          | str z =>
            dsimp only at e
            by_cases hz : z.length ≤ sizeLine
            · rw [if_pos hz] at e
              cases e3 : atI z.cps.toList i with
              | none => rw [e3] at e; cases e
              | some d =>
                rw [e3] at e
                cases e
                exact .inr (.inr ⟨z, i, d, rs_str hs, rfl, hz, e3, h c _ (Step.refl c) hd (.str _)⟩)
            · rw [if_neg hz] at e; cases e
          | _ => cases e
        | _ => cases e
end
/-! ### slices -/
def partD : S → Option (Option Int)
  | .dat .none => some none
  | .dat (.int i) => some (some i)
  | _ => none
def cutL {α : Type} (xs : List α) (lo hi : Option Int) : List α := (xs.drop (HT.sIx xs.length 0 lo)).take (HT.sIx xs.length xs.length hi - HT.sIx xs.length 0 lo)
def slV (B : Bs) (s : S) (lo hi : Option Int) : Option (S × Bs) := match s with
  | .dat (.tuple ds) => some (.dat (.tuple (cutL ds lo hi)), B)
  | .dat (.str x) => if x.length ≤ sizeLine then str' (cutS x lo hi) B else none
  | s => (asL B s).bind fun ss => (datsOf (cutL ss lo hi)).map fun ds => (.dat (.list ds), B)
def pSl : GP
  | [s, l, h], B => (partD l).bind fun lo => (partD h).bind fun hi => slV B s lo hi
  | _, _ => none
def gSl (ga gl gh : GE) : GE := gBind ga fun s => gBind gl fun l r B => match partD l with
  | some _ => gBind gh (fun h _ B => liftP (pSl [s, l, h] B)) r B
  | none => .bad
def gPart (g : GE) : GE := fun r B => match g r B with
  | .ok (.dat (.int i)) B1 => .ok (.dat (.int i)) B1
  | .exc x fs B1 => .exc x fs B1
  | _ => .bad
def rdO (K : PySem.W.Frag) (mg : Str → Option Value) (W : WX) (g : GE) : TO := fun σ H Q => rdE K mg W g σ H fun v H1 => match v with
  | .non => Q none H1
  | .int i => Q (some i) H1
  | _ => False
theorem SlR_or {X : Cx} {r r' : V → Option Int → Option Int → Hp → VK → Prop} (h : SlR X r) (h' : SlR X r') : SlR X (fun x lo hi H Q => r x lo hi H Q ∨ r' x lo hi H Q) := h.or h'
theorem paired_cut {α β : Type} {F : α → β → Prop} {xs : List α} {ys : List β} (h : Paired F xs ys) (lo hi : Option Int) : Paired F (cutL xs lo hi) (cutL ys lo hi) := by
  unfold cutL
  rw [paired_len h]
  have dr : ∀ {xs : List α} {ys : List β} (n : Nat), Paired F xs ys → Paired F (xs.drop n) (ys.drop n) := by
    intro xs ys n h
    induction n generalizing xs ys with
    | zero => exact h
    | succ n ih => cases h with
      | nil => exact .nil
      | cons a b => exact ih b
  have tk : ∀ {xs : List α} {ys : List β} (n : Nat), Paired F xs ys → Paired F (xs.take n) (ys.take n) := by
    intro xs ys n h
    induction n generalizing xs ys with
    | zero => exact .nil
    | succ n ih => cases h with
      | nil => exact .nil
      | cons a b => exact .cons a (ih b)
  exact tk _ (dr _ h)
section
variable {X : Cx} {W : WX} {pos p2 : Pos} {a : Expr} {lo hi : Option Expr} {ga gl gh : GE}
theorem po_no : PO X none (rdO X.K X.mg W (gC (.dat .none))) := ⟨fun pins s σ H Q I h => po_none.run pins s σ H Q I (by
  obtain ⟨r, B, c, rfl, hd, hr, h⟩ := h
  exact h c .non (Step.refl c) hd .non)⟩
theorem po_of (h : PE X a (rdE X.K X.mg W ga)) : PO X (some a) (rdO X.K X.mg W (gPart ga)) := ⟨fun pins s σ H Q I q => (po_some h).run pins s σ H Q I (by
  obtain ⟨r, B, c, rfl, hd, hr, q⟩ := q
  refine ⟨r, B, c, rfl, hd, hr, ?_⟩
  unfold gPart at q
  cases e : ga r B with
  | ok s B1 =>
    rw [e] at q
    cases s with
    | dat d =>
      cases d with
      | int i =>
        intro c' v st hd' hs
        have := rs_int hs
        subst this
        exact ⟨i, rfl, q c' (.int i) st hd' hs⟩
      | _ => exact q.elim
    | _ => exact q.elim
  | exc x fs B1 => rw [e] at q; exact q
  | bad => rw [e] at q; exact q)⟩
theorem sl_any : SlR X (fun x lo hi H Q => rSlL X.K x lo hi H Q ∨ rSlA X.K x lo hi H Q ∨ rSlS x lo hi H Q) := sl_list.or (sl_tupA.or sl_str)
theorem cutL_all {α : Type} {xs : List α} {lo hi : Option Int} (h : HT.sIx xs.length 0 lo = 0 ∧ HT.sIx xs.length xs.length hi = xs.length) : cutL xs lo hi = xs := by
  unfold cutL
  rw [h.1, h.2, List.drop_zero, Nat.sub_zero, List.take_length]
theorem sl_val {s : S} {v : V} {l u : S} {lo hi : Option Int} {c : Cf} {B : Bs} {Q : VK} (hd : Hold X.K X.mg c B) (hs : RS X.K X.mg c s v) (e1 : partD l = some lo) (e2 : partD u = some hi) (h : FinP X.K X.mg c Q (pSl [s, l, u] B)) :
    rSlL X.K v lo hi c.H Q ∨ rSlA X.K v lo hi c.H Q ∨ rSlS v lo hi c.H Q := by
  have lst : ∀ ss, asL B s = some ss → FinP X.K X.mg c Q ((datsOf (cutL ss lo hi)).map fun ds => (.dat (.list ds), B)) → rSlL X.K v lo hi c.H Q := fun ss e h => by
    obtain ⟨a, vs, rfl, h1, h2⟩ := asL_ok hd hs e
    cases e3 : datsOf (cutL ss lo hi) with
    | none => rw [e3] at h; exact h.elim
    | some ds =>
      rw [e3] at h
      exact ⟨a, vs, rfl, h1, fun p hp => new_lst hd (dats_all e3 (paired_cut h2 lo hi)) hp h⟩
  have h : FinP X.K X.mg c Q ((partD l).bind fun lo => (partD u).bind fun hi => slV B s lo hi) := h
  rw [e1, e2] at h
  have h : FinP X.K X.mg c Q (slV B s lo hi) := h
  clear e1 e2
  unfold slV at h
  split at h
  · rename_i ds _ _
    right; left
    obtain ⟨a, vs, rfl, h1, h2⟩ := asT_ok (ss := ds.map S.dat) hs rfl
    have hl : ds.length = vs.length := by have := paired_len h2; rwa [List.length_map] at this
    refine ⟨a, vs, rfl, same_t hd.gh h1, fun z => ?_, fun z p hp => ?_⟩
    · rw [← hl] at z
      rw [cutL_all z] at h
      exact h c _ (Step.refl c) hd hs
    · have q := paired_cut h2 lo hi
      have e : cutL (ds.map S.dat) lo hi = (cutL ds lo hi).map S.dat := by
        unfold cutL
        rw [List.length_map, List.map_take, List.map_drop]
      rw [e] at q
      exact new_tup hd (dats_all (mg := X.mg) (dats_map _) q) hp h
  · rename_i z _ _
    right; right
    split at h
    · rename_i hz
      exact ⟨z, rs_str hs, hz, fin_str hd h⟩
    · exact h.elim
  · left
    cases e : asL B s with
    | none => rw [e] at h; exact h.elim
    | some ss => rw [e] at h; exact lst ss e h
theorem r_sl (ha : PE X a (rdE X.K X.mg W ga)) (hl : PO X lo (rdO X.K X.mg W gl)) (hh : PO X hi (rdO X.K X.mg W gh)) : PE X (.Subscript a (.Slice lo hi none p2) pos) (rdE X.K X.mg W (gSl ga gl gh)) := by
  refine PE_le (pe_slice sl_any ha hl hh) fun σ H Q h => ?_
  refine rdE_mono (rd_one h) fun v H1 ⟨c, s, B, r, e, hd, hr, hs, h⟩ => ?_
  subst e
  refine rdE_mono (fin_bind hd hr h) fun v2 H2 ⟨c2, l, B2, e2, st2, hd2, hr2, hl2, h2⟩ => ?_
  subst e2
  have go : ∀ lo, partD l = some lo → Fin X.K X.mg W c2 σ Q (gBind gh (fun h _ B => liftP (pSl [s, l, h] B)) r B2) → rdO X.K X.mg W gh σ c2.H fun u H3 => (fun x lo hi H Q => rSlL X.K x lo hi H Q ∨ rSlA X.K x lo hi H Q ∨ rSlS x lo hi H Q) v lo u H3 Q := fun lo el h2 => by
    refine rdE_mono (fin_bind hd2 hr2 h2) fun v3 H3 ⟨c3, u, B3, e3, st3, hd3, hr3, hl3, h3⟩ => ?_
    subst e3
    have h3 := finP_of h3
    have hv := RS.mono (st2.trans st3) hs
    cases eu : partD u with
    | none =>
      have h3 : FinP X.K X.mg c3 Q ((partD l).bind fun lo => (partD u).bind fun hi => slV B3 s lo hi) := h3
      rw [el, eu] at h3
      exact h3.elim
    | some hi =>
      have q := sl_val hd3 hv el eu h3
      unfold partD at eu
      split at eu
      · cases eu; rw [rs_non hl3]; exact q
      · cases eu; rw [rs_int hl3]; exact q
      · cases eu
  cases el : partD l with
  | none => simp only [el] at h2; exact h2.elim
  | some lo =>
    simp only [el] at h2
    have q := go lo el h2
    unfold partD at el
    split at el
    · cases el; rw [rs_non hl2]; exact q
    · cases el; rw [rs_int hl2]; exact q
    · cases el
end
end PN

set_option maxRecDepth 100000
set_option maxHeartbeats 4000000
/-! PN, eleventh part: calls of built-ins and their methods. -/
namespace PN
open PySem L2
section
variable {X : Cx}
/-- of one argument -/
theorem call1 {b : Value} {f : GP} {R : List V → Hp → VK → Prop} (hc : CallR X b R) (hf : ∀ ss B, ss.length ≠ 1 → f ss B = none)
    (h : ∀ (s : S) (v : V) (c : Cf) (B : Bs) (Q : VK), Hold X.K X.mg c B → RS X.K X.mg c s v → FinP X.K X.mg c Q (f [s] B) → R [v] c.H Q) : PrimCall X b f := by
  refine ⟨R, hc, fun ss vs c B Q hd hs q => ?_⟩
  cases hs with
  | nil => rw [hf [] B (by decide)] at q; exact q.elim
  | cons a b =>
    cases b with
    | nil => exact h _ _ c B Q hd a q
    | cons a' b' => rw [hf _ B (by simp)] at q; exact q.elim
theorem call2 {b : Value} {f : GP} {R : List V → Hp → VK → Prop} (hc : CallR X b R) (hf : ∀ ss B, ss.length ≠ 2 → f ss B = none)
    (h : ∀ (s t : S) (v u : V) (c : Cf) (B : Bs) (Q : VK), Hold X.K X.mg c B → RS X.K X.mg c s v → RS X.K X.mg c t u → FinP X.K X.mg c Q (f [s, t] B) → R [v, u] c.H Q) : PrimCall X b f := by
  refine ⟨R, hc, fun ss vs c B Q hd hs q => ?_⟩
  cases hs with
  | nil => rw [hf [] B (by decide)] at q; exact q.elim
  | cons a b =>
    cases b with
    | nil => rw [hf _ B (by simp)] at q; exact q.elim
    | cons a' b' =>
      cases b' with
      | nil => exact h _ _ _ _ c B Q hd a a' q
      | cons a'' b'' => rw [hf _ B (by simp)] at q; exact q.elim
end
/-! ### len -/
def lenS (B : Bs) (s : S) : Option Nat := match asL B s with
  | some ss => some ss.length
  | none => match asT s with
    | some ss => some ss.length
    | none => match s with
      | .dat (.str x) => if x.length ≤ sizeLine then some x.length else none
      | _ => none
def one? (f : Bs → S → Option (S × Bs)) : GP
  | [s], B => f B s
  | _, _ => none
def two? (f : Bs → S → S → Option (S × Bs)) : GP
  | [s, t], B => f B s t
  | _, _ => none
theorem one_no {f : Bs → S → Option (S × Bs)} : ∀ ss B, ss.length ≠ 1 → one? f ss B = none
  | [], _, _ => rfl
  | [_], _, h => absurd rfl h
  | _ :: _ :: _, _, _ => rfl
theorem two_no {f : Bs → S → S → Option (S × Bs)} : ∀ ss B, ss.length ≠ 2 → two? f ss B = none
  | [], _, _ => rfl
  | [_], _, _ => rfl
  | [_, _], _, h => absurd rfl h
  | _ :: _ :: _ :: _, _, _ => rfl
def pLen : GP := one? fun B s => (lenS B s).bind fun n => int' (n : Int) B
/-! str, int -/
def strS (B : Bs) (s : S) : Option (S × Bs) := match s with
  | .dat (.int i) => if i.natAbs.log2 < 1920 then str' (toString i) B else none
  | _ => none
def pStr : GP := one? strS
def intS (B : Bs) (s : S) : Option (S × Bs) := match s with
  | .dat (.int i) => int' i B
  | .dat (.bool b) => int' (if b then 1 else 0) B
  | .dat (.str x) => if x.length ≤ 640 then (PySem.intText? x).bind fun n => int' n B else none
  | _ => none
def pInt : GP := one? intS
def minS (B : Bs) (s t : S) : Option (S × Bs) := match s, t with
  | .dat (.int i), .dat (.int j) => int' (if j < i then j else i) B
  | _, _ => none
def pMin2 : GP := two? minS
def maxS (B : Bs) (s t : S) : Option (S × Bs) := match s, t with
  | .dat (.int i), .dat (.int j) => int' (if j > i then j else i) B
  | _, _ => none
def pMax2 : GP := two? maxS
def absS (B : Bs) (s : S) : Option (S × Bs) := match s with
  | .dat (.int i) => int' (if i < 0 then -i else i) B
  | _ => none
def pAbs : GP := one? absS
def tupS (B : Bs) (s : S) : Option (S × Bs) := match s with
  | .dat (.tuple ds) => some (.dat (.tuple ds), B)
  | s => (asL B s).bind fun ss => (datsOf ss).map fun ds => (.dat (.tuple ds), B)
def pTupleOf : GP := one? tupS
def asQ (B : Bs) (s : S) : Option (List S) := match asL B s with
  | some ss => some ss
  | none => asT s
def pListOf : GP := one? fun B s => (asQ B s).bind fun ss => (datsOf ss).map fun ds => (.dat (.list ds), B)
def pListOfA : GP := one? fun B s => (asQ B s).bind fun ss => some (.ref B.length, B ++ [some (.lst ss)])
def intsOf : List S → Option (List Int)
  | [] => some []
  | .dat (.int i) :: r => (intsOf r).map (i :: ·)
  | _ :: _ => none
def boolsOf : List S → Option (List Bool)
  | [] => some []
  | .dat (.bool i) :: r => (boolsOf r).map (i :: ·)
  | _ :: _ => none
def strsOf : List S → Option (List Str)
  | [] => some []
  | .dat (.str i) :: r => (strsOf r).map (i :: ·)
  | _ :: _ => none
def pSum : GP := one? fun B s => (asL B s).bind fun ss => (intsOf ss).bind fun ns => int' ns.sum B
def pAll : GP := one? fun B s => (asL B s).bind fun ss => (boolsOf ss).bind fun bs => bool' (bs.all id) B
def pAny : GP := one? fun B s => (asL B s).bind fun ss => (boolsOf ss).bind fun bs => bool' (bs.any id) B
def pRepr : GP := one? fun B s => (valD B s).bind fun d => if d.showable = true ∧ d.shown.length ≤ sizeLine ∧ d.depth ≤ 64 ∧ d.hasDict = false then str' d.shown B else none
section
variable {K : PySem.W.Frag} {mg : Str → Option Value} {c : Cf}
theorem intsOf_ok : ∀ {ss : List S} {ns : List Int} {vs : List V}, intsOf ss = some ns → Paired (RS K mg c) ss vs → vs = ns.map V.int
  | [], _, _, h, .nil => by cases h; rfl
  | .dat (.int i) :: r, _, _, h, .cons a b => by
    have h : (intsOf r).map (i :: ·) = some _ := h
    cases e : intsOf r with
    | none => rw [e] at h; cases h
    | some ns => rw [e] at h; cases h; rw [rs_int a, intsOf_ok e b]; rfl
theorem boolsOf_ok : ∀ {ss : List S} {ns : List Bool} {vs : List V}, boolsOf ss = some ns → Paired (RS K mg c) ss vs → vs = ns.map V.bl
  | [], _, _, h, .nil => by cases h; rfl
  | .dat (.bool i) :: r, _, _, h, .cons a b => by
    have h : (boolsOf r).map (i :: ·) = some _ := h
    cases e : boolsOf r with
    | none => rw [e] at h; cases h
    | some ns => rw [e] at h; cases h; rw [rs_bool a, boolsOf_ok e b]; rfl
theorem strsOf_ok : ∀ {ss : List S} {ns : List Str} {vs : List V}, strsOf ss = some ns → Paired (RS K mg c) ss vs → vs = ns.map V.str
  | [], _, _, h, .nil => by cases h; rfl
  | .dat (.str i) :: r, _, _, h, .cons a b => by
    have h : (strsOf r).map (i :: ·) = some _ := h
    cases e : strsOf r with
    | none => rw [e] at h; cases h
    | some ns => rw [e] at h; cases h; rw [rs_str a, strsOf_ok e b]; rfl
theorem asQ_ok {B : Bs} {s : S} {v : V} {ss : List S} (hd : Hold K mg c B) (h : RS K mg c s v) (e : asQ B s = some ss) : ∃ a vs, v = .ref a ∧ (SqL K c.H a vs ∨ SqT K c.H a vs) ∧ Paired (RS K mg c) ss vs := by
  unfold asQ at e
  cases e1 : asL B s with
  | some s1 =>
    rw [e1] at e; cases e
    obtain ⟨a, vs, h1, h2, h3⟩ := asL_ok hd h e1
    exact ⟨a, vs, h1, .inl h2, h3⟩
  | none =>
    rw [e1] at e
    obtain ⟨a, vs, h1, h2, h3⟩ := asT_ok h e
    exact ⟨a, vs, h1, .inr (same_t hd.gh h2), h3⟩
end
section
variable {X : Cx}
theorem b_len : PrimCall X (.builtin "len") pLen := by
  refine call1 (CallR_or call_len_seq call_len_str) one_no fun s v c B Q hd hs h => ?_
  obtain ⟨n, e, h⟩ := finP_bind (show FinP X.K X.mg c Q ((lenS B s).bind fun n => int' (n : Int) B) from h)
  have q := fin_int hd h
  unfold lenS at e
  cases e1 : asL B s with
  | some ss =>
    rw [e1] at e
    cases e
    obtain ⟨a, vs, rfl, h1, h2⟩ := asL_ok hd hs e1
    exact .inl ⟨a, vs, rfl, .inl h1, by rw [← paired_len h2]; exact q⟩
  | none =>
    rw [e1] at e
    dsimp only at e
    cases e2 : asT s with
    | some ss =>
      rw [e2] at e
      cases e
      obtain ⟨a, vs, rfl, h1, h2⟩ := asT_ok hs e2
      exact .inl ⟨a, vs, rfl, .inr (same_t hd.gh h1), by rw [← paired_len h2]; exact q⟩
    | none =>
      rw [e2] at e
      dsimp only at e
      split at e
      · rename_i x
        split at e
        · rename_i z
          cases e
          exact .inr ⟨x, by rw [rs_str hs], z, q⟩
        · cases e
      · cases e
theorem b_str : PrimCall X (.type "str") pStr := by
  refine call1 call_str_int one_no fun s v c B Q hd hs h => ?_
  have h : FinP X.K X.mg c Q (strS B s) := h
  unfold strS at h
  split at h
  · split at h
    · rename_i z
      exact ⟨_, by rw [rs_int hs], z, fin_str hd h⟩
    · exact h.elim
  · exact h.elim
theorem b_int : PrimCall X (.type "int") pInt := by
  refine call1 (CallR_or call_int1 call_int_str) one_no fun s v c B Q hd hs h => ?_
  have h : FinP X.K X.mg c Q (intS B s) := h
  unfold intS at h
  split at h
  · exact .inl (.inl ⟨_, by rw [rs_int hs], fin_int hd h⟩)
  · exact .inl (.inr ⟨_, by rw [rs_bool hs], fin_int hd h⟩)
  · split at h
    · rename_i z
      obtain ⟨n, e, h⟩ := finP_bind h
      exact .inr ⟨_, n, by rw [rs_str hs], e, z, fin_int hd h⟩
    · exact h.elim
  · exact h.elim
theorem b_min2 (hc : X.calm = true) : PrimCall X (.builtin "min") pMin2 := by
  refine call2 (call_min2 hc) two_no fun s t v u c B Q hd hs ht h => ?_
  have h : FinP X.K X.mg c Q (minS B s t) := h
  unfold minS at h
  split at h
  · exact ⟨_, _, by rw [rs_int hs, rs_int ht], fin_int hd h⟩
  · exact h.elim
theorem b_max2 (hc : X.calm = true) : PrimCall X (.builtin "max") pMax2 := by
  refine call2 (call_max2 hc) two_no fun s t v u c B Q hd hs ht h => ?_
  have h : FinP X.K X.mg c Q (maxS B s t) := h
  unfold maxS at h
  split at h
  · exact ⟨_, _, by rw [rs_int hs, rs_int ht], fin_int hd h⟩
  · exact h.elim
theorem b_abs : PrimCall X (.builtin "abs") pAbs := by
  refine call1 call_abs one_no fun s v c B Q hd hs h => ?_
  have h : FinP X.K X.mg c Q (absS B s) := h
  unfold absS at h
  split at h
  · exact ⟨_, by rw [rs_int hs], fin_int hd h⟩
  · exact h.elim
theorem b_tuple : PrimCall X (.type "tuple") pTupleOf := by
  refine call1 call_tuple_of one_no fun s v c B Q hd hs h => ?_
  have h : FinP X.K X.mg c Q (tupS B s) := h
  unfold tupS at h
  split at h
  · rename_i ds _
    obtain ⟨a, vs, rfl, h1, h2⟩ := asT_ok (ss := ds.map S.dat) hs rfl
    exact ⟨a, vs, rfl, .inr ⟨same_t hd.gh h1, h c _ (Step.refl c) hd hs⟩⟩
  · obtain ⟨ss, e, h⟩ := finP_bind h
    obtain ⟨a, vs, rfl, h1, h2⟩ := asL_ok hd hs e
    cases e2 : datsOf ss with
    | none => rw [e2] at h; exact h.elim
    | some ds =>
      rw [e2] at h
      exact ⟨a, vs, rfl, .inl ⟨h1, fun p hp => new_tup hd (dats_all e2 h2) hp h⟩⟩
theorem b_list : PrimCall X (.type "list") pListOf := by
  refine call1 call_list_of one_no fun s v c B Q hd hs h => ?_
  obtain ⟨ss, e, h⟩ := finP_bind (show FinP X.K X.mg c Q ((asQ B s).bind fun ss => (datsOf ss).map fun ds => (.dat (.list ds), B)) from h)
  obtain ⟨a, vs, rfl, h1, h2⟩ := asQ_ok hd hs e
  cases e2 : datsOf ss with
  | none => rw [e2] at h; exact h.elim
  | some ds =>
    rw [e2] at h
    exact ⟨a, vs, rfl, h1, fun p hp => new_lst hd (dats_all e2 h2) hp h⟩
theorem b_listA : PrimCall X (.type "list") pListOfA := by
  refine call1 call_list_of one_no fun s v c B Q hd hs h => ?_
  obtain ⟨ss, e, h⟩ := finP_bind (show FinP X.K X.mg c Q ((asQ B s).bind fun ss => some (.ref B.length, B ++ [some (.lst ss)])) from h)
  obtain ⟨a, vs, rfl, h1, h2⟩ := asQ_ok hd hs e
  exact ⟨a, vs, rfl, h1, fun p hp => new_lstA hd h2 hp h⟩
theorem b_sum (hc : X.calm = true) : PrimCall X (.builtin "sum") pSum := by
  refine call1 (cr_sum hc) one_no fun s v c B Q hd hs h => ?_
  obtain ⟨ss, e, h⟩ := finP_bind (show FinP X.K X.mg c Q ((asL B s).bind fun ss => (intsOf ss).bind fun ns => int' ns.sum B) from h)
  obtain ⟨ns, e2, h⟩ := finP_bind h
  obtain ⟨a, vs, rfl, h1, h2⟩ := asL_ok hd hs e
  exact ⟨a, ns, rfl, by rw [← intsOf_ok e2 h2]; exact h1, fin_int hd h⟩
theorem b_all (hc : X.calm = true) : PrimCall X (.builtin "all") pAll := by
  refine call1 (cr_all hc) one_no fun s v c B Q hd hs h => ?_
  obtain ⟨ss, e, h⟩ := finP_bind (show FinP X.K X.mg c Q ((asL B s).bind fun ss => (boolsOf ss).bind fun bs => bool' (bs.all id) B) from h)
  obtain ⟨ns, e2, h⟩ := finP_bind h
  obtain ⟨a, vs, rfl, h1, h2⟩ := asL_ok hd hs e
  exact ⟨a, ns, rfl, by rw [← boolsOf_ok e2 h2]; exact h1, fin_bool hd h⟩
theorem b_any (hc : X.calm = true) : PrimCall X (.builtin "any") pAny := by
  refine call1 (cr_any hc) one_no fun s v c B Q hd hs h => ?_
  obtain ⟨ss, e, h⟩ := finP_bind (show FinP X.K X.mg c Q ((asL B s).bind fun ss => (boolsOf ss).bind fun bs => bool' (bs.any id) B) from h)
  obtain ⟨ns, e2, h⟩ := finP_bind h
  obtain ⟨a, vs, rfl, h1, h2⟩ := asL_ok hd hs e
  exact ⟨a, ns, rfl, by rw [← boolsOf_ok e2 h2]; exact h1, fin_bool hd h⟩
def rReprD (K : PySem.W.Frag) : List V → Hp → VK → Prop := fun xs H Q => ∃ x d, xs = [x] ∧ Dp K H x d ∧ d.showable = true ∧ d.shown.length ≤ sizeLine ∧ d.depth ≤ 64 ∧ Q (.str d.shown) H
mutual
theorem noDict {K : PySem.W.Frag} {H : Hp} : ∀ (d : PyData) (v : V), Dp K H v d → d.hasDict = false
  | .none, _, _ => rfl
  | .bool _, _, _ => rfl
  | .int _, _, _ => rfl
  | .str _, _, _ => rfl
  | .list ds, _, h => by
    cases h with
    | lst _ h2 => rw [PyData.hasDict]; exact noDictAll ds _ h2
  | .tuple ds, _, h => by
    cases h with
    | tup _ h2 => rw [PyData.hasDict]; exact noDictAll ds _ h2
  | .dict _, _, h => by cases h
theorem noDictAll {K : PySem.W.Frag} {H : Hp} : ∀ (ds : List PyData) (vs : List V), DpAll K H vs ds → PyData.hasDictAll ds = false
  | [], _, _ => rfl
  | d :: ds, _, h => by
    cases h with
    | cons h1 h2 => rw [PyData.hasDictAll, noDict d _ h1, noDictAll ds _ h2]; rfl
end
theorem cr_repr (hg : X.A.guards = some []) (hu : X.A.units + 66 < cLine) : CallR X (.builtin "repr") (rReprD X.K) := by
  intro pins s σ H xs us Q I r h
  obtain ⟨x, d, rfl, hx, h1, h2, h3, q⟩ := h
  cases r with
  | cons r1 r2 =>
  cases r2
  rename_i u
  obtain ⟨as, rd⟩ := Dp.reads I d x u hx r1
  have nd := noDict d x hx
  have big : ∀ a, u = .ref a → wpAny (model X.prog X.w) X.A (call (.builtin "repr") [u]) (EP X pins σ Q) X.xe s := fun a e => by
    subst e
    exact repr_of_reads' rd h1 (PyData.noDict_hsm nd) hg (by omega) (fun _ _ q => q) (fun h' t k kk => ⟨.str d.shown, H, I.kept kk, ⟨_, rfl⟩, q⟩) h2
  cases hx with
  | non =>
    cases r1
    exact PySem.P.repr_of_none ⟨.str "None", H, I.tok _, ⟨_, rfl⟩, q⟩
  | bl b =>
    cases r1
    exact PySem.P.repr_of_bool ⟨.str (if b then "True" else "False"), H, I.tok _, ⟨_, rfl⟩, by cases b <;> exact q⟩
  | int i =>
    obtain ⟨t, rfl⟩ := r1
    exact PySem.P.repr_of_int (of_decide_eq_true h1) ⟨.str (toString i), H, I.tok _, ⟨_, rfl⟩, q⟩
  | str z =>
    obtain ⟨t, rfl⟩ := r1
    exact PySem.P.repr_of_str ⟨.str (reprText z), H, I.tok _, ⟨_, rfl⟩, q⟩ h2
  | lst a b => exact big _ r1
  | tup a b => exact big _ r1
theorem b_repr (hg : X.A.guards = some []) (hu : X.A.units + 66 < cLine) : PrimCall X (.builtin "repr") pRepr := by
  refine call1 (cr_repr hg hu) one_no fun s v c B Q hd hs h => ?_
  obtain ⟨d, e, h⟩ := finP_bind (show FinP X.K X.mg c Q ((valD B s).bind fun d => if d.showable = true ∧ d.shown.length ≤ sizeLine ∧ d.depth ≤ 64 ∧ d.hasDict = false then str' d.shown B else none) from h)
  split at h
  · rename_i z
    exact ⟨v, d, rfl, valP_ok hd hs e z.2.2.2, z.1, z.2.1, z.2.2.1, fin_str hd h⟩
  · exact h.elim
end
end PN

set_option maxRecDepth 100000
set_option maxHeartbeats 4000000
/-! PN, twelfth part: methods of lists and texts, stores into lists, isinstance. -/
namespace PN
open PySem L2
/-- a text (true), a list (false) -/
def isK (k : Bool) (B : Bs) (s : S) : Bool := match k with
  | true => (match s with | .dat (.str _) => true | _ => false)
  | false => (asL B s).isSome
def kindN (k : Bool) : String := if k then "str" else "list"
def gMt (k : Bool) (f : GP) (go : GE) (ga : GA) : GE := gBind go fun s r B => if isK k B s = true then gBindA ga (fun ss _ B2 => liftP (f (s :: ss) B2)) r B else .bad
def PrimMt (X : Cx) (id : String) (f : GP) : Prop := ∃ r, MtR X id r ∧ ∀ (s : S) (ss : List S) (v : V) (vs : List V) (c : Cf) (B : Bs) (Q : VK), Hold X.K X.mg c B → RS X.K X.mg c s v → Paired (RS X.K X.mg c) ss vs → FinP X.K X.mg c Q (f (s :: ss) B) → r v vs c.H Q
theorem isK_ty {K : PySem.W.Frag} {mg : Str → Option Value} {c : Cf} {B : Bs} {k : Bool} {s : S} {v : V} (hd : Hold K mg c B) (hs : RS K mg c s v) (h : isK k B s = true) : tyV K (kindN k) v c.H := by
  cases k with
  | true =>
    unfold isK at h
    dsimp only at h
    split at h
    · rw [rs_str hs]; rfl
    · cases h
  | false =>
    have h : (asL B s).isSome = true := h
    obtain ⟨ss, e⟩ := Option.isSome_iff_exists.mp h
    obtain ⟨a, vs, rfl, h1, _⟩ := asL_ok hd hs e
    exact .inl ⟨rfl, vs, h1⟩
section
variable {X : Cx} {W : WX} {apos cpos : Pos} {o e : Expr} {es : List Expr} {go : GE} {ga : GA} {f : GP} {id : String} {name : Str}
theorem r_mt {k : Bool} (pa : PlainAttrs (kindN k)) (slot : Slot (kindN k) name id) (hty : typeOf (.builtin id) = pure (.type "method_descriptor")) (hm : PrimMt X id f) (ho : PE X o (rdE X.K X.mg W go)) (ha : PA X (e :: es) (rdA X.K X.mg W ga))
    (hbase : attributeBase o name X.env (eval o X.env) = eval o X.env)
    (hfew : ((backTo cpos (starEach (e :: es) X.env)).all (fun x => !x.1) && (backToKw cpos (keywordEach [] X.env)).all (fun x => x.1.isSome)
      && decide ((e :: es).length + ([] : List Keyword).length + (if ([] : List Keyword).isEmpty then 0 else 1) < 30)) = true)
    (hline : (apos.endLine == cpos.line) = true) (hs : starEach (e :: es) X.env = (false, eval e X.env) :: starEach es X.env) (hplain : (backTo cpos (starEach es X.env)).any (·.1) = false) :
    PE X (.Call (.Attribute o name apos) (e :: es) [] cpos) (rdE X.K X.mg W (gMt k f go ga)) := by
  obtain ⟨r, hr, hp⟩ := hm
  refine PE_le (pe_bm pa slot hty hr ho ha hbase hfew hline hs hplain) fun σ H Q h => rdE_mono (rd_one h) fun v H1 ⟨c, s, B, ρ, e, hd, hr, hs, h⟩ => ?_
  subst e
  by_cases q : isK k B s = true
  · rw [if_pos q] at h
    refine ⟨isK_ty hd hs q, rdA_mono (fin_bindA hd hr h) fun vs H2 ⟨c2, ss, B2, e2, st2, hd2, hr2, hs2, h2⟩ => ?_⟩
    subst e2
    exact hp s ss v vs c2 B2 Q hd2 (RS.mono st2 hs) hs2 (finP_of h2)
  · rw [if_neg q] at h; exact h.elim
theorem r_mt0 {k : Bool} (pa : PlainAttrs (kindN k)) (slot : Slot (kindN k) name id) (hty : typeOf (.builtin id) = pure (.type "method_descriptor")) (hm : PrimMt X id f) (ho : PE X o (rdE X.K X.mg W go))
    (hbase : attributeBase o name X.env (eval o X.env) = eval o X.env) (hline : (apos.endLine == cpos.line) = true) :
    PE X (.Call (.Attribute o name apos) [] [] cpos) (rdE X.K X.mg W (gMt k f go gNil)) := by
  obtain ⟨r, hr, hp⟩ := hm
  refine PE_le (pe_bm0 pa slot hty hr ho hbase hline) fun σ H Q h => rdE_mono (rd_one h) fun v H1 ⟨c, s, B, ρ, e, hd, hr, hs, h⟩ => ?_
  subst e
  by_cases q : isK k B s = true
  · rw [if_pos q] at h
    exact ⟨isK_ty hd hs q, hp s [] v [] c B Q hd hs .nil (finP_of h)⟩
  · rw [if_neg q] at h; exact h.elim
end
/-! ### lists -/
/-- the list at a place -/
def atM (B : Bs) (k : Nat) : Option (List S) := match B[k]? with
  | some (some (.lst ss)) => some ss
  | _ => none
def pAppend : GP
  | [.ref k, x], B => (atM B k).bind fun ss => if ss.length < sizeLine then some (.dat .none, B.set k (some (.lst (ss ++ [x])))) else none
  | _, _ => none
def pExtend : GP
  | [.ref k, y], B => (atM B k).bind fun ss => (asM B y).bind fun zs => if ss.length + zs.length ≤ sizeLine then some (.dat .none, B.set k (some (.lst (ss ++ zs)))) else none
  | _, _ => none
def pPop : GP
  | [.ref k], B => (atM B k).bind fun ss => (ss[ss.length - 1]?).bind fun x => some (x, B.set k (some (.lst ss.dropLast)))
  | _, _ => none
def pSetL (B : Bs) (o i v : S) : Option Bs := match o, i with
  | .ref k, .dat (.int n) => (atM B k).bind fun ss => (ixN ss.length n).bind fun j => some (B.set k (some (.lst (ss.set j v))))
  | _, _ => none
theorem atM_ok {K : PySem.W.Frag} {mg : Str → Option Value} {c : Cf} {B : Bs} {k : Nat} {v : V} {ss : List S} (hd : Hold K mg c B) (hs : RS K mg c (.ref k) v) (e : atM B k = some ss) :
    ∃ a vs, v = .ref a ∧ c.al[k]? = some a ∧ c.H a = some (.lst vs) ∧ Paired (RS K mg c) ss vs ∧ B[k]? = some (some (.lst ss)) := by
  unfold atM at e
  obtain ⟨a, h1, h2⟩ := hs
  cases q : B[k]? with
  | none => rw [q] at e; cases e
  | some o =>
    cases o with
    | none => rw [q] at e; cases e
    | some mo =>
      rw [q] at e
      cases mo with
      | lst ss' =>
        cases e
        obtain ⟨a', ho, g1, g2, g3, g4⟩ := hd.ob k _ q
        have ea : a' = a := Option.some.inj (g1.symm.trans h1)
        subst ea
        cases ho with
        | lst vs => exact ⟨a', vs, h2, h1, g3, g4, rfl⟩
        | _ => exact g4.elim
      | _ => cases e
theorem paired_last {α β : Type} {F : α → β → Prop} : ∀ {xs : List α} {ys : List β}, Paired F xs ys → Paired F xs.dropLast ys.dropLast
  | _, _, .nil => .nil
  | _, _, .cons a .nil => .nil
  | _, _, .cons a (.cons b t) => .cons a (paired_last (.cons b t))
theorem paired_set {α β : Type} {F : α → β → Prop} {x : α} {y : β} (h : F x y) : ∀ {xs : List α} {ys : List β} (j : Nat), Paired F xs ys → Paired F (xs.set j x) (ys.set j y)
  | _, _, _, .nil => .nil
  | _, _, 0, .cons a t => .cons h t
  | _, _, j + 1, .cons a t => .cons a (paired_set h j t)
section
variable {X : Cx}
theorem m_append : PrimMt X "list.append" pAppend := by
  refine ⟨_, mt_append, fun s ss v vs c B Q hd hs hss h => ?_⟩
  cases s with
  | ref k =>
    cases hss with
    | nil => exact h.elim
    | cons a b =>
      cases b with
      | cons _ _ => exact h.elim
      | nil =>
        rename_i x y
        obtain ⟨xs, e, h⟩ := finP_bind (show FinP X.K X.mg c Q ((atM B k).bind fun ss => if ss.length < sizeLine then some (.dat .none, B.set k (some (.lst (ss ++ [x])))) else none) from h)
        split at h
        · rename_i z
          obtain ⟨p, us, rfl, h1, h2, h3, h4⟩ := atM_ok hd hs e
          refine ⟨p, us, y, rfl, rfl, h2, by rw [← paired_len h3]; exact z, ?_⟩
          exact h ⟨c.al, c.G, upd c.H p (.lst (us ++ [y]))⟩ .non (put_step (List.mem_of_getElem? h1)) (put_hold hd h4 h1 (paired_app h3 (.cons a .nil))) .non
        · exact h.elim
  | _ => exact h.elim
theorem m_extend : PrimMt X "list.extend" pExtend := by
  refine ⟨_, mt_extend, fun s ss v vs c B Q hd hs hss h => ?_⟩
  cases s with
  | ref k =>
    cases hss with
    | nil => exact h.elim
    | cons a b =>
      cases b with
      | cons _ _ => exact h.elim
      | nil =>
        rename_i x y
        obtain ⟨xs, e, h⟩ := finP_bind (show FinP X.K X.mg c Q ((atM B k).bind fun ss => (asM B x).bind fun zs => if ss.length + zs.length ≤ sizeLine then some (.dat .none, B.set k (some (.lst (ss ++ zs)))) else none) from h)
        obtain ⟨zs, e2, h⟩ := finP_bind h
        split at h
        · rename_i z
          obtain ⟨p, us, rfl, h1, h2, h3, h4⟩ := atM_ok hd hs e
          obtain ⟨q, ws, rfl, g1, g2⟩ := asM_ok hd a e2
          refine ⟨p, q, us, ws, rfl, rfl, h2, g1, by rw [← paired_len h3, ← paired_len g2]; exact z, ?_⟩
          exact h ⟨c.al, c.G, upd c.H p (.lst (us ++ ws))⟩ .non (put_step (List.mem_of_getElem? h1)) (put_hold hd h4 h1 (paired_app h3 g2)) .non
        · exact h.elim
  | _ => exact h.elim
theorem m_pop : PrimMt X "list.pop" pPop := by
  refine ⟨_, mt_pop, fun s ss v vs c B Q hd hs hss h => ?_⟩
  cases s with
  | ref k =>
    cases hss with
    | cons _ _ => exact h.elim
    | nil =>
      obtain ⟨xs, e, h⟩ := finP_bind (show FinP X.K X.mg c Q ((atM B k).bind fun ss => (ss[ss.length - 1]?).bind fun x => some (x, B.set k (some (.lst ss.dropLast)))) from h)
      obtain ⟨x, e2, h⟩ := finP_bind h
      obtain ⟨p, us, rfl, h1, h2, h3, h4⟩ := atM_ok hd hs e
      obtain ⟨y, g1, g2⟩ := paired_get h3 e2
      refine ⟨p, us, y, rfl, rfl, h2, by rw [← paired_len h3]; exact g1, ?_⟩
      exact h ⟨c.al, c.G, upd c.H p (.lst us.dropLast)⟩ y (put_step (List.mem_of_getElem? h1)) (put_hold hd h4 h1 (paired_last h3)) (RS.heap g2)
  | _ => exact h.elim
end
/-- o[i] = e -/
def sSetI (ge go gi : GE) : GS := fun r B => match ge r B with
  | .ok v B1 => (match go r B1 with
    | .ok o B2 => (match gi r B2 with
      | .ok i B3 => (match pSetL B3 o i v with | some B4 => .nx r B4 | none => .bad)
      | .exc x fs B3 => .exc x fs r B3
      | .bad => .bad)
    | .exc x fs B2 => .exc x fs r B2
    | .bad => .bad)
  | .exc x fs B1 => .exc x fs r B1
  | .bad => .bad
section
variable {X : Cx} {W : WX} {pos p2 : Pos} {e o i : Expr} {ge go gi : GE}
theorem s_seti (he : PE X e (rdE X.K X.mg W ge)) (ho : PE X o (rdE X.K X.mg W go)) (hi : PE X i (rdE X.K X.mg W gi))
    (ha : ∀ v, assign (.Subscript o i p2) X.env v = (do
      let ov ← holding [v] (eval o X.env)
      let iv ← holding [v, ov] (eval i X.env)
      standAt p2
      holding [v, ov, iv] (setItem ov iv v)
      release [v, ov, iv] []))
    (hs : swapsWithSole [.Subscript o i p2] e pos.line X.env = pure false) (hw : swappedStores [.Subscript o i p2] e X.env = pure none) (h1 : (assignEach [.Subscript o i p2] X.env).map (·.2) = [assign (.Subscript o i p2) X.env]) :
    PS X (.Assign [.Subscript o i p2] e pos) (rdS X.K X.mg W (sSetI ge go gi)) := by
  refine PS_le (ps_asg he (pg_sub ho hi set_list ha) hs hw h1) fun D σ H h => ?_
  obtain ⟨r, B, c, rfl, hd, hr, h⟩ := h
  refine ⟨r, B, c, rfl, hd, hr, ?_⟩
  unfold sSetI at h
  cases e1 : ge r B with
  | exc x fs B1 => rw [e1] at h; exact fun c' C d ws st hd' => h c' σ C d ws st hd' (hr.mono st)
  | bad => rw [e1] at h; exact h
  | ok v B1 =>
  rw [e1] at h
  intro c1 v1 st1 hd1 hs1
  refine ⟨r, B1, c1, rfl, hd1, hr.mono st1, ?_⟩
  have h := FinS.step st1 h
  dsimp only at h
  have hr1 := hr.mono st1
  cases e2 : go r B1 with
  | exc x fs B2 => rw [e2] at h; exact fun c' C d ws st hd' => h c' σ C d ws st hd' (hr1.mono st)
  | bad => rw [e2] at h; exact h
  | ok o2 B2 =>
  rw [e2] at h
  intro c2 v2 st2 hd2 hs2
  refine ⟨r, B2, c2, rfl, hd2, hr1.mono st2, ?_⟩
  have h := FinS.step st2 h
  dsimp only at h
  have hr2 := hr1.mono st2
  cases e3 : gi r B2 with
  | exc x fs B3 => rw [e3] at h; exact fun c' C d ws st hd' => h c' σ C d ws st hd' (hr2.mono st)
  | bad => rw [e3] at h; exact h
  | ok i3 B3 =>
  rw [e3] at h
  intro c3 v3 st3 hd3 hs3
  have h := FinS.step st3 h
  dsimp only at h
  cases e4 : pSetL B3 o2 i3 v with
  | none => rw [e4] at h; exact h.elim
  | some B4 =>
    rw [e4] at h
    unfold pSetL at e4
    split at e4
    · rename_i k n _
      cases e5 : atM B3 k with
      | none => rw [e5] at e4; cases e4
      | some ss =>
        rw [e5] at e4
        have e4 : ((ixN ss.length n).bind fun j => some (B3.set k (some (.lst (ss.set j v))))) = some B4 := e4
        cases e6 : ixN ss.length n with
        | none => rw [e6] at e4; cases e4
        | some j =>
          rw [e6] at e4
          cases e4
          obtain ⟨p, us, rfl, g1, g2, g3, g4⟩ := atM_ok hd3 (RS.mono st3 hs2) e5
          refine ⟨p, us, n, j, rfl, rs_int hs3, g2, by rw [← paired_len g3]; exact e6, ?_⟩
          exact h ⟨c3.al, c3.G, upd c3.H p (.lst (us.set j v1))⟩ σ (put_step (List.mem_of_getElem? g1)) (put_hold hd3 g4 g1 (paired_set (RS.mono (st2.trans st3) hs1) j g3)) (RE.mono (put_step (List.mem_of_getElem? g1)) (hr2.mono st3))
    · cases e4
end
/-! ### texts -/
def splitS (B : Bs) (s t : S) : Option (S × Bs) := match s, t with
  | .dat (.str a), .dat (.str b) => if (b.length == 0) = false ∧ a.length + 2 ≤ sizeLine then some (.dat (.list ((Txt.split a b).map .str)), B) else none
  | _, _ => none
def partS (B : Bs) (s t : S) : Option (S × Bs) := match s, t with
  | .dat (.str a), .dat (.str b) => if (b.length == 0) = false ∧ a.length ≤ sizeLine then some (.dat (.tuple [.str (Txt.partition a b).1, .str (Txt.partition a b).2.1, .str (Txt.partition a b).2.2]), B) else none
  | _, _ => none
def joinS (B : Bs) (s t : S) : Option (S × Bs) := match s with
  | .dat (.str a) => (asQ B t).bind fun ss => (strsOf ss).bind fun ys => if (ys.map (·.length)).sum + ys.length * a.length ≤ 16777216 then str' (Txt.join a ys) B else none
  | _ => none
def pSplit : GP := two? splitS
def pPartition : GP := two? partS
def pJoin : GP := two? joinS
theorem all_strs {K : PySem.W.Frag} {H : Hp} : ∀ xs : List Str, DqAll K H (xs.map V.str) (xs.map PyData.str)
  | [] => .nil
  | x :: xs => .cons (.str x) (all_strs xs)
section
variable {X : Cx}
theorem meth1 {id : String} {f : Bs → S → S → Option (S × Bs)} {r : V → List V → Hp → VK → Prop} (hm : MtR X id r)
    (h : ∀ (s t : S) (v u : V) (c : Cf) (B : Bs) (Q : VK), Hold X.K X.mg c B → RS X.K X.mg c s v → RS X.K X.mg c t u → FinP X.K X.mg c Q (f B s t) → r v [u] c.H Q) : PrimMt X id (two? f) := by
  refine ⟨r, hm, fun s ss v vs c B Q hd hs hss q => ?_⟩
  cases hss with
  | nil => exact q.elim
  | cons a b =>
    cases b with
    | nil => exact h _ _ _ _ c B Q hd hs a q
    | cons _ _ => exact q.elim
theorem m_split : PrimMt X "str.split" pSplit := by
  refine meth1 mt_split fun s t v u c B Q hd hs ht h => ?_
  unfold splitS at h
  split at h
  · rename_i a b
    split at h
    · rename_i z
      exact ⟨a, b, rs_str hs, by rw [rs_str ht], z.1, z.2, fun p hp => new_lst hd (all_strs _) hp h⟩
    · exact h.elim
  · exact h.elim
theorem m_partition : PrimMt X "str.partition" pPartition := by
  refine meth1 mt_partition fun s t v u c B Q hd hs ht h => ?_
  unfold partS at h
  split at h
  · rename_i a b
    split at h
    · rename_i z
      exact ⟨a, b, rs_str hs, by rw [rs_str ht], z.1, z.2, fun p hp => new_tup hd (all_strs [(Txt.partition a b).1, (Txt.partition a b).2.1, (Txt.partition a b).2.2]) hp h⟩
    · exact h.elim
  · exact h.elim
theorem m_join : PrimMt X "str.join" pJoin := by
  refine meth1 mt_join fun s t v u c B Q hd hs ht h => ?_
  unfold joinS at h
  split at h
  · rename_i a
    obtain ⟨ss, e1, h⟩ := finP_bind h
    obtain ⟨ys, e2, h⟩ := finP_bind h
    split at h
    · rename_i z
      obtain ⟨p, us, rfl, g1, g2⟩ := asQ_ok hd ht e1
      rw [strsOf_ok e2 g2] at g1
      exact ⟨a, p, ys, rs_str hs, rfl, g1, z, fin_str hd h⟩
    · exact h.elim
  · exact h.elim
end
/-! ### isinstance -/
def tyD : PyData → String
  | .none => "NoneType"
  | .bool _ => "bool"
  | .int _ => "int"
  | .str _ => "str"
  | .list _ => "list"
  | .tuple _ => "tuple"
  | .dict _ => "dict"
/-- whether a thing of the type a is one of b -/
def isTy (a b : String) : Bool := (a == b) || (a == "bool" && b == "int")
def gIsi (T : String) (ga : GE) : GE := gBind ga fun s _ B => match valD B s with
  | some d => if tyD d = "dict" then .bad else if isTy (tyD d) T = true then .ok (.dat (.bool true)) B else .ok (.dat (.bool false)) B
  | none => .bad
theorem tyX_of {K : PySem.W.Frag} {H : Hp} {v : V} {d : PyData} (hn : tyD d ≠ "dict") (h : Dq K H v d) : TyX K H v (.type (tyD d)) := by
  cases h with
  | non => exact .base .non
  | bl b => exact .base (.bl b)
  | int i => exact .base (.int i)
  | str x => exact .base (.str x)
  | lst h1 h2 => exact .base (.lst h1)
  | tup h1 h2 => exact .base (.tup h1)
  | dik h1 h2 => exact absurd rfl hn
  | dit h1 h2 => exact absurd rfl hn
theorem kit_tab : ∀ a ∈ ["NoneType", "bool", "int", "str", "list", "tuple"], ∀ T ∈ ["int", "bool", "str", "tuple", "list"], kitB a T = some (isTy a T) := by decide +kernel
theorem kit_all (d : PyData) (hd : tyD d ≠ "dict") (T : String) (hT : T = "int" ∨ T = "bool" ∨ T = "str" ∨ T = "tuple" ∨ T = "list") : kitB (tyD d) T = some (isTy (tyD d) T) := by
  refine kit_tab _ ?_ T ?_
  · cases d <;> first | exact absurd rfl hd | simp [tyD]
  · rcases hT with rfl | rfl | rfl | rfl | rfl <;> simp
section
variable {X : Cx} {W : WX} {pos p p2 : Pos} {e : Expr} {ga : GE}
theorem r_isi {x : Str} {T : String} (hT : T = "int" ∨ T = "bool" ∨ T = "str" ∨ T = "tuple" ∨ T = "list") (hg : Gl X "isinstance") (hm : X.mg "isinstance" = none) (hg2 : Gl X x) (hm2 : X.mg x = none) (hv : bootBuiltins x = some (.type T)) (ha : PE X e (rdE X.K X.mg W ga))
    (hn : x ≠ "__name__") (hd : (x == ("__debug__" : Str)) = false) (hs : starEach (e :: [Expr.Name x p2]) X.env = (false, eval e X.env) :: starEach [Expr.Name x p2] X.env) (hs2 : starEach [Expr.Name x p2] X.env = (false, eval (Expr.Name x p2) X.env) :: starEach [] X.env) (hpl : (backTo pos (starEach [Expr.Name x p2] X.env)).any (·.1) = false) :
    PE X (.Call (.Name "isinstance" p) [e, .Name x p2] [] pos) (rdE X.K X.mg W (gIsi T ga)) := by
  refine PE_le (pe_callB call_isi hg hm (by decide +kernel) (pa_cons ha (pa_cons (pe_bltn (v := .ty T) hg2 hm2 hv rfl hn hd) pa_nil hs2) hs) (by decide) (by decide) hs hpl) fun σ H Q h => rdE_mono (rd_one h) fun v H1 ⟨c, s, B, ρ, e, hd, hr, hs, h⟩ => ?_
  subst e
  show rIsi X.K [v, .ty T] c.H Q
  cases ed : valD B s with
  | none => rw [ed] at h; exact h.elim
  | some d =>
    rw [ed] at h
    have hv := valD_ok hd hs ed
    dsimp only at h
    by_cases nd : tyD d = "dict"
    · rw [if_pos nd] at h; exact h.elim
    rw [if_neg nd] at h
    refine ⟨v, .ty T, .type (tyD d), .type T, isTy (tyD d) T, rfl, .ty T, tyX_of nd hv, kit_ty (kit_all d nd T hT), ?_⟩
    cases q : isTy (tyD d) T with
    | true => rw [q, if_pos rfl] at h; exact h c (.bl true) (Step.refl c) hd (.bl true)
    | false => rw [q, if_neg (by decide)] at h; exact h c (.bl false) (Step.refl c) hd (.bl false)
end
end PN

set_option maxRecDepth 100000
set_option maxHeartbeats 4000000
/-! PN, thirteenth part: sorted. -/
namespace PN
open PySem L2
def SortOk (ds : List PyData) : Prop := PySem.W.AllAlike ds ∧ PySem.W.Sortable ds ∧ ds.length ≤ sizeLine ∧ ∀ d ∈ ds, d.depth ≤ 64
noncomputable def sortD (ds : List PyData) : List PyData := ds.mergeSort (PySem.W.dataLe false id)
open Classical in
noncomputable def sortedS (B : Bs) (s : S) : Option (S × Bs) := (asL B s).bind fun ss => (datsOf ss).bind fun ds => if SortOk ds then some (.dat (.list (sortD ds)), B) else none
noncomputable def pSorted : GP := one? sortedS
mutual
theorem alike_nd : ∀ (d : PyData), PySem.W.alike d d = true → d.hasDict = false
  | .none, _ => by simp only [PyData.hasDict]
  | .bool _, _ => by simp only [PyData.hasDict]
  | .int _, _ => by simp only [PyData.hasDict]
  | .str _, _ => by simp only [PyData.hasDict]
  | .list xs, h => by
    simp only [PyData.hasDict]
    exact alikeAll_nd xs (by simpa only [PySem.W.alike] using h)
  | .tuple xs, h => by
    simp only [PyData.hasDict]
    exact alikeAll_nd xs (by simpa only [PySem.W.alike] using h)
  | .dict _, h => by simp [PySem.W.alike] at h
theorem alikeAll_nd : ∀ (ds : List PyData), PySem.W.alikeAll ds ds = true → PyData.hasDictAll ds = false
  | [], _ => by simp only [PyData.hasDictAll]
  | d :: ds, h => by
    have h : PySem.W.alike d d = true ∧ PySem.W.alikeAll ds ds = true := by simpa only [PySem.W.alikeAll, Bool.and_eq_true] using h
    simp only [PyData.hasDictAll, alike_nd d h.1, alikeAll_nd ds h.2, Bool.or_self]
end
theorem each_mem {α β : Type} {R : α → β → Prop} : ∀ {us : List α} {ds : List β}, PySem.W.EachIs R us ds → PySem.W.EachIs (fun u d => d ∈ ds ∧ R u d) us ds
  | _, _, .nil => .nil
  | _, _, .cons h t => .cons ⟨List.mem_cons_self, h⟩ ((each_mem t).mono fun _ _ z => ⟨List.mem_cons_of_mem _ z.1, z.2⟩)
section
variable {K : PySem.W.Frag} {H : Hp}
theorem each_of : ∀ {ds : List PyData} {vs : List V} {us : List Value}, DqAll K H vs ds → Vals vs us → PySem.W.EachIs (fun u d => ∃ x, RelV x u ∧ Dq K H x d) us ds
  | _, _, _, .nil, .nil => .nil
  | _, _, _, .cons a b, .cons r t => .cons ⟨_, r, a⟩ (each_of b t)
theorem of_each : ∀ {ds : List PyData} {us : List Value}, PySem.W.EachIs (fun u d => ∃ x, RelV x u ∧ Dq K H x d) us ds → ∃ vs, DqAll K H vs ds ∧ Vals vs us
  | _, _, .nil => ⟨[], .nil, .nil⟩
  | _, _, .cons ⟨x, r, a⟩ t => by
    obtain ⟨vs, h1, h2⟩ := of_each t
    exact ⟨x :: vs, .cons a h1, .cons r h2⟩
end
section
variable {X : Cx}
def rSortD (K : PySem.W.Frag) : List V → Hp → VK → Prop := fun xs H Q => ∃ a vs ds G, xs = [V.ref a] ∧ SqL K H a vs ∧ Same G H ∧ DqAll K G vs ds ∧ SortOk ds ∧ ∀ vs' p, DqAll K G vs' (sortD ds) → H p = none → Q (.ref p) (upd H p (.lst vs'))
theorem cr_sortD (hu : X.A.units + 67 < cLine) : CallR X (.builtin "sorted") (rSortD X.K) := by
  intro pins s σ H xs us Q I r h
  obtain ⟨a, vs, ds, G, rfl, hs, hG, hd, ok, q⟩ := h
  obtain ⟨its, rv, hl, hz⟩ := I.list hs
  cases r with
  | cons r1 r2 =>
  cases r2
  cases r1
  have e := each_of hd rv
  have er : PySem.W.EachIs (fun v b => ∃ as, Reads s.heap v (id b) as) its ds := (each_mem e).mono fun u d ⟨m, x, h1, h2⟩ => Dp.reads I d x u ((dp_mono hG d x h2).dp d x (alike_nd d (ok.1 d m d m))) h1
  refine PySem.W.sorted_data (enc := id) hl.isList e er (by rw [List.map_id]; exact ok.1) (by rw [List.map_id]; exact ok.2.1) ok.2.2.1 (fun b hb => by have := ok.2.2.2 b hb; show X.A.units + 2 + b.depth < cLine; omega) fun out hlen eo => ?_
  obtain ⟨vs', h1, h2⟩ := of_each eo
  obtain ⟨ep, he'⟩ := PyProof.Rows.sortedAll_at s.heap its out.toArray
  refine ⟨.ref _, upd H (s.heap.objs.size + 1) (.lst vs'), I.laid (t' := s.toks) (fun _ _ => PyProof.Rows.sortedAll_old) (Nat.le_succ _) ⟨?_, out, ep, h2, he'⟩, rfl, q vs' _ h1 (I.hok.fresh (Nat.le_succ _))⟩
  rw [h2.length, hlen]
  exact ok.2.2.1
theorem b_sorted (hu : X.A.units + 67 < cLine) : PrimCall X (.builtin "sorted") pSorted := by
  refine call1 (cr_sortD hu) one_no fun s v c B Q hd hs h => ?_
  obtain ⟨ss, e1, h⟩ := finP_bind (show FinP X.K X.mg c Q (sortedS B s) from h)
  obtain ⟨ds, e2, h⟩ := finP_bind h
  split at h
  · rename_i ok
    obtain ⟨a, vs, rfl, h1, h2⟩ := asL_ok hd hs e1
    have d1 := dats_all e2 h2
    exact ⟨a, vs, ds, c.G, rfl, h1, hd.gh, d1, ok, fun vs' p g1 hp => new_lst hd g1 hp h⟩
  · exact h.elim
end
end PN

set_option maxRecDepth 100000
set_option maxHeartbeats 4000000
/-! PN, 14th part: own errors: their making, raise, try. -/
namespace PN
open PySem L2
/-! ### Base.__init__(self, ..), Base an own error class -/
/-- what the text says of a class whose __init__ is ValueError's -/
structure BsC (K : PySem.W.Frag) (C : Addr) : Prop where
  rd : PySem.W.readsIn K C (.type "type") = true
  ga : PySem.W.specialIn K (.ref C) "__getattribute__" = some (some (.builtin "type.__getattribute__"))
  fi : PySem.W.findCls K (.ref C) (.type "type") "__init__" = some (.val (.builtin "ValueError.__init__"))
section
variable {X : Cx} {e : Expr} {es : List Expr} {ta : TA} {p1 p2 pos : Pos} {b : Str} {C : Addr}
theorem pe_binit {pl : Sem Bool} (T0 : BsC X.K C) (hg : Gl X b) (hm : X.mg b = some (.ref C)) (hdb : (b == ("__debug__" : Str)) = false) (ha : PA X (e :: es) ta)
    (hc : eval (.Call (.Attribute (.Name b p1) "__init__" p2) (e :: es) [] pos) X.env = (do
      let o ← eval (.Name b p1) X.env
      standAt p2.atName
      let (g, one) ← holding [o] (getMethod o "__init__" pl)
      callWith pos g one (backTo pos (starEach (e :: es) X.env)) (backToKw pos (keywordEach [] X.env))))
    (he : starEach (e :: es) X.env = (false, eval e X.env) :: starEach es X.env) (hpl : (backTo pos (starEach es X.env)).any (·.1) = false) :
    PE X (.Call (.Attribute (.Name b p1) "__init__" p2) (e :: es) [] pos) (tVeI X.K ta) := by
  constructor
  intro pins s σ H Q I h
  refine PySem.W.methodCall_KW (ld_glob I hg hm ?_ hdb) hc
  refine PySem.W.method_cls I.kIn T0.ga (PySem.W.cls_value I.kIn T0.rd T0.fi rfl ?_)
  refine PyProof.Rows.callWith_method1 (thn (ha.run pos pins _ σ H _ (I.tok _) h) fun us s1 z => ?_) he hpl
  obtain ⟨vs, H1, I1, r1, a, D, ws, ev, hl, T, ea, q⟩ := z
  subst ev
  cases r1 with
  | @cons _ u0 _ ur ra rt =>
    have e0 : u0 = Value.ref a := ra
    subst e0
    have hn : ur.length ≤ sizeLine := by
      have := Paired.length rt
      rw [sizeLine_eq]
      omega
    exact oinit_ok T I1 ea hn fun s2 J => ⟨V.non, H1, J, rfl, q⟩
end
/-! ### the __init__ of an own error class -/
/-- what self.f1 = .. self.fn = .. leave -/
def EndI (H : Hp) (a C : Addr) (fs : List (Str × V)) (H2 : Hp) : Prop :=
  ∃ d, H d = none ∧ d ≠ a ∧ H2 a = some (exo a C (some d)) ∧ H2 d = some (exd d fs) ∧ ∀ b, b ≠ a → b ≠ d → H2 b = H b
/-- the fields, as they come to stand -/
def fsOf {α : Type} (fl : List Str) (vs : List α) : List (Str × α) := (fl.zip vs).reverse
/-- the __init__ of a class with the fields fl -/
def spX (K : PySem.W.Frag) (fl : List Str) : Sp := fun vs H Q _ => ∃ (a C : Addr) (ws : List V), vs = .ref a :: ws ∧ ws.length = fl.length ∧ OexC K C ∧ (∀ f ∈ fl, PySem.W.findIn K (.ref C) f = some none) ∧ H a = some (exo a C none) ∧
  ∀ H2, EndI H a C (fsOf fl ws) H2 → Q .non H2
/-- the assignments of such a body: each puts the parameter at the slot told -/
inductive XBs (X : Cx) : List Stmt → List (Str × Nat) → Prop
  | nil : XBs X [] []
  | cons {st : Stmt} {r : List Stmt} {f : Str} {i : Nat} {l : List (Str × Nat)} : PS X st (tOst X.K f (tVar 0) (tVar i)) → XBs X r l → XBs X (st :: r) ((f, i) :: l)
section
variable {X : Cx}
/-- the reading of what is left of the body -/
def tXB (K : PySem.W.Frag) (l : List (Str × Nat)) : TS := fun D σ H => ∃ (a C d : Addr) (fs : List (Str × V)) (ws : List V), σ[0]? = some (some (.ref a)) ∧ OexC K C ∧ (∀ p ∈ l, PySem.W.findIn K (.ref C) p.1 = some none) ∧ d ≠ a ∧ H a = some (exo a C (some d)) ∧ H d = some (exd d fs) ∧ fs.length + l.length ≤ 900 ∧
  Paired (fun p v => σ[p.2]? = some (some v)) l ws ∧ ∀ H2, H2 a = some (exo a C (some d)) → H2 d = some (exd d (fsOf (l.map (·.1)) ws ++ fs)) → (∀ b, b ≠ a → b ≠ d → H2 b = H b) → D.nx σ H2
theorem fsOf_cons {α : Type} (f : Str) (v : α) (fl : List Str) (vs : List α) (fs : List (Str × α)) : fsOf (f :: fl) (v :: vs) ++ fs = fsOf fl vs ++ (f, v) :: fs := by
  unfold fsOf
  rw [List.zip_cons_cons, List.reverse_cons, List.append_assoc]
  rfl
theorem xb_more : ∀ {body : List Stmt} {l : List (Str × Nat)}, XBs X body l → PSs X body (tXB X.K l)
  | _, _, .nil => PSs_le pss_nil fun D σ H h => by
    obtain ⟨a, C, d, fs, ws, h0, T, hf, hda, ha, hd, hl, hp, q⟩ := h
    cases hp
    exact q H ha hd fun _ _ _ => rfl
  | _, _, .cons (f := f) (i := i) (l := l) h1 h2 => PSs_le (pss_cons h1 (xb_more h2)) fun D σ H h => by
    obtain ⟨a, C, d, fs, ws, h0, T, hf, hda, ha, hd, hl, hp, q⟩ := h
    cases hp with
    | @cons _ v _ ws' hv hp =>
      refine ⟨v, hv, .ref a, h0, a, C, rfl, T, hf _ List.mem_cons_self, .inr ⟨d, fs, ha, hd, by rw [List.length_cons] at hl; omega, ?_⟩⟩
      refine ⟨a, C, d, (f, v) :: fs, ws', h0, T, fun p m => hf p (List.mem_cons_of_mem _ m), hda, by rw [upd_ne (Ne.symm hda)]; exact ha, upd_same, by rw [List.length_cons] at hl ⊢; omega, hp, fun H2 g1 g2 g3 => q H2 g1 ?_ fun b n1 n2 => ?_⟩
      · rw [List.map_cons, fsOf_cons]; exact g2
      · rw [g3 b n1 n2, upd_ne n2]
/-- the whole body of such an __init__ -/
theorem xb_all {e0 : Expr} {p0 : Pos} {st : Stmt} {r : List Stmt} {f : Str} {i : Nat} {l : List (Str × Nat)} {x : Str} (h0 : PE X e0 (tVeI X.K (tCons (tVar 0) (tCons (tC (.str x)) tNil)))) (hs : swapsWith e0 none p0.line X.env = pure false)
    (h1 : PS X st (tOst X.K f (tVar 0) (tVar i))) (h2 : XBs X r l) :
    PSs X (.Expr e0 p0 :: st :: r) (fun D σ H => ∃ (a C : Addr) (ws : List V), σ[0]? = some (some (.ref a)) ∧ OexC X.K C ∧ (∀ p ∈ (f, i) :: l, PySem.W.findIn X.K (.ref C) p.1 = some none) ∧ H a = some (exo a C none) ∧ l.length ≤ 800 ∧
      Paired (fun p v => σ[p.2]? = some (some v)) ((f, i) :: l) ws ∧ ∀ H2, EndI H a C (fsOf (f :: l.map (·.1)) ws) H2 → D.nx σ H2) := PSs_le (pss_cons (ps_expr h0 hs) (pss_cons h1 (xb_more h2))) fun D σ H h => by
  obtain ⟨a, C, ws, hv0, T, hf, ha, hl, hp, q⟩ := h
  refine ⟨.ref a, hv0, a, C, [.str x], rfl, by show 1 ≤ 1000; decide, T, ha, ?_⟩
  cases hp with
  | @cons _ v _ ws' hv hp =>
    refine ⟨v, hv, .ref a, hv0, a, C, rfl, T, hf _ List.mem_cons_self, .inl ⟨ha, fun d hd hda => ?_⟩⟩
    refine ⟨a, C, d, [(f, v)], ws', hv0, T, fun p m => hf p (List.mem_cons_of_mem _ m), hda, upd_same, by rw [upd_ne hda, upd_same], by show 1 + l.length ≤ 900; omega, hp, fun H2 g1 g2 g3 => q H2 ⟨d, hd, hda, g1, ?_, fun b n1 n2 => ?_⟩⟩
    · rw [g2]
      unfold fsOf
      rw [List.zip_cons_cons, List.reverse_cons]
    · rw [g3 b n1 n2, upd_ne n1, upd_ne n2]
end
section
variable {P : Program} {w : World} {K : PySem.W.Frag} {mg : Str → Option Value} {base : Heap}
/-- the __init__: its promise -/
theorem init_ok {CX : CXT} {x qual : Str} {st : Stmt} {f : Addr} {fd : FuncData} {N ps : List Str} {k : Nat} {f1 : Str} {fl : List Str} (F : Fun K x qual st f fd) (Sc : FnScope N ps (defScope st)) (hps : ps.length = fl.length + 2) (hN : fl.length + 2 ≤ N.length)
    (hsm : fl.length ≤ 800)
    (hb : ∀ (cdv : Value) (A : Around) (outer : List Env) (s : Shared) (H : Hp) (E : XK), ∃ (e0 : Expr) (p0 : Pos) (s1 : Stmt) (r : List Stmt) (t : Str) (l : List (Str × Nat)), defBody st = .Expr e0 p0 :: s1 :: r ∧ l.map (·.1) = fl ∧ l.map (·.2) = (List.range fl.length).map (· + 2) ∧
      PE (cxOf CX P w K mg base N qual (defScope st) f cdv A outer s H E) e0 (tVeI K (tCons (tVar 0) (tCons (tC (.str t)) tNil))) ∧ swapsWith e0 none p0.line (cxOf CX P w K mg base N qual (defScope st) f cdv A outer s H E).env = pure false ∧
      PS (cxOf CX P w K mg base N qual (defScope st) f cdv A outer s H E) s1 (tOst K f1 (tVar 0) (tVar 1)) ∧ XBs (cxOf CX P w K mg base N qual (defScope st) f cdv A outer s H E) r l) :
    FnOk P w K mg base CX (k + 1) f fd ps (spX K (f1 :: fl)) := by
  obtain ⟨oc, od, kV, doc, pm, an, cdv, ct, osl, rfl, lk, hcd⟩ := F.ex
  refine fn_of lk hcd Sc (fun vs H Q E h => ?_) (fun A outer s H vs Q E hr h => ?_)
  · obtain ⟨a, C, ws, rfl, hl, _⟩ := h
    rw [List.length_cons, hl, hps]
    rfl
  · obtain ⟨e0, p0, s1, r, t, l, eb, e1, e2, h0, hsw, h1, h2⟩ := hb cdv A outer s H E
    rw [eb]
    refine ⟨_, xb_all h0 hsw h1 h2, ?_⟩
    obtain ⟨a, C, ws, rfl, hl, T, hf, ha, q⟩ := h
    have hst : L2.start N (.ref a :: ws) = (V.ref a :: ws).map some ++ List.replicate (N.length - (V.ref a :: ws).length) none := rfl
    have hget : ∀ (j : Nat) (v : V), ws[j]? = some v → (L2.start N (.ref a :: ws))[j + 1]? = some (some v) := fun j v e => by
      have hj := (List.getElem?_eq_some_iff.mp e).1
      rw [hst, List.getElem?_append_left (by rw [List.length_map, List.length_cons]; omega), List.getElem?_map, List.getElem?_cons_succ, e]
      rfl
    have hll : l.length = fl.length := by rw [← e1, List.length_map]
    have hw : ∀ (l : List (Str × Nat)) (vs : List V) (k : Nat), (∀ (j : Nat) (v : V), vs[j]? = some v → ws[j + k]? = some v) → l.length = vs.length → l.map (·.2) = (List.range l.length).map (· + (k + 1)) → Paired (fun p v => (L2.start N (.ref a :: ws))[p.2]? = some (some v)) l vs := by
      intro l
      induction l with
      | nil =>
        intro vs k _ hl _
        cases vs with
        | nil => exact .nil
        | cons _ _ => exact nomatch hl
      | cons p l ih =>
        intro vs k h hl hm
        cases vs with
        | nil => exact nomatch hl
        | cons v vs =>
          rw [List.length_cons, List.range_succ_eq_map, List.map_cons, List.map_cons] at hm
          obtain ⟨m1, m2⟩ := List.cons.inj hm
          refine .cons ?_ (ih vs (k + 1) (fun j u e => ?_) (by simpa using hl) ?_)
          · rw [m1]
            have := hget (0 + k) v (h 0 v rfl)
            have e : 0 + (k + 1) = 0 + k + 1 := by omega
            rw [e]
            exact this
          · have := h (j + 1) u (by rw [List.getElem?_cons_succ]; exact e)
            have e : j + 1 + k = j + (k + 1) := by omega
            rw [← e]
            exact this
          · rw [m2, List.map_map]
            refine List.map_congr_left fun j _ => ?_
            show j + 1 + (k + 1) = j + (k + 1 + 1)
            omega
    refine ⟨a, C, ws, ?_, T, ?_, ha, by omega, ?_, fun H2 h2 => q H2 ?_⟩
    · rw [hst]; rfl
    · intro p hp
      rcases List.mem_cons.mp hp with e | m
      · rw [e]; exact hf f1 List.mem_cons_self
      · exact hf p.1 (List.mem_cons_of_mem _ (by rw [← e1]; exact List.mem_map_of_mem m))
    · refine hw ((f1, 1) :: l) ws 0 (fun j v e => e) (by rw [hl, List.length_cons, List.length_cons, hll]) ?_
      rw [List.map_cons, e2, List.length_cons, List.range_succ_eq_map, List.map_cons, List.map_map, hll]
      refine congrArg _ (List.map_congr_left fun j _ => ?_)
      show j + 2 = j + 1 + (0 + 1)
      omega
    · rw [e1] at h2; exact h2
end
/-! ### raise C(..) -/
def sRaise (x : Str) (fl : List Str) (ga : GA) : GS := fun r B => match ga r B with
  | .ok ss B1 => if ss.length = fl.length ∧ ss.length ≤ 900 then .exc x (fsOf fl ss) r B1 else .bad
  | .exc y fs B1 => .exc y fs r B1
  | .bad => .bad
theorem paired_append {α β : Type} {F : α → β → Prop} : ∀ {l₁ : List α} {l₂ : List β} {m₁ : List α} {m₂ : List β}, Paired F l₁ l₂ → Paired F m₁ m₂ → Paired F (l₁ ++ m₁) (l₂ ++ m₂)
  | _, _, _, _, .nil, h => h
  | _, _, _, _, .cons h t, h' => .cons h (paired_append t h')
theorem paired_rev {α β : Type} {F : α → β → Prop} : ∀ {l₁ : List α} {l₂ : List β}, Paired F l₁ l₂ → Paired F l₁.reverse l₂.reverse
  | _, _, .nil => .nil
  | _, _, .cons h t => by
    rw [List.reverse_cons, List.reverse_cons]
    exact paired_append (paired_rev t) (.cons h .nil)
theorem fsOf_rf {K : PySem.W.Frag} {mg : Str → Option Value} {c : Cf} : ∀ (fl : List Str) {ss : List S} {vs : List V}, Paired (RS K mg c) ss vs → RF K mg c (fsOf fl ss) (fsOf fl vs) := by
  intro fl ss vs h
  refine paired_rev ?_
  induction fl generalizing ss vs with
  | nil => exact .nil
  | cons f fl ih =>
    cases h with
    | nil => exact .nil
    | cons h t => exact .cons ⟨rfl, h⟩ (ih t)
theorem endI_eq {H1 H2 : Hp} {a C : Addr} {fs : List (Str × V)} {u : HO} (h : EndI (upd H1 a u) a C fs H2) (ha : H1 a = none) : ∃ d, H1 d = none ∧ d ≠ a ∧ H2 a = some (exo a C (some d)) ∧ H2 d = some (exd d fs) ∧ upd (del H2 a) d (.xd fs) = upd H1 d (.xd fs) := by
  obtain ⟨d, h1, h2, h3, h4, h5⟩ := h
  rw [upd_ne h2] at h1
  refine ⟨d, h1, h2, h3, h4, funext fun b => ?_⟩
  by_cases hb : b = d
  · rw [hb, upd_same, upd_same]
  · rw [upd_ne hb, upd_ne hb]
    by_cases hc : b = a
    · rw [hc, del_same, ha]
    · rw [del_ne hc, h5 b hc hb, upd_ne hc]
section
variable {X : Cx} {W : WX} {e : Expr} {es : List Expr} {ga : GA} {p p1 pos : Pos} {x : Str} {C fI : Addr} {k : Nat} {fd : FuncData} {ps fl : List Str}
theorem s_raise (hc : X.calm = true) (tk : Takes X W) (T : OexC X.K C) (hno : ∀ f ∈ fl, PySem.W.findIn X.K (.ref C) f = some none) (iC : PySem.W.findIn X.K (.ref C) "__init__" = some (some (.ref fI))) (tI : PySem.W.typeIn X.K (.ref fI) = some (.type "function"))
    (F1 : FnOk X.prog X.w X.K X.mg X.base (L2.CX X.prog X.w) k fI fd ps (spX X.K fl)) (hr : Room (k + 1) X.A) (hb : Binds X.K fd ps []) (hg : Gl X x) (hm : X.mg x = some (.ref C)) (ha : PA X (e :: es) (rdA X.K X.mg W ga))
    (hdb : (x == ("__debug__" : Str)) = false) (he : starEach (e :: es) X.env = (false, eval e X.env) :: starEach es X.env) (hpl : (backTo pos (starEach es X.env)).any (·.1) = false) :
    PS X (.Raise (some (.Call (.Name x p) (e :: es) [] pos)) none p1) (rdS X.K X.mg W (sRaise x fl ga)) := by
  refine PS_le (ps_raise hc tk (pmk_oex T iC tI F1 hr hb (.nil : Vals [] []) (passes_call takes_none5 (E := fun _ _ _ => False) (W := fun _ _ _ _ => False) fun _ _ _ _ z => z) hg hm ha hdb he hpl)) fun D σ H h => ?_
  obtain ⟨r, B, c, rfl, hd, hr', h⟩ := h
  refine ⟨r, B, c, rfl, hd, hr', ?_⟩
  unfold sRaise at h
  cases e : ga r B with
  | ok ss B1 =>
    rw [e] at h
    dsimp only at h
    by_cases q : ss.length = fl.length ∧ ss.length ≤ 900
    · rw [if_pos q] at h
      intro c' vs st hd' hs
      have hlv : vs.length = ss.length := (paired_len hs).symm
      refine ⟨by omega, fun a ha => ⟨a, C, vs, by rw [List.append_nil], by rw [hlv]; exact q.1, T, hno, upd_same, fun H2 hE => ?_⟩⟩
      obtain ⟨d, h1, h2, h3, h4, h5⟩ := endI_eq hE ha
      refine ⟨rfl, d, _, h3, h4, h1, ?_⟩
      rw [h5]
      have st2 := frz_step (o := .xd (fsOf fl vs)) hd' h1
      exact h ⟨c'.al, upd c'.G d (.xd (fsOf fl vs)), upd c'.H d (.xd (fsOf fl vs))⟩ σ C d _ (st.trans st2) (frz_hold hd' h1) ((hr'.mono st).mono st2) hm upd_same (RF.mono st2 (fsOf_rf fl hs))
    · rw [if_neg q] at h; exact h.elim
  | exc y fs B1 => rw [e] at h; exact fun c' C d ws st hd' => h c' σ C d ws st hd' (hr'.mono st)
  | bad => rw [e] at h; exact h
end
/-! ### try: .. / except C as e: return (.., e.f, ..) -/
/-- an item of the tuple handed back: a text, a field -/
abbrev XI := Sum Str Str
def xItem (fs : List (Str × S)) : XI → Option PyData
  | .inl s => some (.str s)
  | .inr f => match fs.lookup f with
    | some (.dat d) => some d
    | _ => none
def xItems (fs : List (Str × S)) : List XI → Option (List PyData)
  | [] => some []
  | x :: r => match xItem fs x, xItems fs r with
    | some d, some ds => some (d :: ds)
    | _, _ => none
def sTryR (body : GS) (i : Nat) (tb : Str → Option Bool) (l : List XI) : GS := fun r B => match body r B with
  | .exc x fs r1 B1 => (match tb x with
    | some true => (match xItems fs l with
      | some ds => if ds.length ≤ sizeLine ∧ i < r1.length then .ret (.dat (.tuple ds)) B1 else .bad
      | none => .bad)
    | some false => .exc x fs r1 B1
    | none => .bad)
  | o => o
/-- the items, as they are written -/
inductive XIs (X : Cx) (a : Addr) (cls : Value) (d : Option Addr) (C : Addr) (i : Nat) : List Expr → List XI → Prop
  | nil : XIs X a cls d C i [] []
  | con {e : Expr} {es : List Expr} {s : Str} {l : List XI} : PE X e (tC (.str s)) → starEach (e :: es) X.env = (false, eval e X.env) :: starEach es X.env → XIs X a cls d C i es l → XIs X a cls d C i (e :: es) (.inl s :: l)
  | fld {e : Expr} {es : List Expr} {f : Str} {l : List XI} : PE X e (tXf a cls d C f (tVar i)) → starEach (e :: es) X.env = (false, eval e X.env) :: starEach es X.env → XIs X a cls d C i es l → XIs X a cls d C i (e :: es) (.inr f :: l)
def xV (ws : List (Str × V)) : XI → V → Prop
  | .inl s, v => v = .str s
  | .inr f, v => ws.lookup f = some v
theorem xis_pa {X : Cx} {a : Addr} {cls : Value} {d : Option Addr} {C : Addr} {i : Nat} : ∀ {es : List Expr} {l : List XI}, XIs X a cls d C i es l →
    PA X es (fun σ H Q => σ[i]? = some (some (.ref a)) ∧ cls = .ref C ∧ ∃ dd ws vs, d = some dd ∧ H dd = some (.xd ws) ∧ Paired (xV ws) l vs ∧ Q vs H)
  | _, _, .nil => PA_le pa_nil fun σ H Q h => by
    obtain ⟨_, _, dd, ws, vs, _, _, hp, q⟩ := h
    cases hp
    exact q
  | _, _, .con h1 h2 h3 => PA_le (pa_cons h1 (xis_pa h3) h2) fun σ H Q h => by
    obtain ⟨h4, h5, dd, ws, vs, h6, h7, hp, q⟩ := h
    cases hp with
    | cons hv hp =>
      have hv : _ = _ := hv
      subst hv
      exact ⟨h4, h5, dd, ws, _, h6, h7, hp, q⟩
  | _, _, .fld h1 h2 h3 => PA_le (pa_cons h1 (xis_pa h3) h2) fun σ H Q h => by
    obtain ⟨h4, h5, dd, ws, vs, h6, h7, hp, q⟩ := h
    cases hp with
    | cons hv hp => exact ⟨.ref a, h4, rfl, h5, dd, ws, _, h6, h7, hv, h4, h5, dd, ws, _, h6, h7, hp, q⟩
theorem lookup_cons {α : Type} {f g : Str} {y : α} {fs : List (Str × α)} : ((f, y) :: fs).lookup g = if g = f then some y else fs.lookup g := by
  by_cases h : g = f
  · subst h
    simp [List.lookup]
  · have e : (g == f) = false := by simpa using h
    rw [if_neg h]
    simp [List.lookup, e]
theorem rf_lookup {K : PySem.W.Frag} {mg : Str → Option Value} {c : Cf} {f : Str} : ∀ {fs : List (Str × S)} {ws : List (Str × V)} {s : S}, RF K mg c fs ws → fs.lookup f = some s → ∃ v, ws.lookup f = some v ∧ RS K mg c s v
  | _, _, _, .nil, h => nomatch h
  | _, _, s, .cons (a := p) (b := q) hq t, h => by
    obtain ⟨e, hs⟩ := hq
    obtain ⟨p1, p2⟩ := p
    obtain ⟨q1, q2⟩ := q
    have e : p1 = q1 := e
    subst e
    rw [lookup_cons] at h ⊢
    by_cases c : f = p1
    · rw [if_pos c] at h ⊢
      cases h
      exact ⟨q2, rfl, hs⟩
    · rw [if_neg c] at h ⊢
      exact rf_lookup t h
theorem xitems_rel {K : PySem.W.Frag} {mg : Str → Option Value} {c : Cf} {fs : List (Str × S)} {ws : List (Str × V)} (h : RF K mg c fs ws) : ∀ {l : List XI} {ds : List PyData}, xItems fs l = some ds → ∃ vs, Paired (xV ws) l vs ∧ DqAll K c.G vs ds
  | [], ds, e => by cases e; exact ⟨[], .nil, .nil⟩
  | x :: l, ds, e => by
    unfold xItems at e
    cases e1 : xItem fs x with
    | none => rw [e1] at e; cases e
    | some y =>
      cases e2 : xItems fs l with
      | none => rw [e1, e2] at e; cases e
      | some ys =>
        rw [e1, e2] at e
        cases e
        obtain ⟨vs, h1, h2⟩ := xitems_rel h e2
        cases x with
        | inl s => cases e1; exact ⟨.str s :: vs, .cons rfl h1, .cons (.str s) h2⟩
        | inr f =>
          unfold xItem at e1
          dsimp only at e1
          cases e3 : fs.lookup f with
          | none => rw [e3] at e1; cases e1
          | some t =>
            rw [e3] at e1
            cases t with
            | dat d =>
              cases e1
              obtain ⟨v, g1, g2⟩ := rf_lookup h e3
              exact ⟨v :: vs, .cons g1 h1, .cons g2 h2⟩
            | ref k => cases e1
            | fn y => cases e1
            | scr ns => cases e1
section
variable {X : Cx} {x n : Str} {C : Addr} {i : Nat} {body : List Stmt} {es : List Expr} {np pos pos' rpos tpos : Pos} {k1} {g : GS} {tb : Str → Option Bool} {l : List XI} {Wout : WX}
theorem s_tryR (hs : X.stack = X.env :: X.outer) (hf : X.env.frame = some X.env.locals) (hN : X.N.Nodup) (hi : X.N[i]? = some n) (hln : X.env.kindOf n = some .local) (hc : Names X x (.ref C)) (tk : Takes X Wout)
    (hTb : ∀ y b D, tb y = some b → X.mg y = some (.ref D) → PySem.W.exmOne X.K (.ref D) (.ref C) = some b ∧ (b = true → D = C))
    (hb : ∀ (W : WX) (pn : List (Addr × Obj)) (xe : Value → Shared → Prop), Takes (X.tr pn xe) W → PassesOwn (model X.prog X.w) X.A X.env xe → PSs (X.tr pn xe) body (rdS X.K X.mg W g))
    (hsu : ∀ (a : Addr) (oe : Obj) (cls : Value) (d : Option Addr) (pn : List (Addr × Obj)), Zc cls d oe → (∃ vs, oe.data = .fields vs) → XIs (X.suite a ((a, oe) :: pn)) a cls d C i es l) :
    PS X (.Try body [.ExceptHandler (some (.Name x np)) (some n) [.Return (some (.Tuple es k1 tpos)) rpos] pos'] [] [] pos) (rdS X.K X.mg Wout (sTryR g i tb l)) := by
  refine PS_le (ps_try_as (Wout := Wout) hs hf hN hi hln hc tk hb (fun a oe cls d pn hz hv => pss_cons (ps_ret (pe_tup (xis_pa (hsu a oe cls d pn hz hv)))) pss_nil)) fun D σ H h => ?_
  obtain ⟨r, B, c, rfl, hd, hr, h⟩ := h
  refine ⟨r, B, c, rfl, hd, hr, ?_⟩
  unfold sTryR at h
  cases e : g r B with
  | nx r1 B1 => rw [e] at h; exact h
  | ret s B1 => rw [e] at h; exact h
  | brk r1 B1 => rw [e] at h; exact h
  | ct r1 B1 => rw [e] at h; exact h
  | bad => rw [e] at h; exact h
  | exc y fs r1 B1 =>
    rw [e] at h
    dsimp only at h
    intro c' σ' D' d ws st hd' hr' hm hx hrf
    cases e1 : tb y with
    | none => rw [e1] at h; exact h.elim
    | some b =>
      rw [e1] at h
      obtain ⟨h1, h2⟩ := hTb y b D' e1 hm
      refine ⟨b, h1, fun eb a ha => ?_, fun eb => ?_⟩
      · subst eb
        have h2 := h2 rfl
        subst h2
        dsimp only at h
        cases e2 : xItems fs l with
        | none => rw [e2] at h; exact h.elim
        | some ds =>
          rw [e2] at h
          dsimp only at h
          by_cases hl : ds.length ≤ sizeLine ∧ i < r1.length
          · rw [if_pos hl] at h
            obtain ⟨vs, p1, p2⟩ := xitems_rel hrf e2
            have hlen : vs.length = ds.length := by
              have : ∀ {vs : List V} {ds : List PyData}, DqAll X.K c'.G vs ds → vs.length = ds.length := by
                intro vs
                induction vs with
                | nil => intro ds h; cases h; rfl
                | cons v vs ih => intro ds h; cases h with | cons h1 h2 => rw [List.length_cons, List.length_cons, ih h2]
              exact this p2
            have hi' : i < σ'.length := by rw [hr'.1]; exact hl.2
            refine ⟨by rw [List.getElem?_set_self hi'], rfl, d, ws, vs, rfl, hd'.gh _ _ hx, p1, by rw [hlen]; exact hl.1, fun p hp => ?_⟩
            have st2 := frz_step (o := .tup vs) hd' hp
            exact h ⟨c'.al, upd c'.G p (.tup vs), upd c'.H p (.tup vs)⟩ (.ref p) (st.trans st2) (frz_hold hd' hp) (.tup upd_same (dpAll_mono st2.g _ _ p2))
          · rw [if_neg hl] at h; exact h.elim
      · subst eb
        exact h c' σ' D' d ws st hd' hr' hm hx hrf
end
end PN

set_option maxRecDepth 100000
set_option maxHeartbeats 4000000
/-! PN, 15th part: the law's own end. -/
namespace PN
open PySem L2
theorem rg_guards : (callerA).guards = some [] := rfl
/-- from the law's function: what its def promises at the script -/
theorem spM_law {K : PySem.W.Frag} {mg : Str → Option Value} {m : GF} {H : Hp} {a : Addr} {ns : List Int} (hS : SqL K H a (ns.map V.int)) (B' : Bs) (hm : m [.scr ns] [] = .ok (.dat (.bool true)) B') :
    spM K mg 1 m [.ref a] H (fun v _ => v = .bl true) fun _ _ _ => False := by
  refine ⟨[.scr ns], [], ⟨[], H, H⟩, rfl, rfl, ⟨rfl, Same.refl _, List.nodup_nil, fun b h => absurd h (by simp), fun k o e => by simp at e⟩, .cons ⟨a, hS, rfl⟩ .nil, ?_⟩
  rw [hm]
  intro c' v _ _ h
  have h : Dq K c'.G v (.bool true) := h
  cases h
  rfl
/-- nothing told but the script -/
structure Alone (K : PySem.W.Frag) (h : Heap) (a : Addr) (H : Hp) : Prop where
  no : ∀ b, b ≠ a → H b = none
  kn : H a ≠ none → K.lookup a = none
  fz : ∀ u, H a = some u → ∃ o xs, u = .frz o (.lst xs) ∧ h.get? a = some o
theorem cx_never {P : Program} {w : World} {H : Hp} {s s' : Shared} {e : Value} (h : L2.CX P w [] H s (fun _ _ _ => False) e s') : False := by
  obtain ⟨_, _, _, _, _, _, _, _, _, _, _, _, z⟩ := h
  exact z
section
variable {P : Program} {w : World} {K : PySem.W.Frag} {mg mb : Str → Option Value} {k : Nat} {fa a : Addr} {fd : FuncData} {x : Str} {m : GF} {s1 : Shared} {vs : List Value} {ns : List Int}
theorem begin_at (KX : K.In s1.heap) (g1 : s1.heap.Ns mainGlobals mg) (g2 : s1.heap.Ns builtinsNs mb) (g3 : ∀ y : Str, y ≠ "__name__" → mb y = bootBuiltins y) (g4 : s1.heap.NoLimit) (g5 : s1.gens = #[])
    (ho : s1.heap.get? a = some { cls := .type "list", data := .seq vs.toArray }) (hr : Room k callerA) (F : ∀ base : Heap, K.In base → base.Ns mainGlobals mg → FnG P w K mg base k fa fd [x] (spM K mg 1 m))
    (hb : ∀ (s : Shared) (u : Value), BindsTo s fd ⟨[u], []⟩ [(x, u)]) {B' : Bs} (hm : m [.scr ns] [] = .ok (.dat (.bool true)) B') {H : Hp} (al : Alone K s1.heap a H) (hok : HOk P w H s1.heap) (hS : SqL K H a (ns.map V.int)) :
    codeAny (model P w) callerA (.call (.ref fa) ⟨[.ref a], []⟩) (fun r s' => r = .ok (.ret (.bool true)) ∧ OldK s1.heap s'.heap ∧ s'.os = s1.os ∧ PyProof.Rows.AllBare s'.gens) s1 := by
  have free : ∀ {b : Addr} {o : Obj}, s1.heap.get? b = some o → (∀ xs, o.data ≠ .seq xs) → H b = none := fun {b o} e n => Classical.byContradiction fun q => by
    by_cases z : b = a
    · subst z
      rw [ho] at e
      cases e
      exact n _ rfl
    · exact q (al.no b z)
  have keepN : ∀ {b : Addr} {f : Str → Option Value}, s1.heap.Ns b f → (hidT s1.heap H).Ns b f := fun {b f} z => by
    obtain ⟨o, es, ep, e, d, r⟩ := z
    exact ⟨o, es, ep, hidT_get e (free e fun xs q => by rw [d] at q; cases q), d, r⟩
  have KI : K.In (hidT s1.heap H) := fun b o e => hidT_get (KX b o e) (Classical.byContradiction fun q => by
    by_cases z : b = a
    · subst z
      rw [al.kn q] at e
      cases e
    · exact q (al.no b z))
  have md : Mod K mg (hidT s1.heap H) := by
    obtain ⟨mc, n1, n2⟩ := g4
    exact ⟨KI, keepN g1, ⟨mb, keepN g2, g3⟩, mc, keepN n1, n2⟩
  have env : Env0 P w K mg (hidT s1.heap H) callerA [] s1 H := { frames := rfl, mod := md, bs := fun b o e => of_hidT e, bsz := Nat.le_of_eq (hidT_size _ _), funs := trivial, frf := fun b z => (List.not_mem_nil z).elim, hok := hok, bare := .of_eq g5 }
  have go := (F _ KI (keepN g1)).run callerA [] s1 H ⟨[.ref a], []⟩ [.ref a] [.ref a] _ _ rg_guards hr env (hb s1 (.ref a)) (.cons rfl .nil) (spM_law hS B' hm)
  refine codeAny_mono go ?_
  intro r s' h
  cases r with
  | error e => exact (cx_never h).elim
  | ok fl =>
    cases fl with
    | ret u =>
      obtain ⟨v, H', os, bare, un, hok', rv, q⟩ := h
      have q : v = .bl true := q
      subst q
      have rv : u = Value.bool true := rv
      refine ⟨by rw [rv], OldK.of_keep fun b o e => ?_, os, bare⟩
      by_cases z : H b = none
      · exact un.keep b o e z (fun y => (List.not_mem_nil y).elim) (by simp)
      · have hba : b = a := Classical.byContradiction fun n => z (al.no b n)
        subst hba
        cases e2 : H b with
        | none => exact absurd e2 z
        | some u' =>
          obtain ⟨ob, xs, eu, e3⟩ := al.fz u' e2
          subst eu
          rw [e] at e3
          cases e3
          exact (hok' b _ (un.frzs b o _ e2)).1
    | next => exact h.elim
    | brk => exact h.elim
    | cont => exact h.elim
theorem begin_law (KX : K.In s1.heap) (g1 : s1.heap.Ns mainGlobals mg) (g2 : s1.heap.Ns builtinsNs mb) (g3 : ∀ y : Str, y ≠ "__name__" → mb y = bootBuiltins y) (g4 : s1.heap.NoLimit) (g5 : s1.gens = #[])
    (ho : s1.heap.get? a = some { cls := .type "list", data := .seq vs.toArray }) (hi : PyProof.Rows.IntsAre vs ns) (hl : ns.length ≤ sizeLine) (hr : Room k callerA) (F : ∀ base : Heap, K.In base → base.Ns mainGlobals mg → FnG P w K mg base k fa fd [x] (spM K mg 1 m))
    (hb : ∀ (s : Shared) (u : Value), BindsTo s fd ⟨[u], []⟩ [(x, u)]) {B' : Bs} (hm : m [.scr ns] [] = .ok (.dat (.bool true)) B') :
    codeAny (model P w) callerA (.call (.ref fa) ⟨[.ref a], []⟩) (fun r s' => r = .ok (.ret (.bool true)) ∧ OldK s1.heap s'.heap ∧ s'.os = s1.os ∧ PyProof.Rows.AllBare s'.gens) s1 := by
  cases hk : K.lookup a with
  | some o =>
    have e := (KX a o hk).symm.trans ho
    cases e
    exact begin_at (H := fun _ => none) KX g1 g2 g3 g4 g5 ho hr F hb hm ⟨fun _ _ => rfl, fun z => absurd rfl z, fun u z => nomatch z⟩ (fun b u z => nomatch z)
      (.inr ⟨_, vs.toArray, _, hk, rfl, rfl, rfl, by rw [List.size_toArray, hi.length]; exact hl, by simpa using vals_ints hi⟩)
  | none =>
    have hs : (upd (fun _ => none) a (.frz { cls := .type "list", data := .seq vs.toArray } (.lst (ns.map V.int))) : Hp) a = _ := upd_same
    refine begin_at (H := upd (fun _ => none) a (.frz { cls := .type "list", data := .seq vs.toArray } (.lst (ns.map V.int)))) KX g1 g2 g3 g4 g5 ho hr F hb hm ⟨fun b n => upd_ne n, fun _ => hk, fun u z => ?_⟩ (fun b u z => ?_) (.inl (.inr ⟨_, upd_same⟩))
    · rw [hs] at z
      cases z
      exact ⟨_, _, rfl, ho⟩
    · by_cases q : b = a
      · subst q
        rw [hs] at z
        cases z
        exact ⟨ho, by rw [List.length_map]; exact hl, vs, _, vals_ints hi, ho⟩
      · rw [upd_ne q] at z
        cases z
end
/-- the goal that k_head leaves, from the evaluator m of the law -/
theorem walk_g {l : PySem.W.OpenLaw} {n k : Nat} {q : Program} {loose : List Str} {XP : (Str → Option Value) → Heap → Prop} {YP : World → Heap → Prop} {d : DefRec} {K : Params → PySem.W.Frag} {x : Str} {m : GF}
    (hn : l.most = some n) (hn2 : n ≤ sizeLine) (hdf : d.params.defaults = []) (hr : Room k callerA) (hY : ∀ (w : World) (h : Heap), YP w h → (K w.params).In h)
    (F : ∀ (w : World) (mg : Str → Option Value) (fa : Addr) (h : Heap), (K w.params).In h → h.Ns mainGlobals mg → mg d.name = some (.ref fa) →
      ∃ fd : FuncData, (∀ (s : Shared) (u : Value), BindsTo s fd ⟨[u], []⟩ [(x, u)]) ∧ ∀ base : Heap, (K w.params).In base → base.Ns mainGlobals mg → FnG l.prog w (K w.params) mg base k fa fd [x] (spM (K w.params) mg 1 m))
    (hm : ∀ ns : List Int, ns.length ≤ n → ∃ B', m [.scr ns] [] = .ok (.dat (.bool true)) B') : PySem.W.WalkO q loose XP YP l.row.toRowW d [] (fun f vs => PySem.call f vs) := by
  refine Att.attach_call hn hdf fun w s₀ s₁ mg mb fa o pm cd doc a vs ns G Y ho hd hcd hmg hobj hints hlen hg => ?_
  obtain ⟨fd, hb, hF⟩ := F w mg fa _ (hY w _ Y) G.T.g hmg
  obtain ⟨B', e⟩ := hm ns hlen
  exact begin_law (hY w _ Y) G.T.g G.T.b G.T.builtins G.T.nolimit hg hobj hints (Nat.le_trans hlen hn2) hr hF hb e
end PN

set_option maxRecDepth 100000
set_option maxHeartbeats 4000000
/-! PN, 16th part: zip. -/
namespace PN
open PySem L2
def zipS : List S → List S → Option (List S)
  | .dat a :: xs, .dat b :: ys => (zipS xs ys).map fun l => .dat (.tuple [a, b]) :: l
  | [], _ => some []
  | _, [] => some []
  | _, _ => none
theorem zipS_dat {a b : PyData} {xs ys : List S} : zipS (.dat a :: xs) (.dat b :: ys) = (zipS xs ys).map fun l => .dat (.tuple [a, b]) :: l := rfl
theorem zipS_nil {ys : List S} : zipS [] ys = some [] := by
  unfold zipS
  rfl
theorem zipS_nil' {xs : List S} : zipS xs [] = some [] := by
  cases xs with
  | nil => rfl
  | cons x xs => cases x <;> rfl
theorem zipS_len : ∀ {xs ys its : List S}, zipS xs ys = some its → its.length ≤ xs.length ∧ its.length ≤ ys.length ∧ (xs.length ≤ its.length ∨ ys.length ≤ its.length)
  | [], ys, its, e => by
    rw [zipS_nil] at e
    cases e
    exact ⟨Nat.le_refl _, Nat.zero_le _, .inl (Nat.le_refl _)⟩
  | x :: xs, [], its, e => by
    rw [zipS_nil'] at e
    cases e
    exact ⟨Nat.zero_le _, Nat.le_refl _, .inr (Nat.le_refl _)⟩
  | x :: xs, y :: ys, its, e => by
    cases x with
    | dat a =>
      cases y with
      | dat b =>
        rw [zipS_dat] at e
        cases q : zipS xs ys with
        | none => rw [q] at e; cases e
        | some l =>
          rw [q] at e
          cases e
          have ih := zipS_len q
          simp only [List.length_cons]
          omega
      | _ => cases e
    | _ => cases e
theorem zipS_get : ∀ {xs ys its : List S} {i : Nat} {s : S}, zipS xs ys = some its → its[i]? = some s → ∃ a b, s = .dat (.tuple [a, b]) ∧ xs[i]? = some (.dat a) ∧ ys[i]? = some (.dat b)
  | [], ys, its, i, s, e, h => by
    rw [zipS_nil] at e
    cases e
    cases h
  | x :: xs, [], its, i, s, e, h => by
    rw [zipS_nil'] at e
    cases e
    cases h
  | x :: xs, y :: ys, its, i, s, e, h => by
    cases x with
    | dat a =>
      cases y with
      | dat b =>
        rw [zipS_dat] at e
        cases q : zipS xs ys with
        | none => rw [q] at e; cases e
        | some l =>
          rw [q] at e
          cases e
          cases i with
          | zero => cases h; exact ⟨a, b, rfl, rfl, rfl⟩
          | succ i =>
            rw [List.getElem?_cons_succ] at h
            obtain ⟨a', b', h1, h2, h3⟩ := zipS_get q h
            exact ⟨a', b', h1, by rw [List.getElem?_cons_succ]; exact h2, by rw [List.getElem?_cons_succ]; exact h3⟩
      | _ => cases e
    | _ => cases e
section
variable {K : PySem.W.Frag} {mg : Str → Option Value} {c0 : Cf} {B : Bs}
theorem pair_new {c : Cf} {B : Bs} (hd : Hold K mg c B) {x y : V} {a b : PyData} {T : Addr} (hT : c.H T = none) (hx : RS K mg c (.dat a) x) (hy : RS K mg c (.dat b) y) : ∃ c', c'.H = upd c.H T (.tup [x, y]) ∧ Step c c' ∧ Hold K mg c' B ∧ RS K mg c' (.dat (.tuple [a, b])) (.ref T) := by
  have st := frz_step (o := .tup [x, y]) hd hT
  exact ⟨⟨c.al, upd c.G T (.tup [x, y]), upd c.H T (.tup [x, y])⟩, rfl, st, frz_hold hd hT, .tup upd_same (.cons (dp_mono st.g _ _ hx) (.cons (dp_mono st.g _ _ hy) .nil))⟩
theorem it_zip {s t : S} {v u : V} {ss ts its : List S} (hd : Hold K mg c0 B) (h1 : RS K mg c0 s v) (h2 : RS K mg c0 t u) (e1 : asL B s = some ss) (e2 : asL B t = some ts) (ez : zipS ss ts = some its) :
    ∃ a b xs ys, v = .ref a ∧ u = .ref b ∧ SqL K c0.H a xs ∧ SqL K c0.H b ys ∧ ItOk K mg (Itz K a b) its (fun B => stays s ss B ∧ stays t ts B) c0 := by
  obtain ⟨a, vs, q1, q2, q3⟩ := asL_ok hd h1 e1
  obtain ⟨b, us, p1, p2, p3⟩ := asL_ok hd h2 e2
  subst q1 p1
  have at' : ∀ (c : Cf) (B' : Bs), Step c0 c → Hold K mg c B' → stays s ss B' ∧ stays t ts B' → ∃ vs us, SqL K c.H a vs ∧ SqL K c.H b us ∧ Paired (RS K mg c) ss vs ∧ Paired (RS K mg c) ts us := fun c B' st hd' k => by
    obtain ⟨a', vs', z2, h3, h4⟩ := asL_ok hd' (RS.mono st h1) (stays_asL e1 k.1)
    cases z2
    obtain ⟨b', us', z2, h5, h6⟩ := asL_ok hd' (RS.mono st h2) (stays_asL e2 k.2)
    cases z2
    exact ⟨vs', us', h3, h5, h4, h6⟩
  obtain ⟨l1, l2, l3⟩ := zipS_len ez
  refine ⟨a, b, vs, us, rfl, rfl, q2, p2, fun i c B' st hd' k hi => ?_, fun i c B' st hd' k hi => ?_, fun i c B' x H' w st hd' k hw y => ?_⟩
  · obtain ⟨vs, us, r1, r2, r3, r4⟩ := at' c B' st hd' k
    have m1 := paired_len r3
    have m2 := paired_len r4
    exact ⟨vs, us, vs[i]'(by omega), us[i]'(by omega), r1, r2, List.getElem?_eq_getElem (by omega), List.getElem?_eq_getElem (by omega)⟩
  · obtain ⟨vs, us, r1, r2, r3, r4⟩ := at' c B' st hd' k
    have m1 := paired_len r3
    have m2 := paired_len r4
    exact ⟨vs, us, r1, r2, by omega⟩
  · obtain ⟨vs, us, r1, r2, r3, r4⟩ := at' c B' st hd' k
    obtain ⟨T, x', y', rfl, hT, rfl, f1, f2⟩ := y
    obtain ⟨d1, d2, ew, g1, g2⟩ := zipS_get ez hw
    subst ew
    obtain ⟨w1, k1, k2⟩ := paired_get r3 g1
    obtain ⟨w2, k3, k4⟩ := paired_get r4 g2
    have f1 := f1 vs r1
    have f2 := f2 us r2
    rw [k1] at f1
    rw [k3] at f2
    cases f1
    cases f2
    exact pair_new hd' hT k2 k4
theorem it_zipT {s t : S} {v u : V} {ss ts its : List S} (hd : Hold K mg c0 B) (h1 : RS K mg c0 s v) (h2 : RS K mg c0 t u) (e1 : asT s = some ss) (e2 : asT t = some ts) (ez : zipS ss ts = some its) :
    ∃ a b xs ys, v = .ref a ∧ u = .ref b ∧ SqT K c0.H a xs ∧ SqT K c0.H b ys ∧ ItOk K mg (RZ.ItzT K a b) its (fun _ => True) c0 := by
  obtain ⟨a, vs, q1, q2, q3⟩ := asT_ok h1 e1
  obtain ⟨b, us, p1, p2, p3⟩ := asT_ok h2 e2
  subst q1 p1
  have at' : ∀ (c : Cf) (B' : Bs), Step c0 c → Hold K mg c B' → SqT K c.H a vs ∧ SqT K c.H b us ∧ Paired (RS K mg c) ss vs ∧ Paired (RS K mg c) ts us := fun c B' st hd' => ⟨same_t (st.g.trans hd'.gh) q2, same_t (st.g.trans hd'.gh) p2, RSs.mono st q3, RSs.mono st p3⟩
  obtain ⟨l1, l2, l3⟩ := zipS_len ez
  have m1 := paired_len q3
  have m2 := paired_len p3
  refine ⟨a, b, vs, us, rfl, rfl, same_t hd.gh q2, same_t hd.gh p2, fun i c B' st hd' k hi => ?_, fun i c B' st hd' k hi => ?_, fun i c B' x H' w st hd' k hw y => ?_⟩
  · obtain ⟨r1, r2, r3, r4⟩ := at' c B' st hd'
    exact ⟨vs, us, vs[i]'(by omega), us[i]'(by omega), r1, r2, List.getElem?_eq_getElem (by omega), List.getElem?_eq_getElem (by omega)⟩
  · obtain ⟨r1, r2, r3, r4⟩ := at' c B' st hd'
    exact ⟨vs, us, r1, r2, by omega⟩
  · obtain ⟨r1, r2, r3, r4⟩ := at' c B' st hd'
    obtain ⟨T, x', y', rfl, hT, rfl, f1, f2⟩ := y
    obtain ⟨d1, d2, ew, g1, g2⟩ := zipS_get ez hw
    subst ew
    obtain ⟨w1, k1, k2⟩ := paired_get r3 g1
    obtain ⟨w2, k3, k4⟩ := paired_get r4 g2
    have f1 := f1 vs r1
    have f2 := f2 us r2
    rw [k1] at f1
    rw [k3] at f2
    cases f1
    cases f2
    exact pair_new hd' hT k2 k4
end
def zipT (B : Bs) (s t : S) : Ri := match asT s, asT t with
  | some ss, some ts => (match zipS ss ts with
    | some its => .ok its (fun _ => True) B
    | none => .bad)
  | _, _ => .bad
/-- two lists, two tuples -/
def zipV (B : Bs) (s t : S) : Ri := match asL B s, asL B t with
  | some ss, some ts => (match zipS ss ts with
    | some its => .ok its (fun B => stays s ss B ∧ stays t ts B) B
    | none => .bad)
  | _, _ => zipT B s t
def zip2 (B : Bs) : List S → Ri
  | [s, t] => zipV B s t
  | _ => .bad
def gZip (ga : GA) : GI := fun r B => match ga r B with
  | .ok l B1 => zip2 B1 l
  | .exc x fs B1 => .exc x fs B1
  | .bad => .bad
section
variable {X : Cx} {W : WX} {e e2 : Expr} {ga : GA} {p pos tpos : Pos} {elts : List Expr} {kk : Nat}
theorem i_zip (hg : Gl X "zip") (hm : X.mg "zip" = none) (ha : PA X [e, e2] (rdA X.K X.mg W ga)) (hs : starEach [e, e2] X.env = (false, eval e X.env) :: starEach [e2] X.env) (hpl : (backTo pos (starEach [e2] X.env)).any (·.1) = false) :
    PI X (.Tuple elts kk tpos) (.Call (.Name "zip" p) [e, e2] [] pos) (rdI X.K X.mg W (gZip ga)) := by
  refine PI_le (RZ.pi_zipA hg hm ha hs hpl) fun σ H R h => ?_
  obtain ⟨r, B, c, rfl, hd, hr, h⟩ := h
  refine ⟨r, B, c, rfl, hd, hr, ?_⟩
  unfold gZip at h
  cases e1 : ga r B with
  | exc x fs B1 => rw [e1] at h; exact h
  | bad => rw [e1] at h; exact h
  | ok l B1 =>
    rw [e1] at h
    intro c' vs st hd' hs'
    have h : FinI X.K X.mg W c σ R (zip2 B1 l) := h
    cases hs' with
    | nil => exact h.elim
    | @cons s v l1 vs1 h1 hs' =>
      cases hs' with
      | nil => exact h.elim
      | @cons t u l2 vs2 h2 hs' =>
        cases hs' with
        | cons _ _ => exact h.elim
        | nil =>
          have h : FinI X.K X.mg W c σ R (zipV B1 s t) := h
          unfold zipV at h
          have tup : FinI X.K X.mg W c σ R (zipT B1 s t) → ∃ a b xs ys, [v, u] = [V.ref a, .ref b] ∧ ((SqL X.K c'.H a xs ∧ SqL X.K c'.H b ys ∧ R (Itz X.K a b) c'.H) ∨ (SqT X.K c'.H a xs ∧ SqT X.K c'.H b ys ∧ R (RZ.ItzT X.K a b) c'.H)) := fun h => by
            unfold zipT at h
            cases q1 : asT s with
            | none => rw [q1] at h; exact h.elim
            | some ss =>
              cases q2 : asT t with
              | none => rw [q1, q2] at h; exact h.elim
              | some ts =>
                rw [q1, q2] at h
                dsimp only at h
                cases q3 : zipS ss ts with
                | none => rw [q3] at h; exact h.elim
                | some its =>
                  rw [q3] at h
                  obtain ⟨a, b, xs, ys, z1, z2, z3, z4, z5⟩ := it_zipT hd' h1 h2 q1 q2 q3
                  exact ⟨a, b, xs, ys, by rw [z1, z2], .inr ⟨z3, z4, h c' _ st hd' z5⟩⟩
          cases q1 : asL B1 s with
          | none => rw [q1] at h; exact tup h
          | some ss =>
            cases q2 : asL B1 t with
            | none => rw [q1, q2] at h; exact tup h
            | some ts =>
              rw [q1, q2] at h
              dsimp only at h
              cases q3 : zipS ss ts with
              | none => rw [q3] at h; exact h.elim
              | some its =>
                rw [q3] at h
                obtain ⟨a, b, xs, ys, z1, z2, z3, z4, z5⟩ := it_zip hd' h1 h2 q1 q2 q3
                exact ⟨a, b, xs, ys, by rw [z1, z2], .inl ⟨z3, z4, h c' _ st hd' z5⟩⟩
end
end PN

set_option maxRecDepth 100000
set_option maxHeartbeats 4000000
/-! PN, 17th part: what a generated derivation leans on. -/
namespace PN
open PySem L2
/-! ### a changing list is changed no more -/
def shutS : S → Bs → Option (S × Bs)
  | .ref k, B => (match B[k]? with
    | some (some (.lst ss)) => (datsOf ss).map fun ds => (.dat (.list ds), B.set k none)
    | _ => none)
  | s, B => some (s, B)
def gShut (g : GE) : GE := gBind g fun s _ B => liftP (shutS s B)
section
variable {K : PySem.W.Frag} {mg : Str → Option Value} {W : WX} {c : Cf} {B : Bs} {σ : St} {Q : VK}
theorem shut_fin {s : S} {v : V} (hd : Hold K mg c B) (hs : RS K mg c s v) (h : Fin K mg W c σ Q (liftP (shutS s B))) : Q v c.H := by
  have nop : ∀ s', shutS s' B = some (s', B) → RS K mg c s' v → Fin K mg W c σ Q (liftP (shutS s' B)) → Q v c.H := fun s' e hs h => by
    rw [e] at h
    exact h c v (Step.refl c) hd hs
  cases s with
  | dat d => exact nop _ rfl hs h
  | fn x => exact nop _ rfl hs h
  | scr ns => exact nop _ rfl hs h
  | ref k =>
    unfold shutS at h
    obtain ⟨a, h1, h2⟩ := hs
    subst h2
    cases q : B[k]? with
    | none => simp only [q] at h; exact h.elim
    | some o =>
      cases o with
      | none => simp only [q] at h; exact h.elim
      | some mo =>
        simp only [q] at h
        cases mo with
        | lst ss =>
          dsimp only at h
          cases q2 : datsOf ss with
          | none => rw [q2] at h; exact h.elim
          | some ds =>
            rw [q2] at h
            obtain ⟨a', ho, g1, g2, g3, g4⟩ := hd.ob k _ q
            have ea : a' = a := Option.some.inj (g1.symm.trans h1)
            subst ea
            cases ho with
            | lst vs =>
              have st : Step c ⟨c.al, upd c.G a' (.lst vs), c.H⟩ := shut_step (List.mem_of_getElem? g1) g2
              exact h ⟨c.al, upd c.G a' (.lst vs), c.H⟩ (.ref a') st (shut_hold hd g1 g2 g3) (.lst upd_same (dpAll_mono st.g ds vs (dats_all q2 g4)))
            | _ => exact g4.elim
        | _ => exact h.elim
end
section
variable {X : Cx} {W : WX} {e : Expr} {g : GE}
theorem r_shut (he : PE X e (rdE X.K X.mg W g)) : PE X e (rdE X.K X.mg W (gShut g)) := PE_le he fun σ H Q h => by
  obtain ⟨r, B, c, rfl, hd, hr, h⟩ := h
  obtain ⟨r', B', c', e1, hd', hr', q⟩ := fin_bind hd hr h
  refine ⟨r', B', c', e1, hd', hr', ?_⟩
  revert q
  cases g r' B' with
  | ok s B1 =>
    intro q c2 v st hd2 hs2
    obtain ⟨c3, s3, B3, e3, st3, hd3, hr3, hs3, f3⟩ := q c2 v st hd2 hs2
    rw [← e3]
    exact shut_fin hd3 hs3 f3
  | exc x fs B1 => exact fun q => q
  | bad => exact fun q => q
end
/-! ### globals -/
section
variable {X : Cx} {W : WX} {pos : Pos} {x : Str}
theorem r_gi {i : Int} (hg : Gl X x) (hm : ∃ t, X.mg x = some (.int i t)) (hd : (x == ("__debug__" : Str)) = false) : PE X (.Name x pos) (rdE X.K X.mg W (gC (.dat (.int i)))) := by
  obtain ⟨t, hm⟩ := hm
  exact r_gint hg hm hd
theorem r_gs {y : Str} (hg : Gl X x) (hm : ∃ t, X.mg x = some (.str y t)) (hd : (x == ("__debug__" : Str)) = false) : PE X (.Name x pos) (rdE X.K X.mg W (gC (.dat (.str y)))) := by
  obtain ⟨t, hm⟩ := hm
  exact r_gstr hg hm hd
end
/-! ### defs, as the top has made them; their promises -/
/-- the top has made the def -/
def Df (K : PySem.W.Frag) (mg : Str → Option Value) (x : Str) (st : Stmt) (ps : List Str) : Prop := ∃ f fd, mg x = some (.ref f) ∧ Fun K x x st f fd ∧ ∀ us : List Value, us.length = ps.length → bindArgs fd ⟨us, []⟩ = pure (ps.zip us)
/-- the def's promise -/
def OkD (P : Program) (w : World) (K : PySem.W.Frag) (mg : Str → Option Value) (base : Heap) (k : Nat) (x : Str) (ps : List Str) (m : GF) : Prop :=
  ∃ f fd, mg x = some (.ref f) ∧ PySem.W.keepIn K (.ref f) = true ∧ Binds K fd ps [] ∧ FnG P w K mg base k f fd ps (spM K mg ps.length m)
theorem df_mk {K : PySem.W.Frag} {h : Heap} {mg : Str → Option Value} {x : Str} {st : Stmt} {ps : List Str} {f : Addr} {oc : Value} {od an : Option Addr} {osl : Array (Option Value)} {kV doc pm cdv ct : Value} (X : K.In h) (G : h.Ns mainGlobals mg)
    (a : PySem.W.nsIn K mainGlobals x = some (some (.ref f))) (l : K.lookup f = some ⟨oc, od, .func (PySem.W.fnOf x x (defArgs st) (defBody st) (defScope st) .none kV doc pm an cdv ct), osl⟩) (c : PySem.W.codeIn K cdv x = true) (k : PySem.W.keepIn K (.ref f) = true)
    (b : ∀ (kV doc pm : Value) (an : Option Addr) (cdv ct : Value) (us : List Value), us.length = ps.length → bindArgs (PySem.W.fnOf x x (defArgs st) (defBody st) (defScope st) .none kV doc pm an cdv ct) ⟨us, []⟩ = pure (ps.zip us)) : Df K mg x st ps :=
  ⟨f, _, PySem.W.mg_of X G a, fun_mk (st := st) l c k, b kV doc pm an cdv ct⟩
section
variable {P : Program} {w : World} {K : PySem.W.Frag} {mg : Str → Option Value} {base : Heap}
theorem OkD.mono {j k : Nat} {x : Str} {ps : List Str} {m : GF} (h : OkD P w K mg base j x ps m) (hk : j ≤ k) : OkD P w K mg base k x ps m := by
  obtain ⟨f, fd, h1, h2, h3, h4⟩ := h
  exact ⟨f, fd, h1, h2, h3, h4.mono hk⟩
theorem OkD.fn {k : Nat} {x : Str} {ps : List Str} {m : GF} (h : OkD P w K mg base k x ps m) : ∃ f, mg x = some (.ref f) := by
  obtain ⟨f, fd, h1, h2, h3, h4⟩ := h
  exact ⟨f, h1⟩
theorem okd {x : Str} {st : Stmt} {N ps : List Str} {k : Nat} {body : GS} (D : Df K mg x st ps) (Sc : FnScope N ps (defScope st))
    (hb : ∀ (f : Addr) (cdv : Value) (A : Around) (outer : List Env) (s : Shared) (H : Hp) (E : XK), A.guards = some [] → Room k (A.deeper (PyProof.Rows.envOfC x (defScope st) s.heap.objs.size f cdv)) →
      PSs (cxOf (L2.CX P w) P w K mg base N x (defScope st) f cdv A outer s H E) (defBody st) (rdS K mg (WF E) body)) : OkD P w K mg base (k + 1) x ps (gFn N.length body) := by
  obtain ⟨f, fd, h1, h2, h3⟩ := D
  exact ⟨f, fd, h1, h2.kp, .all h3, fn_ok h2 Sc (hb f)⟩
theorem okdK {x : Str} {st : Stmt} {N ps : List Str} {k : Nat} {body : GS} (D : Df K mg x st ps) (Sc : FnScope N ps (defScope st))
    (hb : ∀ (f : Addr) (cdv : Value) (A : Around) (outer : List Env) (s : Shared) (H : Hp) (E : XK), A.guards = some [] → Room k (A.deeper (PyProof.Rows.envOfC x (defScope st) s.heap.objs.size f cdv)) →
      PSs (cxOf (L2.CX P w) P w K mg base N x (defScope st) f cdv A outer s H E) (defBody st) (rdS K mg (WF E) body)) : OkD P w K mg base (k + 1) x ps (gFnK N.length body) := by
  obtain ⟨f, fd, h1, h2, h3⟩ := D
  exact ⟨f, fd, h1, h2.kp, .all h3, fn_okK h2 Sc (hb f)⟩
/-- a def's wish about exceptions is taken in its body -/
theorem tk_def {N : List Str} {x : Str} {sc : Scope} {f : Addr} {cdv : Value} {A : Around} {outer : List Env} {s : Shared} {H : Hp} {E : XK} : Takes (cxOf (L2.CX P w) P w K mg base N x sc f cdv A outer s H E) (WF E) := takes_of rfl rfl rfl (E₁ := _) rfl
theorem ru {A : Around} {k n : Nat} (hr : Room k A) (h : n ≤ 199) : A.units + n < cLine := by
  have := hr.un
  omega
end
section
variable {X : Cx} {W : WX} {pos p : Pos} {x : Str} {e : Expr} {es : List Expr} {ga : GA} {m : GF} {k n : Nat} {ps : List Str}
theorem r_callO (F : OkD X.prog X.w X.K X.mg X.base k x ps m) (hn : ps.length = n) (tk : Takes X W) (hgd : X.A.guards = some []) (hr : Room k X.A) (hg : Gl X x) (ha : PA X (e :: es) (rdA X.K X.mg W ga)) (hdb : (x == ("__debug__" : Str)) = false)
    (he : starEach (e :: es) X.env = (false, eval e X.env) :: starEach es X.env) (hpl : (backTo pos (starEach es X.env)).any (·.1) = false) : PE X (.Call (.Name x p) (e :: es) [] pos) (rdE X.K X.mg W (gCall n m ga)) := by
  obtain ⟨f, fd, h1, h2, h3, h4⟩ := F
  subst hn
  exact r_call h4 tk hgd hr hg h1 h2 h3 ha hdb he hpl
theorem r_gf (F : ∃ f, X.mg x = some (.ref f)) (hg : Gl X x) (hd : (x == ("__debug__" : Str)) = false) : PE X (.Name x pos) (rdE X.K X.mg W (gC (.fn x))) := by
  obtain ⟨f, h1⟩ := F
  exact r_gfn hg h1 hd
/-- a table of defs -/
def tbOf (l : List (Str × GF)) : Str → Option GF := fun x => l.lookup x
theorem tb_nil : TbOk X k n (tbOf []) := fun x m e => nomatch e
theorem tb_cons {l : List (Str × GF)} (F : OkD X.prog X.w X.K X.mg X.base k x ps m) (hn : ps.length = n) (h : TbOk X k n (tbOf l)) : TbOk X k n (tbOf ((x, m) :: l)) := by
  intro y m' e
  unfold tbOf at e
  rw [lookup_cons] at e
  by_cases q : y = x
  · rw [if_pos q] at e
    cases e
    obtain ⟨f, fd, h1, h2, h3, h4⟩ := F
    subst q
    subst hn
    exact ⟨f, fd, ps, h1, h4, h2, h3⟩
  · rw [if_neg q] at e
    exact h y m' e
end
/-! ### own error classes, as the top has made them -/
structure XcD (P : Program) (w : World) (K : PySem.W.Frag) (mg : Str → Option Value) (base : Heap) (k : Nat) (x : Str) (ps fl : List Str) : Prop where
  ex : ∃ C fI fd, mg x = some (.ref C) ∧ OexC K C ∧ (∀ f ∈ fl, PySem.W.findIn K (.ref C) f = some none) ∧ PySem.W.findIn K (.ref C) "__init__" = some (some (.ref fI)) ∧ PySem.W.typeIn K (.ref fI) = some (.type "function") ∧
    FnOk P w K mg base (L2.CX P w) k fI fd ps (spX K fl) ∧ Binds K fd ps [] ∧ XfC K C ∧ PySem.W.exmOne K (.ref C) (.ref C) = some true
section
variable {X : Cx} {W : WX} {e : Expr} {es : List Expr} {ga : GA} {p p1 pos : Pos} {x : Str} {k : Nat} {ps fl : List Str}
theorem s_raiseO (F : XcD X.prog X.w X.K X.mg X.base k x ps fl) (hc : X.calm = true) (tk : Takes X W) (hr : Room (k + 1) X.A) (hg : Gl X x) (ha : PA X (e :: es) (rdA X.K X.mg W ga))
    (hdb : (x == ("__debug__" : Str)) = false) (he : starEach (e :: es) X.env = (false, eval e X.env) :: starEach es X.env) (hpl : (backTo pos (starEach es X.env)).any (·.1) = false) :
    PS X (.Raise (some (.Call (.Name x p) (e :: es) [] pos)) none p1) (rdS X.K X.mg W (sRaise x fl ga)) := by
  obtain ⟨C, fI, fd, h1, h2, h3, h4, h5, h6, h7, h8, h9⟩ := F.ex
  exact s_raise hc tk h2 h3 h4 h5 h6 hr h7 hg h1 ha hdb he hpl
end
section
variable {X : Cx} {x n : Str} {i k : Nat} {ps fl : List Str} {body : List Stmt} {es : List Expr} {np pos pos' rpos tpos : Pos} {k1} {g : GS} {l : List XI} {Wout : WX}
/-- one class, caught by its own name -/
def tbX (x : Str) : Str → Option Bool := fun y => if y = x then some true else none
theorem s_tryO (F : XcD X.prog X.w X.K X.mg X.base k x ps fl) (hs : X.stack = X.env :: X.outer) (hf : X.env.frame = some X.env.locals) (hN : X.N.Nodup) (hi : X.N[i]? = some n) (hln : X.env.kindOf n = some .local) (hg : Gl X x) (hdb : (x == ("__debug__" : Str)) = false) (tk : Takes X Wout)
    (hb : ∀ (W : WX) (pn : List (Addr × Obj)) (xe : Value → Shared → Prop), Takes (X.tr pn xe) W → PassesOwn (model X.prog X.w) X.A X.env xe → PSs (X.tr pn xe) body (rdS X.K X.mg W g))
    (hsu : ∀ C : Addr, XfC X.K C → (∀ f ∈ fl, PySem.W.findIn X.K (.ref C) f = some none) → ∀ (a : Addr) (oe : Obj) (cls : Value) (d : Option Addr) (pn : List (Addr × Obj)), Zc cls d oe → (∃ vs, oe.data = .fields vs) → XIs (X.suite a ((a, oe) :: pn)) a cls d C i es l) :
    PS X (.Try body [.ExceptHandler (some (.Name x np)) (some n) [.Return (some (.Tuple es k1 tpos)) rpos] pos'] [] [] pos) (rdS X.K X.mg Wout (sTryR g i (tbX x) l)) := by
  obtain ⟨C, fI, fd, h1, h2, h3, h4, h5, h6, h7, h8, h9⟩ := F.ex
  refine s_tryR hs hf hN hi hln ⟨hg, hdb, .inl h1⟩ tk (fun y b D e hm => ?_) hb (hsu C h8 h3)
  unfold tbX at e
  by_cases q : y = x
  · rw [if_pos q] at e
    cases e
    subst q
    rw [h1] at hm
    cases hm
    exact ⟨h9, fun _ => rfl⟩
  · rw [if_neg q] at e
    cases e
end
/-! ### comparisons as tests -/
theorem rd_test {K : PySem.W.Frag} {mg : Str → Option Value} {W : WX} {g : GE} {σ : St} {H : Hp} {Q : Bool → Hp → Prop} (h : rdT K mg W g σ H Q) : rdE K mg W g σ H fun x H' => ∃ k, x = .bl k ∧ Q k H' := by
  obtain ⟨r, B, c, rfl, hd, hr, h⟩ := h
  refine ⟨r, B, c, rfl, hd, hr, ?_⟩
  cases e : g r B with
  | ok s B1 =>
    rw [e] at h
    cases s with
    | dat d =>
      cases d <;> first | exact h.elim | exact fun c' v st hd' hs => ⟨_, rs_bool hs, h c' st hd'⟩
    | ref k => exact h.elim
    | _ => exact h.elim
  | exc x fs B1 => rw [e] at h; exact h
  | bad => rw [e] at h; exact h.elim
section
variable {X : Cx} {W : WX} {pos : Pos} {a b d : Expr} {ga gb gd : GE} {f f' : GP}
theorem t_cmp {op : CmpOp} (h : PrimOp X (compareOp op) f) (ha : PE X a (rdE X.K X.mg W ga)) (hb : PE X b (rdE X.K X.mg W gb)) (hm : behindInMarks op b = false) : PT X (.Compare a [op] [b] pos) (rdT X.K X.mg W (gP2 f ga gb)) := by
  obtain ⟨r, ho, hp⟩ := h
  refine PT_le (pt_cmpR ho ha hb hm) fun σ H Q h => rdE_mono (rd_two (rd_test h)) fun v H1 h => rdE_mono h fun u H2 h2 => ?_
  obtain ⟨c, s, t, B, ρ, e, hd, hr, hs, ht, h3⟩ := h2
  subst e
  exact hp s t v u c B _ hd hs ht (finP_of h3)
theorem t_chain {op op' : CmpOp} (h : PrimOp X (compareOp op) f) (h' : PrimOp X (compareOp op') f') (ha : PE X a (rdE X.K X.mg W ga)) (hb : PE X b (rdE X.K X.mg W gb)) (hc : PE X d (rdE X.K X.mg W gd))
    (hm : lastMarks [op, op'] [b, d] = false) : PT X (.Compare a [op, op'] [b, d] pos) (rdT X.K X.mg W (gChain f f' ga gb gd)) := by
  obtain ⟨r, ho, hp⟩ := h
  obtain ⟨r', ho', hp'⟩ := h'
  refine PT_le (pt_chain ho ho' ha hb hc hm) fun σ H Q h => rdE_mono (rd_two (rd_test h)) fun v H1 h => rdE_mono h fun u H2 h2 => ?_
  obtain ⟨c, s, t, B, ρ, e, hd, hr, hs, ht, h⟩ := h2
  subst e
  refine hp s t v u c B _ hd hs ht ?_
  cases e : f [s, t] B with
  | none => rw [e] at h; exact h.elim
  | some q =>
    obtain ⟨z, B1⟩ := q
    rw [e] at h
    intro c' x st hd' hz
    cases z with
    | dat z =>
      cases z with
      | bool k =>
        refine ⟨k, rs_bool hz, ?_⟩
        cases k with
        | true =>
          refine iteT (rdE_mono (fin_bind hd' (hr.mono st) (Fin.step st h)) fun w' H4 h4 => ?_)
          obtain ⟨c2, s2, B2, e2, st2, hd2, hr2, hs2, h2⟩ := h4
          subst e2
          exact hp' t s2 u w' c2 B2 _ hd2 (RS.mono (st.trans st2) ht) hs2 (finP_of h2)
        | false => exact iteF (h c' (.bl false) st hd' (.bl false))
      | _ => exact h.elim
    | ref k => exact h.elim
    | _ => exact h.elim
end
/-! ### the law's own def -/
theorem law_mk {P : Program} {w : World} {K : PySem.W.Frag} {mg : Str → Option Value} {x y : Str} {st : Stmt} {fa : Addr} {k : Nat} {m : GF} (D : Df K mg x st [y]) (hfa : mg x = some (.ref fa))
    (h : ∀ (f : Addr) (fd : FuncData), Fun K x x st f fd → ∀ base : Heap, K.In base → base.Ns mainGlobals mg → FnG P w K mg base k f fd [y] (spM K mg 1 m)) :
    ∃ fd : FuncData, (∀ (s : Shared) (u : Value), BindsTo s fd ⟨[u], []⟩ [(y, u)]) ∧ ∀ base : Heap, K.In base → base.Ns mainGlobals mg → FnG P w K mg base k fa fd [y] (spM K mg 1 m) := by
  obtain ⟨f, fd, h1, F, hb⟩ := D
  rw [hfa] at h1
  cases h1
  exact ⟨fd, fun s u => .of_eq (hb [u] rfl), h fa fd F⟩
/-- an own error class: its facts -/
theorem xcd_mk {P : Program} {w : World} {K : PySem.W.Frag} {mg : Str → Option Value} {base : Heap} {x qual : Str} {st : Stmt} {C fI : Addr} {fd : FuncData} {ps : List Str} {f1 : Str} {fl : List Str} (hm : mg x = some (.ref C)) (T : OexC K C) (hno : ∀ f ∈ f1 :: fl, PySem.W.findIn K (.ref C) f = some none)
    (iC : PySem.W.findIn K (.ref C) "__init__" = some (some (.ref fI))) (tI : PySem.W.typeIn K (.ref fI) = some (.type "function")) (F : Fun K "__init__" qual st fI fd) (hb : Binds K fd ps []) (xf : XfC K C) (ex : PySem.W.exmOne K (.ref C) (.ref C) = some true)
    (Sc : FnScope ps ps (defScope st)) (hps : ps.length = fl.length + 2) (hsm : fl.length ≤ 800)
    (hbody : ∀ (cdv : Value) (A : Around) (outer : List Env) (s : Shared) (H : Hp) (E : XK), ∃ (e0 : Expr) (p0 : Pos) (s1 : Stmt) (r : List Stmt) (t : Str) (l : List (Str × Nat)), defBody st = .Expr e0 p0 :: s1 :: r ∧ l.map (·.1) = fl ∧ l.map (·.2) = (List.range fl.length).map (· + 2) ∧
      PE (cxOf (L2.CX P w) P w K mg base ps qual (defScope st) fI cdv A outer s H E) e0 (tVeI K (tCons (tVar 0) (tCons (tC (.str t)) tNil))) ∧ swapsWith e0 none p0.line (cxOf (L2.CX P w) P w K mg base ps qual (defScope st) fI cdv A outer s H E).env = pure false ∧
      PS (cxOf (L2.CX P w) P w K mg base ps qual (defScope st) fI cdv A outer s H E) s1 (tOst K f1 (tVar 0) (tVar 1)) ∧ XBs (cxOf (L2.CX P w) P w K mg base ps qual (defScope st) fI cdv A outer s H E) r l) : XcD P w K mg base 1 x ps (f1 :: fl) :=
  ⟨C, fI, fd, hm, T, hno, iC, tI, init_ok (k := 0) F Sc hps (by omega) hsm hbody, hb, xf, ex⟩
/-- what the text says of an own error class with an __init__ -/
structure XcF (K : PySem.W.Frag) (mg : Str → Option Value) (x qual : Str) (st : Stmt) (ps fl : List Str) (b : Str) : Prop where
  ex : ∃ C fI fd D, mg x = some (.ref C) ∧ OexC K C ∧ (∀ f ∈ fl, PySem.W.findIn K (.ref C) f = some none) ∧ PySem.W.findIn K (.ref C) "__init__" = some (some (.ref fI)) ∧ PySem.W.typeIn K (.ref fI) = some (.type "function") ∧
    Fun K "__init__" qual st fI fd ∧ Binds K fd ps [] ∧ XfC K C ∧ PySem.W.exmOne K (.ref C) (.ref C) = some true ∧ mg b = some (.ref D) ∧ BsC K D
inductive AllNo (K : PySem.W.Frag) (C : Addr) : List Str → Prop
  | nil : AllNo K C []
  | cons {f : Str} {l : List Str} : PySem.W.findIn K (.ref C) f = some none → AllNo K C l → AllNo K C (f :: l)
theorem AllNo.all {K : PySem.W.Frag} {C : Addr} : ∀ {l : List Str}, AllNo K C l → ∀ f ∈ l, PySem.W.findIn K (.ref C) f = some none
  | _, .cons h t, f, m => by
    rcases List.mem_cons.mp m with e | m
    · rw [e]; exact h
    · exact AllNo.all t f m
theorem xcf_mk {K : PySem.W.Frag} {h : Heap} {mg : Str → Option Value} {x qual b : Str} {st : Stmt} {ps fl : List Str} {C D f : Addr} {nm q : Str} {N : Addr} {bs bm : List Value} {sn : List Str} {sub : List Value} {ab : Bool} {col : Option Bool} {dd : Option Addr} {k0 k1 k2 k3 k5 : Option Value}
    {oc : Value} {od an : Option Addr} {osl : Array (Option Value)} {kV doc pm cdv ct : Value} (X : K.In h) (G : h.Ns mainGlobals mg)
    (a : PySem.W.nsIn K mainGlobals x = some (some (.ref C))) (xL : K.lookup C = some (PySem.excClassObj nm q C N bs bm true sn sub ab col dd k0 k1 k2 k3 k5 "ValueError.__new__")) (rv : PySem.HandSPX.refsVE bm = true) (sa : PySem.W.findIn K (.ref C) "__setattr__" = some (some (.builtin "object.__setattr__")))
    (ga : PySem.W.findIn K (.ref C) "__getattribute__" = some (some (.builtin "BaseException.__getattribute__"))) (gg : PySem.W.findIn K (.ref C) "__getattr__" = some none) (no : AllNo K C fl) (iC : PySem.W.findIn K (.ref C) "__init__" = some (some (.ref f))) (tI : PySem.W.typeIn K (.ref f) = some (.type "function"))
    (l : K.lookup f = some ⟨oc, od, .func (PySem.W.fnOf "__init__" qual (defArgs st) (defBody st) (defScope st) .none kV doc pm an cdv ct), osl⟩) (c : PySem.W.codeIn K cdv qual = true) (k : PySem.W.keepIn K (.ref f) = true) (kC : PySem.W.keepIn K (.ref C) = true) (eC : PySem.W.subIn K (.ref C) (.type "BaseException") = some true)
    (tC : PySem.W.typeIn K (.ref C) = some (.type "type")) (hC : PySem.W.hasDictIn K C = true) (sC : PySem.W.subIn K (.ref C) (.ref C) = some true) (aB : PySem.W.nsIn K mainGlobals b = some (some (.ref D))) (rB : PySem.W.readsIn K D (.type "type") = true)
    (gB : PySem.W.specialIn K (.ref D) "__getattribute__" = some (some (.builtin "type.__getattribute__"))) (fB : PySem.W.findCls K (.ref D) (.type "type") "__init__" = some (.val (.builtin "ValueError.__init__")))
    (bnd : ∀ (kV doc pm : Value) (an : Option Addr) (cdv ct : Value) (us : List Value), us.length = ps.length → bindArgs (PySem.W.fnOf "__init__" qual (defArgs st) (defBody st) (defScope st) .none kV doc pm an cdv ct) ⟨us, []⟩ = pure (ps.zip us)) : XcF K mg x qual st ps fl b :=
  ⟨C, f, _, D, PySem.W.mg_of X G a, ⟨⟨nm, q, N, bs, bm, sn, sub, ab, col, dd, k0, k1, k2, k3, k5, xL, rv⟩, sa, eC, tC, kC⟩, no.all, iC, tI, fun_mk (st := st) l c k, (fun_mk (st := st) l c k).binds bnd, ⟨ga, gg, eC, hC⟩, PySem.W.exm_ref eC hC tC sC, PySem.W.mg_of X G aB, rB, gB, fB⟩
theorem ci_of {K : PySem.W.Frag} {h : Heap} {mg : Str → Option Value} {x : Str} {i : Int} {t : Tok} (X : K.In h) (G : h.Ns mainGlobals mg) (a : PySem.W.nsIn K mainGlobals x = some (some (.int i t))) : ∃ t, mg x = some (.int i t) := ⟨t, PySem.W.mg_of X G a⟩
theorem cs_of {K : PySem.W.Frag} {h : Heap} {mg : Str → Option Value} {x y : Str} {t : Tok} (X : K.In h) (G : h.Ns mainGlobals mg) (a : PySem.W.nsIn K mainGlobals x = some (some (.str y t))) : ∃ t, mg x = some (.str y t) := ⟨t, PySem.W.mg_of X G a⟩
end PN

set_option maxRecDepth 100000
set_option maxHeartbeats 4000000
/-! PN, 18th part: evaluators at work: words for the laws' mathematics. -/
namespace PN
open PySem L2
/-! ### stores of data -/
def Flat (B : Bs) : Prop := ∀ (k : Nat) (o : MO), B[k]? = some (some o) → refsO 0 o
theorem refsS_up {n : Nat} {s : S} (h : refsS 0 s) : refsS n s := by
  cases s with
  | ref k => exact absurd h (Nat.not_lt_zero k)
  | _ => trivial
theorem refsO_up {n : Nat} {o : MO} (h : refsO 0 o) : refsO n o := by
  cases o with
  | lst ss => exact fun s m => refsS_up (h s m)
  | dK l => exact fun s m => refsS_up (h s m)
  | dT l => exact fun s m => refsS_up (h s m)
  | ins c l => exact fun s m => refsS_up (h s m)
theorem Flat.cut {B : Bs} (h : Flat B) (n : Nat) : CutB n B := fun k o _ e => refsO_up (h k o e)
theorem endF_dat {B : Bs} (h : Flat B) (n : Nat) (d : PyData) : endF n (.dat d) B = .ok (.dat d) (B.take n) := by
  unfold endF
  rw [if_pos ⟨trivial, h.cut n⟩]
theorem endF_self {B : Bs} (h : Flat B) (d : PyData) : endF B.length (.dat d) B = .ok (.dat d) B := by
  rw [endF_dat h, List.take_length]
theorem endX_dat {B : Bs} (h : Flat B) {n : Nat} {x : Str} {fs : List (Str × S)} (hf : ∀ p ∈ fs, refsS 0 p.2) : endX n x fs B = .exc x fs (B.take n) := by
  unfold endX
  rw [if_pos ⟨fun p m => refsS_up (hf p m), h.cut n⟩]
theorem Flat.nil : Flat [] := fun k o e => by simp at e
theorem Flat.cons {o : Option MO} {B : Bs} (h1 : ∀ x, o = some x → refsO 0 x) (h : Flat B) : Flat (o :: B) := fun k x e => by
  cases k with
  | zero => exact h1 x (by simpa using e)
  | succ k => exact h k x (by simpa using e)
theorem Flat.tail {o : Option MO} {B : Bs} (h : Flat (o :: B)) : Flat B := fun k x e => h (k + 1) x (by simpa using e)
theorem Flat.app {B C : Bs} (h : Flat B) (h2 : Flat C) : Flat (B ++ C) := fun k x e => by
  by_cases q : k < B.length
  · rw [List.getElem?_append_left q] at e; exact h k x e
  · rw [List.getElem?_append_right (by omega)] at e; exact h2 _ x e
theorem datsOf_map (ds : List PyData) : datsOf (ds.map .dat) = some ds := by
  induction ds with
  | nil => rfl
  | cons d ds ih => show (datsOf (ds.map .dat)).map (d :: ·) = _; rw [ih]; rfl
theorem refs_dats (n : Nat) (ds : List PyData) : ∀ s ∈ ds.map S.dat, refsS n s := fun s m => by
  obtain ⟨d, _, rfl⟩ := List.mem_map.mp m
  trivial
theorem flat_lst (ds : List PyData) : ∀ x, some (MO.lst (ds.map .dat)) = some x → refsO 0 x := fun x e => by
  cases e
  exact refs_dats 0 ds
/-! ### items -/
theorem atI_nat {α : Type} (xs : List α) (k : Nat) : atI xs (k : Int) = xs[k]? := by
  unfold atI ixN
  rw [if_pos (Int.natCast_nonneg k)]
  by_cases h : k < xs.length
  · rw [if_pos (by omega)]; simp
  · rw [if_neg (by omega), List.getElem?_eq_none (by omega)]; rfl
theorem atI_0 {α : Type} (xs : List α) : atI xs 0 = xs[0]? := atI_nat xs 0
theorem atI_1 {α : Type} (xs : List α) : atI xs 1 = xs[1]? := atI_nat xs 1
theorem atI_2 {α : Type} (xs : List α) : atI xs 2 = xs[2]? := atI_nat xs 2
theorem atI_3 {α : Type} (xs : List α) : atI xs 3 = xs[3]? := atI_nat xs 3
theorem ixN_0 {n : Nat} (h : 0 < n) : ixN n 0 = some 0 := by unfold ixN; rw [if_pos (by omega), if_pos (by omega)]; rfl
theorem ixN_1 {n : Nat} (h : 1 < n) : ixN n 1 = some 1 := by unfold ixN; rw [if_pos (by omega), if_pos (by omega)]; rfl
theorem ixN_2 {n : Nat} (h : 2 < n) : ixN n 2 = some 2 := by unfold ixN; rw [if_pos (by omega), if_pos (by omega)]; rfl
theorem atI_in {α : Type} {xs : List α} {i : Int} (h0 : 0 ≤ i) (h : i < xs.length) : ∃ x, atI xs i = some x ∧ x ∈ xs := by
  obtain ⟨k, rfl⟩ : ∃ k : Nat, i = k := ⟨i.toNat, by omega⟩
  have hk : k < xs.length := by omega
  exact ⟨xs[k], by rw [atI_nat, List.getElem?_eq_getElem hk], List.getElem_mem hk⟩
theorem atI_map {α β : Type} (f : α → β) (xs : List α) (i : Int) : atI (xs.map f) i = (atI xs i).map f := by
  unfold atI
  rw [List.length_map]
  cases ixN xs.length i with
  | none => rfl
  | some j => simp
/-! ### the feed -/
abbrev fcell (c : List PyData) (a : Nat) (r : Int) : Option MO := some (.lst [.dat (.list c), .dat (.int (a : Int)), .dat (.int r)])
theorem flat_feed {c : List PyData} {a : Nat} {r : Int} {B : Bs} (h : Flat B) : Flat (fcell c a r :: B) := h.cons fun x e => by
  cases e
  intro s m
  simp only [List.mem_cons, List.not_mem_nil, or_false] at m
  rcases m with rfl | rfl | rfl <;> trivial
/-- F draws from the feed at place 0 at most D times, and makes data as P tells -/
def Draws (c : List PyData) (D : Nat) (P : PyData → Prop) (F : Bs → Re) : Prop := ∀ (a : Nat) (r : Int) (B0 : Bs), a + D ≤ 10 ^ 9 → 0 ≤ r → Flat B0 →
  ∃ (d : PyData) (a' : Nat) (r' : Int), F (fcell c a r :: B0) = .ok (.dat d) (fcell c a' r' :: B0) ∧ a' ≤ a + D ∧ 0 ≤ r' ∧ P d
theorem Draws.imp {c : List PyData} {D : Nat} {P P' : PyData → Prop} {F : Bs → Re} (h : Draws c D P F) (f : ∀ d, P d → P' d) : Draws c D P' F := fun a r B0 h1 h2 h3 => by
  obtain ⟨d, a', r', e, g1, g2, g3⟩ := h a r B0 h1 h2 h3
  exact ⟨d, a', r', e, g1, g2, f d g3⟩
end PN

set_option maxRecDepth 100000
set_option maxHeartbeats 4000000
/-! PN, 19th part: evaluation step by step: each applied evaluator as a frame around its first part. -/
namespace PN
open PySem L2
namespace Ev
/-! ### frames -/
def k2 (x : Re) (f : GP) (gb : GE) (r : En) : Re := match x with
  | .ok s B => gBind gb (fun t _ B => liftP (f [s, t] B)) r B
  | .exc c fs B => .exc c fs B
  | .bad => .bad
def k1 (x : Re) (f : GP) (s : S) : Re := match x with
  | .ok t B => liftP (f [s, t] B)
  | .exc c fs B => .exc c fs B
  | .bad => .bad
def k0 (x : Re) (f : GP) : Re := match x with
  | .ok t B => liftP (f [t] B)
  | .exc c fs B => .exc c fs B
  | .bad => .bad
def kc (x : Re) (gr : GA) (r : En) : Ra := match x with
  | .ok s B => aBindA gr (fun ss _ B => .ok (s :: ss) B) r B
  | .exc c fs B => .exc c fs B
  | .bad => .bad
def kd (x : Ra) (s : S) : Ra := match x with
  | .ok ss B => .ok (s :: ss) B
  | .exc c fs B => .exc c fs B
  | .bad => .bad
def kN (x : Ra) (f : GP) : Re := match x with
  | .ok ss B => liftP (f ss B)
  | .exc c fs B => .exc c fs B
  | .bad => .bad
def kCall (x : Ra) (n : Nat) (m : GF) : Re := match x with
  | .ok ss B => if ss.length = n then m ss B else .bad
  | .exc c fs B => .exc c fs B
  | .bad => .bad
def kIf (x : Re) (ga gb : GE) (r : En) : Re := match x with
  | .ok (.dat (.bool true)) B => ga r B
  | .ok (.dat (.bool false)) B => gb r B
  | .exc c fs B => .exc c fs B
  | _ => .bad
def kAnd (x : Re) (gb : GE) (r : En) : Re := match x with
  | .ok (.dat (.bool true)) B => gb r B
  | .ok (.dat (.bool false)) B => .ok (.dat (.bool false)) B
  | .exc c fs B => .exc c fs B
  | _ => .bad
def kOr (x : Re) (gb : GE) (r : En) : Re := match x with
  | .ok (.dat (.bool true)) B => .ok (.dat (.bool true)) B
  | .ok (.dat (.bool false)) B => gb r B
  | .exc c fs B => .exc c fs B
  | _ => .bad
def kNot (x : Re) : Re := match x with
  | .ok (.dat (.bool b)) B => .ok (.dat (.bool !b)) B
  | .exc c fs B => .exc c fs B
  | _ => .bad
def kS (x : Rs) (g : GS) : Rs := match x with
  | .nx r B => g r B
  | e => e
def kSIf (x : Re) (g1 g2 : GS) (r : En) : Rs := match x with
  | .ok (.dat (.bool true)) B => g1 r B
  | .ok (.dat (.bool false)) B => g2 r B
  | .exc c fs B => .exc c fs r B
  | _ => .bad
def kAsg (x : Re) (t : GT) (r : En) : Rs := match x with
  | .ok s B => (match t s r with | some r1 => .nx r1 B | none => .bad)
  | .exc c fs B => .exc c fs r B
  | .bad => .bad
def kO (o : Option En) (B : Bs) : Rs := match o with | some r1 => .nx r1 B | none => .bad
def kRet (x : Re) (r : En) : Rs := match x with
  | .ok s B => .ret s B
  | .exc c fs B => .exc c fs r B
  | .bad => .bad
def kDrop (x : Re) (r : En) : Rs := match x with
  | .ok s B => .nx r B
  | .exc c fs B => .exc c fs r B
  | .bad => .bad
def kSet (x : Re) (go gi : GE) (r : En) : Rs := match x with
  | .ok v B1 => (match go r B1 with
    | .ok o B2 => (match gi r B2 with
      | .ok i B3 => (match pSetL B3 o i v with | some B4 => .nx r B4 | none => .bad)
      | .exc x fs B3 => .exc x fs r B3
      | .bad => .bad)
    | .exc x fs B2 => .exc x fs r B2
    | .bad => .bad)
  | .exc x fs B1 => .exc x fs r B1
  | .bad => .bad
def kSet2 (x : Re) (v : S) (gi : GE) (r : En) : Rs := match x with
  | .ok o B2 => (match gi r B2 with
      | .ok i B3 => (match pSetL B3 o i v with | some B4 => .nx r B4 | none => .bad)
      | .exc x fs B3 => .exc x fs r B3
      | .bad => .bad)
  | .exc x fs B2 => .exc x fs r B2
  | .bad => .bad
def kSet3 (x : Re) (v o : S) (r : En) : Rs := match x with
  | .ok i B3 => (match pSetL B3 o i v with | some B4 => .nx r B4 | none => .bad)
  | .exc x fs B3 => .exc x fs r B3
  | .bad => .bad
def kSet4 (o : Option Bs) (r : En) : Rs := match o with | some B4 => .nx r B4 | none => .bad
noncomputable def kFn (x : Rs) (n : Nat) : Re := match x with
  | .nx _ B1 => endF n (.dat .none) B1
  | .ret s B1 => endF n s B1
  | .exc x fs _ B1 => endX n x fs B1
  | _ => .bad
def kFnK (x : Rs) : Re := match x with
  | .nx _ B1 => .ok (.dat .none) B1
  | .ret s B1 => .ok s B1
  | .exc x fs _ B1 => .exc x fs B1
  | _ => .bad
def kMt (x : Re) (k : Bool) (f : GP) (ga : GA) (r : En) : Re := match x with
  | .ok s B => if isK k B s = true then gBindA ga (fun ss _ B2 => liftP (f (s :: ss) B2)) r B else .bad
  | .exc c fs B => .exc c fs B
  | .bad => .bad
def kMt2 (x : Ra) (f : GP) (s : S) : Re := match x with
  | .ok ss B => liftP (f (s :: ss) B)
  | .exc c fs B => .exc c fs B
  | .bad => .bad
def kIs (x : Re) (T : String) : Re := match x with
  | .ok s B => (match valD B s with
    | some d => if tyD d = "dict" then .bad else if isTy (tyD d) T = true then .ok (.dat (.bool true)) B else .ok (.dat (.bool false)) B
    | none => .bad)
  | .exc c fs B => .exc c fs B
  | .bad => .bad
def kI (o : Option PyData) (T : String) (B : Bs) : Re := match o with
  | some d => if tyD d = "dict" then .bad else if isTy (tyD d) T = true then .ok (.dat (.bool true)) B else .ok (.dat (.bool false)) B
  | none => .bad
def kCh (x : Re) (f f' : GP) (gb gc : GE) (r : En) : Re := match x with
  | .ok s B => gBind gb (fun t r B => match f [s, t] B with
    | some (.dat (.bool true), B1) => gBind gc (fun u _ B2 => liftP (f' [t, u] B2)) r B1
    | some (.dat (.bool false), B1) => .ok (.dat (.bool false)) B1
    | _ => .bad) r B
  | .exc c fs B => .exc c fs B
  | .bad => .bad
def kCh2 (x : Re) (f f' : GP) (s : S) (gc : GE) (r : En) : Re := match x with
  | .ok t B => (match f [s, t] B with
    | some (.dat (.bool true), B1) => gBind gc (fun u _ B2 => liftP (f' [t, u] B2)) r B1
    | some (.dat (.bool false), B1) => .ok (.dat (.bool false)) B1
    | _ => .bad)
  | .exc c fs B => .exc c fs B
  | .bad => .bad
def kCh3 (o : Option (S × Bs)) (f' : GP) (t : S) (gc : GE) (r : En) : Re := match o with
    | some (.dat (.bool true), B1) => gBind gc (fun u _ B2 => liftP (f' [t, u] B2)) r B1
    | some (.dat (.bool false), B1) => .ok (.dat (.bool false)) B1
    | _ => .bad
def kSl (x : Re) (gl gh : GE) (r : En) : Re := match x with
  | .ok s B => gBind gl (fun l r B => match partD l with
    | some _ => gBind gh (fun h _ B => liftP (pSl [s, l, h] B)) r B
    | none => .bad) r B
  | .exc c fs B => .exc c fs B
  | .bad => .bad
def kSl2 (x : Re) (s : S) (gh : GE) (r : En) : Re := match x with
  | .ok l B => (match partD l with
    | some _ => gBind gh (fun h _ B => liftP (pSl [s, l, h] B)) r B
    | none => .bad)
  | .exc c fs B => .exc c fs B
  | .bad => .bad
def kSl3 (x : Re) (s l : S) : Re := match x with
  | .ok h B => liftP (pSl [s, l, h] B)
  | .exc c fs B => .exc c fs B
  | .bad => .bad
def kPart (x : Re) : Re := match x with
  | .ok (.dat (.int i)) B1 => .ok (.dat (.int i)) B1
  | .exc x fs B1 => .exc x fs B1
  | _ => .bad
def kSh (x : Re) : Re := match x with
  | .ok s B => liftP (shutS s B)
  | .exc c fs B => .exc c fs B
  | .bad => .bad
end Ev
open Ev
section
variable {f f' : GP} {ga gb gc gt gl gh go gi : GE} {gr gaa : GA} {r r1 : En} {B : Bs} {s v o : S} {d : PyData} {x : Str} {fs : List (Str × S)} {n : Nat} {m : GF} {t : GT} {g1 g2 body : GS} {ss : List S} {k : Bool} {b : Bool} {T : String}
theorem e_P2 : gP2 f ga gb r B = k2 (ga r B) f gb r := by unfold gP2 gBind k2; cases ga r B <;> rfl
theorem e_k2 : k2 (.ok s B) f gb r = k1 (gb r B) f s := by cases h : gb r B <;> simp only [k2, gBind, k1, h]
theorem e_k1 : k1 (.ok v B) f s = liftP (f [s, v] B) := rfl
theorem e_P1 : gP1 f ga r B = k0 (ga r B) f := by unfold gP1 gBind k0; cases ga r B <;> rfl
theorem e_k0 : k0 (.ok v B) f = liftP (f [v] B) := rfl
theorem e_lift {B1 : Bs} : liftP (some (s, B1)) = .ok s B1 := rfl
theorem e_C : gC s r B = .ok s B := rfl
theorem e_V {o : Option (Option S)} : gVar n r B = match r[n]? with | some (some s) => .ok s B | _ => .bad := rfl
theorem e_nil : gNil r B = .ok [] B := rfl
theorem e_cons : PN.gCons ga gr r B = kc (ga r B) gr r := by unfold PN.gCons aBind kc; cases ga r B <;> rfl
theorem e_kc : kc (.ok s B) gr r = kd (gr r B) s := by cases h : gr r B <;> simp only [kc, aBindA, kd, h]
theorem e_kd : kd (.ok ss B) s = .ok (s :: ss) B := rfl
theorem e_PN : gPN f gr r B = kN (gr r B) f := by unfold gPN gBindA kN; cases gr r B <;> rfl
theorem e_kN : kN (.ok ss B) f = liftP (f ss B) := rfl
theorem e_call : gCall n m gr r B = kCall (gr r B) n m := by unfold gCall gBindA kCall; cases gr r B <;> rfl
theorem e_kCall : kCall (.ok ss B) n m = if ss.length = n then m ss B else .bad := rfl
theorem e_if : gIf gt ga gb r B = kIf (gt r B) ga gb r := by unfold gIf kIf; rcases gt r B with ⟨s, B⟩ | ⟨a, b, c⟩ | _ <;> first | rfl | (cases s <;> first | rfl | (rename_i d; cases d <;> first | rfl | (rename_i b; cases b <;> rfl)))
theorem e_kIf_t : kIf (.ok (.dat (.bool true)) B) ga gb r = ga r B := rfl
theorem e_kIf_f : kIf (.ok (.dat (.bool false)) B) ga gb r = gb r B := rfl
theorem e_and : gAnd ga gb r B = kAnd (ga r B) gb r := by unfold gAnd kAnd; rcases ga r B with ⟨s, B⟩ | ⟨a, b, c⟩ | _ <;> first | rfl | (cases s <;> first | rfl | (rename_i d; cases d <;> first | rfl | (rename_i b; cases b <;> rfl)))
theorem e_kAnd_t : kAnd (.ok (.dat (.bool true)) B) gb r = gb r B := rfl
theorem e_kAnd_f : kAnd (.ok (.dat (.bool false)) B) gb r = .ok (.dat (.bool false)) B := rfl
theorem e_or : gOr ga gb r B = kOr (ga r B) gb r := by unfold gOr kOr; rcases ga r B with ⟨s, B⟩ | ⟨a, b, c⟩ | _ <;> first | rfl | (cases s <;> first | rfl | (rename_i d; cases d <;> first | rfl | (rename_i b; cases b <;> rfl)))
theorem e_kOr_t : kOr (.ok (.dat (.bool true)) B) gb r = .ok (.dat (.bool true)) B := rfl
theorem e_kOr_f : kOr (.ok (.dat (.bool false)) B) gb r = gb r B := rfl
theorem e_not : gNot ga r B = kNot (ga r B) := by unfold gNot kNot; rcases ga r B with ⟨s, B⟩ | ⟨a, b, c⟩ | _ <;> first | rfl | (cases s <;> first | rfl | (rename_i d; cases d <;> first | rfl | (rename_i b; cases b <;> rfl)))
theorem e_kNot : kNot (.ok (.dat (.bool b)) B) = .ok (.dat (.bool !b)) B := rfl
theorem e_seq : sSeq g1 g2 r B = kS (g1 r B) g2 := by unfold sSeq kS; cases g1 r B <;> rfl
theorem e_kS_nx : kS (.nx r B) g1 = g1 r B := rfl
theorem e_kS_ret : kS (.ret s B) g1 = .ret s B := rfl
theorem e_kS_brk : kS (.brk r B) g1 = .brk r B := rfl
theorem e_kS_ct : kS (.ct r B) g1 = .ct r B := rfl
theorem e_kS_exc : kS (.exc x fs r B) g1 = .exc x fs r B := rfl
theorem e_pass : sPass r B = .nx r B := rfl
theorem e_brk : sBrk r B = .brk r B := rfl
theorem e_ct : sCt r B = .ct r B := rfl
theorem e_sif : sIf gt g1 g2 r B = kSIf (gt r B) g1 g2 r := by unfold sIf kSIf; rcases gt r B with ⟨s, B⟩ | ⟨a, b, c⟩ | _ <;> first | rfl | (cases s <;> first | rfl | (rename_i d; cases d <;> first | rfl | (rename_i b; cases b <;> rfl)))
theorem e_kSIf_t : kSIf (.ok (.dat (.bool true)) B) g1 g2 r = g1 r B := rfl
theorem e_kSIf_f : kSIf (.ok (.dat (.bool false)) B) g1 g2 r = g2 r B := rfl
theorem e_asg : sAsg ga t r B = kAsg (ga r B) t r := by unfold sAsg kAsg; cases ga r B <;> rfl
theorem e_kAsg : kAsg (.ok s B) t r = kO (t s r) B := rfl
theorem e_kO : kO (some r) B = .nx r B := rfl
theorem e_name : tName n s r = some (r.set n (some s)) := rfl
theorem e_ret : sRet ga r B = kRet (ga r B) r := by unfold sRet kRet; cases ga r B <;> rfl
theorem e_kRet : kRet (.ok s B) r = .ret s B := rfl
theorem e_kRet_x : kRet (.exc x fs B) r = .exc x fs r B := rfl
theorem e_drop : sDrop ga r B = kDrop (ga r B) r := by unfold sDrop kDrop; cases ga r B <;> rfl
theorem e_kDrop : kDrop (.ok s B) r = .nx r B := rfl
theorem e_set : sSetI ga go gi r B = kSet (ga r B) go gi r := by unfold sSetI kSet; cases ga r B <;> rfl
theorem e_kSet : kSet (.ok s B) go gi r = kSet2 (go r B) s gi r := rfl
theorem e_kSet2 : kSet2 (.ok o B) s gi r = kSet3 (gi r B) s o r := rfl
theorem e_kSet3 : kSet3 (.ok v B) s o r = kSet4 (pSetL B o v s) r := rfl
theorem e_kSet4 : kSet4 (some B) r = .nx r B := rfl
theorem e_fn : gFn n body ss B = kFn (body (ss.map some ++ List.replicate (n - ss.length) none) B) B.length := by unfold gFn kFn; cases body (ss.map some ++ List.replicate (n - ss.length) none) B <;> rfl
theorem e_kFn_ret : kFn (.ret s B) n = endF n s B := rfl
theorem e_kFn_nx : kFn (.nx r B) n = endF n (.dat .none) B := rfl
theorem e_kFn_exc : kFn (.exc x fs r B) n = endX n x fs B := rfl
theorem e_fnK : gFnK n body ss B = kFnK (body (ss.map some ++ List.replicate (n - ss.length) none) B) := by unfold gFnK kFnK; cases body (ss.map some ++ List.replicate (n - ss.length) none) B <;> rfl
theorem e_kFnK_ret : kFnK (.ret s B) = .ok s B := rfl
theorem e_mt : gMt k f go gr r B = kMt (go r B) k f gr r := by unfold gMt gBind kMt; cases go r B <;> rfl
theorem e_kMt (h : isK k B s = true) : kMt (.ok s B) k f gr r = kMt2 (gr r B) f s := by
  show (if isK k B s = true then gBindA gr _ r B else .bad) = _
  rw [if_pos h]
  unfold gBindA kMt2
  cases gr r B <;> rfl
theorem e_kMt2 : kMt2 (.ok ss B) f s = liftP (f (s :: ss) B) := rfl
theorem e_isi : gIsi T ga r B = kIs (ga r B) T := by unfold gIsi gBind kIs; cases ga r B <;> rfl
theorem e_kIs : kIs (.ok s B) T = kI (valD B s) T B := rfl
theorem e_kI : kI (some d) T B = if tyD d = "dict" then .bad else if isTy (tyD d) T = true then .ok (.dat (.bool true)) B else .ok (.dat (.bool false)) B := rfl
theorem e_chain : gChain f f' ga gb gc r B = kCh (ga r B) f f' gb gc r := by unfold gChain gBind kCh; cases ga r B <;> rfl
theorem e_kCh : kCh (.ok s B) f f' gb gc r = kCh2 (gb r B) f f' s gc r := by cases h : gb r B <;> simp only [kCh, gBind, kCh2, h]
theorem e_kCh2 : kCh2 (.ok v B) f f' s gc r = kCh3 (f [s, v] B) f' v gc r := rfl
theorem e_kCh3_t {B1 : Bs} : kCh3 (some (.dat (.bool true), B1)) f' v gc r = k1 (gc r B1) f' v := by cases h : gc r B1 <;> simp only [kCh3, gBind, k1, h]
theorem e_kCh3_f {B1 : Bs} : kCh3 (some (.dat (.bool false), B1)) f' v gc r = .ok (.dat (.bool false)) B1 := rfl
theorem e_shut : gShut ga r B = kSh (ga r B) := by unfold gShut gBind kSh; cases ga r B <;> rfl
theorem e_kSh : kSh (.ok s B) = liftP (shutS s B) := rfl
/-! ### values -/
theorem l_dat {ds : List PyData} : asL B (.dat (.list ds)) = some (ds.map .dat) := rfl
theorem l_scr {ns : List Int} : asL B (.scr ns) = some (ns.map fun i => .dat (.int i)) := rfl
theorem l_tup {ds : List PyData} : asL B (.dat (.tuple ds)) = none := rfl
theorem l_str : asL B (.dat (.str x)) = none := rfl
theorem l_int {i : Int} : asL B (.dat (.int i)) = none := rfl
theorem l_ref0 {ss : List S} : asL (some (.lst ss) :: B) (.ref 0) = some ss := rfl
theorem v_dat : valD B (.dat d) = some d := rfl
theorem a_tup {ds : List PyData} : asT (.dat (.tuple ds)) = some (ds.map .dat) := rfl
theorem a_str : asT (.dat (.str x)) = none := rfl
theorem i_list {s : S} {ss : List S} {i : Int} (h : asL B s = some ss) : itemS B s i = atI ss i := by unfold itemS; rw [h]
theorem i_tup {ds : List PyData} {i : Int} : itemS B (.dat (.tuple ds)) i = atI (ds.map .dat) i := rfl
theorem p_ix {i : Int} : pIx [s, .dat (.int i)] B = (itemS B s i).map fun t => (t, B) := rfl
theorem p_gt {e : PyData} : pGt [.dat d, .dat e] B = (cmpD (fun d e => ltS e d) (fun m n => decide (n < m)) d e).bind fun b => bool' b B := rfl
theorem p_lt {e : PyData} : pLt [.dat d, .dat e] B = (cmpD ltS (fun m n => decide (m < n)) d e).bind fun b => bool' b B := rfl
theorem p_ge {e : PyData} : pGe [.dat d, .dat e] B = (cmpD (fun d e => leS e d) (fun m n => decide (n ≤ m)) d e).bind fun b => bool' b B := rfl
theorem p_le {e : PyData} : pLe [.dat d, .dat e] B = (cmpD leS (fun m n => decide (m ≤ n)) d e).bind fun b => bool' b B := rfl
theorem p_gtI {i j : Int} : pGt [.dat (.int i), .dat (.int j)] B = some (.dat (.bool (decide (j < i))), B) := rfl
theorem p_ltI {i j : Int} : pLt [.dat (.int i), .dat (.int j)] B = some (.dat (.bool (decide (i < j))), B) := rfl
theorem p_geI {i j : Int} : pGe [.dat (.int i), .dat (.int j)] B = some (.dat (.bool (decide (j ≤ i))), B) := rfl
theorem p_leI {i j : Int} : pLe [.dat (.int i), .dat (.int j)] B = some (.dat (.bool (decide (i ≤ j))), B) := rfl
theorem p_ltS {i j : Str} : pLt [.dat (.str i), .dat (.str j)] B = some (.dat (.bool (decide (i.cps.toList < j.cps.toList))), B) := rfl
theorem eqv_int (i j : Int) : PyData.eqv (.int i) (.int j) = decide (i = j) := by
  by_cases h : i = j
  · subst h; simp [PyData.eqv]
  · simp [PyData.eqv, h]
theorem p_eqI {i j : Int} : pEq [.dat (.int i), .dat (.int j)] B = some (.dat (.bool (decide (i = j))), B) := by
  show some (S.dat (.bool (PyData.eqv (.int i) (.int j))), B) = _
  rw [eqv_int]
theorem p_neI {i j : Int} : pNe [.dat (.int i), .dat (.int j)] B = some (.dat (.bool (!decide (i = j))), B) := by
  show some (S.dat (.bool (!PyData.eqv (.int i) (.int j))), B) = _
  rw [eqv_int]
theorem eqv_str (i j : Str) : PyData.eqv (.str i) (.str j) = decide (i = j) := by
  by_cases h : i = j
  · subst h; simp [PyData.eqv]
  · simp [PyData.eqv, h]
theorem p_eqS {i j : Str} : pEq [.dat (.str i), .dat (.str j)] B = some (.dat (.bool (decide (i = j))), B) := by
  show some (S.dat (.bool (PyData.eqv (.str i) (.str j))), B) = _
  rw [eqv_str]
theorem p_neS {i j : Str} : pNe [.dat (.str i), .dat (.str j)] B = some (.dat (.bool (!decide (i = j))), B) := by
  show some (S.dat (.bool (!PyData.eqv (.str i) (.str j))), B) = _
  rw [eqv_str]
theorem p_addI {i j : Int} : pAdd [.dat (.int i), .dat (.int j)] B = some (.dat (.int (i + j)), B) := rfl
theorem p_subI {i j : Int} : pSub [.dat (.int i), .dat (.int j)] B = some (.dat (.int (i - j)), B) := rfl
theorem p_negI {i : Int} : pNeg [.dat (.int i)] B = some (.dat (.int (-i)), B) := rfl
theorem p_modI {i j : Int} (h : 0 < j) : pMod [.dat (.int i), .dat (.int j)] B = some (.dat (.int (i % j)), B) := if_pos h
theorem p_fdivI {i j : Int} (h : 0 < j) (h2 : j < 1073741824) : pFdiv [.dat (.int i), .dat (.int j)] B = some (.dat (.int (i / j)), B) := if_pos ⟨h, h2⟩
theorem p_mulI {i j : Int} (h : (-(2 ^ 64) < i ∧ i < 2 ^ 64) ∨ (-(2 ^ 64) < j ∧ j < 2 ^ 64)) : pMul [.dat (.int i), .dat (.int j)] B = some (.dat (.int (i * j)), B) := if_pos h
theorem p_powI {i j : Int} (h : 0 ≤ j ∧ j ≤ 1000000 ∧ i.natAbs < 2 ^ 64) : pPow [.dat (.int i), .dat (.int j)] B = some (.dat (.int (i ^ j.toNat)), B) := if_pos h
theorem p_addS {i j : Str} (h : i.length + j.length ≤ sizeLine) : pAdd [.dat (.str i), .dat (.str j)] B = some (.dat (.str (i ++ j)), B) := if_pos h
theorem p_addT {i j : List PyData} (h : i.length + j.length ≤ sizeLine) : pAdd [.dat (.tuple i), .dat (.tuple j)] B = some (.dat (.tuple (i ++ j)), B) := if_pos h
theorem p_addL {i j : List PyData} (h : i.length + j.length ≤ sizeLine) : pAdd [.dat (.list i), .dat (.list j)] B = some (.dat (.list (i ++ j)), B) := by
  show ((some (i.map S.dat)).bind fun xs => (some (j.map S.dat)).bind fun ys => (datsOf (xs ++ ys)).bind fun ds => if xs.length + ys.length ≤ sizeLine then some (S.dat (.list ds), B) else none) = _
  simp only [Option.bind_some, ← List.map_append, datsOf_map, List.length_map, if_pos h]
theorem p_tup {ds : List PyData} (h : ds.length ≤ sizeLine) : pTup (ds.map .dat) B = some (.dat (.tuple ds), B) := by
  unfold pTup
  rw [List.length_map, if_pos h, datsOf_map]
  rfl
theorem p_lst {ds : List PyData} (h : ds.length ≤ sizeLine) : pLst (ds.map .dat) B = some (.dat (.list ds), B) := by
  unfold pLst
  rw [List.length_map, if_pos h, datsOf_map]
  rfl
theorem sz_small {n : Nat} (h : n ≤ 1000) : n ≤ sizeLine := by rw [sizeLine_eq]; omega
theorem p_lenL {ds : List PyData} : pLen [.dat (.list ds)] B = some (.dat (.int ds.length), B) := by
  show (some ((ds.map S.dat).length)).bind (fun n => int' (n : Int) B) = _
  rw [List.length_map]; rfl
theorem p_lenT {ds : List PyData} : pLen [.dat (.tuple ds)] B = some (.dat (.int ds.length), B) := by
  show (some ((ds.map S.dat).length)).bind (fun n => int' (n : Int) B) = _
  rw [List.length_map]; rfl
theorem p_lenS {y : Str} (h : y.length ≤ sizeLine) : pLen [.dat (.str y)] B = some (.dat (.int y.length), B) := by
  show (if y.length ≤ sizeLine then some y.length else none).bind (fun n => int' (n : Int) B) = _
  rw [if_pos h]; rfl
theorem p_intB {b : Bool} : pInt [.dat (.bool b)] B = some (.dat (.int (if b then 1 else 0)), B) := rfl
theorem p_isN : pIsN [s, .dat .none] B = some (.dat (.bool (isNon s)), B) := rfl
theorem p_notN : pNotN [s, .dat .none] B = some (.dat (.bool (!isNon s)), B) := rfl
theorem e_sl : gSl ga gl gh r B = kSl (ga r B) gl gh r := by
  unfold gSl
  show (match ga r B with | .ok s B1 => _ | .exc x fs B1 => _ | .bad => _) = _
  cases ga r B <;> rfl
theorem e_kSl : kSl (.ok s B) gl gh r = kSl2 (gl r B) s gh r := by cases h : gl r B <;> simp only [kSl, gBind, kSl2, h]
theorem e_kSl2 {l : S} {p : Option Int} (hp : partD l = some p) : kSl2 (.ok l B) s gh r = kSl3 (gh r B) s l := by cases h : gh r B <;> simp only [kSl2, hp, gBind, kSl3, h]
theorem e_kSl2n : kSl2 (.ok (.dat .none) B) s gh r = kSl3 (gh r B) s (.dat .none) := e_kSl2 (p := none) rfl
theorem e_kSl2i {i : Int} : kSl2 (.ok (.dat (.int i)) B) s gh r = kSl3 (gh r B) s (.dat (.int i)) := e_kSl2 (p := some i) rfl
theorem e_kSl3 {l h : S} : kSl3 (.ok h B) s l = liftP (pSl [s, l, h] B) := rfl
theorem e_part : gPart ga r B = kPart (ga r B) := by unfold gPart kPart; rcases ga r B with ⟨s, B⟩ | ⟨a, b, c⟩ | _ <;> first | rfl | (cases s <;> first | rfl | (rename_i d; cases d <;> rfl))
theorem e_kPart {i : Int} : kPart (.ok (.dat (.int i)) B) = .ok (.dat (.int i)) B := rfl
theorem p_sl {l h : S} {lo hi : Option Int} (h1 : partD l = some lo) (h2 : partD h = some hi) : pSl [s, l, h] B = slV B s lo hi := by
  show ((partD l).bind fun lo => (partD h).bind fun hi => slV B s lo hi) = _
  rw [h1, h2]; rfl
end
/-! ### the feed's own cells -/
theorem set_feed2 {c : List PyData} {a : Nat} {r x : Int} {B0 : Bs} : pSetL (fcell c a r :: B0) (.ref 0) (.dat (.int 2)) (.dat (.int x)) = some (fcell c a x :: B0) := rfl
theorem set_feed1 {c : List PyData} {a : Nat} {r : Int} {B0 : Bs} : pSetL (fcell c a r :: B0) (.ref 0) (.dat (.int 1)) (.dat (.int ((a : Int) + 1))) = some (fcell c (a + 1) r :: B0) := by
  show some (some (MO.lst [S.dat (.list c), S.dat (.int ((a : Int) + 1)), S.dat (.int r)]) :: B0) = _
  rw [← Int.natCast_succ]
theorem end_feed {c : List PyData} {a : Nat} {r : Int} {B0 : Bs} (h : Flat B0) (d : PyData) : endF (B0.length + 1) (.dat d) (fcell c a r :: B0) = .ok (.dat d) (fcell c a r :: B0) := endF_self (flat_feed h) d
theorem end_feed2 {c : List PyData} {a : Nat} {r : Int} {B0 C : Bs} (h : Flat B0) (h2 : Flat C) (d : PyData) : endF (B0.length + 1) (.dat d) (fcell c a r :: (B0 ++ C)) = .ok (.dat d) (fcell c a r :: B0) := by
  rw [endF_dat (flat_feed (h.app h2)), List.take_succ_cons, List.take_left]
theorem p_pow18 {B : Bs} : pPow [.dat (.int 10), .dat (.int 18)] B = some (.dat (.int 1000000000000000000), B) := by
  rw [p_powI (by decide)]
  rfl
theorem p_pow9 {B : Bs} : pPow [.dat (.int 10), .dat (.int 9)] B = some (.dat (.int 1000000000), B) := by
  rw [p_powI (by decide)]
  rfl
theorem p_pow12 {B : Bs} : pPow [.dat (.int 10), .dat (.int 12)] B = some (.dat (.int 1000000000000), B) := by
  rw [p_powI (by decide)]
  rfl
theorem atI_int {c : List Int} {i : Int} (h0 : 0 ≤ i) (h : i < c.length) : ∃ x : Int, atI ((c.map PyData.int).map S.dat) i = some (.dat (.int x)) := by
  obtain ⟨x, e, _⟩ := atI_in h0 h
  exact ⟨x, by rw [atI_map, atI_map, e]; rfl⟩
/-! ### walked things -/
namespace Ev
def kIter (x : Re) : Ri := match x with
  | .ok s B1 => (match asL B1 s with
    | some ss => .ok ss (stays s ss) B1
    | none => match asT s with
      | some ss => .ok ss (fun _ => True) B1
      | none => match s with
        | .dat (.str x) => .ok (signsOf x) (fun _ => True) B1
        | _ => .bad)
  | .exc x fs B1 => .exc x fs B1
  | .bad => .bad
def kR1 (x : Ra) : Ri := match x with
  | .ok [.dat (.int n)] B1 => if -(2 ^ 62) ≤ n ∧ n < 2 ^ 62 then .ok (intsUp 0 n.toNat) (fun _ => True) B1 else .bad
  | .exc x fs B1 => .exc x fs B1
  | _ => .bad
def kZip (x : Ra) : Ri := match x with
  | .ok l B1 => zip2 B1 l
  | .exc x fs B1 => .exc x fs B1
  | .bad => .bad
noncomputable def kFor (x : Ri) (t : GT) (body : GS) (r : En) : Rs := match x with
  | .ok its chk B1 => forL chk t body its r B1
  | .exc x fs B1 => .exc x fs r B1
  | .bad => .bad
noncomputable def kLc (x : Ri) (own : List Nat) (t : GT) (gt ge : GE) (r : En) : Ra := match x with
  | .ok its chk B1 => if its.length < sizeLine then lcL chk t gt ge (wipeE r own) its [] B1 else .bad
  | _ => .bad
def kTry (x : Rs) (i : Nat) (tb : Str → Option Bool) (l : List XI) : Rs := match x with
  | .exc x fs r1 B1 => (match tb x with
    | some true => (match xItems fs l with
      | some ds => if ds.length ≤ sizeLine ∧ i < r1.length then .ret (.dat (.tuple ds)) B1 else .bad
      | none => .bad)
    | some false => .exc x fs r1 B1
    | none => .bad)
  | o => o
def kRaise (x : Ra) (c : Str) (fl : List Str) (r : En) : Rs := match x with
  | .ok ss B1 => if ss.length = fl.length ∧ ss.length ≤ 900 then .exc c (fsOf fl ss) r B1 else .bad
  | .exc y fs B1 => .exc y fs r B1
  | .bad => .bad
def kCL (o : Option (Option S)) (n : Nat) (tb : Str → Option GF) (ga : GA) (r : En) (B : Bs) : Re := match o with
  | some (some (.fn x)) => (match tb x with
    | some m => gCall n m ga r B
    | none => .bad)
  | _ => .bad
end Ev
section
variable {g gt ge : GE} {gr : GA} {gi : GI} {r : En} {B : Bs} {t : GT} {body : GS} {own : List Nat} {ds : List PyData} {x c : Str} {its : List S} {chk : Bs → Prop} {i n : Nat} {tb : Str → Option Bool} {l : List XI} {fl : List Str} {ss : List S} {fs : List (Str × S)} {s : S}
theorem e_iter : gIter g r B = Ev.kIter (g r B) := by unfold gIter Ev.kIter; cases g r B <;> rfl
theorem e_kIter_t : Ev.kIter (.ok (.dat (.tuple ds)) B) = .ok (ds.map .dat) (fun _ => True) B := rfl
theorem e_kIter_l : Ev.kIter (.ok (.dat (.list ds)) B) = .ok (ds.map .dat) (fun _ => True) B := rfl
theorem e_kIter_s : Ev.kIter (.ok (.dat (.str x)) B) = .ok (signsOf x) (fun _ => True) B := rfl
theorem e_r1 : gRange1 gr r B = Ev.kR1 (gr r B) := by unfold gRange1 Ev.kR1; cases gr r B <;> rfl
theorem e_kR1 {k : Int} (h0 : 0 ≤ k) (h : k ≤ 1000000) : Ev.kR1 (.ok [.dat (.int k)] B) = .ok (intsUp 0 k.toNat) (fun _ => True) B := if_pos ⟨by omega, by omega⟩
theorem e_zip : gZip gr r B = Ev.kZip (gr r B) := by unfold gZip Ev.kZip; cases gr r B <;> rfl
theorem e_kZip : Ev.kZip (.ok ss B) = zip2 B ss := rfl
theorem zipS_map : ∀ (xs ys : List PyData), zipS (xs.map .dat) (ys.map .dat) = some ((List.zip xs ys).map fun p => .dat (.tuple [p.1, p.2]))
  | [], ys => by rw [List.map_nil, zipS_nil]; rfl
  | x :: xs, [] => by rw [List.map_nil, zipS_nil']; rfl
  | x :: xs, y :: ys => by
    rw [List.map_cons, List.map_cons, zipS_dat, zipS_map xs ys]
    rfl
theorem zip2_t {xs ys : List PyData} : zip2 B [.dat (.tuple xs), .dat (.tuple ys)] = .ok ((List.zip xs ys).map fun p => .dat (.tuple [p.1, p.2])) (fun _ => True) B := by
  show (match zipS (xs.map .dat) (ys.map .dat) with | some its => Ri.ok its (fun _ => True) B | none => .bad) = _
  rw [zipS_map]
theorem zip2_l {xs ys : List PyData} : zip2 B [.dat (.list xs), .dat (.list ys)] = .ok ((List.zip xs ys).map fun p => .dat (.tuple [p.1, p.2])) (fun _ => True ∧ True) B := by
  show (match zipS (xs.map .dat) (ys.map .dat) with | some its => Ri.ok its (fun _ => True ∧ True) B | none => .bad) = _
  rw [zipS_map]
theorem e_for : sFor gi t body r B = Ev.kFor (gi r B) t body r := by unfold sFor Ev.kFor; cases gi r B <;> rfl
theorem e_kFor : Ev.kFor (.ok its chk B) t body r = forL chk t body its r B := rfl
theorem e_lc : gLcA own gi t gt ge r B = Ev.kLc (gi r B) own t gt ge r := by unfold gLcA Ev.kLc; cases gi r B <;> rfl
theorem e_kLc (h : its.length ≤ 100000) : Ev.kLc (.ok its chk B) own t gt ge r = lcL chk t gt ge (wipeE r own) its [] B := if_pos (by rw [sizeLine_eq]; omega)
theorem e_try : sTryR body i tb l r B = Ev.kTry (body r B) i tb l := by unfold sTryR Ev.kTry; cases body r B <;> rfl
theorem e_kTry_ret : Ev.kTry (.ret s B) i tb l = .ret s B := rfl
theorem e_raise : sRaise c fl gr r B = Ev.kRaise (gr r B) c fl r := by unfold sRaise Ev.kRaise; cases gr r B <;> rfl
theorem e_kRaise : Ev.kRaise (.ok ss B) c fl r = if ss.length = fl.length ∧ ss.length ≤ 900 then .exc c (fsOf fl ss) r B else .bad := rfl
theorem e_callL {tb : Str → Option GF} : gCallL n i tb gr r B = Ev.kCL r[i]? n tb gr r B := rfl
theorem e_kCL {tb : Str → Option GF} {m : GF} (h : tb x = some m) : Ev.kCL (some (some (.fn x))) n tb gr r B = gCall n m gr r B := by
  unfold Ev.kCL
  simp only [h]
theorem tup_asg {n : Nat} {u : GTs} (h : ds.length = n) : tTupT n u (.dat (.tuple ds)) r = u (ds.map .dat) r := by
  show (if (ds.map S.dat).length = n then u (ds.map .dat) r else none) = _
  rw [List.length_map, if_pos h]
theorem ts_nil : tsNil [] r = some r := rfl
theorem ts_cons {u : GTs} {k : Nat} : tsCons (tName k) u (s :: ss) r = u ss (r.set k (some s)) := rfl
/-- an item of a list, by a number that fits -/
theorem pick {i : Int} (h0 : 0 ≤ i) (h : i < ds.length) : ∃ d ∈ ds, pIx [.dat (.list ds), .dat (.int i)] B = some (.dat d, B) := by
  obtain ⟨d, e, m⟩ := atI_in h0 h
  refine ⟨d, m, ?_⟩
  show (atI (ds.map S.dat) i).map (fun t => (t, B)) = _
  rw [atI_map, e]
  rfl
end
section
variable {B : Bs} {d1 d2 d3 d4 d5 d6 d7 d8 : PyData}
theorem p_tup0 : pTup [] B = some (.dat (.tuple []), B) := p_tup (ds := []) (sz_small (by simp))
theorem p_lst0 : pLst [] B = some (.dat (.list []), B) := p_lst (ds := []) (sz_small (by simp))
theorem p_tup1 : pTup [.dat d1] B = some (.dat (.tuple [d1]), B) := p_tup (ds := [d1]) (sz_small (by simp))
theorem p_lst1 : pLst [.dat d1] B = some (.dat (.list [d1]), B) := p_lst (ds := [d1]) (sz_small (by simp))
theorem p_tup2 : pTup [.dat d1, .dat d2] B = some (.dat (.tuple [d1, d2]), B) := p_tup (ds := [d1, d2]) (sz_small (by simp))
theorem p_lst2 : pLst [.dat d1, .dat d2] B = some (.dat (.list [d1, d2]), B) := p_lst (ds := [d1, d2]) (sz_small (by simp))
theorem p_tup3 : pTup [.dat d1, .dat d2, .dat d3] B = some (.dat (.tuple [d1, d2, d3]), B) := p_tup (ds := [d1, d2, d3]) (sz_small (by simp))
theorem p_lst3 : pLst [.dat d1, .dat d2, .dat d3] B = some (.dat (.list [d1, d2, d3]), B) := p_lst (ds := [d1, d2, d3]) (sz_small (by simp))
theorem p_tup4 : pTup [.dat d1, .dat d2, .dat d3, .dat d4] B = some (.dat (.tuple [d1, d2, d3, d4]), B) := p_tup (ds := [d1, d2, d3, d4]) (sz_small (by simp))
theorem p_lst4 : pLst [.dat d1, .dat d2, .dat d3, .dat d4] B = some (.dat (.list [d1, d2, d3, d4]), B) := p_lst (ds := [d1, d2, d3, d4]) (sz_small (by simp))
theorem p_tup5 : pTup [.dat d1, .dat d2, .dat d3, .dat d4, .dat d5] B = some (.dat (.tuple [d1, d2, d3, d4, d5]), B) := p_tup (ds := [d1, d2, d3, d4, d5]) (sz_small (by simp))
theorem p_lst5 : pLst [.dat d1, .dat d2, .dat d3, .dat d4, .dat d5] B = some (.dat (.list [d1, d2, d3, d4, d5]), B) := p_lst (ds := [d1, d2, d3, d4, d5]) (sz_small (by simp))
theorem p_tup6 : pTup [.dat d1, .dat d2, .dat d3, .dat d4, .dat d5, .dat d6] B = some (.dat (.tuple [d1, d2, d3, d4, d5, d6]), B) := p_tup (ds := [d1, d2, d3, d4, d5, d6]) (sz_small (by simp))
theorem p_lst6 : pLst [.dat d1, .dat d2, .dat d3, .dat d4, .dat d5, .dat d6] B = some (.dat (.list [d1, d2, d3, d4, d5, d6]), B) := p_lst (ds := [d1, d2, d3, d4, d5, d6]) (sz_small (by simp))
theorem p_tup7 : pTup [.dat d1, .dat d2, .dat d3, .dat d4, .dat d5, .dat d6, .dat d7] B = some (.dat (.tuple [d1, d2, d3, d4, d5, d6, d7]), B) := p_tup (ds := [d1, d2, d3, d4, d5, d6, d7]) (sz_small (by simp))
theorem p_lst7 : pLst [.dat d1, .dat d2, .dat d3, .dat d4, .dat d5, .dat d6, .dat d7] B = some (.dat (.list [d1, d2, d3, d4, d5, d6, d7]), B) := p_lst (ds := [d1, d2, d3, d4, d5, d6, d7]) (sz_small (by simp))
theorem p_tup8 : pTup [.dat d1, .dat d2, .dat d3, .dat d4, .dat d5, .dat d6, .dat d7, .dat d8] B = some (.dat (.tuple [d1, d2, d3, d4, d5, d6, d7, d8]), B) := p_tup (ds := [d1, d2, d3, d4, d5, d6, d7, d8]) (sz_small (by simp))
theorem p_lst8 : pLst [.dat d1, .dat d2, .dat d3, .dat d4, .dat d5, .dat d6, .dat d7, .dat d8] B = some (.dat (.list [d1, d2, d3, d4, d5, d6, d7, d8]), B) := p_lst (ds := [d1, d2, d3, d4, d5, d6, d7, d8]) (sz_small (by simp))
end
theorem pickA {ds : List PyData} {i : Int} (h0 : 0 ≤ i) (h : i < ds.length) : ∃ d ∈ ds, atI (ds.map S.dat) i = some (.dat d) := by
  obtain ⟨d, e, m⟩ := atI_in h0 h
  exact ⟨d, m, by rw [atI_map, e]; rfl⟩
end PN

set_option maxRecDepth 100000
set_option maxHeartbeats 4000000
/-! PN, 20th part: how long what repr says may be; comprehensions and loops at work. -/
namespace PN
open PySem L2
/-! ### repr -/
/-- d is shown in at most n signs, and is at most k deep -/
structure Sm (n k : Nat) (d : PyData) : Prop where
  ok : d.showable = true
  len : d.shown.length ≤ n
  dep : d.depth ≤ k
  lay : d.canLay0 = true
theorem Sm.up {n k m l : Nat} {d : PyData} (h : Sm n k d) (h1 : n ≤ m) (h2 : k ≤ l) : Sm m l d := ⟨h.ok, Nat.le_trans h.len h1, Nat.le_trans h.dep h2, h.lay⟩
theorem Sm.non : Sm 4 0 .none := ⟨rfl, by decide, Nat.le_refl _, rfl⟩
theorem Sm.bool (b : Bool) : Sm 5 0 (.bool b) := ⟨rfl, by cases b <;> decide, Nat.le_refl _, rfl⟩
theorem log_small {n : Nat} (h : n < 10 ^ 18) : n.log2 < 1920 := by
  by_cases h0 : n = 0
  · rw [h0]; decide
  · have : n.log2 < 60 := (Nat.log2_lt h0).mpr (Nat.lt_trans h (by decide))
    omega
theorem Sm.int {i : Int} (h : i.natAbs < 10 ^ 18) : Sm 19 0 (.int i) := by
  refine ⟨decide_eq_true (log_small h), ?_, Nat.le_refl _, rfl⟩
  have e := PySem.int_text_length_le10 (k := 18) (by decide) h
  show (Str.ofString (toString i)).length ≤ 19
  rw [PySem.ofString_length]; exact e
theorem Sm.str {x : Str} {n : Nat} (h : ∀ c ∈ x.cps.toList, c < 0x110000) (hl : x.length ≤ n) : Sm (10 * n + 2) 0 (.str x) :=
  ⟨rfl, Nat.le_trans (show (reprText x).length ≤ _ from PySem.StrLaws.reprText_len x fun c m => Nat.lt_trans (h c m) (by decide)) (by omega), Nat.le_refl _, by
    show x.cps.all (· < 0x110000) = true
    rw [Array.all_eq_true_iff_forall_mem]
    exact fun c m => decide_eq_true (h c (by simpa using m))⟩
theorem piled_le {ts : List Str} {n : Nat} (h : ∀ t ∈ ts, t.length ≤ n) : piled ts ≤ ts.length * (n + 2) := by
  induction ts with
  | nil => simp [piled]
  | cons t ts ih =>
    rw [piled_cons, List.length_cons, Nat.succ_mul]
    have h1 := h t List.mem_cons_self
    have h2 := ih fun u m => h u (List.mem_cons_of_mem _ m)
    omega
theorem shownAll_map : ∀ ds : List PyData, PyData.shownAll ds = ds.map PyData.shown
  | [] => rfl
  | d :: ds => by
    show PyData.shown d :: PyData.shownAll ds = _
    rw [shownAll_map ds]
    rfl
theorem showAll_of : ∀ {ds : List PyData}, (∀ d ∈ ds, d.showable = true) → PyData.showableAll ds = true
  | [], _ => rfl
  | d :: ds, h => by
    show (d.showable && PyData.showableAll ds) = true
    rw [h d List.mem_cons_self, showAll_of fun e m => h e (List.mem_cons_of_mem _ m)]
    rfl
theorem depAll_of {k : Nat} : ∀ {ds : List PyData}, (∀ d ∈ ds, d.depth ≤ k) → PyData.depthAll ds ≤ k
  | [], _ => Nat.zero_le _
  | d :: ds, h => by
    show max d.depth (PyData.depthAll ds) ≤ k
    exact Nat.max_le.mpr ⟨h d List.mem_cons_self, depAll_of fun e m => h e (List.mem_cons_of_mem _ m)⟩
theorem layAll_of : ∀ {ds : List PyData}, (∀ d ∈ ds, d.canLay0 = true) → PyData.canLayAll0 ds = true
  | [], _ => rfl
  | d :: ds, h => by
    show (d.canLay0 && PyData.canLayAll0 ds) = true
    rw [h d List.mem_cons_self, layAll_of fun e m => h e (List.mem_cons_of_mem _ m)]
    rfl
theorem Sm.tup {n k : Nat} {ds : List PyData} (h : ∀ d ∈ ds, Sm n k d) : Sm (ds.length * (n + 2) + 4) (k + 1) (.tuple ds) := by
  refine ⟨showAll_of fun d m => (h d m).ok, ?_, Nat.succ_le_succ (depAll_of fun d m => (h d m).dep), layAll_of fun d m => (h d m).lay⟩
  show (tupleText (PyData.shownAll ds)).length ≤ _
  rw [shownAll_map]
  have hp : piled (ds.map PyData.shown) ≤ ds.length * (n + 2) := by
    have := piled_le (ts := ds.map PyData.shown) (n := n) fun t m => by
      obtain ⟨d, hd, rfl⟩ := List.mem_map.mp m
      exact (h d hd).len
    rwa [List.length_map] at this
  unfold tupleText
  rw [strLen_append, strLen_append]
  have e1 : ((("(" : String) : Str)).length = 1 := rfl
  have e3 : (((if (ds.map PyData.shown).length == 1 then ",)" else ")" : String) : Str)).length ≤ 2 := by split <;> decide
  rw [e1]
  by_cases q : ds.map PyData.shown = []
  · rw [q] at e3 ⊢
    have : (Str.join ", " []).length = 0 := rfl
    omega
  · have := join_length_add _ q
    omega
theorem textFrom_le : ∀ (ts : List Str) (k : Nat) (acc : Str), (textFrom k acc ts).length ≤ acc.length + piled ts
  | [], _, acc => Nat.le_add_right _ _
  | t :: r, k, acc => by
    have ih := textFrom_le r (k + 1) (acc ++ (if k > 0 then ", " else "" : String) ++ t)
    have e : (acc ++ (if k > 0 then ", " else "" : String) ++ t).length ≤ acc.length + 2 + t.length := by
      rw [strLen_append, strLen_append]
      have : (((if k > 0 then ", " else "" : String) : Str)).length ≤ 2 := by split <;> decide
      omega
    rw [piled_cons]
    show (textFrom (k + 1) _ r).length ≤ _
    omega
theorem Sm.lst {n k : Nat} {ds : List PyData} (h : ∀ d ∈ ds, Sm n k d) : Sm (ds.length * (n + 2) + 4) (k + 1) (.list ds) := by
  refine ⟨showAll_of fun d m => (h d m).ok, ?_, Nat.succ_le_succ (depAll_of fun d m => (h d m).dep), layAll_of fun d m => (h d m).lay⟩
  show (listText (PyData.shownAll ds)).length ≤ _
  rw [shownAll_map]
  have hp : piled (ds.map PyData.shown) ≤ ds.length * (n + 2) := by
    have := piled_le (ts := ds.map PyData.shown) (n := n) fun t m => by
      obtain ⟨d, hd, rfl⟩ := List.mem_map.mp m
      exact (h d hd).len
    rwa [List.length_map] at this
  have h1 := textFrom_le (ds.map PyData.shown) 0 "["
  have e1 : ((("[" : String) : Str)).length = 1 := rfl
  have e2 : ((("]" : String) : Str)).length = 1 := rfl
  show (textFrom 0 "[" (ds.map PyData.shown) ++ "]").length ≤ _
  rw [strLen_append, e2]
  omega
theorem p_repr {B : Bs} {n k : Nat} {d : PyData} (h : Sm n k d) (hn : n ≤ 16777216) (hk : k ≤ 64) : pRepr [.dat d] B = some (.dat (.str d.shown), B) := by
  show (if d.showable = true ∧ d.shown.length ≤ sizeLine ∧ d.depth ≤ 64 ∧ d.hasDict = false then str' d.shown B else none) = _
  rw [if_pos ⟨h.ok, by rw [sizeLine_eq]; exact Nat.le_trans h.len hn, Nat.le_trans h.dep hk, PyData.hasDict_of_canLay d h.lay⟩]
  rfl
/-! ### comprehensions -/
section
variable {t : GT} {gt ge : GE} {r : En} {B : Bs} {chk : Bs → Prop}
/-- all items taken, the store as it was -/
theorem lc_map {f : S → S} : ∀ (its acc : List S), chk B → (∀ x ∈ its, ∃ r1, t x r = some r1 ∧ gt r1 B = .ok (.dat (.bool true)) B ∧ ge r1 B = .ok (f x) B) → lcL chk t gt ge r its acc B = .ok (acc ++ its.map f) B
  | [], acc, hc, _ => by
    unfold lcL
    rw [if_pos hc, List.map_nil, List.append_nil]
  | x :: its, acc, hc, h => by
    obtain ⟨r1, h1, h2, h3⟩ := h x List.mem_cons_self
    unfold lcL
    rw [if_pos hc, h1]
    dsimp only
    rw [h2]
    dsimp only
    rw [h3]
    dsimp only
    rw [lc_map its (acc ++ [f x]) hc fun y m => h y (List.mem_cons_of_mem _ m), List.append_assoc]
    rfl
/-- with a test -/
theorem lc_filter {f : S → S} {p : S → Bool} : ∀ (its acc : List S), chk B → (∀ x ∈ its, ∃ r1, t x r = some r1 ∧ gt r1 B = .ok (.dat (.bool (p x))) B ∧ (p x = true → ge r1 B = .ok (f x) B)) → lcL chk t gt ge r its acc B = .ok (acc ++ (its.filter p).map f) B
  | [], acc, hc, _ => by
    unfold lcL
    rw [if_pos hc, List.filter_nil, List.map_nil, List.append_nil]
  | x :: its, acc, hc, h => by
    obtain ⟨r1, h1, h2, h3⟩ := h x List.mem_cons_self
    unfold lcL
    rw [if_pos hc, h1]
    dsimp only
    rw [h2]
    have ih := fun acc => lc_filter its acc hc fun y m => h y (List.mem_cons_of_mem _ m)
    cases q : p x with
    | true =>
      dsimp only
      rw [h3 q]
      dsimp only
      rw [ih, List.append_assoc, List.filter_cons_of_pos q]
      rfl
    | false =>
      dsimp only
      rw [ih, List.filter_cons_of_neg (by rw [q]; exact Bool.false_ne_true)]
/-- the store changes under way: I is kept, by the item's number -/
theorem lc_inv {I : Nat → Bs → Prop} {P : S → Prop} : ∀ (its acc : List S) (i : Nat) (B : Bs), (∀ i B, I i B → chk B) → (∀ x ∈ its, ∀ i B, I i B → ∃ r1, t x r = some r1 ∧ gt r1 B = .ok (.dat (.bool true)) B ∧ ∃ s B', ge r1 B = .ok s B' ∧ P s ∧ I (i + 1) B') → I i B →
    ∃ ss B', lcL chk t gt ge r its acc B = .ok (acc ++ ss) B' ∧ ss.length = its.length ∧ (∀ s ∈ ss, P s) ∧ I (i + its.length) B'
  | [], acc, i, B, hc, _, h0 => by
    refine ⟨[], B, ?_, rfl, fun s m => absurd m (by simp), h0⟩
    unfold lcL
    rw [if_pos (hc i B h0), List.append_nil]
  | x :: its, acc, i, B, hc, h, h0 => by
    obtain ⟨r1, h1, h2, s, B1, h3, h4, h5⟩ := h x List.mem_cons_self i B h0
    obtain ⟨ss, B', e, e1, e2, e3⟩ := lc_inv its (acc ++ [s]) (i + 1) B1 hc (fun y m => h y (List.mem_cons_of_mem _ m)) h5
    refine ⟨s :: ss, B', ?_, by rw [List.length_cons, List.length_cons, e1], fun y m => ?_, by rw [List.length_cons, show i + (its.length + 1) = i + 1 + its.length from by omega]; exact e3⟩
    · unfold lcL
      rw [if_pos (hc i B h0), h1]
      dsimp only
      rw [h2]
      dsimp only
      rw [h3]
      dsimp only
      rw [e, List.append_assoc]
      rfl
    · rcases List.mem_cons.mp m with rfl | m
      · exact h4
      · exact e2 y m
end
/-! ### loops -/
section
variable {t : GT} {body : GS} {chk : Bs → Prop}
/-- every turn goes on; I is kept, by the turn's number -/
theorem for_inv {I : Nat → En → Bs → Prop} : ∀ (its : List S) (i : Nat) (r : En) (B : Bs), (∀ i r B, I i r B → chk B) →
    (∀ (j : Nat) (x : S), its[j]? = some x → ∀ r B, I (i + j) r B → ∃ r1, t x r = some r1 ∧ ∃ r2 B2, (body r1 B = .nx r2 B2 ∨ body r1 B = .ct r2 B2) ∧ I (i + j + 1) r2 B2) → I i r B → ∃ r' B', forL chk t body its r B = .nx r' B' ∧ I (i + its.length) r' B'
  | [], i, r, B, hc, _, h0 => ⟨r, B, by unfold forL; rw [if_pos (hc i r B h0)], h0⟩
  | x :: its, i, r, B, hc, h, h0 => by
    obtain ⟨r1, h1, r2, B2, h2, h3⟩ := h 0 x rfl r B h0
    obtain ⟨r', B', e, e1⟩ := for_inv its (i + 1) r2 B2 hc (fun j y m r B h' => by
      have := h (j + 1) y (by rw [List.getElem?_cons_succ]; exact m) r B (by rw [show i + (j + 1) = i + 1 + j from by omega]; exact h')
      have e : i + (j + 1) + 1 = i + 1 + j + 1 := by omega
      rwa [e] at this) h3
    refine ⟨r', B', ?_, by rw [List.length_cons, show i + (its.length + 1) = i + 1 + its.length from by omega]; exact e1⟩
    unfold forL
    rw [if_pos (hc i r B h0), h1]
    dsimp only
    rcases h2 with h2 | h2 <;> rw [h2] <;> exact e
end
/-! ### more of comprehensions and loops; texts; a def's own list -/
section
variable {t : GT} {gt ge : GE} {r : En} {B : Bs} {chk : Bs → Prop} {α : Type}
theorem lc_mapL {h f : α → S} : ∀ (ps : List α) (acc : List S), chk B → (∀ p ∈ ps, ∃ r1, t (h p) r = some r1 ∧ gt r1 B = .ok (.dat (.bool true)) B ∧ ge r1 B = .ok (f p) B) → lcL chk t gt ge r (ps.map h) acc B = .ok (acc ++ ps.map f) B
  | [], acc, hc, _ => by
    rw [List.map_nil, List.map_nil, List.append_nil]
    unfold lcL
    rw [if_pos hc]
  | p :: ps, acc, hc, q => by
    obtain ⟨r1, h1, h2, h3⟩ := q p List.mem_cons_self
    rw [List.map_cons]
    unfold lcL
    rw [if_pos hc, h1]
    dsimp only
    rw [h2]
    dsimp only
    rw [h3]
    dsimp only
    rw [lc_mapL ps (acc ++ [f p]) hc fun y m => q y (List.mem_cons_of_mem _ m), List.append_assoc]
    rfl
/-- a loop over such items: I by what is done -/
theorem for_list {body : GS} {h : α → S} {I : List α → En → Bs → Prop} {all : List α} (hc : ∀ l r B, I l r B → chk B)
    (q : ∀ l p rest, all = l ++ p :: rest → ∀ r B, I l r B → ∃ r1, t (h p) r = some r1 ∧ ∃ r2 B2, (body r1 B = .nx r2 B2 ∨ body r1 B = .ct r2 B2) ∧ I (l ++ [p]) r2 B2) :
    ∀ (ps done : List α) (r : En) (B : Bs), all = done ++ ps → I done r B → ∃ r' B', forL chk t body (ps.map h) r B = .nx r' B' ∧ I all r' B'
  | [], done, r, B, ea, h0 => ⟨r, B, by rw [List.map_nil]; unfold forL; rw [if_pos (hc done r B h0)], by rw [ea, List.append_nil]; exact h0⟩
  | p :: ps, done, r, B, ea, h0 => by
    obtain ⟨r1, h1, r2, B2, h2, h3⟩ := q done p ps ea r B h0
    obtain ⟨r', B', e, e1⟩ := for_list hc q ps (done ++ [p]) r2 B2 (by rw [ea, List.append_assoc]; rfl) h3
    refine ⟨r', B', ?_, e1⟩
    rw [List.map_cons]
    unfold forL
    rw [if_pos (hc done r B h0), h1]
    dsimp only
    rcases h2 with h2 | h2 <;> rw [h2] <;> exact e
end
def numS (i : Int) : Str := Str.ofString (toString i)
theorem numS_len {i : Int} (h : i.natAbs < 10 ^ 18) : (numS i).length ≤ 19 := by
  unfold numS
  rw [PySem.ofString_length]
  exact PySem.int_text_length_le10 (k := 18) (by decide) h
section
variable {B : Bs} {x y : Str} {gr : GA} {r : En} {f : GP} {s : S} {ss : List S}
theorem p_strI {i : Int} (h : i.natAbs < 10 ^ 18) : pStr [.dat (.int i)] B = some (.dat (.str (numS i)), B) := by
  show (if i.natAbs.log2 < 1920 then str' (toString i) B else none) = _
  rw [if_pos (log_small h)]
  rfl
theorem p_addS' {m n : Nat} (hx : x.length ≤ m) (hy : y.length ≤ n) (h : m + n ≤ 1000000) : pAdd [.dat (.str x), .dat (.str y)] B = some (.dat (.str (x ++ y)), B) := p_addS (by rw [sizeLine_eq]; omega)
theorem strsOf_map (ys : List Str) : strsOf (ys.map fun y => S.dat (.str y)) = some ys := by
  induction ys with
  | nil => rfl
  | cons y ys ih =>
    show (strsOf (ys.map fun y => S.dat (.str y))).map (y :: ·) = _
    rw [ih]
    rfl
theorem sum_le {n : Nat} : ∀ {ys : List Str}, (∀ y ∈ ys, y.length ≤ n) → (ys.map (·.length)).sum ≤ ys.length * n
  | [], _ => by simp
  | y :: ys, h => by
    have h1 := h y List.mem_cons_self
    have h2 := sum_le fun z m => h z (List.mem_cons_of_mem _ m)
    rw [List.map_cons, List.sum_cons, List.length_cons, Nat.succ_mul]
    omega
theorem join_fits {a : Str} {ys : List Str} (ha : a.length ≤ 10) (hy : ∀ y ∈ ys, y.length ≤ 1000) (hl : ys.length ≤ 1000) : (ys.map (·.length)).sum + ys.length * a.length ≤ 16777216 := by
  have h1 := sum_le hy
  have h2 : ys.length * 1000 ≤ 1000 * 1000 := Nat.mul_le_mul_right _ hl
  have h3 : ys.length * a.length ≤ 1000 * 10 := Nat.mul_le_mul hl ha
  omega
theorem p_joinL {a : Str} {ys : List Str} (h : (ys.map (·.length)).sum + ys.length * a.length ≤ 16777216) : pJoin [.dat (.str a), .dat (.list (ys.map .str))] B = some (.dat (.str (Txt.join a ys)), B) := by
  show ((some ((ys.map PyData.str).map S.dat)).bind fun ss => (strsOf ss).bind fun ys => if (ys.map (·.length)).sum + ys.length * a.length ≤ 16777216 then str' (Txt.join a ys) B else none) = _
  rw [List.map_map, Option.bind_some, show (ys.map (S.dat ∘ PyData.str)) = ys.map (fun y => S.dat (.str y)) from rfl, strsOf_map, Option.bind_some, if_pos h]
  rfl
theorem e_kMtS : Ev.kMt (.ok (.dat (.str x)) B) true f gr r = Ev.kMt2 (gr r B) f (.dat (.str x)) := e_kMt rfl
theorem e_kMtL (h : asL B s = some ss) : Ev.kMt (.ok s B) false f gr r = Ev.kMt2 (gr r B) f s := e_kMt (by show (asL B s).isSome = true; rw [h]; rfl)
theorem at_end {o : Option MO} : (B ++ [o])[B.length]? = some o := by simp
theorem l_end : asL (B ++ [some (.lst ss)]) (.ref B.length) = some ss := by
  unfold asL
  simp only [at_end]
theorem p_lstA0 : pLstA [] B = some (.ref B.length, B ++ [some (.lst [])]) := by
  unfold pLstA
  rw [if_pos (by rw [sizeLine_eq]; exact Nat.zero_le _)]
theorem set_end {o u : Option MO} : (B ++ [o]).set B.length u = B ++ [u] := by
  rw [List.set_append_right _ _ (Nat.le_refl _), Nat.sub_self]
  rfl
theorem app_end {z : S} (h : ss.length ≤ 1000) : pAppend [.ref B.length, z] (B ++ [some (.lst ss)]) = some (.dat .none, B ++ [some (.lst (ss ++ [z]))]) := by
  show ((atM (B ++ [some (.lst ss)]) B.length).bind fun ss' => if ss'.length < sizeLine then some (S.dat .none, (B ++ [some (MO.lst ss)]).set B.length (some (MO.lst (ss' ++ [z])))) else none) = _
  have e : atM (B ++ [some (.lst ss)]) B.length = some ss := by
    unfold atM
    simp only [at_end]
  rw [e, Option.bind_some, if_pos (by rw [sizeLine_eq]; omega), set_end]
theorem p_joinR {a : Str} {ys : List Str} (h : (ys.map (·.length)).sum + ys.length * a.length ≤ 16777216) (e : asL B s = some (ys.map fun y => .dat (.str y))) : pJoin [.dat (.str a), s] B = some (.dat (.str (Txt.join a ys)), B) := by
  show ((asQ B s).bind fun ss => (strsOf ss).bind fun ys => if (ys.map (·.length)).sum + ys.length * a.length ≤ 16777216 then str' (Txt.join a ys) B else none) = _
  unfold asQ
  rw [e, Option.bind_some, strsOf_map, Option.bind_some, if_pos h]
  rfl
end
theorem for_go {t : GT} {body : GS} {r : En} {B : Bs} {chk : Bs → Prop} {α : Type} {h : α → S} {R : Rs → Prop} (I : List α → En → Bs → Prop) (ps : List α) (hc : ∀ l r B, I l r B → chk B) (h0 : I [] r B)
    (hs : ∀ l p rest, ps = l ++ p :: rest → ∀ r B, I l r B → ∃ r1, t (h p) r = some r1 ∧ ∃ r2 B2, (body r1 B = .nx r2 B2 ∨ body r1 B = .ct r2 B2) ∧ I (l ++ [p]) r2 B2) (fin : ∀ r' B', I ps r' B' → R (.nx r' B')) : R (forL chk t body (ps.map h) r B) := by
  obtain ⟨r', B', e, i⟩ := for_list (I := I) (all := ps) hc hs ps [] r B rfl h0
  rw [e]
  exact fin r' B' i
/-! ### equality of data -/
mutual
def noB : PyData → Bool
  | .none | .int _ | .str _ => true
  | .bool _ | .dict _ => false
  | .list xs | .tuple xs => noBAll xs
def noBAll : List PyData → Bool
  | [] => true
  | x :: xs => noB x && noBAll xs
end
mutual
theorem eqv_iff : ∀ (d e : PyData), noB d = true → noB e = true → (PyData.eqv d e = true ↔ d = e)
  | .none, e, _, he => by cases e <;> simp [PyData.eqv]
  | .int i, e, _, he => by cases e <;> first | (simp [noB] at he; done) | simp [PyData.eqv]
  | .str x, e, _, he => by cases e <;> simp [PyData.eqv]
  | .list xs, e, hd, he => by
    cases e with
    | list ys =>
      have := eqvAll_iff xs ys (by simpa [noB] using hd) (by simpa [noB] using he)
      simp [PyData.eqv, this]
    | _ => simp [PyData.eqv]
  | .tuple xs, e, hd, he => by
    cases e with
    | tuple ys =>
      have := eqvAll_iff xs ys (by simpa [noB] using hd) (by simpa [noB] using he)
      simp [PyData.eqv, this]
    | _ => simp [PyData.eqv]
  | .bool b, e, hd, _ => by simp [noB] at hd
  | .dict b, e, hd, _ => by simp [noB] at hd
theorem eqvAll_iff : ∀ (d e : List PyData), noBAll d = true → noBAll e = true → (PyData.eqvAll d e = true ↔ d = e)
  | [], e, _, _ => by cases e <;> simp [PyData.eqvAll]
  | x :: xs, e, hd, he => by
    cases e with
    | nil => simp [PyData.eqvAll]
    | cons y ys =>
      have hd : noB x = true ∧ noBAll xs = true := by simpa [noBAll] using hd
      have he : noB y = true ∧ noBAll ys = true := by simpa [noBAll] using he
      have h1 := eqv_iff x y hd.1 he.1
      have h2 := eqvAll_iff xs ys hd.2 he.2
      simp [PyData.eqvAll, h1, h2]
end
theorem noBAll_of : ∀ {ds : List PyData}, (∀ d ∈ ds, noB d = true) → noBAll ds = true
  | [], _ => rfl
  | d :: ds, h => by
    show (noB d && noBAll ds) = true
    rw [h d List.mem_cons_self, noBAll_of fun e m => h e (List.mem_cons_of_mem _ m)]
    rfl
theorem Sm.shaped {n k : Nat} {d : PyData} (h : Sm n k d) (hk : k ≤ 64) : SeqAt.shaped d = true := by
  show (d.canLay0 && decide (d.depth ≤ 64)) = true
  rw [h.lay, decide_eq_true (Nat.le_trans h.dep hk)]
  rfl
theorem eqD_sm {n k m l : Nat} {d e : PyData} (h : Sm n k d) (h' : Sm m l e) (hk : k ≤ 64) (hl : l ≤ 64) : eqD d e = some (PyData.eqv d e) := by
  unfold eqD
  split
  · rfl
  · rw [if_pos ⟨h.shaped hk, h'.shaped hl⟩]
section
variable {B : Bs} {n k m l : Nat} {d e : PyData}
theorem p_eqv (h : Sm n k d) (h' : Sm m l e) (hk : k ≤ 64) (hl : l ≤ 64) : pEq [.dat d, .dat e] B = some (.dat (.bool (PyData.eqv d e)), B) := by
  show (eqD d e).bind (fun b => bool' b B) = _
  rw [eqD_sm h h' hk hl]
  rfl
theorem p_nev (h : Sm n k d) (h' : Sm m l e) (hk : k ≤ 64) (hl : l ≤ 64) : pNe [.dat d, .dat e] B = some (.dat (.bool (!PyData.eqv d e)), B) := by
  show (eqD d e).bind (fun b => bool' (!b) B) = _
  rw [eqD_sm h h' hk hl]
  rfl
theorem p_inT {ds : List PyData} (h : Sm n k d) (h' : Sm m l (.tuple ds)) (hk : k ≤ 64) (hl : l ≤ 64) : pIn [.dat d, .dat (.tuple ds)] B = some (.dat (.bool (ds.any fun z => PyData.eqv z d)), B) := by
  show (if SeqAt.shaped d = true ∧ SeqAt.shaped (.tuple ds) = true then some (ds.any fun z => PyData.eqv z d) else none).bind (fun b => bool' b B) = _
  rw [if_pos ⟨h.shaped hk, h'.shaped hl⟩]
  rfl
end
/-! ### repr(a) == repr(b) -/
theorem same_shown {n k : Nat} {d : PyData} {B : Bs} (h : Sm n k d) (hn : n ≤ 16777216) (hk : k ≤ 64) (hB : Flat B) :
    gFn 2 (sRet (gP2 pEq (gPN pRepr (PN.gCons (gVar 0) PN.gNil)) (gPN pRepr (PN.gCons (gVar 1) PN.gNil)))) [.dat d, .dat d] B = .ok (.dat (.bool true)) B := by
  simp -implicitDefEqProofs only [e_fn, e_ret, e_P2, e_PN, e_cons, e_nil, gVar, e_kc, e_kd, e_kN, e_k2, e_k1, e_lift, e_kRet, e_kFn_ret, p_repr h hn hk, List.map_cons, List.map_nil, List.length_cons, List.length_nil, List.replicate, List.cons_append, List.nil_append, List.getElem?_cons_zero, List.getElem?_cons_succ, p_eqS, decide_true]
  rw [endF_self hB]
/-! ### signs, numbers in texts -/
section
variable {B : Bs} {y : Str}
theorem p_inSign {c : Nat} : pIn [.dat (.str ⟨#[c]⟩), .dat (.str y)] B = some (.dat (.bool (decide (c ∈ y.cps.toList))), B) := rfl
theorem p_notInSign {c : Nat} : pNotIn [.dat (.str ⟨#[c]⟩), .dat (.str y)] B = some (.dat (.bool (!decide (c ∈ y.cps.toList))), B) := rfl
theorem boolsOf_map (bs : List Bool) : boolsOf (bs.map fun b => S.dat (.bool b)) = some bs := by
  induction bs with
  | nil => rfl
  | cons b bs ih =>
    show (boolsOf (bs.map fun b => S.dat (.bool b))).map (b :: ·) = _
    rw [ih]
    rfl
theorem p_allL {bs : List Bool} : pAll [.dat (.list (bs.map .bool))] B = some (.dat (.bool (bs.all id)), B) := by
  show ((some ((bs.map PyData.bool).map S.dat)).bind fun ss => (boolsOf ss).bind fun bs => bool' (bs.all id) B) = _
  rw [List.map_map, Option.bind_some, show (bs.map (S.dat ∘ PyData.bool)) = bs.map (fun y => S.dat (.bool y)) from rfl, boolsOf_map]
  rfl
theorem signs_len : (signsOf y).length = y.length := by
  unfold signsOf
  rw [List.length_map, Array.length_toList]
  rfl
theorem p_intStr {n : Int} (h : y.length ≤ 640) (e : PySem.intText? y = some n) : pInt [.dat (.str y)] B = some (.dat (.int n), B) := by
  show (if y.length ≤ 640 then (PySem.intText? y).bind fun n => int' n B else none) = _
  rw [if_pos h, e]
  rfl
theorem p_ix0S {c : Nat} {l : List Nat} (h : y.length ≤ sizeLine) (e : y.cps.toList = c :: l) : itemS B (.dat (.str y)) 0 = some (.dat (.str ⟨#[c]⟩)) := by
  show (if y.length ≤ sizeLine then (atI y.cps.toList 0).map fun c => S.dat (.str ⟨#[c]⟩) else none) = _
  rw [if_pos h, e, atI_0]
  rfl
end
theorem tl_numS {i : Int} (h : 0 ≤ i) : (numS i).cps.toList = TL.numL i.toNat := by
  obtain ⟨n, rfl⟩ : ∃ n : Nat, i = n := ⟨i.toNat, by omega⟩
  exact TL.tl_num n
theorem numL_head : ∀ (n c : Nat) (l : List Nat), TL.numL n = c :: l → c = 48 → n = 0 := by
  intro n
  induction n using Nat.strongRecOn with
  | _ n ih =>
    intro c l h hc
    by_cases q : n < 10
    · rw [TL.numL_lt q] at h
      cases h
      omega
    · rw [TL.numL_step (by omega)] at h
      cases e : TL.numL (n / 10) with
      | nil => exact absurd e (TL.numL_ne _)
      | cons d m =>
        rw [e] at h
        have hd : d = c := (List.cons.inj h).1
        have := ih (n / 10) (by omega) d m e (hd.trans hc)
        omega
theorem numS_len2 {i : Int} (h : 0 ≤ i) (h2 : i < 10000000000000) : 1 ≤ (numS i).length ∧ (numS i).length ≤ 13 := by
  have e : (numS i).length = (TL.numL i.toNat).length := by rw [← tl_numS h, Array.length_toList]; rfl
  have h1 := TL.numL_len (n := i.toNat) (k := 13) (by decide) (by omega)
  have h3 : 0 < (TL.numL i.toNat).length := List.length_pos_iff.mpr (TL.numL_ne _)
  omega
theorem int_numS {i : Int} (h : 0 ≤ i) (h2 : i < 10000000000000) : PySem.intText? (numS i) = some i := by
  obtain ⟨n, rfl⟩ : ∃ n : Nat, i = n := ⟨i.toNat, by omega⟩
  exact TL.int_num (Nat.le_trans (TL.numL_len (k := 13) (by decide) (by omega)) (by decide))
theorem digits_numS {i : Int} (h : 0 ≤ i) : ∀ c ∈ (numS i).cps.toList, 48 ≤ c ∧ c ≤ 57 := by
  rw [tl_numS h]
  exact TL.numL_digits _
theorem tup_2 {d1 d2 : PyData} {u : GTs} {r : En} : tTupT 2 u (.dat (.tuple [d1, d2])) r = u [.dat d1, .dat d2] r := rfl
theorem tup_3 {d1 d2 d3 : PyData} {u : GTs} {r : En} : tTupT 3 u (.dat (.tuple [d1, d2, d3])) r = u [.dat d1, .dat d2, .dat d3] r := rfl
theorem tup_4 {d1 d2 d3 d4 : PyData} {u : GTs} {r : En} : tTupT 4 u (.dat (.tuple [d1, d2, d3, d4])) r = u [.dat d1, .dat d2, .dat d3, .dat d4] r := rfl
/-! ### errors on their way -/
section
variable {c : Str} {fs : List (Str × S)} {B : Bs} {r r1 : En} {gb ga : GE} {gr : GA} {f : GP} {s : S} {n : Nat} {m : GF} {g1 g2 : GS} {t : GT} {i : Nat} {tb : Str → Option Bool} {l : List XI}
theorem x_k2 : Ev.k2 (.exc c fs B) f gb r = .exc c fs B := rfl
theorem x_k1 : Ev.k1 (.exc c fs B) f s = .exc c fs B := rfl
theorem x_kc : Ev.kc (.exc c fs B) gr r = .exc c fs B := rfl
theorem x_kd : Ev.kd (.exc c fs B) s = .exc c fs B := rfl
theorem x_kN : Ev.kN (.exc c fs B) f = .exc c fs B := rfl
theorem x_kCall : Ev.kCall (.exc c fs B) n m = .exc c fs B := rfl
theorem x_kIf : Ev.kIf (.exc c fs B) ga gb r = .exc c fs B := rfl
theorem x_kSIf : Ev.kSIf (.exc c fs B) g1 g2 r = .exc c fs r B := rfl
theorem x_kAsg : Ev.kAsg (.exc c fs B) t r = .exc c fs r B := rfl
theorem x_kDrop : Ev.kDrop (.exc c fs B) r = .exc c fs r B := rfl
theorem x_kTry (h : tb c = some true) {ds : List PyData} (hi : xItems fs l = some ds) (hl : ds.length ≤ 1000 ∧ i < r1.length) : Ev.kTry (.exc c fs r1 B) i tb l = .ret (.dat (.tuple ds)) B := by
  unfold Ev.kTry
  simp only [h, hi]
  rw [if_pos ⟨sz_small hl.1, hl.2⟩]
theorem endX_self {B : Bs} (h : Flat B) {x : Str} {fs : List (Str × S)} (hf : ∀ p ∈ fs, refsS 0 p.2) : endX B.length x fs B = .exc x fs B := by
  rw [endX_dat h hf, List.take_length]
end
/-- a loop that hands back s at the first item that isn't good -/
theorem for_check {t : GT} {body : GS} {B : Bs} {chk : Bs → Prop} {α : Type} {h : α → S} {good : α → Bool} {I : En → Prop} {s : S} (hc : chk B) : ∀ (ps : List α) (r : En),
    (∀ p ∈ ps, ∀ r, I r → ∃ r1, t (h p) r = some r1 ∧ (good p = true → ∃ r2, body r1 B = .nx r2 B ∧ I r2) ∧ (good p = false → body r1 B = .ret s B)) → I r →
    (ps.all good = true → ∃ r', forL chk t body (ps.map h) r B = .nx r' B ∧ I r') ∧ (ps.all good = false → forL chk t body (ps.map h) r B = .ret s B)
  | [], r, _, h0 => ⟨fun _ => ⟨r, by rw [List.map_nil]; unfold forL; rw [if_pos hc], h0⟩, fun z => by simp at z⟩
  | p :: ps, r, q, h0 => by
    obtain ⟨r1, h1, h2, h3⟩ := q p List.mem_cons_self r h0
    have red : ∀ r2, body r1 B = .nx r2 B → forL chk t body ((p :: ps).map h) r B = forL chk t body (ps.map h) r2 B := fun r2 e => by
      rw [List.map_cons]
      conv => lhs; unfold forL
      rw [if_pos hc, h1]
      dsimp only
      rw [e]
    have red2 : body r1 B = .ret s B → forL chk t body ((p :: ps).map h) r B = .ret s B := fun e => by
      rw [List.map_cons]
      unfold forL
      rw [if_pos hc, h1]
      dsimp only
      rw [e]
    cases g : good p with
    | true =>
      obtain ⟨r2, h4, h5⟩ := h2 g
      have ih := for_check hc ps r2 (fun y m => q y (List.mem_cons_of_mem _ m)) h5
      rw [List.all_cons, g, Bool.true_and, red r2 h4]
      exact ih
    | false =>
      rw [List.all_cons, g, Bool.false_and, red2 (h3 g)]
      exact ⟨fun z => absurd z Bool.false_ne_true, fun _ => rfl⟩
/-- a comprehension whose items are drawn -/
theorem lc_draws {c : List PyData} {D : Nat} {P : PyData → Prop} {t : GT} {gt ge : GE} {r : En} {chk : Bs → Prop} (hc : ∀ B, chk B) : ∀ (its : List S) (acc : List PyData) (a : Nat) (r0 : Int) (B0 : Bs),
    (∀ x ∈ its, ∃ r1, t x r = some r1 ∧ (∀ B, gt r1 B = .ok (.dat (.bool true)) B) ∧ Draws c D P (ge r1)) → a + D * its.length ≤ 10 ^ 9 → 0 ≤ r0 → Flat B0 →
    ∃ (ds : List PyData) (a' : Nat) (r' : Int), lcL chk t gt ge r its (acc.map .dat) (fcell c a r0 :: B0) = .ok ((acc ++ ds).map .dat) (fcell c a' r' :: B0) ∧ ds.length = its.length ∧ (∀ d ∈ ds, P d) ∧ a' ≤ a + D * its.length ∧ 0 ≤ r'
  | [], acc, a, r0, B0, _, _, h0, _ => ⟨[], a, r0, by unfold lcL; rw [if_pos (hc _), List.append_nil], rfl, fun d m => absurd m (by simp), Nat.le_add_right _ _, h0⟩
  | x :: its, acc, a, r0, B0, h, ha, h0, hB => by
    obtain ⟨r1, h1, h2, h3⟩ := h x List.mem_cons_self
    have e6 : D * (its.length + 1) = D * its.length + D := Nat.mul_succ _ _
    rw [List.length_cons, e6] at ha
    obtain ⟨d, a1, r2, e1, g1, g2, g3⟩ := h3 a r0 B0 (by omega) h0 hB
    obtain ⟨ds, a2, r3, e2, e3, e4, e5, g4⟩ := lc_draws hc its (acc ++ [d]) a1 r2 B0 (fun y m => h y (List.mem_cons_of_mem _ m)) (by omega) g2 hB
    refine ⟨d :: ds, a2, r3, ?_, by rw [List.length_cons, List.length_cons, e3], fun y m => ?_, by rw [List.length_cons, e6]; omega, g4⟩
    · unfold lcL
      rw [if_pos (hc _), h1]
      dsimp only
      rw [h2]
      dsimp only
      rw [e1]
      dsimp only
      rw [List.map_append] at e2
      rw [show acc.map S.dat ++ [S.dat d] = acc.map S.dat ++ [d].map S.dat from rfl, e2, List.append_assoc]
      rfl
    · rcases List.mem_cons.mp m with rfl | m
      · exact g3
      · exact e4 y m
end PN

set_option maxRecDepth 100000
set_option maxHeartbeats 4000000
/-! PN, 21st part: sorted(set(..)) of ints, texts, tuples of these. -/
namespace PN
open PySem L2 PySem.Spec PyProof.Rows
/-- a kind of members: what stands for a key, its hash, what is known of the table -/
structure MK (P : Program) (w : World) (κ : Type) where
  isk : Heap → κ → Value → Prop
  hsh : κ → Int
  tabs : SetTable → List κ → Prop
section
variable {P : Program} {w : World} {κ : Type}
def MK.rows (D : MK P w κ) (L : List (Value × κ)) : List (Int × Value) := L.map fun p => (D.hsh p.2, p.1)
/-- the set at a has just the members L -/
structure StG (D : MK P w κ) (h : Heap) (a : Addr) (L : List (Value × κ)) : Prop where
  ob : ∃ o es ep t, h.get? a = some o ∧ o.ExactSet ∧ o.data = .set es ep t ∧ es.toList = D.rows L ∧ D.tabs t (L.map (·.2)) ∧ (w.params.followText "set-order" = true ∨ t.led = true)
  nd : (L.map (·.2)).Nodup
  mem : ∀ p ∈ L, D.isk h p.2 p.1
  few : L.length < 64
/-- tuples stay -/
def TupsStay (h h' : Heap) : Prop := ∀ b o, h.get? b = some o → o.cls = .type "tuple" → h'.get? b = some o
structure MK.Good (D : MK P w κ) : Prop where
  keep : ∀ {h h' : Heap} {k : κ} {v : Value}, D.isk h k v → TupsStay h h' → D.isk h' k v
  fits : ∀ {t : SetTable} {ks : List κ}, D.tabs t ks → ks.length < 64 → t.fits ks.length = true
  ris : ∀ {t : SetTable} {ks : List κ}, D.tabs t ks → Ris t.place.toList
  fresh : ∀ led, D.tabs (.fresh 0 0 led) []
  hash : ∀ {A : Around} {E : Value → Shared → Prop} {s : Shared} {k : κ} {v : Value} {Q : Int → Shared → Prop}, A.units < cLine → D.isk s.heap k v → (∀ tk, s.toks ≤ tk → Q (D.hsh k) { s with toks := tk }) → wpAny (model P w) A (pyHash v) Q E s
  add : ∀ {A : Around} {E : Value → Shared → Prop} {s : Shared} {a : Addr} {L : List (Value × κ)} {k : κ} {v : Value} {Q : Bool → Shared → Prop}, A.units < cLine → StG D s.heap a L → D.isk s.heap k v → L.length + 1 < 64 →
    (∀ b h' L', Heap.SameBut a s.heap h' → StG D h' a L' → (k ∈ L.map (·.2) → L' = L) → (k ∉ L.map (·.2) → L'.Perm ((v, k) :: L)) → Q b { s with heap := h' }) → wpAny (model P w) A (setAddHashed a v (D.hsh k)) Q E s
theorem rows_len {D : MK P w κ} {es : Array (Int × Value)} {L : List (Value × κ)} (h : es.toList = D.rows L) : es.size = L.length := by
  rw [← Array.length_toList, h, MK.rows, List.length_map]
theorem rows_at {D : MK P w κ} {es : Array (Int × Value)} {L : List (Value × κ)} (h : es.toList = D.rows L) {i : Nat} {p : Value × κ} (hp : L[i]? = some p) : es[i]? = some (D.hsh p.2, p.1) := by
  rw [← Array.getElem?_toList, h, MK.rows, List.getElem?_map, hp]
  rfl
theorem StG.stay {D : MK P w κ} (G : D.Good) {h h' : Heap} {a : Addr} {L : List (Value × κ)} (S : StG D h a L) (ha : ∀ o, h.get? a = some o → h'.get? a = some o) (ht : TupsStay h h') : StG D h' a L := by
  obtain ⟨o, es, ep, t, ho, r⟩ := S.ob
  exact ⟨⟨o, es, ep, t, ha o ho, r⟩, S.nd, fun p m => G.keep (S.mem p m) ht, S.few⟩
theorem StG.fresh {D : MK P w κ} (G : D.Good) {h : Heap} {a : Addr} (ho : h.get? a = some { cls := .type "set", dict := none, data := .set #[] 0 (.fresh 0 0 (!w.params.followText "set-order")) }) : StG D h a [] where
  ob := ⟨_, #[], 0, _, ho, ⟨rfl, rfl, rfl⟩, rfl, rfl, G.fresh _, by
    show _ ∨ (!w.params.followText "set-order") = true
    cases w.params.followText "set-order"
    · exact .inr rfl
    · exact .inl rfl⟩
  nd := List.nodup_nil
  mem p m := absurd m (by simp)
  few := by show 0 < 64; decide
/-- a set that has turned: tuples stay -/
theorem stay_but {h h' : Heap} {a : Addr} {o : Obj} (ho : h.get? a = some o) (hc : o.cls = .type "set") (sb : Heap.SameBut a h h') : TupsStay h h' := fun b u e c => by
  have ne : b ≠ a := fun q => by
    subst q
    rw [ho] at e
    cases e
    rw [hc] at c
    exact absurd c (by decide)
  rw [sb.2 b ne]
  exact e
/-! ### the loop of set(xs) -/
/-- what came of the first i of xs -/
structure Came (xs : List (Value × κ)) (i : Nat) (L : List (Value × κ)) : Prop where
  sub : ∀ p ∈ L, p ∈ xs.take i
  all : ∀ p ∈ xs.take i, p.2 ∈ L.map (·.2)
  len : L.length ≤ i
theorem Came.go [DecidableEq κ] {xs L L' : List (Value × κ)} {i : Nat} {x : Value × κ} (g : Came xs i L) (h : xs[i]? = some x) (c1 : x.2 ∈ L.map (·.2) → L' = L) (c2 : x.2 ∉ L.map (·.2) → L'.Perm (x :: L)) : Came xs (i + 1) L' := by
  have tk : xs.take (i + 1) = xs.take i ++ [x] := by
    rw [List.take_succ, h]
    rfl
  by_cases q : x.2 ∈ L.map (·.2)
  · rw [c1 q]
    refine ⟨fun p m => ?_, fun p m => ?_, Nat.le_succ_of_le g.len⟩ <;> rw [tk] at *
    · exact List.mem_append_left _ (g.sub p m)
    · rcases List.mem_append.mp m with m | m
      · exact g.all p m
      · rw [List.mem_singleton.mp m]; exact q
  · have pm := c2 q
    refine ⟨fun p m => ?_, fun p m => ?_, by rw [pm.length_eq]; exact Nat.succ_le_succ g.len⟩ <;> rw [tk] at *
    · rcases List.mem_cons.mp (pm.mem_iff.mp m) with e | m
      · rw [e]; exact List.mem_append_right _ List.mem_cons_self
      · exact List.mem_append_left _ (g.sub p m)
    · rw [(pm.map (·.2)).mem_iff]
      rcases List.mem_append.mp m with m | m
      · exact List.mem_cons_of_mem _ (g.all p m)
      · rw [List.mem_singleton.mp m]; exact List.mem_cons_self
end
section
variable {P : Program} {w : World} {A : Around} {κ : Type} [DecidableEq κ] {D : MK P w κ}
theorem fill_loop (G : D.Good) {It : Addr} {fp wr : List Addr} {Gs : Array GenState → Array GenState → Prop} {n : Nat} {Pv : Nat → Value → Prop} {St : Nat → Shared → Prop} {R : Result → Shared → Prop} (W : WalksS P w A.in1 It fp wr Gs n Pv St) (a : Addr) (haf : a ∉ fp) (xs : List (Value × κ))
    (hn : n = xs.length) (h64 : xs.length < 64) (hv : ∀ i v, Pv i v → ∃ p, xs[i]? = some p ∧ v = p.1) (h0 : Heap) (hk : ∀ p ∈ xs, D.isk h0 p.2 p.1) (ha0 : h0.get? a = none) (hw0 : ∀ b ∈ wr, h0.get? b = none) (hu : A.in1.units < cLine) :
    ∀ (d i : Nat) (s : Shared), i + d = n → St i s → (∀ b o, h0.get? b = some o → s.heap.get? b = some o) → (∃ L, StG D s.heap a L ∧ Came xs i L) →
      (∀ s' L, Moved (a :: wr) Gs s s' → StG D s'.heap a L → Came xs n L → (∀ b o, h0.get? b = some o → s'.heap.get? b = some o) → R (.ok (.ret .none)) s') → codeAny (model P w) A (.builtin "set.update.loop" ⟨[.ref a, .ref It], []⟩) R s := by
  have haw : a ∉ wr := fun h => haf (W.sub _ h)
  have up : ∀ b ∈ wr, b ∈ a :: wr := fun b m => List.mem_cons_of_mem _ m
  have old : ∀ {s s' : Shared}, Moved wr Gs s s' → (∀ b o, h0.get? b = some o → s.heap.get? b = some o) → ∀ b o, h0.get? b = some o → s'.heap.get? b = some o := fun mv k b o e =>
    mv.heap b o (fun m => by rw [hw0 b m] at e; cases e) (k b o e)
  have set_kept : ∀ {s s' : Shared} {L : List (Value × κ)} {i : Nat}, Moved wr Gs s s' → (∀ b o, h0.get? b = some o → s'.heap.get? b = some o) → StG D s.heap a L → Came xs i L → StG D s'.heap a L := fun {s s' L i} mv k S g => by
    obtain ⟨o, es, ep, t, ho, r⟩ := S.ob
    exact ⟨⟨o, es, ep, t, mv.heap a o haw ho, r⟩, S.nd, fun p m => G.keep (hk p (List.mem_of_mem_take (g.sub p m))) fun b u e _ => k b u e, S.few⟩
  intro d
  induction d with
  | zero =>
    intro i s hi hst k ⟨L, S, g⟩ hR
    have ei : i = n := hi
    subst ei
    refine codeAny_builtin F.entry_set_update_loop ?_
    rw [Around.under_plainId F.plain_set_update_loop _]
    show wpAny _ A.in1 (pyNext (.ref It) >>= _) _ _ s
    refine wpAny_bind (W.done s _ _ hst fun s' mv => ?_)
    show wpAny _ A.in1 (ret Value.none) _ _ s'
    have k' := old mv k
    exact wpAny_pure (hR s' L (mv.mono up) (set_kept mv k' S g) g k')
  | succ d ih =>
    intro i s hi hst k ⟨L, S, g⟩ hR
    refine codeAny_builtin F.entry_set_update_loop ?_
    rw [Around.under_plainId F.plain_set_update_loop _]
    show wpAny _ A.in1 (pyNext (.ref It) >>= _) _ _ s
    refine wpAny_bind (W.item i s _ _ (by omega) hst fun v s' hP hst' mv => ?_)
    obtain ⟨p, hp, rfl⟩ := hv i v hP
    have k' := old mv k
    have S' := set_kept mv k' S g
    have hx : D.isk s'.heap p.2 p.1 := G.keep (hk p (List.mem_of_getElem? hp)) fun b u e _ => k' b u e
    show wpAny _ A.in1 (holding [p.1] (setAdd a p.1) >>= _) _ _ s'
    refine wpAny_bind (wpAny_holding ?_)
    unfold setAdd
    refine wpAny_holding (wpAny_bind (G.hash hu hx fun tk htk => ?_))
    refine G.add (s := { s' with toks := tk }) hu S' hx (by have := g.len; omega) fun b h' L' sb S2 c1 c2 => ?_
    have g' := g.go hp c1 c2
    have k2 : ∀ b o, h0.get? b = some o → h'.get? b = some o := fun b o e => by
      rw [sb.2 b (fun z => by rw [z, ha0] at e; cases e)]
      exact k' b o e
    refine wpAny_pure ⟨plainId_quiet F.plain_set_update_loop _, ih (i + 1) _ (by omega) (W.frame _ s' _ _ hst' htk fun b m o e => ?_) k2 ⟨L', S2, g'⟩ fun s'' L2 mv2 S3 g3 k3 => ?_⟩
    · rw [sb.2 b (fun q => haf (by rw [← q]; exact m))]
      exact e
    · refine hR s'' L2 (Moved.trans W.gtrans ((mv.mono up).then_heap htk fun b o m e => ?_) mv2) S3 g3 k3
      rw [sb.2 b (fun q => m (by rw [q]; exact List.mem_cons_self))]
      exact e
/-! ### set(xs) -/
set_option maxHeartbeats 3200000 in
theorem fill_call (G : D.Good) {E : Value → Shared → Prop} {s : Shared} {l : Addr} {its : Array Value} (xs : List (Value × κ)) {Q : Value → Shared → Prop} (hh : A.handled = none) (hl : s.heap.IsList l its) (hit : its.toList = xs.map (·.1))
    (hk : ∀ p ∈ xs, D.isk s.heap p.2 p.1) (h64 : xs.length < 64) (hu : A.units + 3 < cLine)
    (hQ : ∀ (h' : Heap) (tk : Nat) L, StG D h' s.heap.objs.size L → Came xs xs.length L → (∀ b o, s.heap.get? b = some o → h'.get? b = some o) → Q (.ref s.heap.objs.size) { s with heap := h', toks := tk }) :
    wpAny (model P w) A (call (.type "set") [.ref l]) Q E s := by
  have hsz : its.size = xs.length := by rw [← Array.length_toList, hit, List.length_map]
  obtain ⟨c, tl, hmro⟩ := F.called_set.mro
  have hmade := F.called_set.made
  have hsub := F.called_set.sub
  refine wpAny_call (codeAny_of_tree ?_)
  show wpAny _ _ (callAny (.type "set") _) _ _ _
  refine wpAny_pure ⟨Code.quiet_builtin _ (by decide +kernel), codeAny_builtin F.entry_type_call ?_⟩
  rw [Around.under_plain (weight_type_call_type "set" [.ref l] []) rfl]
  have z1 := F.called_set.notType
  have z2 := F.called_set.canCreate
  have z3 := F.typeCall_set_1 (.ref l)
  repeat (any_goals (first | assumption | wp_step))
  generalize ho0 : ({ cls := .type "set", dict := none, data := .set #[] 0 (.fresh 0 0 (!w.params.followText "set-order")) } : Obj) = o0
  refine codeAny_mono (code_set_led1 (.ref l) (E := E) (Q₁ := fun obj s₁ => obj = .ref s.heap.objs.size ∧ s₁ = { s with heap := s.heap.push o0 }) ⟨rfl, by rw [← ho0]⟩) fun r s₁ hr => ?_
  cases r with
  | error e => exact hr
  | ok fl =>
    cases fl with
    | ret obj =>
      obtain ⟨rfl, rfl⟩ := hr
      have hS : (s.heap.push o0).get? s.heap.objs.size = some o0 := Heap.get?_push_size _ (by rw [← ho0]; rfl)
      have hT : Shared.TypeIs { s with heap := s.heap.push o0 } (.ref s.heap.objs.size) "set" := ⟨_, hS, by rw [← ho0]⟩
      have z4 := F.called_set.init.lookup
      have z5 := F.called_set.init.bind (.ref s.heap.objs.size)
      repeat (any_goals (first | assumption | wp_step))
      refine codeAny_mono (codeAny_call_builtin (R := wants (fun r s₂ => r = .none ∧ ∃ h' tk L, s₂ = { s with heap := h', toks := tk } ∧ StG D h' s.heap.objs.size L ∧ Came xs xs.length L ∧ (∀ b o, s.heap.get? b = some o → h'.get? b = some o)) E)
        F.called_set.init.plain F.entry_set_init (check_set_init_1 hT ?_)) fun r₂ s₂ hr₂ => ?_
      · obtain ⟨ol, hol, hcl, nl, hdl⟩ := hl
        obtain ⟨ocls, odict, odata, oslots⟩ := ol
        simp only at hcl hdl
        subst hcl; subst hdl
        have hol' : (s.heap.push o0).get? l = some { cls := .type "list", dict := odict, data := .seq its nl, slots := oslots } := Heap.get?_push_of_some _ hol
        have y1 := F.sub_list_set
        have y2 := F.sub_list_frozenset
        have y3 : (Value.type "list" == Value.type "dict") = false := by decide
        have hl1 : (s.heap.push o0).IsList l its := ⟨_, hol', rfl, nl, rfl⟩
        have lt : l < s.heap.objs.size := Heap.lt_size hol
        have hz : (s.heap.push o0).objs.size = s.heap.objs.size + 1 := Heap.size_push ..
        have nI : l ≠ (s.heap.push o0).objs.size := by rw [hz]; exact Nat.ne_of_lt (Nat.lt_succ_of_lt lt)
        have nf : s.heap.objs.size ∉ [(s.heap.push o0).objs.size, l] := by
          rw [hz]
          simp only [List.mem_cons, List.not_mem_nil, or_false, not_or]
          exact ⟨Nat.ne_of_lt (Nat.lt_succ_self _), Nat.ne_of_gt lt⟩
        subst ho0
        unfold Builtin.«set.__init__» noKeywords Builtin.Frozenset.updateFrom
        generalize hPI : pyIter = PI
        wp_walk
        subst hPI
        refine wpAny_pyIter_list hl1 ?_
        refine wpAny_bind (wpAny_runValue ?_)
        have hv : ∀ (i : Nat) (v : Value), its[i]? = some v → ∃ p, xs[i]? = some p ∧ v = p.1 := fun i v e => by
          rw [← Array.getElem?_toList, hit, List.getElem?_map] at e
          cases q : xs[i]? with
          | none => rw [q] at e; cases e
          | some p => rw [q] at e; cases e; exact ⟨p, rfl, rfl⟩
        have gone : ∀ b, s.heap.objs.size ≤ b → s.heap.get? b = none := fun b hb => by
          cases q : s.heap.get? b with
          | none => rfl
          | some o => exact absurd (Nat.lt_of_lt_of_le (Heap.lt_size q) hb) (Nat.lt_irrefl _)
        refine fill_loop G ((Walks.list (by simp [hh]) _ l nI its).toS) s.heap.objs.size nf xs hsz h64 hv s.heap hk (gone _ (Nat.le_refl _)) (fun b m => gone b (by rw [List.mem_singleton.mp m, hz]; exact Nat.le_succ _)) hu its.size 0 _ (Nat.zero_add _)
          ⟨⟨_, Heap.get?_push_size _ rfl, rfl, rfl⟩, hl1.push _⟩ (fun b o e => Heap.get?_push_of_some _ (Heap.get?_push_of_some _ e)) ⟨[], StG.fresh G ?_, ⟨fun p m => absurd m (by simp), fun p m => absurd m (by simp), Nat.le_refl _⟩⟩ fun s' L mv S' g' k' => ?_
        · exact Heap.get?_push_of_some _ hS
        · obtain ⟨h', g2, d', tk', os'⟩ := s'
          have e1 : g2 = s.gens := mv.gens
          have e2 : d' = s.drawn := mv.drawn
          have e3 : os' = s.os := mv.os
          subst e1; subst e2; subst e3
          show wpAny _ _ _ _ _ _
          refine wpAny_pure ?_
          show wpAny _ _ (ret Value.none) _ _ _
          rw [hsz] at g'
          exact wpAny_pure ⟨rfl, h', tk', L, rfl, S', g', k'⟩
      · cases r₂ with
        | error e => exact hr₂
        | ok fl₂ =>
          cases fl₂ with
          | ret r =>
            obtain ⟨rfl, h', tk, L, rfl, S', g', k'⟩ := hr₂
            repeat (any_goals (first | assumption | wp_step))
            exact hQ _ _ _ S' g' k'
          | _ => exact hr₂.elim
    | _ => exact hr.elim
end
/-! ### ints and texts -/
section
variable (P : Program) (w : World)
def MKs : MK P w Key := ⟨fun _ k v => keyIs k v = true, keyH w, fun t ks => t.fits ks.length = true ∧ Ris t.place.toList⟩
end
section
variable {P : Program} {w : World} {A : Around} {E : Value → Shared → Prop} {s : Shared}
theorem scan_of {k : Key} {v : Value} (h : keyIs k v = true) : v.scannable = true := by
  rcases keyIs_shape h with ⟨i, t, rfl, rfl⟩ | ⟨x, t, rfl, rfl⟩ <;> rfl
theorem mks_elems {h : Heap} {L : List (Value × Key)} (hm : ∀ p ∈ L, (MKs P w).isk h p.2 p.1) : ElemsOf (mixKind P w) ((MKs P w).rows L) := fun e he => by
  obtain ⟨p, hp, rfl⟩ := List.mem_map.mp he
  exact ⟨⟨p.2, hm p hp, rfl⟩, scan_of (hm p hp)⟩
theorem rows_perm {κ : Type} {D : MK P w κ} {L : List (Value × κ)} {r : List (Int × Value)} (h : r.Perm (D.rows L)) : ∃ L', r = D.rows L' ∧ L'.Perm L := by
  obtain ⟨L', h1, h2⟩ := L2.perm_lift (fun p : Value × κ => (D.hsh p.2, p.1)) h L rfl
  exact ⟨L', h2.symm, h1⟩
end
end PN

set_option maxRecDepth 100000
set_option maxHeartbeats 4000000
/-! PN, 22nd part: sets of ints, texts; of tuples of these. -/
namespace PN
open PySem L2 PySem.Spec PyProof.Rows
section
variable {P : Program} {w : World} {A : Around} {E : Value → Shared → Prop} {s : Shared}
theorem mks_tail {g : Bool → Sem Unit} (hg : ∀ (b : Bool) (z : Shared) (T : Unit → Shared → Prop), T () z → wpAny (model P w) A (g b) T E z) {a : Addr} {o : Obj} {es : Array (Int × Value)} {ep : Nat} {t : SetTable} (ho : s.heap.get? a = some o) (hex : o.ExactSet) (hd : o.data = .set es ep t)
    {fs : Array (Int × Value)} {u : SetTable} {L : List (Value × Key)} (hr : fs.toList = (MKs P w).rows L) (nd : (L.map (·.2)).Nodup) (few : L.length < 64) (mem : ∀ p ∈ L, keyIs p.2 p.1 = true) (hf : u.fits fs.size = true) (ri : Ris u.place.toList) (ld : w.params.followText "set-order" = true ∨ u.led = true) {wd : Bool} {R : Option Bool → Shared → Prop}
    (hR : ∀ h' L', Heap.SameBut a s.heap h' → StG (MKs P w) h' a L' → L'.Perm L → R (some true) { s with heap := h' }) :
    wpAny (model P w) A (do
        storeSet a fs u
        if (!wd && u.tooFull) = true then do
            g (relayAll u fs (SetTable.grown fs.size)).2.2
            storeSet a (relayAll u fs (SetTable.grown fs.size)).1 (relayAll u fs (SetTable.grown fs.size)).2.1
            pure (some true)
          else pure (some true)) R E s := by
  have sz := rows_len hr
  have b1 : fs.size < scanBound := by unfold scanBound; omega
  refine wpAny_bind (wpAny_storeSet_of ho hd ?_ (fits_of_scanBound b1))
  have o1 := store_at (es' := fs) (t' := u) ho hd
  have s1 := Heap.SameBut.update s.heap a (Obj.putSet fs u)
  split
  · have p3 := relayAll_perm u fs (SetTable.grown fs.size)
    have f3 := relayAll_fits u fs (SetTable.grown fs.size)
    have r3 := relayAll_ris u fs (SetTable.grown fs.size)
    have l3 := relayAll_led u fs (SetTable.grown fs.size)
    generalize relayAll u fs (SetTable.grown fs.size) = Z at p3 f3 r3 l3 ⊢
    obtain ⟨gs, v, gave⟩ := Z
    dsimp only at p3 f3 r3 l3 ⊢
    rw [hr] at p3
    obtain ⟨L', e', pm⟩ := rows_perm p3
    have z2 := rows_len e'
    have zl := pm.length_eq
    refine wpAny_bind (hg _ _ _ (wpAny_bind (wpAny_storeSet_of o1 rfl ?_ (fits_of_scanBound (by unfold scanBound; omega)))))
    have o2 := store_at (es' := gs) (t' := v) o1 rfl
    refine wpAny_pure (hR _ L' (s1.trans (Heap.SameBut.update _ a _)) ⟨⟨_, gs, _, v, o2, hex, rfl, e', ⟨?_, r3⟩, ld.imp id fun z => by rw [l3]; exact z⟩, (pm.map _).nodup_iff.mpr nd, fun p m => mem p (pm.mem_iff.mp m), by omega⟩ pm)
    rw [List.length_map, ← z2]
    exact f3
  · exact wpAny_pure (hR _ L s1 ⟨⟨_, fs, _, u, o1, hex, rfl, hr, ⟨by rw [List.length_map, ← sz]; exact hf, ri⟩, ld⟩, nd, mem, few⟩ (List.Perm.refl _))
theorem mks_add {a : Addr} {L : List (Value × Key)} {k : Key} {v : Value} {Q : Bool → Shared → Prop} (S : StG (MKs P w) s.heap a L) (hv : keyIs k v = true) (hl : L.length + 1 < 64)
    (hQ : ∀ b h' L', Heap.SameBut a s.heap h' → StG (MKs P w) h' a L' → (k ∈ L.map (·.2) → L' = L) → (k ∉ L.map (·.2) → L'.Perm ((v, k) :: L)) → Q b { s with heap := h' }) : wpAny (model P w) A (setAddHashed a v (keyH w k)) Q E s := by
  obtain ⟨o, es, ep, t, ho, hex, hd, hr, ⟨hf, ri⟩, ld⟩ := S.ob
  have sc := scan_of hv
  have el : ElemsOf (mixKind P w) es.toList := by rw [hr]; exact mks_elems S.mem
  have sz := rows_len hr
  rw [List.length_map, ← sz] at hf
  have b0 : es.size < scanBound := by unfold scanBound; omega
  have found : (∃ e ∈ es.toList, (mixKind P w).is k e.2 = true) ↔ k ∈ L.map (·.2) := by
    rw [hr]
    constructor
    · rintro ⟨e, me, q⟩
      obtain ⟨p, mp, rfl⟩ := List.mem_map.mp me
      exact List.mem_map.mpr ⟨p, mp, ((mixKind P w).inj _ _ _ q (S.mem p mp)).symm⟩
    · intro m
      obtain ⟨p, mp, rfl⟩ := List.mem_map.mp m
      exact ⟨_, List.mem_map.mpr ⟨p, mp, rfl⟩, S.mem p mp⟩
  unfold setAddHashed setAddHashedIn
  refine wpAny_holding (wpAny_bind (wpAny_setState_of ho hd hf ?_))
  dsimp only
  rw [byScan_of sc b0 el]
  simp only [↓reduceIte]
  unfold setAddByScan
  refine wpAny_bind (wpAny_bind (wpAny_rule (wpAny_bind (wpAny_setScan_of (knd := mixKind P w) hv ho hd hf el ?_))))
  cases hi : List.findIdx? (fun e => (mixKind P w).is k e.2) es.toList with
  | some j =>
    dsimp only
    obtain ⟨hj, pj, _⟩ := List.findIdx?_eq_some_iff_getElem.mp hi
    have m : k ∈ L.map (·.2) := found.mp ⟨_, List.getElem_mem hj, pj⟩
    exact wpAny_pure (wpAny_pure (hQ false s.heap L (Heap.SameBut.refl a s.heap) S (fun _ => rfl) fun z => absurd m z))
  | none =>
    dsimp only
    have m : k ∉ L.map (·.2) := fun z => by
      obtain ⟨e, me, q⟩ := found.mpr z
      have := List.findIdx?_eq_none_iff.mp hi e me
      rw [q] at this
      cases this
    have gw : ∀ (b : Bool) {z : Shared} {T : Unit → Shared → Prop}, T () z → wpAny (model P w) A (match b with | true => rule "set.scan.the-table-gave-way" | false => pure ()) T E z := fun b z T q => by
      cases b
      · exact wpAny_pure q
      · exact wpAny_rule q
    have p1 := layNew_perm t es (keyH w k) v
    have f1 := layNew_fits t es (keyH w k) v
    have r1 := layNew_ris t es (keyH w k) v ri
    have l1 := layNew_led t es (keyH w k) v
    show wpAny _ _ _ _ _ _
    generalize hZ : layNew t es (keyH w k) v = Z at p1 f1 r1 l1
    have hZ' : layNew t es ((mixKind P w).hash k) v = Z := hZ
    first | rw [hZ'] | rw [hZ] | skip
    obtain ⟨fs, u, wd, gave⟩ := Z
    dsimp only at p1 f1 r1 l1 ⊢
    rw [Array.toList_push, hr] at p1
    have p2 : fs.toList.Perm ((MKs P w).rows ((v, k) :: L)) := p1.trans (List.perm_append_singleton _ _)
    obtain ⟨L1, e1, pm⟩ := rows_perm p2
    have zl := pm.length_eq
    rw [List.length_cons] at zl
    have nd1 : (L1.map (·.2)).Nodup := (pm.map _).nodup_iff.mpr (List.nodup_cons.mpr ⟨m, S.nd⟩)
    have mem1 : ∀ p ∈ L1, keyIs p.2 p.1 = true := fun p mp => by
      rcases List.mem_cons.mp (pm.mem_iff.mp mp) with q | q
      · rw [q]; exact hv
      · exact S.mem p q
    have ld1 : w.params.followText "set-order" = true ∨ u.led = true := ld.imp id fun z => by rw [l1]; exact z
    have fin : ∀ h' L', Heap.SameBut a s.heap h' → StG (MKs P w) h' a L' → L'.Perm L1 → Q true { s with heap := h' } := fun h' L' sb S' q => hQ true h' L' sb S' (fun z => absurd z m) fun _ => q.trans pm
    refine wpAny_bind (gw _ ?_)
    split
    · refine wpAny_bind ?_
      rw [hashByValue_scannable 8 sc]
      refine wpAny_pure (mks_tail (fun b z T q => by cases b <;> first | exact wpAny_pure q | exact wpAny_rule q) ho hex hd e1 nd1 (by omega) mem1 ?_ ?_ ?_ fun h' L' sb S' q => ?_)
      · first | (split <;> first | exact f1 | exact SetTable.fits_plain_off f1) | exact f1
      · first | (split <;> exact r1) | exact r1
      · first | (split <;> exact ld1) | exact ld1
      · dsimp only; exact wpAny_pure (fin h' L' sb S' q)
    · refine wpAny_bind (wpAny_pure ?_)
      simp only [↓reduceIte]
      refine mks_tail (fun b z T q => by cases b <;> first | exact wpAny_pure q | exact wpAny_rule q) ho hex hd e1 nd1 (by omega) mem1 f1 r1 ld1 fun h' L' sb S' q => ?_
      dsimp only
      exact wpAny_pure (fin h' L' sb S' q)
theorem mks_good : (MKs P w).Good where
  keep h _ := h
  fits h _ := h.1
  ris h := h.2
  fresh led := ⟨by rfl, List.Pairwise.nil⟩
  hash _ hv hQ := (mixKind P w).pyHash hv (hQ _ (Nat.le_succ _))
  add _ S hv hl hQ := mks_add S hv hl hQ
end
end PN

set_option maxRecDepth 100000
set_option maxHeartbeats 4000000
/-! PN, 23rd part: sets of tuples of ints and texts. -/
namespace PN
open PySem L2 PySem.Spec PyProof.Rows
abbrev TKey (P : Program) (w : World) (h : Heap) (ks : List Key) (b : Addr) : Prop := IsTupleKey (mixKind P w) h ks b
abbrev tkH (P : Program) (w : World) (ks : List Key) : Int := tupleKeyHash (mixKind P w) ks
section
variable (P : Program) (w : World)
def MKt : MK P w (List Key) := ⟨fun h ks v => ∃ b, v = .ref b ∧ TKey P w h ks b, tkH P w, fun t ks => TabOk t (ks.map (tkH P w)) ∧ ks.length * 5 < t.mask * 3⟩
end
section
variable {P : Program} {w : World} {A : Around} {E : Value → Shared → Prop} {s : Shared}
/-- an int or a text -/
def Atom (v : Value) : Prop := (∃ i t, v = .int i t) ∨ ∃ x t, v = .str x t
theorem atoms {ks : List Key} {vs : List Value} (h : ItemsAre (mixKind P w) ks vs) : ∀ v ∈ vs, Atom v := by
  induction h with
  | nil => exact fun v m => absurd m (by simp)
  | cons h1 _ ih =>
    intro v m
    rcases List.mem_cons.mp m with e | m
    · subst e
      rcases keyIs_shape h1 with ⟨i, t, _, e⟩ | ⟨x, t, _, e⟩
      · exact .inl ⟨i, t, e⟩
      · exact .inr ⟨x, t, e⟩
    · exact ih v m
theorem atom_class {n : Nat} {v : Value} (h : Atom v) : ofAClassStatement n v = pure false := by
  rcases h with ⟨i, t, rfl⟩ | ⟨x, t, rfl⟩ <;> cases n <;> rfl
theorem atom_hash {n : Nat} {v : Value} (h : Atom v) : ∃ b, hashByValue n v = pure b := by
  rcases h with ⟨i, t, rfl⟩ | ⟨x, t, rfl⟩
  · exact ⟨true, by cases n <;> rfl⟩
  · exact ⟨false, by cases n <;> rfl⟩
theorem tk_class {ks : List Key} {b : Addr} {Q : Bool → Shared → Prop} (hk : TKey P w s.heap ks b) (hq : Q false s) : wpAny (model P w) A (ofAClassStatement 8 (.ref b)) Q E s := by
  have hT := hk.typeIs
  obtain ⟨o, its, n, ho, _, hd, hi⟩ := hk
  unfold ofAClassStatement
  refine wpAny_bind (wpAny_typeOf hT ?_)
  dsimp only
  have e : (("tuple" : String) == "tuple") = true := by decide
  simp only [e, if_true, Bool.not_true, Bool.false_eq_true, if_false]
  try refine wpAny_bind (wpAny_pure ?_)
  try simp only [Bool.not_true, Bool.false_eq_true, if_false]
  show wpAny _ _ (seqItems? (.ref b) >>= _) _ _ s
  refine wpAny_bind (wpAny_seqItems ho hd ?_)
  dsimp only
  refine wpAny_bind ?_
  show wpAny _ _ (forIn its _ _) _ _ s
  rw [← Array.forIn_toList]
  refine wpAny_forIn_list _ (fun l r z => r.1 = none ∧ z = s ∧ ∀ v ∈ l, Atom v) _ (fun v l r z I => ?_) (fun r z I => ?_) _ _ ⟨rfl, rfl, atoms hi⟩
  · obtain ⟨e1, rfl, al⟩ := I
    rw [atom_class (al v List.mem_cons_self)]
    refine wpAny_bind (wpAny_pure ?_)
    simp only [Bool.false_eq_true, if_false]
    exact wpAny_pure ⟨rfl, rfl, fun u m => al u (List.mem_cons_of_mem _ m)⟩
  · obtain ⟨r1, r2⟩ := r
    obtain ⟨e1, rfl, _⟩ := I
    simp only at e1
    subst e1
    exact wpAny_pure hq
theorem tk_hash {ks : List Key} {b : Addr} {Q : Bool → Shared → Prop} (hk : TKey P w s.heap ks b) (hq : ∀ b, Q b s) : wpAny (model P w) A (hashByValue 8 (.ref b)) Q E s := by
  have hT := hk.typeIs
  obtain ⟨o, its, n, ho, _, hd, hi⟩ := hk
  unfold hashByValue
  refine wpAny_bind (wpAny_specialOf hT F.slot_tuple_hash.lookup ?_)
  show wpAny _ _ (seqItems? (.ref b) >>= _) _ _ s
  refine wpAny_bind (wpAny_seqItems ho hd ?_)
  refine wpAny_bind ?_
  show wpAny _ _ (forIn its _ _) _ _ s
  rw [← Array.forIn_toList]
  refine wpAny_forIn_list _ (fun l r z => r.1 = none ∧ z = s ∧ ∀ v ∈ l, Atom v) _ (fun v l r z I => ?_) (fun r z I => ?_) _ _ ⟨rfl, rfl, atoms hi⟩
  · obtain ⟨e1, rfl, al⟩ := I
    obtain ⟨b', eb⟩ := atom_hash (n := 7) (al v List.mem_cons_self)
    rw [eb]
    refine wpAny_bind (wpAny_pure ?_)
    cases b' with
    | true =>
      simp only [Bool.not_true, Bool.false_eq_true, if_false]
      exact wpAny_pure ⟨rfl, rfl, fun u m => al u (List.mem_cons_of_mem _ m)⟩
    | false =>
      simp only [Bool.not_false, if_true]
      exact wpAny_pure (wpAny_pure (hq false))
  · obtain ⟨r1, r2⟩ := r
    obtain ⟨_, rfl, _⟩ := I
    cases r1 with
    | none => exact wpAny_pure (hq true)
    | some b => exact wpAny_pure (hq b)
/-- a search among them shows nothing -/
theorem tk_seen {ks : List Key} {b : Addr} {Q : Bool → Shared → Prop} (hk : TKey P w s.heap ks b) {ys : List Value} (hy : ∀ y ∈ ys, ∃ ks' c, y = Value.ref c ∧ TKey P w s.heap ks' c) (hq : Q false s) : wpAny (model P w) A (searchCouldBeSeen (.ref b) ys) Q E s := by
  unfold searchCouldBeSeen
  refine wpAny_bind ?_
  refine wpAny_forIn_list _ (fun l r z => r.1 = none ∧ z = s ∧ ∀ y ∈ l, ∃ ks' c, y = Value.ref c ∧ TKey P w s.heap ks' c) _ (fun v l r z I => ?_) (fun r z I => ?_) _ _ ⟨rfl, rfl, hy⟩
  · obtain ⟨e1, rfl, al⟩ := I
    obtain ⟨ks', c, rfl, hc⟩ := al v List.mem_cons_self
    have more : ∀ y ∈ l, ∃ ks' c, y = Value.ref c ∧ TKey P w z.heap ks' c := fun u m => al u (List.mem_cons_of_mem _ m)
    dsimp only
    by_cases q : (b == c || (carriedByValue (.ref b) && carriedByValue (.ref c))) = true
    · exact wp_if_pos q (wpAny_pure ⟨rfl, rfl, more⟩)
    · refine wp_if_neg q (wpAny_bind (wpAny_eqIsQuiet_tuple hk ?_))
      simp only [Bool.not_true, Bool.false_eq_true, if_false]
      refine wpAny_bind (wpAny_eqIsQuiet_tuple hc ?_)
      simp only [Bool.not_true, Bool.false_eq_true, if_false]
      refine wpAny_bind (tk_class hk ?_)
      simp only [Bool.false_eq_true, if_false]
      refine wpAny_bind (tk_class hc ?_)
      simp only [Bool.false_eq_true, if_false]
      exact wpAny_pure ⟨rfl, rfl, more⟩
  · obtain ⟨r1, r2⟩ := r
    obtain ⟨e1, rfl, _⟩ := I
    simp only at e1
    subst e1
    exact wpAny_pure hq
theorem tab_fits {t : SetTable} {ks : List (List Key)} (T : TabOk t (ks.map (tkH P w))) (room : ks.length * 5 < t.mask * 3) : t.fits ks.length = true := by
  have h1 := T.sz
  rw [List.length_map] at h1
  unfold SetTable.fits SetTable.fill
  rw [T.dm, Bool.and_eq_true, beq_iff_eq, decide_eq_true_eq]
  show t.place.size = ks.length ∧ t.place.size + 0 ≤ t.mask
  omega
/-! ### seeking -/
/-- the c-th probe of a hash -/
abbrev prb (t : SetTable) (h : Int) (c : Nat) : SetTable.Probe := nth t.mask (runAt t.mask (SetTable.bits h % (t.mask + 1)) (SetTable.bits h)) c
theorem prb_dummy (t : SetTable) (h : Int) : ∀ c, (prb t h c).dummy = none
  | 0 => rfl
  | c + 1 => by
    show (nth t.mask _ (c + 1)).dummy = none
    rw [nth_succ]
    have ih := prb_dummy t h c
    unfold adv
    split <;> exact ih
theorem prb_add (t : SetTable) (h : Int) (c d : Nat) : nth t.mask (prb t h c) d = prb t h (c + d) := (nth_add t.mask c _ d).symm
section
variable {a : Addr} {o : Obj} {es : Array (Int × Value)} {ep : Nat} {t : SetTable} {L : List (Value × List Key)}
theorem seek (ho : s.heap.get? a = some o) (hd : o.data = .set es ep t) (hr : es.toList = (MKt P w).rows L) (T : TabOk t ((L.map (·.2)).map (tkH P w))) (room : L.length * 5 < t.mask * 3) (mem : ∀ p ∈ L, (MKt P w).isk s.heap p.2 p.1) {x : Addr} {k : List Key} (hx : TKey P w s.heap k x) (hu : A.units < cLine)
    (ld : w.params.followText "set-order" = true ∨ t.led = true) {K : Nat} (hK1 : K < 10 * SetTable.turns t.mask) (hK2 : way t.mask (tkH P w k) K ∉ t.place.toList) (hK3 : ∀ c, c < K → way t.mask (tkH P w k) c ∈ t.place.toList) {Q : SetFound → Shared → Prop}
    (yes : k ∈ L.map (·.2) → Q (.there none) s) (no : k ∉ L.map (·.2) → Q (.free (way t.mask (tkH P w k) K) false) s) :
    ∀ (f c : Nat) (from? : Option SetTable.Probe), from?.getD (t.probeStart (tkH P w k)) = prb t (tkH P w k) c → K < c + f → c ≤ K →
      (∀ (i : Nat) p, L[i]? = some p → p.2 = k → ∃ d, c ≤ d ∧ d < K ∧ t.place.toList[i]? = some (way t.mask (tkH P w k) d)) → wpAny (model P w) A (setSearchFrom a (.ref x) (tkH P w k) true f from?) Q E s := by
  have fit : t.fits es.size = true := by
    have := tab_fits (P := P) (w := w) T (by rw [List.length_map]; exact room)
    rwa [List.length_map, ← rows_len hr] at this
  have hsh : ∀ (i : Nat) p, L[i]? = some p → (es[i]?.map (·.1)).getD 0 = tkH P w p.2 := fun i p hp => by
    rw [rows_at hr hp]
    rfl
  intro f
  induction f with
  | zero => intro c fr _ h1 h2; omega
  | succ f ih =>
    intro c fr hfr hf hc left
    rw [setSearchFrom_succ]
    refine wpAny_bind (wpAny_setState_of ho hd fit ?_)
    dsimp only
    refine wp_if_neg (by unfold SetTable.gaveWay; rw [mask_odd T.mok]; decide) ?_
    try refine wpAny_bind (wpAny_pure ?_)
    have jj : ∀ d, (nth t.mask (prb t (tkH P w k) c) d).j = way t.mask (tkH P w k) (c + d) := fun d => congrArg SetTable.Probe.j (prb_add t _ c d)
    rcases go_spec t T.ris T.dm (fun i => (es[i]?.map (·.1)).getD 0) (tkH P w k) (10 * SetTable.turns t.mask) (K - c) (prb t (tkH P w k) c) (prb_dummy t _ c) (by omega) (fun d hd => by rw [jj]; exact hK3 _ (by omega)) (by rw [jj, show c + (K - c) = K by omega]; exact hK2) with ⟨d, i, g1, g2, g3, g4, g5⟩ | ⟨g4, g5⟩
    · have pr : t.probe (fun i => (es[i]?.map (·.1)).getD 0) (tkH P w k) (fr.getD (t.probeStart (tkH P w k))) = some (.candidate (way t.mask (tkH P w k) (c + d)) i (prb t (tkH P w k) (c + (d + 1)))) := by
        rw [hfr, ← jj, ← prb_add]
        exact g5
      rw [pr]
      dsimp only
      rw [jj] at g2
      have il : i < L.length := by
        have h1 := (List.getElem?_eq_some_iff.mp g2).1
        have h2 := T.sz
        rw [List.length_map, List.length_map] at h2
        rw [Array.length_toList, h2] at h1
        exact h1
      obtain ⟨p, hp⟩ : ∃ p, L[i]? = some p := ⟨_, List.getElem?_eq_getElem il⟩
      have mp : p ∈ L := List.mem_of_getElem? hp
      obtain ⟨y, ey, hy⟩ := mem p mp
      have lv : t.slot (way t.mask (tkH P w k) (c + d)) = .live i := slot_live T.ris g2
      have ent : es[i]? = some (tkH P w p.2, .ref y) := by rw [rows_at hr hp, ← ey]; rfl
      have tail : wpAny (model P w) A (searchRest a (.ref x) (tkH P w k) true f es t (way t.mask (tkH P w k) (c + d)) i (prb t (tkH P w k) (c + (d + 1)))) Q E s := by
        unfold searchRest
        rw [ent]
        dsimp only
        refine wpAny_bind (wpAny_holding (wpAny_eqBool_tuple hu hy hx (wpAny_bind (wpAny_setState_of ho hd fit ?_))))
        dsimp only
        by_cases kk : p.2 = k
        · exact wp_if_pos (by simp [kk]) (wpAny_pure (yes (List.mem_map.mpr ⟨p, mp, kk⟩)))
        · refine wp_if_neg (by simp [kk]) ?_
          try refine wpAny_bind (wpAny_pure ?_)
          rw [sameMem]
          dsimp only
          simp only [if_true, lv, ent]
          refine wpAny_bind (wpAny_isSame_ref_self (wpAny_bind (wpAny_pure ?_)))
          simp only [if_true]
          refine wp_if_neg (by simp [kk]) (ih (c + (d + 1)) _ rfl (by omega) (by omega) fun i0 p0 h0 k0 => ?_)
          obtain ⟨e, e1, e2, e3⟩ := left i0 p0 h0 k0
          refine ⟨e, ?_, e2, e3⟩
          rcases Nat.lt_trichotomy e (c + d) with z | z | z
          · exact absurd ((hsh i0 p0 h0).trans (congrArg (tkH P w) k0)) (g4 (e - c) i0 (by omega) (by rw [jj, show c + (e - c) = e by omega]; exact e3))
          · subst z
            have := slot_live T.ris e3
            rw [lv] at this
            injection this with this
            subst this
            rw [hp] at h0
            cases h0
            exact absurd k0 kk
          · omega
      by_cases l : t.led = true
      · refine wp_if_neg (by simp [l]) ?_
        try refine wpAny_bind (wpAny_pure ?_)
        exact tail
      · refine wp_if_pos (by simp [l]) (wpAny_bind (tk_seen hx (fun u hu' => ?_) ?_))
        · obtain ⟨e, he, ee⟩ := List.mem_map.mp hu'
          have h1 : e ∈ es.toList := by simpa using (show e ∈ es ∧ e.1 = tkH P w k by simpa using he).1
          rw [hr] at h1
          obtain ⟨p2, m2, e2⟩ := List.mem_map.mp h1
          obtain ⟨b2, eb2, hb2⟩ := mem p2 m2
          exact ⟨p2.2, b2, by rw [← ee, ← e2]; exact eb2, hb2⟩
        · refine wp_if_neg (by decide) ?_
          try refine wpAny_bind (wpAny_pure ?_)
          exact tail
    · have pr : t.probe (fun i => (es[i]?.map (·.1)).getD 0) (tkH P w k) (fr.getD (t.probeStart (tkH P w k))) = some (.empty (way t.mask (tkH P w k) K) none) := by
        have e2 : way t.mask (tkH P w k) K = (nth t.mask (prb t (tkH P w k) c) (K - c)).j := by rw [jj, show c + (K - c) = K by omega]
        rw [hfr, e2]
        exact g5
      rw [pr]
      dsimp only
      refine wpAny_pure (no fun m => ?_)
      obtain ⟨p0, m0, k0⟩ := List.mem_map.mp m
      obtain ⟨i0, hi0, e0⟩ := List.getElem_of_mem m0
      have h0 : L[i0]? = some p0 := by rw [List.getElem?_eq_getElem hi0, e0]
      obtain ⟨e, e1, e2, e3⟩ := left i0 p0 h0 k0
      exact g4 (e - c) i0 (by omega) (by rw [jj, show c + (e - c) = e by omega]; exact e3) ((hsh i0 p0 h0).trans (congrArg (tkH P w) k0))
theorem seek_all (ho : s.heap.get? a = some o) (hd : o.data = .set es ep t) (hr : es.toList = (MKt P w).rows L) (T : TabOk t ((L.map (·.2)).map (tkH P w))) (room : L.length * 5 < t.mask * 3) (mem : ∀ p ∈ L, (MKt P w).isk s.heap p.2 p.1) {x : Addr} {k : List Key} (hx : TKey P w s.heap k x) (hu : A.units < cLine)
    (ld : w.params.followText "set-order" = true ∨ t.led = true) {Q : SetFound → Shared → Prop} (yes : k ∈ L.map (·.2) → Q (.there none) s)
    (no : ∀ K, k ∉ L.map (·.2) → way t.mask (tkH P w k) K ∉ t.place.toList → (∀ c, c < K → way t.mask (tkH P w k) c ∈ t.place.toList) → Q (.free (way t.mask (tkH P w k) K) false) s) : wpAny (model P w) A (setSearch a (.ref x) (tkH P w k) true) Q E s := by
  obtain ⟨K, k1, k2, k3⟩ := T.first (by rw [List.length_map, List.length_map]; omega) (tkH P w k)
  have big : K < 100000 := by
    have : 10 * SetTable.turns t.mask ≤ 1420 := by
      unfold SetTable.turns
      rcases T.mok with e | e | e <;> omega
    omega
  unfold setSearch
  refine seek ho hd hr T room mem hx hu ld k1 k2 k3 yes (fun n => no K n k2 k3) 100000 0 none rfl (by omega) (Nat.zero_le _) fun i p hp hk => ?_
  have hi : ((L.map (·.2)).map (tkH P w))[i]? = some (tkH P w k) := by rw [List.getElem?_map, List.getElem?_map, hp, ← hk]; rfl
  have il : i < t.place.toList.length := by
    have h1 := (List.getElem?_eq_some_iff.mp hp).1
    have h2 := T.sz
    rw [List.length_map, List.length_map] at h2
    rw [Array.length_toList, h2]
    exact h1
  obtain ⟨d, hd', e⟩ := T.before k2 hi (List.getElem?_eq_getElem il)
  exact ⟨d, Nat.zero_le _, hd', by rw [List.getElem?_eq_getElem il, e]⟩
end
end
end PN

set_option maxRecDepth 100000
set_option maxHeartbeats 4000000
/-! PN, 24th part: one more tuple in a set; sorted(set(..)). -/
namespace PN
open PySem L2 PySem.Spec PyProof.Rows
section
variable {P : Program} {w : World} {A : Around} {E : Value → Shared → Prop} {s : Shared}
theorem ins_rows {κ : Type} (D : MK P w κ) (L : List (Value × κ)) (n : Nat) (p : Value × κ) : D.rows (L.take n ++ p :: L.drop n) = (D.rows L).take n ++ (D.hsh p.2, p.1) :: (D.rows L).drop n := by
  simp only [MK.rows, List.map_append, List.map_cons, List.map_take, List.map_drop]
/-- entries in another order -/
theorem pick_rows {κ : Type} {D : MK P w κ} {L : List (Value × κ)} {es : Array (Int × Value)} (hr : es.toList = D.rows L) {ord : Array Nat} (hp : ord.toList.Perm (List.range L.length)) :
    ∃ M, (ord.filterMap (es[·]?)).toList = D.rows M ∧ M.Perm L ∧ (M.map (·.2)).map D.hsh = ord.toList.map fun i => (es.map (·.1)).getD i 0 := by
  have step : ∀ l : List Nat, (∀ i ∈ l, i < L.length) → l.filterMap (fun i => es[i]?) = D.rows (l.filterMap fun i => L[i]?) ∧ ((l.filterMap fun i => L[i]?).map (·.2)).map D.hsh = l.map fun i => (es.map (·.1)).getD i 0 := by
    intro l
    induction l with
    | nil => exact fun _ => ⟨rfl, rfl⟩
    | cons i l ih =>
      intro hl
      have hi := hl i List.mem_cons_self
      obtain ⟨i1, i2⟩ := ih fun j m => hl j (List.mem_cons_of_mem _ m)
      have e1 : L[i]? = some L[i] := List.getElem?_eq_getElem hi
      have e2 := rows_at hr e1
      rw [List.filterMap_cons_some e2, List.filterMap_cons_some e1, i1, List.map_cons, List.map_cons, List.map_cons, i2]
      refine ⟨rfl, ?_⟩
      have e3 : (es.map (·.1))[i]? = some (D.hsh (L[i]).2) := by rw [Array.getElem?_map, e2]; rfl
      simp [Array.getD_eq_getD_getElem?, e3]
  obtain ⟨h1, h2⟩ := step ord.toList fun i m => List.mem_range.mp (hp.mem_iff.mp m)
  refine ⟨_, by rw [Array.toList_filterMap]; exact h1, ?_, h2⟩
  have all : (List.range L.length).filterMap (fun i => L[i]?) = L := by
    have : ∀ n, n ≤ L.length → (List.range n).filterMap (fun i => L[i]?) = L.take n := by
      intro n
      induction n with
      | zero => exact fun _ => rfl
      | succ n ih =>
        intro hn
        rw [List.range_succ, List.filterMap_append, ih (by omega), List.take_succ, List.getElem?_eq_getElem hn, List.filterMap_cons_some (List.getElem?_eq_getElem hn)]
        rfl
    rw [this _ (Nat.le_refl _), List.take_length]
  have := hp.filterMap fun i => L[i]?
  rwa [all] at this
section
variable {a : Addr} {o : Obj} {es : Array (Int × Value)} {ep : Nat} {t : SetTable} {L : List (Value × List Key)}
/-- the table laid anew -/
theorem mkt_relay (ho : s.heap.get? a = some o) (hex : o.ExactSet) (hd : o.data = .set es ep t) (hr : es.toList = (MKt P w).rows L) (hz : t.place.size = es.size) (hdm : t.dummies = #[]) (hfl : es.size ≤ t.mask) (nd : (L.map (·.2)).Nodup) (mem : ∀ p ∈ L, (MKt P w).isk s.heap p.2 p.1)
    (ld : w.params.followText "set-order" = true ∨ t.led = true) (few : L.length < 64) {want M : Nat} (w1 : SetTable.sizeAbove want - 1 = M) (w2 : MaskOk M) (w3 : SetTable.sizeAbove want ≤ 128) (w4 : L.length * 5 < M * 3) {Q : Unit → Shared → Prop}
    (hQ : ∀ h' L', Heap.SameBut a s.heap h' → StG (MKt P w) h' a L' → L'.Perm L → Q () { s with heap := h' }) : wpAny (model P w) A (setRelay a want) Q E s := by
  have sz := rows_len hr
  have fit : t.fits es.size = true := by
    unfold SetTable.fits SetTable.fill
    rw [hdm, Bool.and_eq_true, beq_iff_eq, decide_eq_true_eq]
    exact ⟨hz, by show t.place.size + 0 ≤ t.mask; omega⟩
  obtain ⟨u, ord, e, hp, T, em, el, _, _⟩ := relaid_ok t (hs := es.map (·.1)) (wanted := want) w1 w2 (by rw [Array.size_map]; omega)
  rw [Array.size_map, sz] at hp
  obtain ⟨M', m1, m2, m3⟩ := pick_rows hr hp
  have z2 := rows_len m1
  have zl := m2.length_eq
  rw [setRelay_eq]
  refine wpAny_bind (wpAny_setState_of ho hd fit ?_)
  dsimp only
  refine wp_if_neg (by rw [sizeLine_eq]; omega) ?_
  try refine wpAny_bind (wpAny_pure ?_)
  rw [e]
  dsimp only
  refine wpAny_bind (wp_if_neg (by rw [z2, zl, sz]; simp) ?_)
  try refine wpAny_bind (wpAny_pure ?_)
  refine wpAny_pure ?_
  dsimp only
  have sb := Heap.SameBut.update s.heap a (Obj.putSet (ord.filterMap (es[·]?)) u)
  refine wpAny_storeSet_of ho hd (hQ _ M' sb ⟨⟨_, _, ep + 1, u, store_at ho hd, hex, rfl, m1, ⟨?_, ?_⟩, by rw [el]; exact ld⟩, (m2.map _).nodup_iff.mpr nd, fun p mp => ?_, by omega⟩ m2) (by rw [z2, zl, sizeLine_eq]; omega)
  · have m3 : (M'.map (·.2)).map (tkH P w) = ord.toList.map fun i => (es.map (·.1)).getD i 0 := m3
    rw [m3]
    exact T
  · rw [List.length_map, em, zl]
    exact w4
  · obtain ⟨b, eb, hb⟩ := mem p (m2.mem_iff.mp mp)
    obtain ⟨o', its, n, h1, h2, r⟩ := hb
    exact ⟨b, eb, o', its, n, stay_but ho hex.1 sb b o' h1 h2, h2, r⟩
theorem mkt_keep {h h' : Heap} {k : List Key} {v : Value} (x : (MKt P w).isk h k v) (st : TupsStay h h') : (MKt P w).isk h' k v := by
  obtain ⟨b, eb, o, its, n, h1, h2, r⟩ := x
  exact ⟨b, eb, o, its, n, st b o h1 h2, h2, r⟩
theorem mkt_add {k : List Key} {v : Value} {Q : Bool → Shared → Prop} (hu : A.units < cLine) (S : StG (MKt P w) s.heap a L) (hv : (MKt P w).isk s.heap k v) (hl : L.length + 1 < 64)
    (hQ : ∀ b h' L', Heap.SameBut a s.heap h' → StG (MKt P w) h' a L' → (k ∈ L.map (·.2) → L' = L) → (k ∉ L.map (·.2) → L'.Perm ((v, k) :: L)) → Q b { s with heap := h' }) : wpAny (model P w) A (setAddHashed a v (tkH P w k)) Q E s := by
  obtain ⟨o, es, ep, t, ho, hex, hd, hr, ⟨T, room⟩, ld⟩ := S.ob
  have sz := rows_len hr
  obtain ⟨x, rfl, hx⟩ := id hv
  rw [List.length_map] at room
  have T : TabOk t ((L.map (·.2)).map (tkH P w)) := T
  have fit : t.fits es.size = true := by
    have := tab_fits (P := P) (w := w) T (by rw [List.length_map]; exact room)
    rwa [List.length_map, ← sz] at this
  unfold setAddHashed
  refine wpAny_holding ?_
  rw [show (100000 : Nat) = 99999 + 1 from rfl, setAddHashedIn_succ]
  refine wpAny_bind (wpAny_setState_of ho hd fit ?_)
  dsimp only
  refine wp_if_neg (by simp [byScan, Value.scannable]) ?_
  try refine wpAny_bind (wpAny_pure ?_)
  refine wpAny_bind (seek_all ho hd hr T room S.mem hx hu ld (fun m => ?_) fun K m hK hb => ?_)
  · dsimp only
    exact wpAny_pure (hQ false s.heap L (Heap.SameBut.refl a s.heap) S (fun _ => rfl) fun z => absurd m z)
  dsimp only
  refine wpAny_bind (wpAny_setState_of ho hd fit ?_)
  dsimp only
  obtain ⟨q1, q2, q3, q4, q5, _, _, _, q9⟩ := T.put hK hb
  generalize hpt : t.put (way t.mask (tkH P w k) K) = pt at q1 q3 q4 q5 q9 ⊢
  obtain ⟨u, n⟩ := pt
  dsimp only at q1 q3 q4 q5 q9 ⊢
  subst q1
  have hin : (SetTable.insertAt es (SetTable.below t.place (way t.mask (tkH P w k) K)) (tkH P w k, Value.ref x)).toList = (MKt P w).rows (L.take (SetTable.below t.place (way t.mask (tkH P w k) K)) ++ (Value.ref x, k) :: L.drop (SetTable.below t.place (way t.mask (tkH P w k) K))) := by
    rw [SetTable.toList_insertAt, ins_rows, hr]
    rfl
  generalize SetTable.below t.place (way t.mask (tkH P w k) K) = n at q2 q3 hin ⊢
  have pm := put_perm L n (Value.ref x, k)
  have hlen := pm.length_eq
  rw [List.length_cons] at hlen
  have hmap : ((L.take n ++ (Value.ref x, k) :: L.drop n).map (·.2)).map (tkH P w) = ((L.map (·.2)).map (tkH P w)).take n ++ tkH P w k :: ((L.map (·.2)).map (tkH P w)).drop n := by
    simp only [List.map_append, List.map_cons, List.map_take, List.map_drop]
  rw [← hmap] at q3
  have nd1 : ((L.take n ++ (Value.ref x, k) :: L.drop n).map (·.2)).Nodup := (pm.map _).nodup_iff.mpr (List.nodup_cons.mpr ⟨m, S.nd⟩)
  have hes := rows_len hin
  generalize SetTable.insertAt es n (tkH P w k, Value.ref x) = fs at hin hes ⊢
  generalize L.take n ++ (Value.ref x, k) :: L.drop n = L1 at pm hlen q3 nd1 hin hes
  -- what is left behind the question of the hash
  have more : ∀ pl : Bool, wpAny (model P w) A (do
      storeSet a fs { u with plain := pl }
      if (!false && ({ u with plain := pl } : SetTable).tooFull) = true then setRelay a (SetTable.grown (es.size + 1))
      return true) Q E s := by
    intro pl
    generalize hu' : ({ u with plain := pl } : SetTable) = u'
    have T1 : TabOk u' ((L1.map (·.2)).map (tkH P w)) := by
      rw [← hu']
      exact ⟨q3.ris, q3.dm, q3.sz, q3.mok, q3.bd, q3.reach⟩
    have mk : u'.mask = t.mask := by rw [← hu']; exact q4
    have ld1 : w.params.followText "set-order" = true ∨ u'.led = true := by rw [← hu']; show _ ∨ u.led = true; rw [q5]; exact ld
    have fl : u'.fill = L.length + 1 := by rw [← hu']; show u.fill = _; rw [q9, List.length_map, List.length_map]
    refine wpAny_bind (wpAny_storeSet_of ho hd ?_ (by rw [hes, sizeLine_eq]; omega))
    have sb := Heap.SameBut.update s.heap a (Obj.putSet fs u')
    have o1 := store_at (es' := fs) (t' := u') ho hd
    generalize s.heap.update a (Obj.putSet fs u') = h1 at sb o1 ⊢
    have st := stay_but ho hex.1 sb
    have mem1 : ∀ p ∈ L1, (MKt P w).isk h1 p.2 p.1 := fun p mp => by
      rcases List.mem_cons.mp (pm.mem_iff.mp mp) with q | q
      · rw [q]; exact mkt_keep hv st
      · exact mkt_keep (S.mem p q) st
    by_cases hf : u'.tooFull = true
    · have full : (L.length + 1) * 5 ≥ t.mask * 3 := by
        have := hf
        unfold SetTable.tooFull at this
        rw [decide_eq_true_eq, fl, mk] at this
        exact this
      have two : (t.mask = 7 ∧ L.length = 4) ∨ (t.mask = 31 ∧ L.length = 18) := by
        rcases T.mok with e | e | e <;> rw [e] at full room
        · exact .inl ⟨e, by omega⟩
        · exact .inr ⟨e, by omega⟩
        · omega
      have ps : u'.place.size = fs.size := by rw [T1.sz, List.length_map, List.length_map, hes]
      have go : ∀ M, SetTable.sizeAbove (SetTable.grown (es.size + 1)) - 1 = M → MaskOk M → SetTable.sizeAbove (SetTable.grown (es.size + 1)) ≤ 128 → L1.length * 5 < M * 3 →
          wpAny (model P w) A (setRelay a (SetTable.grown (es.size + 1))) (fun _ z => wpAny (model P w) A (pure true) Q E z) E { s with heap := h1 } := fun M g1 g2 g3 g4 =>
        mkt_relay (s := { s with heap := h1 }) o1 hex rfl hin ps T1.dm (by rw [hes, mk]; omega) nd1 mem1 ld1 (by omega) g1 g2 g3 g4 fun h2 L2 sb2 S2 pm2 => wpAny_pure (hQ true h2 L2 (sb.trans sb2) S2 (fun z => absurd z m) fun _ => pm2.trans pm)
      have go2 : wpAny (model P w) A (setRelay a (SetTable.grown (es.size + 1))) (fun _ z => wpAny (model P w) A (pure true) Q E z) E { s with heap := h1 } := by
        rcases two with ⟨_, e2⟩ | ⟨_, e2⟩
        · exact go 31 (by rw [sz, e2, size_20]) (.inr (.inl rfl)) (by rw [sz, e2, size_20]; decide) (by omega)
        · exact go 127 (by rw [sz, e2, size_76]) (.inr (.inr rfl)) (by rw [sz, e2, size_76]; decide) (by omega)
      first
        | exact wp_if_pos (by simp [hf]) (wpAny_bind go2)
        | exact wpAny_bind (wp_if_pos (by simp [hf]) go2)
    · have S1 : StG (MKt P w) h1 a L1 := ⟨⟨_, fs, ep + 1, u', o1, hex, rfl, hin, ⟨T1, ?_⟩, ld1⟩, nd1, mem1, by omega⟩
      · have fin := hQ true h1 L1 sb S1 (fun z => absurd z m) fun _ => pm
        first
          | exact wp_if_neg (by simp [hf]) (wpAny_pure fin)
          | exact wpAny_bind (wp_if_neg (by simp [hf]) (wpAny_pure (wpAny_pure fin)))
      · have := hf
        unfold SetTable.tooFull at this
        rw [decide_eq_true_eq, fl, mk] at this
        rw [List.length_map, mk]
        omega
  have byv : ∀ b : Bool, wpAny (model P w) A (do
      let t := if b = true then u else { u with plain := false }
      storeSet a fs t
      if (!false && t.tooFull) = true then setRelay a (SetTable.grown (es.size + 1))
      return true) Q E s := fun b => by
    cases b with
    | true => exact more u.plain
    | false => exact more false
  by_cases hpl : u.plain = true
  · first
      | exact wp_if_pos hpl (wpAny_bind (tk_hash hx byv))
      | exact wpAny_bind (wp_if_pos hpl (tk_hash hx byv))
  · first
      | exact wp_if_neg hpl (wpAny_bind (wpAny_pure (byv true)))
      | exact wpAny_bind (wp_if_neg hpl (wpAny_pure (byv true)))
end
theorem mkt_good : (MKt P w).Good where
  keep := mkt_keep
  fits h _ := by
    have := tab_fits h.1 h.2
    exact this
  ris h := h.1.ris
  fresh led := ⟨⟨List.Pairwise.nil, rfl, rfl, .inl rfl, fun x m => absurd m (by simp [SetTable.fresh]), fun i h j e => by simp at e⟩, by show 0 * 5 < 7 * 3; decide⟩
  hash hu hv hQ := by
    obtain ⟨b, rfl, hb⟩ := hv
    exact wpAny_pyHash_tuple hu hb (hQ _ (Nat.le_add_right _ _))
  add hu S hv hl hQ := mkt_add hu S hv hl hQ
end
end PN

set_option maxRecDepth 100000
set_option maxHeartbeats 4000000
/-! PN, 25th part: sorted(set(xs)). -/
namespace PN
open PySem L2 PySem.Spec PyProof.Rows
/-! ### what it makes of data -/
open Classical in
noncomputable def dedupD : List PyData → List PyData
  | [] => []
  | d :: ds => if d ∈ ds then dedupD ds else d :: dedupD ds
theorem mem_dedup {d : PyData} : ∀ {ds : List PyData}, d ∈ dedupD ds ↔ d ∈ ds
  | [] => Iff.rfl
  | e :: ds => by
    unfold dedupD
    have ih := mem_dedup (d := d) (ds := ds)
    split
    · rename_i q
      rw [ih, List.mem_cons]
      exact ⟨.inr, fun z => z.elim (fun z => by rw [z]; exact q) id⟩
    · rw [List.mem_cons, List.mem_cons, ih]
theorem nodup_dedup : ∀ ds : List PyData, (dedupD ds).Nodup
  | [] => List.nodup_nil
  | e :: ds => by
    unfold dedupD
    split
    · exact nodup_dedup ds
    · rename_i q
      exact List.nodup_cons.mpr ⟨fun m => q (mem_dedup.mp m), nodup_dedup ds⟩
theorem len_dedup : ∀ ds : List PyData, (dedupD ds).length ≤ ds.length
  | [] => Nat.le_refl _
  | e :: ds => by
    unfold dedupD
    have := len_dedup ds
    split
    · exact Nat.le_succ_of_le this
    · exact Nat.succ_le_succ this
/-- ints and texts; tuples of these, not empty -/
def SetD (ds : List PyData) : Prop := ds.length < 64 ∧ PySem.W.AllAlike ds ∧ ((∀ d ∈ ds, ∃ k, d = kD k) ∨ ∀ d ∈ ds, ∃ k ks, d = .tuple ((k :: ks).map kD))
theorem noB_k (k : Key) : noB (kD k) = true := by cases k <;> rfl
theorem noB_ks (ks : List Key) : noB (.tuple (ks.map kD)) = true := noBAll_of fun d m => by
  obtain ⟨k, _, rfl⟩ := List.mem_map.mp m
  exact noB_k k
theorem SetD.noB {ds : List PyData} (h : SetD ds) : ∀ d ∈ ds, noB d = true := fun d m => by
  rcases h.2.2 with q | q
  · obtain ⟨k, rfl⟩ := q d m; exact noB_k k
  · obtain ⟨k, ks, rfl⟩ := q d m; exact noB_ks _
theorem dep_k (k : Key) : (kD k).depth = 0 := by cases k <;> rfl
theorem SetD.dep {ds : List PyData} (h : SetD ds) : ∀ d ∈ ds, d.depth ≤ 1 := fun d m => by
  rcases h.2.2 with q | q
  · obtain ⟨k, rfl⟩ := q d m; rw [dep_k]; exact Nat.zero_le _
  · obtain ⟨k, ks, rfl⟩ := q d m
    exact Nat.succ_le_succ (depAll_of fun d m => by
      obtain ⟨k, _, rfl⟩ := List.mem_map.mp m
      rw [dep_k]
      exact Nat.le_refl _)
theorem SetD.sortable {ds es : List PyData} (h : SetD ds) (hs : ∀ d ∈ es, d ∈ ds) : PySem.W.Sortable es := by
  rcases h.2.2 with q | q
  · refine .inr fun d m => ?_
    obtain ⟨k, rfl⟩ := q d (hs d m)
    cases k <;> exact ⟨by simp [kD], by simp [kD]⟩
  · refine .inl fun d m => ?_
    obtain ⟨k, ks, rfl⟩ := q d (hs d m)
    exact ⟨_, _, rfl⟩
/-- neither ahead of the other: the same -/
theorem same_of {d e : PyData} (ha : PySem.W.alike d e = true) (hd : noB d = true) (he : noB e = true) (h1 : PySem.W.dataLt d e = false) (h2 : PySem.W.dataLt e d = false) : d = e := by
  have ek : PySem.W.keyToks d = PySem.W.keyToks e := lex_total _ _ h1 h2
  refine (eqv_iff d e hd he).mp ?_
  cases q : PyData.eqv d e with
  | true => rfl
  | false =>
    have z := (PySem.W.toks_eqv d e ha).2 q [] [Sum.inl 0]
    rw [ek, List.append_nil] at z
    have z1 : PyProof.Rows.lexLt itemOrd (PySem.W.keyToks e ++ []) (PySem.W.keyToks e ++ [Sum.inl 0]) = true := by
      rw [PySem.W.lex_pre]
      rfl
    rw [List.append_nil] at z1
    rw [z1] at z
    rw [lex_irrefl] at z
    cases z
theorem le_of {d e : PyData} : PySem.W.dataLe false id d e = !PySem.W.dataLt e d := by
  rw [PySem.W.dataLe_eq]
  rfl
theorem sort_unique {ds : List PyData} (h : SetD ds) {es fs : List PyData} (pm : es.Perm fs) (hs : ∀ d ∈ es, d ∈ ds) : es.mergeSort (PySem.W.dataLe false id) = fs.mergeSort (PySem.W.dataLe false id) := by
  have tr : ∀ a b c : PyData, PySem.W.dataLe false id a b = true → PySem.W.dataLe false id b c = true → PySem.W.dataLe false id a c = true := fun a b c h1 h2 => by
    rw [le_of] at h1 h2 ⊢
    cases q : PySem.W.dataLt c a with
    | false => rfl
    | true =>
      rcases lex_negTrans (O := itemOrd) _ (PySem.W.keyToks b) _ q with z | z
      · have z : PySem.W.dataLt c b = true := z
        rw [z] at h2; cases h2
      · have z : PySem.W.dataLt b a = true := z
        rw [z] at h1; cases h1
  have tot : ∀ a b : PyData, (PySem.W.dataLe false id a b || PySem.W.dataLe false id b a) = true := fun a b => by
    rw [le_of, le_of]
    cases q : PySem.W.dataLt b a with
    | false => rfl
    | true =>
      cases q2 : PySem.W.dataLt a b with
      | false => rfl
      | true =>
        have := lex_trans (O := itemOrd) _ _ _ q q2
        rw [lex_irrefl] at this
        cases this
  have p1 := List.mergeSort_perm es (PySem.W.dataLe false id)
  have p2 := List.mergeSort_perm fs (PySem.W.dataLe false id)
  refine List.Perm.eq_of_pairwise (le := fun a b => PySem.W.dataLe false id a b = true) (fun a b ma mb l1 l2 => ?_) (List.pairwise_mergeSort (le := PySem.W.dataLe false id) tr tot es) (List.pairwise_mergeSort (le := PySem.W.dataLe false id) tr tot fs) (p1.trans (pm.trans p2.symm))
  have ma : a ∈ ds := hs a (p1.mem_iff.mp ma)
  have mb : b ∈ ds := hs b (pm.mem_iff.mpr (p2.mem_iff.mp mb))
  rw [le_of, Bool.not_eq_true'] at l1 l2
  exact same_of (h.2.1 a ma b mb) (h.noB a ma) (h.noB b mb) l2 l1
/-! ### the call -/
open Classical in
noncomputable def sortSetS (B : Bs) (s : S) : Option (S × Bs) := (asL B s).bind fun ss => (datsOf ss).bind fun ds => if SetD ds then some (.dat (.list (sortD (dedupD ds))), B) else none
noncomputable def pSortSet : GP := one? sortSetS
section
variable {P : Program} {w : World} {A : Around} {E : Value → Shared → Prop} {s : Shared} {κ : Type} {D : MK P w κ}
theorem fill_sorted (G : D.Good) {a : Addr} {L : List (Value × κ)} (S : StG D s.heap a L) (hh : A.handled = none) (R : Value → PyData → Prop) (dd : κ → PyData) (hR : ∀ p ∈ L, R p.1 (dd p.2)) (hrd : ∀ p ∈ L, ∃ as, Reads s.heap p.1 (dd p.2) as)
    (hal : PySem.W.AllAlike (L.map fun p => dd p.2)) (hk : ∀ es : List PyData, es.Perm (L.map fun p => dd p.2) → PySem.W.Sortable es) (hu : ∀ p ∈ L, A.units + 3 + (dd p.2).depth < cLine) {Q : Value → Shared → Prop}
    (hQ : ∀ s' p (out : List Value) (c : Nat) (es : List PyData), (∀ b o, s.heap.get? b = some o → s'.heap.get? b = some o) → s'.gens = s.gens → s'.os = s.os → s.heap.objs.size ≤ p → s'.heap.get? p = some (seqObj "list" out.toArray c) → out.length = L.length →
      es.Perm (L.map fun p => dd p.2) → PySem.W.EachIs R out (es.mergeSort (PySem.W.dataLe false id)) → Q (.ref p) s') : wpAny (model P w) A (call (.builtin "sorted") [.ref a]) Q E s := by
  obtain ⟨o, es, ep, t, ho, hex, hd, hr, tb, ld⟩ := S.ob
  have few := S.few
  have sz := rows_len hr
  have fit := G.fits tb (by rw [List.length_map]; exact few)
  rw [List.length_map, ← sz] at fit
  refine Calls.call_function_entry kind_sorted plain_sorted entry_sorted (args_sorted1 _) ?_
  unfold Builtin.«sorted»
  refine wpAny_bind (m := checkCount "sorted" 1 1 _) (wpAny_pure (wpAny_bind (collect_set (A := A.in1) hh ⟨o, ho, hex.1, hd⟩ fit (by unfold scanBound; omega) (G.ris tb) ld fun s1 vs k1 hz g1 o1 pm => ?_)))
  have ev : es.toList.map (·.2) = L.map (·.1) := by
    rw [hr, MK.rows, List.map_map]
    rfl
  rw [ev] at pm
  obtain ⟨M, pM, eM⟩ := L2.perm_lift (fun p : Value × κ => p.1) pm L rfl
  have lM := pM.length_eq
  have lv : vs.length = L.length := by rw [← eM, List.length_map, lM]
  refine wpAny_bind (wpAny_newList ?_ (by rw [sizeLine_eq]; omega))
  have hoL : (s1.heap.push (seqObj "list" vs.toArray 0)).get? s1.heap.objs.size = some (seqObj "list" vs.toArray 0) := Heap.get?_push_size _ rfl
  have old : ∀ b u, s.heap.get? b = some u → (PySem.W.sortingHeap (s1.heap.push (seqObj "list" vs.toArray 0)) s1.heap.objs.size vs).get? b = some u := fun b u e => by
    have e1 := k1 b u e
    exact PySem.W.sortingHeap_old (Nat.ne_of_lt (Heap.lt_size e1)) (Heap.get?_push_of_some _ e1)
  have each : ∀ (T : Value → PyData → Prop) (N : List (Value × κ)), (∀ p ∈ N, T p.1 (dd p.2)) → PySem.W.EachIs T (N.map (·.1)) (N.map fun p => dd p.2) := by
    intro T N
    induction N with
    | nil => exact fun _ => .nil
    | cons p N ih => exact fun h => .cons (h p List.mem_cons_self) (ih fun q m => h q (List.mem_cons_of_mem _ m))
  have pd : (M.map fun p => dd p.2).Perm (L.map fun p => dd p.2) := pM.map _
  have e1 : PySem.W.EachIs R vs (M.map fun p => dd p.2) := by
    rw [← eM]
    exact each R M fun p m => hR p (pM.mem_iff.mp m)
  have e2 : PySem.W.EachIs (fun v d => ∃ as, Reads (PySem.W.sortingHeap (s1.heap.push (seqObj "list" vs.toArray 0)) s1.heap.objs.size vs) v (id d) as) vs (M.map fun p => dd p.2) := by
    rw [← eM]
    refine each _ M fun p m => ?_
    obtain ⟨as, r⟩ := hrd p (pM.mem_iff.mp m)
    exact ⟨as, by rw [eM]; exact PyProof.Rows.Reads.keeps old r⟩
  have hal' : PySem.W.AllAlike ((M.map fun p => dd p.2).map id) := by
    rw [List.map_id]
    exact fun d m d' m' => hal d (pd.mem_iff.mp m) d' (pd.mem_iff.mp m')
  refine wpAny_bind (wpAny_holding (wpAny_call_entry slot_list_sort ⟨_, hoL, rfl⟩ entry_list_sort (PySem.W.list_sort_vals (κ := PySem.W.dataKind (PySem.W.sortingHeap (s1.heap.push (seqObj "list" vs.toArray 0)) s1.heap.objs.size vs) ((M.map fun p => dd p.2).map id)) hoL
    (PySem.W.SortsAt.data (s := { s1 with heap := PySem.W.sortingHeap (s1.heap.push (seqObj "list" vs.toArray 0)) s1.heap.objs.size vs }) (PySem.W.each_map (R := fun v d => ∃ as, Reads (PySem.W.sortingHeap (s1.heap.push (seqObj "list" vs.toArray 0)) s1.heap.objs.size vs) v d as) id e2) hal' (by rw [List.map_id]; exact hk _ pd) fun d m => ?_) (by rw [lv, sizeLine_eq]; omega) ⟨.none, rfl, ?_⟩) (args_list_sort _)))
  · rw [List.map_id] at m
    obtain ⟨p, mp, rfl⟩ := List.mem_map.mp m
    have := hu p (pM.mem_iff.mp mp)
    show A.units + 1 + 1 + (dd p.2).depth < cLine
    omega
  · obtain ⟨c, hc⟩ := sortedHeap_at (vs := vs) (out := (PySem.W.sortVals (PySem.W.dataKind (PySem.W.sortingHeap (s1.heap.push (seqObj "list" vs.toArray 0)) s1.heap.objs.size vs) ((M.map fun p => dd p.2).map id)) false vs vs).toArray) hoL
    refine wpAny_pure ⟨_, rfl, hQ _ s1.heap.objs.size _ c _ (fun b u e => ?_) g1 o1 hz hc (by rw [PySem.W.sortVals_length false rfl, lv]) pd (PySem.W.sortVals_data false e1 e2 hal')⟩
    have q := k1 b u e
    show (sortedHeap (s1.heap.push (seqObj "list" vs.toArray 0)) s1.heap.objs.size vs _).get? b = some u
    rw [sortedHeap_old (Nat.ne_of_lt (Heap.lt_size q)) (by rw [size_push']; exact Nat.lt_succ_of_lt (Heap.lt_size q))]
    exact Heap.get?_push_of_some _ q
end
end PN

set_option maxRecDepth 100000
set_option maxHeartbeats 4000000
/-! PN, 26th part: sorted(set(xs)) as an expression. -/
namespace PN
open PySem L2 PySem.Spec PyProof.Rows
section
variable {K : PySem.W.Frag} {G : Hp}
theorem paired_up {κ : Type} {dd : κ → PyData} : ∀ {ds : List PyData} {vs : List V} {us : List Value}, DqAll K G vs ds → Vals vs us → (∀ d ∈ ds, ∃ k, d = dd k) → ∃ xs : List (Value × κ), us = xs.map (·.1) ∧ (xs.map fun p => dd p.2) = ds ∧ ∀ p ∈ xs, ∃ x, RelV x p.1 ∧ Dq K G x (dd p.2)
  | _, _, _, .nil, .nil, _ => ⟨[], rfl, rfl, fun p m => absurd m (by simp)⟩
  | _, _, _, .cons a b, .cons r t, h => by
    obtain ⟨k, rfl⟩ := h _ List.mem_cons_self
    obtain ⟨xs, h1, h2, h3⟩ := paired_up b t fun d m => h d (List.mem_cons_of_mem _ m)
    refine ⟨(_, k) :: xs, by rw [h1]; rfl, by rw [List.map_cons, h2], fun p m => ?_⟩
    rcases List.mem_cons.mp m with e | m
    · rw [e]; exact ⟨_, r, a⟩
    · exact h3 p m
end
section
variable {X : Cx} {pins : List (Addr × Obj)} {σ : L2.St}
theorem sortSet_run {κ : Type} [DecidableEq κ] {D : MK X.prog X.w κ} (G : D.Good) (dd : κ → PyData) (dinj : ∀ a b, dd a = dd b → a = b) {s : Shared} {c : Cf} {B : Bs} {l : Addr} {vs : List V} {ds : List PyData} {Q : VK} (hh : X.A.handled = none) (hu : X.A.units + 70 < cLine) (I : L2.Inv X pins σ c.H s) (hd : Hold X.K X.mg c B) (hq : SqL X.K c.H l vs)
    (ha : DqAll X.K c.G vs ds) (ok : SetD ds) (hdd : ∀ d ∈ ds, ∃ k, d = dd k) (hisk : ∀ k x u, RelV x u → Dq X.K c.G x (dd k) → D.isk s.heap k u) (h : FinP X.K X.mg c Q (some (.dat (.list (sortD (dedupD ds))), B))) {pos q2 : Pos} :
    wpAny (model X.prog X.w) X.A (call (.type "set") [.ref l]) (fun u s2 => wpAny (model X.prog X.w) X.A (call (.builtin "sorted") [u]) (EP X pins σ Q) X.xe s2) X.xe s := by
  obtain ⟨its, rv, pl, hz⟩ := I.list hq
  obtain ⟨xs, h1, h2, h3⟩ := paired_up ha rv hdd
  have lx : xs.length = ds.length := by rw [← h2, List.length_map]
  refine fill_call (P := X.prog) (w := X.w) G xs hh pl.isList (by simpa using h1) (fun p m => ?_) (by rw [lx]; exact ok.1) (by omega) fun h' tk L S g k => ?_
  · obtain ⟨x, r, dq⟩ := h3 p m
    exact hisk _ x _ r dq
  have sub : ∀ p ∈ L, p ∈ xs := fun p m => List.mem_of_mem_take (g.sub p m)
  have inds : ∀ p ∈ xs, dd p.2 ∈ ds := fun p m => by rw [← h2]; exact List.mem_map.mpr ⟨p, m, rfl⟩
  have I2 : L2.Inv X pins σ c.H { s with heap := h', toks := tk } := I.kept fun b o e => k b o e
  have inl : ∀ d ∈ L.map (fun p => dd p.2), d ∈ ds := fun d m => by
    obtain ⟨p, mp, rfl⟩ := List.mem_map.mp m
    exact inds p (sub p mp)
  refine fill_sorted (P := X.prog) (w := X.w) (s := { s with heap := h', toks := tk }) G S hh (fun u d => ∃ x, RelV x u ∧ Dq X.K c.G x d) dd (fun p m => h3 p (sub p m)) (fun p m => ?_) (fun d m d' m' => ok.2.1 d (inl d m) d' (inl d' m')) (fun es pm => ok.sortable fun d m => inl d (pm.mem_iff.mp m)) (fun p m => ?_) fun s' p out cc es k' gg oo hp hg hlen pm each => ?_
  · obtain ⟨x, r, dq⟩ := h3 p (sub p m)
    obtain ⟨as, rd⟩ := Dp.reads I _ x _ ((dp_mono hd.gh _ _ dq).dp _ _ (alike_nd _ (ok.2.1 _ (inds p (sub p m)) _ (inds p (sub p m))))) r
    exact ⟨as, PyProof.Rows.Reads.keeps k rd⟩
  · have := ok.dep _ (inds p (sub p m))
    omega
  · have pe : es.Perm (dedupD ds) := by
      refine pm.trans ((List.perm_ext_iff_of_nodup ?_ (nodup_dedup ds)).mpr fun d => ?_)
      · have := S.nd
        rw [List.nodup_iff_pairwise_ne, List.pairwise_map] at this ⊢
        exact this.imp fun n e => n (dinj _ _ e)
      · rw [mem_dedup]
        refine ⟨inl d, fun m => ?_⟩
        rw [← h2] at m
        obtain ⟨p, mp, rfl⟩ := List.mem_map.mp m
        obtain ⟨p', mp', e⟩ := List.mem_map.mp (g.all p (by rw [List.take_length]; exact mp))
        exact List.mem_map.mpr ⟨p', mp', by rw [e]⟩
    have se : es.mergeSort (PySem.W.dataLe false id) = sortD (dedupD ds) := sort_unique ok pe fun d m => mem_dedup.mp (pe.mem_iff.mp m)
    rw [se] at each
    obtain ⟨vs', d1, v1⟩ := of_each each
    have hn : c.H p = none := I2.hok.fresh hp
    generalize hz0 : ({ s with heap := h', toks := tk } : Shared) = z at I2 k' gg oo hp
    have J : L2.Inv X pins σ (upd c.H p (.lst vs')) { z with heap := s'.heap, gens := s'.gens, drawn := s'.drawn, toks := s'.toks } :=
      I2.call (ch := []) (Un.laid k' hp hn) (I2.hok.laid k' hp ⟨by rw [v1.length, hlen, sizeLine_eq]; have := S.few; omega, out, cc, v1, hg⟩) (by rw [gg]; exact I2.bare) (fun _ z => nomatch z)
    have e : s' = { z with heap := s'.heap, gens := s'.gens, drawn := s'.drawn, toks := s'.toks } := by
      cases s'
      cases z
      cases oo
      rfl
    rw [e]
    exact ⟨.ref p, _, J, rfl, new_lst hd d1 hn h⟩
variable {W : WX} {a : Expr} {ga : GE} {p p2 q pos : Pos}
theorem r_sortSet (hc : X.calm = true) (hu : X.A.units + 70 < cLine) (hg : Gl X "sorted") (hm : X.mg "sorted" = none) (hg2 : Gl X "set") (hm2 : X.mg "set" = none) (ha : PE X a (rdE X.K X.mg W ga))
    (na : starEach [a] X.env = (false, eval a X.env) :: starEach [] X.env) : PE X (.Call (.Name "sorted" p) [.Call (.Name "set" p2) [a] [] q] [] pos) (rdE X.K X.mg W (gP1 pSortSet ga)) := by
  refine ⟨fun pins s σ H Q I h => ?_⟩
  refine Call_ (ld_blt I hg hm (by rfl) ?_)
  refine PyProof.Rows.callWith_builtin1 (PyProof.Rows.args_cons ?_ rfl) rfl rfl
  refine Call_ (ld_blt I hg2 hm2 PyProof.Rows.boot_set ?_)
  refine PyProof.Rows.callWith_type1 (PyProof.Rows.args_cons (thn (ha.run pins s σ H _ I (rd_one h)) fun v s1 ⟨x, H1, I1, r1, c, s0, B, ρ, e1, hd, hr, hs, q1⟩ => PyProof.Rows.args_nil ?_) na) na rfl
  subst e1
  have q1 := finP_of q1
  obtain ⟨ss, e1, q1⟩ := finP_bind (show FinP X.K X.mg c Q (sortSetS B s0) from q1)
  obtain ⟨ds, e2, q1⟩ := finP_bind q1
  split at q1
  case isFalse => exact q1.elim
  rename_i ok
  obtain ⟨l, vs, rfl, h1, h2⟩ := asL_ok hd hs e1
  cases r1
  have d1 := dats_all e2 h2
  have hh := I1.ok.hd hc
  rcases ok.2.2 with z | z
  · refine wpAny_mono (sortSet_run (D := MKs X.prog X.w) mks_good kD (fun a b => kD_inj) (pos := pos) (q2 := pos) hh hu I1 hd h1 d1 ok z (fun k x u r dq => ?_) q1) (fun u s2 y => PyProof.Rows.args_nil y) (fun _ _ y => y)
    rw [dq_k dq] at r
    exact kV_is (P := X.prog) (w := X.w) r
  · refine wpAny_mono (sortSet_run (D := MKt X.prog X.w) mkt_good (fun ks => .tuple (ks.map kD)) (fun a b e => kDs_inj (by injection e)) (pos := pos) (q2 := pos) hh hu I1 hd h1 d1 ok (fun d m => ?_) (fun ks x u r dq => ?_) q1) (fun u s2 y => PyProof.Rows.args_nil y) (fun _ _ y => y)
    · obtain ⟨k, ks, e⟩ := z d m
      exact ⟨k :: ks, e⟩
    · cases dq with
      | tup t1 t2 =>
        cases r
        rw [dq_ks t2] at t1
        obtain ⟨its, r, ⟨o, ho, hcl, n, hdt⟩, _⟩ := I1.tuple (same_t hd.gh (.inl (.inl t1)))
        exact ⟨_, rfl, o, its.toArray, n, ho, hcl, hdt, by simpa using items_are (P := X.prog) (w := X.w) r⟩
end
end PN

set_option maxRecDepth 100000
set_option maxHeartbeats 4000000
/-! PN: dict(xs), d[k]. -/
namespace PN
open PySem L2 PySem.Spec PyProof.Rows
def pairOf : PyData → Option (PyData × PyData)
  | .tuple [k, v] => some (k, v)
  | _ => none
def pairsOf : List PyData → Option (List (PyData × PyData))
  | [] => some []
  | d :: ds => (pairOf d).bind fun p => (pairsOf ds).bind fun ps => some (p :: ps)
open Classical in
noncomputable def dictD (ds : List PyData) : Option PyData := (pairsOf ds).bind fun ps => if KeysK ps ∨ KeysT ps then some (.dict (mergeP [] ps)) else none
noncomputable def dictS (B : Bs) (s : S) : Option (S × Bs) := (asL B s).bind fun ss => (datsOf ss).bind fun ds => (dictD ds).bind fun d => some (.dat d, B)
noncomputable def pDict : GP := one? dictS
open Classical in
noncomputable def dIx : PyData → PyData → Option PyData
  | .dict ps, d => if KeyOk d ps then valP ps d else none
  | _, _ => none
noncomputable def ixDS (B : Bs) (d : PyData) (t : S) : Option (S × Bs) := (valD B t).bind fun e => (dIx d e).bind fun v => some (.dat v, B)
noncomputable def pIxD : GP
  | [.dat d, t], B => ixDS B d t
  | _, _ => none
def DictIs (K : PySem.W.Frag) (G : Hp) (o : HO) (ps : List (PyData × PyData)) : Prop := (∃ kvs, o = .dK kvs ∧ DkAll K G kvs ps) ∨ ∃ kvs, o = .dT kvs ∧ DtAll K G kvs ps
theorem DictIs.dq {K : PySem.W.Frag} {G : Hp} {o : HO} {ps : List (PyData × PyData)} {p : Addr} (h : DictIs K G o ps) (e : G p = some o) : Dq K G (.ref p) (.dict ps) := by
  rcases h with ⟨kvs, rfl, h⟩ | ⟨kvs, rfl, h⟩
  · exact .dik e h
  · exact .dit e h
theorem DictIs.mono {K : PySem.W.Frag} {G G' : Hp} {o : HO} {ps : List (PyData × PyData)} (g : Same G G') (h : DictIs K G o ps) : DictIs K G' o ps := by
  rcases h with ⟨kvs, rfl, h⟩ | ⟨kvs, rfl, h⟩
  · exact .inl ⟨kvs, rfl, dkAll_mono g h⟩
  · exact .inr ⟨kvs, rfl, dtAll_mono g h⟩
section
variable {K : PySem.W.Frag} {G : Hp}
theorem pairs_up : ∀ {ds : List PyData} {vs : List V} {ps : List (PyData × PyData)}, DqAll K G vs ds → pairsOf ds = some ps →
    ∃ (as : List Addr) (qs : List (V × V)), vs = as.map V.ref ∧ Paired (fun b (q : V × V) => G b = some (.tup [q.1, q.2])) as qs ∧ Paired (fun (q : V × V) (p : PyData × PyData) => Dq K G q.1 p.1 ∧ Dq K G q.2 p.2) qs ps
  | [], _, _, .nil, e => by
    cases e
    exact ⟨[], [], rfl, .nil, .nil⟩
  | d :: ds, _, ps, .cons h t, e => by
    unfold pairsOf at e
    cases e1 : pairOf d with
    | none => rw [e1] at e; cases e
    | some p =>
      cases e2 : pairsOf ds with
      | none => rw [e1, e2] at e; cases e
      | some ps' =>
        rw [e1, e2] at e
        cases e
        obtain ⟨as, qs, rfl, h1, h2⟩ := pairs_up t e2
        unfold pairOf at e1
        split at e1
        · cases e1
          cases h with
          | tup g1 g2 =>
            cases g2 with
            | cons a b =>
            cases b with
            | cons b c =>
            cases c
            exact ⟨_ :: as, (_, _) :: qs, rfl, .cons g1 h1, .cons ⟨a, b⟩ h2⟩
        · cases e1
theorem pairs_k : ∀ {qs : List (V × V)} {ps : List (PyData × PyData)}, Paired (fun (q : V × V) (p : PyData × PyData) => Dq K G q.1 p.1 ∧ Dq K G q.2 p.2) qs ps → KeysK ps → ∃ kvs : List (Key × V), qs = kvs.map (fun kv => (kV kv.1, kv.2)) ∧ EAll K G kD kvs ps
  | _, _, .nil, _ => ⟨[], rfl, .nil⟩
  | (x, y) :: _, (k, d) :: ps, .cons h t, hk => by
    obtain ⟨kvs, rfl, e⟩ := pairs_k t fun p m => hk p (List.mem_cons_of_mem _ m)
    obtain ⟨k', e1⟩ := hk _ List.mem_cons_self
    obtain ⟨h1, h2⟩ := h
    have e1 : k = kD k' := e1
    subst e1
    have e2 : x = kV k' := dq_k h1
    subst e2
    exact ⟨(k', y) :: kvs, rfl, .cons ⟨rfl, h2⟩ e⟩
theorem pairs_t : ∀ {qs : List (V × V)} {ps : List (PyData × PyData)}, Paired (fun (q : V × V) (p : PyData × PyData) => Dq K G q.1 p.1 ∧ Dq K G q.2 p.2) qs ps → KeysT ps →
    ∃ kvs : List (List Key × V), Paired (fun (q : V × V) (kv : List Key × V) => ∃ b, q.1 = V.ref b ∧ G b = some (.tup (kv.1.map kV)) ∧ q.2 = kv.2) qs kvs ∧ EAll K G tD kvs ps
  | _, _, .nil, _ => ⟨[], .nil, .nil⟩
  | (x, y) :: _, (k, d) :: ps, .cons h t, hk => by
    obtain ⟨kvs, z, e⟩ := pairs_t t fun p m => hk p (List.mem_cons_of_mem _ m)
    obtain ⟨k', e1⟩ := hk _ List.mem_cons_self
    obtain ⟨h1, h2⟩ := h
    have e1 : k = tD k' := e1
    subst e1
    obtain ⟨b, e2, e3⟩ := dq_t h1
    exact ⟨(k', y) :: kvs, .cons ⟨b, e2, e3, rfl⟩ z, .cons ⟨rfl, h2⟩ e⟩
end
section
variable {X : Cx} {pins : List (Addr × Obj)} {σ : L2.St} {H : Hp} {s : Shared}
/-- the pairs in the machine's heap -/
theorem pairs_in (I : L2.Inv X pins σ H s) : ∀ {as : List Addr} {qs : List (V × V)}, Paired (fun b (q : V × V) => H b = some (.tup [q.1, q.2])) as qs →
    ∃ prs : List (Value × Value), Paired (fun (q : V × V) (r : Value × Value) => RelV q.1 r.1 ∧ RelV q.2 r.2) qs prs ∧ prs.length = as.length ∧ ∀ (j : Nat) (k v : Value), prs[j]? = some (k, v) → ∃ b : Addr, as[j]? = some b ∧ PairAt s.heap b k v
  | _, _, .nil => ⟨[], .nil, rfl, fun j k v e => by simp at e⟩
  | b :: as, q :: qs, .cons h t => by
    obtain ⟨prs, r, hl, hp⟩ := pairs_in I t
    obtain ⟨its, rv, ht, _⟩ := I.tuple (.inl (.inl h))
    obtain ⟨u, y, ei, ru, ry⟩ := vals2 rv
    subst ei
    refine ⟨(u, y) :: prs, .cons ⟨ru, ry⟩ r, by rw [List.length_cons, List.length_cons, hl], fun j k v e => ?_⟩
    cases j with
    | zero =>
      have e' : (u, y) = (k, v) := Option.some.inj e
      cases e'
      exact ⟨b, rfl, .inl ht⟩
    | succ j =>
      obtain ⟨b', e1, e2⟩ := hp j k v (by simpa using e)
      exact ⟨b', by simpa using e1, e2⟩
theorem have_k : ∀ {kvs : List (Key × V)} {prs : List (Value × Value)}, Paired (fun (q : V × V) (r : Value × Value) => RelV q.1 r.1 ∧ RelV q.2 r.2) (kvs.map fun kv => (kV kv.1, kv.2)) prs →
    ∃ vs : List (Key × Value), KV kvs vs ∧ vs.length = prs.length ∧ ∀ (i : Nat) (key v : Value), prs[i]? = some (key, v) → ∃ k : Key, vs[i]? = some (k, v) ∧ (mixKind X.prog X.w).is k key = true
  | [], [], .nil => ⟨[], .nil, rfl, fun i k v e => by simp at e⟩
  | kv :: kvs, r :: prs, .cons h t => by
    obtain ⟨vs, h1, h2, h3⟩ := have_k t
    refine ⟨(kv.1, r.2) :: vs, .cons ⟨rfl, h.2⟩ h1, by rw [List.length_cons, List.length_cons, h2], fun i key v e => ?_⟩
    cases i with
    | zero =>
      have e' : r = (key, v) := Option.some.inj e
      subst e'
      exact ⟨kv.1, rfl, kV_is h.1⟩
    | succ i =>
      obtain ⟨k, e1, e2⟩ := h3 i key v (by simpa using e)
      exact ⟨k, by simpa using e1, e2⟩
theorem have_t : ∀ {qs : List (V × V)} {kvs : List (List Key × V)} {prs : List (Value × Value)}, Paired (fun (q : V × V) (kv : List Key × V) => ∃ b, q.1 = V.ref b ∧ H b = some (.tup (kv.1.map kV)) ∧ q.2 = kv.2) qs kvs → Paired (fun (q : V × V) (r : Value × Value) => RelV q.1 r.1 ∧ RelV q.2 r.2) qs prs →
    ∃ xs : List (List Key × Addr × Value), KT H kvs xs ∧ xs.length = prs.length ∧ ∀ (i : Nat) (key v : Value), prs[i]? = some (key, v) → ∃ (k : List Key) (b : Addr), xs[i]? = some (k, b, v) ∧ key = Value.ref b
  | [], [], [], .nil, .nil => ⟨[], .nil, rfl, fun i k v e => by simp at e⟩
  | q :: qs, kv :: kvs, r :: prs, .cons g u, .cons h t => by
    obtain ⟨xs, h1, h2, h3⟩ := have_t u t
    obtain ⟨b, g1, g2, g3⟩ := g
    obtain ⟨z1, z2⟩ := h
    rw [g1] at z1
    rw [g3] at z2
    have z1 : r.1 = Value.ref b := z1
    refine ⟨(kv.1, b, r.2) :: xs, .cons ⟨rfl, g2, z2⟩ h1, by rw [List.length_cons, List.length_cons, h2], fun i key v e => ?_⟩
    cases i with
    | zero =>
      have e' : r = (key, v) := Option.some.inj e
      subst e'
      exact ⟨kv.1, b, rfl, z1⟩
    | succ i =>
      obtain ⟨k, b', e1, e2⟩ := h3 i key v (by simpa using e)
      exact ⟨k, b', by simpa using e1, e2⟩
theorem kt_mem : ∀ {kvs : List (List Key × V)} {xs : List (List Key × Addr × Value)}, KT H kvs xs → ∀ x ∈ xs, H x.2.1 = some (.tup (x.1.map kV))
  | _, _, .nil, x, h => absurd h (by simp)
  | _, _, .cons g t, x, h => by
    rcases List.mem_cons.mp h with e | h
    · subst e
      rw [← g.1]
      exact g.2.1
    · exact kt_mem t x h
theorem kt_merge : ∀ {more : List (List Key × V)} {ys : List (List Key × Addr × Value)} {kvs : List (List Key × V)} {xs : List (List Key × Addr × Value)}, KT H more ys → KT H kvs xs → KT H (more.foldl (fun acc kv => putK acc kv.1 kv.2) kvs) (storedAllH xs ys)
  | _, _, _, _, .nil, h => h
  | kv :: more, y :: ys, kvs, xs, .cons g t, h => by
    obtain ⟨g1, g2, g3⟩ := g
    unfold storedAllH
    rw [List.foldl_cons, List.foldl_cons, ← g1]
    exact kt_merge t (KT.put h kv.1 g2 g3)
theorem len_fold {κ : Type} [DecidableEq κ] : ∀ (more kvs : List (κ × V)), (more.foldl (fun acc kv => putK acc kv.1 kv.2) kvs).length ≤ kvs.length + more.length
  | [], kvs => Nat.le_refl _
  | p :: r, kvs => by
    have h1 := len_fold r (putK kvs p.1 p.2)
    have h2 := length_putK kvs p.1 p.2
    rw [List.foldl_cons, List.length_cons]
    omega
def rDict (K : PySem.W.Frag) : List V → Hp → VK → Prop := fun xs H Q => ∃ a vs ds ps G, xs = [V.ref a] ∧ SqL K H a vs ∧ Same G H ∧ DqAll K G vs ds ∧ pairsOf ds = some ps ∧ (KeysK ps ∨ KeysT ps) ∧
  ∀ p o, DictIs K G o (mergeP [] ps) → H p = none → Q (.ref p) (upd H p o)
theorem cr_dict (hcalm : X.calm = true) (hu : X.A.units + 2 < cLine) : CallR X (.type "dict") (rDict X.K) := by
  intro pins s σ H xs us Q I r q
  obtain ⟨a, vs, ds, ps, G, rfl, hq, hG, hd, ep, hk, q⟩ := q
  obtain ⟨u, eu, rx⟩ := vals1 r
  subst eu
  cases rx
  obtain ⟨its, rv, pl, hz⟩ := I.list hq
  obtain ⟨as, qs, rfl, g1, g2⟩ := pairs_up hd ep
  have ei := refs_at rv
  subst ei
  rw [List.length_map] at hz
  have g1H : Paired (fun b (q : V × V) => H b = some (.tup [q.1, q.2])) as qs := paired_mono (fun _ _ z => hG _ _ z) g1
  obtain ⟨prs, r1, hl, hpr⟩ := pairs_in I g1H
  obtain ⟨o, n, ho, hc, hdn, hdat⟩ := pl
  have P := PairArg.list (prog := X.prog) (w := X.w) a (as.map Value.ref).toArray (fun j => as[j]?.getD 0) prs
  have ok : PlainSeq "list" s.heap a (as.map Value.ref).toArray ∧ PairItems s.heap (as.map Value.ref).toArray (fun j => as[j]?.getD 0) prs := by
    refine ⟨⟨o, n, ho, hc, hdn, hdat⟩, by simp [hl], fun j k v e => ?_⟩
    obtain ⟨b, e1, e2⟩ := hpr j k v e
    exact ⟨by simp [e1], by show PairAt s.heap (as[j]?.getD 0) k v; rw [e1]; exact e2⟩
  have hm : (s.heap.objs.size == sysModules) = false := beq_eq_false_iff_ne.mpr (Nat.ne_of_gt I.big)
  rcases hk with hk | hk
  · obtain ⟨kvs, rfl, ea⟩ := pairs_k g2 hk
    obtain ⟨vs, rel, hvl, hv⟩ := have_k (X := X) r1
    refine call_dict_pairs (knd := mixKind X.prog X.w) (kvs := vs) P (I.ok.hd hcalm) ok ⟨hvl, hv⟩ (by rw [hl]; exact hz) fun h' tk hd' k => ?_
    have hlen : (mergeK [] kvs).length ≤ sizeLine := by
      refine Nat.le_trans (length_mergeK kvs []) ?_
      rw [List.length_nil, Nat.zero_add, rel.length, hvl, hl]
      exact hz
    exact ⟨.ref s.heap.objs.size, upd H s.heap.objs.size (.dK (mergeK [] kvs)), I.laid (t' := tk) (fun b o e => k b o (by simp) e) (Nat.le_refl _) (show ObjOk X.prog X.w _ _ _ (.dK (mergeK [] kvs)) from ⟨hlen, hm, merged [] vs, KV.merge rel .nil, hd'⟩), rfl,
      q _ _ (.inl ⟨_, rfl, e_dk (EAll.merge (fun _ _ => kD_inj) ea .nil)⟩) (I.hok.fresh (Nat.le_refl _))⟩
  · obtain ⟨kvs, z, ea⟩ := pairs_t g2 hk
    obtain ⟨xs, rel, hvl, hv⟩ := have_t (H := H) (paired_mono (fun _ _ ⟨b, z1, z2, z3⟩ => ⟨b, z1, hG _ _ z2, z3⟩) z) r1
    have hlen0 : kvs.length ≤ sizeLine := by rw [paired_len rel, hvl, hl]; exact hz
    refine call_dict_pairsH (knd := tupleKind (mixKind X.prog X.w)) (ps := xs) P (I.ok.hd hcalm) (tupleKind_room_in1 (A := X.A.in1) (show X.A.units + 1 + 1 < cLine by omega)) ok ⟨hvl, hv⟩ (fun h' keep x hx => ?_) (by rw [hl]; exact hz) fun h' tk hd' k => ?_
    · obtain ⟨oo, its, nn, e1, e2⟩ := key_of I.hok (kt_mem rel x hx)
      exact ⟨oo, its, nn, keep _ _ (Nat.ne_of_lt (Heap.lt_size e1)) (by simp) e1, e2⟩
    · have hlen : (kvs.foldl (fun acc kv => putK acc kv.1 kv.2) []).length ≤ sizeLine := by
        refine Nat.le_trans (len_fold kvs []) ?_
        rw [List.length_nil, Nat.zero_add]
        exact hlen0
      have kk : ∀ b o, s.heap.get? b = some o → h'.get? b = some o := fun b o e => k b o (by simp) e
      obtain ⟨od, es, ep', d1, d2, d3, d4, _, d5⟩ := hd'
      have rel' := kt_merge rel (.nil : KT H [] [])
      exact ⟨.ref s.heap.objs.size, upd H s.heap.objs.size (.dT (kvs.foldl (fun acc kv => putK acc kv.1 kv.2) [])), I.laid (t' := tk) kk (Nat.le_refl _) (show ObjOk X.prog X.w _ _ _ (.dT (kvs.foldl (fun acc kv => putK acc kv.1 kv.2) [])) from
        ⟨hlen, hm, storedAllH [] xs, rel'.keeps fun b ys e => by rw [upd_ne (ne_of_none e (I.hok.fresh (Nat.le_refl _)))]; exact e, od, es, ep', d1, d2, d3, d4, d5⟩), rfl,
        q _ _ (.inr ⟨_, rfl, e_dt (EAll.merge (fun _ _ => tD_inj) ea .nil)⟩) (I.hok.fresh (Nat.le_refl _))⟩
open Classical in
theorem b_dict (hcalm : X.calm = true) (hu : X.A.units + 2 < cLine) : PrimCall X (.type "dict") pDict := by
  refine call1 (cr_dict hcalm hu) one_no fun s v c B Q hd hs h => ?_
  obtain ⟨ss, e1, h⟩ := finP_bind (show FinP X.K X.mg c Q ((asL B s).bind fun ss => (datsOf ss).bind fun ds => (dictD ds).bind fun d => some (.dat d, B)) from h)
  obtain ⟨ds, e2, h⟩ := finP_bind h
  obtain ⟨d, e3, h⟩ := finP_bind h
  obtain ⟨a, vs, rfl, h1, h2⟩ := asL_ok hd hs e1
  unfold dictD at e3
  cases e4 : pairsOf ds with
  | none => rw [e4] at e3; cases e3
  | some ps =>
    rw [e4] at e3
    have e3 : (if KeysK ps ∨ KeysT ps then some (PyData.dict (mergeP [] ps)) else none) = some d := e3
    split at e3
    · rename_i hk
      cases e3
      refine ⟨a, vs, ds, ps, c.G, rfl, h1, hd.gh, dats_all e2 h2, e4, hk, fun p o ho hp => ?_⟩
      have st := frz_step (o := o) hd hp
      exact h ⟨c.al, upd c.G p o, upd c.H p o⟩ (.ref p) st (frz_hold hd hp) ((ho.mono st.g).dq upd_same)
    · cases e3
/-! ### d[k] -/
def rIxP (K : PySem.W.Frag) : R2 := fun x y H Q => ∃ d ps a e G, x = .ref a ∧ Same G H ∧ Dq K H y d ∧ Dq K G x (.dict ps) ∧ KeyOk d ps ∧ valP ps d = some e ∧ ∀ v, Dq K G v e → Q v H
theorem ix_dict (hu : X.A.units + 1 < cLine) : IxR X (rIxP X.K) := by
  intro value slice pins s σ H x y v u Q I rx ry h hs
  obtain ⟨d, ps, a, e, G, rfl, hG, hy, hx, ok, he, q⟩ := h
  obtain rfl : v = Value.ref a := rx
  have go : ∀ r, DGet H a y (some r) → Dq X.K G r e → wpAny (model X.prog X.w) X.A (subscriptTail value slice (.ref a) u) (EP X pins σ Q) X.xe s := fun r g hr =>
    tail_any (dict_typeIs I g) PySem.F.slot_dict_getitem.lookup (d_getItem hu I g ry fun w' s' I' rw' => ⟨r, H, I', rw', q r hr⟩) hs
  rcases ok with ⟨k, rfl, hk⟩ | ⟨k, rfl, hk⟩
  · cases hx with
    | dik h1 h2 =>
      rcases EAll.val (fun _ _ => kD_inj) (dk_e h2) k with ⟨e1, e2⟩ | ⟨r, d, e1, e2, e3⟩
      · rw [e2] at he; cases he
      · rw [e2] at he
        cases he
        have g := DGet.k (k := k) (hG _ _ h1)
        rw [e1] at g
        rw [dq_k hy] at go
        exact go r g e3
    | dit h1 h2 =>
      cases h2 with
      | nil => cases he
      | cons q t =>
        obtain ⟨k', e⟩ := hk _ List.mem_cons_self
        exact (tD_k e).elim
  · obtain ⟨b, rfl, hb⟩ := dq_t hy
    cases hx with
    | dit h1 h2 =>
      rcases EAll.val (fun _ _ => tD_inj) (dt_e h2) k with ⟨e1, e2⟩ | ⟨r, d, e1, e2, e3⟩
      · rw [e2] at he; cases he
      · rw [e2] at he
        cases he
        have g := DGet.t (k := k) (hG _ _ h1) hb
        rw [e1] at g
        exact go r g e3
    | dik h1 h2 =>
      cases h2 with
      | nil => cases he
      | cons q t =>
        obtain ⟨k', e⟩ := hk _ List.mem_cons_self
        exact (tD_k e.symm).elim
theorem x_ixD (hu : X.A.units + 1 < cLine) : PrimIx X pIxD := by
  refine ⟨_, ix_dict hu, fun s t v u c B Q hd hs ht h => ?_⟩
  cases s with
  | dat d =>
    obtain ⟨e, e2, h⟩ := finP_bind (show FinP X.K X.mg c Q ((valD B t).bind fun e => (dIx d e).bind fun v => some (.dat v, B)) from h)
    obtain ⟨r, e3, h3⟩ := finP_bind h
    have h4 : ∀ c' v, Step c c' → Hold X.K X.mg c' B → RS X.K X.mg c' (.dat r) v → Q v c'.H := h3
    cases d with
    | dict ps =>
      have e3 : (@ite _ (KeyOk e ps) (Classical.propDecidable _) (valP ps e) none) = some r := e3
      split at e3
      · rename_i ok
        have hs : Dq X.K c.G v (.dict ps) := hs
        obtain ⟨a, rfl⟩ : ∃ a, v = V.ref a := by cases hs <;> exact ⟨_, rfl⟩
        exact ⟨_, ps, a, r, c.G, rfl, hd.gh, valD_ok hd ht e2, hs, ok, e3, fun w hw => h4 c w (Step.refl c) hd hw⟩
      · cases e3
    | _ => cases e3
  | _ => exact h.elim
end
end PN

set_option maxRecDepth 100000
set_option maxHeartbeats 4000000
/-! PO: the evaluators' results as plain functions of data. First part: what a run makes; slots. -/
namespace PO
open PySem L2 PN
abbrev D := PyData
/-- the feed: its numbers, its place, its rest -/
structure Fd where
  c : List D
  a : Nat
  r : Int
abbrev fdo (F : Fd) : Option MO := fcell F.c F.a F.r
abbrev stf (F : Fd) (B0 T : Bs) : Bs := fdo F :: (B0 ++ T)
inductive Ro (α : Type) where
  | ok (x : α) (F : Fd)
  | exc (c : Str) (fs : List (Str × D)) (F : Fd)
  | bad
def M (α : Type) := Fd → Ro α
namespace M
variable {α β γ : Type}
def ok (x : α) : M α := fun F => .ok x F
def bad : M α := fun _ => .bad
def exc (c : Str) (fs : List (Str × D)) : M α := fun F => .exc c fs F
def bind (x : M α) (k : α → M β) : M β := fun F => match x F with
  | .ok a F1 => k a F1
  | .exc c fs F1 => .exc c fs F1
  | .bad => .bad
def opt : Option α → M α
  | some x => ok x
  | none => bad
def ite (d : D) (x y : M α) : M α := match d with
  | .bool true => x
  | .bool false => y
  | _ => bad
theorem ok_bind (x : α) (k : α → M β) : bind (ok x) k = k x := rfl
theorem bad_bind (k : α → M β) : bind bad k = bad := rfl
theorem exc_bind (c : Str) (fs : List (Str × D)) (k : α → M β) : bind (exc c fs) k = exc c fs := rfl
theorem bind_ok (x : M α) : bind x ok = x := by
  funext F
  unfold bind ok
  cases x F <;> rfl
theorem bind_assoc (x : M α) (k : α → M β) (l : β → M γ) : bind (bind x k) l = bind x fun a => bind (k a) l := by
  funext F
  unfold bind
  cases x F <;> rfl
theorem opt_some (x : α) : opt (some x) = ok x := rfl
theorem opt_none : (opt none : M α) = bad := rfl
theorem ite_t (x y : M α) : ite (.bool true) x y = x := rfl
theorem ite_f (x y : M α) : ite (.bool false) x y = y := rfl
end M
abbrev dfs (fs : List (Str × D)) : List (Str × S) := fs.map fun p => (p.1, .dat p.2)
theorem dfs_flat (fs : List (Str × D)) : ∀ p ∈ dfs fs, refsS 0 p.2 := fun p m => by
  obtain ⟨q, _, rfl⟩ := List.mem_map.mp m
  trivial
/-! ### slots -/
/-- what is known of a slot: a list of its own stands at the place j of the def's own part -/
inductive Sl where
  | any
  | dat (d : D)
  | bor (d : D)
  | own (j : Nat) (ds : List D)
  | fd
  | fn (x : Str)
/-- s stands for d, by what stands behind the feed -/
inductive Den (B : Bs) : S → D → Prop
  | dat (d : D) : Den B (.dat d) d
  | ref {k : Nat} {ds : List D} : B[k]? = some (some (.lst (ds.map .dat))) → Den B (.ref (k + 1)) (.list ds)
def SlOk (B0 T : Bs) : Sl → Option S → Prop
  | .any, _ => True
  | .dat d, o => o = some (.dat d)
  | .bor d, o => ∃ s, o = some s ∧ Den B0 s d
  | .own j ds, o => o = some (.ref (B0.length + j + 1)) ∧ T[j]? = some (some (.lst (ds.map .dat)))
  | .fd, o => o = some (.ref 0)
  | .fn x, o => o = some (.fn x)
structure At (L : List Sl) (B0 T : Bs) (r : En) : Prop where
  len : L.length = r.length
  ok : ∀ (i : Nat) (l : Sl), L[i]? = some l → ∃ o, r[i]? = some o ∧ SlOk B0 T l o
  inj : ∀ (i k j : Nat) (ds es : List D), L[i]? = some (.own j ds) → L[k]? = some (.own j es) → i = k
/-- lists that stand stay -/
structure Ext (T T' : Bs) : Prop where
  len : T.length ≤ T'.length
  get : ∀ (j : Nat) (o : MO), T[j]? = some (some o) → T'[j]? = some (some o)
theorem Ext.refl (T : Bs) : Ext T T := ⟨Nat.le_refl _, fun _ _ h => h⟩
theorem Ext.trans {T U V : Bs} (h : Ext T U) (k : Ext U V) : Ext T V := ⟨Nat.le_trans h.len k.len, fun j o e => k.get j o (h.get j o e)⟩
theorem Ext.app (T U : Bs) : Ext T (T ++ U) := ⟨by rw [List.length_append]; exact Nat.le_add_right _ _, fun j o e => by
  rw [List.getElem?_append_left (List.getElem?_eq_some_iff.mp e).1]
  exact e⟩
theorem Ext.den {B0 T T' : Bs} (h : Ext T T') {s : S} {d : D} (k : Den (B0 ++ T) s d) : Den (B0 ++ T') s d := by
  cases k with
  | dat => exact .dat d
  | ref e =>
    rename_i k ds
    refine .ref ?_
    by_cases q : k < B0.length
    · rw [List.getElem?_append_left q] at e ⊢
      exact e
    · rw [List.getElem?_append_right (by omega)] at e ⊢
      exact h.get _ _ e
theorem Den.up {B0 : Bs} {s : S} {d : D} (T : Bs) (k : Den B0 s d) : Den (B0 ++ T) s d := by
  cases k with
  | dat => exact .dat d
  | ref e => exact .ref (by rw [List.getElem?_append_left (List.getElem?_eq_some_iff.mp e).1]; exact e)
section
variable {L L' : List Sl} {B0 T T' : Bs} {r : En}
theorem SlOk.ext {l : Sl} {o : Option S} (h : Ext T T') (k : SlOk B0 T l o) : SlOk B0 T' l o := by
  cases l with
  | own j ds => exact ⟨k.1, h.get _ _ k.2⟩
  | _ => exact k
theorem At.ext (h : At L B0 T r) (k : Ext T T') : At L B0 T' r := ⟨h.len, fun i l e => by
  obtain ⟨o, h1, h2⟩ := h.ok i l e
  exact ⟨o, h1, h2.ext k⟩, h.inj⟩
theorem At.var (h : At L B0 T r) {i : Nat} {d : D} (e : L[i]? = some (.dat d)) : r[i]? = some (some (.dat d)) := by
  obtain ⟨o, h1, h2⟩ := h.ok i _ e
  rw [h1, show o = some (.dat d) from h2]
theorem At.bor (h : At L B0 T r) {i : Nat} {d : D} (e : L[i]? = some (.bor d)) : ∃ s, r[i]? = some (some s) ∧ Den (B0 ++ T) s d := by
  obtain ⟨o, h1, s, rfl, h3⟩ := h.ok i _ e
  exact ⟨s, h1, h3.up T⟩
theorem At.own (h : At L B0 T r) {i j : Nat} {ds : List D} (e : L[i]? = some (.own j ds)) : r[i]? = some (some (.ref (B0.length + j + 1))) ∧ T[j]? = some (some (.lst (ds.map .dat))) := by
  obtain ⟨o, h1, h2, h3⟩ := h.ok i _ e
  rw [h1, h2]
  exact ⟨rfl, h3⟩
theorem At.fd (h : At L B0 T r) {i : Nat} (e : L[i]? = some .fd) : r[i]? = some (some (.ref 0)) := by
  obtain ⟨o, h1, h2⟩ := h.ok i _ e
  rw [h1, show o = some (.ref 0) from h2]
theorem At.fn (h : At L B0 T r) {i : Nat} {x : Str} (e : L[i]? = some (.fn x)) : r[i]? = some (some (.fn x)) := by
  obtain ⟨o, h1, h2⟩ := h.ok i _ e
  rw [h1, show o = some (.fn x) from h2]
theorem own_den {j : Nat} {ds : List D} (e : T[j]? = some (some (.lst (ds.map .dat)))) : Den (B0 ++ T) (.ref (B0.length + j + 1)) (.list ds) := .ref (by
  rw [List.getElem?_append_right (by omega), show B0.length + j - B0.length = j by omega]
  exact e)
theorem set_get {α : Type} {l : List α} {i k : Nat} {x y : α} (e : (l.set i x)[k]? = some y) : (i = k ∧ y = x ∧ i < l.length) ∨ (i ≠ k ∧ l[k]? = some y) := by
  by_cases q : i = k
  · subst q
    have hl : i < l.length := by
      have := (List.getElem?_eq_some_iff.mp e).1
      rwa [List.length_set] at this
    rw [List.getElem?_set_self hl] at e
    cases e
    exact .inl ⟨rfl, rfl, hl⟩
  · rw [List.getElem?_set_ne q] at e
    exact .inr ⟨q, e⟩
/-- a slot is stored into -/
theorem At.put (h : At L B0 T r) (i : Nat) {l : Sl} {o : Option S} (ho : SlOk B0 T l o) (hn : ∀ j ds, l = .own j ds → ∀ k es, L[k]? = some (.own j es) → k = i) : At (L.set i l) B0 T (r.set i o) := by
  refine ⟨by rw [List.length_set, List.length_set]; exact h.len, fun k m e => ?_, fun k m j ds es e1 e2 => ?_⟩
  · rcases set_get e with ⟨rfl, rfl, q⟩ | ⟨q, e⟩
    · exact ⟨o, by rw [List.getElem?_set_self (by rw [← h.len]; exact q)], ho⟩
    · obtain ⟨o', h1, h2⟩ := h.ok k m e
      exact ⟨o', by rw [List.getElem?_set_ne q]; exact h1, h2⟩
  · rcases set_get e1 with ⟨rfl, q1, _⟩ | ⟨q1, e1⟩ <;> rcases set_get e2 with ⟨rfl, q2, _⟩ | ⟨q2, e2⟩
    · rfl
    · exact (hn j ds q1.symm m es e2).symm
    · exact hn j es q2.symm k ds e1
    · exact h.inj k m j ds es e1 e2
theorem At.set (h : At L B0 T r) (i : Nat) (d : D) : At (L.set i (.dat d)) B0 T (r.set i (some (.dat d))) := h.put i rfl fun _ _ e => nomatch e
theorem At.any (h : At L B0 T r) (i : Nat) (o : Option S) : At (L.set i .any) B0 T (r.set i o) := h.put i trivial fun _ _ e => nomatch e
/-- a new list of its own -/
theorem At.alloc (h : At L B0 T r) (i : Nat) (ds : List D) : At (L.set i (.own T.length ds)) B0 (T ++ [some (.lst (ds.map .dat))]) (r.set i (some (.ref (B0.length + T.length + 1)))) := by
  refine (h.ext (Ext.app T _)).put i ⟨rfl, by simp⟩ fun j es e k fs e2 => ?_
  cases e
  obtain ⟨o, h1, h2, h3⟩ := h.ok k _ e2
  have := (List.getElem?_eq_some_iff.mp h3).1
  omega
/-- its own list turns -/
theorem At.turn (h : At L B0 T r) {i j : Nat} {ds : List D} (e : L[i]? = some (.own j ds)) (es : List D) : At (L.set i (.own j es)) B0 (T.set j (some (.lst (es.map .dat)))) r := by
  obtain ⟨h1, h2⟩ := h.own e
  have hj := (List.getElem?_eq_some_iff.mp h2).1
  refine ⟨by rw [List.length_set]; exact h.len, fun k m e1 => ?_, fun k m j' ds' es' e1 e2 => ?_⟩
  · rcases set_get e1 with ⟨rfl, rfl, q⟩ | ⟨q, e1⟩
    · exact ⟨_, h1, rfl, by rw [List.getElem?_set_self hj]⟩
    · obtain ⟨o, g1, g2⟩ := h.ok k m e1
      refine ⟨o, g1, ?_⟩
      cases m with
      | own j' ds' =>
        refine ⟨g2.1, ?_⟩
        rw [List.getElem?_set_ne (fun z => by subst z; exact q (h.inj i k j ds ds' e e1))]
        exact g2.2
      | _ => exact g2
  · rcases set_get e1 with ⟨rfl, q1, _⟩ | ⟨q1, e1⟩ <;> rcases set_get e2 with ⟨rfl, q2, _⟩ | ⟨q2, e2⟩
    · rfl
    · cases q1; exact h.inj _ _ _ _ _ e e2
    · cases q2; exact (h.inj _ _ _ _ _ e e1).symm
    · exact h.inj k m j' ds' es' e1 e2
/-- its own list is known no more -/
theorem At.shut (h : At L B0 T r) {i j : Nat} {ds : List D} (e : L[i]? = some (.own j ds)) : At (L.set i .any) B0 (T.set j none) r := by
  obtain ⟨h1, h2⟩ := h.own e
  refine ⟨by rw [List.length_set]; exact h.len, fun k m e1 => ?_, fun k m j' ds' es' e1 e2 => ?_⟩
  · rcases set_get e1 with ⟨rfl, rfl, q⟩ | ⟨q, e1⟩
    · exact ⟨_, h1, trivial⟩
    · obtain ⟨o, g1, g2⟩ := h.ok k m e1
      refine ⟨o, g1, ?_⟩
      cases m with
      | own j' ds' =>
        refine ⟨g2.1, ?_⟩
        rw [List.getElem?_set_ne (fun z => by subst z; exact q (h.inj i k j ds ds' e e1))]
        exact g2.2
      | _ => exact g2
  · rcases set_get e1 with ⟨_, q1, _⟩ | ⟨q1, e1⟩
    · cases q1
    · rcases set_get e2 with ⟨_, q2, _⟩ | ⟨q2, e2⟩
      · cases q2
      · exact h.inj k m j' ds' es' e1 e2
/-- less is known -/
inductive Le : List Sl → List Sl → Prop
  | nil : Le [] []
  | eq {l : Sl} {L L' : List Sl} : Le L L' → Le (l :: L) (l :: L')
  | any {l : Sl} {L L' : List Sl} : Le L L' → Le (l :: L) (.any :: L')
theorem Le.refl : ∀ L : List Sl, Le L L
  | [] => .nil
  | _ :: L => .eq (Le.refl L)
theorem Le.len {L L' : List Sl} (h : Le L L') : L'.length = L.length := by
  induction h <;> simp_all
theorem Le.get : ∀ {L L' : List Sl}, Le L L' → ∀ (i : Nat) (l : Sl), L'[i]? = some l → L[i]? = some l ∨ (l = .any ∧ i < L.length)
  | _, _, .nil, i, l, e => by simp at e
  | _, _, .eq h, 0, l, e => .inl e
  | _, _, .any h, 0, l, e => .inr ⟨by simpa using e.symm, Nat.succ_pos _⟩
  | _, _, .eq h, i + 1, l, e => by
    rcases Le.get h i l (by simpa using e) with q | ⟨q, q2⟩
    · exact .inl (by simpa using q)
    · exact .inr ⟨q, Nat.succ_lt_succ q2⟩
  | _, _, .any h, i + 1, l, e => by
    rcases Le.get h i l (by simpa using e) with q | ⟨q, q2⟩
    · exact .inl (by simpa using q)
    · exact .inr ⟨q, Nat.succ_lt_succ q2⟩
theorem At.le (h : At L B0 T r) (k : Le L L') : At L' B0 T r := by
  refine ⟨by rw [k.len]; exact h.len, fun i l e => ?_, fun i m j ds es e1 e2 => ?_⟩
  · rcases k.get i l e with q | ⟨rfl, q⟩
    · exact h.ok i l q
    · exact ⟨r[i]'(by rw [← h.len]; exact q), List.getElem?_eq_getElem _, trivial⟩
  · rcases k.get i _ e1 with q1 | ⟨q1, _⟩
    · rcases k.get m _ e2 with q2 | ⟨q2, _⟩
      · exact h.inj i m j ds es q1 q2
      · cases q2
    · cases q1
end
end PO

set_option maxRecDepth 100000
set_option maxHeartbeats 4000000
/-! PO, second part: expressions. -/
namespace PO
open PySem L2 PN
structure In (L : List Sl) (B0 T : Bs) (r : En) : Prop where
  b : Flat B0
  t : Flat T
  a : At L B0 T r
/-- y is what x tells: a value by R -/
def EPost (R : Bs → S → D → Prop) (B0 T : Bs) : Ro D → Re → Prop
  | .ok d F, y => ∃ s T', y = .ok s (stf F B0 T') ∧ R (B0 ++ T') s d ∧ Flat T' ∧ Ext T T'
  | .exc c fs F, y => ∃ T', y = .exc c (dfs fs) (stf F B0 T') ∧ Flat T'
  | .bad, _ => True
def EG (R : Bs → S → D → Prop) (L : List Sl) (g : GE) (x : M D) : Prop := ∀ (F : Fd) (B0 T : Bs) (r : En), In L B0 T r → EPost R B0 T (x F) (g r (stf F B0 T))
def isDat : Bs → S → D → Prop := fun _ s d => s = .dat d
abbrev EE := EG isDat
abbrev EV := EG Den
structure Good (R : Bs → S → D → Prop) : Prop where
  dat : ∀ B d, R B (.dat d) d
  ext : ∀ B0 T T' s d, Ext T T' → R (B0 ++ T) s d → R (B0 ++ T') s d
theorem good_dat : Good isDat := ⟨fun _ _ => rfl, fun _ _ _ _ _ _ h => h⟩
theorem good_den : Good Den := ⟨fun _ d => .dat d, fun _ _ _ _ _ h k => h.den k⟩
section
variable {L : List Sl} {g g1 g2 g3 : GE} {x y z : M D} {d : D} {i j : Nat} {ds : List D} {R : Bs → S → D → Prop}
theorem In.ext {B0 T T' : Bs} {r : En} (h : In L B0 T r) (e : Ext T T') (t : Flat T') : In L B0 T' r := ⟨h.b, t, h.a.ext e⟩
theorem den_val {o : Option MO} {B : Bs} {s : S} {d : D} (h : Den B s d) : valD (o :: B) s = some d := by
  cases h with
  | dat => rfl
  | ref e =>
    rename_i k ds
    have e2 : (o :: B)[k + 1]? = some (some (.lst (ds.map .dat))) := e
    simp only [valD, e2, datsOf_map]
    rfl
theorem EG.congr (h : EG R L g x) (e : x = y) : EG R L g y := e ▸ h
theorem e_var (e : L[i]? = some (.dat d)) (gr : Good R) : EG R L (gVar i) (M.ok d) := fun F B0 T r h => by
  refine ⟨.dat d, T, ?_, gr.dat _ _, h.t, Ext.refl T⟩
  unfold gVar
  rw [h.a.var e]
theorem v_bor (e : L[i]? = some (.bor d)) : EV L (gVar i) (M.ok d) := fun F B0 T r h => by
  obtain ⟨s, h1, h2⟩ := h.a.bor e
  refine ⟨s, T, ?_, h2, h.t, Ext.refl T⟩
  unfold gVar
  rw [h1]
theorem v_own (e : L[i]? = some (.own j ds)) : EV L (gVar i) (M.ok (.list ds)) := fun F B0 T r h => by
  obtain ⟨h1, h2⟩ := h.a.own e
  refine ⟨_, T, ?_, own_den h2, h.t, Ext.refl T⟩
  unfold gVar
  rw [h1]
theorem e_con (gr : Good R) : EG R L (gC (.dat d)) (M.ok d) := fun F B0 T r h => ⟨.dat d, T, rfl, gr.dat _ _, h.t, Ext.refl T⟩
theorem v_of (h : EE L g x) : EV L g x := fun F B0 T r hi => by
  have := h F B0 T r hi
  revert this
  cases x F with
  | ok d F1 =>
    rintro ⟨s, T', e, rfl, q⟩
    exact ⟨_, T', e, .dat d, q⟩
  | exc c fs F1 => exact id
  | bad => exact id
/-- one behind the other -/
theorem eg_bind {R1 : Bs → S → D → Prop} {k : D → M D} {f : S → GE} (h1 : EG R1 L g x) (h2 : ∀ (d : D) (F : Fd) (B0 T : Bs) (r : En) (s : S), In L B0 T r → R1 (B0 ++ T) s d → EPost R B0 T (k d F) (f s r (stf F B0 T))) : EG R L (gBind g f) (M.bind x k) := fun F B0 T r h => by
  have q := h1 F B0 T r h
  unfold gBind M.bind
  revert q
  cases x F with
  | ok d F1 =>
    rintro ⟨s, T1, e, hs, t1, x1⟩
    rw [e]
    have q2 := h2 d F1 B0 T1 r s (h.ext x1 t1) hs
    dsimp only
    revert q2
    cases k d F1 with
    | ok d2 F2 =>
      rintro ⟨s2, T2, e2, hs2, t2, x2⟩
      exact ⟨s2, T2, e2, hs2, t2, x1.trans x2⟩
    | exc c fs F2 =>
      rintro ⟨T2, e2, t2⟩
      exact ⟨T2, e2, t2⟩
    | bad => exact fun _ => trivial
  | exc c fs F1 =>
    rintro ⟨T1, e, t1⟩
    rw [e]
    exact ⟨T1, rfl, t1⟩
  | bad => exact fun _ => trivial
/-! ### operators -/
def φ1 (f : GP) (d : D) : Option D := match f [.dat d] [] with | some (.dat v, _) => some v | _ => none
def φ2 (f : GP) (d e : D) : Option D := match f [.dat d, .dat e] [] with | some (.dat v, _) => some v | _ => none
def φ3 (f : GP) (d e u : D) : Option D := match f [.dat d, .dat e, .dat u] [] with | some (.dat v, _) => some v | _ => none
def op1 (f : GP) (d : D) : M D := M.opt (φ1 f d)
def op2 (f : GP) (d e : D) : M D := M.opt (φ2 f d e)
def op3 (f : GP) (d e u : D) : M D := M.opt (φ3 f d e u)
def Op1 (f : GP) : Prop := ∀ (o : Option MO) (B : Bs) (s : S) (d v : D), Den B s d → φ1 f d = some v → f [s] (o :: B) = some (.dat v, o :: B)
def Op2 (f : GP) : Prop := ∀ (o : Option MO) (B : Bs) (s t : S) (d e v : D), Den B s d → Den B t e → φ2 f d e = some v → f [s, t] (o :: B) = some (.dat v, o :: B)
def Op3 (f : GP) : Prop := ∀ (o : Option MO) (B : Bs) (s t u : S) (d e w v : D), Den B s d → Den B t e → Den B u w → φ3 f d e w = some v → f [s, t, u] (o :: B) = some (.dat v, o :: B)
theorem opt_post {B0 T : Bs} {F : Fd} {o : Option D} {y : Option (S × Bs)} {r : En} (gr : Good R) (h : In L B0 T r) (k : ∀ v, o = some v → y = some (.dat v, stf F B0 T)) : EPost R B0 T (M.opt o F) (liftP y) := by
  cases o with
  | none => trivial
  | some v =>
    rw [k v rfl]
    exact ⟨.dat v, T, rfl, gr.dat _ _, h.t, Ext.refl T⟩
theorem e_p1 {f : GP} (o : Op1 f) (h1 : EV L g x) (gr : Good R) : EG R L (gP1 f g) (M.bind x fun d => op1 f d) :=
  eg_bind h1 fun d F B0 T r s h hs => opt_post gr h fun v e => o _ _ s d v hs e
theorem e_p2 {f : GP} (o : Op2 f) (h1 : EV L g1 x) (h2 : EV L g2 y) (gr : Good R) : EG R L (gP2 f g1 g2) (M.bind x fun d => M.bind y fun e => op2 f d e) :=
  eg_bind h1 fun d F B0 T r s h hs => by
    have q := h2 F B0 T r h
    unfold gBind M.bind
    revert q
    cases y F with
    | ok e F1 =>
      rintro ⟨t, T1, e1, ht, t1, x1⟩
      rw [e1]
      have q2 := opt_post (F := F1) (o := φ2 f d e) (y := f [s, t] (stf F1 B0 T1)) gr (h.ext x1 t1) fun v ev => o _ _ s t d e v (x1.den hs) ht ev
      dsimp only
      revert q2
      show EPost R B0 T1 (op2 f d e F1) _ → _
      cases op2 f d e F1 with
      | ok d2 F2 =>
        rintro ⟨s2, T2, e2, hs2, t2, x2⟩
        exact ⟨s2, T2, e2, hs2, t2, x1.trans x2⟩
      | exc c fs F2 => exact id
      | bad => exact id
    | exc c fs F1 =>
      rintro ⟨T1, e1, t1⟩
      rw [e1]
      exact ⟨T1, rfl, t1⟩
    | bad => exact fun _ => trivial
/-! ### tests -/
theorem ite_post {B0 T : Bs} {F : Fd} {d : D} {a b : M D} {yt yf : Re} (ht : d = .bool true → EPost R B0 T (a F) yt) (hf : d = .bool false → EPost R B0 T (b F) yf) (w : Re) (h1 : d = .bool true → w = yt) (h2 : d = .bool false → w = yf) : EPost R B0 T (M.ite d a b F) w := by
  cases d with
  | bool k =>
    cases k with
    | true => rw [h1 rfl]; exact ht rfl
    | false => rw [h2 rfl]; exact hf rfl
  | _ => trivial
theorem e_if (h1 : EE L g1 x) (h2 : EG R L g2 y) (h3 : EG R L g3 z) : EG R L (gIf g1 g2 g3) (M.bind x fun d => M.ite d y z) := by
  have q : gIf g1 g2 g3 = gBind g1 fun s => match s with | .dat (.bool true) => g2 | .dat (.bool false) => g3 | _ => fun _ _ => .bad := by
    funext r B
    unfold gIf gBind
    rcases g1 r B with ⟨s, B1⟩ | ⟨c, fs, B1⟩ | _ <;> first | rfl | (cases s <;> first | rfl | (rename_i d; cases d <;> first | rfl | (rename_i b; cases b <;> rfl)))
  rw [q]
  refine eg_bind h1 fun d F B0 T r s h hs => ?_
  subst hs
  exact ite_post (fun _ => h2 F B0 T r h) (fun _ => h3 F B0 T r h) _ (fun e => by rw [e]) (fun e => by rw [e])
theorem e_and (h1 : EE L g1 x) (h2 : EE L g2 y) : EE L (gAnd g1 g2) (M.bind x fun d => M.ite d y (M.ok (.bool false))) := by
  have q : gAnd g1 g2 = gIf g1 g2 (gC (.dat (.bool false))) := rfl
  rw [q]
  exact e_if h1 h2 (e_con good_dat)
theorem e_or (h1 : EE L g1 x) (h2 : EE L g2 y) : EE L (gOr g1 g2) (M.bind x fun d => M.ite d (M.ok (.bool true)) y) := by
  have q : gOr g1 g2 = gIf g1 (gC (.dat (.bool true))) g2 := rfl
  rw [q]
  exact e_if h1 (e_con good_dat) h2
theorem e_not (h1 : EE L g x) : EE L (gNot g) (M.bind x fun d => M.ite d (M.ok (.bool false)) (M.ok (.bool true))) := by
  have q : gNot g = gIf g (gC (.dat (.bool false))) (gC (.dat (.bool true))) := by
    funext r B
    unfold gNot gIf gC
    rcases g r B with ⟨s, B1⟩ | ⟨c, fs, B1⟩ | _ <;> first | rfl | (cases s <;> first | rfl | (rename_i d; cases d <;> first | rfl | (rename_i b; cases b <;> rfl)))
  rw [q]
  exact e_if h1 (e_con good_dat) (e_con good_dat)
theorem e_chain {f f' : GP} (o : Op2 f) (o' : Op2 f') (h1 : EV L g1 x) (h2 : EV L g2 y) (h3 : EV L g3 z) : EE L (gChain f f' g1 g2 g3) (M.bind x fun a => M.bind y fun b => M.bind (op2 f a b) fun t => M.ite t (M.bind z fun c => op2 f' b c) (M.ok (.bool false))) := by
  unfold gChain
  refine eg_bind h1 fun a F B0 T r s h hs => ?_
  have q2 := h2 F B0 T r h
  unfold M.bind gBind
  revert q2
  cases y F with
  | ok b F1 =>
    rintro ⟨t, T1, e1, ht, t1, x1⟩
    rw [e1]
    dsimp only
    have hi := h.ext x1 t1
    cases ef : φ2 f a b with
    | none =>
      have : op2 f a b F1 = .bad := by unfold op2; rw [ef]; rfl
      rw [this]
      trivial
    | some v =>
      have e2 := o (fdo F1) (B0 ++ T1) s t a b v (x1.den hs) ht ef
      have : op2 f a b F1 = .ok v F1 := by unfold op2; rw [ef]; rfl
      rw [this, e2]
      dsimp only
      cases v with
      | bool k =>
        cases k with
        | true =>
          have q3 := h3 F1 B0 T1 r hi
          show EPost isDat B0 T (M.bind z (fun c => op2 f' b c) F1) (gBind g3 (fun u _ B2 => liftP (f' [t, u] B2)) r (stf F1 B0 T1))
          unfold M.bind gBind
          revert q3
          cases z F1 with
          | ok c F2 =>
            rintro ⟨u, T2, e3, hu, t2, x2⟩
            rw [e3]
            have q4 := opt_post (F := F2) (o := φ2 f' b c) (y := f' [t, u] (stf F2 B0 T2)) good_dat (hi.ext x2 t2) fun v ev => o' _ _ t u b c v (x2.den ht) hu ev
            dsimp only
            revert q4
            show EPost isDat B0 T2 (op2 f' b c F2) _ → _
            cases op2 f' b c F2 with
            | ok d2 F3 =>
              rintro ⟨s2, T3, e4, hs2, t3, x3⟩
              exact ⟨s2, T3, e4, hs2, t3, x1.trans (x2.trans x3)⟩
            | exc c fs F2 => exact id
            | bad => exact id
          | exc c fs F2 =>
            rintro ⟨T2, e3, t2⟩
            rw [e3]
            exact ⟨T2, rfl, t2⟩
          | bad => exact fun _ => trivial
        | false => exact ⟨_, T1, rfl, rfl, t1, x1⟩
      | _ => trivial
  | exc c fs F1 =>
    rintro ⟨T1, e1, t1⟩
    rw [e1]
    exact ⟨T1, rfl, t1⟩
  | bad => exact fun _ => trivial
/-! ### isinstance -/
def isiM (ty : String) (d : PyData) : M PyData := if tyD d = "dict" then M.bad else M.ok (.bool (isTy (tyD d) ty))
theorem e_isi {ty : String} (h1 : EV L g x) : EE L (gIsi ty g) (M.bind x (isiM ty)) := by
  unfold gIsi
  refine eg_bind h1 fun d F B0 T r s h hs => ?_
  have e : valD (stf F B0 T) s = some d := by
    exact den_val hs
  rw [e]
  dsimp only
  unfold isiM
  by_cases nd : tyD d = "dict"
  · rw [if_pos nd, if_pos nd]; trivial
  rw [if_neg nd, if_neg nd]
  refine ⟨.dat (.bool (isTy (tyD d) ty)), T, ?_, rfl, h.t, Ext.refl T⟩
  split
  · rename_i q; rw [q]
  · rename_i q; rw [Bool.eq_false_iff.mpr q]
/-! ### slices -/
def parts (d : D) (k : M D) : M D := match d with
  | .none => k
  | .int _ => k
  | _ => M.bad
theorem e_part (h : EE L g x) : EE L (gPart g) (M.bind x fun d => match d with | .int i => M.ok (.int i) | _ => M.bad) := by
  have q : gPart g = gBind g fun s => match s with | .dat (.int i) => gC (.dat (.int i)) | _ => fun _ _ => .bad := by
    funext r B
    unfold gPart gBind gC
    rcases g r B with ⟨s, B1⟩ | ⟨c, fs, B1⟩ | _ <;> first | rfl | (cases s <;> first | rfl | (rename_i d; cases d <;> rfl))
  rw [q]
  refine eg_bind h fun d F B0 T r s hi hs => ?_
  subst hs
  cases d <;> first | trivial | exact ⟨_, T, rfl, rfl, hi.t, Ext.refl T⟩
theorem e_sl (o : Op3 pSl) (h1 : EV L g1 x) (h2 : EE L g2 y) (h3 : EE L g3 z) (gr : Good R) : EG R L (gSl g1 g2 g3) (M.bind x fun d => M.bind y fun l => parts l (M.bind z fun u => op3 pSl d l u)) := by
  unfold gSl
  refine eg_bind h1 fun d F B0 T r s h hs => ?_
  have q2 := h2 F B0 T r h
  unfold M.bind gBind
  revert q2
  cases y F with
  | ok l F1 =>
    rintro ⟨t, T1, e1, ht, t1, x1⟩
    subst ht
    rw [e1]
    have hi := h.ext x1 t1
    dsimp only
    have go : ∀ p, partD (.dat l) = some p → EPost R B0 T (M.bind z (fun u => op3 pSl d l u) F1) (match partD (.dat l) with | some _ => gBind g3 (fun h _ B => liftP (pSl [s, .dat l, h] B)) r (stf F1 B0 T1) | none => .bad) := fun p ep => by
      rw [ep]
      dsimp only
      have q3 := h3 F1 B0 T1 r hi
      unfold M.bind gBind
      revert q3
      cases z F1 with
      | ok u F2 =>
        rintro ⟨t2, T2, e2, ht2, f2, x2⟩
        subst ht2
        rw [e2]
        have q4 := opt_post (F := F2) (o := φ3 pSl d l u) (y := pSl [s, .dat l, .dat u] (stf F2 B0 T2)) gr (hi.ext x2 f2) fun v ev => o _ _ s _ _ d l u v ((x1.trans x2).den hs) (.dat l) (.dat u) ev
        dsimp only
        revert q4
        show EPost R B0 T2 (op3 pSl d l u F2) _ → _
        cases op3 pSl d l u F2 with
        | ok d2 F3 =>
          rintro ⟨s2, T3, e4, hs2, t3, x3⟩
          exact ⟨s2, T3, e4, hs2, t3, x1.trans (x2.trans x3)⟩
        | exc c fs F2 => exact id
        | bad => exact id
      | exc c fs F2 =>
        rintro ⟨T2, e3, t2⟩
        rw [e3]
        exact ⟨T2, rfl, t2⟩
      | bad => exact fun _ => trivial
    unfold parts
    cases l <;> first | trivial | exact go none rfl | exact go (some _) rfl
  | exc c fs F1 =>
    rintro ⟨T1, e1, t1⟩
    rw [e1]
    exact ⟨T1, rfl, t1⟩
  | bad => exact fun _ => trivial
end
end PO

set_option maxRecDepth 100000
set_option maxHeartbeats 4000000
/-! PO, third part: operators and built-ins are as they are told. -/
namespace PO
open PySem L2 PN
section
variable {o : Option MO} {B : Bs} {s : S} {d : D}
theorem ref_at {k : Nat} {ds : List D} (e : B[k]? = some (some (.lst (ds.map .dat)))) : (o :: B)[k + 1]? = some (some (.lst (ds.map .dat))) := e
theorem den_asL (h : Den B s d) : asL (o :: B) s = asL [] (.dat d) := by
  cases h with
  | dat => cases d <;> rfl
  | ref e => simp only [asL, ref_at e]
theorem den_asM (h : Den B s d) : asM (o :: B) s = asM [] (.dat d) := by
  cases h with
  | dat => cases d <;> rfl
  | ref e => simp only [asM, asL, ref_at e]
theorem den_asT (h : Den B s d) : asT s = asT (.dat d) := by
  cases h with
  | dat => rfl
  | ref e => rfl
theorem den_asQ (h : Den B s d) : asQ (o :: B) s = asQ [] (.dat d) := by unfold asQ; rw [den_asL h, den_asT h]
theorem den_len (h : Den B s d) : lenS (o :: B) s = lenS [] (.dat d) := by
  unfold lenS
  rw [den_asL h, den_asT h]
  cases h with
  | dat => rfl
  | ref e => rfl
theorem den_item (h : Den B s d) (i : Int) : itemS (o :: B) s i = itemS [] (.dat d) i := by
  unfold itemS
  rw [den_asL h, den_asT h]
  cases h with
  | dat => rfl
  | ref e => rfl
/-- of the same value, in another store -/
def Moves (f : GP) (ss ts : List S) : Prop := ∀ (B : Bs) (v : D) (B' : Bs), f ts [] = some (.dat v, B') → f ss B = some (.dat v, B)
theorem op1_of {f : GP} (h : ∀ o B s d, Den B s d → ∀ v B', f [.dat d] [] = some (.dat v, B') → f [s] (o :: B) = some (.dat v, o :: B)) : Op1 f := fun o B s d v hs e => by
  unfold φ1 at e
  split at e
  · rename_i e2; cases e; exact h o B s d hs _ _ e2
  · cases e
theorem op2_of {f : GP} (h : ∀ o B s t d e, Den B s d → Den B t e → ∀ v B', f [.dat d, .dat e] [] = some (.dat v, B') → f [s, t] (o :: B) = some (.dat v, o :: B)) : Op2 f := fun o B s t d e v hs ht q => by
  unfold φ2 at q
  split at q
  · rename_i e2; cases q; exact h o B s t d e hs ht _ _ e2
  · cases q
/-- bound results -/
theorem some_bind {α : Type} {x : Option α} {k k' : α → Option (S × Bs)} {v : D} {B' C : Bs} (h : x.bind k = some (.dat v, B')) (q : ∀ a, k a = some (.dat v, B') → k' a = some (.dat v, C)) : x.bind k' = some (.dat v, C) := by
  cases x with
  | none => cases h
  | some a => exact q a h
theorem o1_len : Op1 pLen := op1_of fun o B s d hs v B' e => by
  show (lenS (o :: B) s).bind _ = _
  rw [den_len hs]
  exact some_bind e fun a q => by cases q; rfl
theorem o1_str : Op1 pStr := op1_of fun o B s d hs v B' e => by
  replace e : strS [] (.dat d) = _ := e
  show strS (o :: B) s = _
  cases hs with
  | dat =>
    unfold strS at e ⊢
    split at e
    · split at e
      · rename_i z; rw [if_pos z]; cases e; rfl
      · cases e
    · cases e
  | ref q => cases e
theorem o1_int : Op1 pInt := op1_of fun o B s d hs v B' e => by
  replace e : intS [] (.dat d) = _ := e
  show intS (o :: B) s = _
  cases hs with
  | dat =>
    unfold intS at e ⊢
    split at e
    · cases e; rfl
    · cases e; rfl
    · split at e
      · rename_i z
        rw [if_pos z]
        exact some_bind e fun a q => by cases q; rfl
      · cases e
    · cases e
  | ref q => cases e
theorem o1_abs : Op1 pAbs := op1_of fun o B s d hs v B' e => by
  replace e : absS [] (.dat d) = _ := e
  show absS (o :: B) s = _
  cases hs with
  | dat =>
    unfold absS at e ⊢
    split at e
    · cases e; rfl
    · cases e
  | ref q => cases e
theorem o1_neg : Op1 pNeg := op1_of fun o B s d hs v B' e => by
  cases hs with
  | dat =>
    unfold pNeg at e ⊢
    split at e
    · cases e; rename_i z; cases z; rfl
    · cases e
  | ref q => cases e
theorem o1_tuple : Op1 pTupleOf := op1_of fun o B s d hs v B' e => by
  replace e : tupS [] (.dat d) = _ := e
  show tupS (o :: B) s = _
  cases hs with
  | dat =>
    cases d with
    | tuple ds => cases e; rfl
    | list ds =>
      replace e : ((some (ds.map S.dat)).bind fun ss => (datsOf ss).map fun ds => (S.dat (.tuple ds), ([] : Bs))) = _ := e
      show ((some (ds.map S.dat)).bind fun ss => (datsOf ss).map fun ds => (S.dat (.tuple ds), o :: B)) = _
      rw [Option.bind_some, datsOf_map] at e ⊢
      cases e; rfl
    | _ => cases e
  | @ref k ds q =>
    replace e : ((some (ds.map S.dat)).bind fun ss => (datsOf ss).map fun ds => (S.dat (.tuple ds), ([] : Bs))) = _ := e
    show ((asL (o :: B) (.ref (k + 1))).bind fun ss => (datsOf ss).map fun ds => (S.dat (.tuple ds), o :: B)) = _
    rw [den_asL (.ref q)]
    show ((some (ds.map S.dat)).bind fun ss => (datsOf ss).map fun ds => (S.dat (.tuple ds), o :: B)) = _
    rw [Option.bind_some, datsOf_map] at e ⊢
    cases e; rfl
theorem o1_list : Op1 pListOf := op1_of fun o B s d hs v B' e => by
  replace e : ((asQ [] (.dat d)).bind fun ss => (datsOf ss).map fun ds => (S.dat (.list ds), ([] : Bs))) = _ := e
  show ((asQ (o :: B) s).bind fun ss => (datsOf ss).map fun ds => (S.dat (.list ds), o :: B)) = _
  rw [den_asQ hs]
  refine some_bind e fun a q => ?_
  cases h : datsOf a with
  | none => rw [h] at q; cases q
  | some ds => rw [h] at q; cases q; rfl
theorem o1_sum : Op1 pSum := op1_of fun o B s d hs v B' e => by
  replace e : ((asL [] (.dat d)).bind fun ss => (intsOf ss).bind fun ns => int' ns.sum []) = _ := e
  show ((asL (o :: B) s).bind fun ss => (intsOf ss).bind fun ns => int' ns.sum (o :: B)) = _
  rw [den_asL hs]
  exact some_bind e fun a q => some_bind q fun b z => by cases z; rfl
theorem o1_all : Op1 pAll := op1_of fun o B s d hs v B' e => by
  replace e : ((asL [] (.dat d)).bind fun ss => (boolsOf ss).bind fun bs => bool' (bs.all id) []) = _ := e
  show ((asL (o :: B) s).bind fun ss => (boolsOf ss).bind fun bs => bool' (bs.all id) (o :: B)) = _
  rw [den_asL hs]
  exact some_bind e fun a q => some_bind q fun b z => by cases z; rfl
theorem o1_any : Op1 pAny := op1_of fun o B s d hs v B' e => by
  replace e : ((asL [] (.dat d)).bind fun ss => (boolsOf ss).bind fun bs => bool' (bs.any id) []) = _ := e
  show ((asL (o :: B) s).bind fun ss => (boolsOf ss).bind fun bs => bool' (bs.any id) (o :: B)) = _
  rw [den_asL hs]
  exact some_bind e fun a q => some_bind q fun b z => by cases z; rfl
theorem o1_repr : Op1 pRepr := op1_of fun o B s d hs v B' e => by
  replace e : ((some d).bind fun d => if d.showable = true ∧ d.shown.length ≤ sizeLine ∧ d.depth ≤ 64 ∧ d.hasDict = false then str' d.shown [] else none) = _ := e
  show ((valD (o :: B) s).bind fun d => if d.showable = true ∧ d.shown.length ≤ sizeLine ∧ d.depth ≤ 64 ∧ d.hasDict = false then str' d.shown (o :: B) else none) = _
  rw [den_val hs]
  refine some_bind e fun a q => ?_
  split at q
  · rename_i z; rw [if_pos z]; cases q; rfl
  · cases q
theorem o1_sorted : Op1 pSorted := op1_of fun o B s d hs v B' e => by
  replace e : sortedS [] (.dat d) = _ := e
  show sortedS (o :: B) s = _
  unfold sortedS at e ⊢
  rw [den_asL hs]
  refine some_bind e fun a q => some_bind q fun b z => ?_
  split at z
  · rename_i y; rw [if_pos y]; cases z; rfl
  · cases z
theorem o1_sortSet : Op1 pSortSet := op1_of fun o B s d hs v B' e => by
  replace e : sortSetS [] (.dat d) = _ := e
  show sortSetS (o :: B) s = _
  unfold sortSetS at e ⊢
  rw [den_asL hs]
  refine some_bind e fun a q => some_bind q fun b z => ?_
  split at z
  · rename_i y; rw [if_pos y]; cases z; rfl
  · cases z
theorem o1_dict : Op1 pDict := op1_of fun o B s d hs v B' e => by
  replace e : dictS [] (.dat d) = _ := e
  show dictS (o :: B) s = _
  unfold dictS at e ⊢
  rw [den_asL hs]
  exact some_bind e fun a q => some_bind q fun b z => some_bind z fun r y => by cases y; rfl
theorem o2_ixD : Op2 pIxD := op2_of fun o B s t d e hs ht v B' q => by
  replace q : ixDS [] d (.dat e) = _ := q
  cases hs with
  | dat =>
    show ixDS (o :: B) d t = _
    unfold ixDS at q ⊢
    rw [den_val ht]
    exact some_bind q fun a z => some_bind z fun r y => by cases y; rfl
  | ref h =>
    unfold ixDS at q
    cases q
theorem o2_valD {f : GP} {k : D → D → Option Bool} {h : Bool → Bool} (hf : ∀ s t B, f [s, t] B = (valD B s).bind fun d => (valD B t).bind fun e => (k d e).bind fun b => bool' (h b) B) : Op2 f := op2_of fun o B s t d e hs ht v B' q => by
  rw [hf] at q ⊢
  rw [den_val hs, den_val ht]
  replace q : ((some d).bind fun d => (some e).bind fun e => (k d e).bind fun b => bool' (h b) []) = _ := q
  exact some_bind q fun a q => some_bind q fun b q => some_bind q fun c z => by cases z; rfl
theorem o2_eq : Op2 pEq := o2_valD (k := eqD) (h := id) fun _ _ _ => rfl
theorem o2_ne : Op2 pNe := o2_valD (k := eqD) (h := fun b => !b) fun _ _ _ => rfl
theorem o2_in : Op2 pIn := o2_valD (k := inD) (h := id) fun _ _ _ => rfl
theorem o2_notIn : Op2 pNotIn := o2_valD (k := inD) (h := fun b => !b) fun _ _ _ => rfl
theorem o2_lt : Op2 pLt := o2_valD (k := cmpD ltS fun m n => decide (m < n)) (h := id) fun _ _ _ => rfl
theorem o2_le : Op2 pLe := o2_valD (k := cmpD leS fun m n => decide (m ≤ n)) (h := id) fun _ _ _ => rfl
theorem o2_gt : Op2 pGt := o2_valD (k := cmpD (fun d e => ltS e d) fun m n => decide (n < m)) (h := id) fun _ _ _ => rfl
theorem o2_ge : Op2 pGe := o2_valD (k := cmpD (fun d e => leS e d) fun m n => decide (n ≤ m)) (h := id) fun _ _ _ => rfl
theorem o2_isN : Op2 pIsN := op2_of fun o B s t d e hs ht v B' q => by
  cases ht with
  | dat =>
    cases e with
    | none =>
      replace q : bool' (isNon (.dat d)) [] = _ := q
      show bool' (isNon s) (o :: B) = _
      cases hs with
      | dat => cases q; rfl
      | ref z => cases q; rfl
    | _ => cases q
  | ref z => cases q
theorem o2_notN : Op2 pNotN := op2_of fun o B s t d e hs ht v B' q => by
  cases ht with
  | dat =>
    cases e with
    | none =>
      replace q : bool' (!isNon (.dat d)) [] = _ := q
      show bool' (!isNon s) (o :: B) = _
      cases hs with
      | dat => cases q; rfl
      | ref z => cases q; rfl
    | _ => cases q
  | ref z => cases q
/-- of two ints -/
theorem o2_ints {f : GP} (h : ∀ s t B x, f [s, t] B = some x → (∃ i, s = .dat (.int i)) ∧ ∃ j, t = .dat (.int j)) (m : ∀ i j B v B', f [.dat (.int i), .dat (.int j)] [] = some (.dat v, B') → f [.dat (.int i), .dat (.int j)] B = some (.dat v, B)) : Op2 f := op2_of fun o B s t d e hs ht v B' q => by
  obtain ⟨⟨i, e1⟩, j, e2⟩ := h _ _ _ _ q
  cases e1
  cases e2
  cases hs
  cases ht
  exact m i j _ _ _ q
theorem o2_sub : Op2 pSub := o2_ints (fun s t B x q => by
  unfold pSub at q
  split at q
  · rename_i z; cases z; exact ⟨⟨_, rfl⟩, _, rfl⟩
  · cases q) fun i j B v B' q => by cases q; rfl
theorem o2_fdiv : Op2 pFdiv := o2_ints (fun s t B x q => by
  unfold pFdiv at q
  split at q
  · rename_i z; cases z; exact ⟨⟨_, rfl⟩, _, rfl⟩
  · cases q) fun i j B v B' q => by
    replace q : (if 0 < j ∧ j < 1073741824 then int' (i / j) [] else none) = _ := q
    show (if 0 < j ∧ j < 1073741824 then int' (i / j) B else none) = _
    split at q
    · rename_i z; rw [if_pos z]; cases q; rfl
    · cases q
theorem o2_mod : Op2 pMod := o2_ints (fun s t B x q => by
  unfold pMod at q
  split at q
  · rename_i z; cases z; exact ⟨⟨_, rfl⟩, _, rfl⟩
  · cases q) fun i j B v B' q => by
    replace q : (if 0 < j then int' (i % j) [] else none) = _ := q
    show (if 0 < j then int' (i % j) B else none) = _
    split at q
    · rename_i z; rw [if_pos z]; cases q; rfl
    · cases q
theorem o2_mul : Op2 pMul := o2_ints (fun s t B x q => by
  unfold pMul at q
  split at q
  · rename_i z; cases z; exact ⟨⟨_, rfl⟩, _, rfl⟩
  · cases q) fun i j B v B' q => by
    replace q : (if (-(2 ^ 64) < i ∧ i < 2 ^ 64) ∨ (-(2 ^ 64) < j ∧ j < 2 ^ 64) then int' (i * j) [] else none) = _ := q
    show (if (-(2 ^ 64) < i ∧ i < 2 ^ 64) ∨ (-(2 ^ 64) < j ∧ j < 2 ^ 64) then int' (i * j) B else none) = _
    split at q
    · rename_i z; rw [if_pos z]; cases q; rfl
    · cases q
theorem o2_pow : Op2 pPow := o2_ints (fun s t B x q => by
  unfold pPow at q
  split at q
  · rename_i z; cases z; exact ⟨⟨_, rfl⟩, _, rfl⟩
  · cases q) fun i j B v B' q => by
    replace q : (if 0 ≤ j ∧ j ≤ 1000000 ∧ i.natAbs < 2 ^ 64 then int' (i ^ j.toNat) [] else none) = _ := q
    show (if 0 ≤ j ∧ j ≤ 1000000 ∧ i.natAbs < 2 ^ 64 then int' (i ^ j.toNat) B else none) = _
    split at q
    · rename_i z; rw [if_pos z]; cases q; rfl
    · cases q
theorem o2_min : Op2 pMin2 := o2_ints (fun s t B x q => by
  have q : minS B s t = some x := q
  unfold minS at q
  split at q
  · exact ⟨⟨_, rfl⟩, _, rfl⟩
  · cases q) fun i j B v B' q => by cases q; rfl
theorem o2_max : Op2 pMax2 := o2_ints (fun s t B x q => by
  have q : maxS B s t = some x := q
  unfold maxS at q
  split at q
  · exact ⟨⟨_, rfl⟩, _, rfl⟩
  · cases q) fun i j B v B' q => by cases q; rfl
theorem o2_ix : Op2 pIx := op2_of fun o B s t d e hs ht v B' q => by
  cases ht with
  | dat =>
    cases e with
    | int i =>
      replace q : (itemS [] (.dat d) i).map (fun t => (t, ([] : Bs))) = _ := q
      show (itemS (o :: B) s i).map (fun t => (t, o :: B)) = _
      rw [den_item hs]
      cases h : itemS [] (.dat d) i with
      | none => rw [h] at q; cases q
      | some x => rw [h] at q; cases q; rfl
    | _ => cases q
  | ref z => cases q
theorem add_lists {o : Option MO} {B : Bs} {xs ys : Option (List S)} {v : D} {B' : Bs} (q : (xs.bind fun xs => ys.bind fun ys => (datsOf (xs ++ ys)).bind fun ds => if xs.length + ys.length ≤ sizeLine then some (S.dat (.list ds), ([] : Bs)) else none) = some (.dat v, B')) :
    (xs.bind fun xs => ys.bind fun ys => (datsOf (xs ++ ys)).bind fun ds => if xs.length + ys.length ≤ sizeLine then some (S.dat (.list ds), o :: B) else none) = some (.dat v, o :: B) :=
  some_bind q fun a q => some_bind q fun b q => some_bind q fun c z => by
    split at z
    · rename_i y; rw [if_pos y]; cases z; rfl
    · cases z
theorem o2_add : Op2 pAdd := op2_of fun o B s t d e hs ht v B' q => by
  replace q : addS [] (.dat d) (.dat e) = _ := q
  show addS (o :: B) s t = _
  have lists : ((asM [] (.dat d)).bind fun xs => (asM [] (.dat e)).bind fun ys => (datsOf (xs ++ ys)).bind fun ds => if xs.length + ys.length ≤ sizeLine then some (S.dat (.list ds), ([] : Bs)) else none) = some (.dat v, B') →
      ((asM (o :: B) s).bind fun xs => (asM (o :: B) t).bind fun ys => (datsOf (xs ++ ys)).bind fun ds => if xs.length + ys.length ≤ sizeLine then some (S.dat (.list ds), o :: B) else none) = some (.dat v, o :: B) := fun q => by
    rw [den_asM hs, den_asM ht]
    exact add_lists q
  cases hs with
  | dat =>
    cases ht with
    | dat =>
      cases d <;> cases e <;> first | exact lists q | skip
      · cases q; rfl
      · rename_i x y
        replace q : (if x.length + y.length ≤ sizeLine then str' (x ++ y) [] else none) = _ := q
        show (if x.length + y.length ≤ sizeLine then str' (x ++ y) (o :: B) else none) = _
        split at q
        · rename_i z; rw [if_pos z]; cases q; rfl
        · cases q
      · rename_i x y
        replace q : (if x.length + y.length ≤ sizeLine then some (S.dat (.tuple (x ++ y)), ([] : Bs)) else none) = _ := q
        show (if x.length + y.length ≤ sizeLine then some (S.dat (.tuple (x ++ y)), o :: B) else none) = _
        split at q
        · rename_i z; rw [if_pos z]; cases q; rfl
        · cases q
    | ref z =>
      cases d <;> exact lists q
  | ref z =>
    cases ht with
    | dat => cases e <;> exact lists q
    | ref y => exact lists q
theorem o2_split : Op2 pSplit := op2_of fun o B s t d e hs ht v B' q => by
  replace q : splitS [] (.dat d) (.dat e) = _ := q
  show splitS (o :: B) s t = _
  unfold splitS at q
  split at q
  · rename_i a b ea eb
    cases ea; cases eb
    cases hs; cases ht
    show (if (b.length == 0) = false ∧ a.length + 2 ≤ sizeLine then some (S.dat (.list ((Txt.split a b).map .str)), o :: B) else none) = _
    split at q
    · rename_i z; rw [if_pos z]; cases q; rfl
    · cases q
  · cases q
theorem o2_partition : Op2 pPartition := op2_of fun o B s t d e hs ht v B' q => by
  replace q : partS [] (.dat d) (.dat e) = _ := q
  show partS (o :: B) s t = _
  unfold partS at q
  split at q
  · rename_i a b ea eb
    cases ea; cases eb
    cases hs; cases ht
    show (if (b.length == 0) = false ∧ a.length ≤ sizeLine then some (S.dat (.tuple [.str (Txt.partition a b).1, .str (Txt.partition a b).2.1, .str (Txt.partition a b).2.2]), o :: B) else none) = _
    split at q
    · rename_i z; rw [if_pos z]; cases q; rfl
    · cases q
  · cases q
theorem o2_join : Op2 pJoin := op2_of fun o B s t d e hs ht v B' q => by
  replace q : joinS [] (.dat d) (.dat e) = _ := q
  show joinS (o :: B) s t = _
  unfold joinS at q
  split at q
  · rename_i a ea
    cases ea
    cases hs
    show ((asQ (o :: B) t).bind fun ss => (strsOf ss).bind fun ys => if (ys.map (·.length)).sum + ys.length * a.length ≤ 16777216 then str' (Txt.join a ys) (o :: B) else none) = _
    rw [den_asQ ht]
    refine some_bind q fun b q => some_bind q fun c z => ?_
    split at z
    · rename_i y; rw [if_pos y]; cases z; rfl
    · cases z
  · cases q
theorem o3_sl : Op3 pSl := fun o B s t u d e w v hs ht hu q => by
  unfold φ3 at q
  split at q
  · rename_i x C q2
    cases q
    have pt : partD t = partD (.dat e) := by cases ht <;> rfl
    have pu : partD u = partD (.dat w) := by cases hu <;> rfl
    have q2 : ((partD (.dat e)).bind fun lo => (partD (.dat w)).bind fun hi => slV [] (.dat d) lo hi) = _ := q2
    show ((partD t).bind fun lo => (partD u).bind fun hi => slV (o :: B) s lo hi) = _
    rw [pt, pu]
    refine some_bind q2 fun lo q => some_bind q fun hi q => ?_
    have lists : ((asL [] (.dat d)).bind fun ss => (datsOf (cutL ss lo hi)).map fun ds => (S.dat (.list ds), ([] : Bs))) = some (.dat v, C) → ((asL (o :: B) s).bind fun ss => (datsOf (cutL ss lo hi)).map fun ds => (S.dat (.list ds), o :: B)) = some (.dat v, o :: B) := fun q => by
      rw [den_asL hs]
      refine some_bind q fun a q => ?_
      cases h : datsOf (cutL a lo hi) with
      | none => rw [h] at q; cases q
      | some x => rw [h] at q; cases q; rfl
    cases hs with
    | dat =>
      cases d with
      | tuple ds => cases q; rfl
      | str x =>
        replace q : (if x.length ≤ sizeLine then str' (cutS x lo hi) [] else none) = _ := q
        show (if x.length ≤ sizeLine then str' (cutS x lo hi) (o :: B) else none) = _
        split at q
        · rename_i z; rw [if_pos z]; cases q; rfl
        · cases q
      | _ => exact lists q
    | ref z => exact lists q
  · cases q
end
end PO

set_option maxRecDepth 100000
set_option maxHeartbeats 4000000
/-! PO, fourth part: calls, displays, methods, what is walked, comprehensions. -/
namespace PO
open PySem L2 PN
/-! ### arguments -/
def ArgsOk (B : Bs) : List Sl → List S → Prop := Paired fun l s => SlOk B [] l (some s)
/-- y is what x tells: a value by Q -/
def XPost {α : Type} (Q : α → Fd → Bs → Bs → Re → Prop) (B0 T : Bs) : Ro α → Re → Prop
  | .ok d F, y => Q d F B0 T y
  | .exc c fs F, y => ∃ T', y = .exc c (dfs fs) (stf F B0 T') ∧ Flat T'
  | .bad, _ => True
/-- data -/
def QD : D → Fd → Bs → Bs → Re → Prop := fun d F B0 T y => ∃ T', y = .ok (.dat d) (stf F B0 T') ∧ Flat T' ∧ Ext T T'
/-- a list of its own, new -/
def QK : List D → Fd → Bs → Bs → Re → Prop := fun ds F B0 T y => ∃ j T', y = .ok (.ref (B0.length + j + 1)) (stf F B0 T') ∧ Flat T' ∧ Ext T T' ∧ T.length ≤ j ∧ T'[j]? = some (some (.lst (ds.map .dat)))
def Mono {α : Type} (Q : α → Fd → Bs → Bs → Re → Prop) : Prop := ∀ a F B0 T T' y, Ext T T' → Q a F B0 T' y → Q a F B0 T y
theorem mono_d : Mono QD := fun a F B0 T T' y h q => by
  obtain ⟨T2, e, t, x⟩ := q
  exact ⟨T2, e, t, h.trans x⟩
theorem mono_k : Mono QK := fun a F B0 T T' y h q => by
  obtain ⟨j, T2, e, t, x, l, g⟩ := q
  exact ⟨j, T2, e, t, h.trans x, Nat.le_trans h.len l, g⟩
theorem post_d {B0 T : Bs} {x : Ro D} {y : Re} : XPost QD B0 T x y ↔ EPost isDat B0 T x y := by
  cases x with
  | ok d F => exact ⟨fun ⟨T', e, t, q⟩ => ⟨_, T', e, rfl, t, q⟩, fun ⟨s, T', e, hs, t, q⟩ => ⟨T', by rw [e, show s = .dat d from hs], t, q⟩⟩
  | exc c fs F => exact Iff.rfl
  | bad => exact Iff.rfl
/-- m makes of such arguments what x tells -/
def EvX {α : Type} (Q : α → Fd → Bs → Bs → Re → Prop) (m : GF) (ps : List Sl) (x : M α) : Prop := ∀ (F : Fd) (B T : Bs) (ss : List S), Flat B → Flat T → ArgsOk (B ++ T) ps ss → XPost Q B T (x F) (m ss (stf F B T))
abbrev EvA := EvX QD
abbrev EvK := EvX QK
def kontA (m : GF) (ss : List S) : Ra → Re
  | .ok ss2 B => m (ss ++ ss2) B
  | .exc c fs B => .exc c fs B
  | .bad => .bad
def EK {α : Type} (Q : α → Fd → Bs → Bs → Re → Prop) (L : List Sl) (ga : GA) (m : GF) (pre : List Sl) (x : M α) : Prop := ∀ (F : Fd) (B0 T : Bs) (r : En) (ss : List S), In L B0 T r → ArgsOk (B0 ++ T) pre ss → XPost Q B0 T (x F) (kontA m ss (ga r (stf F B0 T)))
section
variable {α : Type} {Q : α → Fd → Bs → Bs → Re → Prop} {L : List Sl} {g g1 g2 : GE} {ga gr : GA} {x y : M D} {z : M α} {m : GF} {ps pre : List Sl} {n i j : Nat} {f : GP} {d e : D}
theorem SlOk.extB {B0 T T' : Bs} {l : Sl} {o : Option S} (h : Ext T T') (k : SlOk (B0 ++ T) [] l o) : SlOk (B0 ++ T') [] l o := by
  cases l with
  | bor d =>
    obtain ⟨s, e, q⟩ := k
    exact ⟨s, e, h.den q⟩
  | own j ds => exact absurd k.2 (by simp)
  | _ => exact k
theorem ArgsOk.ext {B0 T T' : Bs} {ps : List Sl} {ss : List S} (h : Ext T T') (k : ArgsOk (B0 ++ T) ps ss) : ArgsOk (B0 ++ T') ps ss := paired_mono (fun _ _ q => q.extB h) k
theorem EvX.congr {z' : M α} (h : EvX Q m ps z) (e : z = z') : EvX Q m ps z' := e ▸ h
theorem k_nil (h : EvX Q m pre z) : EK Q L PN.gNil m pre z := fun F B0 T r ss hi ha => by
  show XPost Q B0 T (z F) (m (ss ++ []) (stf F B0 T))
  rw [List.append_nil]
  exact h F B0 T ss hi.b hi.t ha
def kontE (y : Re) (w : S → Bs → Re) : Re := match y with
  | .ok s B => w s B
  | .exc c fs B => .exc c fs B
  | .bad => .bad
theorem x_bind {R : Bs → S → D → Prop} {B0 T : Bs} {x : M D} {k : D → M α} {F : Fd} {y : Re} (mo : Mono Q) {w : S → Bs → Re} (hx : EPost R B0 T (x F) y) (h : ∀ d F1 s T1, R (B0 ++ T1) s d → Flat T1 → Ext T T1 → XPost Q B0 T1 (k d F1) (w s (stf F1 B0 T1))) :
    XPost Q B0 T (M.bind x k F) (kontE y w) := by
  unfold M.bind kontE
  revert hx
  cases x F with
  | ok d F1 =>
    rintro ⟨s, T1, e1, hs, t1, x1⟩
    rw [e1]
    have q := h d F1 s T1 hs t1 x1
    revert q
    dsimp only
    cases k d F1 with
    | ok a F2 => exact fun q => mo _ _ _ _ _ _ x1 q
    | exc c fs F2 => exact id
    | bad => exact id
  | exc c fs F1 =>
    rintro ⟨T1, e1, t1⟩
    rw [e1]
    exact ⟨T1, rfl, t1⟩
  | bad => exact fun _ => trivial
theorem kont_cons {s : S} {ss : List S} {r : En} {F : Fd} {B0 T : Bs} : kontA m ss (aBindA gr (fun ss _ B => .ok (s :: ss) B) r (stf F B0 T)) = kontA m (ss ++ [s]) (gr r (stf F B0 T)) := by
  unfold aBindA
  cases gr r (stf F B0 T) with
  | ok ss2 B2 =>
    show m (ss ++ s :: ss2) B2 = m (ss ++ [s] ++ ss2) B2
    rw [List.append_assoc]
    rfl
  | exc c fs B2 => rfl
  | bad => rfl
theorem k_cons' (mo : Mono Q) {R : Bs → S → D → Prop} {l : D → Sl} {k : D → M α} (hl : ∀ B s d, R B s d → SlOk B [] (l d) (some s)) (h1 : EG R L g x) (h2 : ∀ d, EK Q L gr m (pre ++ [l d]) (k d)) : EK Q L (PN.gCons g gr) m pre (M.bind x k) := fun F B0 T r ss hi ha => by
  have q := x_bind mo (k := k) (w := fun s B => kontA m ss (aBindA gr (fun ss _ B => .ok (s :: ss) B) r B)) (h1 F B0 T r hi) fun d F1 s T1 hs t1 x1 => by
    rw [kont_cons]
    exact h2 d F1 B0 T1 r (ss ++ [s]) (hi.ext x1 t1) (paired_app (ha.ext x1) (.cons (hl _ _ _ hs) .nil))
  unfold PN.gCons aBind
  unfold kontE at q
  revert q
  cases g r (stf F B0 T) <;> exact id
theorem k_cons (mo : Mono Q) {k : D → M α} (h1 : EE L g x) (h2 : ∀ d, EK Q L gr m (pre ++ [.dat d]) (k d)) : EK Q L (PN.gCons g gr) m pre (M.bind x k) := k_cons' mo (l := .dat) (fun _ _ _ h => congrArg some h) h1 h2
theorem k_consB (mo : Mono Q) {k : D → M α} (h1 : EV L g x) (h2 : ∀ d, EK Q L gr m (pre ++ [.bor d]) (k d)) : EK Q L (PN.gCons g gr) m pre (M.bind x k) := k_cons' mo (l := .bor) (fun _ s _ h => ⟨s, rfl, h⟩) h1 h2
/-- an argument of which nothing is computed -/
theorem k_const {l : Sl} (h1 : ∀ F B0 T r, In L B0 T r → ∃ s, g r (stf F B0 T) = .ok s (stf F B0 T) ∧ SlOk (B0 ++ T) [] l (some s)) (h2 : EK Q L gr m (pre ++ [l]) z) : EK Q L (PN.gCons g gr) m pre z := fun F B0 T r ss hi ha => by
  obtain ⟨s, e1, hs⟩ := h1 F B0 T r hi
  have q2 := h2 F B0 T r (ss ++ [s]) hi (paired_app ha (.cons hs .nil))
  have e2 : kontA m ss (PN.gCons g gr r (stf F B0 T)) = kontA m (ss ++ [s]) (gr r (stf F B0 T)) := by
    unfold PN.gCons aBind
    rw [e1]
    exact kont_cons
  rw [e2]
  exact q2
theorem k_fd (e : L[i]? = some .fd) (h : EK Q L gr m (pre ++ [.fd]) z) : EK Q L (PN.gCons (gVar i) gr) m pre z := k_const (l := .fd) (fun F B0 T r hi => ⟨.ref 0, by unfold gVar; rw [hi.a.fd e], rfl⟩) h
theorem k_fnV {w : Str} (e : L[i]? = some (.fn w)) (h : EK Q L gr m (pre ++ [.fn w]) z) : EK Q L (PN.gCons (gVar i) gr) m pre z := k_const (l := .fn w) (fun F B0 T r hi => ⟨.fn w, by unfold gVar; rw [hi.a.fn e], rfl⟩) h
theorem k_fn {w : Str} (h : EK Q L gr m (pre ++ [.fn w]) z) : EK Q L (PN.gCons (gC (.fn w)) gr) m pre z := k_const (l := .fn w) (fun F B0 T r hi => ⟨.fn w, rfl, rfl⟩) h
theorem e_pn (h : EK QD L ga (fun ss B => liftP (f ss B)) [] x) : EE L (gPN f ga) x := fun F B0 T r hi => by
  refine post_d.mp ?_
  have q := h F B0 T r [] hi .nil
  unfold gPN gBindA
  revert q
  cases ga r (stf F B0 T) <;> exact id
theorem x_call (h : EK Q L ga (fun ss B => if ss.length = n then m ss B else .bad) [] z) (F : Fd) (B0 T : Bs) (r : En) (hi : In L B0 T r) : XPost Q B0 T (z F) (gCall n m ga r (stf F B0 T)) := by
  have q := h F B0 T r [] hi .nil
  unfold gCall gBindA
  revert q
  cases ga r (stf F B0 T) <;> exact id
theorem e_call (h : EK QD L ga (fun ss B => if ss.length = n then m ss B else .bad) [] x) : EE L (gCall n m ga) x := fun F B0 T r hi => post_d.mp (x_call h F B0 T r hi)
theorem ea_n (h : EvX Q m ps z) (hn : ps.length = n) : EvX Q (fun ss B => if ss.length = n then m ss B else .bad) ps z := fun F B T ss hB hT ha => by
  have q := h F B T ss hB hT ha
  have e : ss.length = n := by rw [← paired_len ha]; exact hn
  dsimp only
  rw [if_pos e]
  exact q
theorem ea_opt {o : Option D} {f : List S → Bs → Option (S × Bs)} (h : ∀ F B ss v, ArgsOk B ps ss → o = some v → f ss (fdo F :: B) = some (.dat v, fdo F :: B)) : EvA (fun ss B => liftP (f ss B)) ps (M.opt o) := fun F B T ss hB hT ha => by
  cases o with
  | none => trivial
  | some v =>
    show QD v F B T (liftP (f ss (stf F B T)))
    rw [h F (B ++ T) ss v ha rfl]
    exact ⟨T, rfl, hT, Ext.refl T⟩
theorem ea_1 (o : Op1 f) : EvA (fun ss B => liftP (f ss B)) [.bor d] (op1 f d) := ea_opt fun F B ss v ha e => by
  cases ha with
  | cons h1 h2 =>
    cases h2
    obtain ⟨s, e1, h⟩ := h1
    cases e1
    exact o _ _ _ _ _ h e
theorem ea_2 (o : Op2 f) : EvA (fun ss B => liftP (f ss B)) [.bor d, .bor e] (op2 f d e) := ea_opt fun F B ss v ha q => by
  cases ha with
  | cons h1 h2 =>
    cases h2 with
    | cons h2 h3 =>
      cases h3
      obtain ⟨s, e1, h⟩ := h1
      obtain ⟨t, e2, h'⟩ := h2
      cases e1
      cases e2
      exact o _ _ _ _ _ _ _ h h' q
theorem args_dats {B : Bs} : ∀ {ds : List D} {ss : List S}, ArgsOk B (ds.map .dat) ss → ss = ds.map .dat
  | [], _, h => by cases h; rfl
  | d :: ds, _, h => by
    cases h with
    | cons h1 h2 =>
      have h1 : some _ = some (S.dat d) := h1
      cases h1
      rw [args_dats h2]
      rfl
theorem ea_tup (ds : List D) (h : ds.length ≤ 1000) : EvA (fun ss B => liftP (pTup ss B)) (ds.map .dat) (M.ok (.tuple ds)) := ea_opt (o := some (.tuple ds)) fun F B ss v ha e => by
  cases e
  rw [args_dats ha]
  exact p_tup (sz_small h)
theorem ea_lst (ds : List D) (h : ds.length ≤ 1000) : EvA (fun ss B => liftP (pLst ss B)) (ds.map .dat) (M.ok (.list ds)) := ea_opt (o := some (.list ds)) fun F B ss v ha e => by
  cases e
  rw [args_dats ha]
  exact p_lst (sz_small h)
/-- a list that will change -/
theorem ek_lst (ds : List D) (h : ds.length ≤ 1000) : EvK (fun ss B => liftP (pLstA ss B)) (ds.map .dat) (M.ok ds) := fun F B T ss hB hT ha => by
  rw [args_dats ha]
  refine ⟨T.length, T ++ [some (.lst (ds.map .dat))], ?_, hT.app (Flat.nil.cons (flat_lst ds)), Ext.app T _, Nat.le_refl _, by simp⟩
  unfold pLstA
  dsimp only
  rw [if_pos (by rw [List.length_map]; exact sz_small h)]
  show Re.ok (.ref (stf F B T).length) (stf F B T ++ [some (.lst (ds.map .dat))]) = _
  rw [show (stf F B T).length = B.length + T.length + 1 by show (B ++ T).length + 1 = _; rw [List.length_append]]
  show Re.ok _ (fdo F :: ((B ++ T) ++ [some (.lst (ds.map .dat))])) = _
  rw [List.append_assoc]
def qM : D → M (List D)
  | .list ds => M.ok ds
  | .tuple ds => M.ok ds
  | _ => M.bad
theorem ek_listOf : EvK (fun ss B => liftP (pListOfA ss B)) [.bor d] (qM d) := fun F B T ss hB hT ha => by
  cases ha with
  | cons h1 h2 =>
    cases h2
    rename_i s
    obtain ⟨s', e1, h⟩ := h1
    cases e1
    have go : ∀ ds, asQ [] (.dat d) = some (ds.map .dat) → QK ds F B T (liftP (pListOfA [s] (stf F B T))) := fun ds e => by
      refine ⟨T.length, T ++ [some (.lst (ds.map .dat))], ?_, hT.app (Flat.nil.cons (flat_lst ds)), Ext.app T _, Nat.le_refl _, by simp⟩
      show liftP ((asQ (fdo F :: (B ++ T)) s).bind fun ss => some (S.ref (stf F B T).length, stf F B T ++ [some (MO.lst ss)])) = _
      rw [den_asQ h, e, show (stf F B T).length = B.length + T.length + 1 by show (B ++ T).length + 1 = _; rw [List.length_append]]
      show Re.ok _ (fdo F :: ((B ++ T) ++ [some (.lst (ds.map .dat))])) = _
      rw [List.append_assoc]
    cases d with
    | list ds => exact go ds rfl
    | tuple ds => exact go ds rfl
    | _ => trivial
/-- a list from an expression -/
def EO (L : List Sl) (g : GE) (z : M (List D)) : Prop := ∀ (F : Fd) (B0 T : Bs) (r : En), In L B0 T r → XPost QK B0 T (z F) (g r (stf F B0 T))
theorem o_pn {z : M (List D)} (h : EK QK L ga (fun ss B => liftP (f ss B)) [] z) : EO L (gPN f ga) z := fun F B0 T r hi => by
  have q := h F B0 T r [] hi .nil
  unfold gPN gBindA
  revert q
  cases ga r (stf F B0 T) <;> exact id
theorem o_call {z : M (List D)} (h : EK QK L ga (fun ss B => if ss.length = n then m ss B else .bad) [] z) : EO L (gCall n m ga) z := fun F B0 T r hi => x_call h F B0 T r hi
/-- a new list, read -/
theorem v_ownof {z : M (List D)} (h : EO L g z) : EV L g (M.bind z fun ds => M.ok (.list ds)) := fun F B0 T r hi => by
  have q := h F B0 T r hi
  unfold M.bind
  revert q
  cases z F with
  | ok ds F1 =>
    rintro ⟨j, T', e, t, x, l, gt⟩
    refine ⟨.ref (B0.length + j + 1), T', e, .ref ?_, t, x⟩
    rw [List.getElem?_append_right (Nat.le_add_right _ _), Nat.add_sub_cancel_left]
    exact gt
  | exc c fs F1 => exact id
  | bad => exact id
/-! ### methods that read -/
def kd (k : Bool) (d : D) (x : M D) : M D := match k, d with
  | true, .str _ => x
  | false, .list _ => x
  | _, _ => M.bad
theorem e_mt {k : Bool} {z : D → M D} (h1 : EV L g x) (h2 : ∀ d, EK QD L ga (fun ss B => liftP (f ss B)) [.bor d] (z d)) : EE L (gMt k f g ga) (M.bind x fun d => kd k d (z d)) := by
  unfold gMt
  refine eg_bind h1 fun d F B0 T r s hi hs => ?_
  have go : isK k (stf F B0 T) s = true → EPost isDat B0 T (z d F) ((if isK k (stf F B0 T) s = true then gBindA ga (fun ss _ B2 => liftP (f (s :: ss) B2)) r (stf F B0 T) else .bad)) := fun q => by
    rw [if_pos q]
    have q2 := post_d.mp (h2 d F B0 T r [s] hi (.cons ⟨s, rfl, hs⟩ .nil))
    unfold gBindA
    revert q2
    cases ga r (stf F B0 T) <;> exact id
  unfold kd
  cases k with
  | true =>
    cases d with
    | str y =>
      cases hs
      exact go rfl
    | _ => trivial
  | false =>
    cases d with
    | list ds =>
      refine go ?_
      show (asL (fdo F :: (B0 ++ T)) s).isSome = true
      rw [den_asL hs]
      rfl
    | _ => trivial
/-! ### targets -/
def TG (L : List Sl) (t : GT) (d : D) (L1 : List Sl) : Prop := ∀ (B0 T : Bs) (r : En), At L B0 T r → ∃ r1, t (.dat d) r = some r1 ∧ At L1 B0 T r1
def TGs (L : List Sl) (t : GTs) (ds : List D) (L1 : List Sl) : Prop := ∀ (B0 T : Bs) (r : En), At L B0 T r → ∃ r1, t (ds.map .dat) r = some r1 ∧ At L1 B0 T r1
theorem tg_name : TG L (tName i) d (L.set i (.dat d)) := fun B0 T r h => ⟨_, rfl, h.set i d⟩
theorem tgs_nil : TGs L tsNil [] L := fun B0 T r h => ⟨r, rfl, h⟩
theorem tgs_cons {t : GT} {u : GTs} {ds : List D} {L1 L2 : List Sl} (h1 : TG L t d L1) (h2 : TGs L1 u ds L2) : TGs L (tsCons t u) (d :: ds) L2 := fun B0 T r h => by
  obtain ⟨r1, e1, a1⟩ := h1 B0 T r h
  obtain ⟨r2, e2, a2⟩ := h2 B0 T r1 a1
  refine ⟨r2, ?_, a2⟩
  show (match t (.dat d) r with | some r1 => u (ds.map .dat) r1 | none => none) = some r2
  rw [e1]
  exact e2
theorem tg_tup {u : GTs} {ds : List D} {L1 : List Sl} (h : TGs L u ds L1) (hn : ds.length = n) : TG L (tTupT n u) (.tuple ds) L1 := fun B0 T r ha => by
  obtain ⟨r1, e1, a1⟩ := h B0 T r ha
  exact ⟨r1, by rw [tup_asg hn]; exact e1, a1⟩
def un2 {α : Type} (d : D) (k : D → D → M α) : M α := match d with | .tuple [a, b] => k a b | _ => M.bad
def un3 {α : Type} (d : D) (k : D → D → D → M α) : M α := match d with | .tuple [a, b, c] => k a b c | _ => M.bad
def un4 {α : Type} (d : D) (k : D → D → D → D → M α) : M α := match d with | .tuple [a, b, c, e] => k a b c e | _ => M.bad
def un5 {α : Type} (d : D) (k : D → D → D → D → D → M α) : M α := match d with | .tuple [a, b, c, e, f] => k a b c e f | _ => M.bad
def un6 {α : Type} (d : D) (k : D → D → D → D → D → D → M α) : M α := match d with | .tuple [a, b, c, e, f, g] => k a b c e f g | _ => M.bad
section
variable {α : Type} {P : D → M α → Prop}
theorem un2_by {k : D → D → M α} (h : ∀ a b, P (.tuple [a, b]) (k a b)) (hb : ∀ d, P d M.bad) : P d (un2 d k) := by
  unfold un2
  split
  · exact h _ _
  · exact hb _
theorem un3_by {k : D → D → D → M α} (h : ∀ a b c, P (.tuple [a, b, c]) (k a b c)) (hb : ∀ d, P d M.bad) : P d (un3 d k) := by
  unfold un3
  split
  · exact h _ _ _
  · exact hb _
theorem un4_by {k : D → D → D → D → M α} (h : ∀ a b c e, P (.tuple [a, b, c, e]) (k a b c e)) (hb : ∀ d, P d M.bad) : P d (un4 d k) := by
  unfold un4
  split
  · exact h _ _ _ _
  · exact hb _
theorem un5_by {k : D → D → D → D → D → M α} (h : ∀ a b c e f, P (.tuple [a, b, c, e, f]) (k a b c e f)) (hb : ∀ d, P d M.bad) : P d (un5 d k) := by
  unfold un5
  split
  · exact h _ _ _ _ _
  · exact hb _
theorem un6_by {k : D → D → D → D → D → D → M α} (h : ∀ a b c e f g, P (.tuple [a, b, c, e, f, g]) (k a b c e f g)) (hb : ∀ d, P d M.bad) : P d (un6 d k) := by
  unfold un6
  split
  · exact h _ _ _ _ _ _
  · exact hb _
end
/-! ### what is walked -/
def EI (L : List Sl) (gi : GI) (x : M (List D)) (ch : List Sl → Prop) : Prop := ∀ (F : Fd) (B0 T : Bs) (r : En), In L B0 T r → match x F with
  | .ok ds F1 => ∃ chk T', gi r (stf F B0 T) = .ok (ds.map .dat) chk (stf F1 B0 T') ∧ Flat T' ∧ Ext T T' ∧ ∀ F2 T2 r2 L2, ch L2 → At L2 B0 T2 r2 → chk (stf F2 B0 T2)
  | .exc c fs F1 => ∃ T', gi r (stf F B0 T) = .exc c (dfs fs) (stf F1 B0 T') ∧ Flat T'
  | .bad => True
def signsD (x : Str) : List D := x.cps.toList.map fun c => .str ⟨#[c]⟩
def iterM : D → M (List D)
  | .list ds => M.ok ds
  | .tuple ds => M.ok ds
  | .str x => M.ok (signsD x)
  | _ => M.bad
def free : List Sl → Prop := fun _ => True
theorem i_any (h : EE L g x) : EI L (gIter g) (M.bind x iterM) free := fun F B0 T r hi => by
  have q := h F B0 T r hi
  unfold gIter M.bind
  revert q
  cases x F with
  | ok d F1 =>
    rintro ⟨s, T1, e, rfl, t1, x1⟩
    rw [e]
    cases d with
    | list ds => exact ⟨fun _ => True, T1, rfl, t1, x1, fun _ _ _ _ _ _ => trivial⟩
    | tuple ds => exact ⟨fun _ => True, T1, rfl, t1, x1, fun _ _ _ _ _ _ => trivial⟩
    | str y =>
      refine ⟨fun _ => True, T1, ?_, t1, x1, fun _ _ _ _ _ _ => trivial⟩
      show Ri.ok (signsOf y) _ _ = _
      rw [show signsOf y = (signsD y).map .dat by unfold signsOf signsD; rw [List.map_map]; rfl]
    | _ => trivial
  | exc c fs F1 =>
    rintro ⟨T1, e, t1⟩
    rw [e]
    exact ⟨T1, rfl, t1⟩
  | bad => exact fun _ => trivial
theorem i_bor (e : L[i]? = some (.bor d)) : EI L (gIter (gVar i)) (iterM d) free := fun F B0 T r hi => by
  obtain ⟨s, h1, h2⟩ := hi.a.ok i _ e
  obtain ⟨s, rfl, h2⟩ := h2
  unfold gIter gVar
  rw [h1]
  dsimp only
  cases h2 with
  | dat =>
    cases d with
    | list ds => exact ⟨fun _ => True, T, rfl, hi.t, Ext.refl T, fun _ _ _ _ _ _ => trivial⟩
    | tuple ds => exact ⟨fun _ => True, T, rfl, hi.t, Ext.refl T, fun _ _ _ _ _ _ => trivial⟩
    | str y =>
      refine ⟨fun _ => True, T, ?_, hi.t, Ext.refl T, fun _ _ _ _ _ _ => trivial⟩
      show Ri.ok (signsOf y) _ _ = _
      rw [show signsOf y = (signsD y).map .dat by unfold signsOf signsD; rw [List.map_map]; rfl]
    | _ => trivial
  | @ref k ds q =>
    have up : ∀ F T, (stf F B0 T)[k + 1]? = some (some (.lst (ds.map .dat))) := fun F T => by
      show (B0 ++ T)[k]? = _
      rw [List.getElem?_append_left (List.getElem?_eq_some_iff.mp q).1]
      exact q
    have e1 : asL (stf F B0 T) (.ref (k + 1)) = some (ds.map .dat) := by simp only [asL, up]
    rw [e1]
    exact ⟨_, T, rfl, hi.t, Ext.refl T, fun F2 T2 _ _ _ _ => up F2 T2⟩
theorem i_own {ds : List D} (e : L[i]? = some (.own j ds)) : EI L (gIter (gVar i)) (M.ok ds) (fun L2 : List Sl => ∃ k : Nat, L2[k]? = some (Sl.own j ds)) := fun F B0 T r hi => by
  obtain ⟨h1, h2⟩ := hi.a.own e
  have up : ∀ F T, T[j]? = some (some (.lst (ds.map .dat))) → (stf F B0 T)[B0.length + j + 1]? = some (some (.lst (ds.map .dat))) := fun F T q => by
    show (B0 ++ T)[B0.length + j]? = _
    rw [List.getElem?_append_right (by omega), show B0.length + j - B0.length = j by omega]
    exact q
  unfold gIter gVar
  rw [h1]
  dsimp only
  have e1 : asL (stf F B0 T) (.ref (B0.length + j + 1)) = some (ds.map .dat) := by simp only [asL, up F T h2]
  rw [e1]
  refine ⟨_, T, rfl, hi.t, Ext.refl T, fun F2 T2 r2 L2 ⟨k, hk⟩ a2 => up F2 T2 (a2.own hk).2⟩
def intsD (a : Int) (n : Nat) : List D := (List.range n).map fun (i : Nat) => .int (a + (i : Int))
def rangeM : D → M (List D)
  | .int n => if -(2 ^ 62) ≤ n ∧ n < 2 ^ 62 then M.ok (intsD 0 n.toNat) else M.bad
  | _ => M.bad
def rangeM2 : D → D → M (List D)
  | .int a, .int b => if -(2 ^ 62) ≤ a ∧ a < 2 ^ 62 ∧ -(2 ^ 62) ≤ b ∧ b < 2 ^ 62 then M.ok (intsD a (b - a).toNat) else M.bad
  | _, _ => M.bad
theorem ints_map (a : Int) (n : Nat) : intsUp a n = (intsD a n).map .dat := by
  unfold intsUp intsD
  rw [List.map_map]
  rfl
theorem i_r1 (h : EE L g x) : EI L (gRange1 (PN.gCons g PN.gNil)) (M.bind x rangeM) free := fun F B0 T r hi => by
  have q := h F B0 T r hi
  unfold gRange1 PN.gCons aBind aBindA PN.gNil M.bind
  revert q
  cases x F with
  | ok d F1 =>
    rintro ⟨s, T1, e, rfl, t1, x1⟩
    rw [e]
    cases d with
    | int n =>
      dsimp only [rangeM]
      by_cases hz : -(2 ^ 62) ≤ n ∧ n < 2 ^ 62
      · rw [if_pos hz, if_pos hz]
        exact ⟨fun _ => True, T1, by rw [ints_map], t1, x1, fun _ _ _ _ _ _ => trivial⟩
      · rw [if_neg hz]
        trivial
    | _ => trivial
  | exc c fs F1 =>
    rintro ⟨T1, e, t1⟩
    rw [e]
    exact ⟨T1, rfl, t1⟩
  | bad => exact fun _ => trivial
theorem i_r2 (h : EE L g1 x) (h' : EE L g2 y) : EI L (gRange2 (PN.gCons g1 (PN.gCons g2 PN.gNil))) (M.bind x fun a => M.bind y fun b => rangeM2 a b) free := fun F B0 T r hi => by
  have q := h F B0 T r hi
  unfold gRange2 PN.gCons aBind aBindA PN.gNil M.bind
  revert q
  cases x F with
  | ok d F1 =>
    rintro ⟨s, T1, e, rfl, t1, x1⟩
    have q2 := h' F1 B0 T1 r (hi.ext x1 t1)
    rw [e]
    dsimp only
    revert q2
    cases y F1 with
    | ok d2 F2 =>
      rintro ⟨s2, T2, e2, rfl, t2, x2⟩
      rw [e2]
      cases d with
      | int a =>
        cases d2 with
        | int b =>
          dsimp only [rangeM2]
          by_cases hz : -(2 ^ 62) ≤ a ∧ a < 2 ^ 62 ∧ -(2 ^ 62) ≤ b ∧ b < 2 ^ 62
          · rw [if_pos hz, if_pos hz]
            exact ⟨fun _ => True, T2, by rw [ints_map], t2, x1.trans x2, fun _ _ _ _ _ _ => trivial⟩
          · rw [if_neg hz]
            trivial
        | _ => trivial
      | _ => trivial
    | exc c fs F2 =>
      rintro ⟨T2, e2, t2⟩
      rw [e2]
      exact ⟨T2, rfl, t2⟩
    | bad => exact fun _ => trivial
  | exc c fs F1 =>
    rintro ⟨T1, e, t1⟩
    rw [e]
    exact ⟨T1, rfl, t1⟩
  | bad => exact fun _ => trivial
def zipM : D → D → M (List D)
  | .list xs, .list ys => M.ok ((List.zip xs ys).map fun p => .tuple [p.1, p.2])
  | .tuple xs, .tuple ys => M.ok ((List.zip xs ys).map fun p => .tuple [p.1, p.2])
  | _, _ => M.bad
theorem i_zip (h : EE L g1 x) (h' : EE L g2 y) : EI L (gZip (PN.gCons g1 (PN.gCons g2 PN.gNil))) (M.bind x fun a => M.bind y fun b => zipM a b) free := fun F B0 T r hi => by
  have q := h F B0 T r hi
  unfold gZip PN.gCons aBind aBindA PN.gNil M.bind
  revert q
  cases x F with
  | ok d F1 =>
    rintro ⟨s, T1, e, rfl, t1, x1⟩
    have q2 := h' F1 B0 T1 r (hi.ext x1 t1)
    rw [e]
    dsimp only
    revert q2
    cases y F1 with
    | ok d2 F2 =>
      rintro ⟨s2, T2, e2, rfl, t2, x2⟩
      rw [e2]
      dsimp only
      cases d with
      | list xs =>
        cases d2 with
        | list ys => exact ⟨fun _ => True ∧ True, T2, by rw [zip2_l, List.map_map]; rfl, t2, x1.trans x2, fun _ _ _ _ _ _ => ⟨trivial, trivial⟩⟩
        | _ => trivial
      | tuple xs =>
        cases d2 with
        | tuple ys => exact ⟨fun _ => True, T2, by rw [zip2_t, List.map_map]; rfl, t2, x1.trans x2, fun _ _ _ _ _ _ => trivial⟩
        | _ => trivial
      | _ => trivial
    | exc c fs F2 =>
      rintro ⟨T2, e2, t2⟩
      rw [e2]
      exact ⟨T2, rfl, t2⟩
    | bad => exact fun _ => trivial
  | exc c fs F1 =>
    rintro ⟨T1, e, t1⟩
    rw [e]
    exact ⟨T1, rfl, t1⟩
  | bad => exact fun _ => trivial
end
/-! ### comprehensions -/
def lcM (f : D → M (Option D)) : List D → M (List D)
  | [] => M.ok []
  | d :: ds => fun F => match f d F with
    | .ok o F1 => (match lcM f ds F1 with
      | .ok r F2 => .ok (match o with | some v => v :: r | none => r) F2
      | _ => .bad)
    | _ => .bad
def lc (its : List D) (f : D → M (Option D)) : M (List D) := if its.length ≤ 100000 then lcM f its else M.bad
def wipeL (L : List Sl) : List Nat → List Sl
  | [] => L
  | v :: vs => (wipeL L vs).set v .any
/-- what a comprehension does with an item -/
def CB (L : List Sl) (t : GT) (gt ge : GE) (d : D) (x : M (Option D)) : Prop := ∀ (F : Fd) (B0 T : Bs) (r : En), In L B0 T r → match x F with
  | .ok o F1 => ∃ r1 T', t (.dat d) r = some r1 ∧ Flat T' ∧ Ext T T' ∧ ((∃ v F2 T2, o = some v ∧ gt r1 (stf F B0 T) = .ok (.dat (.bool true)) (stf F2 B0 T2) ∧ ge r1 (stf F2 B0 T2) = .ok (.dat v) (stf F1 B0 T')) ∨ (o = none ∧ gt r1 (stf F B0 T) = .ok (.dat (.bool false)) (stf F1 B0 T')))
  | _ => True
section
variable {L L1 : List Sl} {t : GT} {gt ge : GE} {d : D} {x y : M D}
theorem cb_map (h : TG L t d L1) (h1 : EE L1 ge x) : CB L t gYes ge d (M.bind x fun v => M.ok (some v)) := fun F B0 T r hi => by
  obtain ⟨r1, e1, a1⟩ := h B0 T r hi.a
  have q := h1 F B0 T r1 ⟨hi.b, hi.t, a1⟩
  unfold M.bind
  revert q
  cases x F with
  | ok v F1 =>
    rintro ⟨s, T1, e, rfl, t1, x1⟩
    exact ⟨r1, T1, e1, t1, x1, .inl ⟨v, F, T, rfl, rfl, e⟩⟩
  | exc c fs F1 => exact fun _ => trivial
  | bad => exact fun _ => trivial
theorem cb_if (h : TG L t d L1) (h0 : EE L1 gt y) (h1 : EE L1 ge x) : CB L t gt ge d (M.bind y fun b => M.ite b (M.bind x fun v => M.ok (some v)) (M.ok none)) := fun F B0 T r hi => by
  obtain ⟨r1, e1, a1⟩ := h B0 T r hi.a
  have q := h0 F B0 T r1 ⟨hi.b, hi.t, a1⟩
  unfold M.bind
  revert q
  cases y F with
  | ok b F1 =>
    rintro ⟨s, T1, e, rfl, t1, x1⟩
    cases b with
    | bool b =>
      cases b with
      | true =>
        have q2 := h1 F1 B0 T1 r1 ⟨hi.b, t1, a1.ext x1⟩
        dsimp only [M.ite]
        revert q2
        cases x F1 with
        | ok v F2 =>
          rintro ⟨s2, T2, e2, rfl, t2, x2⟩
          exact ⟨r1, T2, e1, t2, x1.trans x2, .inl ⟨v, F1, T1, rfl, e, e2⟩⟩
        | exc c fs F2 => exact fun _ => trivial
        | bad => exact fun _ => trivial
      | false => exact ⟨r1, T1, e1, t1, x1, .inr ⟨rfl, e⟩⟩
    | _ => trivial
  | exc c fs F1 => exact fun _ => trivial
  | bad => exact fun _ => trivial
theorem cb_bad (d : D) : CB L t gt ge d (M.bad : M (Option D)) := fun _ _ _ _ _ => trivial
theorem at_wipe {B0 T : Bs} {r : En} (h : At L B0 T r) : ∀ vs : List Nat, At (wipeL L vs) B0 T (wipeE r vs)
  | [] => h
  | v :: vs => (at_wipe h vs).any v none
theorem lcM_ok {chk : Bs → Prop} {f : D → M (Option D)} (hf : ∀ d, CB L t gt ge d (f d)) {B0 : Bs} {r : En} (hB : Flat B0) : ∀ (its : List D) (acc : List D) (F : Fd) (T : Bs), (∀ F2 T2, At L B0 T2 r → chk (stf F2 B0 T2)) → Flat T → At L B0 T r →
    match lcM f its F with
    | .ok ds F1 => ∃ T', lcL chk t gt ge r (its.map .dat) (acc.map .dat) (stf F B0 T) = .ok ((acc ++ ds).map .dat) (stf F1 B0 T') ∧ Flat T' ∧ Ext T T' ∧ ds.length ≤ its.length
    | _ => True
  | [], acc, F, T, hc, hT, ha => ⟨T, by unfold lcL; rw [List.map_nil]; dsimp only; rw [if_pos (hc F T ha), List.append_nil], hT, Ext.refl T, Nat.le_refl _⟩
  | d :: its, acc, F, T, hc, hT, ha => by
    have q := hf d F B0 T r ⟨hB, hT, ha⟩
    unfold lcM
    revert q
    cases f d F with
    | ok o F1 =>
      rintro ⟨r1, T1, e1, t1, x1, q⟩
      dsimp only
      rcases q with ⟨v, F2, T2, rfl, e2, e3⟩ | ⟨rfl, e2⟩
      · have ih := lcM_ok hf hB its (acc ++ [v]) F1 T1 hc t1 (ha.ext x1)
        revert ih
        cases lcM f its F1 with
        | ok ds F3 =>
          rintro ⟨T3, e4, t3, x3, l3⟩
          refine ⟨T3, ?_, t3, x1.trans x3, Nat.succ_le_succ l3⟩
          rw [List.map_cons]
          unfold lcL
          rw [if_pos (hc F T ha), e1]
          dsimp only
          rw [e2]
          dsimp only
          rw [e3]
          dsimp only
          rw [show acc.map S.dat ++ [S.dat v] = (acc ++ [v]).map S.dat by rw [List.map_append]; rfl, e4, List.append_assoc]
          rfl
        | exc c fs F3 => exact fun _ => trivial
        | bad => exact fun _ => trivial
      · have ih := lcM_ok hf hB its acc F1 T1 hc t1 (ha.ext x1)
        revert ih
        cases lcM f its F1 with
        | ok ds F3 =>
          rintro ⟨T3, e4, t3, x3, l3⟩
          refine ⟨T3, ?_, t3, x1.trans x3, Nat.le_succ_of_le l3⟩
          rw [List.map_cons]
          unfold lcL
          rw [if_pos (hc F T ha), e1]
          dsimp only
          rw [e2]
          exact e4
        | exc c fs F3 => exact fun _ => trivial
        | bad => exact fun _ => trivial
    | exc c fs F1 => exact fun _ => trivial
    | bad => exact fun _ => trivial
/-- [..] -/
def lcD (xi : M (List D)) (f : D → M (Option D)) : M D := fun F => match xi F with
  | .ok its F1 => M.bind (lc its f) (fun ds => M.ok (.list ds)) F1
  | _ => .bad
theorem lcD_ok (its : List D) (f : D → M (Option D)) : lcD (M.ok its) f = M.bind (lc its f) fun ds => M.ok (.list ds) := rfl
theorem lcM_exc (f : D → M (Option D)) {c : Str} {fs : List (Str × D)} {F1 : Fd} : ∀ (its : List D) (F : Fd), lcM f its F ≠ .exc c fs F1
  | [], F => fun h => nomatch (show Ro.ok [] F = Ro.exc c fs F1 from h)
  | d :: ds, F => fun h => by
    unfold lcM at h
    revert h
    cases f d F with
    | ok o F1 =>
      dsimp only
      cases lcM f ds F1 <;> exact fun h => by cases h
    | exc c fs F1 => exact fun h => by cases h
    | bad => exact fun h => by cases h
theorem e_lc {gi : GI} {xi : M (List D)} {ch : List Sl → Prop} {own : List Nat} {f : D → M (Option D)} (hi : EI L gi xi ch) (hc : ch (wipeL L own)) (hf : ∀ d, CB (wipeL L own) t gt ge d (f d)) : EE L (gPN pLst (gLcA own gi t gt ge)) (lcD xi f) := fun F B0 T r h => by
  have q := hi F B0 T r h
  unfold gPN gBindA gLcA lcD M.bind
  revert q
  cases xi F with
  | ok its F1 =>
    rintro ⟨chk, T1, e1, t1, x1, hk⟩
    rw [e1]
    dsimp only
    unfold lc
    by_cases hl : its.length ≤ 100000
    · rw [if_pos hl, if_pos (by rw [List.length_map, sizeLine_eq]; omega)]
      have q2 := lcM_ok (chk := chk) hf h.b its [] F1 T1 (r := wipeE r own) (fun F2 T2 a2 => hk F2 T2 _ _ hc a2) t1 (at_wipe (h.a.ext x1) own)
      revert q2
      cases q3 : lcM f its F1 with
      | ok ds F2 =>
        rintro ⟨T2, e2, t2, x2, l2⟩
        have e2 : lcL chk t gt ge (wipeE r own) (its.map .dat) [] (stf F1 B0 T1) = .ok (ds.map .dat) (stf F2 B0 T2) := e2
        rw [e2]
        dsimp only
        rw [p_lst (by rw [sizeLine_eq]; omega)]
        exact ⟨_, T2, rfl, rfl, t2, x1.trans x2⟩
      | exc c fs F2 => exact absurd q3 (lcM_exc f its F1)
      | bad => exact fun _ => trivial
    · rw [if_neg hl]
      trivial
  | exc c fs F1 => exact fun _ => trivial
  | bad => exact fun _ => trivial
end
end PO

set_option maxRecDepth 100000
set_option maxHeartbeats 4000000
/-! PO, fifth part: statements. -/
namespace PO
open PySem L2 PN
abbrev RT (ρ : Type) := ρ → Fd → Bs → Nat → Rs → Prop
/-- y is what x tells -/
def SPost {ρ : Type} (R : RT ρ) (B0 : Bs) (n : Nat) : Ro ρ → Rs → Prop
  | .ok a F, y => R a F B0 n y
  | .exc c fs F, y => ∃ r' T', y = .exc c (dfs fs) r' (stf F B0 T') ∧ Flat T' ∧ r'.length = n
  | .bad, _ => True
def EC {ρ : Type} (R : RT ρ) (L : List Sl) (g : GS) (x : M ρ) : Prop := ∀ (F : Fd) (B0 T : Bs) (r : En), In L B0 T r → SPost R B0 r.length (x F) (g r (stf F B0 T))
/-- the end of a def; of one whose list is changed later -/
def RD : RT D := fun d F B0 n y => ∃ T', Flat T' ∧ (y = .ret (.dat d) (stf F B0 T') ∨ (d = .none ∧ ∃ r', y = .nx r' (stf F B0 T')))
def RK : RT (List D) := fun ds F B0 n y => ∃ j T', Flat T' ∧ y = .ret (.ref (B0.length + j + 1)) (stf F B0 T') ∧ T'[j]? = some (some (.lst (ds.map .dat)))
/-- goes on, with slots known so -/
def RJ {γ : Type} (mk : γ → List Sl) : RT γ := fun a F B0 n y => ∃ r' T', y = .nx r' (stf F B0 T') ∧ In (mk a) B0 T' r' ∧ r'.length = n
def RF {γ : Type} (mk : γ → List Sl) : RT γ := fun a F B0 n y => ∃ r' T', (y = .nx r' (stf F B0 T') ∨ y = .ct r' (stf F B0 T')) ∧ In (mk a) B0 T' r' ∧ r'.length = n
inductive Lo (γ : Type) where
  | go (a : γ)
  | brk (a : γ)
  | ret (d : D)
def RL {γ : Type} (mk : γ → List Sl) : RT (Lo γ) := fun l F B0 n y => match l with
  | .go a => RF mk a F B0 n y
  | .brk a => ∃ r' T', y = .brk r' (stf F B0 T') ∧ In (mk a) B0 T' r' ∧ r'.length = n
  | .ret d => ∃ T', Flat T' ∧ y = .ret (.dat d) (stf F B0 T')
/-- how a value is handed back -/
def Rets {ρ : Type} (R : RT ρ) (k : D → M ρ) : Prop := ∀ d F, ∃ a, k d F = .ok a F ∧ ∀ B0 n T', Flat T' → R a F B0 n (.ret (.dat d) (stf F B0 T'))
theorem rets_d : Rets RD M.ok := fun d F => ⟨d, rfl, fun B0 n T' h => ⟨T', h, .inl rfl⟩⟩
theorem rets_l {γ : Type} {mk : γ → List Sl} : Rets (RL mk) fun d => M.ok (.ret d) := fun d F => ⟨.ret d, rfl, fun B0 n T' h => ⟨T', h, rfl⟩⟩
section
variable {ρ γ : Type} {R : RT ρ} {mk : γ → List Sl} {L L1 : List Sl} {g g1 g2 g3 : GS} {x y : M ρ} {ge gt go : GE} {xe xt : M D} {i j n : Nat} {ds : List D} {t : GT} {d : D}
theorem EC.congr (h : EC R L g x) (e : x = y) : EC R L g y := e ▸ h
theorem EC.of (h : EC R L g1 x) (e : g2 = g1) : EC R L g2 x := e ▸ h
theorem assoc (h : EC R L (sSeq g1 (sSeq g2 g3)) x) : EC R L (sSeq (sSeq g1 g2) g3) x := h.of (by
  funext r B
  unfold sSeq
  cases g1 r B <;> rfl)
theorem dist (h : EC R L (sIf gt (sSeq g1 g3) (sSeq g2 g3)) x) : EC R L (sSeq (sIf gt g1 g2) g3) x := h.of (by
  funext r B
  unfold sSeq sIf
  rcases gt r B with ⟨s, B1⟩ | ⟨c, fs, B1⟩ | _ <;> first | rfl | (cases s <;> first | rfl | (rename_i d; cases d <;> first | rfl | (rename_i b; cases b <;> rfl))))
theorem passl (h : EC R L g x) : EC R L (sSeq sPass g) x := h.of rfl
theorem last (h : EC R L (sSeq g sPass) x) : EC R L g x := h.of (by
  funext r B
  unfold sSeq sPass
  cases g r B <;> rfl)
/-- one behind the other -/
theorem seqJ {z : M γ} {k : γ → M ρ} (h1 : EC (RJ mk) L g1 z) (h2 : ∀ a, EC R (mk a) g2 (k a)) : EC R L (sSeq g1 g2) (M.bind z k) := fun F B0 T r hi => by
  have q := h1 F B0 T r hi
  unfold sSeq M.bind
  revert q
  cases z F with
  | ok a F1 =>
    rintro ⟨r1, T1, e, h, hl⟩
    rw [e, ← hl]
    exact h2 a F1 B0 T1 r1 h
  | exc c fs F1 =>
    rintro ⟨r1, T1, e, q⟩
    rw [e]
    exact ⟨r1, T1, rfl, q⟩
  | bad => exact fun _ => trivial
/-! ### ends -/
theorem end_d : EC RD L sPass (M.ok .none) := fun F B0 T r hi => ⟨T, hi.t, .inr ⟨rfl, r, rfl⟩⟩
theorem end_j {a : γ} (h : Le L (mk a)) : EC (RJ mk) L sPass (M.ok a) := fun F B0 T r hi => ⟨r, T, rfl, ⟨hi.b, hi.t, hi.a.le h⟩, rfl⟩
theorem end_f {a : γ} (h : Le L (mk a)) : EC (RF mk) L sPass (M.ok a) := fun F B0 T r hi => ⟨r, T, .inl rfl, ⟨hi.b, hi.t, hi.a.le h⟩, rfl⟩
theorem end_l {a : γ} (h : Le L (mk a)) : EC (RL mk) L sPass (M.ok (.go a)) := fun F B0 T r hi => ⟨r, T, .inl rfl, ⟨hi.b, hi.t, hi.a.le h⟩, rfl⟩
theorem ct_f {a : γ} (h : Le L (mk a)) : EC (RF mk) L (sSeq sCt g) (M.ok a) := fun F B0 T r hi => ⟨r, T, .inr rfl, ⟨hi.b, hi.t, hi.a.le h⟩, rfl⟩
theorem ct_l {a : γ} (h : Le L (mk a)) : EC (RL mk) L (sSeq sCt g) (M.ok (.go a)) := fun F B0 T r hi => ⟨r, T, .inr rfl, ⟨hi.b, hi.t, hi.a.le h⟩, rfl⟩
theorem brk_l {a : γ} (h : Le L (mk a)) : EC (RL mk) L (sSeq sBrk g) (M.ok (.brk a)) := fun F B0 T r hi => ⟨r, T, rfl, ⟨hi.b, hi.t, hi.a.le h⟩, rfl⟩
/-- behind an expression -/
theorem s_bind {R1 : Bs → S → D → Prop} {k : D → M ρ} {w : S → En → Bs → Rs} (h1 : EG R1 L ge xe) (h2 : ∀ d F B0 T r s, In L B0 T r → R1 (B0 ++ T) s d → SPost R B0 r.length (k d F) (w s r (stf F B0 T))) (he : ∀ r B, g r B = match ge r B with
    | .ok s B1 => w s r B1
    | .exc c fs B1 => .exc c fs r B1
    | .bad => .bad) : EC R L g (M.bind xe k) := fun F B0 T r hi => by
  have q := h1 F B0 T r hi
  rw [he]
  unfold M.bind
  revert q
  cases xe F with
  | ok d F1 =>
    rintro ⟨s, T1, e, hs, t1, x1⟩
    rw [e]
    exact h2 d F1 B0 T1 r s (hi.ext x1 t1) hs
  | exc c fs F1 =>
    rintro ⟨T1, e, t1⟩
    rw [e]
    exact ⟨r, T1, rfl, t1, rfl⟩
  | bad => exact fun _ => trivial
theorem ret {k : D → M ρ} (hr : Rets R k) (h : EE L ge xe) : EC R L (sSeq (sRet ge) g) (M.bind xe k) := s_bind (w := fun s r B => .ret s B) h (fun d F B0 T r s hi hs => by
    subst hs
    obtain ⟨a, e, q⟩ := hr d F
    rw [e]
    exact q B0 _ T hi.t) fun r B => by
  unfold sSeq sRet
  cases ge r B <;> rfl
theorem In.shut {B0 T : Bs} {r : En} (h : In L B0 T r) (e : L[i]? = some (.own j ds)) : In (L.set i .any) B0 (T.set j none) r := ⟨h.b, fun k o q => by
  rcases set_get q with ⟨_, z, _⟩ | ⟨_, z⟩
  · cases z
  · exact h.t k o z, h.a.shut e⟩
theorem ret_shut {k : D → M ρ} (hr : Rets R k) (e : L[i]? = some (.own j ds)) : EC R L (sSeq (sRet (gShut (gVar i))) g) (k (.list ds)) := fun F B0 T r hi => by
  obtain ⟨h1, h2⟩ := hi.a.own e
  obtain ⟨a, ea, q⟩ := hr (.list ds) F
  have e1 : gShut (gVar i) r (stf F B0 T) = .ok (.dat (.list ds)) (stf F B0 (T.set j none)) := by
    rw [e_shut]
    unfold gVar
    rw [h1]
    show liftP (shutS (.ref (B0.length + j + 1)) (stf F B0 T)) = _
    have e2 : (stf F B0 T)[B0.length + j + 1]? = some (some (.lst (ds.map .dat))) := by
      show (B0 ++ T)[B0.length + j]? = _
      rw [List.getElem?_append_right (by omega), show B0.length + j - B0.length = j by omega]
      exact h2
    simp only [shutS, e2, datsOf_map, Option.map_some]
    show Re.ok _ (fdo F :: (B0 ++ T).set (B0.length + j) none) = _
    rw [List.set_append_right _ _ (by omega), show B0.length + j - B0.length = j by omega]
  unfold sSeq sRet
  rw [e1, ea]
  exact q B0 _ _ (hi.shut e).t
theorem ret_own (e : L[i]? = some (.own j ds)) : EC RK L (sSeq (sRet (gVar i)) g) (M.ok ds) := fun F B0 T r hi => by
  obtain ⟨h1, h2⟩ := hi.a.own e
  refine ⟨j, T, hi.t, ?_, h2⟩
  unfold sSeq sRet gVar
  rw [h1]
/-! ### tests -/
theorem iff_ {x1 x2 : M ρ} (h : EE L gt xt) (h1 : EC R L g1 x1) (h2 : EC R L g2 x2) : EC R L (sIf gt g1 g2) (M.bind xt fun d => M.ite d x1 x2) := s_bind (w := fun s r B => match s with | .dat (.bool true) => g1 r B | .dat (.bool false) => g2 r B | _ => .bad) h (fun d F B0 T r s hi hs => by
    subst hs
    cases d with
    | bool b => cases b <;> first | exact h1 F B0 T r hi | exact h2 F B0 T r hi
    | _ => trivial) fun r B => by
  unfold sIf
  rcases gt r B with ⟨s, B1⟩ | ⟨c, fs, B1⟩ | _ <;> first | rfl | (cases s <;> first | rfl | (rename_i d; cases d <;> first | rfl | (rename_i b; cases b <;> rfl)))
/-! ### stores -/
theorem asg (h : EE L ge xe) : EC (RJ fun d => L.set i (.dat d)) L (sAsg ge (tName i)) xe := by
  refine EC.congr (s_bind (k := M.ok) (w := fun s r B => .nx (r.set i (some s)) B) h (fun d F B0 T r s hi hs => ?_) fun r B => ?_) (M.bind_ok _)
  · subst hs
    exact ⟨_, T, rfl, ⟨hi.b, hi.t, hi.a.set i d⟩, by rw [List.length_set]⟩
  · unfold sAsg
    cases ge r B <;> rfl
/-- a target, then what follows -/
def TC {ρ : Type} (R : RT ρ) (L : List Sl) (t : GT) (g : GS) (d : D) (x : M ρ) : Prop := ∀ (F : Fd) (B0 T : Bs) (r : En), In L B0 T r → x F = .bad ∨ ∃ r1, t (.dat d) r = some r1 ∧ SPost R B0 r.length (x F) (g r1 (stf F B0 T))
def TLen (t : GT) : Prop := ∀ s r r1, t s r = some r1 → r1.length = r.length
theorem tl_name : TLen (tName i) := fun s r r1 e => by
  cases e
  rw [List.length_set]
def TLens (u : GTs) : Prop := ∀ s r r1, u s r = some r1 → r1.length = r.length
theorem tl_nil : TLens tsNil := fun s r r1 e => by
  unfold tsNil at e
  split at e
  · cases e; rfl
  · cases e
theorem tl_cons {t : GT} {u : GTs} (h : TLen t) (k : TLens u) : TLens (tsCons t u) := fun s r r1 e => by
  unfold tsCons at e
  split at e
  · split at e
    · rename_i q; rw [k _ _ _ e, h _ _ _ q]
    · cases e
  · cases e
theorem tl_tup {u : GTs} (h : TLens u) : TLen (tTupT n u) := fun s r r1 e => by
  unfold tTupT at e
  split at e
  · split at e
    · exact h _ _ _ e
    · cases e
  · cases e
theorem tc (hl : TLen t) (h : TG L t d L1) (k : EC R L1 g x) : TC R L t g d x := fun F B0 T r hi => by
  obtain ⟨r1, e, a1⟩ := h B0 T r hi.a
  refine .inr ⟨r1, e, ?_⟩
  have := k F B0 T r1 ⟨hi.b, hi.t, a1⟩
  rwa [hl _ _ _ e] at this
theorem tc_bad (d : D) : TC R L t g d (M.bad : M ρ) := fun _ _ _ _ _ => .inl rfl
theorem asgT {k : D → M ρ} (h : EE L ge xe) (h2 : ∀ d, TC R L t g d (k d)) : EC R L (sSeq (sAsg ge t) g) (M.bind xe k) := s_bind (w := fun s r B => match t s r with | some r1 => g r1 B | none => .bad) h (fun d F B0 T r s hi hs => by
    subst hs
    rcases h2 d F B0 T r hi with q | ⟨r1, e, q⟩
    · rw [q]; trivial
    · rw [e]; exact q) fun r B => by
  unfold sSeq sAsg
  cases ge r B with
  | ok s B1 =>
    dsimp only
    cases t s r <;> rfl
  | exc c fs B1 => rfl
  | bad => rfl
/-- a new list -/
theorem alloc {z : M (List D)} {k : List D → M ρ} (h : EO L ge z) (h2 : ∀ j ds, EC R (L.set i (.own j ds)) g (k ds)) : EC R L (sSeq (sAsg ge (tName i)) g) (M.bind z k) := fun F B0 T r hi => by
  have q := h F B0 T r hi
  unfold sSeq sAsg M.bind
  revert q
  cases z F with
  | ok ds F1 =>
    rintro ⟨j, T1, e, t1, x1, l1, q⟩
    rw [e]
    have a1 : At (L.set i (.own j ds)) B0 T1 (r.set i (some (.ref (B0.length + j + 1)))) := (hi.a.ext x1).put i ⟨rfl, q⟩ fun j' es e1 k' fs e2 => by
      cases e1
      obtain ⟨o, _, _, h3⟩ := hi.a.ok k' _ e2
      have := (List.getElem?_eq_some_iff.mp h3).1
      omega
    have := h2 j ds F1 B0 T1 _ ⟨hi.b, t1, a1⟩
    rw [List.length_set] at this
    exact this
  | exc c fs F1 =>
    rintro ⟨T1, e, t1⟩
    rw [e]
    exact ⟨r, T1, rfl, t1, rfl⟩
  | bad => exact fun _ => trivial
/-! ### lists change -/
def push (ds : List D) (d : D) : M (List D) := if ds.length < 1000000 then M.ok (ds ++ [d]) else M.bad
def pushAll (ds : List D) : D → M (List D)
  | .list es => if ds.length + es.length ≤ 1000000 then M.ok (ds ++ es) else M.bad
  | _ => M.bad
def setM (ds : List D) (n v : D) : M (List D) := match n with
  | .int n => (match ixN ds.length n with
    | some j => M.ok (ds.set j v)
    | none => M.bad)
  | _ => M.bad
theorem own_at {F : Fd} {B0 T : Bs} {j : Nat} {o : MO} (e : T[j]? = some (some o)) : (stf F B0 T)[B0.length + j + 1]? = some (some o) := by
  show (B0 ++ T)[B0.length + j]? = _
  rw [List.getElem?_append_right (by omega), show B0.length + j - B0.length = j by omega]
  exact e
theorem own_set {F : Fd} {B0 T : Bs} {j : Nat} {o : Option MO} : (stf F B0 T).set (B0.length + j + 1) o = stf F B0 (T.set j o) := by
  show fdo F :: (B0 ++ T).set (B0.length + j) o = _
  rw [List.set_append_right _ _ (by omega), show B0.length + j - B0.length = j by omega]
theorem In.turn {B0 T : Bs} {r : En} (h : In L B0 T r) (e : L[i]? = some (.own j ds)) (es : List D) : In (L.set i (.own j es)) B0 (T.set j (some (.lst (es.map .dat)))) r := ⟨h.b, fun k o q => by
  rcases set_get q with ⟨_, z, _⟩ | ⟨_, z⟩
  · exact flat_lst es o z.symm
  · exact h.t k o z, h.a.turn e es⟩
theorem mt_own {f : GP} {ga : GA} {r : En} {B : Bs} {s : S} (h : r[i]? = some (some s)) (hk : isK false B s = true) : gMt false f (gVar i) ga r B = (match ga r B with | .ok ss B1 => liftP (f (s :: ss) B1) | .exc c fs B1 => .exc c fs B1 | .bad => .bad) := by
  unfold gMt gBind gVar
  rw [h]
  dsimp only
  rw [if_pos hk]
  unfold gBindA
  cases ga r B <;> rfl
theorem append_ (e : L[i]? = some (.own j ds)) (h : EE L ge xe) : EC (RJ fun es => L.set i (.own j es)) L (sDrop (gMt false pAppend (gVar i) (PN.gCons ge PN.gNil))) (M.bind xe fun d => push ds d) := fun F B0 T r hi => by
  obtain ⟨h1, h2⟩ := hi.a.own e
  have q := h F B0 T r hi
  have hk : isK false (stf F B0 T) (.ref (B0.length + j + 1)) = true := by
    show (asL (stf F B0 T) (.ref (B0.length + j + 1))).isSome = true
    simp only [asL, own_at h2]
    rfl
  unfold sDrop
  rw [mt_own h1 hk]
  unfold PN.gCons aBind aBindA PN.gNil M.bind
  revert q
  cases xe F with
  | ok d F1 =>
    rintro ⟨s, T1, e1, rfl, t1, x1⟩
    rw [e1]
    dsimp only
    have g2 := x1.get _ _ h2
    unfold push
    by_cases hl : ds.length < 1000000
    · rw [if_pos hl]
      have e3 : pAppend [.ref (B0.length + j + 1), .dat d] (stf F1 B0 T1) = some (.dat .none, stf F1 B0 (T1.set j (some (.lst ((ds ++ [d]).map .dat))))) := by
        show ((atM (stf F1 B0 T1) (B0.length + j + 1)).bind fun ss => if ss.length < sizeLine then some (S.dat .none, (stf F1 B0 T1).set (B0.length + j + 1) (some (.lst (ss ++ [.dat d])))) else none) = _
        have : atM (stf F1 B0 T1) (B0.length + j + 1) = some (ds.map .dat) := by simp only [atM, own_at g2]
        rw [this, Option.bind_some, if_pos (by rw [List.length_map, sizeLine_eq]; omega), own_set, List.map_append]
        rfl
      rw [e3]
      exact ⟨r, _, rfl, (hi.ext x1 t1).turn e _, rfl⟩
    · rw [if_neg hl]; trivial
  | exc c fs F1 =>
    rintro ⟨T1, e1, t1⟩
    rw [e1]
    exact ⟨r, T1, rfl, t1, rfl⟩
  | bad => exact fun _ => trivial
theorem extend_ (e : L[i]? = some (.own j ds)) (h : EV L ge xe) : EC (RJ fun es => L.set i (.own j es)) L (sDrop (gMt false pExtend (gVar i) (PN.gCons ge PN.gNil))) (M.bind xe fun d => pushAll ds d) := fun F B0 T r hi => by
  obtain ⟨h1, h2⟩ := hi.a.own e
  have q := h F B0 T r hi
  have hk : isK false (stf F B0 T) (.ref (B0.length + j + 1)) = true := by
    show (asL (stf F B0 T) (.ref (B0.length + j + 1))).isSome = true
    simp only [asL, own_at h2]
    rfl
  unfold sDrop
  rw [mt_own h1 hk]
  unfold PN.gCons aBind aBindA PN.gNil M.bind
  revert q
  cases xe F with
  | ok d F1 =>
    rintro ⟨s, T1, e1, hs, t1, x1⟩
    rw [e1]
    dsimp only
    have g2 := x1.get _ _ h2
    unfold pushAll
    cases d with
    | list es =>
      dsimp only
      by_cases hl : ds.length + es.length ≤ 1000000
      · rw [if_pos hl]
        have e3 : pExtend [.ref (B0.length + j + 1), s] (stf F1 B0 T1) = some (.dat .none, stf F1 B0 (T1.set j (some (.lst ((ds ++ es).map .dat))))) := by
          show ((atM (stf F1 B0 T1) (B0.length + j + 1)).bind fun ss => (asM (stf F1 B0 T1) s).bind fun zs => if ss.length + zs.length ≤ sizeLine then some (S.dat .none, (stf F1 B0 T1).set (B0.length + j + 1) (some (.lst (ss ++ zs)))) else none) = _
          have a1 : atM (stf F1 B0 T1) (B0.length + j + 1) = some (ds.map .dat) := by simp only [atM, own_at g2]
          have a2 : asM (stf F1 B0 T1) s = some (es.map .dat) := den_asM hs
          rw [a1, a2, Option.bind_some, Option.bind_some, if_pos (by rw [List.length_map, List.length_map, sizeLine_eq]; omega), own_set, List.map_append]
        rw [e3]
        exact ⟨r, _, rfl, (hi.ext x1 t1).turn e _, rfl⟩
      · rw [if_neg hl]; trivial
    | _ => trivial
  | exc c fs F1 =>
    rintro ⟨T1, e1, t1⟩
    rw [e1]
    exact ⟨r, T1, rfl, t1, rfl⟩
  | bad => exact fun _ => trivial
theorem seti_ {gi : GE} {xi : M D} (e : L[i]? = some (.own j ds)) (h : EE L ge xe) (h' : EE L gi xi) : EC (RJ fun es => L.set i (.own j es)) L (sSetI ge (gVar i) gi) (M.bind xe fun v => M.bind xi fun n => setM ds n v) := fun F B0 T r hi => by
  have q := h F B0 T r hi
  unfold sSetI M.bind
  revert q
  cases xe F with
  | ok v F1 =>
    rintro ⟨s, T1, e1, rfl, t1, x1⟩
    rw [e1]
    dsimp only
    have hi1 := hi.ext x1 t1
    obtain ⟨h1, h2⟩ := hi1.a.own e
    have ev : gVar i r (stf F1 B0 T1) = .ok (.ref (B0.length + j + 1)) (stf F1 B0 T1) := by
      unfold gVar
      rw [h1]
    rw [ev]
    dsimp only
    have q2 := h' F1 B0 T1 r hi1
    revert q2
    cases xi F1 with
    | ok n F2 =>
      rintro ⟨s2, T2, e2, rfl, t2, x2⟩
      rw [e2]
      dsimp only
      have g2 := x2.get _ _ h2
      unfold setM
      cases n with
      | int n =>
        dsimp only
        cases en : ixN ds.length n with
        | none => trivial
        | some k =>
          have e3 : pSetL (stf F2 B0 T2) (.ref (B0.length + j + 1)) (.dat (.int n)) (.dat v) = some (stf F2 B0 (T2.set j (some (.lst ((ds.set k v).map .dat))))) := by
            show ((atM (stf F2 B0 T2) (B0.length + j + 1)).bind fun ss => (ixN ss.length n).bind fun j' => some ((stf F2 B0 T2).set (B0.length + j + 1) (some (.lst (ss.set j' (.dat v)))))) = _
            have a1 : atM (stf F2 B0 T2) (B0.length + j + 1) = some (ds.map .dat) := by simp only [atM, own_at g2]
            rw [a1, Option.bind_some, List.length_map, en, Option.bind_some, own_set, List.map_set]
          rw [e3]
          exact ⟨r, _, rfl, (hi1.ext x2 t2).turn e _, rfl⟩
      | _ => trivial
    | exc c fs F2 =>
      rintro ⟨T2, e2, t2⟩
      rw [e2]
      exact ⟨r, T2, rfl, t2, rfl⟩
    | bad => exact fun _ => trivial
  | exc c fs F1 =>
    rintro ⟨T1, e1, t1⟩
    rw [e1]
    exact ⟨r, T1, rfl, t1, rfl⟩
  | bad => exact fun _ => trivial
theorem drop_ (h : EE L ge xe) : EC (RJ fun _ : D => L) L (sDrop ge) xe := by
  refine EC.congr (s_bind (k := M.ok) (w := fun s r B => .nx r B) h (fun d F B0 T r s hi hs => ⟨r, T, rfl, hi, rfl⟩) fun r B => ?_) (M.bind_ok _)
  unfold sDrop
  cases ge r B <;> rfl
end
end PO

set_option maxRecDepth 100000
set_option maxHeartbeats 4000000
/-! PO, sixth part: loops, errors, defs. -/
namespace PO
open PySem L2 PN
/-! ### for -/
def fold {γ : Type} (f : D → γ → M γ) : List D → γ → M γ
  | [], a => M.ok a
  | d :: ds, a => M.bind (f d a) fun b => fold f ds b
def loop {γ : Type} (f : D → γ → M (Lo γ)) : List D → γ → M (Lo γ)
  | [], a => M.ok (.go a)
  | d :: ds, a => M.bind (f d a) fun l => match l with
    | .go b => loop f ds b
    | .brk b => M.ok (.go b)
    | .ret d => M.ok (.ret d)
def elim {γ ρ : Type} (l : Lo γ) (k : γ → M ρ) (kr : D → M ρ) : M ρ := match l with
  | .go a => k a
  | .brk a => k a
  | .ret d => kr d
section
variable {ρ γ : Type} {R : RT ρ} {mk : γ → List Sl} {L L1 : List Sl} {g g1 g2 gb : GS} {x y : M ρ} {ge gt go : GE} {xe xt : M D} {i j n : Nat} {ds : List D} {t : GT} {d : D} {gi : GI} {xi : M (List D)} {ch : List Sl → Prop} {a0 : γ}
theorem fold_ok {f : D → γ → M γ} {chk : Bs → Prop} {B0 : Bs} (hb : ∀ d a, TC (RF mk) (mk a) t gb d (f d a)) : ∀ (its : List D) (a : γ) (F : Fd) (T : Bs) (r : En), (∀ F2 T2 r2 a2, At (mk a2) B0 T2 r2 → chk (stf F2 B0 T2)) → In (mk a) B0 T r → SPost (RJ mk) B0 r.length (fold f its a F) (forL chk t gb (its.map .dat) r (stf F B0 T))
  | [], a, F, T, r, hc, hi => by
    rw [List.map_nil]
    unfold forL
    rw [if_pos (hc F T r a hi.a)]
    exact ⟨r, T, rfl, hi, rfl⟩
  | d :: its, a, F, T, r, hc, hi => by
    rw [List.map_cons]
    conv => rhs; unfold forL
    rw [if_pos (hc F T r a hi.a)]
    unfold fold M.bind
    rcases hb d a F B0 T r hi with q | ⟨r1, e1, q⟩
    · rw [q]; trivial
    · rw [e1]
      dsimp only
      revert q
      cases f d a F with
      | ok b F1 =>
        rintro ⟨r2, T2, e2, h2, l2⟩
        have ih := fold_ok hb its b F1 T2 r2 hc h2
        rw [l2] at ih
        rcases e2 with e2 | e2 <;> rw [e2] <;> exact ih
      | exc c fs F1 =>
        rintro ⟨r2, T2, e2, h2⟩
        rw [e2]
        exact ⟨r2, T2, rfl, h2⟩
      | bad => exact fun _ => trivial
theorem for_fold {f : D → γ → M γ} (h1 : EI L gi xi ch) (hl : Le L (mk a0)) (hc : ∀ a, ch (mk a)) (hb : ∀ d a, TC (RF mk) (mk a) t gb d (f d a)) : EC (RJ mk) L (sFor gi t gb) (M.bind xi fun its => fold f its a0) := fun F B0 T r hi => by
  have q := h1 F B0 T r hi
  unfold sFor M.bind
  revert q
  cases xi F with
  | ok its F1 =>
    rintro ⟨chk, T1, e1, t1, x1, hk⟩
    rw [e1]
    exact fold_ok hb its a0 F1 T1 r (fun F2 T2 r2 a2 h => hk F2 T2 r2 _ (hc a2) h) ⟨hi.b, t1, (hi.a.ext x1).le hl⟩
  | exc c fs F1 =>
    rintro ⟨T1, e1, t1⟩
    rw [e1]
    exact ⟨r, T1, rfl, t1, rfl⟩
  | bad => exact fun _ => trivial
/-- what a loop with returns leaves -/
def RO {γ : Type} (mk : γ → List Sl) : RT (Lo γ) := fun l F B0 n y => match l with
  | .go a => RJ mk a F B0 n y
  | .brk a => RJ mk a F B0 n y
  | .ret d => ∃ T', Flat T' ∧ y = .ret (.dat d) (stf F B0 T')
theorem loop_ok {f : D → γ → M (Lo γ)} {chk : Bs → Prop} {B0 : Bs} (hb : ∀ d a, TC (RL mk) (mk a) t gb d (f d a)) : ∀ (its : List D) (a : γ) (F : Fd) (T : Bs) (r : En), (∀ F2 T2 r2 a2, At (mk a2) B0 T2 r2 → chk (stf F2 B0 T2)) → In (mk a) B0 T r → SPost (RO mk) B0 r.length (loop f its a F) (forL chk t gb (its.map .dat) r (stf F B0 T))
  | [], a, F, T, r, hc, hi => by
    rw [List.map_nil]
    unfold forL
    rw [if_pos (hc F T r a hi.a)]
    exact ⟨r, T, rfl, hi, rfl⟩
  | d :: its, a, F, T, r, hc, hi => by
    rw [List.map_cons]
    conv => rhs; unfold forL
    rw [if_pos (hc F T r a hi.a)]
    unfold loop M.bind
    rcases hb d a F B0 T r hi with q | ⟨r1, e1, q⟩
    · rw [q]; trivial
    · rw [e1]
      dsimp only
      revert q
      cases f d a F with
      | ok l F1 =>
        cases l with
        | go b =>
          rintro ⟨r2, T2, e2, h2, l2⟩
          have ih := loop_ok hb its b F1 T2 r2 hc h2
          rw [l2] at ih
          rcases e2 with e2 | e2 <;> rw [e2] <;> exact ih
        | brk b =>
          rintro ⟨r2, T2, e2, h2, l2⟩
          rw [e2]
          exact ⟨r2, T2, rfl, h2, l2⟩
        | ret d =>
          rintro ⟨T2, t2, e2⟩
          rw [e2]
          exact ⟨T2, t2, rfl⟩
      | exc c fs F1 =>
        rintro ⟨r2, T2, e2, h2⟩
        rw [e2]
        exact ⟨r2, T2, rfl, h2⟩
      | bad => exact fun _ => trivial
theorem for_loop {f : D → γ → M (Lo γ)} {k : γ → M ρ} {kr : D → M ρ} (h1 : EI L gi xi ch) (hl : Le L (mk a0)) (hc : ∀ a, ch (mk a)) (hb : ∀ d a, TC (RL mk) (mk a) t gb d (f d a)) (hr : Rets R kr) (h2 : ∀ a, EC R (mk a) g2 (k a)) : EC R L (sSeq (sFor gi t gb) g2) (M.bind xi fun its => M.bind (loop f its a0) fun l => elim l k kr) := fun F B0 T r hi => by
  have q := h1 F B0 T r hi
  unfold sSeq sFor M.bind
  revert q
  cases xi F with
  | ok its F1 =>
    rintro ⟨chk, T1, e1, t1, x1, hk⟩
    rw [e1]
    dsimp only
    have q2 := loop_ok hb its a0 F1 T1 r (fun F2 T2 r2 a2 h => hk F2 T2 r2 _ (hc a2) h) ⟨hi.b, t1, (hi.a.ext x1).le hl⟩
    revert q2
    cases loop f its a0 F1 with
    | ok l F2 =>
      cases l with
      | go a =>
        rintro ⟨r2, T2, e2, i2, l2⟩
        rw [e2, ← l2]
        exact h2 a F2 B0 T2 r2 i2
      | brk a =>
        rintro ⟨r2, T2, e2, i2, l2⟩
        rw [e2, ← l2]
        exact h2 a F2 B0 T2 r2 i2
      | ret d =>
        rintro ⟨T2, t2, e2⟩
        rw [e2]
        obtain ⟨a, ea, q⟩ := hr d F2
        show SPost R B0 _ (kr d F2) _
        rw [ea]
        exact q B0 _ T2 t2
    | exc c fs F2 =>
      rintro ⟨r2, T2, e2, q⟩
      rw [e2]
      exact ⟨r2, T2, rfl, q⟩
    | bad => exact fun _ => trivial
  | exc c fs F1 =>
    rintro ⟨T1, e1, t1⟩
    rw [e1]
    exact ⟨r, T1, rfl, t1, rfl⟩
  | bad => exact fun _ => trivial
/-! ### while -/
def wstep (xt : γ → M D) (f : γ → M (Lo γ)) : Nat → γ → M (Lo γ)
  | 0, _ => M.bad
  | n + 1, a => M.bind (xt a) fun b => M.ite b (M.bind (f a) fun l => match l with
    | .go b => wstep xt f n b
    | .brk b => M.ok (.go b)
    | .ret d => M.ok (.ret d)) (M.ok (.go a))
open Classical in
noncomputable def wloop (xt : γ → M D) (f : γ → M (Lo γ)) (a : γ) : M (Lo γ) := fun F => if h : ∃ n, wstep xt f n a F ≠ .bad then wstep xt f h.choose a F else .bad
theorem whileL_more {t : GE} {body : GS} : ∀ (n m : Nat) (r : En) (B : Bs), whileL t body n r B ≠ .bad → n ≤ m → whileL t body m r B = whileL t body n r B
  | 0, _, _, _, h, _ => absurd rfl h
  | n + 1, 0, _, _, _, h => absurd h (by omega)
  | n + 1, m + 1, r, B, h, hm => by
    unfold whileL at h ⊢
    cases e : t r B with
    | ok s B1 =>
      rw [e] at h
      cases s with
      | dat d =>
        cases d with
        | bool b =>
          cases b with
          | true =>
            dsimp only at h ⊢
            cases e2 : body r B1 with
            | nx r2 B2 => rw [e2] at h; exact whileL_more n m r2 B2 h (by omega)
            | ct r2 B2 => rw [e2] at h; exact whileL_more n m r2 B2 h (by omega)
            | _ => rfl
          | false => rfl
        | _ => rfl
      | _ => rfl
    | exc c fs B1 => rfl
    | bad => rfl
theorem sWhile_at {t : GE} {body : GS} {n : Nat} {r : En} {B : Bs} (h : whileL t body n r B ≠ .bad) : sWhile t body r B = whileL t body n r B := by
  unfold sWhile
  have hx : ∃ n, whileL t body n r B ≠ .bad := ⟨n, h⟩
  rw [dif_pos hx]
  have hc := hx.choose_spec
  rcases Nat.le_total n hx.choose with q | q
  · exact whileL_more _ _ _ _ h q
  · exact (whileL_more _ _ _ _ hc q).symm
theorem spost_bad {B0 : Bs} {n : Nat} {x : Ro (Lo γ)} (h : SPost (RO mk) B0 n x .bad) : x = .bad := by
  cases x with
  | ok l F =>
    cases l with
    | go a => obtain ⟨_, _, e, _⟩ := h; cases e
    | brk a => obtain ⟨_, _, e, _⟩ := h; cases e
    | ret d => obtain ⟨_, _, e⟩ := h; cases e
  | exc c fs F => obtain ⟨_, _, e, _⟩ := h; cases e
  | bad => rfl
theorem wstep_ok {xt : γ → M D} {f : γ → M (Lo γ)} {B0 : Bs} (ht : ∀ a, EE (mk a) gt (xt a)) (hb : ∀ a, EC (RL mk) (mk a) gb (f a)) : ∀ (n : Nat) (a : γ) (F : Fd) (T : Bs) (r : En), In (mk a) B0 T r → SPost (RO mk) B0 r.length (wstep xt f n a F) (whileL gt gb n r (stf F B0 T))
  | 0, a, F, T, r, hi => trivial
  | n + 1, a, F, T, r, hi => by
    have q := ht a F B0 T r hi
    unfold wstep whileL M.bind
    revert q
    cases xt a F with
    | ok d F1 =>
      rintro ⟨s, T1, e1, rfl, t1, x1⟩
      rw [e1]
      have i1 := hi.ext x1 t1
      cases d with
      | bool b =>
        cases b with
        | true =>
          dsimp only [M.ite]
          have q2 := hb a F1 B0 T1 r i1
          revert q2
          cases f a F1 with
          | ok l F2 =>
            cases l with
            | go b =>
              rintro ⟨r2, T2, e2, i2, l2⟩
              have ih := wstep_ok ht hb n b F2 T2 r2 i2
              rw [l2] at ih
              rcases e2 with e2 | e2 <;> rw [e2] <;> exact ih
            | brk b =>
              rintro ⟨r2, T2, e2, i2, l2⟩
              rw [e2]
              exact ⟨r2, T2, rfl, i2, l2⟩
            | ret d =>
              rintro ⟨T2, t2, e2⟩
              rw [e2]
              exact ⟨T2, t2, rfl⟩
          | exc c fs F2 =>
            rintro ⟨r2, T2, e2, q⟩
            rw [e2]
            exact ⟨r2, T2, rfl, q⟩
          | bad => exact fun _ => trivial
        | false => exact ⟨r, T1, rfl, i1, rfl⟩
      | _ => trivial
    | exc c fs F1 =>
      rintro ⟨T1, e1, t1⟩
      rw [e1]
      exact ⟨r, T1, rfl, t1, rfl⟩
    | bad => exact fun _ => trivial
theorem while_ {xt : γ → M D} {f : γ → M (Lo γ)} {k : γ → M ρ} {kr : D → M ρ} (hl : Le L (mk a0)) (ht : ∀ a, EE (mk a) gt (xt a)) (hb : ∀ a, EC (RL mk) (mk a) gb (f a)) (hr : Rets R kr) (h2 : ∀ a, EC R (mk a) g2 (k a)) : EC R L (sSeq (sWhile gt gb) g2) (M.bind (wloop xt f a0) fun l => elim l k kr) := fun F B0 T r hi => by
  unfold M.bind wloop
  by_cases hx : ∃ n, wstep xt f n a0 F ≠ .bad
  case neg => rw [dif_neg hx]; trivial
  rw [dif_pos hx]
  have hne := hx.choose_spec
  generalize hx.choose = n at hne
  have q := wstep_ok ht hb n a0 F T r ⟨hi.b, hi.t, hi.a.le hl⟩
  have hw : whileL gt gb n r (stf F B0 T) ≠ .bad := fun z => hne (spost_bad (by rw [z] at q; exact q))
  unfold sSeq
  rw [sWhile_at hw]
  clear hne hw
  revert q
  cases wstep xt f n a0 F with
  | ok l F2 =>
    cases l with
    | go a =>
      rintro ⟨r2, T2, e2, i2, l2⟩
      rw [e2, ← l2]
      exact h2 a F2 B0 T2 r2 i2
    | brk a =>
      rintro ⟨r2, T2, e2, i2, l2⟩
      rw [e2, ← l2]
      exact h2 a F2 B0 T2 r2 i2
    | ret d =>
      rintro ⟨T2, t2, e2⟩
      rw [e2]
      obtain ⟨a, ea, q⟩ := hr d F2
      show SPost R B0 _ (kr d F2) _
      rw [ea]
      exact q B0 _ T2 t2
  | exc c fs F2 =>
    rintro ⟨r2, T2, e2, q⟩
    rw [e2]
    exact ⟨r2, T2, rfl, q⟩
  | bad => exact fun _ => trivial
/-! ### errors -/
theorem fs_dat (fl : List Str) (ds : List D) : fsOf fl (ds.map S.dat) = dfs (fsOf fl ds) := by
  unfold fsOf dfs
  rw [List.map_reverse, List.zip_map_right]
  rfl
/-- arguments, as a list -/
def EL (L : List Sl) (ga : GA) (n : Nat) (x : M (List D)) : Prop := ∀ (F : Fd) (B0 T : Bs) (r : En), In L B0 T r → match x F with
  | .ok ds F1 => ∃ T', ga r (stf F B0 T) = .ok (ds.map .dat) (stf F1 B0 T') ∧ Flat T' ∧ Ext T T' ∧ ds.length = n
  | .exc c fs F1 => ∃ T', ga r (stf F B0 T) = .exc c (dfs fs) (stf F1 B0 T') ∧ Flat T'
  | .bad => True
theorem el_nil : EL L PN.gNil 0 (M.ok []) := fun F B0 T r hi => ⟨T, rfl, hi.t, Ext.refl T, rfl⟩
theorem el_cons {ga : GA} {xs : M (List D)} (h : EE L ge xe) (h2 : EL L ga n xs) : EL L (PN.gCons ge ga) (n + 1) (M.bind xe fun d => M.bind xs fun ds => M.ok (d :: ds)) := fun F B0 T r hi => by
  have q := h F B0 T r hi
  unfold PN.gCons aBind M.bind
  revert q
  cases xe F with
  | ok d F1 =>
    rintro ⟨s, T1, e1, rfl, t1, x1⟩
    rw [e1]
    have q2 := h2 F1 B0 T1 r (hi.ext x1 t1)
    unfold aBindA
    dsimp only
    revert q2
    cases xs F1 with
    | ok ds F2 =>
      rintro ⟨T2, e2, t2, x2, l2⟩
      rw [e2]
      exact ⟨T2, rfl, t2, x1.trans x2, by rw [List.length_cons, l2]⟩
    | exc c fs F2 =>
      rintro ⟨T2, e2, t2⟩
      rw [e2]
      exact ⟨T2, rfl, t2⟩
    | bad => exact fun _ => trivial
  | exc c fs F1 =>
    rintro ⟨T1, e1, t1⟩
    rw [e1]
    exact ⟨T1, rfl, t1⟩
  | bad => exact fun _ => trivial
theorem raise_ {c : Str} {fl : List Str} {ga : GA} {xs : M (List D)} (h : EL L ga n xs) (hn : n = fl.length) (hs : n ≤ 100) : EC R L (sSeq (sRaise c fl ga) g) (M.bind xs fun ds => M.exc c (fsOf fl ds)) := fun F B0 T r hi => by
  have q := h F B0 T r hi
  unfold sSeq sRaise M.bind
  revert q
  cases xs F with
  | ok ds F1 =>
    rintro ⟨T1, e1, t1, x1, l1⟩
    rw [e1]
    dsimp only
    rw [if_pos (by rw [List.length_map]; omega), fs_dat]
    exact ⟨r, T1, rfl, t1, rfl⟩
  | exc c fs F1 =>
    rintro ⟨T1, e1, t1⟩
    rw [e1]
    exact ⟨r, T1, rfl, t1, rfl⟩
  | bad => exact fun _ => trivial
def xItD (fs : List (Str × D)) : XI → Option D
  | .inl s => some (.str s)
  | .inr f => fs.lookup f
def xItsD (fs : List (Str × D)) : List XI → Option (List D)
  | [] => some []
  | x :: r => match xItD fs x, xItsD fs r with
    | some d, some ds => some (d :: ds)
    | _, _ => none
theorem lookup_dfs (fs : List (Str × D)) (f : Str) : (dfs fs).lookup f = (fs.lookup f).map S.dat := by
  induction fs with
  | nil => rfl
  | cons p fs ih =>
    obtain ⟨a, b⟩ := p
    show (((a, S.dat b) : Str × S) :: dfs fs).lookup f = _
    rw [List.lookup_cons, List.lookup_cons]
    cases f == a with
    | true => rfl
    | false => exact ih
theorem xIts_dat (fs : List (Str × D)) : ∀ l : List XI, xItems (dfs fs) l = xItsD fs l
  | [] => rfl
  | x :: r => by
    unfold xItems xItsD
    rw [xIts_dat fs r]
    have : xItem (dfs fs) x = xItD fs x := by
      cases x with
      | inl s => rfl
      | inr f =>
        show (match (dfs fs).lookup f with | some (.dat d) => some d | _ => none) = fs.lookup f
        rw [lookup_dfs]
        cases fs.lookup f <;> rfl
    rw [this]
    cases xItD fs x <;> cases xItsD fs r <;> rfl
/-- try: .. except c as e: return (..) -/
def tryR (x : Ro D) (c : Str) (l : List XI) : Ro D := match x with
  | .exc c' fs F1 => if c' = c then (match xItsD fs l with
    | some ds => .ok (.tuple ds) F1
    | none => .bad) else .bad
  | y => y
def tryX (x : M D) (c : Str) (l : List XI) : M D := fun F => tryR (x F) c l
theorem xIts_len (fs : List (Str × D)) : ∀ (l : List XI) (ds : List D), xItsD fs l = some ds → ds.length = l.length
  | [], ds, h => by cases h; rfl
  | x :: r, ds, h => by
    unfold xItsD at h
    split at h
    · rename_i e1 e2
      cases h
      rw [List.length_cons, List.length_cons, xIts_len fs r _ e2]
    · cases h
/-- hands back for certain -/
def RX : RT D := fun d F B0 n y => ∃ T', Flat T' ∧ y = .ret (.dat d) (stf F B0 T')
theorem rets_x : Rets RX M.ok := fun d F => ⟨d, rfl, fun B0 n T' h => ⟨T', h, rfl⟩⟩
theorem try_ {c : Str} {l : List XI} {x : M D} {kr : D → M ρ} (h : EC RX L g x) (hi : i < L.length) (hl : l.length ≤ 100) (hr : Rets R kr) : EC R L (sSeq (sTryR g i (tbX c) l) g2) (M.bind (tryX x c l) kr) := fun F B0 T r hin => by
  have q := h F B0 T r hin
  have back : ∀ d F1 T1, Flat T1 → SPost R B0 r.length (kr d F1) (.ret (.dat d) (stf F1 B0 T1)) := fun d F1 T1 t1 => by
    obtain ⟨a, ea, q⟩ := hr d F1
    rw [ea]
    exact q B0 _ T1 t1
  unfold sSeq sTryR M.bind
  rw [show tryX x c l F = tryR (x F) c l from rfl]
  unfold tryR
  revert q
  cases x F with
  | ok d F1 =>
    rintro ⟨T1, t1, q⟩
    rw [q]
    exact back d F1 T1 t1
  | exc c' fs F1 =>
    rintro ⟨r1, T1, e1, t1, l1⟩
    rw [e1]
    dsimp only [tbX]
    by_cases hc : c' = c
    · rw [if_pos hc, if_pos hc]
      dsimp only
      rw [xIts_dat]
      cases q : xItsD fs l with
      | none => trivial
      | some ds =>
        dsimp only
        rw [if_pos ⟨sz_small (by rw [xIts_len fs l ds q]; omega), by rw [l1, ← hin.a.len]; exact hi⟩]
        exact back _ F1 T1 t1
    · rw [if_neg hc]
      trivial
  | bad => exact fun _ => trivial
/-! ### defs -/
theorem args_at {B : Bs} {ps : List Sl} {ss : List S} {n : Nat} (h : ArgsOk B ps ss) (ho : ∀ l ∈ ps, ∀ j ds, l ≠ .own j ds) : At (ps ++ List.replicate (n - ps.length) .any) B [] (ss.map some ++ List.replicate (n - ss.length) none) := by
  have hl := paired_len h
  refine ⟨by simp [hl], fun i l e => ?_, fun i k j ds es e1 => ?_⟩
  · by_cases q : i < ps.length
    · rw [List.getElem?_append_left q] at e
      obtain ⟨s, h1, h2⟩ := paired_get h e
      exact ⟨some s, by rw [List.getElem?_append_left (by rw [List.length_map, ← hl]; exact q), List.getElem?_map, h1]; rfl, h2⟩
    · rw [List.getElem?_append_right (by omega), List.getElem?_replicate] at e
      split at e
      · cases e
        rename_i z
        exact ⟨none, by rw [List.getElem?_append_right (by rw [List.length_map]; omega), List.getElem?_replicate, List.length_map, ← hl, if_pos z], trivial⟩
      · cases e
  · by_cases q : i < ps.length
    · rw [List.getElem?_append_left q] at e1
      exact absurd rfl (ho _ (List.mem_of_getElem? e1) j ds)
    · rw [List.getElem?_append_right (by omega), List.getElem?_replicate] at e1
      split at e1 <;> cases e1
theorem def_d {b : GS} {ps : List Sl} {x : M D} (hL : ps ++ List.replicate (n - ps.length) .any = L) (ho : ∀ l ∈ ps, ∀ j ds, l ≠ .own j ds) (h : EC RD L b x) : EvA (gFn n b) ps x := fun F B T ss hB hT ha => by
  have hf : Flat (stf F B T) := flat_feed (hB.app hT)
  have q := h F (B ++ T) [] _ ⟨hB.app hT, Flat.nil, by rw [← hL]; exact args_at ha ho⟩
  have e0 : stf F (B ++ T) [] = stf F B T := by
    show fdo F :: ((B ++ T) ++ []) = _
    rw [List.append_nil]
  rw [e0] at q
  have cutT : ∀ F1 (T1 : Bs), List.take (stf F B T).length (stf F1 (B ++ T) T1) = stf F1 B T := fun F1 T1 => by
    show List.take ((B ++ T).length + 1) (fdo F1 :: ((B ++ T) ++ T1)) = _
    rw [List.take_succ_cons, List.take_left]
  unfold gFn
  revert q
  cases x F with
  | ok d F1 =>
    rintro ⟨T1, t1, q⟩
    have hf1 : Flat (stf F1 (B ++ T) T1) := flat_feed ((hB.app hT).app t1)
    rcases q with q | ⟨rfl, r', q⟩
    · rw [q]
      exact ⟨T, by dsimp only; rw [endF_dat hf1, cutT], hT, Ext.refl T⟩
    · rw [q]
      exact ⟨T, by dsimp only; rw [endF_dat hf1, cutT], hT, Ext.refl T⟩
  | exc c fs F1 =>
    rintro ⟨r1, T1, e1, t1, _⟩
    have hf1 : Flat (stf F1 (B ++ T) T1) := flat_feed ((hB.app hT).app t1)
    rw [e1]
    exact ⟨T, by dsimp only; rw [endX_dat hf1 (dfs_flat fs), cutT], hT⟩
  | bad => exact fun _ => trivial
theorem def_k {b : GS} {ps : List Sl} {x : M (List D)} (hL : ps ++ List.replicate (n - ps.length) .any = L) (ho : ∀ l ∈ ps, ∀ j ds, l ≠ .own j ds) (h : EC RK L b x) : EvK (gFnK n b) ps x := fun F B T ss hB hT ha => by
  have q := h F (B ++ T) [] _ ⟨hB.app hT, Flat.nil, by rw [← hL]; exact args_at ha ho⟩
  have e0 : stf F (B ++ T) [] = stf F B T := by
    show fdo F :: ((B ++ T) ++ []) = _
    rw [List.append_nil]
  rw [e0] at q
  have e2 : ∀ F1 (T1 : Bs), stf F1 (B ++ T) T1 = stf F1 B (T ++ T1) := fun F1 T1 => by
    show fdo F1 :: ((B ++ T) ++ T1) = _
    rw [List.append_assoc]
  unfold gFnK
  revert q
  cases x F with
  | ok ds F1 =>
    rintro ⟨j, T1, t1, q, g⟩
    rw [q]
    refine ⟨T.length + j, T ++ T1, ?_, hT.app t1, Ext.app T T1, Nat.le_add_right _ _, by rw [List.getElem?_append_right (by omega), show T.length + j - T.length = j by omega]; exact g⟩
    dsimp only
    rw [e2, List.length_append, show B.length + T.length + j + 1 = B.length + (T.length + j) + 1 by omega]
  | exc c fs F1 =>
    rintro ⟨r1, T1, e1, t1, _⟩
    rw [e1]
    exact ⟨T ++ T1, by dsimp only; rw [e2], hT.app t1⟩
  | bad => exact fun _ => trivial
end
end PO

set_option maxRecDepth 100000
set_option maxHeartbeats 4000000
/-! PO, seventh part: targets with parts; the draw; the law's own def. -/
namespace PO
open PySem L2 PN
section
variable {ρ : Type} {R : RT ρ} {L : List Sl} {g : GS} {t : GT} {d : D} {gt ge : GE}
theorem tc_un2 {k : D → D → M ρ} (h : ∀ a b, TC R L t g (.tuple [a, b]) (k a b)) : TC R L t g d (un2 d k) := un2_by (P := fun d x => TC R L t g d x) h tc_bad
theorem tc_un3 {k : D → D → D → M ρ} (h : ∀ a b c, TC R L t g (.tuple [a, b, c]) (k a b c)) : TC R L t g d (un3 d k) := un3_by (P := fun d x => TC R L t g d x) h tc_bad
theorem tc_un4 {k : D → D → D → D → M ρ} (h : ∀ a b c e, TC R L t g (.tuple [a, b, c, e]) (k a b c e)) : TC R L t g d (un4 d k) := un4_by (P := fun d x => TC R L t g d x) h tc_bad
theorem tc_un5 {k : D → D → D → D → D → M ρ} (h : ∀ a b c e f, TC R L t g (.tuple [a, b, c, e, f]) (k a b c e f)) : TC R L t g d (un5 d k) := un5_by (P := fun d x => TC R L t g d x) h tc_bad
theorem tc_un6 {k : D → D → D → D → D → D → M ρ} (h : ∀ a b c e f i, TC R L t g (.tuple [a, b, c, e, f, i]) (k a b c e f i)) : TC R L t g d (un6 d k) := un6_by (P := fun d x => TC R L t g d x) h tc_bad
theorem cb_un2 {k : D → D → M (Option D)} (h : ∀ a b, CB L t gt ge (.tuple [a, b]) (k a b)) : CB L t gt ge d (un2 d k) := un2_by (P := fun d x => CB L t gt ge d x) h cb_bad
theorem cb_un3 {k : D → D → D → M (Option D)} (h : ∀ a b c, CB L t gt ge (.tuple [a, b, c]) (k a b c)) : CB L t gt ge d (un3 d k) := un3_by (P := fun d x => CB L t gt ge d x) h cb_bad
theorem cb_un4 {k : D → D → D → D → M (Option D)} (h : ∀ a b c e, CB L t gt ge (.tuple [a, b, c, e]) (k a b c e)) : CB L t gt ge d (un4 d k) := un4_by (P := fun d x => CB L t gt ge d x) h cb_bad
theorem cb_un5 {k : D → D → D → D → D → M (Option D)} (h : ∀ a b c e f, CB L t gt ge (.tuple [a, b, c, e, f]) (k a b c e f)) : CB L t gt ge d (un5 d k) := un5_by (P := fun d x => CB L t gt ge d x) h cb_bad
theorem cb_un6 {k : D → D → D → D → D → D → M (Option D)} (h : ∀ a b c e f i, CB L t gt ge (.tuple [a, b, c, e, f, i]) (k a b c e f i)) : CB L t gt ge d (un6 d k) := un6_by (P := fun d x => CB L t gt ge d x) h cb_bad
end
/-! ### a call of what a slot holds -/
def TbE (L : List Sl) (n : Nat) (ga : GA) (l : List (Str × GF)) (x : Str) (X : M D) : Prop := (∀ m, l.lookup x = some m → EE L (gCall n m ga) X) ∧ (l.lookup x = none → X = M.bad)
section
variable {L : List Sl} {n i : Nat} {ga : GA} {l : List (Str × GF)} {x y : Str} {X X2 : M D} {m : GF}
theorem tb2_nil : TbE L n ga [] x M.bad := ⟨fun m e => (nomatch e), fun _ => rfl⟩
theorem tb2_cons (h : EE L (gCall n m ga) X) (h2 : TbE L n ga l x X2) : TbE L n ga ((y, m) :: l) x (if x = y then X else X2) := by
  unfold TbE
  rw [lookup_cons]
  by_cases q : x = y
  · rw [if_pos q, if_pos q]
    exact ⟨fun m' e => by cases e; exact h, fun e => (nomatch e)⟩
  · rw [if_neg q, if_neg q]
    exact h2
theorem e_callT (e : L[i]? = some (.fn x)) (h : TbE L n ga l x X) : EE L (gCallL n i (tbOf l) ga) X := fun F B0 T r hi => by
  have e1 : gCallL n i (tbOf l) ga r (stf F B0 T) = (match l.lookup x with | some m => gCall n m ga r (stf F B0 T) | none => .bad) := by
    unfold gCallL
    rw [hi.a.fn e]
    rfl
  rw [e1]
  cases q : l.lookup x with
  | none => rw [h.2 q]; trivial
  | some m => exact h.1 m q F B0 T r hi
end
def intM : D → M D := fun d => match d with | .int i => M.ok (.int i) | _ => M.bad
/-! ### the draw -/
def intsIn : List D → Option (List Int)
  | [] => some []
  | .int i :: r => (intsIn r).map (i :: ·)
  | _ :: _ => none
theorem intsIn_ok : ∀ {ds : List D} {cs : List Int}, intsIn ds = some cs → ds = cs.map .int
  | [], _, h => by cases h; rfl
  | .int i :: r, cs, h => by
    have h : (intsIn r).map (i :: ·) = some cs := h
    cases e : intsIn r with
    | none => rw [e] at h; cases h
    | some x => rw [e] at h; cases h; rw [intsIn_ok e]; rfl
theorem intsIn_map (cs : List Int) : intsIn (cs.map .int) = some cs := by
  induction cs with
  | nil => rfl
  | cons c cs ih =>
    show (intsIn (cs.map .int)).map (c :: ·) = _
    rw [ih]
    rfl
def cellOf (c : List Int) (a : Nat) : Int := if 0 < (c.length : Int) then (c[a % c.length]?).getD 0 else 0
def drawF (c : List Int) (a : Nat) (r m : Int) : Int × Nat × Int :=
  if 0 < r then (r % m, a, r / m) else
  if 1000000000000000000 ≤ cellOf c a ∧ (a : Int) < (c.length : Int) then (cellOf c a % m, a + 1, cellOf c a / m) else
    (((((cellOf c a % 1000003 + 53 * a * a + 29 * a + 811) * 40009 % 2147483629) * ((cellOf c a % 1000003 + 53 * a * a + 29 * a + 811) * 40009 % 2147483629) + 38317 * a + 101) % 2147483587) * 48271 % 2147483563 / 7 % m, a + 1, r)
def drawM : D → M D
  | .int m => fun F => match intsIn F.c with
    | some c => if 0 < m ∧ m < 1073741824 ∧ F.a < 1000000000 ∧ 0 ≤ F.r then .ok (.int (drawF c F.a F.r m).1) ⟨F.c, (drawF c F.a F.r m).2.1, (drawF c F.a F.r m).2.2⟩ else .bad
    | none => .bad
  | _ => M.bad
/-! ### what is drawn: n numbers at most -/
/-- x, from any feed of ints, takes at most n numbers and makes what P tells -/
def Yl {α : Type} (n : Nat) (x : M α) (P : α → Prop) : Prop := ∀ F : Fd, (∃ c, intsIn F.c = some c) → F.a + n ≤ 1000000000 → 0 ≤ F.r → ∃ d F', x F = .ok d F' ∧ P d ∧ F'.c = F.c ∧ F'.a ≤ F.a + n ∧ 0 ≤ F'.r
theorem Yl.ok {α : Type} {a : α} {P : α → Prop} (h : P a) : Yl 0 (M.ok a) P := fun F _ _ h2 => ⟨a, F, rfl, h, rfl, Nat.le_refl _, h2⟩
theorem Yl.bind {α β : Type} {n m : Nat} {x : M α} {k : α → M β} {P : α → Prop} {Q : β → Prop} (h : Yl n x P) (h2 : ∀ a, P a → Yl m (k a) Q) : Yl (n + m) (M.bind x k) Q := fun F hc ha hr => by
  obtain ⟨d, F1, e1, p1, c1, a1, r1⟩ := h F hc (by omega) hr
  obtain ⟨d2, F2, e2, p2, c2, a2, r2⟩ := h2 d p1 F1 (by rw [c1]; exact hc) (by omega) r1
  exact ⟨d2, F2, by unfold M.bind; rw [e1]; exact e2, p2, by rw [c2, c1], by omega, r2⟩
theorem Yl.up {α : Type} {n m : Nat} {x : M α} {P Q : α → Prop} (h : Yl n x P) (hn : n ≤ m) (hp : ∀ a, P a → Q a) : Yl m x Q := fun F hc ha hr => by
  obtain ⟨d, F1, e1, p1, c1, a1, r1⟩ := h F hc (by omega) hr
  exact ⟨d, F1, e1, hp d p1, c1, by omega, r1⟩
theorem Yl.draw {m : Int} (h : 0 < m) (h2 : m < 1073741824) : Yl 1 (drawM (.int m)) fun d => ∃ i, d = .int i ∧ 0 ≤ i ∧ i < m := fun F hc ha hr => by
  obtain ⟨c, hc⟩ := hc
  have e : drawM (.int m) F = .ok (.int (drawF c F.a F.r m).1) ⟨F.c, (drawF c F.a F.r m).2.1, (drawF c F.a F.r m).2.2⟩ := by
    unfold drawM
    dsimp only
    rw [hc]
    dsimp only
    rw [if_pos ⟨h, h2, by omega, hr⟩]
  refine ⟨_, _, e, ⟨_, rfl, ?_, ?_⟩, rfl, ?_, ?_⟩
  · unfold drawF; split
    · exact Int.emod_nonneg _ (by omega)
    · split
      · exact Int.emod_nonneg _ (by omega)
      · exact Int.emod_nonneg _ (by omega)
  · unfold drawF; split
    · exact Int.emod_lt_of_pos _ h
    · split
      · exact Int.emod_lt_of_pos _ h
      · exact Int.emod_lt_of_pos _ h
  · unfold drawF; split
    · exact Nat.le_succ _
    · split <;> exact Nat.le_refl _
  · unfold drawF; split
    · rename_i q; exact Int.ediv_nonneg (by omega) (by omega)
    · split
      · rename_i q; exact Int.ediv_nonneg (by omega) (by omega)
      · exact hr
/-! ### the law's own def -/
/-- behind its first row, which makes the feed -/
theorem law_begin {b : GS} {g0 g : GS} {ns : List Int} {n : Nat} {x : M D} {F1 : Fd} {c : List D} (hb : b = sSeq g0 g) (h0 : g0 (some (.scr ns) :: List.replicate (n + 1) none) [] = .nx (some (.scr ns) :: some (.ref 0) :: List.replicate n none) [fcell c 0 0]) (h : EC RD (.any :: .fd :: List.replicate n .any) g x) (hx : x ⟨c, 0, 0⟩ = .ok (.bool true) F1) :
    ∃ B', gFn (n + 2) b [.scr ns] [] = .ok (.dat (.bool true)) B' := by
  have q := h ⟨c, 0, 0⟩ [] [] (some (.scr ns) :: some (.ref 0) :: List.replicate n none) ⟨Flat.nil, Flat.nil, ⟨by simp, fun i l e => ?_, fun i k j ds es e => ?_⟩⟩
  · rw [hx] at q
    have e1 : b ([S.scr ns].map some ++ List.replicate (n + 2 - [S.scr ns].length) none) [] = g (some (.scr ns) :: some (.ref 0) :: List.replicate n none) [fcell c 0 0] := by
      rw [hb]
      show sSeq g0 g (some (.scr ns) :: List.replicate (n + 1) none) [] = _
      unfold sSeq
      rw [h0]
    unfold gFn
    rw [e1]
    obtain ⟨T', t', q⟩ := q
    have hf : Flat (stf F1 [] T') := flat_feed (Flat.nil.app t')
    rcases q with q | ⟨z, _⟩
    · have q : g (some (.scr ns) :: some (.ref 0) :: List.replicate n none) [fcell c 0 0] = _ := q
      rw [q]
      exact ⟨_, endF_dat hf _ _⟩
    · cases z
  · match i with
    | 0 => cases e; exact ⟨some (.scr ns), rfl, trivial⟩
    | 1 => cases e; exact ⟨some (.ref 0), rfl, rfl⟩
    | i + 2 =>
      rw [List.getElem?_cons_succ, List.getElem?_cons_succ, List.getElem?_replicate] at e ⊢
      split at e
      · rename_i z; rw [if_pos z]; cases e; exact ⟨none, rfl, trivial⟩
      · cases e
  · match i with
    | 0 => cases e
    | 1 => cases e
    | i + 2 =>
      rw [List.getElem?_cons_succ, List.getElem?_cons_succ, List.getElem?_replicate] at e
      split at e <;> cases e
end PO

set_option maxRecDepth 100000
set_option maxHeartbeats 4000000
/-! PO, eighth part: the draw's def. -/
namespace Dw
open PySem L2 PN
open PO (drawF)
noncomputable def bDraw : GS :=
    (sSeq (sIf (gP2 pGt (gP2 pIx (gVar 0) (gC (.dat (.int 2)))) (gC (.dat (.int 0)))) (sSeq (sAsg (gP2 pMod (gP2 pIx (gVar 0) (gC (.dat (.int 2)))) (gVar 1)) (tName 2))
    (sSeq (sSetI (gP2 pFdiv (gP2 pIx (gVar 0) (gC (.dat (.int 2)))) (gVar 1)) (gVar 0) (gC (.dat (.int 2))))
    (sRet (gVar 2)))) sPass)
    (sSeq (sAsg (gP2 pIx (gVar 0) (gC (.dat (.int 1)))) (tName 3))
    (sSeq (sSetI (gP2 pAdd (gVar 3) (gC (.dat (.int 1)))) (gVar 0) (gC (.dat (.int 1))))
    (sSeq (sAsg (gIf (gP2 pGt (gPN pLen (gCons (gP2 pIx (gVar 0) (gC (.dat (.int 0)))) gNil)) (gC (.dat (.int 0)))) (gP2 pIx (gP2 pIx (gVar 0) (gC (.dat (.int 0)))) (gP2 pMod (gVar 3) (gPN pLen (gCons (gP2 pIx (gVar 0) (gC (.dat (.int 0)))) gNil)))) (gC (.dat (.int 0)))) (tName 4))
    (sSeq (sIf (gAnd (gP2 pGe (gVar 4) (gP2 pPow (gC (.dat (.int 10))) (gC (.dat (.int 18))))) (gP2 pLt (gVar 3) (gPN pLen (gCons (gP2 pIx (gVar 0) (gC (.dat (.int 0)))) gNil)))) (sSeq (sSetI (gP2 pFdiv (gVar 4) (gVar 1)) (gVar 0) (gC (.dat (.int 2))))
    (sRet (gP2 pMod (gVar 4) (gVar 1)))) sPass)
    (sSeq (sAsg (gP2 pMod (gP2 pMul (gP2 pAdd (gP2 pAdd (gP2 pAdd (gP2 pMod (gVar 4) (gC (.dat (.int 1000003)))) (gP2 pMul (gP2 pMul (gC (.dat (.int 53))) (gVar 3)) (gVar 3))) (gP2 pMul (gC (.dat (.int 29))) (gVar 3))) (gC (.dat (.int 811)))) (gC (.dat (.int 40009)))) (gC (.dat (.int 2147483629)))) (tName 5))
    (sSeq (sAsg (gP2 pMod (gP2 pAdd (gP2 pAdd (gP2 pMul (gVar 5) (gVar 5)) (gP2 pMul (gC (.dat (.int 38317))) (gVar 3))) (gC (.dat (.int 101)))) (gC (.dat (.int 2147483587)))) (tName 5))
    (sRet (gP2 pMod (gP2 pFdiv (gP2 pMod (gP2 pMul (gVar 5) (gC (.dat (.int 48271)))) (gC (.dat (.int 2147483563)))) (gC (.dat (.int 7)))) (gVar 1))))))))))
theorem p_mulM {i j : Int} {B : Bs} : pMul [.dat (.int (i % 2147483629)), .dat (.int j)] B = some (.dat (.int (i % 2147483629 * j)), B) := p_mulI (.inl ⟨by omega, by omega⟩)
theorem atI_cell {c : List Int} {a : Nat} (h : 0 < (c.length : Int)) : atI ((c.map PyData.int).map S.dat) ((a : Int) % ((c.map PyData.int).length : Int)) = some (.dat (.int (PO.cellOf c a))) := by
  obtain ⟨x, e⟩ := atI_int (c := c) (i := (a : Int) % ((List.map PyData.int c).length : Int)) (Int.emod_nonneg _ (by rw [List.length_map]; omega)) (by have := Int.emod_lt_of_pos (a : Int) h; rw [List.length_map]; exact this)
  rw [e]
  have e2 := e
  unfold atI at e2
  simp only [List.length_map] at e2
  have hl : (a : Int) % (c.length : Int) = ((a % c.length : Nat) : Int) := rfl
  rw [hl] at e2
  have hlt : a % c.length < c.length := Nat.mod_lt _ (by omega)
  have hi : ixN c.length ((a % c.length : Nat) : Int) = some (a % c.length) := by
    unfold ixN
    first
      | (rw [if_pos (by omega), if_pos (by omega)]; rfl)
      | (split <;> simp_all <;> omega)
  rw [hi] at e2
  have e2 : ((c.map PyData.int).map S.dat)[a % c.length]? = some (.dat (.int x)) := e2
  rw [List.getElem?_map, List.getElem?_map, List.getElem?_eq_getElem hlt] at e2
  have e3 : x = c[a % c.length] := by
    have := Option.some.inj e2
    injection this with this
    injection this with this
    exact this.symm
  have e4 : PO.cellOf c a = c[a % c.length] := by
    unfold PO.cellOf
    rw [if_pos h, List.getElem?_eq_getElem hlt]
    rfl
  rw [e4, e3]
theorem draw_eq (c : List Int) (m : Int) (hm : 0 < m) (hm2 : m < 1073741824) (a : Nat) (r : Int) (B0 : Bs) (ha : a < 1000000000) (hr : 0 ≤ r) (hB : Flat B0) :
    gFn 6 bDraw [.ref 0, .dat (.int m)] (fcell (c.map .int) a r :: B0) = .ok (.dat (.int (drawF c a r m).1)) (fcell (c.map .int) (drawF c a r m).2.1 (drawF c a r m).2.2 :: B0) := by
  simp -implicitDefEqProofs only [e_P2, e_k2, e_k1, e_P1, e_k0, e_lift, e_C, gVar, e_nil, e_cons, e_kc, e_kd, e_PN, e_kN, e_call, e_kCall, e_if, e_kIf_t, e_kIf_f, e_and, e_kAnd_t, e_kAnd_f, e_or, e_kOr_t, e_kOr_f, e_not, e_kNot, e_seq, e_kS_nx, e_kS_ret, e_kS_brk, e_kS_ct, e_kS_exc, e_pass, e_brk, e_ct, e_sif, e_kSIf_t, e_kSIf_f, e_asg, e_kAsg, e_kO, e_name, e_ret, e_kRet, e_kRet_x, e_drop, e_kDrop, e_set, e_kSet, e_kSet2, e_kSet3, e_kSet4, e_fn, e_kFn_ret, e_kFn_nx, e_kFn_exc, e_fnK, e_kFnK_ret, e_mt, e_kMt2, e_isi, e_kIs, e_kI, e_chain, e_kCh, e_kCh2, e_kCh3_t, e_kCh3_f, e_shut, e_kSh, e_sl, e_kSl, e_kSl2n, e_kSl2i, e_kSl3, e_part, e_kPart, List.map_cons, List.map_nil, List.length_cons, List.length_nil, List.replicate, List.cons_append, List.nil_append, List.getElem?_cons_zero, List.getElem?_cons_succ, List.set_cons_zero, List.set_cons_succ, Nat.reduceSub, Nat.reduceAdd, Nat.zero_add, if_true, if_false, reduceIte, p_ix, itemS, l_dat, l_scr, l_ref0, atI_0, atI_1, atI_2, atI_3, Option.map_some, Option.bind_some, p_gtI, p_ltI, p_geI, p_leI, p_ltS, p_eqI, p_neI, p_eqS, p_neS, p_addI, p_subI, p_negI, p_lenL, p_lenT, p_intB, v_dat, l_tup, a_tup, p_isN, p_notN, set_feed1, set_feed2, p_pow9, p_pow12, p_pow18, e_iter, e_kIter_t, e_kIter_l, e_kIter_s, e_r1, e_zip, e_kZip, zip2_t, zip2_l, e_for, e_kFor, e_lc, e_try, e_kTry_ret, e_raise, e_kRaise, e_callL, ts_nil, ts_cons, e_kMtS, gYes, x_k2, x_k1, x_kc, x_kd, x_kN, x_kCall, x_kIf, x_kSIf, x_kAsg, x_kDrop, Bool.false_eq_true, Bool.not_true, Bool.not_false, tup_2, tup_3, tup_4, p_tup0, p_lst0, p_tup1, p_lst1, p_tup2, p_lst2, p_tup3, p_lst3, p_tup4, p_lst4, p_tup5, p_lst5, p_tup6, p_lst6, p_tup7, p_lst7, p_tup8, p_lst8]
  unfold bDraw
  simp -implicitDefEqProofs only [e_P2, e_k2, e_k1, e_P1, e_k0, e_lift, e_C, gVar, e_nil, e_cons, e_kc, e_kd, e_PN, e_kN, e_call, e_kCall, e_if, e_kIf_t, e_kIf_f, e_and, e_kAnd_t, e_kAnd_f, e_or, e_kOr_t, e_kOr_f, e_not, e_kNot, e_seq, e_kS_nx, e_kS_ret, e_kS_brk, e_kS_ct, e_kS_exc, e_pass, e_brk, e_ct, e_sif, e_kSIf_t, e_kSIf_f, e_asg, e_kAsg, e_kO, e_name, e_ret, e_kRet, e_kRet_x, e_drop, e_kDrop, e_set, e_kSet, e_kSet2, e_kSet3, e_kSet4, e_fn, e_kFn_ret, e_kFn_nx, e_kFn_exc, e_fnK, e_kFnK_ret, e_mt, e_kMt2, e_isi, e_kIs, e_kI, e_chain, e_kCh, e_kCh2, e_kCh3_t, e_kCh3_f, e_shut, e_kSh, e_sl, e_kSl, e_kSl2n, e_kSl2i, e_kSl3, e_part, e_kPart, List.map_cons, List.map_nil, List.length_cons, List.length_nil, List.replicate, List.cons_append, List.nil_append, List.getElem?_cons_zero, List.getElem?_cons_succ, List.set_cons_zero, List.set_cons_succ, Nat.reduceSub, Nat.reduceAdd, Nat.zero_add, if_true, if_false, reduceIte, p_ix, itemS, l_dat, l_scr, l_ref0, atI_0, atI_1, atI_2, atI_3, Option.map_some, Option.bind_some, p_gtI, p_ltI, p_geI, p_leI, p_ltS, p_eqI, p_neI, p_eqS, p_neS, p_addI, p_subI, p_negI, p_lenL, p_lenT, p_intB, v_dat, l_tup, a_tup, p_isN, p_notN, set_feed1, set_feed2, p_pow9, p_pow12, p_pow18, e_iter, e_kIter_t, e_kIter_l, e_kIter_s, e_r1, e_zip, e_kZip, zip2_t, zip2_l, e_for, e_kFor, e_lc, e_try, e_kTry_ret, e_raise, e_kRaise, e_callL, ts_nil, ts_cons, e_kMtS, gYes, x_k2, x_k1, x_kc, x_kd, x_kN, x_kCall, x_kIf, x_kSIf, x_kAsg, x_kDrop, Bool.false_eq_true, Bool.not_true, Bool.not_false, tup_2, tup_3, tup_4, p_tup0, p_lst0, p_tup1, p_lst1, p_tup2, p_lst2, p_tup3, p_lst3, p_tup4, p_lst4, p_tup5, p_lst5, p_tup6, p_lst6, p_tup7, p_lst7, p_tup8, p_lst8]
  by_cases q : 0 < r
  · rw [decide_eq_true q]
    simp -implicitDefEqProofs only [e_P2, e_k2, e_k1, e_P1, e_k0, e_lift, e_C, gVar, e_nil, e_cons, e_kc, e_kd, e_PN, e_kN, e_call, e_kCall, e_if, e_kIf_t, e_kIf_f, e_and, e_kAnd_t, e_kAnd_f, e_or, e_kOr_t, e_kOr_f, e_not, e_kNot, e_seq, e_kS_nx, e_kS_ret, e_kS_brk, e_kS_ct, e_kS_exc, e_pass, e_brk, e_ct, e_sif, e_kSIf_t, e_kSIf_f, e_asg, e_kAsg, e_kO, e_name, e_ret, e_kRet, e_kRet_x, e_drop, e_kDrop, e_set, e_kSet, e_kSet2, e_kSet3, e_kSet4, e_fn, e_kFn_ret, e_kFn_nx, e_kFn_exc, e_fnK, e_kFnK_ret, e_mt, e_kMt2, e_isi, e_kIs, e_kI, e_chain, e_kCh, e_kCh2, e_kCh3_t, e_kCh3_f, e_shut, e_kSh, e_sl, e_kSl, e_kSl2n, e_kSl2i, e_kSl3, e_part, e_kPart, List.map_cons, List.map_nil, List.length_cons, List.length_nil, List.replicate, List.cons_append, List.nil_append, List.getElem?_cons_zero, List.getElem?_cons_succ, List.set_cons_zero, List.set_cons_succ, Nat.reduceSub, Nat.reduceAdd, Nat.zero_add, if_true, if_false, reduceIte, p_ix, itemS, l_dat, l_scr, l_ref0, atI_0, atI_1, atI_2, atI_3, Option.map_some, Option.bind_some, p_gtI, p_ltI, p_geI, p_leI, p_ltS, p_eqI, p_neI, p_eqS, p_neS, p_addI, p_subI, p_negI, p_lenL, p_lenT, p_intB, v_dat, l_tup, a_tup, p_isN, p_notN, set_feed1, set_feed2, p_pow9, p_pow12, p_pow18, e_iter, e_kIter_t, e_kIter_l, e_kIter_s, e_r1, e_zip, e_kZip, zip2_t, zip2_l, e_for, e_kFor, e_lc, e_try, e_kTry_ret, e_raise, e_kRaise, e_callL, ts_nil, ts_cons, e_kMtS, gYes, x_k2, x_k1, x_kc, x_kd, x_kN, x_kCall, x_kIf, x_kSIf, x_kAsg, x_kDrop, Bool.false_eq_true, Bool.not_true, Bool.not_false, tup_2, tup_3, tup_4, p_tup0, p_lst0, p_tup1, p_lst1, p_tup2, p_lst2, p_tup3, p_lst3, p_tup4, p_lst4, p_tup5, p_lst5, p_tup6, p_lst6, p_tup7, p_lst7, p_tup8, p_lst8, p_modI hm, p_fdivI hm hm2]
    have : drawF c a r m = (r % m, a, r / m) := by unfold drawF; rw [if_pos q]
    rw [this]
    exact end_feed hB _
  · rw [decide_eq_false q]
    simp -implicitDefEqProofs only [e_P2, e_k2, e_k1, e_P1, e_k0, e_lift, e_C, gVar, e_nil, e_cons, e_kc, e_kd, e_PN, e_kN, e_call, e_kCall, e_if, e_kIf_t, e_kIf_f, e_and, e_kAnd_t, e_kAnd_f, e_or, e_kOr_t, e_kOr_f, e_not, e_kNot, e_seq, e_kS_nx, e_kS_ret, e_kS_brk, e_kS_ct, e_kS_exc, e_pass, e_brk, e_ct, e_sif, e_kSIf_t, e_kSIf_f, e_asg, e_kAsg, e_kO, e_name, e_ret, e_kRet, e_kRet_x, e_drop, e_kDrop, e_set, e_kSet, e_kSet2, e_kSet3, e_kSet4, e_fn, e_kFn_ret, e_kFn_nx, e_kFn_exc, e_fnK, e_kFnK_ret, e_mt, e_kMt2, e_isi, e_kIs, e_kI, e_chain, e_kCh, e_kCh2, e_kCh3_t, e_kCh3_f, e_shut, e_kSh, e_sl, e_kSl, e_kSl2n, e_kSl2i, e_kSl3, e_part, e_kPart, List.map_cons, List.map_nil, List.length_cons, List.length_nil, List.replicate, List.cons_append, List.nil_append, List.getElem?_cons_zero, List.getElem?_cons_succ, List.set_cons_zero, List.set_cons_succ, Nat.reduceSub, Nat.reduceAdd, Nat.zero_add, if_true, if_false, reduceIte, p_ix, itemS, l_dat, l_scr, l_ref0, atI_0, atI_1, atI_2, atI_3, Option.map_some, Option.bind_some, p_gtI, p_ltI, p_geI, p_leI, p_ltS, p_eqI, p_neI, p_eqS, p_neS, p_addI, p_subI, p_negI, p_lenL, p_lenT, p_intB, v_dat, l_tup, a_tup, p_isN, p_notN, set_feed1, set_feed2, p_pow9, p_pow12, p_pow18, e_iter, e_kIter_t, e_kIter_l, e_kIter_s, e_r1, e_zip, e_kZip, zip2_t, zip2_l, e_for, e_kFor, e_lc, e_try, e_kTry_ret, e_raise, e_kRaise, e_callL, ts_nil, ts_cons, e_kMtS, gYes, x_k2, x_k1, x_kc, x_kd, x_kN, x_kCall, x_kIf, x_kSIf, x_kAsg, x_kDrop, Bool.false_eq_true, Bool.not_true, Bool.not_false, tup_2, tup_3, tup_4, p_tup0, p_lst0, p_tup1, p_lst1, p_tup2, p_lst2, p_tup3, p_lst3, p_tup4, p_lst4, p_tup5, p_lst5, p_tup6, p_lst6, p_tup7, p_lst7, p_tup8, p_lst8]
    have e : Ev.kIf (Re.ok (S.dat (PyData.bool (decide (0 < ((List.map PyData.int c).length : Int))))) (fcell (List.map PyData.int c) (a + 1) r :: B0)) (gP2 pIx (gP2 pIx (gVar 0) (gC (S.dat (PyData.int 0)))) (gP2 pMod (gVar 3) (gPN pLen (PN.gCons (gP2 pIx (gVar 0) (gC (S.dat (PyData.int 0)))) PN.gNil)))) (gC (S.dat (PyData.int 0))) [some (S.ref 0), some (S.dat (PyData.int m)), none, some (S.dat (PyData.int (a : Int))), none, none] = .ok (.dat (.int (PO.cellOf c a))) (fcell (List.map PyData.int c) (a + 1) r :: B0) := by
      by_cases hc : 0 < ((List.map PyData.int c).length : Int)
      · rw [decide_eq_true hc]
        have e := atI_cell (c := c) (a := a) (by rw [List.length_map] at hc; exact hc)
        simp -implicitDefEqProofs only [e_P2, e_k2, e_k1, e_P1, e_k0, e_lift, e_C, gVar, e_nil, e_cons, e_kc, e_kd, e_PN, e_kN, e_call, e_kCall, e_if, e_kIf_t, e_kIf_f, e_and, e_kAnd_t, e_kAnd_f, e_or, e_kOr_t, e_kOr_f, e_not, e_kNot, e_seq, e_kS_nx, e_kS_ret, e_kS_brk, e_kS_ct, e_kS_exc, e_pass, e_brk, e_ct, e_sif, e_kSIf_t, e_kSIf_f, e_asg, e_kAsg, e_kO, e_name, e_ret, e_kRet, e_kRet_x, e_drop, e_kDrop, e_set, e_kSet, e_kSet2, e_kSet3, e_kSet4, e_fn, e_kFn_ret, e_kFn_nx, e_kFn_exc, e_fnK, e_kFnK_ret, e_mt, e_kMt2, e_isi, e_kIs, e_kI, e_chain, e_kCh, e_kCh2, e_kCh3_t, e_kCh3_f, e_shut, e_kSh, e_sl, e_kSl, e_kSl2n, e_kSl2i, e_kSl3, e_part, e_kPart, List.map_cons, List.map_nil, List.length_cons, List.length_nil, List.replicate, List.cons_append, List.nil_append, List.getElem?_cons_zero, List.getElem?_cons_succ, List.set_cons_zero, List.set_cons_succ, Nat.reduceSub, Nat.reduceAdd, Nat.zero_add, if_true, if_false, reduceIte, p_ix, itemS, l_dat, l_scr, l_ref0, atI_0, atI_1, atI_2, atI_3, Option.map_some, Option.bind_some, p_gtI, p_ltI, p_geI, p_leI, p_ltS, p_eqI, p_neI, p_eqS, p_neS, p_addI, p_subI, p_negI, p_lenL, p_lenT, p_intB, v_dat, l_tup, a_tup, p_isN, p_notN, set_feed1, set_feed2, p_pow9, p_pow12, p_pow18, e_iter, e_kIter_t, e_kIter_l, e_kIter_s, e_r1, e_zip, e_kZip, zip2_t, zip2_l, e_for, e_kFor, e_lc, e_try, e_kTry_ret, e_raise, e_kRaise, e_callL, ts_nil, ts_cons, e_kMtS, gYes, x_k2, x_k1, x_kc, x_kd, x_kN, x_kCall, x_kIf, x_kSIf, x_kAsg, x_kDrop, Bool.false_eq_true, Bool.not_true, Bool.not_false, tup_2, tup_3, tup_4, p_tup0, p_lst0, p_tup1, p_lst1, p_tup2, p_lst2, p_tup3, p_lst3, p_tup4, p_lst4, p_tup5, p_lst5, p_tup6, p_lst6, p_tup7, p_lst7, p_tup8, p_lst8, p_modI hc, e]
      · rw [decide_eq_false hc]
        have : PO.cellOf c a = 0 := by unfold PO.cellOf; rw [if_neg (by rw [List.length_map] at hc; exact hc)]
        rw [this]
        simp -implicitDefEqProofs only [e_P2, e_k2, e_k1, e_P1, e_k0, e_lift, e_C, gVar, e_nil, e_cons, e_kc, e_kd, e_PN, e_kN, e_call, e_kCall, e_if, e_kIf_t, e_kIf_f, e_and, e_kAnd_t, e_kAnd_f, e_or, e_kOr_t, e_kOr_f, e_not, e_kNot, e_seq, e_kS_nx, e_kS_ret, e_kS_brk, e_kS_ct, e_kS_exc, e_pass, e_brk, e_ct, e_sif, e_kSIf_t, e_kSIf_f, e_asg, e_kAsg, e_kO, e_name, e_ret, e_kRet, e_kRet_x, e_drop, e_kDrop, e_set, e_kSet, e_kSet2, e_kSet3, e_kSet4, e_fn, e_kFn_ret, e_kFn_nx, e_kFn_exc, e_fnK, e_kFnK_ret, e_mt, e_kMt2, e_isi, e_kIs, e_kI, e_chain, e_kCh, e_kCh2, e_kCh3_t, e_kCh3_f, e_shut, e_kSh, e_sl, e_kSl, e_kSl2n, e_kSl2i, e_kSl3, e_part, e_kPart, List.map_cons, List.map_nil, List.length_cons, List.length_nil, List.replicate, List.cons_append, List.nil_append, List.getElem?_cons_zero, List.getElem?_cons_succ, List.set_cons_zero, List.set_cons_succ, Nat.reduceSub, Nat.reduceAdd, Nat.zero_add, if_true, if_false, reduceIte, p_ix, itemS, l_dat, l_scr, l_ref0, atI_0, atI_1, atI_2, atI_3, Option.map_some, Option.bind_some, p_gtI, p_ltI, p_geI, p_leI, p_ltS, p_eqI, p_neI, p_eqS, p_neS, p_addI, p_subI, p_negI, p_lenL, p_lenT, p_intB, v_dat, l_tup, a_tup, p_isN, p_notN, set_feed1, set_feed2, p_pow9, p_pow12, p_pow18, e_iter, e_kIter_t, e_kIter_l, e_kIter_s, e_r1, e_zip, e_kZip, zip2_t, zip2_l, e_for, e_kFor, e_lc, e_try, e_kTry_ret, e_raise, e_kRaise, e_callL, ts_nil, ts_cons, e_kMtS, gYes, x_k2, x_k1, x_kc, x_kd, x_kN, x_kCall, x_kIf, x_kSIf, x_kAsg, x_kDrop, Bool.false_eq_true, Bool.not_true, Bool.not_false, tup_2, tup_3, tup_4, p_tup0, p_lst0, p_tup1, p_lst1, p_tup2, p_lst2, p_tup3, p_lst3, p_tup4, p_lst4, p_tup5, p_lst5, p_tup6, p_lst6, p_tup7, p_lst7, p_tup8, p_lst8]
    rw [e]
    simp -implicitDefEqProofs only [e_P2, e_k2, e_k1, e_P1, e_k0, e_lift, e_C, gVar, e_nil, e_cons, e_kc, e_kd, e_PN, e_kN, e_call, e_kCall, e_if, e_kIf_t, e_kIf_f, e_and, e_kAnd_t, e_kAnd_f, e_or, e_kOr_t, e_kOr_f, e_not, e_kNot, e_seq, e_kS_nx, e_kS_ret, e_kS_brk, e_kS_ct, e_kS_exc, e_pass, e_brk, e_ct, e_sif, e_kSIf_t, e_kSIf_f, e_asg, e_kAsg, e_kO, e_name, e_ret, e_kRet, e_kRet_x, e_drop, e_kDrop, e_set, e_kSet, e_kSet2, e_kSet3, e_kSet4, e_fn, e_kFn_ret, e_kFn_nx, e_kFn_exc, e_fnK, e_kFnK_ret, e_mt, e_kMt2, e_isi, e_kIs, e_kI, e_chain, e_kCh, e_kCh2, e_kCh3_t, e_kCh3_f, e_shut, e_kSh, e_sl, e_kSl, e_kSl2n, e_kSl2i, e_kSl3, e_part, e_kPart, List.map_cons, List.map_nil, List.length_cons, List.length_nil, List.replicate, List.cons_append, List.nil_append, List.getElem?_cons_zero, List.getElem?_cons_succ, List.set_cons_zero, List.set_cons_succ, Nat.reduceSub, Nat.reduceAdd, Nat.zero_add, if_true, if_false, reduceIte, p_ix, itemS, l_dat, l_scr, l_ref0, atI_0, atI_1, atI_2, atI_3, Option.map_some, Option.bind_some, p_gtI, p_ltI, p_geI, p_leI, p_ltS, p_eqI, p_neI, p_eqS, p_neS, p_addI, p_subI, p_negI, p_lenL, p_lenT, p_intB, v_dat, l_tup, a_tup, p_isN, p_notN, set_feed1, set_feed2, p_pow9, p_pow12, p_pow18, e_iter, e_kIter_t, e_kIter_l, e_kIter_s, e_r1, e_zip, e_kZip, zip2_t, zip2_l, e_for, e_kFor, e_lc, e_try, e_kTry_ret, e_raise, e_kRaise, e_callL, ts_nil, ts_cons, e_kMtS, gYes, x_k2, x_k1, x_kc, x_kd, x_kN, x_kCall, x_kIf, x_kSIf, x_kAsg, x_kDrop, Bool.false_eq_true, Bool.not_true, Bool.not_false, tup_2, tup_3, tup_4, p_tup0, p_lst0, p_tup1, p_lst1, p_tup2, p_lst2, p_tup3, p_lst3, p_tup4, p_lst4, p_tup5, p_lst5, p_tup6, p_lst6, p_tup7, p_lst7, p_tup8, p_lst8]
    have hl : ((List.map PyData.int c).length : Int) = (c.length : Int) := by rw [List.length_map]
    by_cases h1 : (1000000000000000000 : Int) ≤ PO.cellOf c a
    · rw [decide_eq_true h1]
      simp -implicitDefEqProofs only [e_P2, e_k2, e_k1, e_P1, e_k0, e_lift, e_C, gVar, e_nil, e_cons, e_kc, e_kd, e_PN, e_kN, e_call, e_kCall, e_if, e_kIf_t, e_kIf_f, e_and, e_kAnd_t, e_kAnd_f, e_or, e_kOr_t, e_kOr_f, e_not, e_kNot, e_seq, e_kS_nx, e_kS_ret, e_kS_brk, e_kS_ct, e_kS_exc, e_pass, e_brk, e_ct, e_sif, e_kSIf_t, e_kSIf_f, e_asg, e_kAsg, e_kO, e_name, e_ret, e_kRet, e_kRet_x, e_drop, e_kDrop, e_set, e_kSet, e_kSet2, e_kSet3, e_kSet4, e_fn, e_kFn_ret, e_kFn_nx, e_kFn_exc, e_fnK, e_kFnK_ret, e_mt, e_kMt2, e_isi, e_kIs, e_kI, e_chain, e_kCh, e_kCh2, e_kCh3_t, e_kCh3_f, e_shut, e_kSh, e_sl, e_kSl, e_kSl2n, e_kSl2i, e_kSl3, e_part, e_kPart, List.map_cons, List.map_nil, List.length_cons, List.length_nil, List.replicate, List.cons_append, List.nil_append, List.getElem?_cons_zero, List.getElem?_cons_succ, List.set_cons_zero, List.set_cons_succ, Nat.reduceSub, Nat.reduceAdd, Nat.zero_add, if_true, if_false, reduceIte, p_ix, itemS, l_dat, l_scr, l_ref0, atI_0, atI_1, atI_2, atI_3, Option.map_some, Option.bind_some, p_gtI, p_ltI, p_geI, p_leI, p_ltS, p_eqI, p_neI, p_eqS, p_neS, p_addI, p_subI, p_negI, p_lenL, p_lenT, p_intB, v_dat, l_tup, a_tup, p_isN, p_notN, set_feed1, set_feed2, p_pow9, p_pow12, p_pow18, e_iter, e_kIter_t, e_kIter_l, e_kIter_s, e_r1, e_zip, e_kZip, zip2_t, zip2_l, e_for, e_kFor, e_lc, e_try, e_kTry_ret, e_raise, e_kRaise, e_callL, ts_nil, ts_cons, e_kMtS, gYes, x_k2, x_k1, x_kc, x_kd, x_kN, x_kCall, x_kIf, x_kSIf, x_kAsg, x_kDrop, Bool.false_eq_true, Bool.not_true, Bool.not_false, tup_2, tup_3, tup_4, p_tup0, p_lst0, p_tup1, p_lst1, p_tup2, p_lst2, p_tup3, p_lst3, p_tup4, p_lst4, p_tup5, p_lst5, p_tup6, p_lst6, p_tup7, p_lst7, p_tup8, p_lst8]
      by_cases h2 : (a : Int) < ((List.map PyData.int c).length : Int)
      · rw [decide_eq_true h2]
        simp -implicitDefEqProofs only [e_P2, e_k2, e_k1, e_P1, e_k0, e_lift, e_C, gVar, e_nil, e_cons, e_kc, e_kd, e_PN, e_kN, e_call, e_kCall, e_if, e_kIf_t, e_kIf_f, e_and, e_kAnd_t, e_kAnd_f, e_or, e_kOr_t, e_kOr_f, e_not, e_kNot, e_seq, e_kS_nx, e_kS_ret, e_kS_brk, e_kS_ct, e_kS_exc, e_pass, e_brk, e_ct, e_sif, e_kSIf_t, e_kSIf_f, e_asg, e_kAsg, e_kO, e_name, e_ret, e_kRet, e_kRet_x, e_drop, e_kDrop, e_set, e_kSet, e_kSet2, e_kSet3, e_kSet4, e_fn, e_kFn_ret, e_kFn_nx, e_kFn_exc, e_fnK, e_kFnK_ret, e_mt, e_kMt2, e_isi, e_kIs, e_kI, e_chain, e_kCh, e_kCh2, e_kCh3_t, e_kCh3_f, e_shut, e_kSh, e_sl, e_kSl, e_kSl2n, e_kSl2i, e_kSl3, e_part, e_kPart, List.map_cons, List.map_nil, List.length_cons, List.length_nil, List.replicate, List.cons_append, List.nil_append, List.getElem?_cons_zero, List.getElem?_cons_succ, List.set_cons_zero, List.set_cons_succ, Nat.reduceSub, Nat.reduceAdd, Nat.zero_add, if_true, if_false, reduceIte, p_ix, itemS, l_dat, l_scr, l_ref0, atI_0, atI_1, atI_2, atI_3, Option.map_some, Option.bind_some, p_gtI, p_ltI, p_geI, p_leI, p_ltS, p_eqI, p_neI, p_eqS, p_neS, p_addI, p_subI, p_negI, p_lenL, p_lenT, p_intB, v_dat, l_tup, a_tup, p_isN, p_notN, set_feed1, set_feed2, p_pow9, p_pow12, p_pow18, e_iter, e_kIter_t, e_kIter_l, e_kIter_s, e_r1, e_zip, e_kZip, zip2_t, zip2_l, e_for, e_kFor, e_lc, e_try, e_kTry_ret, e_raise, e_kRaise, e_callL, ts_nil, ts_cons, e_kMtS, gYes, x_k2, x_k1, x_kc, x_kd, x_kN, x_kCall, x_kIf, x_kSIf, x_kAsg, x_kDrop, Bool.false_eq_true, Bool.not_true, Bool.not_false, tup_2, tup_3, tup_4, p_tup0, p_lst0, p_tup1, p_lst1, p_tup2, p_lst2, p_tup3, p_lst3, p_tup4, p_lst4, p_tup5, p_lst5, p_tup6, p_lst6, p_tup7, p_lst7, p_tup8, p_lst8, p_modI hm, p_fdivI hm hm2]
        have : drawF c a r m = (PO.cellOf c a % m, a + 1, PO.cellOf c a / m) := by unfold drawF; rw [if_neg q, if_pos ⟨h1, by rw [← hl]; exact h2⟩]
        rw [this]
        exact end_feed hB _
      · rw [decide_eq_false h2]
        simp -implicitDefEqProofs only [e_P2, e_k2, e_k1, e_P1, e_k0, e_lift, e_C, gVar, e_nil, e_cons, e_kc, e_kd, e_PN, e_kN, e_call, e_kCall, e_if, e_kIf_t, e_kIf_f, e_and, e_kAnd_t, e_kAnd_f, e_or, e_kOr_t, e_kOr_f, e_not, e_kNot, e_seq, e_kS_nx, e_kS_ret, e_kS_brk, e_kS_ct, e_kS_exc, e_pass, e_brk, e_ct, e_sif, e_kSIf_t, e_kSIf_f, e_asg, e_kAsg, e_kO, e_name, e_ret, e_kRet, e_kRet_x, e_drop, e_kDrop, e_set, e_kSet, e_kSet2, e_kSet3, e_kSet4, e_fn, e_kFn_ret, e_kFn_nx, e_kFn_exc, e_fnK, e_kFnK_ret, e_mt, e_kMt2, e_isi, e_kIs, e_kI, e_chain, e_kCh, e_kCh2, e_kCh3_t, e_kCh3_f, e_shut, e_kSh, e_sl, e_kSl, e_kSl2n, e_kSl2i, e_kSl3, e_part, e_kPart, List.map_cons, List.map_nil, List.length_cons, List.length_nil, List.replicate, List.cons_append, List.nil_append, List.getElem?_cons_zero, List.getElem?_cons_succ, List.set_cons_zero, List.set_cons_succ, Nat.reduceSub, Nat.reduceAdd, Nat.zero_add, if_true, if_false, reduceIte, p_ix, itemS, l_dat, l_scr, l_ref0, atI_0, atI_1, atI_2, atI_3, Option.map_some, Option.bind_some, p_gtI, p_ltI, p_geI, p_leI, p_ltS, p_eqI, p_neI, p_eqS, p_neS, p_addI, p_subI, p_negI, p_lenL, p_lenT, p_intB, v_dat, l_tup, a_tup, p_isN, p_notN, set_feed1, set_feed2, p_pow9, p_pow12, p_pow18, e_iter, e_kIter_t, e_kIter_l, e_kIter_s, e_r1, e_zip, e_kZip, zip2_t, zip2_l, e_for, e_kFor, e_lc, e_try, e_kTry_ret, e_raise, e_kRaise, e_callL, ts_nil, ts_cons, e_kMtS, gYes, x_k2, x_k1, x_kc, x_kd, x_kN, x_kCall, x_kIf, x_kSIf, x_kAsg, x_kDrop, Bool.false_eq_true, Bool.not_true, Bool.not_false, tup_2, tup_3, tup_4, p_tup0, p_lst0, p_tup1, p_lst1, p_tup2, p_lst2, p_tup3, p_lst3, p_tup4, p_lst4, p_tup5, p_lst5, p_tup6, p_lst6, p_tup7, p_lst7, p_tup8, p_lst8, p_modI (i := PO.cellOf c a) (j := 1000003) (by decide), p_mulI (i := 53) (.inl ⟨by decide, by decide⟩), p_mulI (j := (a : Int)) (.inr ⟨by omega, by omega⟩), p_mulI (i := 29) (.inl ⟨by decide, by decide⟩), p_mulI (j := 40009) (.inr ⟨by decide, by decide⟩), p_modI (j := 2147483629) (by decide), p_mulI (i := 38317) (.inl ⟨by decide, by decide⟩), p_modI (j := 2147483587) (by decide), p_mulI (j := 48271) (.inr ⟨by decide, by decide⟩), p_modI (j := 2147483563) (by decide), p_fdivI (j := 7) (by decide) (by decide), p_modI hm, p_mulM]
        unfold drawF
        rw [if_neg q, if_neg (fun z => h2 (by rw [hl]; exact z.2))]
        exact end_feed hB _
    · rw [decide_eq_false h1]
      simp -implicitDefEqProofs only [e_P2, e_k2, e_k1, e_P1, e_k0, e_lift, e_C, gVar, e_nil, e_cons, e_kc, e_kd, e_PN, e_kN, e_call, e_kCall, e_if, e_kIf_t, e_kIf_f, e_and, e_kAnd_t, e_kAnd_f, e_or, e_kOr_t, e_kOr_f, e_not, e_kNot, e_seq, e_kS_nx, e_kS_ret, e_kS_brk, e_kS_ct, e_kS_exc, e_pass, e_brk, e_ct, e_sif, e_kSIf_t, e_kSIf_f, e_asg, e_kAsg, e_kO, e_name, e_ret, e_kRet, e_kRet_x, e_drop, e_kDrop, e_set, e_kSet, e_kSet2, e_kSet3, e_kSet4, e_fn, e_kFn_ret, e_kFn_nx, e_kFn_exc, e_fnK, e_kFnK_ret, e_mt, e_kMt2, e_isi, e_kIs, e_kI, e_chain, e_kCh, e_kCh2, e_kCh3_t, e_kCh3_f, e_shut, e_kSh, e_sl, e_kSl, e_kSl2n, e_kSl2i, e_kSl3, e_part, e_kPart, List.map_cons, List.map_nil, List.length_cons, List.length_nil, List.replicate, List.cons_append, List.nil_append, List.getElem?_cons_zero, List.getElem?_cons_succ, List.set_cons_zero, List.set_cons_succ, Nat.reduceSub, Nat.reduceAdd, Nat.zero_add, if_true, if_false, reduceIte, p_ix, itemS, l_dat, l_scr, l_ref0, atI_0, atI_1, atI_2, atI_3, Option.map_some, Option.bind_some, p_gtI, p_ltI, p_geI, p_leI, p_ltS, p_eqI, p_neI, p_eqS, p_neS, p_addI, p_subI, p_negI, p_lenL, p_lenT, p_intB, v_dat, l_tup, a_tup, p_isN, p_notN, set_feed1, set_feed2, p_pow9, p_pow12, p_pow18, e_iter, e_kIter_t, e_kIter_l, e_kIter_s, e_r1, e_zip, e_kZip, zip2_t, zip2_l, e_for, e_kFor, e_lc, e_try, e_kTry_ret, e_raise, e_kRaise, e_callL, ts_nil, ts_cons, e_kMtS, gYes, x_k2, x_k1, x_kc, x_kd, x_kN, x_kCall, x_kIf, x_kSIf, x_kAsg, x_kDrop, Bool.false_eq_true, Bool.not_true, Bool.not_false, tup_2, tup_3, tup_4, p_tup0, p_lst0, p_tup1, p_lst1, p_tup2, p_lst2, p_tup3, p_lst3, p_tup4, p_lst4, p_tup5, p_lst5, p_tup6, p_lst6, p_tup7, p_lst7, p_tup8, p_lst8, p_modI (i := PO.cellOf c a) (j := 1000003) (by decide), p_mulI (i := 53) (.inl ⟨by decide, by decide⟩), p_mulI (j := (a : Int)) (.inr ⟨by omega, by omega⟩), p_mulI (i := 29) (.inl ⟨by decide, by decide⟩), p_mulI (j := 40009) (.inr ⟨by decide, by decide⟩), p_modI (j := 2147483629) (by decide), p_mulI (i := 38317) (.inl ⟨by decide, by decide⟩), p_modI (j := 2147483587) (by decide), p_mulI (j := 48271) (.inr ⟨by decide, by decide⟩), p_modI (j := 2147483563) (by decide), p_fdivI (j := 7) (by decide) (by decide), p_modI hm, p_mulM]
      unfold drawF
      rw [if_neg q, if_neg (fun z => h1 z.1)]
      exact end_feed hB _
noncomputable def bFeed : GS :=
    (sRet (gPN pLstA (gCons (gSl (gVar 0) (gC (.dat .none)) (gPart (gC (.dat (.int 63))))) (gCons (gC (.dat (.int 0))) (gCons (gC (.dat (.int 0))) gNil)))))
theorem cutTo {α : Type} (xs : List α) (k : Nat) : cutL xs none (some (k : Int)) = xs.take k := by
  unfold cutL
  have e1 : HT.sIx xs.length 0 none = 0 := rfl
  have e2 : HT.sIx xs.length xs.length (some (k : Int)) = min k xs.length := by
    unfold HT.sIx
    simp
    try omega
  rw [e1, e2, List.drop_zero, Nat.sub_zero, List.take_eq_take_iff]
  omega
theorem feed_eq (ns : List Int) : gFnK 1 bFeed [.scr ns] [] = .ok (.ref 0) [fcell ((ns.take 63).map .int) 0 0] := by
  have e : ∀ B, pSl [.scr ns, .dat .none, .dat (.int 63)] B = some (.dat (.list ((ns.take 63).map .int)), B) := fun B => by
    rw [p_sl (lo := none) (hi := some 63) rfl rfl]
    show (some (ns.map fun i => S.dat (.int i))).bind (fun ss => (datsOf (cutL ss none (some ((63 : Nat) : Int)))).map fun ds => (S.dat (.list ds), B)) = _
    rw [Option.bind_some, cutTo, ← List.map_take, show ((ns.take 63).map fun i => S.dat (.int i)) = ((ns.take 63).map PyData.int).map S.dat by rw [List.map_map]; rfl, datsOf_map]
    rfl
  simp -implicitDefEqProofs only [e_P2, e_k2, e_k1, e_P1, e_k0, e_lift, e_C, gVar, e_nil, e_cons, e_kc, e_kd, e_PN, e_kN, e_call, e_kCall, e_if, e_kIf_t, e_kIf_f, e_and, e_kAnd_t, e_kAnd_f, e_or, e_kOr_t, e_kOr_f, e_not, e_kNot, e_seq, e_kS_nx, e_kS_ret, e_kS_brk, e_kS_ct, e_kS_exc, e_pass, e_brk, e_ct, e_sif, e_kSIf_t, e_kSIf_f, e_asg, e_kAsg, e_kO, e_name, e_ret, e_kRet, e_kRet_x, e_drop, e_kDrop, e_set, e_kSet, e_kSet2, e_kSet3, e_kSet4, e_fn, e_kFn_ret, e_kFn_nx, e_kFn_exc, e_fnK, e_kFnK_ret, e_mt, e_kMt2, e_isi, e_kIs, e_kI, e_chain, e_kCh, e_kCh2, e_kCh3_t, e_kCh3_f, e_shut, e_kSh, e_sl, e_kSl, e_kSl2n, e_kSl2i, e_kSl3, e_part, e_kPart, List.map_cons, List.map_nil, List.length_cons, List.length_nil, List.replicate, List.cons_append, List.nil_append, List.getElem?_cons_zero, List.getElem?_cons_succ, List.set_cons_zero, List.set_cons_succ, Nat.reduceSub, Nat.reduceAdd, Nat.zero_add, if_true, if_false, reduceIte, p_ix, itemS, l_dat, l_scr, l_ref0, atI_0, atI_1, atI_2, atI_3, Option.map_some, Option.bind_some, p_gtI, p_ltI, p_geI, p_leI, p_ltS, p_eqI, p_neI, p_eqS, p_neS, p_addI, p_subI, p_negI, p_lenL, p_lenT, p_intB, v_dat, l_tup, a_tup, p_isN, p_notN, set_feed1, set_feed2, p_pow9, p_pow12, p_pow18, e_iter, e_kIter_t, e_kIter_l, e_kIter_s, e_r1, e_zip, e_kZip, zip2_t, zip2_l, e_for, e_kFor, e_lc, e_try, e_kTry_ret, e_raise, e_kRaise, e_callL, ts_nil, ts_cons, e_kMtS, gYes, x_k2, x_k1, x_kc, x_kd, x_kN, x_kCall, x_kIf, x_kSIf, x_kAsg, x_kDrop, Bool.false_eq_true, Bool.not_true, Bool.not_false, tup_2, tup_3, tup_4, p_tup0, p_lst0, p_tup1, p_lst1, p_tup2, p_lst2, p_tup3, p_lst3, p_tup4, p_lst4, p_tup5, p_lst5, p_tup6, p_lst6, p_tup7, p_lst7, p_tup8, p_lst8]
  unfold bFeed
  simp -implicitDefEqProofs only [e_P2, e_k2, e_k1, e_P1, e_k0, e_lift, e_C, gVar, e_nil, e_cons, e_kc, e_kd, e_PN, e_kN, e_call, e_kCall, e_if, e_kIf_t, e_kIf_f, e_and, e_kAnd_t, e_kAnd_f, e_or, e_kOr_t, e_kOr_f, e_not, e_kNot, e_seq, e_kS_nx, e_kS_ret, e_kS_brk, e_kS_ct, e_kS_exc, e_pass, e_brk, e_ct, e_sif, e_kSIf_t, e_kSIf_f, e_asg, e_kAsg, e_kO, e_name, e_ret, e_kRet, e_kRet_x, e_drop, e_kDrop, e_set, e_kSet, e_kSet2, e_kSet3, e_kSet4, e_fn, e_kFn_ret, e_kFn_nx, e_kFn_exc, e_fnK, e_kFnK_ret, e_mt, e_kMt2, e_isi, e_kIs, e_kI, e_chain, e_kCh, e_kCh2, e_kCh3_t, e_kCh3_f, e_shut, e_kSh, e_sl, e_kSl, e_kSl2n, e_kSl2i, e_kSl3, e_part, e_kPart, List.map_cons, List.map_nil, List.length_cons, List.length_nil, List.replicate, List.cons_append, List.nil_append, List.getElem?_cons_zero, List.getElem?_cons_succ, List.set_cons_zero, List.set_cons_succ, Nat.reduceSub, Nat.reduceAdd, Nat.zero_add, if_true, if_false, reduceIte, p_ix, itemS, l_dat, l_scr, l_ref0, atI_0, atI_1, atI_2, atI_3, Option.map_some, Option.bind_some, p_gtI, p_ltI, p_geI, p_leI, p_ltS, p_eqI, p_neI, p_eqS, p_neS, p_addI, p_subI, p_negI, p_lenL, p_lenT, p_intB, v_dat, l_tup, a_tup, p_isN, p_notN, set_feed1, set_feed2, p_pow9, p_pow12, p_pow18, e_iter, e_kIter_t, e_kIter_l, e_kIter_s, e_r1, e_zip, e_kZip, zip2_t, zip2_l, e_for, e_kFor, e_lc, e_try, e_kTry_ret, e_raise, e_kRaise, e_callL, ts_nil, ts_cons, e_kMtS, gYes, x_k2, x_k1, x_kc, x_kd, x_kN, x_kCall, x_kIf, x_kSIf, x_kAsg, x_kDrop, Bool.false_eq_true, Bool.not_true, Bool.not_false, tup_2, tup_3, tup_4, p_tup0, p_lst0, p_tup1, p_lst1, p_tup2, p_lst2, p_tup3, p_lst3, p_tup4, p_lst4, p_tup5, p_lst5, p_tup6, p_lst6, p_tup7, p_lst7, p_tup8, p_lst8, e, show pLstA [.dat (.list ((ns.take 63).map .int)), .dat (.int 0), .dat (.int 0)] [] = some (.ref 0, [fcell ((ns.take 63).map .int) 0 0]) from if_pos (by rw [sizeLine_eq]; show 3 ≤ 16777216; decide)]
theorem first_row (ns : List Int) (n : Nat) : sAsg (gCall 1 (gFnK 1 bFeed) (PN.gCons (gVar 0) PN.gNil)) (tName 1) (some (.scr ns) :: List.replicate (n + 1) none) [] = .nx (some (.scr ns) :: some (.ref 0) :: List.replicate n none) [fcell ((ns.take 63).map .int) 0 0] := by
  have e := feed_eq ns
  rw [List.replicate_succ]
  rw [e_fnK] at e
  simp -implicitDefEqProofs only [e_P2, e_k2, e_k1, e_P1, e_k0, e_lift, e_C, gVar, e_nil, e_cons, e_kc, e_kd, e_PN, e_kN, e_call, e_kCall, e_if, e_kIf_t, e_kIf_f, e_and, e_kAnd_t, e_kAnd_f, e_or, e_kOr_t, e_kOr_f, e_not, e_kNot, e_seq, e_kS_nx, e_kS_ret, e_kS_brk, e_kS_ct, e_kS_exc, e_pass, e_brk, e_ct, e_sif, e_kSIf_t, e_kSIf_f, e_asg, e_kAsg, e_kO, e_name, e_ret, e_kRet, e_kRet_x, e_drop, e_kDrop, e_set, e_kSet, e_kSet2, e_kSet3, e_kSet4, e_fn, e_kFn_ret, e_kFn_nx, e_kFn_exc, e_fnK, e_kFnK_ret, e_mt, e_kMt2, e_isi, e_kIs, e_kI, e_chain, e_kCh, e_kCh2, e_kCh3_t, e_kCh3_f, e_shut, e_kSh, e_sl, e_kSl, e_kSl2n, e_kSl2i, e_kSl3, e_part, e_kPart, List.map_cons, List.map_nil, List.length_cons, List.length_nil, List.replicate, List.cons_append, List.nil_append, List.getElem?_cons_zero, List.getElem?_cons_succ, List.set_cons_zero, List.set_cons_succ, Nat.reduceSub, Nat.reduceAdd, Nat.zero_add, if_true, if_false, reduceIte, p_ix, itemS, l_dat, l_scr, l_ref0, atI_0, atI_1, atI_2, atI_3, Option.map_some, Option.bind_some, p_gtI, p_ltI, p_geI, p_leI, p_ltS, p_eqI, p_neI, p_eqS, p_neS, p_addI, p_subI, p_negI, p_lenL, p_lenT, p_intB, v_dat, l_tup, a_tup, p_isN, p_notN, set_feed1, set_feed2, p_pow9, p_pow12, p_pow18, e_iter, e_kIter_t, e_kIter_l, e_kIter_s, e_r1, e_zip, e_kZip, zip2_t, zip2_l, e_for, e_kFor, e_lc, e_try, e_kTry_ret, e_raise, e_kRaise, e_callL, ts_nil, ts_cons, e_kMtS, gYes, x_k2, x_k1, x_kc, x_kd, x_kN, x_kCall, x_kIf, x_kSIf, x_kAsg, x_kDrop, Bool.false_eq_true, Bool.not_true, Bool.not_false, tup_2, tup_3, tup_4, p_tup0, p_lst0, p_tup1, p_lst1, p_tup2, p_lst2, p_tup3, p_lst3, p_tup4, p_lst4, p_tup5, p_lst5, p_tup6, p_lst6, p_tup7, p_lst7, p_tup8, p_lst8, e]
  simp only [List.map_cons, List.map_nil, List.length_cons, List.length_nil, List.replicate, List.append_nil, Nat.reduceAdd, Nat.reduceSub, List.cons_append, List.nil_append] at e
  rw [e]
  simp -implicitDefEqProofs only [e_P2, e_k2, e_k1, e_P1, e_k0, e_lift, e_C, gVar, e_nil, e_cons, e_kc, e_kd, e_PN, e_kN, e_call, e_kCall, e_if, e_kIf_t, e_kIf_f, e_and, e_kAnd_t, e_kAnd_f, e_or, e_kOr_t, e_kOr_f, e_not, e_kNot, e_seq, e_kS_nx, e_kS_ret, e_kS_brk, e_kS_ct, e_kS_exc, e_pass, e_brk, e_ct, e_sif, e_kSIf_t, e_kSIf_f, e_asg, e_kAsg, e_kO, e_name, e_ret, e_kRet, e_kRet_x, e_drop, e_kDrop, e_set, e_kSet, e_kSet2, e_kSet3, e_kSet4, e_fn, e_kFn_ret, e_kFn_nx, e_kFn_exc, e_fnK, e_kFnK_ret, e_mt, e_kMt2, e_isi, e_kIs, e_kI, e_chain, e_kCh, e_kCh2, e_kCh3_t, e_kCh3_f, e_shut, e_kSh, e_sl, e_kSl, e_kSl2n, e_kSl2i, e_kSl3, e_part, e_kPart, List.map_cons, List.map_nil, List.length_cons, List.length_nil, List.replicate, List.cons_append, List.nil_append, List.getElem?_cons_zero, List.getElem?_cons_succ, List.set_cons_zero, List.set_cons_succ, Nat.reduceSub, Nat.reduceAdd, Nat.zero_add, if_true, if_false, reduceIte, p_ix, itemS, l_dat, l_scr, l_ref0, atI_0, atI_1, atI_2, atI_3, Option.map_some, Option.bind_some, p_gtI, p_ltI, p_geI, p_leI, p_ltS, p_eqI, p_neI, p_eqS, p_neS, p_addI, p_subI, p_negI, p_lenL, p_lenT, p_intB, v_dat, l_tup, a_tup, p_isN, p_notN, set_feed1, set_feed2, p_pow9, p_pow12, p_pow18, e_iter, e_kIter_t, e_kIter_l, e_kIter_s, e_r1, e_zip, e_kZip, zip2_t, zip2_l, e_for, e_kFor, e_lc, e_try, e_kTry_ret, e_raise, e_kRaise, e_callL, ts_nil, ts_cons, e_kMtS, gYes, x_k2, x_k1, x_kc, x_kd, x_kN, x_kCall, x_kIf, x_kSIf, x_kAsg, x_kDrop, Bool.false_eq_true, Bool.not_true, Bool.not_false, tup_2, tup_3, tup_4, p_tup0, p_lst0, p_tup1, p_lst1, p_tup2, p_lst2, p_tup3, p_lst3, p_tup4, p_lst4, p_tup5, p_lst5, p_tup6, p_lst6, p_tup7, p_lst7, p_tup8, p_lst8]
end Dw
namespace PO
open PySem L2 PN
open Dw (bDraw draw_eq bFeed first_row)
/-- the law answers True where its plain form does -/
theorem law_of {g : GS} {n N : Nat} {x : M D} (h : EC RD (.any :: .fd :: List.replicate n .any) g x) (hy : Yl N x fun d => d = .bool true) (hN : N ≤ 1000000000) (ns : List Int) :
    ∃ B', gFn (n + 2) (sSeq (sAsg (gCall 1 (gFnK 1 bFeed) (PN.gCons (gVar 0) PN.gNil)) (tName 1)) g) [.scr ns] [] = .ok (.dat (.bool true)) B' := by
  obtain ⟨d, F', e, rfl, _⟩ := hy ⟨(ns.take 63).map .int, 0, 0⟩ ⟨_, intsIn_map _⟩ (by show 0 + N ≤ 1000000000; omega) (Int.le_refl 0)
  exact law_begin rfl (first_row ns n) h e
theorem q_draw (m1 : D) : EvA (gFn 6 bDraw) [.fd, .dat m1] (drawM m1) := fun F B T ss hB hT ha => by
  cases m1 with
  | int m =>
    unfold drawM
    dsimp only
    cases e : intsIn F.c with
    | none => trivial
    | some c =>
      dsimp only
      split
      · rename_i z
        obtain ⟨h1, h2, h3, h4⟩ := z
        cases ha with
        | cons a0 ha =>
        cases ha with
        | cons a1 ha =>
        cases ha
        have a0 := Option.some.inj (show some _ = some (S.ref 0) from a0)
        have a1 := Option.some.inj (show some _ = some (S.dat (.int m)) from a1)
        subst a0
        subst a1
        refine ⟨T, ?_, hT, Ext.refl T⟩
        have q := draw_eq c m h1 h2 F.a F.r (B ++ T) h3 h4 (hB.app hT)
        rw [← intsIn_ok e] at q
        exact q
      · trivial
  | _ => trivial
end PO

set_option maxRecDepth 100000
set_option maxHeartbeats 4000000
/-! PP: what operators make of data; what is drawn. -/
namespace PO
open PySem L2
open PN hiding RF RO e_and e_call e_chain e_if e_isi e_lc e_mt e_not e_or e_part e_sl i_any i_zip
theorem op1_val {f : GP} {d v : D} {B' : Bs} (h : f [.dat d] [] = some (.dat v, B')) : op1 f d = M.ok v := by
  unfold op1 φ1; rw [h]; rfl
theorem op2_val {f : GP} {d e v : D} {B' : Bs} (h : f [.dat d, .dat e] [] = some (.dat v, B')) : op2 f d e = M.ok v := by
  unfold op2 φ2; rw [h]; rfl
theorem op3_val {f : GP} {d e u v : D} {B' : Bs} (h : f [.dat d, .dat e, .dat u] [] = some (.dat v, B')) : op3 f d e u = M.ok v := by
  unfold op3 φ3; rw [h]; rfl
/-! ### items -/
theorem m_ixT (ds : List D) (i : Int) : op2 pIx (.tuple ds) (.int i) = M.opt (atI ds i) := by
  unfold op2 φ2
  have e : pIx [.dat (.tuple ds), .dat (.int i)] [] = (atI (ds.map S.dat) i).map fun t => (t, []) := rfl
  rw [e, atI_map]
  cases atI ds i <;> rfl
theorem m_ixL (ds : List D) (i : Int) : op2 pIx (.list ds) (.int i) = M.opt (atI ds i) := by
  unfold op2 φ2
  have e : pIx [.dat (.list ds), .dat (.int i)] [] = (atI (ds.map S.dat) i).map fun t => (t, []) := rfl
  rw [e, atI_map]
  cases atI ds i <;> rfl
section
variable {α β γ : Type} {a b c d e : α} {l : List α}
theorem at0 : atI (a :: l) 0 = some a := by
  unfold atI ixN; rw [if_pos (Int.le_refl 0), if_pos (by rw [List.length_cons]; omega)]; rfl
theorem at1 : atI (a :: b :: l) 1 = some b := by
  unfold atI ixN; rw [if_pos (by decide), if_pos (by rw [List.length_cons, List.length_cons]; omega)]; rfl
theorem at2 : atI (a :: b :: c :: l) 2 = some c := by
  unfold atI ixN; rw [if_pos (by decide), if_pos (by rw [List.length_cons, List.length_cons, List.length_cons]; omega)]; rfl
theorem at3 : atI (a :: b :: c :: d :: l) 3 = some d := by
  unfold atI ixN; rw [if_pos (by decide), if_pos (by rw [List.length_cons, List.length_cons, List.length_cons, List.length_cons]; omega)]; rfl
theorem at4 : atI (a :: b :: c :: d :: e :: l) 4 = some e := by
  unfold atI ixN; rw [if_pos (by decide), if_pos (by simp only [List.length_cons]; omega)]; rfl
theorem at_nat {j : Nat} (h : j < l.length) : atI l (j : Int) = some l[j] := by
  unfold atI ixN
  rw [if_pos (by omega), if_pos (by omega)]
  show l[(j : Int).toNat]? = _
  rw [Int.toNat_natCast, List.getElem?_eq_getElem h]
theorem at_mem {i : Int} (h0 : 0 ≤ i) (h : i < l.length) : ∃ x ∈ l, atI l i = some x := by
  obtain ⟨j, rfl⟩ := Int.eq_ofNat_of_zero_le h0
  have hj : j < l.length := by omega
  exact ⟨l[j], List.getElem_mem hj, at_nat hj⟩
theorem at_last : atI (l ++ [a]) (-1) = some a := by
  unfold atI ixN
  rw [if_neg (by decide), if_pos (by rw [List.length_append, List.length_singleton]; omega)]
  show (l ++ [a])[((-1 : Int) + ((l ++ [a]).length : Int)).toNat]? = _
  have e : ((-1 : Int) + ((l ++ [a]).length : Int)).toNat = l.length := by rw [List.length_append, List.length_singleton]; omega
  rw [e, List.getElem?_concat_length]
theorem pickM (f : α → β) {l : List α} {i : Int} (h0 : 0 ≤ i) (h : i < l.length) : ∃ x ∈ l, atI (l.map f) i = some (f x) := by
  obtain ⟨x, hx, e⟩ := at_mem h0 h
  exact ⟨x, hx, by rw [atI_map, e]; rfl⟩
end
/-! ### operators -/
theorem m_eqS (x y : Str) : op2 pEq (.str x) (.str y) = M.ok (.bool (decide (x = y))) := op2_val (B' := []) p_eqS
theorem m_neS (x y : Str) : op2 pNe (.str x) (.str y) = M.ok (.bool (!decide (x = y))) := op2_val (B' := []) p_neS
theorem m_eqI (x y : Int) : op2 pEq (.int x) (.int y) = M.ok (.bool (decide (x = y))) := op2_val (B' := []) p_eqI
theorem m_neI (x y : Int) : op2 pNe (.int x) (.int y) = M.ok (.bool (!decide (x = y))) := op2_val (B' := []) p_neI
theorem m_ltI (x y : Int) : op2 pLt (.int x) (.int y) = M.ok (.bool (decide (x < y))) := op2_val (B' := []) p_ltI
theorem m_leI (x y : Int) : op2 pLe (.int x) (.int y) = M.ok (.bool (decide (x ≤ y))) := op2_val (B' := []) p_leI
theorem m_gtI (x y : Int) : op2 pGt (.int x) (.int y) = M.ok (.bool (decide (y < x))) := op2_val (B' := []) p_gtI
theorem m_geI (x y : Int) : op2 pGe (.int x) (.int y) = M.ok (.bool (decide (y ≤ x))) := op2_val (B' := []) p_geI
theorem m_addI (x y : Int) : op2 pAdd (.int x) (.int y) = M.ok (.int (x + y)) := op2_val (B' := []) p_addI
theorem m_subI (x y : Int) : op2 pSub (.int x) (.int y) = M.ok (.int (x - y)) := op2_val (B' := []) p_subI
theorem m_negI (x : Int) : op1 pNeg (.int x) = M.ok (.int (-x)) := op1_val (B' := []) p_negI
theorem m_modI {x y : Int} (h : 0 < y) : op2 pMod (.int x) (.int y) = M.ok (.int (x % y)) := op2_val (B' := []) (p_modI h)
theorem m_fdivI {x y : Int} (h : 0 < y) (h2 : y < 1073741824) : op2 pFdiv (.int x) (.int y) = M.ok (.int (x / y)) := op2_val (B' := []) (p_fdivI h h2)
theorem m_mulI {x y : Int} (h : (-(2 ^ 64) < x ∧ x < 2 ^ 64) ∨ (-(2 ^ 64) < y ∧ y < 2 ^ 64)) : op2 pMul (.int x) (.int y) = M.ok (.int (x * y)) := op2_val (B' := []) (p_mulI h)
theorem m_pow9 : op2 pPow (.int 10) (.int 9) = M.ok (.int 1000000000) := op2_val (B' := []) p_pow9
theorem m_pow12 : op2 pPow (.int 10) (.int 12) = M.ok (.int 1000000000000) := op2_val (B' := []) p_pow12
theorem m_intB (b : Bool) : op1 pInt (.bool b) = M.ok (.int (if b then 1 else 0)) := op1_val (B' := []) p_intB
theorem m_lenL (ds : List D) : op1 pLen (.list ds) = M.ok (.int ds.length) := op1_val (B' := []) p_lenL
theorem m_lenT (ds : List D) : op1 pLen (.tuple ds) = M.ok (.int ds.length) := op1_val (B' := []) p_lenT
theorem m_addL {i j : List D} (h : i.length + j.length ≤ 1000000) : op2 pAdd (.list i) (.list j) = M.ok (.list (i ++ j)) := op2_val (B' := []) (p_addL (by rw [sizeLine_eq]; omega))
theorem m_addT {i j : List D} (h : i.length + j.length ≤ 1000000) : op2 pAdd (.tuple i) (.tuple j) = M.ok (.tuple (i ++ j)) := op2_val (B' := []) (p_addT (by rw [sizeLine_eq]; omega))
theorem m_tupL (ds : List D) : op1 pTupleOf (.list ds) = M.ok (.tuple ds) := by
  refine op1_val (B' := []) ?_
  show tupS [] (.dat (.list ds)) = _
  unfold tupS
  show (some (ds.map S.dat)).bind (fun ss => (datsOf ss).map fun ds => (S.dat (.tuple ds), ([] : Bs))) = _
  rw [Option.bind_some, datsOf_map]
  rfl
theorem m_lstT (ds : List D) : op1 pListOf (.tuple ds) = M.ok (.list ds) := by
  refine op1_val (B' := []) ?_
  show ((asQ [] (S.dat (.tuple ds))).bind fun ss => (datsOf ss).map fun ds => (S.dat (.list ds), ([] : Bs))) = _
  show (some (ds.map S.dat)).bind (fun ss => (datsOf ss).map fun ds => (S.dat (.list ds), ([] : Bs))) = _
  rw [Option.bind_some, datsOf_map]
  rfl
theorem ints_in (ns : List Int) : intsOf ((ns.map PyData.int).map S.dat) = some ns := by
  induction ns with
  | nil => rfl
  | cons n ns ih =>
    rw [List.map_cons, List.map_cons]
    unfold intsOf
    rw [ih]
    rfl
theorem m_sum (ns : List Int) : op1 pSum (.list (ns.map .int)) = M.ok (.int ns.sum) := by
  refine op1_val (B' := []) ?_
  show ((some ((ns.map PyData.int).map S.dat)).bind fun ss => (intsOf ss).bind fun ns => int' ns.sum ([] : Bs)) = _
  rw [Option.bind_some, ints_in]
  rfl
theorem m_repr {n k : Nat} {d : D} (h : Sm n k d) (hn : n ≤ 16777216) (hk : k ≤ 64) : op1 pRepr d = M.ok (.str d.shown) := op1_val (B' := []) (p_repr h hn hk)
section
variable {n k m l : Nat} {d e : D}
theorem m_eqv (h : Sm n k d) (h' : Sm m l e) (hk : k ≤ 64) (hl : l ≤ 64) : op2 pEq d e = M.ok (.bool (PyData.eqv d e)) := op2_val (B' := []) (p_eqv h h' hk hl)
theorem m_nev (h : Sm n k d) (h' : Sm m l e) (hk : k ≤ 64) (hl : l ≤ 64) : op2 pNe d e = M.ok (.bool (!PyData.eqv d e)) := op2_val (B' := []) (p_nev h h' hk hl)
open Classical in
theorem any_is {ds : List D} (h1 : noB d = true) (h2 : ∀ z ∈ ds, noB z = true) : (ds.any fun z => PyData.eqv z d) = decide (d ∈ ds) := by
  rw [Bool.eq_iff_iff, List.any_eq_true, decide_eq_true_iff]
  constructor
  · rintro ⟨z, m, e⟩
    rw [← (eqv_iff z d (h2 z m) h1).mp e]
    exact m
  · intro m
    exact ⟨d, m, (eqv_iff d d h1 h1).mpr rfl⟩
open Classical in
theorem m_inT {ds : List D} (h : Sm n k d) (h' : Sm m l (.tuple ds)) (hk : k ≤ 64) (hl : l ≤ 64) (h1 : noB d = true) (h2 : ∀ z ∈ ds, noB z = true) : op2 pIn d (.tuple ds) = M.ok (.bool (decide (d ∈ ds))) := by
  rw [← any_is h1 h2]
  exact op2_val (B' := []) (p_inT h h' hk hl)
open Classical in
theorem m_notInT {ds : List D} (h : Sm n k d) (h' : Sm m l (.tuple ds)) (hk : k ≤ 64) (hl : l ≤ 64) (h1 : noB d = true) (h2 : ∀ z ∈ ds, noB z = true) : op2 pNotIn d (.tuple ds) = M.ok (.bool (!decide (d ∈ ds))) := by
  rw [← any_is h1 h2]
  refine op2_val (B' := []) ?_
  show (if SeqAt.shaped d = true ∧ SeqAt.shaped (.tuple ds) = true then some (ds.any fun z => PyData.eqv z d) else none).bind (fun b => bool' (!b) []) = _
  rw [if_pos ⟨h.shaped hk, h'.shaped hl⟩]
  rfl
open Classical in
theorem m_inL {ds : List D} (h : Sm n k d) (h' : Sm m l (.list ds)) (hk : k ≤ 64) (hl : l ≤ 64) (h1 : noB d = true) (h2 : ∀ z ∈ ds, noB z = true) : op2 pIn d (.list ds) = M.ok (.bool (decide (d ∈ ds))) := by
  rw [← any_is h1 h2]
  refine op2_val (B' := []) ?_
  show (if SeqAt.shaped d = true ∧ SeqAt.shaped (.list ds) = true then some (ds.any fun z => PyData.eqv z d) else none).bind (fun b => bool' b []) = _
  rw [if_pos ⟨h.shaped hk, h'.shaped hl⟩]
  rfl
open Classical in
theorem m_notInL {ds : List D} (h : Sm n k d) (h' : Sm m l (.list ds)) (hk : k ≤ 64) (hl : l ≤ 64) (h1 : noB d = true) (h2 : ∀ z ∈ ds, noB z = true) : op2 pNotIn d (.list ds) = M.ok (.bool (!decide (d ∈ ds))) := by
  rw [← any_is h1 h2]
  refine op2_val (B' := []) ?_
  show (if SeqAt.shaped d = true ∧ SeqAt.shaped (.list ds) = true then some (ds.any fun z => PyData.eqv z d) else none).bind (fun b => bool' (!b) []) = _
  rw [if_pos ⟨h.shaped hk, h'.shaped hl⟩]
  rfl
end
open Classical in
theorem m_inD {d : D} {ps : List (D × D)} (h : KeyOk d ps) : op2 pIn d (.dict ps) = M.ok (.bool (valP ps d).isSome) := by
  refine op2_val (B' := []) ?_
  show (if KeyOk d ps then some (valP ps d).isSome else none).bind (fun b => bool' b []) = _
  rw [if_pos h]
  rfl
/-! ### slices -/
theorem m_slL (ds : List D) {l h : D} {lo hi : Option Int} (h1 : partD (.dat l) = some lo) (h2 : partD (.dat h) = some hi) : op3 pSl (.list ds) l h = M.ok (.list (cutL ds lo hi)) := by
  refine op3_val (B' := []) ?_
  rw [p_sl h1 h2]
  show (some (ds.map S.dat)).bind (fun ss => (datsOf (cutL ss lo hi)).map fun ds => (S.dat (.list ds), ([] : Bs))) = _
  have e : cutL (ds.map S.dat) lo hi = (cutL ds lo hi).map S.dat := by
    unfold cutL
    rw [List.length_map, List.map_take, List.map_drop]
  rw [Option.bind_some, e, datsOf_map]
  rfl
theorem m_slT (ds : List D) {l h : D} {lo hi : Option Int} (h1 : partD (.dat l) = some lo) (h2 : partD (.dat h) = some hi) : op3 pSl (.tuple ds) l h = M.ok (.tuple (cutL ds lo hi)) := by
  refine op3_val (B' := []) ?_
  rw [p_sl h1 h2]
  rfl
theorem cut_to {α : Type} (xs : List α) (k : Nat) : cutL xs none (some (k : Int)) = xs.take k := Dw.cutTo xs k
theorem cut_from {α : Type} (xs : List α) (k : Nat) : cutL xs (some (k : Int)) none = xs.drop k := by
  unfold cutL
  have e1 : HT.sIx xs.length 0 (some (k : Int)) = min k xs.length := by
    unfold HT.sIx
    simp
    try omega
  have e2 : HT.sIx xs.length xs.length none = xs.length := rfl
  rw [e1, e2, List.take_of_length_le (by rw [List.length_drop]; omega)]
  by_cases h : k ≤ xs.length
  · rw [Nat.min_eq_left h]
  · rw [Nat.min_eq_right (by omega), List.drop_length, List.drop_eq_nil_of_le (by omega)]
/-! ### loops -/
theorem lcM_val {f : D → M (Option D)} {g : D → Option D} : ∀ {its : List D}, (∀ d ∈ its, f d = M.ok (g d)) → lcM f its = M.ok (its.filterMap g)
  | [], _ => rfl
  | d :: ds, h => by
    funext F
    unfold lcM
    rw [h d List.mem_cons_self, lcM_val fun e m => h e (List.mem_cons_of_mem _ m)]
    show Ro.ok (match g d with | some v => v :: ds.filterMap g | none => ds.filterMap g) F = _
    rw [List.filterMap_cons]
    cases g d <;> rfl
theorem lc_ok {f : D → M (Option D)} (g : D → Option D) {its : List D} (hl : its.length ≤ 100000) (h : ∀ d ∈ its, f d = M.ok (g d)) : lcD (M.ok its) f = M.ok (.list (its.filterMap g)) := by
  rw [lcD_ok]
  unfold lc
  rw [if_pos hl, lcM_val h]
  rfl
theorem fold_eq {γ : Type} {f : D → γ → M γ} (h : γ → D → γ) : ∀ {its : List D} {a : γ} (I : Nat → γ → Prop), I 0 a → (∀ j d b, its[j]? = some d → I j b → f d b = M.ok (h b d) ∧ I (j + 1) (h b d)) → fold f its a = M.ok (its.foldl h a)
  | [], a, I, _, _ => rfl
  | d :: ds, a, I, h0, hs => by
    obtain ⟨e, i1⟩ := hs 0 d a rfl h0
    unfold fold
    rw [e, M.ok_bind, List.foldl_cons]
    exact fold_eq h (fun j => I (j + 1)) i1 fun j x b hx hb => hs (j + 1) x b (by simpa using hx) hb
theorem loop_go {γ : Type} {f : D → γ → M (Lo γ)} (h : γ → D → γ) : ∀ {its : List D} {a : γ}, (∀ d ∈ its, ∀ b, f d b = M.ok (.go (h b d))) → loop f its a = M.ok (.go (its.foldl h a))
  | [], a, _ => rfl
  | d :: ds, a, hs => by
    unfold loop
    rw [hs d List.mem_cons_self a, M.ok_bind, List.foldl_cons]
    exact loop_go h fun x m b => hs x (List.mem_cons_of_mem _ m) b
/-! ### what is drawn -/
section
variable {α β γ : Type} {n m : Nat} {P : α → Prop} {Q : β → Prop}
theorem Yl.drawB {m : Int} {k : D → M β} (h : 0 < m) (h2 : m < 1073741824) (hk : ∀ i, 0 ≤ i → i < m → Yl n (k (.int i)) Q) : Yl (n + 1) (M.bind (drawM (.int m)) k) Q := by
  rw [Nat.add_comm]
  refine (Yl.draw h h2).bind fun d hd => ?_
  obtain ⟨i, rfl, h0, h1⟩ := hd
  exact hk i h0 h1
theorem Yl.of_ok {x : M α} {a : α} (e : x = M.ok a) (h : P a) : Yl n x P := by
  rw [e]
  exact (Yl.ok h).up (Nat.zero_le _) fun _ z => z
theorem Yl.fold {f : D → γ → M γ} {n : Nat} : ∀ {its : List D} {a : γ} (I : Nat → γ → Prop), I 0 a → (∀ j d b, its[j]? = some d → I j b → Yl n (f d b) (I (j + 1))) → Yl (n * its.length) (fold f its a) (I its.length)
  | [], a, I, h0, _ => Yl.ok h0
  | d :: ds, a, I, h0, hs => by
    have := (hs 0 d a rfl h0).bind (k := fun b => PO.fold f ds b) (m := n * ds.length) (Q := I (d :: ds).length) fun b hb => Yl.fold (fun j => I (j + 1)) hb fun j x b hx hb => hs (j + 1) x b (by simpa using hx) hb
    rw [List.length_cons, Nat.mul_succ, Nat.add_comm]
    rw [List.length_cons] at this
    exact this
theorem Yl.lcM {f : D → M (Option D)} {n : Nat} {R : D → D → Prop} : ∀ {its : List D}, (∀ d ∈ its, Yl n (f d) fun o => ∃ v, o = some v ∧ R d v) → Yl (n * its.length) (PO.lcM f its) fun ds => Paired R its ds
  | [], _ => Yl.ok .nil
  | d :: ds, h => fun F hc ha hr => by
    rw [List.length_cons, Nat.mul_succ] at ha ⊢
    obtain ⟨o, F1, e1, ⟨v, rfl, q⟩, c1, a1, r1⟩ := h d List.mem_cons_self F hc (by omega) hr
    obtain ⟨vs, F2, e2, q2, c2, a2, r2⟩ := Yl.lcM (fun e m => h e (List.mem_cons_of_mem _ m)) F1 (by rw [c1]; exact hc) (by omega) r1
    refine ⟨v :: vs, F2, ?_, .cons q q2, by rw [c2, c1], by omega, r2⟩
    unfold PO.lcM
    rw [e1]
    dsimp only
    rw [e2]
theorem Yl.lcD {f : D → M (Option D)} {n : Nat} {R : D → D → Prop} {its : List D} (hl : its.length ≤ 100000) (h : ∀ d ∈ its, Yl n (f d) fun o => ∃ v, o = some v ∧ R d v) : Yl (n * its.length) (PO.lcD (M.ok its) f) fun r => ∃ ds, r = .list ds ∧ Paired R its ds := by
  rw [lcD_ok]
  unfold lc
  rw [if_pos hl]
  exact (Yl.lcM h).bind (m := 0) fun ds q => Yl.ok ⟨ds, rfl, q⟩
end
end PO

set_option maxRecDepth 100000
set_option maxHeartbeats 4000000
/-! PP: the defs that draw an office and a book. -/
namespace Bk
open PySem L2 PO
open PN hiding RF RO e_and e_call e_chain e_if e_isi e_lc e_mt e_not e_or e_part e_sl i_any i_zip
noncomputable abbrev p__law_draw := drawM
noncomputable def p__law_words : M D := M.bind (M.bind (M.bind (M.ok (.str "a")) fun x2 => (M.bind (M.ok (.str "aa")) fun x3 => (M.bind (M.ok (.str "aaa")) fun x4 => (M.bind (M.ok (.str "ab")) fun x5 => (M.bind (M.ok (.str "b")) fun x6 => M.ok (.list [x2, x3, x4, x5, x6])))))) fun x1 => (M.bind (M.bind (M.ok (.str "move")) fun x8 => (M.bind (M.ok (.str "bag")) fun x9 => (M.bind (M.ok (.str "read")) fun x10 => (M.bind (M.ok (.str "count")) fun x11 => (M.bind (M.ok (.str "void")) fun x12 => M.ok (.list [x8, x9, x10, x11, x12])))))) fun x7 => M.ok (.list [x1, x7]))) fun some_13 => M.bind (M.bind (M.ok some_13) fun a26 => M.bind (M.bind (M.bind (M.ok (.str "vault")) fun x15 => (M.bind (M.ok (.str "press")) fun x16 => (M.bind (M.ok (.str "out")) fun x17 => (M.bind (M.ok (.str "ash")) fun x18 => (M.bind (M.ok (.str "till")) fun x19 => M.ok (.list [x15, x16, x17, x18, x19])))))) fun x14 => (M.bind (M.bind (M.ok (.str "banka")) fun x21 => (M.bind (M.ok (.str "bankb")) fun x22 => (M.bind (M.ok (.str "bankc")) fun x23 => (M.bind (M.ok (.str "tell")) fun x24 => (M.bind (M.ok (.str "office")) fun x25 => M.ok (.list [x21, x22, x23, x24, x25])))))) fun x20 => M.ok (.list [x14, x20]))) fun b27 => op2 pAdd a26 b27) fun some_28 => M.bind (M.bind (M.ok some_28) fun a29 => M.bind (M.bind (M.ok (.int 4)) fun x30 => p__law_draw x30) fun i31 => op2 pIx a29 i31) M.ok
noncomputable def p__law_office : M D := M.bind (p__law_words) fun words_here1 => M.bind (M.bind (M.ok words_here1) fun a2 => M.bind (M.ok .none) fun l7 => parts l7 (M.bind (M.bind (M.bind (M.ok (.int 2)) fun a4 => M.bind (M.bind (M.ok (.int 4)) fun x3 => p__law_draw x3) fun b5 => op2 pAdd a4 b5) intM) fun h8 => op3 pSl a2 l7 h8)) fun places9 => M.bind (M.bind (M.bind (M.ok (.str "none")) fun x11 => (M.bind (M.bind (M.ok places9) fun a13 => M.bind (M.bind (M.bind (M.ok places9) fun x15 => op1 pLen x15) fun x14 => p__law_draw x14) fun i16 => op2 pIx a13 i16) fun x12 => M.ok (.tuple [x11, x12]))) fun x10 => M.ok [x10]) fun ways18 => M.bind (M.bind (M.bind (M.bind (M.ok (.int 2)) fun a21 => M.bind (M.bind (M.ok (.int 10)) fun x20 => p__law_draw x20) fun b22 => op2 pAdd a21 b22) rangeM) fun its46 => fold (fun it23 st19 => M.bind (M.bind (M.bind (M.ok places9) fun a25 => M.bind (M.bind (M.ok (.str "none")) fun x24 => M.ok (.list [x24])) fun b26 => op2 pAdd a25 b26) fun a27 => M.bind (M.bind (M.bind (M.bind (M.ok places9) fun x29 => op1 pLen x29) fun a30 => M.bind (M.ok (.int 1)) fun b31 => op2 pAdd a30 b31) fun x28 => p__law_draw x28) fun i32 => op2 pIx a27 i32) fun one33 => M.bind (M.bind (M.ok places9) fun a34 => M.bind (M.bind (M.bind (M.ok places9) fun x36 => op1 pLen x36) fun x35 => p__law_draw x35) fun i37 => op2 pIx a34 i37) fun other38 => M.bind (M.bind (M.ok one33) fun a39 => M.bind (M.ok other38) fun b40 => op2 pNe a39 b40) fun t41 => M.ite t41 (M.bind (M.bind (M.bind (M.ok one33) fun x44 => (M.bind (M.ok other38) fun x45 => M.ok (.tuple [x44, x45]))) fun v43 => push st19 v43) fun ways42 => M.ok ways42) (M.ok st19)) its46 ways18) fun st19 => M.bind (M.bind (M.bind (M.bind (M.bind (M.ok (.str "a")) fun x48 => (M.bind (M.ok (.str "b")) fun x49 => (M.bind (M.ok (.str "c")) fun x50 => M.ok (.list [x48, x49, x50])))) fun x47 => (M.bind (M.bind (M.ok (.str "ab")) fun x52 => (M.bind (M.ok (.str "abc")) fun x53 => (M.bind (M.ok (.str "b")) fun x54 => M.ok (.list [x52, x53, x54])))) fun x51 => (M.bind (M.bind (M.ok (.str "none")) fun x56 => (M.bind (M.ok (.str "move")) fun x57 => (M.bind (M.ok (.str "x")) fun x58 => M.ok (.list [x56, x57, x58])))) fun x55 => M.ok (.list [x47, x51, x55])))) fun a59 => M.bind (M.bind (M.ok (.int 3)) fun x60 => p__law_draw x60) fun i61 => op2 pIx a59 i61) fun a62 => M.bind (M.ok .none) fun l67 => parts l67 (M.bind (M.bind (M.bind (M.ok (.int 1)) fun a64 => M.bind (M.bind (M.ok (.int 3)) fun x63 => p__law_draw x63) fun b65 => op2 pAdd a64 b65) intM) fun h68 => op3 pSl a62 l67 h68)) fun series69 => M.bind (M.bind (lcD (M.bind (M.bind (M.ok series69) fun x71 => op1 pSorted x71) iterM) fun it72 => M.bind (M.bind (M.ok it72) fun x73 => (M.bind (M.bind (M.bind (M.ok (.int 1)) fun x75 => (M.bind (M.ok (.int 5)) fun x76 => (M.bind (M.ok (.int 1000000)) fun x77 => M.ok (.list [x75, x76, x77])))) fun a78 => M.bind (M.bind (M.ok (.int 3)) fun x79 => p__law_draw x79) fun i80 => op2 pIx a78 i80) fun x74 => M.ok (.tuple [x73, x74]))) fun v81 => M.ok (some v81)) fun x70 => op1 pTupleOf x70) fun worths82 => M.bind (M.bind (M.ok worths82) fun x83 => (M.bind (M.bind (M.bind (M.ok (.list st19)) fun a86 => op1 pSortSet a86) fun x85 => op1 pTupleOf x85) fun x84 => M.ok (.tuple [x83, x84]))) M.ok
noncomputable def p__law_name : M D := M.bind (M.bind (M.bind (M.ok (.int 6)) fun x2 => p__law_draw x2) fun x1 => (M.bind (M.bind (M.ok (.int 8)) fun a5 => M.bind (M.bind (M.ok (.int 5)) fun x4 => p__law_draw x4) fun b6 => op2 pAdd a5 b6) fun x3 => (M.bind (M.ok (.int 99999)) fun x7 => M.ok (.list [x1, x3, x7])))) fun days8 => M.bind (M.bind (M.bind (M.ok (.str "a")) fun x9 => (M.bind (M.ok (.str "ab")) fun x10 => (M.bind (M.ok (.str "b")) fun x11 => (M.bind (M.ok (.str "bcdefghi")) fun x12 => M.ok (.list [x9, x10, x11, x12]))))) fun a13 => M.bind (M.bind (M.ok (.int 4)) fun x14 => p__law_draw x14) fun i15 => op2 pIx a13 i15) fun hand16 => M.bind (M.bind (M.bind (M.ok days8) fun a18 => M.bind (M.bind (M.bind (M.ok (.int 0)) fun x19 => (M.bind (M.ok (.int 0)) fun x20 => (M.bind (M.ok (.int 1)) fun x21 => (M.bind (M.ok (.int 1)) fun x22 => (M.bind (M.ok (.int 2)) fun x23 => M.ok (.list [x19, x20, x21, x22, x23])))))) fun a24 => M.bind (M.bind (M.ok (.int 5)) fun x25 => p__law_draw x25) fun i26 => op2 pIx a24 i26) fun i27 => op2 pIx a18 i27) fun x17 => (M.bind (M.bind (M.bind (M.ok (.int 0)) fun x29 => (M.bind (M.ok (.int 2)) fun x30 => (M.bind (M.ok (.int 10)) fun x31 => (M.bind (M.ok (.int 999)) fun x32 => M.ok (.list [x29, x30, x31, x32]))))) fun a33 => M.bind (M.bind (M.ok (.int 4)) fun x34 => p__law_draw x34) fun i35 => op2 pIx a33 i35) fun x28 => (M.bind (M.ok hand16) fun x36 => M.ok (.tuple [x17, x28, x36])))) M.ok
noncomputable def p__law_runs_of (notes1 : D) : M D := M.bind (M.ok []) fun found3 => M.bind (M.bind (M.bind (M.bind (M.ok notes1) fun a5 => op1 pSortSet a5) iterM) fun its50 => fold (fun it6 st4 => un2 it6 fun series7 number8 => M.bind (M.bind (M.bind (M.bind (M.ok (.list st4)) fun x9 => op1 pLen x9) fun a10 => M.bind (M.ok (.int 0)) fun b11 => op2 pGt a10 b11) fun t27 => M.ite t27 (M.bind (M.bind (M.bind (M.bind (M.ok (.list st4)) fun a12 => M.bind (M.bind (M.ok (.int 1)) fun a13 => op1 pNeg a13) fun i14 => op2 pIx a12 i14) fun a15 => M.bind (M.ok (.int 0)) fun i16 => op2 pIx a15 i16) fun a17 => M.bind (M.ok series7) fun b18 => op2 pEq a17 b18) fun t26 => M.ite t26 (M.bind (M.bind (M.bind (M.ok (.list st4)) fun a19 => M.bind (M.bind (M.ok (.int 1)) fun a20 => op1 pNeg a20) fun i21 => op2 pIx a19 i21) fun a22 => M.bind (M.ok (.int 2)) fun i23 => op2 pIx a22 i23) fun a24 => M.bind (M.ok number8) fun b25 => op2 pEq a24 b25) (M.ok (.bool false))) (M.ok (.bool false))) fun t28 => M.ite t28 (M.bind (M.bind (M.bind (M.ok series7) fun x29 => (M.bind (M.bind (M.bind (M.ok (.list st4)) fun a31 => M.bind (M.bind (M.ok (.int 1)) fun a32 => op1 pNeg a32) fun i33 => op2 pIx a31 i33) fun a34 => M.bind (M.ok (.int 1)) fun i35 => op2 pIx a34 i35) fun x30 => (M.bind (M.bind (M.ok number8) fun a37 => M.bind (M.ok (.int 1)) fun b38 => op2 pAdd a37 b38) fun x36 => M.ok (.tuple [x29, x30, x36])))) fun v40 => M.bind (M.bind (M.ok (.int 1)) fun a39 => op1 pNeg a39) fun n41 => setM st4 n41 v40) fun found42 => M.ok found42) (M.bind (M.bind (M.bind (M.ok series7) fun x45 => (M.bind (M.ok number8) fun x46 => (M.bind (M.bind (M.ok number8) fun a48 => M.bind (M.ok (.int 1)) fun b49 => op2 pAdd a48 b49) fun x47 => M.ok (.tuple [x45, x46, x47])))) fun v44 => push st4 v44) fun found43 => M.ok found43)) its50 found3) fun st4 => M.bind (M.bind (M.ok (.list st4)) fun x51 => op1 pTupleOf x51) M.ok
noncomputable def p__law_runs (office_here1 : D) : M D := M.bind (M.bind (M.bind (M.ok (.int 12)) fun x2 => p__law_draw x2) fun a3 => M.bind (M.ok (.int 0)) fun b4 => op2 pEq a3 b4) fun t5 => M.ite t5 (M.bind (M.bind (M.bind (M.bind (M.bind (M.bind (M.ok office_here1) fun a8 => M.bind (M.ok (.int 0)) fun i9 => op2 pIx a8 i9) fun a10 => M.bind (M.ok (.int 0)) fun i11 => op2 pIx a10 i11) fun a12 => M.bind (M.ok (.int 0)) fun i13 => op2 pIx a12 i13) fun x7 => (M.bind (M.ok (.int 0)) fun x14 => (M.bind (M.bind (M.ok (.int 10)) fun a16 => M.bind (M.ok (.int 9)) fun b17 => op2 pPow a16 b17) fun x15 => M.ok (.tuple [x7, x14, x15])))) fun x6 => M.ok (.tuple [x6])) M.ok) (M.bind (M.ok []) fun notes19 => M.bind (M.bind (M.bind (M.bind (M.ok (.int 1)) fun a22 => M.bind (M.bind (M.ok (.int 3)) fun x21 => p__law_draw x21) fun b23 => op2 pAdd a22 b23) rangeM) fun its61 => fold (fun it24 st20 => M.bind (M.bind (M.bind (M.bind (M.ok office_here1) fun a25 => M.bind (M.ok (.int 0)) fun i26 => op2 pIx a25 i26) fun a27 => M.bind (M.bind (M.bind (M.bind (M.ok office_here1) fun a30 => M.bind (M.ok (.int 0)) fun i31 => op2 pIx a30 i31) fun x29 => op1 pLen x29) fun x28 => p__law_draw x28) fun i32 => op2 pIx a27 i32) fun a33 => M.bind (M.ok (.int 0)) fun i34 => op2 pIx a33 i34) fun series35 => M.bind (M.bind (M.bind (M.bind (M.ok (.int 9)) fun x37 => p__law_draw x37) fun x36 => (M.bind (M.bind (M.bind (M.ok (.int 10)) fun a39 => M.bind (M.ok (.int 9)) fun b40 => op2 pPow a39 b40) fun a41 => M.bind (M.ok (.int 6)) fun b42 => op2 pSub a41 b42) fun x38 => M.ok (.list [x36, x38]))) fun a43 => M.bind (M.bind (M.bind (M.bind (M.ok (.int 9)) fun x45 => p__law_draw x45) fun a46 => M.bind (M.ok (.int 0)) fun b47 => op2 pEq a46 b47) fun x44 => op1 pInt x44) fun i48 => op2 pIx a43 i48) fun first49 => M.bind (M.bind (lcD (M.bind (M.bind (M.ok (.int 1)) fun a53 => M.bind (M.bind (M.ok (.int 6)) fun x52 => p__law_draw x52) fun b54 => op2 pAdd a53 b54) rangeM) fun it55 => M.bind (M.bind (M.ok series35) fun x56 => (M.bind (M.bind (M.ok first49) fun a58 => M.bind (M.ok it55) fun b59 => op2 pAdd a58 b59) fun x57 => M.ok (.tuple [x56, x57]))) fun v60 => M.ok (some v60)) fun v51 => pushAll st20 v51) fun notes50 => M.ok notes50) its61 notes19) fun st20 => M.bind (M.bind (M.ok (.list st20)) fun x62 => p__law_runs_of x62) M.ok)
noncomputable def p__law_deed (office_here1 : D) (kind2 : D) (names3 : D) (bags4 : D) : M D := M.bind (M.bind (M.bind (M.ok office_here1) fun a5 => M.bind (M.ok (.int 1)) fun i6 => op2 pIx a5 i6) fun a7 => M.bind (M.bind (M.bind (M.bind (M.ok office_here1) fun a10 => M.bind (M.ok (.int 1)) fun i11 => op2 pIx a10 i11) fun x9 => op1 pLen x9) fun x8 => p__law_draw x8) fun i12 => op2 pIx a7 i12) fun v13 => un2 v13 fun one14 other15 => M.bind (M.bind (M.bind (M.ok kind2) fun a16 => M.bind (M.ok (.int 4)) fun b17 => op2 pLt a16 b17) fun t23 => M.ite t23 (M.ok (.bool true)) (M.bind (M.bind (M.ok kind2) fun a18 => M.bind (M.ok (.int 6)) fun b19 => op2 pLt a18 b19) fun t22 => M.ite t22 (M.bind (M.ok one14) fun a20 => M.bind (M.ok (.str "none")) fun b21 => op2 pEq a20 b21) (M.ok (.bool false)))) fun t24 => M.ite t24 (M.bind (M.bind (M.ok (.str "move")) fun x25 => (M.bind (M.ok one14) fun x26 => (M.bind (M.ok other15) fun x27 => (M.bind (M.bind (M.ok office_here1) fun x29 => p__law_runs x29) fun x28 => M.ok (.tuple [x25, x26, x27, x28]))))) M.ok) (M.bind (M.bind (M.ok kind2) fun a30 => M.bind (M.ok (.int 6)) fun b31 => op2 pLt a30 b31) fun t32 => M.ite t32 (M.bind (M.bind (M.ok (.str "bag")) fun x33 => (M.bind (M.ok one14) fun x34 => (M.bind (M.ok other15) fun x35 => (M.bind (M.bind (M.bind (M.bind (M.ok (.int 1)) fun a39 => M.bind (M.bind (M.ok (.int 8)) fun x38 => p__law_draw x38) fun b40 => op2 pAdd a39 b40) fun x37 => (M.bind (M.bind (M.ok (.int 10)) fun a42 => M.bind (M.ok (.int 9)) fun b43 => op2 pPow a42 b43) fun x41 => M.ok (.list [x37, x41]))) fun a44 => M.bind (M.bind (M.bind (M.bind (M.ok (.int 9)) fun x46 => p__law_draw x46) fun a47 => M.bind (M.ok (.int 0)) fun b48 => op2 pEq a47 b48) fun x45 => op1 pInt x45) fun i49 => op2 pIx a44 i49) fun x36 => M.ok (.tuple [x33, x34, x35, x36]))))) M.ok) (M.bind (M.bind (M.ok kind2) fun a50 => M.bind (M.ok (.int 8)) fun b51 => op2 pLt a50 b51) fun t52 => M.ite t52 (M.bind (M.bind (M.bind (M.bind (M.bind (M.ok bags4) fun x53 => op1 pLen x53) fun a54 => M.bind (M.ok (.int 0)) fun b55 => op2 pGt a54 b55) fun t59 => M.ite t59 (M.bind (M.bind (M.ok (.int 5)) fun x56 => p__law_draw x56) fun a57 => M.bind (M.ok (.int 0)) fun b58 => op2 pGt a57 b58) (M.ok (.bool false))) fun t60 => M.ite t60 (M.ok bags4) (M.ok names3)) fun some_61 => M.bind (M.bind (M.ok (.str "read")) fun x62 => (M.bind (M.bind (M.ok some_61) fun a64 => M.bind (M.bind (M.bind (M.ok some_61) fun x66 => op1 pLen x66) fun x65 => p__law_draw x65) fun i67 => op2 pIx a64 i67) fun x63 => (M.bind (M.bind (M.ok office_here1) fun x69 => p__law_runs x69) fun x68 => M.ok (.tuple [x62, x63, x68])))) M.ok) (M.bind (M.bind (M.ok kind2) fun a70 => M.bind (M.ok (.int 11)) fun b71 => op2 pLt a70 b71) fun t72 => M.ite t72 (M.bind (M.bind (M.ok (.str "count")) fun x73 => (M.bind (M.ok other15) fun x74 => (M.bind (M.bind (M.bind (M.bind (M.ok (.int 30)) fun x77 => p__law_draw x77) fun x76 => (M.bind (M.bind (M.ok (.int 10)) fun a79 => M.bind (M.ok (.int 12)) fun b80 => op2 pPow a79 b80) fun x78 => M.ok (.list [x76, x78]))) fun a81 => M.bind (M.bind (M.bind (M.bind (M.ok (.int 9)) fun x83 => p__law_draw x83) fun a84 => M.bind (M.ok (.int 0)) fun b85 => op2 pEq a84 b85) fun x82 => op1 pInt x82) fun i86 => op2 pIx a81 i86) fun x75 => M.ok (.tuple [x73, x74, x75])))) M.ok) (M.bind (M.bind (M.ok (.str "void")) fun x87 => (M.bind (M.bind (M.ok names3) fun a89 => M.bind (M.bind (M.bind (M.ok names3) fun x91 => op1 pLen x91) fun x90 => p__law_draw x90) fun i92 => op2 pIx a89 i92) fun x88 => M.ok (.tuple [x87, x88]))) M.ok))))
noncomputable def p__law_book (office_here1 : D) (most2 : D) : M D := M.bind (M.bind (lcD (M.bind (M.ok most2) rangeM) fun it3 => M.bind (p__law_name) fun v4 => M.ok (some v4)) fun a5 => op1 pSortSet a5) fun names6 => M.bind (lcD (M.bind (M.ok names6) iterM) fun it7 => M.bind (M.bind (M.ok (.int 12)) fun x8 => p__law_draw x8) fun v9 => M.ok (some v9)) fun kinds10 => M.bind (lcD (M.bind (M.ok names6) fun a11 => M.bind (M.ok kinds10) fun b12 => zipM a11 b12) fun it13 => un2 it13 fun name_here14 kind15 => M.bind (M.bind (M.ok (.int 4)) fun a17 => M.bind (M.ok kind15) fun b18 => M.bind (op2 pLe a17 b18) fun t20 => M.ite t20 (M.bind (M.ok (.int 6)) fun c19 => op2 pLt b18 c19) (M.ok (.bool false))) fun t21 => M.ite t21 (M.bind (M.ok name_here14) fun v16 => M.ok (some v16)) (M.ok none)) fun bags22 => M.bind (M.bind (lcD (M.bind (M.ok names6) fun a24 => M.bind (M.ok kinds10) fun b25 => zipM a24 b25) fun it26 => un2 it26 fun name_here27 kind28 => M.bind (M.bind (M.ok name_here27) fun x29 => (M.bind (M.bind (M.ok office_here1) fun x31 => (M.bind (M.ok kind28) fun x32 => (M.bind (M.ok names6) fun x33 => (M.bind (M.ok bags22) fun x34 => p__law_deed x31 x32 x33 x34)))) fun x30 => M.ok (.tuple [x29, x30]))) fun v35 => M.ok (some v35)) fun x23 => op1 pTupleOf x23) M.ok
end Bk

set_option maxRecDepth 100000
set_option maxHeartbeats 4000000
/-! PP: what an office and a book are made of. -/
namespace PO
open PySem L2
open PN hiding RF RO e_and e_call e_chain e_if e_isi e_lc e_mt e_not e_or e_part e_sl i_any i_zip
theorem un2_t {α : Type} {a b : D} {k : D → D → M α} : un2 (.tuple [a, b]) k = k a b := rfl
theorem un3_t {α : Type} {a b c : D} {k : D → D → D → M α} : un3 (.tuple [a, b, c]) k = k a b c := rfl
theorem m_ite {α : Type} {b : Bool} {x y : M α} : M.ite (.bool b) x y = if b then x else y := by cases b <;> rfl
theorem iter_l {ds : List D} : iterM (.list ds) = M.ok ds := rfl
theorem iter_t {ds : List D} : iterM (.tuple ds) = M.ok ds := rfl
theorem part_n {k : M D} : parts .none k = k := rfl
theorem part_i {i : Int} {k : M D} : parts (.int i) k = k := rfl
theorem int_i {i : Int} : intM (.int i) = M.ok (.int i) := rfl
theorem m_zip {xs ys : List D} : zipM (.list xs) (.list ys) = M.ok ((List.zip xs ys).map fun p => .tuple [p.1, p.2]) := rfl
theorem m_range {n : Nat} (h : n ≤ 1000000) : rangeM (.int (n : Int)) = M.ok (intsD 0 n) := by
  unfold rangeM
  dsimp only
  rw [if_pos ⟨by omega, by omega⟩, Int.toNat_natCast]
theorem m_push {ds : List D} {d : D} (h : ds.length < 1000000) : push ds d = M.ok (ds ++ [d]) := if_pos h
theorem m_pushAll {ds es : List D} (h : ds.length + es.length ≤ 1000000) : pushAll ds (.list es) = M.ok (ds ++ es) := if_pos h
theorem len_ints {a : Int} {n : Nat} : (intsD a n).length = n := by unfold intsD; rw [List.length_map, List.length_range]
theorem mem_ints {n : Nat} {d : D} (h : d ∈ intsD 0 n) : ∃ j : Nat, j < n ∧ d = .int (j : Int) := by
  unfold intsD at h
  obtain ⟨j, m, rfl⟩ := List.mem_map.mp h
  exact ⟨j, List.mem_range.mp m, by rw [Int.zero_add]⟩
section
variable {α β : Type} {n m : Nat} {P : α → Prop} {Q : β → Prop}
theorem Yl.lcDx {xi : M (List D)} {f : D → M (Option D)} {P : List D → Prop} {Q : D → Prop} (h : Yl n xi P) (h2 : ∀ its, P its → Yl m (PO.lcD (M.ok its) f) Q) : Yl (n + m) (PO.lcD xi f) Q := fun F hc ha hr => by
  obtain ⟨d, F1, e1, p1, c1, a1, r1⟩ := h F hc (by omega) hr
  obtain ⟨d2, F2, e2, p2, c2, a2, r2⟩ := h2 d p1 F1 (by rw [c1]; exact hc) (by omega) r1
  exact ⟨d2, F2, by unfold PO.lcD; rw [e1]; exact e2, p2, by rw [c2, c1], by omega, r2⟩
theorem Yl.okb {a : α} {k : α → M β} (h : Yl n (k a) Q) : Yl n (M.bind (M.ok a) k) Q := h
theorem Yl.asc {γ : Type} {x : M γ} {f : γ → M α} {k : α → M β} (h : Yl n (M.bind x fun a => M.bind (f a) k) Q) : Yl n (M.bind (M.bind x f) k) Q := by rw [M.bind_assoc]; exact h
theorem lcD_okb {a : α} {k : α → M (List D)} {f : D → M (Option D)} : PO.lcD (M.bind (M.ok a) k) f = PO.lcD (k a) f := rfl
theorem lcD_asc {γ : Type} {x : M γ} {g : γ → M α} {k : α → M (List D)} {f : D → M (Option D)} : PO.lcD (M.bind (M.bind x g) k) f = PO.lcD (M.bind x fun a => M.bind (g a) k) f := by rw [M.bind_assoc]
/-- of one and the same -/
theorem Yl.and {x : M α} {P Q : α → Prop} {n m : Nat} (h : Yl n x P) (h2 : Yl m x Q) : Yl (max n m) x fun a => P a ∧ Q a := fun F hc ha hr => by
  obtain ⟨d, F1, e1, p1, c1, a1, r1⟩ := h F hc (by omega) hr
  obtain ⟨d2, F2, e2, p2, _⟩ := h2 F hc (by omega) hr
  rw [e1] at e2
  cases e2
  exact ⟨d, F1, e1, ⟨p1, p2⟩, c1, by omega, r1⟩
end
theorem typed {α : Type} {f : α → D} {P : α → Prop} : ∀ {ds : List D}, (∀ d ∈ ds, ∃ x, d = f x ∧ P x) → ∃ xs : List α, ds = xs.map f ∧ ∀ x ∈ xs, P x
  | [], _ => ⟨[], rfl, fun _ m => absurd m (by simp)⟩
  | d :: ds, h => by
    obtain ⟨x, rfl, p⟩ := h d List.mem_cons_self
    obtain ⟨xs, rfl, q⟩ := typed fun e m => h e (List.mem_cons_of_mem _ m)
    exact ⟨x :: xs, rfl, fun y m => (List.mem_cons.mp m).elim (fun e => by rw [e]; exact p) (q y)⟩
theorem paired_right {R : D → D → Prop} {P : D → Prop} (h : ∀ a b, R a b → P b) : ∀ {xs ys : List D}, Paired R xs ys → ∀ y ∈ ys, P y
  | _, _, .nil, _, m => absurd m (by simp)
  | _, _, .cons r t, y, m => (List.mem_cons.mp m).elim (fun e => by rw [e]; exact h _ _ r) (paired_right h t y)
/-! ### sorted -/
open Classical in
theorem m_sorted {ds : List D} (h : SortOk ds) : op1 pSorted (.list ds) = M.ok (.list (sortD ds)) := by
  refine op1_val (B' := []) ?_
  show (some (ds.map S.dat)).bind (fun ss => (datsOf ss).bind fun ds => if SortOk ds then some (S.dat (.list (sortD ds)), ([] : Bs)) else none) = _
  rw [Option.bind_some, datsOf_map, Option.bind_some, if_pos h]
open Classical in
theorem m_sortSet {ds : List D} (h : SetD ds) : op1 pSortSet (.list ds) = M.ok (.list (sortD (dedupD ds))) := by
  refine op1_val (B' := []) ?_
  show (some (ds.map S.dat)).bind (fun ss => (datsOf ss).bind fun ds => if SetD ds then some (S.dat (.list (sortD (dedupD ds))), ([] : Bs)) else none) = _
  rw [Option.bind_some, datsOf_map, Option.bind_some, if_pos h]
theorem mem_sort {ds : List D} {d : D} : d ∈ sortD ds ↔ d ∈ ds := (List.mergeSort_perm ds _).mem_iff
theorem len_sort {ds : List D} : (sortD ds).length = ds.length := (List.mergeSort_perm ds _).length_eq
theorem mem_ss {ds : List D} {d : D} : d ∈ sortD (dedupD ds) ↔ d ∈ ds := mem_sort.trans mem_dedup
theorem len_ss {ds : List D} : (sortD (dedupD ds)).length ≤ ds.length := by rw [len_sort]; exact len_dedup ds
theorem nodup_ss {ds : List D} : (sortD (dedupD ds)).Nodup := (List.mergeSort_perm _ _).nodup_iff.mpr (nodup_dedup ds)
theorem ne_ss {ds : List D} (h : ds ≠ []) : sortD (dedupD ds) ≠ [] := by
  cases ds with
  | nil => exact absurd rfl h
  | cons d ds =>
    intro e
    have := mem_ss.mpr (List.mem_cons_self (a := d) (l := ds))
    rw [e] at this
    exact absurd this (by simp)
theorem setD_s {ds : List D} (hl : ds.length < 64) (h : ∀ d ∈ ds, ∃ x, d = .str x) : SetD ds := by
  refine ⟨hl, fun d m e m' => ?_, .inl fun d m => ?_⟩
  · obtain ⟨x, rfl⟩ := h d m; obtain ⟨y, rfl⟩ := h e m'; rfl
  · obtain ⟨x, rfl⟩ := h d m; exact ⟨.inr x, rfl⟩
theorem setD_ss {ds : List D} (hl : ds.length < 64) (h : ∀ d ∈ ds, ∃ x y, d = .tuple [.str x, .str y]) : SetD ds := by
  refine ⟨hl, fun d m e m' => ?_, .inr fun d m => ?_⟩
  · obtain ⟨x, y, rfl⟩ := h d m; obtain ⟨z, w, rfl⟩ := h e m'; simp [PySem.W.alike, PySem.W.alikeAll]
  · obtain ⟨x, y, rfl⟩ := h d m; exact ⟨.inr x, [.inr y], rfl⟩
theorem setD_si {ds : List D} (hl : ds.length < 64) (h : ∀ d ∈ ds, ∃ x y, d = .tuple [.str x, .int y]) : SetD ds := by
  refine ⟨hl, fun d m e m' => ?_, .inr fun d m => ?_⟩
  · obtain ⟨x, y, rfl⟩ := h d m; obtain ⟨z, w, rfl⟩ := h e m'; simp [PySem.W.alike, PySem.W.alikeAll]
  · obtain ⟨x, y, rfl⟩ := h d m; exact ⟨.inr x, [.inl y], rfl⟩
theorem setD_iis {ds : List D} (hl : ds.length < 64) (h : ∀ d ∈ ds, ∃ x y z, d = .tuple [.int x, .int y, .str z]) : SetD ds := by
  refine ⟨hl, fun d m e m' => ?_, .inr fun d m => ?_⟩
  · obtain ⟨x, y, z, rfl⟩ := h d m; obtain ⟨x', y', z', rfl⟩ := h e m'; simp [PySem.W.alike, PySem.W.alikeAll]
  · obtain ⟨x, y, z, rfl⟩ := h d m; exact ⟨.inl x, [.inl y, .inr z], rfl⟩
theorem sortOk_s {ds : List D} (hl : ds.length < 64) (h : ∀ d ∈ ds, ∃ x, d = .str x) : SortOk ds := by
  refine ⟨fun d m e m' => ?_, .inr fun d m => ?_, by rw [sizeLine_eq]; omega, fun d m => ?_⟩
  · obtain ⟨x, rfl⟩ := h d m; obtain ⟨y, rfl⟩ := h e m'; rfl
  · obtain ⟨x, rfl⟩ := h d m; exact ⟨fun e => (by cases e), fun xs e => (by cases e)⟩
  · obtain ⟨x, rfl⟩ := h d m; exact Nat.zero_le _
end PO

set_option maxRecDepth 100000
set_option maxHeartbeats 4000000
/-! PP: what the drawing defs make. -/
namespace Bk
open PySem L2 PO
open PN hiding RF RO e_and e_call e_chain e_if e_isi e_lc e_mt e_not e_or e_part e_sl i_any i_zip
def wordsL : List (List Str) := [["a", "aa", "aaa", "ab", "b"], ["move", "bag", "read", "count", "void"], ["vault", "press", "out", "ash", "till"], ["banka", "bankb", "bankc", "tell", "office"]]
def plW : List Str := ["a", "aa", "aaa", "ab", "b", "move", "bag", "read", "count", "void", "vault", "press", "out", "ash", "till", "banka", "bankb", "bankc", "tell", "office", "none"]
def serL : List (List Str) := [["a", "b", "c"], ["ab", "abc", "b"], ["none", "move", "x"]]
def serW : List Str := ["a", "b", "c", "ab", "abc", "none", "move", "x"]
def handW : List Str := ["a", "ab", "b", "bcdefghi"]
theorem words_pl : ∀ l ∈ wordsL, ∀ s ∈ l, s ∈ plW := by decide
theorem words_5 : ∀ l ∈ wordsL, l.length = 5 := by decide
theorem ser_w : ∀ l ∈ serL, ∀ s ∈ l, s ∈ serW := by decide
theorem ser_3 : ∀ l ∈ serL, l.length = 3 := by decide
theorem y_words : Yl 1 p__law_words (fun d => ∃ l ∈ wordsL, d = .list (l.map .str)) := by
  unfold p__law_words
  simp only [M.ok_bind, M.bind_assoc, M.bind_ok, M.opt_some, m_ite, un2_t, un3_t, iter_l, iter_t, part_n, part_i, int_i, m_zip, m_ixT, m_ixL, at0, at1, at2, at3, m_eqS, m_neS, m_eqI, m_neI, m_ltI, m_leI, m_gtI, m_geI, m_addI, m_subI, m_negI, m_pow9, m_pow12, m_intB, m_lenL, m_lenT, m_tupL, m_addL (i := [_, _]) (j := [_, _]) (Nat.le_of_ble_eq_true rfl)]
  refine Yl.drawB (n := 0) (by decide) (by decide) fun i h0 h1 => ?_
  try simp only [M.ok_bind, M.bind_assoc, M.bind_ok, M.opt_some, m_ite, un2_t, un3_t, iter_l, iter_t, part_n, part_i, int_i, m_zip, m_ixT, m_ixL, at0, at1, at2, at3, m_eqS, m_neS, m_eqI, m_neI, m_ltI, m_leI, m_gtI, m_geI, m_addI, m_subI, m_negI, m_pow9, m_pow12, m_intB, m_lenL, m_lenT, m_tupL]
  obtain ⟨d, hd, e2⟩ := pickM (fun l : List Str => PyData.list (l.map .str)) (l := wordsL) h0 (by simpa [wordsL] using h1)
  refine Yl.of_ok (a := .list (d.map .str)) ?_ ⟨d, hd, rfl⟩
  exact congrArg M.opt e2
abbrev Nm := Int × Int × Str
def nmD (n : Nm) : D := .tuple [.int n.1, .int n.2.1, .str n.2.2]
structure GNm (n : Nm) : Prop where
  d0 : 0 ≤ n.1
  d1 : n.1 ≤ 99999
  k0 : 0 ≤ n.2.1
  k1 : n.2.1 ≤ 999
  hd : n.2.2 ∈ handW
theorem y_name : Yl 5 p__law_name (fun d => ∃ n, d = nmD n ∧ GNm n) := by
  unfold p__law_name
  try simp only [M.ok_bind, M.bind_assoc, M.bind_ok, M.opt_some, m_ite, un2_t, un3_t, iter_l, iter_t, part_n, part_i, int_i, m_zip, m_ixT, m_ixL, at0, at1, at2, at3, m_eqS, m_neS, m_eqI, m_neI, m_ltI, m_leI, m_gtI, m_geI, m_addI, m_subI, m_negI, m_pow9, m_pow12, m_intB, m_lenL, m_lenT, m_tupL]
  refine Yl.drawB (n := 4) (by decide) (by decide) fun a a0 a1 => ?_
  try simp only [M.ok_bind, M.bind_assoc, M.bind_ok, M.opt_some, m_ite, un2_t, un3_t, iter_l, iter_t, part_n, part_i, int_i, m_zip, m_ixT, m_ixL, at0, at1, at2, at3, m_eqS, m_neS, m_eqI, m_neI, m_ltI, m_leI, m_gtI, m_geI, m_addI, m_subI, m_negI, m_pow9, m_pow12, m_intB, m_lenL, m_lenT, m_tupL]
  refine Yl.drawB (n := 3) (by decide) (by decide) fun b b0 b1 => ?_
  try simp only [M.ok_bind, M.bind_assoc, M.bind_ok, M.opt_some, m_ite, un2_t, un3_t, iter_l, iter_t, part_n, part_i, int_i, m_zip, m_ixT, m_ixL, at0, at1, at2, at3, m_eqS, m_neS, m_eqI, m_neI, m_ltI, m_leI, m_gtI, m_geI, m_addI, m_subI, m_negI, m_pow9, m_pow12, m_intB, m_lenL, m_lenT, m_tupL]
  refine Yl.drawB (n := 2) (by decide) (by decide) fun c c0 c1 => ?_
  try simp only [M.ok_bind, M.bind_assoc, M.bind_ok, M.opt_some, m_ite, un2_t, un3_t, iter_l, iter_t, part_n, part_i, int_i, m_zip, m_ixT, m_ixL, at0, at1, at2, at3, m_eqS, m_neS, m_eqI, m_neI, m_ltI, m_leI, m_gtI, m_geI, m_addI, m_subI, m_negI, m_pow9, m_pow12, m_intB, m_lenL, m_lenT, m_tupL]
  obtain ⟨h, hh, e2⟩ := pickM PyData.str (l := handW) c0 (by simpa [handW] using c1)
  have e2 : atI [PyData.str "a", .str "ab", .str "b", .str "bcdefghi"] c = some (.str h) := e2
  simp only [M.ok_bind, M.bind_assoc, M.bind_ok, M.opt_some, m_ite, un2_t, un3_t, iter_l, iter_t, part_n, part_i, int_i, m_zip, m_ixT, m_ixL, at0, at1, at2, at3, m_eqS, m_neS, m_eqI, m_neI, m_ltI, m_leI, m_gtI, m_geI, m_addI, m_subI, m_negI, m_pow9, m_pow12, m_intB, m_lenL, m_lenT, m_tupL, e2]
  refine Yl.drawB (n := 1) (by decide) (by decide) fun f f0 f1 => ?_
  try simp only [M.ok_bind, M.bind_assoc, M.bind_ok, M.opt_some, m_ite, un2_t, un3_t, iter_l, iter_t, part_n, part_i, int_i, m_zip, m_ixT, m_ixL, at0, at1, at2, at3, m_eqS, m_neS, m_eqI, m_neI, m_ltI, m_leI, m_gtI, m_geI, m_addI, m_subI, m_negI, m_pow9, m_pow12, m_intB, m_lenL, m_lenT, m_tupL]
  obtain ⟨g, hg, e4⟩ := pickM PyData.int (l := ([0, 0, 1, 1, 2] : List Int)) f0 (by simpa using f1)
  have e4 : atI [PyData.int 0, .int 0, .int 1, .int 1, .int 2] f = some (.int g) := e4
  simp only [M.ok_bind, M.bind_assoc, M.bind_ok, M.opt_some, m_ite, un2_t, un3_t, iter_l, iter_t, part_n, part_i, int_i, m_zip, m_ixT, m_ixL, at0, at1, at2, at3, m_eqS, m_neS, m_eqI, m_neI, m_ltI, m_leI, m_gtI, m_geI, m_addI, m_subI, m_negI, m_pow9, m_pow12, m_intB, m_lenL, m_lenT, m_tupL, e4]
  have hg2 : 0 ≤ g ∧ g < 3 := by simp at hg; omega
  obtain ⟨y, hy, e6⟩ := pickM PyData.int (l := ([a, 8 + b, 99999] : List Int)) hg2.1 (by simpa using hg2.2)
  have e6 : atI [PyData.int a, .int (8 + b), .int 99999] g = some (.int y) := e6
  simp only [M.ok_bind, M.bind_assoc, M.bind_ok, M.opt_some, m_ite, un2_t, un3_t, iter_l, iter_t, part_n, part_i, int_i, m_zip, m_ixT, m_ixL, at0, at1, at2, at3, m_eqS, m_neS, m_eqI, m_neI, m_ltI, m_leI, m_gtI, m_geI, m_addI, m_subI, m_negI, m_pow9, m_pow12, m_intB, m_lenL, m_lenT, m_tupL, e6]
  refine Yl.drawB (n := 0) (by decide) (by decide) fun p p0 p1 => ?_
  try simp only [M.ok_bind, M.bind_assoc, M.bind_ok, M.opt_some, m_ite, un2_t, un3_t, iter_l, iter_t, part_n, part_i, int_i, m_zip, m_ixT, m_ixL, at0, at1, at2, at3, m_eqS, m_neS, m_eqI, m_neI, m_ltI, m_leI, m_gtI, m_geI, m_addI, m_subI, m_negI, m_pow9, m_pow12, m_intB, m_lenL, m_lenT, m_tupL]
  obtain ⟨z, hz, e8⟩ := pickM PyData.int (l := ([0, 2, 10, 999] : List Int)) p0 (by simpa using p1)
  have e8 : atI [PyData.int 0, .int 2, .int 10, .int 999] p = some (.int z) := e8
  simp only [M.ok_bind, M.bind_assoc, M.bind_ok, M.opt_some, m_ite, un2_t, un3_t, iter_l, iter_t, part_n, part_i, int_i, m_zip, m_ixT, m_ixL, at0, at1, at2, at3, m_eqS, m_neS, m_eqI, m_neI, m_ltI, m_leI, m_gtI, m_geI, m_addI, m_subI, m_negI, m_pow9, m_pow12, m_intB, m_lenL, m_lenT, m_tupL, e8]
  refine Yl.ok ⟨(y, z, h), rfl, ?_, ?_, ?_, ?_, hh⟩
  · show 0 ≤ y
    simp at hy; omega
  · show y ≤ 99999
    simp at hy; omega
  · show 0 ≤ z
    simp at hz; omega
  · show z ≤ 999
    simp at hz; omega
end Bk

set_option maxRecDepth 100000
set_option maxHeartbeats 4000000
/-! PP: the office. -/
namespace Bk
open PySem L2 PO
open PN hiding RF RO e_and e_call e_chain e_if e_isi e_lc e_mt e_not e_or e_part e_sl i_any i_zip
def wayD (w : Str × Str) : D := .tuple [.str w.1, .str w.2]
def worthD (w : Str × Int) : D := .tuple [.str w.1, .int w.2]
def GWay (w : Str × Str) : Prop := w.1 ∈ plW ∧ w.2 ∈ plW
def offD (ws : List (Str × Int)) (rs : List (Str × Str)) : D := .tuple [.tuple (ws.map worthD), .tuple (rs.map wayD)]
structure Off (ws : List (Str × Int)) (rs : List (Str × Str)) : Prop where
  w0 : ws ≠ []
  w1 : ∀ w ∈ ws, w.1 ∈ serW
  wl : ws.length ≤ 3
  r0 : rs ≠ []
  r1 : ∀ r ∈ rs, GWay r
  rl : rs.length ≤ 12
theorem none_pl : ("none" : Str) ∈ plW := by decide
theorem len_take {α : Type} {l : List α} {k : Nat} (h : k ≤ l.length) : (l.take k).length = k := by rw [List.length_take]; omega
theorem y_office : Yl 60 p__law_office (fun d => ∃ ws rs, d = offD ws rs ∧ Off ws rs) := by
  unfold p__law_office
  refine (Yl.bind (m := 59) y_words fun d hd => ?_).up (by decide) fun _ h => h
  obtain ⟨l, hl, rfl⟩ := hd
  have hl5 := words_5 l hl
  repeat (first | with_reducible refine Yl.okb ?_ | with_reducible refine Yl.asc ?_ | rw [lcD_okb] | rw [lcD_asc] | rw [M.opt_some] | rw [un2_t] | rw [un3_t] | rw [iter_l] | rw [iter_t] | rw [part_n] | rw [part_i] | rw [int_i] | rw [m_zip] | rw [m_eqS] | rw [m_neS] | rw [m_eqI] | rw [m_neI] | rw [m_ltI] | rw [m_leI] | rw [m_gtI] | rw [m_geI] | rw [m_addI] | rw [m_subI] | rw [m_negI] | rw [m_pow9] | rw [m_pow12] | rw [m_intB] | rw [m_lenL] | rw [m_lenT] | rw [m_tupL] | rw [m_ixT] | rw [m_ixL] | rw [at0] | rw [at1] | rw [at2] | rw [at3] | rw [m_ite] | rw [List.length_map])
  refine Yl.drawB (n := 58) (by decide) (by decide) fun a a0 a1 => ?_
  obtain ⟨k, rfl⟩ := Int.eq_ofNat_of_zero_le a0
  repeat (first | with_reducible refine Yl.okb ?_ | with_reducible refine Yl.asc ?_ | rw [lcD_okb] | rw [lcD_asc] | rw [M.opt_some] | rw [un2_t] | rw [un3_t] | rw [iter_l] | rw [iter_t] | rw [part_n] | rw [part_i] | rw [int_i] | rw [m_zip] | rw [m_eqS] | rw [m_neS] | rw [m_eqI] | rw [m_neI] | rw [m_ltI] | rw [m_leI] | rw [m_gtI] | rw [m_geI] | rw [m_addI] | rw [m_subI] | rw [m_negI] | rw [m_pow9] | rw [m_pow12] | rw [m_intB] | rw [m_lenL] | rw [m_lenT] | rw [m_tupL] | rw [m_ixT] | rw [m_ixL] | rw [at0] | rw [at1] | rw [at2] | rw [at3] | rw [m_ite] | rw [List.length_map])
  have e1 : (2 : Int) + (k : Int) = ((2 + k : Nat) : Int) := by omega
  rw [e1, m_slL _ (lo := none) (hi := some ((2 + k : Nat) : Int)) rfl rfl, cut_to, ← List.map_take]
  generalize hpl : l.take (2 + k) = pl
  have pl_len : pl.length = 2 + k := by rw [← hpl]; exact len_take (by omega)
  have pl_in : ∀ s ∈ pl, s ∈ plW := fun s m => words_pl l hl s (by rw [← hpl] at m; exact List.mem_of_mem_take m)
  repeat (first | with_reducible refine Yl.okb ?_ | with_reducible refine Yl.asc ?_ | rw [lcD_okb] | rw [lcD_asc] | rw [M.opt_some] | rw [un2_t] | rw [un3_t] | rw [iter_l] | rw [iter_t] | rw [part_n] | rw [part_i] | rw [int_i] | rw [m_zip] | rw [m_eqS] | rw [m_neS] | rw [m_eqI] | rw [m_neI] | rw [m_ltI] | rw [m_leI] | rw [m_gtI] | rw [m_geI] | rw [m_addI] | rw [m_subI] | rw [m_negI] | rw [m_pow9] | rw [m_pow12] | rw [m_intB] | rw [m_lenL] | rw [m_lenT] | rw [m_tupL] | rw [m_ixT] | rw [m_ixL] | rw [at0] | rw [at1] | rw [at2] | rw [at3] | rw [m_ite] | rw [List.length_map])
  refine Yl.drawB (n := 57) (by omega) (by omega) fun b b0 b1 => ?_
  obtain ⟨q, hq, e2⟩ := pickM PyData.str b0 b1
  repeat (first | with_reducible refine Yl.okb ?_ | with_reducible refine Yl.asc ?_ | rw [e2] | rw [lcD_okb] | rw [lcD_asc] | rw [M.opt_some] | rw [un2_t] | rw [un3_t] | rw [iter_l] | rw [iter_t] | rw [part_n] | rw [part_i] | rw [int_i] | rw [m_zip] | rw [m_eqS] | rw [m_neS] | rw [m_eqI] | rw [m_neI] | rw [m_ltI] | rw [m_leI] | rw [m_gtI] | rw [m_geI] | rw [m_addI] | rw [m_subI] | rw [m_negI] | rw [m_pow9] | rw [m_pow12] | rw [m_intB] | rw [m_lenL] | rw [m_lenT] | rw [m_tupL] | rw [m_ixT] | rw [m_ixL] | rw [at0] | rw [at1] | rw [at2] | rw [at3] | rw [m_ite] | rw [List.length_map])
  refine Yl.drawB (n := 56) (by decide) (by decide) fun c c0 c1 => ?_
  obtain ⟨j, rfl⟩ := Int.eq_ofNat_of_zero_le c0
  repeat (first | with_reducible refine Yl.okb ?_ | with_reducible refine Yl.asc ?_ | rw [lcD_okb] | rw [lcD_asc] | rw [M.opt_some] | rw [un2_t] | rw [un3_t] | rw [iter_l] | rw [iter_t] | rw [part_n] | rw [part_i] | rw [int_i] | rw [m_zip] | rw [m_eqS] | rw [m_neS] | rw [m_eqI] | rw [m_neI] | rw [m_ltI] | rw [m_leI] | rw [m_gtI] | rw [m_geI] | rw [m_addI] | rw [m_subI] | rw [m_negI] | rw [m_pow9] | rw [m_pow12] | rw [m_intB] | rw [m_lenL] | rw [m_lenT] | rw [m_tupL] | rw [m_ixT] | rw [m_ixL] | rw [at0] | rw [at1] | rw [at2] | rw [at3] | rw [m_ite] | rw [List.length_map])
  have e3 : (2 : Int) + (j : Int) = ((2 + j : Nat) : Int) := by omega
  rw [e3, m_range (by omega)]
  repeat (first | with_reducible refine Yl.okb ?_ | with_reducible refine Yl.asc ?_ | rw [lcD_okb] | rw [lcD_asc] | rw [M.opt_some] | rw [un2_t] | rw [un3_t] | rw [iter_l] | rw [iter_t] | rw [part_n] | rw [part_i] | rw [int_i] | rw [m_zip] | rw [m_eqS] | rw [m_neS] | rw [m_eqI] | rw [m_neI] | rw [m_ltI] | rw [m_leI] | rw [m_gtI] | rw [m_geI] | rw [m_addI] | rw [m_subI] | rw [m_negI] | rw [m_pow9] | rw [m_pow12] | rw [m_intB] | rw [m_lenL] | rw [m_lenT] | rw [m_tupL] | rw [m_ixT] | rw [m_ixL] | rw [at0] | rw [at1] | rw [at2] | rw [at3] | rw [m_ite] | rw [List.length_map])
  refine Yl.bind (n := 22) (m := 34) (P := fun st => st.length ≤ 12 ∧ st ≠ [] ∧ ∀ x ∈ st, ∃ w, x = wayD w ∧ GWay w) ((Yl.fold (n := 2) (fun j (st : List D) => st.length ≤ j + 1 ∧ st ≠ [] ∧ ∀ x ∈ st, ∃ w, x = wayD w ∧ GWay w) ?_ ?_).up (by rw [len_ints]; omega) fun st h => ⟨by have := h.1; rw [len_ints] at this; omega, h.2⟩) fun st hst => ?_
  · exact ⟨Nat.le_refl _, by simp, fun x m => ⟨("none", q), by rw [List.mem_singleton.mp m]; rfl, none_pl, pl_in q hq⟩⟩
  · intro i d st hd hI
    repeat (first | with_reducible refine Yl.okb ?_ | with_reducible refine Yl.asc ?_ | rw [lcD_okb] | rw [lcD_asc] | rw [M.opt_some] | rw [un2_t] | rw [un3_t] | rw [iter_l] | rw [iter_t] | rw [part_n] | rw [part_i] | rw [int_i] | rw [m_zip] | rw [m_eqS] | rw [m_neS] | rw [m_eqI] | rw [m_neI] | rw [m_ltI] | rw [m_leI] | rw [m_gtI] | rw [m_geI] | rw [m_addI] | rw [m_subI] | rw [m_negI] | rw [m_pow9] | rw [m_pow12] | rw [m_intB] | rw [m_lenL] | rw [m_lenT] | rw [m_tupL] | rw [m_ixT] | rw [m_ixL] | rw [at0] | rw [at1] | rw [at2] | rw [at3] | rw [m_ite] | rw [List.length_map])
    rw [m_addL (by rw [List.length_map, List.length_singleton]; omega)]
    repeat (first | with_reducible refine Yl.okb ?_ | with_reducible refine Yl.asc ?_ | rw [lcD_okb] | rw [lcD_asc] | rw [M.opt_some] | rw [un2_t] | rw [un3_t] | rw [iter_l] | rw [iter_t] | rw [part_n] | rw [part_i] | rw [int_i] | rw [m_zip] | rw [m_eqS] | rw [m_neS] | rw [m_eqI] | rw [m_neI] | rw [m_ltI] | rw [m_leI] | rw [m_gtI] | rw [m_geI] | rw [m_addI] | rw [m_subI] | rw [m_negI] | rw [m_pow9] | rw [m_pow12] | rw [m_intB] | rw [m_lenL] | rw [m_lenT] | rw [m_tupL] | rw [m_ixT] | rw [m_ixL] | rw [at0] | rw [at1] | rw [at2] | rw [at3] | rw [m_ite] | rw [List.length_map])
    refine Yl.drawB (n := 1) (by omega) (by omega) fun u u0 u1 => ?_
    have e4 : (pl.map PyData.str) ++ [PyData.str "none"] = (pl ++ [("none" : Str)]).map PyData.str := by rw [List.map_append]; rfl
    rw [e4]
    obtain ⟨x, hx, e5⟩ := pickM PyData.str (l := pl ++ [("none" : Str)]) u0 (by rw [List.length_append, List.length_singleton]; omega)
    repeat (first | with_reducible refine Yl.okb ?_ | with_reducible refine Yl.asc ?_ | rw [e5] | rw [lcD_okb] | rw [lcD_asc] | rw [M.opt_some] | rw [un2_t] | rw [un3_t] | rw [iter_l] | rw [iter_t] | rw [part_n] | rw [part_i] | rw [int_i] | rw [m_zip] | rw [m_eqS] | rw [m_neS] | rw [m_eqI] | rw [m_neI] | rw [m_ltI] | rw [m_leI] | rw [m_gtI] | rw [m_geI] | rw [m_addI] | rw [m_subI] | rw [m_negI] | rw [m_pow9] | rw [m_pow12] | rw [m_intB] | rw [m_lenL] | rw [m_lenT] | rw [m_tupL] | rw [m_ixT] | rw [m_ixL] | rw [at0] | rw [at1] | rw [at2] | rw [at3] | rw [m_ite] | rw [List.length_map])
    refine Yl.drawB (n := 0) (by omega) (by omega) fun v v0 v1 => ?_
    obtain ⟨y, hy, e6⟩ := pickM PyData.str v0 v1
    repeat (first | with_reducible refine Yl.okb ?_ | with_reducible refine Yl.asc ?_ | rw [e6] | rw [lcD_okb] | rw [lcD_asc] | rw [M.opt_some] | rw [un2_t] | rw [un3_t] | rw [iter_l] | rw [iter_t] | rw [part_n] | rw [part_i] | rw [int_i] | rw [m_zip] | rw [m_eqS] | rw [m_neS] | rw [m_eqI] | rw [m_neI] | rw [m_ltI] | rw [m_leI] | rw [m_gtI] | rw [m_geI] | rw [m_addI] | rw [m_subI] | rw [m_negI] | rw [m_pow9] | rw [m_pow12] | rw [m_intB] | rw [m_lenL] | rw [m_lenT] | rw [m_tupL] | rw [m_ixT] | rw [m_ixL] | rw [at0] | rw [at1] | rw [at2] | rw [at3] | rw [m_ite] | rw [List.length_map])
    have hx2 : x ∈ plW := (List.mem_append.mp hx).elim (pl_in x) fun m => by rw [List.mem_singleton.mp m]; exact none_pl
    have hi : st.length ≤ i + 1 := hI.1
    have hi2 : i < 2 + j := by have := (List.getElem?_eq_some_iff.mp hd).1; rw [len_ints] at this; exact this
    split
    · repeat (first | with_reducible refine Yl.okb ?_ | with_reducible refine Yl.asc ?_ | rw [lcD_okb] | rw [lcD_asc] | rw [M.opt_some] | rw [un2_t] | rw [un3_t] | rw [iter_l] | rw [iter_t] | rw [part_n] | rw [part_i] | rw [int_i] | rw [m_zip] | rw [m_eqS] | rw [m_neS] | rw [m_eqI] | rw [m_neI] | rw [m_ltI] | rw [m_leI] | rw [m_gtI] | rw [m_geI] | rw [m_addI] | rw [m_subI] | rw [m_negI] | rw [m_pow9] | rw [m_pow12] | rw [m_intB] | rw [m_lenL] | rw [m_lenT] | rw [m_tupL] | rw [m_ixT] | rw [m_ixL] | rw [at0] | rw [at1] | rw [at2] | rw [at3] | rw [m_ite] | rw [List.length_map])
      rw [m_push (show st.length < 1000000 by omega)]
      repeat (first | with_reducible refine Yl.okb ?_ | with_reducible refine Yl.asc ?_ | rw [lcD_okb] | rw [lcD_asc] | rw [M.opt_some] | rw [un2_t] | rw [un3_t] | rw [iter_l] | rw [iter_t] | rw [part_n] | rw [part_i] | rw [int_i] | rw [m_zip] | rw [m_eqS] | rw [m_neS] | rw [m_eqI] | rw [m_neI] | rw [m_ltI] | rw [m_leI] | rw [m_gtI] | rw [m_geI] | rw [m_addI] | rw [m_subI] | rw [m_negI] | rw [m_pow9] | rw [m_pow12] | rw [m_intB] | rw [m_lenL] | rw [m_lenT] | rw [m_tupL] | rw [m_ixT] | rw [m_ixL] | rw [at0] | rw [at1] | rw [at2] | rw [at3] | rw [m_ite] | rw [List.length_map])
      refine Yl.ok ⟨by rw [List.length_append, List.length_singleton]; omega, by simp, fun z m => ?_⟩
      rcases List.mem_append.mp m with m | m
      · exact hI.2.2 z m
      · exact ⟨(x, y), by rw [List.mem_singleton.mp m]; rfl, hx2, pl_in y hy⟩
    · exact Yl.ok ⟨by omega, hI.2⟩
  repeat (first | with_reducible refine Yl.okb ?_ | with_reducible refine Yl.asc ?_ | rw [lcD_okb] | rw [lcD_asc] | rw [M.opt_some] | rw [un2_t] | rw [un3_t] | rw [iter_l] | rw [iter_t] | rw [part_n] | rw [part_i] | rw [int_i] | rw [m_zip] | rw [m_eqS] | rw [m_neS] | rw [m_eqI] | rw [m_neI] | rw [m_ltI] | rw [m_leI] | rw [m_gtI] | rw [m_geI] | rw [m_addI] | rw [m_subI] | rw [m_negI] | rw [m_pow9] | rw [m_pow12] | rw [m_intB] | rw [m_lenL] | rw [m_lenT] | rw [m_tupL] | rw [m_ixT] | rw [m_ixL] | rw [at0] | rw [at1] | rw [at2] | rw [at3] | rw [m_ite] | rw [List.length_map])
  refine Yl.drawB (n := 33) (by decide) (by decide) fun s s0 s1 => ?_
  obtain ⟨sl, hsl, e7⟩ := pickM (fun l : List Str => PyData.list (l.map .str)) (l := serL) s0 (by simpa [serL] using s1)
  have e7 : atI [PyData.list [PyData.str "a", .str "b", .str "c"], PyData.list [PyData.str "ab", .str "abc", .str "b"], PyData.list [PyData.str "none", .str "move", .str "x"]] s = some (PyData.list (sl.map .str)) := e7
  repeat (first | with_reducible refine Yl.okb ?_ | with_reducible refine Yl.asc ?_ | rw [e7] | rw [lcD_okb] | rw [lcD_asc] | rw [M.opt_some] | rw [un2_t] | rw [un3_t] | rw [iter_l] | rw [iter_t] | rw [part_n] | rw [part_i] | rw [int_i] | rw [m_zip] | rw [m_eqS] | rw [m_neS] | rw [m_eqI] | rw [m_neI] | rw [m_ltI] | rw [m_leI] | rw [m_gtI] | rw [m_geI] | rw [m_addI] | rw [m_subI] | rw [m_negI] | rw [m_pow9] | rw [m_pow12] | rw [m_intB] | rw [m_lenL] | rw [m_lenT] | rw [m_tupL] | rw [m_ixT] | rw [m_ixL] | rw [at0] | rw [at1] | rw [at2] | rw [at3] | rw [m_ite] | rw [List.length_map])
  refine Yl.drawB (n := 32) (by decide) (by decide) fun v v0 v1 => ?_
  obtain ⟨k2, rfl⟩ := Int.eq_ofNat_of_zero_le v0
  repeat (first | with_reducible refine Yl.okb ?_ | with_reducible refine Yl.asc ?_ | rw [lcD_okb] | rw [lcD_asc] | rw [M.opt_some] | rw [un2_t] | rw [un3_t] | rw [iter_l] | rw [iter_t] | rw [part_n] | rw [part_i] | rw [int_i] | rw [m_zip] | rw [m_eqS] | rw [m_neS] | rw [m_eqI] | rw [m_neI] | rw [m_ltI] | rw [m_leI] | rw [m_gtI] | rw [m_geI] | rw [m_addI] | rw [m_subI] | rw [m_negI] | rw [m_pow9] | rw [m_pow12] | rw [m_intB] | rw [m_lenL] | rw [m_lenT] | rw [m_tupL] | rw [m_ixT] | rw [m_ixL] | rw [at0] | rw [at1] | rw [at2] | rw [at3] | rw [m_ite] | rw [List.length_map])
  have sl3 := ser_3 sl hsl
  have e8 : (1 : Int) + (k2 : Int) = ((1 + k2 : Nat) : Int) := by omega
  rw [e8, m_slL _ (lo := none) (hi := some ((1 + k2 : Nat) : Int)) rfl rfl, cut_to, ← List.map_take]
  generalize hss : sl.take (1 + k2) = ss
  have ss_len : ss.length = 1 + k2 := by rw [← hss]; exact len_take (by omega)
  have ss_in : ∀ s ∈ ss, s ∈ serW := fun s m => ser_w sl hsl s (by rw [← hss] at m; exact List.mem_of_mem_take m)
  have sh : ∀ d ∈ ss.map PyData.str, ∃ x, d = .str x := fun d m => by
    obtain ⟨x, _, rfl⟩ := List.mem_map.mp m
    exact ⟨x, rfl⟩
  have so := sortOk_s (by rw [List.length_map]; omega) sh
  repeat (first | with_reducible refine Yl.okb ?_ | with_reducible refine Yl.asc ?_ | rw [m_sorted so] | rw [lcD_okb] | rw [lcD_asc] | rw [M.opt_some] | rw [un2_t] | rw [un3_t] | rw [iter_l] | rw [iter_t] | rw [part_n] | rw [part_i] | rw [int_i] | rw [m_zip] | rw [m_eqS] | rw [m_neS] | rw [m_eqI] | rw [m_neI] | rw [m_ltI] | rw [m_leI] | rw [m_gtI] | rw [m_geI] | rw [m_addI] | rw [m_subI] | rw [m_negI] | rw [m_pow9] | rw [m_pow12] | rw [m_intB] | rw [m_lenL] | rw [m_lenT] | rw [m_tupL] | rw [m_ixT] | rw [m_ixL] | rw [at0] | rw [at1] | rw [at2] | rw [at3] | rw [m_ite] | rw [List.length_map])
  repeat (first | with_reducible refine Yl.okb ?_ | with_reducible refine Yl.asc ?_ | rw [lcD_okb] | rw [lcD_asc] | rw [M.opt_some] | rw [un2_t] | rw [un3_t] | rw [iter_l] | rw [iter_t] | rw [part_n] | rw [part_i] | rw [int_i] | rw [m_zip] | rw [m_eqS] | rw [m_neS] | rw [m_eqI] | rw [m_neI] | rw [m_ltI] | rw [m_leI] | rw [m_gtI] | rw [m_geI] | rw [m_addI] | rw [m_subI] | rw [m_negI] | rw [m_pow9] | rw [m_pow12] | rw [m_intB] | rw [m_lenL] | rw [m_lenT] | rw [m_tupL] | rw [m_ixT] | rw [m_ixL] | rw [at0] | rw [at1] | rw [at2] | rw [at3] | rw [m_ite] | rw [List.length_map])
  have sl_len : (sortD (ss.map PyData.str)).length ≤ 3 := by rw [len_sort, List.length_map]; omega
  refine Yl.bind (n := 3) (m := 29) ((Yl.lcD (n := 1) (its := sortD (ss.map PyData.str)) (R := fun d v => ∃ w, v = worthD w ∧ w.1 ∈ serW) (by omega) fun d hd => ?_).up (m := 3) (by omega) fun _ h => h) fun r hr => ?_
  · obtain ⟨x, hx, rfl⟩ := List.mem_map.mp (mem_sort.mp hd)
    repeat (first | with_reducible refine Yl.okb ?_ | with_reducible refine Yl.asc ?_ | rw [lcD_okb] | rw [lcD_asc] | rw [M.opt_some] | rw [un2_t] | rw [un3_t] | rw [iter_l] | rw [iter_t] | rw [part_n] | rw [part_i] | rw [int_i] | rw [m_zip] | rw [m_eqS] | rw [m_neS] | rw [m_eqI] | rw [m_neI] | rw [m_ltI] | rw [m_leI] | rw [m_gtI] | rw [m_geI] | rw [m_addI] | rw [m_subI] | rw [m_negI] | rw [m_pow9] | rw [m_pow12] | rw [m_intB] | rw [m_lenL] | rw [m_lenT] | rw [m_tupL] | rw [m_ixT] | rw [m_ixL] | rw [at0] | rw [at1] | rw [at2] | rw [at3] | rw [m_ite] | rw [List.length_map])
    refine Yl.drawB (n := 0) (by decide) (by decide) fun i i0 i1 => ?_
    obtain ⟨n, hn, e9⟩ := pickM PyData.int (l := [1, 5, 1000000]) i0 (by simpa using i1)
    have e9 : atI [PyData.int 1, .int 5, .int 1000000] i = some (.int n) := e9
    repeat (first | with_reducible refine Yl.okb ?_ | with_reducible refine Yl.asc ?_ | rw [e9] | rw [lcD_okb] | rw [lcD_asc] | rw [M.opt_some] | rw [un2_t] | rw [un3_t] | rw [iter_l] | rw [iter_t] | rw [part_n] | rw [part_i] | rw [int_i] | rw [m_zip] | rw [m_eqS] | rw [m_neS] | rw [m_eqI] | rw [m_neI] | rw [m_ltI] | rw [m_leI] | rw [m_gtI] | rw [m_geI] | rw [m_addI] | rw [m_subI] | rw [m_negI] | rw [m_pow9] | rw [m_pow12] | rw [m_intB] | rw [m_lenL] | rw [m_lenT] | rw [m_tupL] | rw [m_ixT] | rw [m_ixL] | rw [at0] | rw [at1] | rw [at2] | rw [at3] | rw [m_ite] | rw [List.length_map])
    exact Yl.ok ⟨_, rfl, (x, n), rfl, ss_in x hx⟩
  · obtain ⟨ds, rfl, hp⟩ := hr
    have hlen := paired_len hp
    obtain ⟨ws, rfl, hw⟩ := typed (f := worthD) (P := fun w => w.1 ∈ serW) (paired_right (P := fun v => ∃ w, v = worthD w ∧ w.1 ∈ serW) (fun a b h => h) hp)
    obtain ⟨rs, hrs, hr⟩ := typed (f := wayD) (P := GWay) (ds := sortD (dedupD st)) fun d m => hst.2.2 d (mem_ss.mp m)
    have sd : SetD st := setD_ss (by have := hst.1; omega) fun d m => by
      obtain ⟨w, rfl, _⟩ := hst.2.2 d m
      exact ⟨_, _, rfl⟩
    repeat (first | with_reducible refine Yl.okb ?_ | with_reducible refine Yl.asc ?_ | rw [m_sortSet sd] | rw [lcD_okb] | rw [lcD_asc] | rw [M.opt_some] | rw [un2_t] | rw [un3_t] | rw [iter_l] | rw [iter_t] | rw [part_n] | rw [part_i] | rw [int_i] | rw [m_zip] | rw [m_eqS] | rw [m_neS] | rw [m_eqI] | rw [m_neI] | rw [m_ltI] | rw [m_leI] | rw [m_gtI] | rw [m_geI] | rw [m_addI] | rw [m_subI] | rw [m_negI] | rw [m_pow9] | rw [m_pow12] | rw [m_intB] | rw [m_lenL] | rw [m_lenT] | rw [m_tupL] | rw [m_ixT] | rw [m_ixL] | rw [at0] | rw [at1] | rw [at2] | rw [at3] | rw [m_ite] | rw [List.length_map])
    rw [hrs]
    repeat (first | with_reducible refine Yl.okb ?_ | with_reducible refine Yl.asc ?_ | rw [lcD_okb] | rw [lcD_asc] | rw [M.opt_some] | rw [un2_t] | rw [un3_t] | rw [iter_l] | rw [iter_t] | rw [part_n] | rw [part_i] | rw [int_i] | rw [m_zip] | rw [m_eqS] | rw [m_neS] | rw [m_eqI] | rw [m_neI] | rw [m_ltI] | rw [m_leI] | rw [m_gtI] | rw [m_geI] | rw [m_addI] | rw [m_subI] | rw [m_negI] | rw [m_pow9] | rw [m_pow12] | rw [m_intB] | rw [m_lenL] | rw [m_lenT] | rw [m_tupL] | rw [m_ixT] | rw [m_ixL] | rw [at0] | rw [at1] | rw [at2] | rw [at3] | rw [m_ite] | rw [List.length_map])
    have l1 : rs.length ≤ 12 := by
      have := len_ss (ds := st)
      rw [hrs, List.length_map] at this
      have := hst.1
      omega
    rw [len_sort, List.length_map, List.length_map] at hlen
    refine Yl.of_ok rfl ⟨ws, rs, rfl, fun e => ?_, hw, by omega, fun e => ?_, hr, l1⟩
    · rw [e] at hlen
      have : ss.length = 0 := hlen
      omega
    · rw [e] at hrs
      exact ne_ss hst.2.1 hrs
end Bk

set_option maxRecDepth 100000
set_option maxHeartbeats 4000000
/-! PP: runs. -/
namespace Bk
open PySem L2 PO
open PN hiding RF RO e_and e_call e_chain e_if e_isi e_lc e_mt e_not e_or e_part e_sl i_any i_zip
abbrev P3 := Str × Int × Int
def runD (r : P3) : D := .tuple [.str r.1, .int r.2.1, .int r.2.2]
def noteD (r : Str × Int) : D := .tuple [.str r.1, .int r.2]
structure GRun (r : P3) : Prop where
  s : r.1 ∈ serW
  a0 : 0 ≤ r.2.1
  a1 : r.2.1 ≤ 1000000000
  b0 : 0 ≤ r.2.2
  b1 : r.2.2 ≤ 1000000000
structure GNote (r : Str × Int) : Prop where
  s : r.1 ∈ serW
  a0 : 0 ≤ r.2
  a1 : r.2 < 1000000000
theorem m_setLast {l : List D} {x v : D} : setM (l ++ [x]) (.int (-1)) v = M.ok (l ++ [v]) := by
  have e : ixN (l ++ [x]).length (-1) = some l.length := by
    unfold ixN
    rw [if_neg (by decide), if_pos (by rw [List.length_append, List.length_singleton]; omega)]
    congr 1
    rw [List.length_append, List.length_singleton]
    omega
  unfold setM
  dsimp only
  rw [e]
  dsimp only
  rw [List.set_append_right _ _ (Nat.le_refl _), Nat.sub_self]
  rfl
theorem y_runs_of {ns : List (Str × Int)} (hl : ns.length < 64) (hn : ∀ n ∈ ns, GNote n) : Yl 0 (p__law_runs_of (.list (ns.map noteD))) (fun (d : D) => ∃ rs : List P3, d = PyData.tuple (rs.map runD) ∧ rs.length ≤ ns.length ∧ ∀ r ∈ rs, GRun r) := by
  have sd : SetD (ns.map noteD) := setD_si (by rw [List.length_map]; exact hl) fun d m => by
    obtain ⟨n, _, rfl⟩ := List.mem_map.mp m
    exact ⟨_, _, rfl⟩
  obtain ⟨ms, hms, hm⟩ := typed (f := noteD) (P := GNote) (ds := sortD (dedupD (ns.map noteD))) fun d m => by
    obtain ⟨n, mn, rfl⟩ := List.mem_map.mp (mem_ss.mp m)
    exact ⟨n, rfl, hn n mn⟩
  have ml : ms.length ≤ ns.length := by
    have := len_ss (ds := ns.map noteD)
    rw [hms, List.length_map, List.length_map] at this
    exact this
  unfold p__law_runs_of
  repeat (first | with_reducible refine Yl.okb ?_ | with_reducible refine Yl.asc ?_ | rw [m_sortSet sd] | rw [hms] | rw [lcD_okb] | rw [lcD_asc] | rw [M.opt_some] | rw [un2_t] | rw [un3_t] | rw [iter_l] | rw [iter_t] | rw [part_n] | rw [part_i] | rw [int_i] | rw [m_zip] | rw [m_eqS] | rw [m_neS] | rw [m_eqI] | rw [m_neI] | rw [m_ltI] | rw [m_leI] | rw [m_gtI] | rw [m_geI] | rw [m_addI] | rw [m_subI] | rw [m_negI] | rw [m_pow9] | rw [m_pow12] | rw [m_intB] | rw [m_lenL] | rw [m_lenT] | rw [m_tupL] | rw [m_ixT] | rw [m_ixL] | rw [at0] | rw [at1] | rw [at2] | rw [at3] | rw [m_ite] | rw [List.length_map])
  refine Yl.bind (n := 0) (m := 0) (P := fun st => ∃ rs : List P3, st = rs.map runD ∧ rs.length ≤ ns.length ∧ ∀ r ∈ rs, GRun r) ((Yl.fold (n := 0) (fun j (st : List D) => ∃ rs : List P3, st = rs.map runD ∧ rs.length ≤ j ∧ ∀ r ∈ rs, GRun r) ?_ ?_).up (by omega) fun st h => ?_) fun st hst => ?_
  · exact ⟨[], rfl, Nat.le_refl _, fun _ m => absurd m (by simp)⟩
  · intro j d st hd hI
    obtain ⟨rs, rfl, hlen, hr⟩ := hI
    have hj : j < ms.length := by have := (List.getElem?_eq_some_iff.mp hd).1; rw [List.length_map] at this; exact this
    obtain ⟨n, mn, rfl⟩ := List.mem_map.mp (List.mem_of_getElem? hd)
    have gn := hm n mn
    have fin : ∀ {x : M (List D)}, x = M.ok ((rs ++ [(n.1, n.2, n.2 + 1)]).map runD) → Yl 0 x fun st => ∃ rs : List P3, st = rs.map runD ∧ rs.length ≤ j + 1 ∧ ∀ r ∈ rs, GRun r := fun e => Yl.of_ok e ⟨_, rfl, by rw [List.length_append, List.length_singleton]; omega, fun r m => by
      rcases List.mem_append.mp m with m | m
      · exact hr r m
      · rw [List.mem_singleton.mp m]
        have := gn.a0; have := gn.a1
        exact ⟨gn.s, gn.a0, by show n.2 ≤ _; omega, by show 0 ≤ n.2 + 1; omega, by show n.2 + 1 ≤ _; omega⟩⟩
    have app : push (rs.map runD) (.tuple [.str n.1, .int n.2, .int (n.2 + 1)]) = M.ok ((rs ++ [(n.1, n.2, n.2 + 1)]).map runD) := by
      rw [m_push (by rw [List.length_map]; omega), List.map_append]
      rfl
    show Yl 0 (un2 (.tuple [.str n.1, .int n.2]) _) _
    rcases List.eq_nil_or_concat rs with rfl | ⟨init, last, e0⟩
    · repeat (first | with_reducible refine Yl.okb ?_ | with_reducible refine Yl.asc ?_ | rw [lcD_okb] | rw [lcD_asc] | rw [M.opt_some] | rw [un2_t] | rw [un3_t] | rw [iter_l] | rw [iter_t] | rw [part_n] | rw [part_i] | rw [int_i] | rw [m_zip] | rw [m_eqS] | rw [m_neS] | rw [m_eqI] | rw [m_neI] | rw [m_ltI] | rw [m_leI] | rw [m_gtI] | rw [m_geI] | rw [m_addI] | rw [m_subI] | rw [m_negI] | rw [m_pow9] | rw [m_pow12] | rw [m_intB] | rw [m_lenL] | rw [m_lenT] | rw [m_tupL] | rw [m_ixT] | rw [m_ixL] | rw [at0] | rw [at1] | rw [at2] | rw [at3] | rw [m_ite] | rw [List.length_map])
      rw [if_neg (by simp)]
      repeat (first | with_reducible refine Yl.okb ?_ | with_reducible refine Yl.asc ?_ | rw [lcD_okb] | rw [lcD_asc] | rw [M.opt_some] | rw [un2_t] | rw [un3_t] | rw [iter_l] | rw [iter_t] | rw [part_n] | rw [part_i] | rw [int_i] | rw [m_zip] | rw [m_eqS] | rw [m_neS] | rw [m_eqI] | rw [m_neI] | rw [m_ltI] | rw [m_leI] | rw [m_gtI] | rw [m_geI] | rw [m_addI] | rw [m_subI] | rw [m_negI] | rw [m_pow9] | rw [m_pow12] | rw [m_intB] | rw [m_lenL] | rw [m_lenT] | rw [m_tupL] | rw [m_ixT] | rw [m_ixL] | rw [at0] | rw [at1] | rw [at2] | rw [at3] | rw [m_ite] | rw [List.length_map])
      rw [if_neg (by simp)]
      repeat (first | with_reducible refine Yl.okb ?_ | with_reducible refine Yl.asc ?_ | rw [app] | rw [lcD_okb] | rw [lcD_asc] | rw [M.opt_some] | rw [un2_t] | rw [un3_t] | rw [iter_l] | rw [iter_t] | rw [part_n] | rw [part_i] | rw [int_i] | rw [m_zip] | rw [m_eqS] | rw [m_neS] | rw [m_eqI] | rw [m_neI] | rw [m_ltI] | rw [m_leI] | rw [m_gtI] | rw [m_geI] | rw [m_addI] | rw [m_subI] | rw [m_negI] | rw [m_pow9] | rw [m_pow12] | rw [m_intB] | rw [m_lenL] | rw [m_lenT] | rw [m_tupL] | rw [m_ixT] | rw [m_ixL] | rw [at0] | rw [at1] | rw [at2] | rw [at3] | rw [m_ite] | rw [List.length_map])
      exact fin rfl
    · rw [List.concat_eq_append] at e0
      subst e0
      have e1 : (init ++ [last]).map runD = init.map runD ++ [.tuple [.str last.1, .int last.2.1, .int last.2.2]] := by rw [List.map_append]; rfl
      have gl := hr last (List.mem_append_right _ (List.mem_singleton.mpr rfl))
      have fin2 : ∀ {x : M (List D)}, x = M.ok (init.map runD ++ [.tuple [.str n.1, .int last.2.1, .int (n.2 + 1)]]) → Yl 0 x fun st => ∃ rs : List P3, st = rs.map runD ∧ rs.length ≤ j + 1 ∧ ∀ r ∈ rs, GRun r := fun e => Yl.of_ok e ⟨init ++ [(n.1, last.2.1, n.2 + 1)], by rw [List.map_append]; rfl, by rw [List.length_append, List.length_singleton] at hlen ⊢; omega, fun r m => by
        rcases List.mem_append.mp m with m | m
        · exact hr r (List.mem_append_left _ m)
        · rw [List.mem_singleton.mp m]
          have := gn.a0; have := gn.a1
          exact ⟨gn.s, gl.a0, gl.a1, by show 0 ≤ n.2 + 1; omega, by show n.2 + 1 ≤ _; omega⟩⟩
      rw [e1] at app ⊢
      repeat (first | with_reducible refine Yl.okb ?_ | with_reducible refine Yl.asc ?_ | rw [lcD_okb] | rw [lcD_asc] | rw [M.opt_some] | rw [un2_t] | rw [un3_t] | rw [iter_l] | rw [iter_t] | rw [part_n] | rw [part_i] | rw [int_i] | rw [m_zip] | rw [m_eqS] | rw [m_neS] | rw [m_eqI] | rw [m_neI] | rw [m_ltI] | rw [m_leI] | rw [m_gtI] | rw [m_geI] | rw [m_addI] | rw [m_subI] | rw [m_negI] | rw [m_pow9] | rw [m_pow12] | rw [m_intB] | rw [m_lenL] | rw [m_lenT] | rw [m_tupL] | rw [m_ixT] | rw [m_ixL] | rw [at0] | rw [at1] | rw [at2] | rw [at3] | rw [m_ite] | rw [List.length_map])
      rw [if_pos (by rw [List.length_append, List.length_singleton]; exact decide_eq_true (by omega))]
      repeat (first | with_reducible refine Yl.okb ?_ | with_reducible refine Yl.asc ?_ | rw [at_last] | rw [lcD_okb] | rw [lcD_asc] | rw [M.opt_some] | rw [un2_t] | rw [un3_t] | rw [iter_l] | rw [iter_t] | rw [part_n] | rw [part_i] | rw [int_i] | rw [m_zip] | rw [m_eqS] | rw [m_neS] | rw [m_eqI] | rw [m_neI] | rw [m_ltI] | rw [m_leI] | rw [m_gtI] | rw [m_geI] | rw [m_addI] | rw [m_subI] | rw [m_negI] | rw [m_pow9] | rw [m_pow12] | rw [m_intB] | rw [m_lenL] | rw [m_lenT] | rw [m_tupL] | rw [m_ixT] | rw [m_ixL] | rw [at0] | rw [at1] | rw [at2] | rw [at3] | rw [m_ite] | rw [List.length_map])
      split
      · repeat (first | with_reducible refine Yl.okb ?_ | with_reducible refine Yl.asc ?_ | rw [at_last] | rw [lcD_okb] | rw [lcD_asc] | rw [M.opt_some] | rw [un2_t] | rw [un3_t] | rw [iter_l] | rw [iter_t] | rw [part_n] | rw [part_i] | rw [int_i] | rw [m_zip] | rw [m_eqS] | rw [m_neS] | rw [m_eqI] | rw [m_neI] | rw [m_ltI] | rw [m_leI] | rw [m_gtI] | rw [m_geI] | rw [m_addI] | rw [m_subI] | rw [m_negI] | rw [m_pow9] | rw [m_pow12] | rw [m_intB] | rw [m_lenL] | rw [m_lenT] | rw [m_tupL] | rw [m_ixT] | rw [m_ixL] | rw [at0] | rw [at1] | rw [at2] | rw [at3] | rw [m_ite] | rw [List.length_map])
        split
        · repeat (first | with_reducible refine Yl.okb ?_ | with_reducible refine Yl.asc ?_ | rw [at_last] | rw [m_setLast] | rw [lcD_okb] | rw [lcD_asc] | rw [M.opt_some] | rw [un2_t] | rw [un3_t] | rw [iter_l] | rw [iter_t] | rw [part_n] | rw [part_i] | rw [int_i] | rw [m_zip] | rw [m_eqS] | rw [m_neS] | rw [m_eqI] | rw [m_neI] | rw [m_ltI] | rw [m_leI] | rw [m_gtI] | rw [m_geI] | rw [m_addI] | rw [m_subI] | rw [m_negI] | rw [m_pow9] | rw [m_pow12] | rw [m_intB] | rw [m_lenL] | rw [m_lenT] | rw [m_tupL] | rw [m_ixT] | rw [m_ixL] | rw [at0] | rw [at1] | rw [at2] | rw [at3] | rw [m_ite] | rw [List.length_map])
          exact fin2 rfl
        · repeat (first | with_reducible refine Yl.okb ?_ | with_reducible refine Yl.asc ?_ | rw [app] | rw [lcD_okb] | rw [lcD_asc] | rw [M.opt_some] | rw [un2_t] | rw [un3_t] | rw [iter_l] | rw [iter_t] | rw [part_n] | rw [part_i] | rw [int_i] | rw [m_zip] | rw [m_eqS] | rw [m_neS] | rw [m_eqI] | rw [m_neI] | rw [m_ltI] | rw [m_leI] | rw [m_gtI] | rw [m_geI] | rw [m_addI] | rw [m_subI] | rw [m_negI] | rw [m_pow9] | rw [m_pow12] | rw [m_intB] | rw [m_lenL] | rw [m_lenT] | rw [m_tupL] | rw [m_ixT] | rw [m_ixL] | rw [at0] | rw [at1] | rw [at2] | rw [at3] | rw [m_ite] | rw [List.length_map])
          exact fin rfl
      · repeat (first | with_reducible refine Yl.okb ?_ | with_reducible refine Yl.asc ?_ | rw [lcD_okb] | rw [lcD_asc] | rw [M.opt_some] | rw [un2_t] | rw [un3_t] | rw [iter_l] | rw [iter_t] | rw [part_n] | rw [part_i] | rw [int_i] | rw [m_zip] | rw [m_eqS] | rw [m_neS] | rw [m_eqI] | rw [m_neI] | rw [m_ltI] | rw [m_leI] | rw [m_gtI] | rw [m_geI] | rw [m_addI] | rw [m_subI] | rw [m_negI] | rw [m_pow9] | rw [m_pow12] | rw [m_intB] | rw [m_lenL] | rw [m_lenT] | rw [m_tupL] | rw [m_ixT] | rw [m_ixL] | rw [at0] | rw [at1] | rw [at2] | rw [at3] | rw [m_ite] | rw [List.length_map])
        rw [if_neg (by simp)]
        repeat (first | with_reducible refine Yl.okb ?_ | with_reducible refine Yl.asc ?_ | rw [app] | rw [lcD_okb] | rw [lcD_asc] | rw [M.opt_some] | rw [un2_t] | rw [un3_t] | rw [iter_l] | rw [iter_t] | rw [part_n] | rw [part_i] | rw [int_i] | rw [m_zip] | rw [m_eqS] | rw [m_neS] | rw [m_eqI] | rw [m_neI] | rw [m_ltI] | rw [m_leI] | rw [m_gtI] | rw [m_geI] | rw [m_addI] | rw [m_subI] | rw [m_negI] | rw [m_pow9] | rw [m_pow12] | rw [m_intB] | rw [m_lenL] | rw [m_lenT] | rw [m_tupL] | rw [m_ixT] | rw [m_ixL] | rw [at0] | rw [at1] | rw [at2] | rw [at3] | rw [m_ite] | rw [List.length_map])
        exact fin rfl
  · obtain ⟨rs, e, l, g⟩ := h
    rw [List.length_map] at l
    exact ⟨rs, e, by omega, g⟩
  · obtain ⟨rs, rfl, l, g⟩ := hst
    repeat (first | with_reducible refine Yl.okb ?_ | with_reducible refine Yl.asc ?_ | rw [lcD_okb] | rw [lcD_asc] | rw [M.opt_some] | rw [un2_t] | rw [un3_t] | rw [iter_l] | rw [iter_t] | rw [part_n] | rw [part_i] | rw [int_i] | rw [m_zip] | rw [m_eqS] | rw [m_neS] | rw [m_eqI] | rw [m_neI] | rw [m_ltI] | rw [m_leI] | rw [m_gtI] | rw [m_geI] | rw [m_addI] | rw [m_subI] | rw [m_negI] | rw [m_pow9] | rw [m_pow12] | rw [m_intB] | rw [m_lenL] | rw [m_lenT] | rw [m_tupL] | rw [m_ixT] | rw [m_ixL] | rw [at0] | rw [at1] | rw [at2] | rw [at3] | rw [m_ite] | rw [List.length_map])
    exact Yl.of_ok rfl ⟨rs, rfl, l, g⟩
theorem y_runs {ws : List (Str × Int)} {rs : List (Str × Str)} (ho : Off ws rs) : Yl 40 (p__law_runs (offD ws rs)) (fun (d : D) => ∃ us : List P3, d = PyData.tuple (us.map runD) ∧ us.length ≤ 18 ∧ ∀ r ∈ us, GRun r) := by
  have worth_at : ∀ i : Int, 0 ≤ i → i < ws.length → ∃ w ∈ ws, atI (ws.map worthD) i = some (.tuple [.str w.1, .int w.2]) := fun i h0 h1 => pickM worthD h0 h1
  have wpos : 0 < ws.length := List.length_pos_iff.mpr ho.w0
  have wtop := ho.wl
  unfold p__law_runs offD
  repeat (first | with_reducible refine Yl.okb ?_ | with_reducible refine Yl.asc ?_ | rw [lcD_okb] | rw [lcD_asc] | rw [M.opt_some] | rw [un2_t] | rw [un3_t] | rw [iter_l] | rw [iter_t] | rw [part_n] | rw [part_i] | rw [int_i] | rw [m_zip] | rw [m_eqS] | rw [m_neS] | rw [m_eqI] | rw [m_neI] | rw [m_ltI] | rw [m_leI] | rw [m_gtI] | rw [m_geI] | rw [m_addI] | rw [m_subI] | rw [m_negI] | rw [m_pow9] | rw [m_pow12] | rw [m_intB] | rw [m_lenL] | rw [m_lenT] | rw [m_tupL] | rw [m_ixT] | rw [m_ixL] | rw [at0] | rw [at1] | rw [at2] | rw [at3] | rw [m_ite] | rw [List.length_map])
  refine Yl.drawB (n := 39) (by decide) (by decide) fun a a0 a1 => ?_
  repeat (first | with_reducible refine Yl.okb ?_ | with_reducible refine Yl.asc ?_ | rw [lcD_okb] | rw [lcD_asc] | rw [M.opt_some] | rw [un2_t] | rw [un3_t] | rw [iter_l] | rw [iter_t] | rw [part_n] | rw [part_i] | rw [int_i] | rw [m_zip] | rw [m_eqS] | rw [m_neS] | rw [m_eqI] | rw [m_neI] | rw [m_ltI] | rw [m_leI] | rw [m_gtI] | rw [m_geI] | rw [m_addI] | rw [m_subI] | rw [m_negI] | rw [m_pow9] | rw [m_pow12] | rw [m_intB] | rw [m_lenL] | rw [m_lenT] | rw [m_tupL] | rw [m_ixT] | rw [m_ixL] | rw [at0] | rw [at1] | rw [at2] | rw [at3] | rw [m_ite] | rw [List.length_map])
  split
  · obtain ⟨w, hw, e⟩ := worth_at 0 (by decide) (by omega)
    repeat (first | with_reducible refine Yl.okb ?_ | with_reducible refine Yl.asc ?_ | rw [e] | rw [lcD_okb] | rw [lcD_asc] | rw [M.opt_some] | rw [un2_t] | rw [un3_t] | rw [iter_l] | rw [iter_t] | rw [part_n] | rw [part_i] | rw [int_i] | rw [m_zip] | rw [m_eqS] | rw [m_neS] | rw [m_eqI] | rw [m_neI] | rw [m_ltI] | rw [m_leI] | rw [m_gtI] | rw [m_geI] | rw [m_addI] | rw [m_subI] | rw [m_negI] | rw [m_pow9] | rw [m_pow12] | rw [m_intB] | rw [m_lenL] | rw [m_lenT] | rw [m_tupL] | rw [m_ixT] | rw [m_ixL] | rw [at0] | rw [at1] | rw [at2] | rw [at3] | rw [m_ite] | rw [List.length_map])
    exact Yl.of_ok rfl ⟨[(w.1, 0, 1000000000)], rfl, by simp, fun r m => by rw [List.mem_singleton.mp m]; exact ⟨ho.w1 w hw, Int.le_refl 0, show (0 : Int) ≤ 1000000000 by decide, show (0 : Int) ≤ 1000000000 by decide, Int.le_refl _⟩⟩
  · repeat (first | with_reducible refine Yl.okb ?_ | with_reducible refine Yl.asc ?_ | rw [lcD_okb] | rw [lcD_asc] | rw [M.opt_some] | rw [un2_t] | rw [un3_t] | rw [iter_l] | rw [iter_t] | rw [part_n] | rw [part_i] | rw [int_i] | rw [m_zip] | rw [m_eqS] | rw [m_neS] | rw [m_eqI] | rw [m_neI] | rw [m_ltI] | rw [m_leI] | rw [m_gtI] | rw [m_geI] | rw [m_addI] | rw [m_subI] | rw [m_negI] | rw [m_pow9] | rw [m_pow12] | rw [m_intB] | rw [m_lenL] | rw [m_lenT] | rw [m_tupL] | rw [m_ixT] | rw [m_ixL] | rw [at0] | rw [at1] | rw [at2] | rw [at3] | rw [m_ite] | rw [List.length_map])
    refine Yl.drawB (n := 38) (by decide) (by decide) fun b b0 b1 => ?_
    obtain ⟨k, rfl⟩ := Int.eq_ofNat_of_zero_le b0
    repeat (first | with_reducible refine Yl.okb ?_ | with_reducible refine Yl.asc ?_ | rw [lcD_okb] | rw [lcD_asc] | rw [M.opt_some] | rw [un2_t] | rw [un3_t] | rw [iter_l] | rw [iter_t] | rw [part_n] | rw [part_i] | rw [int_i] | rw [m_zip] | rw [m_eqS] | rw [m_neS] | rw [m_eqI] | rw [m_neI] | rw [m_ltI] | rw [m_leI] | rw [m_gtI] | rw [m_geI] | rw [m_addI] | rw [m_subI] | rw [m_negI] | rw [m_pow9] | rw [m_pow12] | rw [m_intB] | rw [m_lenL] | rw [m_lenT] | rw [m_tupL] | rw [m_ixT] | rw [m_ixL] | rw [at0] | rw [at1] | rw [at2] | rw [at3] | rw [m_ite] | rw [List.length_map])
    have e1 : (1 : Int) + (k : Int) = ((1 + k : Nat) : Int) := by omega
    rw [e1, m_range (by omega)]
    repeat (first | with_reducible refine Yl.okb ?_ | with_reducible refine Yl.asc ?_ | rw [lcD_okb] | rw [lcD_asc] | rw [M.opt_some] | rw [un2_t] | rw [un3_t] | rw [iter_l] | rw [iter_t] | rw [part_n] | rw [part_i] | rw [int_i] | rw [m_zip] | rw [m_eqS] | rw [m_neS] | rw [m_eqI] | rw [m_neI] | rw [m_ltI] | rw [m_leI] | rw [m_gtI] | rw [m_geI] | rw [m_addI] | rw [m_subI] | rw [m_negI] | rw [m_pow9] | rw [m_pow12] | rw [m_intB] | rw [m_lenL] | rw [m_lenT] | rw [m_tupL] | rw [m_ixT] | rw [m_ixL] | rw [at0] | rw [at1] | rw [at2] | rw [at3] | rw [m_ite] | rw [List.length_map])
    refine Yl.bind (n := 12) (m := 26) (P := fun st => ∃ ns : List (Str × Int), st = ns.map noteD ∧ ns.length ≤ 18 ∧ ∀ n ∈ ns, GNote n) ((Yl.fold (n := 4) (fun j (st : List D) => ∃ ns : List (Str × Int), st = ns.map noteD ∧ ns.length ≤ 6 * j ∧ ∀ n ∈ ns, GNote n) ?_ ?_).up (by rw [len_ints]; omega) fun st h => ?_) fun st hst => ?_
    · exact ⟨[], rfl, Nat.le_refl _, fun _ m => absurd m (by simp)⟩
    · intro j d st hd hI
      obtain ⟨ns, rfl, hlen, hn⟩ := hI
      have hj : j < 1 + k := by have := (List.getElem?_eq_some_iff.mp hd).1; rw [len_ints] at this; exact this
      repeat (first | with_reducible refine Yl.okb ?_ | with_reducible refine Yl.asc ?_ | rw [lcD_okb] | rw [lcD_asc] | rw [M.opt_some] | rw [un2_t] | rw [un3_t] | rw [iter_l] | rw [iter_t] | rw [part_n] | rw [part_i] | rw [int_i] | rw [m_zip] | rw [m_eqS] | rw [m_neS] | rw [m_eqI] | rw [m_neI] | rw [m_ltI] | rw [m_leI] | rw [m_gtI] | rw [m_geI] | rw [m_addI] | rw [m_subI] | rw [m_negI] | rw [m_pow9] | rw [m_pow12] | rw [m_intB] | rw [m_lenL] | rw [m_lenT] | rw [m_tupL] | rw [m_ixT] | rw [m_ixL] | rw [at0] | rw [at1] | rw [at2] | rw [at3] | rw [m_ite] | rw [List.length_map])
      refine Yl.drawB (n := 3) (by omega) (by omega) fun c c0 c1 => ?_
      obtain ⟨w, hw, e2⟩ := worth_at c c0 c1
      repeat (first | with_reducible refine Yl.okb ?_ | with_reducible refine Yl.asc ?_ | rw [e2] | rw [lcD_okb] | rw [lcD_asc] | rw [M.opt_some] | rw [un2_t] | rw [un3_t] | rw [iter_l] | rw [iter_t] | rw [part_n] | rw [part_i] | rw [int_i] | rw [m_zip] | rw [m_eqS] | rw [m_neS] | rw [m_eqI] | rw [m_neI] | rw [m_ltI] | rw [m_leI] | rw [m_gtI] | rw [m_geI] | rw [m_addI] | rw [m_subI] | rw [m_negI] | rw [m_pow9] | rw [m_pow12] | rw [m_intB] | rw [m_lenL] | rw [m_lenT] | rw [m_tupL] | rw [m_ixT] | rw [m_ixL] | rw [at0] | rw [at1] | rw [at2] | rw [at3] | rw [m_ite] | rw [List.length_map])
      refine Yl.drawB (n := 2) (by decide) (by decide) fun x x0 x1 => ?_
      repeat (first | with_reducible refine Yl.okb ?_ | with_reducible refine Yl.asc ?_ | rw [lcD_okb] | rw [lcD_asc] | rw [M.opt_some] | rw [un2_t] | rw [un3_t] | rw [iter_l] | rw [iter_t] | rw [part_n] | rw [part_i] | rw [int_i] | rw [m_zip] | rw [m_eqS] | rw [m_neS] | rw [m_eqI] | rw [m_neI] | rw [m_ltI] | rw [m_leI] | rw [m_gtI] | rw [m_geI] | rw [m_addI] | rw [m_subI] | rw [m_negI] | rw [m_pow9] | rw [m_pow12] | rw [m_intB] | rw [m_lenL] | rw [m_lenT] | rw [m_tupL] | rw [m_ixT] | rw [m_ixL] | rw [at0] | rw [at1] | rw [at2] | rw [at3] | rw [m_ite] | rw [List.length_map])
      refine Yl.drawB (n := 1) (by decide) (by decide) fun y y0 y1 => ?_
      repeat (first | with_reducible refine Yl.okb ?_ | with_reducible refine Yl.asc ?_ | rw [lcD_okb] | rw [lcD_asc] | rw [M.opt_some] | rw [un2_t] | rw [un3_t] | rw [iter_l] | rw [iter_t] | rw [part_n] | rw [part_i] | rw [int_i] | rw [m_zip] | rw [m_eqS] | rw [m_neS] | rw [m_eqI] | rw [m_neI] | rw [m_ltI] | rw [m_leI] | rw [m_gtI] | rw [m_geI] | rw [m_addI] | rw [m_subI] | rw [m_negI] | rw [m_pow9] | rw [m_pow12] | rw [m_intB] | rw [m_lenL] | rw [m_lenT] | rw [m_tupL] | rw [m_ixT] | rw [m_ixL] | rw [at0] | rw [at1] | rw [at2] | rw [at3] | rw [m_ite] | rw [List.length_map])
      obtain ⟨f, hf, e3⟩ := pickM PyData.int (l := [x, 1000000000 - 6]) (i := if decide (y = 0) = true then 1 else 0) (by split <;> decide) (by split <;> (rw [List.length_cons, List.length_singleton]; decide))
      have e3 : atI [PyData.int x, .int (1000000000 - 6)] (if decide (y = 0) = true then 1 else 0) = some (.int f) := e3
      have f01 : 0 ≤ f ∧ f ≤ 999999994 := by simp at hf; omega
      repeat (first | with_reducible refine Yl.okb ?_ | with_reducible refine Yl.asc ?_ | rw [e3] | rw [lcD_okb] | rw [lcD_asc] | rw [M.opt_some] | rw [un2_t] | rw [un3_t] | rw [iter_l] | rw [iter_t] | rw [part_n] | rw [part_i] | rw [int_i] | rw [m_zip] | rw [m_eqS] | rw [m_neS] | rw [m_eqI] | rw [m_neI] | rw [m_ltI] | rw [m_leI] | rw [m_gtI] | rw [m_geI] | rw [m_addI] | rw [m_subI] | rw [m_negI] | rw [m_pow9] | rw [m_pow12] | rw [m_intB] | rw [m_lenL] | rw [m_lenT] | rw [m_tupL] | rw [m_ixT] | rw [m_ixL] | rw [at0] | rw [at1] | rw [at2] | rw [at3] | rw [m_ite] | rw [List.length_map])
      refine Yl.bind (n := 1) (m := 0) (P := fun (d : D) => ∃ ms : List (Str × Int), d = PyData.list (ms.map noteD) ∧ ms.length ≤ 6 ∧ ∀ n ∈ ms, GNote n) (Yl.lcDx (n := 1) (m := 0) (P := fun its => ∃ q : Nat, q ≤ 6 ∧ its = intsD 0 q) ?_ fun its hits => ?_) fun v hv => ?_
      · refine Yl.drawB (n := 0) (by decide) (by decide) fun g g0 g1 => ?_
        obtain ⟨q, rfl⟩ := Int.eq_ofNat_of_zero_le g0
        repeat (first | with_reducible refine Yl.okb ?_ | with_reducible refine Yl.asc ?_ | rw [lcD_okb] | rw [lcD_asc] | rw [M.opt_some] | rw [un2_t] | rw [un3_t] | rw [iter_l] | rw [iter_t] | rw [part_n] | rw [part_i] | rw [int_i] | rw [m_zip] | rw [m_eqS] | rw [m_neS] | rw [m_eqI] | rw [m_neI] | rw [m_ltI] | rw [m_leI] | rw [m_gtI] | rw [m_geI] | rw [m_addI] | rw [m_subI] | rw [m_negI] | rw [m_pow9] | rw [m_pow12] | rw [m_intB] | rw [m_lenL] | rw [m_lenT] | rw [m_tupL] | rw [m_ixT] | rw [m_ixL] | rw [at0] | rw [at1] | rw [at2] | rw [at3] | rw [m_ite] | rw [List.length_map])
        have e4 : (1 : Int) + (q : Int) = ((1 + q : Nat) : Int) := by omega
        rw [e4, m_range (by omega)]
        exact Yl.ok ⟨1 + q, by omega, rfl⟩
      · obtain ⟨q, hq, rfl⟩ := hits
        refine (Yl.lcD (n := 0) (its := intsD 0 q) (R := fun d v => ∃ n : Str × Int, v = noteD n ∧ GNote n) (by rw [len_ints]; omega) fun d hd => ?_).up (m := 0) (by omega) fun r hr => ?_
        · obtain ⟨i, hi, rfl⟩ := mem_ints hd
          repeat (first | with_reducible refine Yl.okb ?_ | with_reducible refine Yl.asc ?_ | rw [lcD_okb] | rw [lcD_asc] | rw [M.opt_some] | rw [un2_t] | rw [un3_t] | rw [iter_l] | rw [iter_t] | rw [part_n] | rw [part_i] | rw [int_i] | rw [m_zip] | rw [m_eqS] | rw [m_neS] | rw [m_eqI] | rw [m_neI] | rw [m_ltI] | rw [m_leI] | rw [m_gtI] | rw [m_geI] | rw [m_addI] | rw [m_subI] | rw [m_negI] | rw [m_pow9] | rw [m_pow12] | rw [m_intB] | rw [m_lenL] | rw [m_lenT] | rw [m_tupL] | rw [m_ixT] | rw [m_ixL] | rw [at0] | rw [at1] | rw [at2] | rw [at3] | rw [m_ite] | rw [List.length_map])
          exact Yl.ok ⟨_, rfl, (w.1, f + i), rfl, ho.w1 w hw, by show 0 ≤ f + (i : Int); omega, by show f + (i : Int) < _; omega⟩
        · obtain ⟨ds, rfl, hp⟩ := hr
          have hpl := paired_len hp
          rw [len_ints] at hpl
          obtain ⟨ms, rfl, hms⟩ := typed (f := noteD) (P := GNote) (paired_right (P := fun v => ∃ n : Str × Int, v = noteD n ∧ GNote n) (fun a b h => h) hp)
          rw [List.length_map] at hpl
          exact ⟨ms, rfl, by omega, hms⟩
      · obtain ⟨ms, rfl, l1, hms⟩ := hv
        rw [m_pushAll (by rw [List.length_map, List.length_map]; omega), ← List.map_append]
        repeat (first | with_reducible refine Yl.okb ?_ | with_reducible refine Yl.asc ?_ | rw [lcD_okb] | rw [lcD_asc] | rw [M.opt_some] | rw [un2_t] | rw [un3_t] | rw [iter_l] | rw [iter_t] | rw [part_n] | rw [part_i] | rw [int_i] | rw [m_zip] | rw [m_eqS] | rw [m_neS] | rw [m_eqI] | rw [m_neI] | rw [m_ltI] | rw [m_leI] | rw [m_gtI] | rw [m_geI] | rw [m_addI] | rw [m_subI] | rw [m_negI] | rw [m_pow9] | rw [m_pow12] | rw [m_intB] | rw [m_lenL] | rw [m_lenT] | rw [m_tupL] | rw [m_ixT] | rw [m_ixL] | rw [at0] | rw [at1] | rw [at2] | rw [at3] | rw [m_ite] | rw [List.length_map])
        refine Yl.ok ⟨ns ++ ms, rfl, by rw [List.length_append]; omega, fun n m => ?_⟩
        exact (List.mem_append.mp m).elim (hn n) (hms n)
    · obtain ⟨ns, e, l, g⟩ := h
      rw [len_ints] at l
      exact ⟨ns, e, by omega, g⟩
    · obtain ⟨ns, rfl, l, g⟩ := hst
      repeat (first | with_reducible refine Yl.okb ?_ | with_reducible refine Yl.asc ?_ | rw [lcD_okb] | rw [lcD_asc] | rw [M.opt_some] | rw [un2_t] | rw [un3_t] | rw [iter_l] | rw [iter_t] | rw [part_n] | rw [part_i] | rw [int_i] | rw [m_zip] | rw [m_eqS] | rw [m_neS] | rw [m_eqI] | rw [m_neI] | rw [m_ltI] | rw [m_leI] | rw [m_gtI] | rw [m_geI] | rw [m_addI] | rw [m_subI] | rw [m_negI] | rw [m_pow9] | rw [m_pow12] | rw [m_intB] | rw [m_lenL] | rw [m_lenT] | rw [m_tupL] | rw [m_ixT] | rw [m_ixL] | rw [at0] | rw [at1] | rw [at2] | rw [at3] | rw [m_ite] | rw [List.length_map])
      refine (Yl.bind (m := 0) (y_runs_of (by omega) g) fun d hd => ?_).up (by omega) fun _ h => h
      obtain ⟨us, rfl, l2, g2⟩ := hd
      exact Yl.ok ⟨us, rfl, by omega, g2⟩
end Bk

set_option maxRecDepth 100000
set_option maxHeartbeats 4000000
/-! PP: deeds and books. -/
namespace PO
open PySem L2
theorem itt {α : Type} {x y : α} : (if true = true then x else y) = x := if_pos rfl
theorem itf {α : Type} {x y : α} : (if false = true then x else y) = y := if_neg (by decide)
theorem Yl.lcMo {f : D → M (Option D)} {n : Nat} {P : D → Prop} : ∀ {its : List D}, (∀ d ∈ its, Yl n (f d) fun o => ∀ v, o = some v → P v) → Yl (n * its.length) (PO.lcM f its) fun ds => ds.length ≤ its.length ∧ ∀ v ∈ ds, P v
  | [], _ => Yl.ok ⟨Nat.le_refl _, fun _ m => absurd m (by simp)⟩
  | d :: ds, h => fun F hc ha hr => by
    rw [List.length_cons, Nat.mul_succ] at ha ⊢
    obtain ⟨o, F1, e1, q, c1, a1, r1⟩ := h d List.mem_cons_self F hc (by omega) hr
    obtain ⟨vs, F2, e2, q2, c2, a2, r2⟩ := Yl.lcMo (fun e m => h e (List.mem_cons_of_mem _ m)) F1 (by rw [c1]; exact hc) (by omega) r1
    cases o with
    | none =>
      refine ⟨vs, F2, ?_, ⟨by have := q2.1; omega, q2.2⟩, by rw [c2, c1], by omega, r2⟩
      unfold PO.lcM
      rw [e1]
      dsimp only
      rw [e2]
    | some v =>
      refine ⟨v :: vs, F2, ?_, ⟨by have := q2.1; rw [List.length_cons]; omega, fun z m => (List.mem_cons.mp m).elim (fun e => by rw [e]; exact q v rfl) (q2.2 z)⟩, by rw [c2, c1], by omega, r2⟩
      unfold PO.lcM
      rw [e1]
      dsimp only
      rw [e2]
theorem Yl.lcDo {f : D → M (Option D)} {n : Nat} {P : D → Prop} {its : List D} (hl : its.length ≤ 100000) (h : ∀ d ∈ its, Yl n (f d) fun o => ∀ v, o = some v → P v) : Yl (n * its.length) (PO.lcD (M.ok its) f) fun r => ∃ ds, r = .list ds ∧ ds.length ≤ its.length ∧ ∀ v ∈ ds, P v := by
  rw [lcD_ok]
  unfold lc
  rw [if_pos hl]
  exact (Yl.lcMo h).bind (m := 0) fun ds q => Yl.ok ⟨ds, rfl, q⟩
end PO
namespace Bk
open PySem L2 PO
open PN hiding RF RO e_and e_call e_chain e_if e_isi e_lc e_mt e_not e_or e_part e_sl i_any i_zip
inductive Deed where
  | move (a b : Str) (us : List P3)
  | bag (a b : Str) (n : Int)
  | read (nm : Nm) (us : List P3)
  | count (p : Str) (n : Int)
  | void (nm : Nm)
def deedD : Deed → D
  | .move a b us => .tuple [.str "move", .str a, .str b, .tuple (us.map runD)]
  | .bag a b n => .tuple [.str "bag", .str a, .str b, .int n]
  | .read nm us => .tuple [.str "read", nmD nm, .tuple (us.map runD)]
  | .count p n => .tuple [.str "count", .str p, .int n]
  | .void nm => .tuple [.str "void", nmD nm]
def GRuns (us : List P3) : Prop := us.length ≤ 18 ∧ ∀ r ∈ us, GRun r
def GDeed (P : Nm → Prop) : Deed → Prop
  | .move a b us => a ∈ plW ∧ b ∈ plW ∧ GRuns us
  | .bag a b n => a ∈ plW ∧ b ∈ plW ∧ 0 ≤ n ∧ n ≤ 1000000000
  | .read nm us => P nm ∧ GRuns us
  | .count p n => p ∈ plW ∧ 0 ≤ n ∧ n ≤ 1000000000000
  | .void nm => P nm
abbrev Page := Nm × Deed
def pageD (p : Page) : D := .tuple [nmD p.1, deedD p.2]
structure Book (pg : List Page) : Prop where
  len : pg.length ≤ 40
  nd : (pg.map (·.1)).Nodup
  nm : ∀ p ∈ pg, GNm p.1
  dd : ∀ p ∈ pg, GDeed GNm p.2
theorem y_deed {ws : List (Str × Int)} {rs : List (Str × Str)} (ho : Off ws rs) (k : Int) {ns bs : List Nm} (n0 : ns ≠ []) (nl : ns.length ≤ 40) (bl : bs.length ≤ 40) (hb : ∀ b ∈ bs, b ∈ ns) :
    Yl 50 (p__law_deed (offD ws rs) (.int k) (.list (ns.map nmD)) (.list (bs.map nmD))) (fun (d : D) => ∃ e, d = deedD e ∧ GDeed (· ∈ ns) e) := by
  have rpos : 0 < rs.length := List.length_pos_iff.mpr ho.r0
  have npos : 0 < ns.length := List.length_pos_iff.mpr n0
  have rtop := ho.rl
  have way_at : ∀ i : Int, 0 ≤ i → i < rs.length → ∃ w ∈ rs, atI (rs.map wayD) i = some (.tuple [.str w.1, .str w.2]) := fun i h0 h1 => pickM wayD h0 h1
  unfold p__law_deed
  rw [show offD ws rs = .tuple [.tuple (ws.map worthD), .tuple (rs.map wayD)] from rfl]
  repeat (first | with_reducible refine Yl.okb ?_ | with_reducible refine Yl.asc ?_ | rw [itt] | rw [itf] | rw [lcD_okb] | rw [lcD_asc] | rw [M.opt_some] | rw [un2_t] | rw [un3_t] | rw [iter_l] | rw [iter_t] | rw [part_n] | rw [part_i] | rw [int_i] | rw [m_zip] | rw [m_eqS] | rw [m_neS] | rw [m_eqI] | rw [m_neI] | rw [m_ltI] | rw [m_leI] | rw [m_gtI] | rw [m_geI] | rw [m_addI] | rw [m_subI] | rw [m_negI] | rw [m_pow9] | rw [m_pow12] | rw [m_intB] | rw [m_lenL] | rw [m_lenT] | rw [m_tupL] | rw [m_ixT] | rw [m_ixL] | rw [at0] | rw [at1] | rw [at2] | rw [at3] | rw [m_ite] | rw [List.length_map])
  refine Yl.drawB (n := 49) (by omega) (by omega) fun a a0 a1 => ?_
  obtain ⟨w, hw, e1⟩ := way_at a a0 a1
  have gw := ho.r1 w hw
  repeat (first | with_reducible refine Yl.okb ?_ | with_reducible refine Yl.asc ?_ | rw [itt] | rw [itf] | rw [e1] | rw [lcD_okb] | rw [lcD_asc] | rw [M.opt_some] | rw [un2_t] | rw [un3_t] | rw [iter_l] | rw [iter_t] | rw [part_n] | rw [part_i] | rw [int_i] | rw [m_zip] | rw [m_eqS] | rw [m_neS] | rw [m_eqI] | rw [m_neI] | rw [m_ltI] | rw [m_leI] | rw [m_gtI] | rw [m_geI] | rw [m_addI] | rw [m_subI] | rw [m_negI] | rw [m_pow9] | rw [m_pow12] | rw [m_intB] | rw [m_lenL] | rw [m_lenT] | rw [m_tupL] | rw [m_ixT] | rw [m_ixL] | rw [at0] | rw [at1] | rw [at2] | rw [at3] | rw [m_ite] | rw [List.length_map])
  have move : ∀ n, 40 ≤ n → Yl n (M.bind (p__law_runs (offD ws rs)) fun x28 => M.ok (PyData.tuple [.str "move", .str w.1, .str w.2, x28])) (fun (d : D) => ∃ e, d = deedD e ∧ GDeed (· ∈ ns) e) := fun n hn => by
    refine (Yl.bind (n := 40) (m := 0) (y_runs ho) fun d hd => ?_).up hn fun _ h => h
    obtain ⟨us, rfl, l, g⟩ := hd
    exact Yl.ok ⟨.move w.1 w.2 us, rfl, gw.1, gw.2, l, g⟩
  split
  · repeat (first | with_reducible refine Yl.okb ?_ | with_reducible refine Yl.asc ?_ | rw [itt] | rw [itf] | rw [lcD_okb] | rw [lcD_asc] | rw [M.opt_some] | rw [un2_t] | rw [un3_t] | rw [iter_l] | rw [iter_t] | rw [part_n] | rw [part_i] | rw [int_i] | rw [m_zip] | rw [m_eqS] | rw [m_neS] | rw [m_eqI] | rw [m_neI] | rw [m_ltI] | rw [m_leI] | rw [m_gtI] | rw [m_geI] | rw [m_addI] | rw [m_subI] | rw [m_negI] | rw [m_pow9] | rw [m_pow12] | rw [m_intB] | rw [m_lenL] | rw [m_lenT] | rw [m_tupL] | rw [m_ixT] | rw [m_ixL] | rw [at0] | rw [at1] | rw [at2] | rw [at3] | rw [m_ite] | rw [List.length_map])
    exact move 49 (by decide)
  · repeat (first | with_reducible refine Yl.okb ?_ | with_reducible refine Yl.asc ?_ | rw [itt] | rw [itf] | rw [lcD_okb] | rw [lcD_asc] | rw [M.opt_some] | rw [un2_t] | rw [un3_t] | rw [iter_l] | rw [iter_t] | rw [part_n] | rw [part_i] | rw [int_i] | rw [m_zip] | rw [m_eqS] | rw [m_neS] | rw [m_eqI] | rw [m_neI] | rw [m_ltI] | rw [m_leI] | rw [m_gtI] | rw [m_geI] | rw [m_addI] | rw [m_subI] | rw [m_negI] | rw [m_pow9] | rw [m_pow12] | rw [m_intB] | rw [m_lenL] | rw [m_lenT] | rw [m_tupL] | rw [m_ixT] | rw [m_ixL] | rw [at0] | rw [at1] | rw [at2] | rw [at3] | rw [m_ite] | rw [List.length_map])
    split
    · repeat (first | with_reducible refine Yl.okb ?_ | with_reducible refine Yl.asc ?_ | rw [itt] | rw [itf] | rw [lcD_okb] | rw [lcD_asc] | rw [M.opt_some] | rw [un2_t] | rw [un3_t] | rw [iter_l] | rw [iter_t] | rw [part_n] | rw [part_i] | rw [int_i] | rw [m_zip] | rw [m_eqS] | rw [m_neS] | rw [m_eqI] | rw [m_neI] | rw [m_ltI] | rw [m_leI] | rw [m_gtI] | rw [m_geI] | rw [m_addI] | rw [m_subI] | rw [m_negI] | rw [m_pow9] | rw [m_pow12] | rw [m_intB] | rw [m_lenL] | rw [m_lenT] | rw [m_tupL] | rw [m_ixT] | rw [m_ixL] | rw [at0] | rw [at1] | rw [at2] | rw [at3] | rw [m_ite] | rw [List.length_map])
      split
      · repeat (first | with_reducible refine Yl.okb ?_ | with_reducible refine Yl.asc ?_ | rw [itt] | rw [itf] | rw [lcD_okb] | rw [lcD_asc] | rw [M.opt_some] | rw [un2_t] | rw [un3_t] | rw [iter_l] | rw [iter_t] | rw [part_n] | rw [part_i] | rw [int_i] | rw [m_zip] | rw [m_eqS] | rw [m_neS] | rw [m_eqI] | rw [m_neI] | rw [m_ltI] | rw [m_leI] | rw [m_gtI] | rw [m_geI] | rw [m_addI] | rw [m_subI] | rw [m_negI] | rw [m_pow9] | rw [m_pow12] | rw [m_intB] | rw [m_lenL] | rw [m_lenT] | rw [m_tupL] | rw [m_ixT] | rw [m_ixL] | rw [at0] | rw [at1] | rw [at2] | rw [at3] | rw [m_ite] | rw [List.length_map])
        exact move 49 (by decide)
      · repeat (first | with_reducible refine Yl.okb ?_ | with_reducible refine Yl.asc ?_ | rw [itt] | rw [itf] | rw [lcD_okb] | rw [lcD_asc] | rw [M.opt_some] | rw [un2_t] | rw [un3_t] | rw [iter_l] | rw [iter_t] | rw [part_n] | rw [part_i] | rw [int_i] | rw [m_zip] | rw [m_eqS] | rw [m_neS] | rw [m_eqI] | rw [m_neI] | rw [m_ltI] | rw [m_leI] | rw [m_gtI] | rw [m_geI] | rw [m_addI] | rw [m_subI] | rw [m_negI] | rw [m_pow9] | rw [m_pow12] | rw [m_intB] | rw [m_lenL] | rw [m_lenT] | rw [m_tupL] | rw [m_ixT] | rw [m_ixL] | rw [at0] | rw [at1] | rw [at2] | rw [at3] | rw [m_ite] | rw [List.length_map])
        split
        · repeat (first | with_reducible refine Yl.okb ?_ | with_reducible refine Yl.asc ?_ | rw [itt] | rw [itf] | rw [lcD_okb] | rw [lcD_asc] | rw [M.opt_some] | rw [un2_t] | rw [un3_t] | rw [iter_l] | rw [iter_t] | rw [part_n] | rw [part_i] | rw [int_i] | rw [m_zip] | rw [m_eqS] | rw [m_neS] | rw [m_eqI] | rw [m_neI] | rw [m_ltI] | rw [m_leI] | rw [m_gtI] | rw [m_geI] | rw [m_addI] | rw [m_subI] | rw [m_negI] | rw [m_pow9] | rw [m_pow12] | rw [m_intB] | rw [m_lenL] | rw [m_lenT] | rw [m_tupL] | rw [m_ixT] | rw [m_ixL] | rw [at0] | rw [at1] | rw [at2] | rw [at3] | rw [m_ite] | rw [List.length_map])
          refine Yl.drawB (n := 48) (by decide) (by decide) fun x x0 x1 => ?_
          repeat (first | with_reducible refine Yl.okb ?_ | with_reducible refine Yl.asc ?_ | rw [itt] | rw [itf] | rw [lcD_okb] | rw [lcD_asc] | rw [M.opt_some] | rw [un2_t] | rw [un3_t] | rw [iter_l] | rw [iter_t] | rw [part_n] | rw [part_i] | rw [int_i] | rw [m_zip] | rw [m_eqS] | rw [m_neS] | rw [m_eqI] | rw [m_neI] | rw [m_ltI] | rw [m_leI] | rw [m_gtI] | rw [m_geI] | rw [m_addI] | rw [m_subI] | rw [m_negI] | rw [m_pow9] | rw [m_pow12] | rw [m_intB] | rw [m_lenL] | rw [m_lenT] | rw [m_tupL] | rw [m_ixT] | rw [m_ixL] | rw [at0] | rw [at1] | rw [at2] | rw [at3] | rw [m_ite] | rw [List.length_map])
          refine Yl.drawB (n := 47) (by decide) (by decide) fun y y0 y1 => ?_
          repeat (first | with_reducible refine Yl.okb ?_ | with_reducible refine Yl.asc ?_ | rw [itt] | rw [itf] | rw [lcD_okb] | rw [lcD_asc] | rw [M.opt_some] | rw [un2_t] | rw [un3_t] | rw [iter_l] | rw [iter_t] | rw [part_n] | rw [part_i] | rw [int_i] | rw [m_zip] | rw [m_eqS] | rw [m_neS] | rw [m_eqI] | rw [m_neI] | rw [m_ltI] | rw [m_leI] | rw [m_gtI] | rw [m_geI] | rw [m_addI] | rw [m_subI] | rw [m_negI] | rw [m_pow9] | rw [m_pow12] | rw [m_intB] | rw [m_lenL] | rw [m_lenT] | rw [m_tupL] | rw [m_ixT] | rw [m_ixL] | rw [at0] | rw [at1] | rw [at2] | rw [at3] | rw [m_ite] | rw [List.length_map])
          obtain ⟨f, hf, e3⟩ := pickM PyData.int (l := [1 + x, 1000000000]) (i := if decide (y = 0) = true then 1 else 0) (by split <;> decide) (by split <;> (rw [List.length_cons, List.length_singleton]; decide))
          have e3 : atI [PyData.int (1 + x), .int 1000000000] (if decide (y = 0) = true then 1 else 0) = some (.int f) := e3
          repeat (first | with_reducible refine Yl.okb ?_ | with_reducible refine Yl.asc ?_ | rw [itt] | rw [itf] | rw [e3] | rw [lcD_okb] | rw [lcD_asc] | rw [M.opt_some] | rw [un2_t] | rw [un3_t] | rw [iter_l] | rw [iter_t] | rw [part_n] | rw [part_i] | rw [int_i] | rw [m_zip] | rw [m_eqS] | rw [m_neS] | rw [m_eqI] | rw [m_neI] | rw [m_ltI] | rw [m_leI] | rw [m_gtI] | rw [m_geI] | rw [m_addI] | rw [m_subI] | rw [m_negI] | rw [m_pow9] | rw [m_pow12] | rw [m_intB] | rw [m_lenL] | rw [m_lenT] | rw [m_tupL] | rw [m_ixT] | rw [m_ixL] | rw [at0] | rw [at1] | rw [at2] | rw [at3] | rw [m_ite] | rw [List.length_map])
          exact Yl.of_ok rfl ⟨.bag w.1 w.2 f, rfl, gw.1, gw.2, by simp at hf; omega, by simp at hf; omega⟩
        · rename_i h1 h2
          exact absurd (by assumption) h2
    · repeat (first | with_reducible refine Yl.okb ?_ | with_reducible refine Yl.asc ?_ | rw [itt] | rw [itf] | rw [lcD_okb] | rw [lcD_asc] | rw [M.opt_some] | rw [un2_t] | rw [un3_t] | rw [iter_l] | rw [iter_t] | rw [part_n] | rw [part_i] | rw [int_i] | rw [m_zip] | rw [m_eqS] | rw [m_neS] | rw [m_eqI] | rw [m_neI] | rw [m_ltI] | rw [m_leI] | rw [m_gtI] | rw [m_geI] | rw [m_addI] | rw [m_subI] | rw [m_negI] | rw [m_pow9] | rw [m_pow12] | rw [m_intB] | rw [m_lenL] | rw [m_lenT] | rw [m_tupL] | rw [m_ixT] | rw [m_ixL] | rw [at0] | rw [at1] | rw [at2] | rw [at3] | rw [m_ite] | rw [List.length_map])
      have rd : ∀ ls : List Nm, ls ≠ [] → ls.length ≤ 40 → (∀ b ∈ ls, b ∈ ns) → ∀ n, 41 ≤ n → Yl n (M.bind (drawM (.int (ls.length : Int))) fun i => M.bind (op2 pIx (.list (ls.map nmD)) i) fun x => M.bind (M.bind (M.bind (M.ok (PyData.tuple [PyData.tuple (ws.map worthD), PyData.tuple (rs.map wayD)])) fun z => p__law_runs z) fun y => M.ok (PyData.tuple [.str "read", x, y])) M.ok) (fun (d : D) => ∃ e, d = deedD e ∧ GDeed (· ∈ ns) e) := fun ls l0 ll hls n hn => by
        have lp := List.length_pos_iff.mpr l0
        refine (Yl.drawB (n := 40) (by omega) (by omega) fun i i0 i1 => ?_).up hn fun _ h => h
        obtain ⟨m, hm, e⟩ := pickM nmD i0 i1
        repeat (first | with_reducible refine Yl.okb ?_ | with_reducible refine Yl.asc ?_ | rw [itt] | rw [itf] | rw [e] | rw [lcD_okb] | rw [lcD_asc] | rw [M.opt_some] | rw [un2_t] | rw [un3_t] | rw [iter_l] | rw [iter_t] | rw [part_n] | rw [part_i] | rw [int_i] | rw [m_zip] | rw [m_eqS] | rw [m_neS] | rw [m_eqI] | rw [m_neI] | rw [m_ltI] | rw [m_leI] | rw [m_gtI] | rw [m_geI] | rw [m_addI] | rw [m_subI] | rw [m_negI] | rw [m_pow9] | rw [m_pow12] | rw [m_intB] | rw [m_lenL] | rw [m_lenT] | rw [m_tupL] | rw [m_ixT] | rw [m_ixL] | rw [at0] | rw [at1] | rw [at2] | rw [at3] | rw [m_ite] | rw [List.length_map])
        refine (Yl.bind (n := 40) (m := 0) (y_runs ho) fun d hd => ?_).up (by decide) fun _ h => h
        obtain ⟨us, rfl, l, g⟩ := hd
        exact Yl.ok ⟨.read m us, rfl, hls m hm, l, g⟩
      split
      · exact absurd (by assumption) (by assumption)
      · repeat (first | with_reducible refine Yl.okb ?_ | with_reducible refine Yl.asc ?_ | rw [itt] | rw [itf] | rw [lcD_okb] | rw [lcD_asc] | rw [M.opt_some] | rw [un2_t] | rw [un3_t] | rw [iter_l] | rw [iter_t] | rw [part_n] | rw [part_i] | rw [int_i] | rw [m_zip] | rw [m_eqS] | rw [m_neS] | rw [m_eqI] | rw [m_neI] | rw [m_ltI] | rw [m_leI] | rw [m_gtI] | rw [m_geI] | rw [m_addI] | rw [m_subI] | rw [m_negI] | rw [m_pow9] | rw [m_pow12] | rw [m_intB] | rw [m_lenL] | rw [m_lenT] | rw [m_tupL] | rw [m_ixT] | rw [m_ixL] | rw [at0] | rw [at1] | rw [at2] | rw [at3] | rw [m_ite] | rw [List.length_map])
        split
        · repeat (first | with_reducible refine Yl.okb ?_ | with_reducible refine Yl.asc ?_ | rw [itt] | rw [itf] | rw [lcD_okb] | rw [lcD_asc] | rw [M.opt_some] | rw [un2_t] | rw [un3_t] | rw [iter_l] | rw [iter_t] | rw [part_n] | rw [part_i] | rw [int_i] | rw [m_zip] | rw [m_eqS] | rw [m_neS] | rw [m_eqI] | rw [m_neI] | rw [m_ltI] | rw [m_leI] | rw [m_gtI] | rw [m_geI] | rw [m_addI] | rw [m_subI] | rw [m_negI] | rw [m_pow9] | rw [m_pow12] | rw [m_intB] | rw [m_lenL] | rw [m_lenT] | rw [m_tupL] | rw [m_ixT] | rw [m_ixL] | rw [at0] | rw [at1] | rw [at2] | rw [at3] | rw [m_ite] | rw [List.length_map])
          split
          · repeat (first | with_reducible refine Yl.okb ?_ | with_reducible refine Yl.asc ?_ | rw [itt] | rw [itf] | rw [lcD_okb] | rw [lcD_asc] | rw [M.opt_some] | rw [un2_t] | rw [un3_t] | rw [iter_l] | rw [iter_t] | rw [part_n] | rw [part_i] | rw [int_i] | rw [m_zip] | rw [m_eqS] | rw [m_neS] | rw [m_eqI] | rw [m_neI] | rw [m_ltI] | rw [m_leI] | rw [m_gtI] | rw [m_geI] | rw [m_addI] | rw [m_subI] | rw [m_negI] | rw [m_pow9] | rw [m_pow12] | rw [m_intB] | rw [m_lenL] | rw [m_lenT] | rw [m_tupL] | rw [m_ixT] | rw [m_ixL] | rw [at0] | rw [at1] | rw [at2] | rw [at3] | rw [m_ite] | rw [List.length_map])
            refine Yl.drawB (n := 48) (by decide) (by decide) fun x x0 x1 => ?_
            repeat (first | with_reducible refine Yl.okb ?_ | with_reducible refine Yl.asc ?_ | rw [itt] | rw [itf] | rw [lcD_okb] | rw [lcD_asc] | rw [M.opt_some] | rw [un2_t] | rw [un3_t] | rw [iter_l] | rw [iter_t] | rw [part_n] | rw [part_i] | rw [int_i] | rw [m_zip] | rw [m_eqS] | rw [m_neS] | rw [m_eqI] | rw [m_neI] | rw [m_ltI] | rw [m_leI] | rw [m_gtI] | rw [m_geI] | rw [m_addI] | rw [m_subI] | rw [m_negI] | rw [m_pow9] | rw [m_pow12] | rw [m_intB] | rw [m_lenL] | rw [m_lenT] | rw [m_tupL] | rw [m_ixT] | rw [m_ixL] | rw [at0] | rw [at1] | rw [at2] | rw [at3] | rw [m_ite] | rw [List.length_map])
            rename_i hbl
            have b0 : bs ≠ [] := fun e => by rw [e] at hbl; simp at hbl
            split
            · repeat (first | with_reducible refine Yl.okb ?_ | with_reducible refine Yl.asc ?_ | rw [itt] | rw [itf] | rw [lcD_okb] | rw [lcD_asc] | rw [M.opt_some] | rw [un2_t] | rw [un3_t] | rw [iter_l] | rw [iter_t] | rw [part_n] | rw [part_i] | rw [int_i] | rw [m_zip] | rw [m_eqS] | rw [m_neS] | rw [m_eqI] | rw [m_neI] | rw [m_ltI] | rw [m_leI] | rw [m_gtI] | rw [m_geI] | rw [m_addI] | rw [m_subI] | rw [m_negI] | rw [m_pow9] | rw [m_pow12] | rw [m_intB] | rw [m_lenL] | rw [m_lenT] | rw [m_tupL] | rw [m_ixT] | rw [m_ixL] | rw [at0] | rw [at1] | rw [at2] | rw [at3] | rw [m_ite] | rw [List.length_map])
              exact rd bs b0 bl hb 48 (by decide)
            · repeat (first | with_reducible refine Yl.okb ?_ | with_reducible refine Yl.asc ?_ | rw [itt] | rw [itf] | rw [lcD_okb] | rw [lcD_asc] | rw [M.opt_some] | rw [un2_t] | rw [un3_t] | rw [iter_l] | rw [iter_t] | rw [part_n] | rw [part_i] | rw [int_i] | rw [m_zip] | rw [m_eqS] | rw [m_neS] | rw [m_eqI] | rw [m_neI] | rw [m_ltI] | rw [m_leI] | rw [m_gtI] | rw [m_geI] | rw [m_addI] | rw [m_subI] | rw [m_negI] | rw [m_pow9] | rw [m_pow12] | rw [m_intB] | rw [m_lenL] | rw [m_lenT] | rw [m_tupL] | rw [m_ixT] | rw [m_ixL] | rw [at0] | rw [at1] | rw [at2] | rw [at3] | rw [m_ite] | rw [List.length_map])
              exact rd ns n0 nl (fun _ m => m) 48 (by decide)
          · repeat (first | with_reducible refine Yl.okb ?_ | with_reducible refine Yl.asc ?_ | rw [itt] | rw [itf] | rw [lcD_okb] | rw [lcD_asc] | rw [M.opt_some] | rw [un2_t] | rw [un3_t] | rw [iter_l] | rw [iter_t] | rw [part_n] | rw [part_i] | rw [int_i] | rw [m_zip] | rw [m_eqS] | rw [m_neS] | rw [m_eqI] | rw [m_neI] | rw [m_ltI] | rw [m_leI] | rw [m_gtI] | rw [m_geI] | rw [m_addI] | rw [m_subI] | rw [m_negI] | rw [m_pow9] | rw [m_pow12] | rw [m_intB] | rw [m_lenL] | rw [m_lenT] | rw [m_tupL] | rw [m_ixT] | rw [m_ixL] | rw [at0] | rw [at1] | rw [at2] | rw [at3] | rw [m_ite] | rw [List.length_map])
            exact rd ns n0 nl (fun _ m => m) 49 (by decide)
        · repeat (first | with_reducible refine Yl.okb ?_ | with_reducible refine Yl.asc ?_ | rw [itt] | rw [itf] | rw [lcD_okb] | rw [lcD_asc] | rw [M.opt_some] | rw [un2_t] | rw [un3_t] | rw [iter_l] | rw [iter_t] | rw [part_n] | rw [part_i] | rw [int_i] | rw [m_zip] | rw [m_eqS] | rw [m_neS] | rw [m_eqI] | rw [m_neI] | rw [m_ltI] | rw [m_leI] | rw [m_gtI] | rw [m_geI] | rw [m_addI] | rw [m_subI] | rw [m_negI] | rw [m_pow9] | rw [m_pow12] | rw [m_intB] | rw [m_lenL] | rw [m_lenT] | rw [m_tupL] | rw [m_ixT] | rw [m_ixL] | rw [at0] | rw [at1] | rw [at2] | rw [at3] | rw [m_ite] | rw [List.length_map])
          split
          · repeat (first | with_reducible refine Yl.okb ?_ | with_reducible refine Yl.asc ?_ | rw [itt] | rw [itf] | rw [lcD_okb] | rw [lcD_asc] | rw [M.opt_some] | rw [un2_t] | rw [un3_t] | rw [iter_l] | rw [iter_t] | rw [part_n] | rw [part_i] | rw [int_i] | rw [m_zip] | rw [m_eqS] | rw [m_neS] | rw [m_eqI] | rw [m_neI] | rw [m_ltI] | rw [m_leI] | rw [m_gtI] | rw [m_geI] | rw [m_addI] | rw [m_subI] | rw [m_negI] | rw [m_pow9] | rw [m_pow12] | rw [m_intB] | rw [m_lenL] | rw [m_lenT] | rw [m_tupL] | rw [m_ixT] | rw [m_ixL] | rw [at0] | rw [at1] | rw [at2] | rw [at3] | rw [m_ite] | rw [List.length_map])
            refine Yl.drawB (n := 48) (by decide) (by decide) fun x x0 x1 => ?_
            repeat (first | with_reducible refine Yl.okb ?_ | with_reducible refine Yl.asc ?_ | rw [itt] | rw [itf] | rw [lcD_okb] | rw [lcD_asc] | rw [M.opt_some] | rw [un2_t] | rw [un3_t] | rw [iter_l] | rw [iter_t] | rw [part_n] | rw [part_i] | rw [int_i] | rw [m_zip] | rw [m_eqS] | rw [m_neS] | rw [m_eqI] | rw [m_neI] | rw [m_ltI] | rw [m_leI] | rw [m_gtI] | rw [m_geI] | rw [m_addI] | rw [m_subI] | rw [m_negI] | rw [m_pow9] | rw [m_pow12] | rw [m_intB] | rw [m_lenL] | rw [m_lenT] | rw [m_tupL] | rw [m_ixT] | rw [m_ixL] | rw [at0] | rw [at1] | rw [at2] | rw [at3] | rw [m_ite] | rw [List.length_map])
            refine Yl.drawB (n := 47) (by decide) (by decide) fun y y0 y1 => ?_
            repeat (first | with_reducible refine Yl.okb ?_ | with_reducible refine Yl.asc ?_ | rw [itt] | rw [itf] | rw [lcD_okb] | rw [lcD_asc] | rw [M.opt_some] | rw [un2_t] | rw [un3_t] | rw [iter_l] | rw [iter_t] | rw [part_n] | rw [part_i] | rw [int_i] | rw [m_zip] | rw [m_eqS] | rw [m_neS] | rw [m_eqI] | rw [m_neI] | rw [m_ltI] | rw [m_leI] | rw [m_gtI] | rw [m_geI] | rw [m_addI] | rw [m_subI] | rw [m_negI] | rw [m_pow9] | rw [m_pow12] | rw [m_intB] | rw [m_lenL] | rw [m_lenT] | rw [m_tupL] | rw [m_ixT] | rw [m_ixL] | rw [at0] | rw [at1] | rw [at2] | rw [at3] | rw [m_ite] | rw [List.length_map])
            obtain ⟨f, hf, e3⟩ := pickM PyData.int (l := [x, 1000000000000]) (i := if decide (y = 0) = true then 1 else 0) (by split <;> decide) (by split <;> (rw [List.length_cons, List.length_singleton]; decide))
            have e3 : atI [PyData.int x, .int 1000000000000] (if decide (y = 0) = true then 1 else 0) = some (.int f) := e3
            repeat (first | with_reducible refine Yl.okb ?_ | with_reducible refine Yl.asc ?_ | rw [itt] | rw [itf] | rw [e3] | rw [lcD_okb] | rw [lcD_asc] | rw [M.opt_some] | rw [un2_t] | rw [un3_t] | rw [iter_l] | rw [iter_t] | rw [part_n] | rw [part_i] | rw [int_i] | rw [m_zip] | rw [m_eqS] | rw [m_neS] | rw [m_eqI] | rw [m_neI] | rw [m_ltI] | rw [m_leI] | rw [m_gtI] | rw [m_geI] | rw [m_addI] | rw [m_subI] | rw [m_negI] | rw [m_pow9] | rw [m_pow12] | rw [m_intB] | rw [m_lenL] | rw [m_lenT] | rw [m_tupL] | rw [m_ixT] | rw [m_ixL] | rw [at0] | rw [at1] | rw [at2] | rw [at3] | rw [m_ite] | rw [List.length_map])
            exact Yl.of_ok rfl ⟨.count w.2 f, rfl, gw.2, by simp at hf; omega, by simp at hf; omega⟩
          · repeat (first | with_reducible refine Yl.okb ?_ | with_reducible refine Yl.asc ?_ | rw [itt] | rw [itf] | rw [lcD_okb] | rw [lcD_asc] | rw [M.opt_some] | rw [un2_t] | rw [un3_t] | rw [iter_l] | rw [iter_t] | rw [part_n] | rw [part_i] | rw [int_i] | rw [m_zip] | rw [m_eqS] | rw [m_neS] | rw [m_eqI] | rw [m_neI] | rw [m_ltI] | rw [m_leI] | rw [m_gtI] | rw [m_geI] | rw [m_addI] | rw [m_subI] | rw [m_negI] | rw [m_pow9] | rw [m_pow12] | rw [m_intB] | rw [m_lenL] | rw [m_lenT] | rw [m_tupL] | rw [m_ixT] | rw [m_ixL] | rw [at0] | rw [at1] | rw [at2] | rw [at3] | rw [m_ite] | rw [List.length_map])
            refine Yl.drawB (n := 48) (by omega) (by omega) fun x x0 x1 => ?_
            obtain ⟨m, hm, e⟩ := pickM nmD x0 x1
            repeat (first | with_reducible refine Yl.okb ?_ | with_reducible refine Yl.asc ?_ | rw [itt] | rw [itf] | rw [e] | rw [lcD_okb] | rw [lcD_asc] | rw [M.opt_some] | rw [un2_t] | rw [un3_t] | rw [iter_l] | rw [iter_t] | rw [part_n] | rw [part_i] | rw [int_i] | rw [m_zip] | rw [m_eqS] | rw [m_neS] | rw [m_eqI] | rw [m_neI] | rw [m_ltI] | rw [m_leI] | rw [m_gtI] | rw [m_geI] | rw [m_addI] | rw [m_subI] | rw [m_negI] | rw [m_pow9] | rw [m_pow12] | rw [m_intB] | rw [m_lenL] | rw [m_lenT] | rw [m_tupL] | rw [m_ixT] | rw [m_ixL] | rw [at0] | rw [at1] | rw [at2] | rw [at3] | rw [m_ite] | rw [List.length_map])
            exact Yl.of_ok rfl ⟨.void m, rfl, hm⟩
theorem zip_pages {ns : List Nm} {P : Nm → Prop} : ∀ {ms : List Nm} {ks : List Int} {vs : List D}, ks.length = ms.length → Paired (fun d v => ∀ n k, d = PyData.tuple [nmD n, .int k] → ∃ e, v = pageD (n, e) ∧ GDeed P e) ((List.zip (ms.map nmD) (ks.map PyData.int)).map fun p => PyData.tuple [p.1, p.2]) vs →
    ∃ es : List Deed, vs = (List.zip ms es).map pageD ∧ es.length = ms.length ∧ ∀ e ∈ es, GDeed P e
  | [], [], [], _, _ => ⟨[], rfl, rfl, fun _ m => absurd m (by simp)⟩
  | [], _ :: _, _, h, _ => by simp at h
  | _ :: _, [], _, h, _ => by simp at h
  | m :: ms, k :: ks, v :: vs, h, .cons q t => by
    obtain ⟨es, rfl, l, g⟩ := zip_pages (ns := ns) (by simpa using h) t
    obtain ⟨e, rfl, ge⟩ := q m k rfl
    exact ⟨e :: es, rfl, by rw [List.length_cons, List.length_cons, l], fun x mx => (List.mem_cons.mp mx).elim (fun z => by rw [z]; exact ge) (g x)⟩
theorem y_book {ws : List (Str × Int)} {rs : List (Str × Str)} (ho : Off ws rs) {most : Nat} (m0 : 0 < most) (m1 : most ≤ 40) : Yl 2300 (p__law_book (offD ws rs) (.int most)) (fun (d : D) => ∃ pg, d = PyData.tuple (pg.map pageD) ∧ pg ≠ [] ∧ Book pg) := by
  unfold p__law_book
  repeat (first | with_reducible refine Yl.okb ?_ | with_reducible refine Yl.asc ?_ | rw [itt] | rw [itf] | rw [lcD_okb] | rw [lcD_asc] | rw [M.opt_some] | rw [un2_t] | rw [un3_t] | rw [iter_l] | rw [iter_t] | rw [part_n] | rw [part_i] | rw [int_i] | rw [m_zip] | rw [m_eqS] | rw [m_neS] | rw [m_eqI] | rw [m_neI] | rw [m_ltI] | rw [m_leI] | rw [m_gtI] | rw [m_geI] | rw [m_addI] | rw [m_subI] | rw [m_negI] | rw [m_pow9] | rw [m_pow12] | rw [m_intB] | rw [m_lenL] | rw [m_lenT] | rw [m_tupL] | rw [m_ixT] | rw [m_ixL] | rw [at0] | rw [at1] | rw [at2] | rw [at3] | rw [m_ite] | rw [List.length_map])
  rw [m_range (by omega)]
  refine Yl.bind (n := 200) (m := 2100) ((Yl.lcD (n := 5) (its := intsD 0 most) (R := fun d v => ∃ n, v = nmD n ∧ GNm n) (by rw [len_ints]; omega) fun d hd => ?_).up (m := 200) (by rw [len_ints]; omega) fun _ h => h) fun r hr => ?_
  · refine (Yl.bind (n := 5) (m := 0) y_name fun v hv => ?_).up (by decide) fun _ h => h
    obtain ⟨n, rfl, g⟩ := hv
    exact Yl.ok ⟨_, rfl, n, rfl, g⟩
  obtain ⟨ds, rfl, hp⟩ := hr
  have hpl := paired_len hp
  rw [len_ints] at hpl
  have dn := paired_right (P := fun v => ∃ n, v = nmD n ∧ GNm n) (fun a b h => h) hp
  have sd : SetD ds := setD_iis (by omega) fun d m => by
    obtain ⟨n, rfl, _⟩ := dn d m
    exact ⟨_, _, _, rfl⟩
  obtain ⟨ns, hns, gn⟩ := typed (f := nmD) (P := GNm) (ds := sortD (dedupD ds)) fun d m => dn d (mem_ss.mp m)
  have nl : ns.length ≤ 40 := by
    have := len_ss (ds := ds)
    rw [hns, List.length_map] at this
    omega
  have n0 : ns ≠ [] := fun e => by
    rw [e] at hns
    refine ne_ss (fun e2 => ?_) hns
    rw [e2] at hpl
    have : most = 0 := hpl
    omega
  have nnd : ns.Nodup := by
    have := nodup_ss (ds := ds)
    rw [hns] at this
    rw [List.nodup_iff_pairwise_ne, List.pairwise_map] at this
    rw [List.nodup_iff_pairwise_ne]
    exact this.imp fun h e => h (by rw [e])
  repeat (first | with_reducible refine Yl.okb ?_ | with_reducible refine Yl.asc ?_ | rw [itt] | rw [itf] | rw [m_sortSet sd] | rw [hns] | rw [lcD_okb] | rw [lcD_asc] | rw [M.opt_some] | rw [un2_t] | rw [un3_t] | rw [iter_l] | rw [iter_t] | rw [part_n] | rw [part_i] | rw [int_i] | rw [m_zip] | rw [m_eqS] | rw [m_neS] | rw [m_eqI] | rw [m_neI] | rw [m_ltI] | rw [m_leI] | rw [m_gtI] | rw [m_geI] | rw [m_addI] | rw [m_subI] | rw [m_negI] | rw [m_pow9] | rw [m_pow12] | rw [m_intB] | rw [m_lenL] | rw [m_lenT] | rw [m_tupL] | rw [m_ixT] | rw [m_ixL] | rw [at0] | rw [at1] | rw [at2] | rw [at3] | rw [m_ite] | rw [List.length_map])
  refine Yl.bind (n := 40) (m := 2060) ((Yl.lcD (n := 1) (its := ns.map nmD) (R := fun d v => ∃ k : Int, v = .int k ∧ True) (by rw [List.length_map]; omega) fun d hd => ?_).up (m := 40) (by rw [List.length_map]; omega) fun _ h => h) fun r hr => ?_
  · repeat (first | with_reducible refine Yl.okb ?_ | with_reducible refine Yl.asc ?_ | rw [itt] | rw [itf] | rw [lcD_okb] | rw [lcD_asc] | rw [M.opt_some] | rw [un2_t] | rw [un3_t] | rw [iter_l] | rw [iter_t] | rw [part_n] | rw [part_i] | rw [int_i] | rw [m_zip] | rw [m_eqS] | rw [m_neS] | rw [m_eqI] | rw [m_neI] | rw [m_ltI] | rw [m_leI] | rw [m_gtI] | rw [m_geI] | rw [m_addI] | rw [m_subI] | rw [m_negI] | rw [m_pow9] | rw [m_pow12] | rw [m_intB] | rw [m_lenL] | rw [m_lenT] | rw [m_tupL] | rw [m_ixT] | rw [m_ixL] | rw [at0] | rw [at1] | rw [at2] | rw [at3] | rw [m_ite] | rw [List.length_map])
    refine Yl.drawB (n := 0) (by decide) (by decide) fun x x0 x1 => ?_
    exact Yl.ok ⟨_, rfl, x, rfl, trivial⟩
  obtain ⟨kd, rfl, hkp⟩ := hr
  obtain ⟨ks, rfl, _⟩ := typed (f := PyData.int) (P := fun _ => True) (paired_right (P := fun v => ∃ k : Int, v = .int k ∧ True) (fun a b h => h) hkp)
  have kl : ks.length = ns.length := by
    have := paired_len hkp
    rw [List.length_map, List.length_map] at this
    exact this.symm
  repeat (first | with_reducible refine Yl.okb ?_ | with_reducible refine Yl.asc ?_ | rw [itt] | rw [itf] | rw [lcD_okb] | rw [lcD_asc] | rw [M.opt_some] | rw [un2_t] | rw [un3_t] | rw [iter_l] | rw [iter_t] | rw [part_n] | rw [part_i] | rw [int_i] | rw [m_zip] | rw [m_eqS] | rw [m_neS] | rw [m_eqI] | rw [m_neI] | rw [m_ltI] | rw [m_leI] | rw [m_gtI] | rw [m_geI] | rw [m_addI] | rw [m_subI] | rw [m_negI] | rw [m_pow9] | rw [m_pow12] | rw [m_intB] | rw [m_lenL] | rw [m_lenT] | rw [m_tupL] | rw [m_ixT] | rw [m_ixL] | rw [at0] | rw [at1] | rw [at2] | rw [at3] | rw [m_ite] | rw [List.length_map])
  have zl : ((List.zip (ns.map nmD) (ks.map PyData.int)).map fun p => PyData.tuple [p.1, p.2]).length = ns.length := by
    rw [List.length_map, List.length_zip, List.length_map, List.length_map, kl, Nat.min_self]
  have zm : ∀ d ∈ (List.zip (ns.map nmD) (ks.map PyData.int)).map fun p => PyData.tuple [p.1, p.2], ∃ n k, n ∈ ns ∧ d = .tuple [nmD n, .int k] := fun d m => by
    obtain ⟨p, mp, rfl⟩ := List.mem_map.mp m
    obtain ⟨p1, p2⟩ := List.of_mem_zip mp
    obtain ⟨n, mn, e1⟩ := List.mem_map.mp p1
    obtain ⟨k, mk, e2⟩ := List.mem_map.mp p2
    exact ⟨n, k, mn, by rw [e1, e2]⟩
  generalize hz : ((List.zip (ns.map nmD) (ks.map PyData.int)).map fun p => PyData.tuple [p.1, p.2]) = zs at zl zm
  refine Yl.bind (n := 0) (m := 2060) ((Yl.lcDo (n := 0) (its := zs) (P := fun v => ∃ n, v = nmD n ∧ n ∈ ns) (by omega) fun d hd => ?_).up (m := 0) (by omega) fun _ h => h) fun r hr => ?_
  · obtain ⟨n, k, mn, rfl⟩ := zm d hd
    repeat (first | with_reducible refine Yl.okb ?_ | with_reducible refine Yl.asc ?_ | rw [itt] | rw [itf] | rw [lcD_okb] | rw [lcD_asc] | rw [M.opt_some] | rw [un2_t] | rw [un3_t] | rw [iter_l] | rw [iter_t] | rw [part_n] | rw [part_i] | rw [int_i] | rw [m_zip] | rw [m_eqS] | rw [m_neS] | rw [m_eqI] | rw [m_neI] | rw [m_ltI] | rw [m_leI] | rw [m_gtI] | rw [m_geI] | rw [m_addI] | rw [m_subI] | rw [m_negI] | rw [m_pow9] | rw [m_pow12] | rw [m_intB] | rw [m_lenL] | rw [m_lenT] | rw [m_tupL] | rw [m_ixT] | rw [m_ixL] | rw [at0] | rw [at1] | rw [at2] | rw [at3] | rw [m_ite] | rw [List.length_map])
    split
    · repeat (first | with_reducible refine Yl.okb ?_ | with_reducible refine Yl.asc ?_ | rw [itt] | rw [itf] | rw [lcD_okb] | rw [lcD_asc] | rw [M.opt_some] | rw [un2_t] | rw [un3_t] | rw [iter_l] | rw [iter_t] | rw [part_n] | rw [part_i] | rw [int_i] | rw [m_zip] | rw [m_eqS] | rw [m_neS] | rw [m_eqI] | rw [m_neI] | rw [m_ltI] | rw [m_leI] | rw [m_gtI] | rw [m_geI] | rw [m_addI] | rw [m_subI] | rw [m_negI] | rw [m_pow9] | rw [m_pow12] | rw [m_intB] | rw [m_lenL] | rw [m_lenT] | rw [m_tupL] | rw [m_ixT] | rw [m_ixL] | rw [at0] | rw [at1] | rw [at2] | rw [at3] | rw [m_ite] | rw [List.length_map])
      split
      · repeat (first | with_reducible refine Yl.okb ?_ | with_reducible refine Yl.asc ?_ | rw [itt] | rw [itf] | rw [lcD_okb] | rw [lcD_asc] | rw [M.opt_some] | rw [un2_t] | rw [un3_t] | rw [iter_l] | rw [iter_t] | rw [part_n] | rw [part_i] | rw [int_i] | rw [m_zip] | rw [m_eqS] | rw [m_neS] | rw [m_eqI] | rw [m_neI] | rw [m_ltI] | rw [m_leI] | rw [m_gtI] | rw [m_geI] | rw [m_addI] | rw [m_subI] | rw [m_negI] | rw [m_pow9] | rw [m_pow12] | rw [m_intB] | rw [m_lenL] | rw [m_lenT] | rw [m_tupL] | rw [m_ixT] | rw [m_ixL] | rw [at0] | rw [at1] | rw [at2] | rw [at3] | rw [m_ite] | rw [List.length_map])
        exact Yl.ok fun v e => by cases e; exact ⟨n, rfl, mn⟩
      · repeat (first | with_reducible refine Yl.okb ?_ | with_reducible refine Yl.asc ?_ | rw [itt] | rw [itf] | rw [lcD_okb] | rw [lcD_asc] | rw [M.opt_some] | rw [un2_t] | rw [un3_t] | rw [iter_l] | rw [iter_t] | rw [part_n] | rw [part_i] | rw [int_i] | rw [m_zip] | rw [m_eqS] | rw [m_neS] | rw [m_eqI] | rw [m_neI] | rw [m_ltI] | rw [m_leI] | rw [m_gtI] | rw [m_geI] | rw [m_addI] | rw [m_subI] | rw [m_negI] | rw [m_pow9] | rw [m_pow12] | rw [m_intB] | rw [m_lenL] | rw [m_lenT] | rw [m_tupL] | rw [m_ixT] | rw [m_ixL] | rw [at0] | rw [at1] | rw [at2] | rw [at3] | rw [m_ite] | rw [List.length_map])
        exact Yl.ok fun v e => by cases e
    · repeat (first | with_reducible refine Yl.okb ?_ | with_reducible refine Yl.asc ?_ | rw [itt] | rw [itf] | rw [lcD_okb] | rw [lcD_asc] | rw [M.opt_some] | rw [un2_t] | rw [un3_t] | rw [iter_l] | rw [iter_t] | rw [part_n] | rw [part_i] | rw [int_i] | rw [m_zip] | rw [m_eqS] | rw [m_neS] | rw [m_eqI] | rw [m_neI] | rw [m_ltI] | rw [m_leI] | rw [m_gtI] | rw [m_geI] | rw [m_addI] | rw [m_subI] | rw [m_negI] | rw [m_pow9] | rw [m_pow12] | rw [m_intB] | rw [m_lenL] | rw [m_lenT] | rw [m_tupL] | rw [m_ixT] | rw [m_ixL] | rw [at0] | rw [at1] | rw [at2] | rw [at3] | rw [m_ite] | rw [List.length_map])
      exact Yl.ok fun v e => by cases e
  obtain ⟨bd, rfl, bl, hb⟩ := hr
  obtain ⟨bs, rfl, hbs⟩ := typed hb
  rw [List.length_map] at bl
  repeat (first | with_reducible refine Yl.okb ?_ | with_reducible refine Yl.asc ?_ | rw [itt] | rw [itf] | rw [lcD_okb] | rw [lcD_asc] | rw [M.opt_some] | rw [un2_t] | rw [un3_t] | rw [iter_l] | rw [iter_t] | rw [part_n] | rw [part_i] | rw [int_i] | rw [m_zip] | rw [m_eqS] | rw [m_neS] | rw [m_eqI] | rw [m_neI] | rw [m_ltI] | rw [m_leI] | rw [m_gtI] | rw [m_geI] | rw [m_addI] | rw [m_subI] | rw [m_negI] | rw [m_pow9] | rw [m_pow12] | rw [m_intB] | rw [m_lenL] | rw [m_lenT] | rw [m_tupL] | rw [m_ixT] | rw [m_ixL] | rw [at0] | rw [at1] | rw [at2] | rw [at3] | rw [m_ite] | rw [List.length_map])
  rw [hz]
  refine (Yl.bind (n := 2000) (m := 0) ((Yl.lcD (n := 50) (its := zs) (R := fun d v => ∀ n k, d = PyData.tuple [nmD n, .int k] → ∃ e, v = pageD (n, e) ∧ GDeed (· ∈ ns) e) (by omega) fun d hd => ?_).up (m := 2000) (by omega) fun _ h => h) fun r hr => ?_).up (by decide) fun _ h => h
  · obtain ⟨n, k, mn, rfl⟩ := zm d hd
    repeat (first | with_reducible refine Yl.okb ?_ | with_reducible refine Yl.asc ?_ | rw [itt] | rw [itf] | rw [lcD_okb] | rw [lcD_asc] | rw [M.opt_some] | rw [un2_t] | rw [un3_t] | rw [iter_l] | rw [iter_t] | rw [part_n] | rw [part_i] | rw [int_i] | rw [m_zip] | rw [m_eqS] | rw [m_neS] | rw [m_eqI] | rw [m_neI] | rw [m_ltI] | rw [m_leI] | rw [m_gtI] | rw [m_geI] | rw [m_addI] | rw [m_subI] | rw [m_negI] | rw [m_pow9] | rw [m_pow12] | rw [m_intB] | rw [m_lenL] | rw [m_lenT] | rw [m_tupL] | rw [m_ixT] | rw [m_ixL] | rw [at0] | rw [at1] | rw [at2] | rw [at3] | rw [m_ite] | rw [List.length_map])
    refine (Yl.bind (n := 50) (m := 0) (y_deed ho k n0 nl (by omega) hbs) fun v hv => ?_).up (by decide) fun _ h => h
    obtain ⟨e, rfl, ge⟩ := hv
    refine Yl.ok ⟨_, rfl, fun n' k' he => ?_⟩
    have he2 : nmD n = nmD n' := (List.cons.inj (PyData.tuple.inj he)).1
    exact ⟨e, by show PyData.tuple [nmD n, deedD e] = PyData.tuple [nmD n', deedD e]; rw [he2], ge⟩
  · obtain ⟨vd, rfl, hvp⟩ := hr
    rw [← hz] at hvp
    obtain ⟨es, rfl, el, ge⟩ := zip_pages (ns := ns) kl hvp
    repeat (first | with_reducible refine Yl.okb ?_ | with_reducible refine Yl.asc ?_ | rw [itt] | rw [itf] | rw [lcD_okb] | rw [lcD_asc] | rw [M.opt_some] | rw [un2_t] | rw [un3_t] | rw [iter_l] | rw [iter_t] | rw [part_n] | rw [part_i] | rw [int_i] | rw [m_zip] | rw [m_eqS] | rw [m_neS] | rw [m_eqI] | rw [m_neI] | rw [m_ltI] | rw [m_leI] | rw [m_gtI] | rw [m_geI] | rw [m_addI] | rw [m_subI] | rw [m_negI] | rw [m_pow9] | rw [m_pow12] | rw [m_intB] | rw [m_lenL] | rw [m_lenT] | rw [m_tupL] | rw [m_ixT] | rw [m_ixL] | rw [at0] | rw [at1] | rw [at2] | rw [at3] | rw [m_ite] | rw [List.length_map])
    refine Yl.ok ⟨List.zip ns es, rfl, fun e => ?_, ?_, ?_, fun p m => ?_, fun p m => ?_⟩
    · have : (List.zip ns es).length = 0 := by rw [e]; rfl
      rw [List.length_zip, el, Nat.min_self] at this
      exact n0 (List.eq_nil_of_length_eq_zero this)
    · rw [List.length_zip, el, Nat.min_self]; exact nl
    · rw [List.map_fst_zip (by omega)]; exact nnd
    · exact gn p.1 (List.of_mem_zip m).1
    · have g := ge p.2 (List.of_mem_zip m).2
      have gn' : ∀ n, n ∈ ns → GNm n := gn
      revert g
      cases p.2 with
      | move a b us => exact id
      | bag a b n => exact id
      | read nm us => exact fun g => ⟨gn' nm g.1, g.2⟩
      | count q n => exact id
      | void nm => exact gn' nm
end Bk

set_option maxRecDepth 100000
set_option maxHeartbeats 4000000
/-! PP: books as data. -/
namespace PO
open PySem L2
theorem lcM_map {α : Type} {h : α → D} {f : D → M (Option D)} {g : α → Option D} : ∀ {its : List α}, (∀ d ∈ its, f (h d) = M.ok (g d)) → lcM f (its.map h) = M.ok (its.filterMap g)
  | [], _ => rfl
  | d :: ds, hh => by
    funext F
    rw [List.map_cons]
    unfold lcM
    rw [hh d List.mem_cons_self, lcM_map fun e m => hh e (List.mem_cons_of_mem _ m)]
    show Ro.ok (match g d with | some v => v :: ds.filterMap g | none => ds.filterMap g) F = _
    rw [List.filterMap_cons]
    cases g d <;> rfl
theorem lc_map {α : Type} {h : α → D} {f : D → M (Option D)} (g : α → Option D) {its : List α} (hl : its.length ≤ 100000) (hh : ∀ d ∈ its, f (h d) = M.ok (g d)) : lcD (M.ok (its.map h)) f = M.ok (.list (its.filterMap g)) := by
  rw [lcD_ok]
  unfold lc
  rw [if_pos (by rw [List.length_map]; exact hl), lcM_map hh]
  rfl
theorem fold_map {α γ : Type} {h : α → D} {f : D → γ → M γ} (g : γ → α → γ) : ∀ {its : List α} {a : γ} (I : Nat → γ → Prop), I 0 a → (∀ j d b, its[j]? = some d → I j b → f (h d) b = M.ok (g b d) ∧ I (j + 1) (g b d)) → fold f (its.map h) a = M.ok (its.foldl g a) ∧ I its.length (its.foldl g a)
  | [], a, I, h0, _ => ⟨rfl, h0⟩
  | d :: ds, a, I, h0, hs => by
    obtain ⟨e, i1⟩ := hs 0 d a rfl h0
    have r := fold_map g (fun j => I (j + 1)) i1 fun j x b hx hb => hs (j + 1) x b (by simpa using hx) hb
    rw [List.map_cons]
    unfold fold
    rw [e, M.ok_bind, List.foldl_cons]
    exact r
theorem mem_inj {α : Type} {f : α → D} (inj : ∀ a b, f a = f b → a = b) {x : α} {l : List α} : f x ∈ l.map f ↔ x ∈ l := by
  constructor
  · intro m
    obtain ⟨y, my, e⟩ := List.mem_map.mp m
    rw [← inj _ _ e]; exact my
  · exact List.mem_map_of_mem
end PO
namespace Bk
open PySem L2 PO
open PN hiding RF RO e_and e_call e_chain e_if e_isi e_lc e_mt e_not e_or e_part e_sl i_any i_zip
theorem nmD_inj (a b : Nm) (h : nmD a = nmD b) : a = b := by
  obtain ⟨a1, a2, a3⟩ := a
  obtain ⟨b1, b2, b3⟩ := b
  unfold nmD at h
  simp at h
  obtain ⟨rfl, rfl, rfl⟩ := h
  rfl
def kind : Deed → Str
  | .move _ _ _ => "move"
  | .bag _ _ _ => "bag"
  | .read _ _ => "read"
  | .count _ _ => "count"
  | .void _ => "void"
theorem ix0 (e : Deed) : op2 pIx (deedD e) (.int 0) = M.ok (.str (kind e)) := by
  cases e <;> (unfold deedD; rw [m_ixT, at0]; rfl)
theorem kind_move {e : Deed} (h : kind e = "move") : ∃ a b us, e = .move a b us := by
  cases e <;> first | exact ⟨_, _, _, rfl⟩ | exact absurd h (by simp only [kind]; decide)
theorem kind_bag {e : Deed} (h : kind e = "bag") : ∃ a b n, e = .bag a b n := by
  cases e <;> first | exact absurd h (by simp only [kind]; decide) | exact ⟨_, _, _, rfl⟩
theorem kind_read {e : Deed} (h : kind e = "read") : ∃ nm us, e = .read nm us := by
  cases e <;> first | exact absurd h (by simp only [kind]; decide) | exact ⟨_, _, rfl⟩
theorem kind_count {e : Deed} (h : kind e = "count") : ∃ p n, e = .count p n := by
  cases e <;> first | exact absurd h (by simp only [kind]; decide) | exact ⟨_, _, rfl⟩
theorem kind_void {e : Deed} (h : kind e = "void") : ∃ nm, e = .void nm := by
  cases e <;> first | exact absurd h (by simp only [kind]; decide) | exact ⟨_, rfl⟩
/-! ### sizes -/
def Small (s : Str) : Prop := s.length ≤ 8 ∧ ∀ c ∈ s.cps.toList, c < 0x110000
theorem small_hand : ∀ s ∈ handW, Small s := by unfold Small; decide
theorem small_ser : ∀ s ∈ serW, Small s := by unfold Small; decide
theorem small_pl : ∀ s ∈ plW, Small s := by unfold Small; decide
theorem small_zz : Small "zz" := by unfold Small; decide
theorem small_5 : ∀ s ∈ (["move", "bag", "read", "count", "void"] : List Str), Small s := by unfold Small; decide
theorem small_kind (e : Deed) : Small (kind e) := small_5 _ (by cases e <;> simp [kind])
theorem sm_s {s : Str} (h : Small s) : Sm 82 0 (.str s) := Sm.str h.2 h.1
theorem sm_i {i : Int} (h : i.natAbs < 10 ^ 18) : Sm 82 0 (.int i) := (Sm.int h).up (by decide) (Nat.le_refl _)
theorem sm_nm {n : Nm} (g : GNm n) : Sm 256 1 (nmD n) := by
  have := g.d0; have := g.d1; have := g.k0; have := g.k1
  refine Sm.tup (n := 82) (k := 0) (ds := [_, _, _]) fun d m => ?_
  simp only [List.mem_cons, List.not_mem_nil, or_false] at m
  rcases m with rfl | rfl | rfl
  · exact sm_i (by omega)
  · exact sm_i (by omega)
  · exact sm_s (small_hand _ g.hd)
theorem sm_run {r : P3} (g : GRun r) : Sm 256 1 (runD r) := by
  have := g.a0; have := g.a1; have := g.b0; have := g.b1
  refine Sm.tup (n := 82) (k := 0) (ds := [_, _, _]) fun d m => ?_
  simp only [List.mem_cons, List.not_mem_nil, or_false] at m
  rcases m with rfl | rfl | rfl
  · exact sm_s (small_ser _ g.s)
  · exact sm_i (by omega)
  · exact sm_i (by omega)
theorem sm_runs {us : List P3} (g : GRuns us) : Sm 5000 2 (.tuple (us.map runD)) := by
  refine (Sm.tup (n := 256) (k := 1) fun d m => ?_).up ?_ (Nat.le_refl _)
  · obtain ⟨r, mr, rfl⟩ := List.mem_map.mp m
    exact sm_run (g.2 r mr)
  · rw [List.length_map]
    have := g.1
    omega
theorem sm_deed {e : Deed} (g : GDeed GNm e) : Sm 25000 3 (deedD e) := by
  have str : ∀ {s : Str}, Small s → Sm 5000 2 (.str s) := fun h => (sm_s h).up (by decide) (by decide)
  have int : ∀ {i : Int}, i.natAbs < 10 ^ 18 → Sm 5000 2 (.int i) := fun h => (sm_i h).up (by decide) (by decide)
  have nm : ∀ {n : Nm}, GNm n → Sm 5000 2 (nmD n) := fun h => (sm_nm h).up (by decide) (by decide)
  cases e with
  | move a b us =>
    refine (Sm.tup (n := 5000) (k := 2) (ds := [_, _, _, _]) fun d m => ?_).up (Nat.le_of_ble_eq_true rfl) (Nat.le_refl _)
    simp only [List.mem_cons, List.not_mem_nil, or_false] at m
    rcases m with rfl | rfl | rfl | rfl
    · exact str (small_kind (.move a b us))
    · exact str (small_pl _ g.1)
    · exact str (small_pl _ g.2.1)
    · exact sm_runs g.2.2
  | bag a b n =>
    have := g.2.2
    refine (Sm.tup (n := 5000) (k := 2) (ds := [_, _, _, _]) fun d m => ?_).up (Nat.le_of_ble_eq_true rfl) (Nat.le_refl _)
    simp only [List.mem_cons, List.not_mem_nil, or_false] at m
    rcases m with rfl | rfl | rfl | rfl
    · exact str (small_kind (.bag a b n))
    · exact str (small_pl _ g.1)
    · exact str (small_pl _ g.2.1)
    · exact int (by omega)
  | read n us =>
    refine (Sm.tup (n := 5000) (k := 2) (ds := [_, _, _]) fun d m => ?_).up (Nat.le_of_ble_eq_true rfl) (Nat.le_refl _)
    simp only [List.mem_cons, List.not_mem_nil, or_false] at m
    rcases m with rfl | rfl | rfl
    · exact str (small_kind (.read n us))
    · exact nm g.1
    · exact sm_runs g.2
  | count p n =>
    have := g.2
    refine (Sm.tup (n := 5000) (k := 2) (ds := [_, _, _]) fun d m => ?_).up (Nat.le_of_ble_eq_true rfl) (Nat.le_refl _)
    simp only [List.mem_cons, List.not_mem_nil, or_false] at m
    rcases m with rfl | rfl | rfl
    · exact str (small_kind (.count p n))
    · exact str (small_pl _ g.1)
    · exact int (by omega)
  | void n =>
    refine (Sm.tup (n := 5000) (k := 2) (ds := [_, _]) fun d m => ?_).up (Nat.le_of_ble_eq_true rfl) (Nat.le_refl _)
    simp only [List.mem_cons, List.not_mem_nil, or_false] at m
    rcases m with rfl | rfl
    · exact str (small_kind (.void n))
    · exact nm g
theorem sm_page {p : Page} (g1 : GNm p.1) (g2 : GDeed GNm p.2) : Sm 60000 4 (pageD p) := by
  refine (Sm.tup (n := 25000) (k := 3) (ds := [_, _]) fun d m => ?_).up (Nat.le_of_ble_eq_true rfl) (Nat.le_refl _)
  simp only [List.mem_cons, List.not_mem_nil, or_false] at m
  rcases m with rfl | rfl
  · exact (sm_nm g1).up (by decide) (by decide)
  · exact sm_deed g2
theorem sm_book {pg : List Page} (h : Book pg) : Sm 3000000 5 (.tuple (pg.map pageD)) := by
  refine (Sm.tup (n := 60000) (k := 4) fun d m => ?_).up ?_ (Nat.le_refl _)
  · obtain ⟨p, mp, rfl⟩ := List.mem_map.mp m
    exact sm_page (h.nm p mp) (h.dd p mp)
  · rw [List.length_map]
    have := h.len
    omega
theorem nb_nm (n : Nm) : noB (nmD n) = true := rfl
theorem sm_names {ns : List Nm} (h : ∀ n ∈ ns, GNm n) (hl : ns.length ≤ 40) : Sm 20000 2 (.tuple (ns.map nmD)) ∧ Sm 20000 2 (.list (ns.map nmD)) := by
  have q : ∀ d ∈ ns.map nmD, Sm 256 1 d := fun d m => by
    obtain ⟨p, mp, rfl⟩ := List.mem_map.mp m
    exact sm_nm (h p mp)
  exact ⟨(Sm.tup q).up (by rw [List.length_map]; omega) (Nat.le_refl _), (Sm.lst q).up (by rw [List.length_map]; omega) (Nat.le_refl _)⟩
theorem nb_names {ns : List Nm} : ∀ z ∈ ns.map nmD, noB z = true := fun z m => by
  obtain ⟨p, _, rfl⟩ := List.mem_map.mp m
  exact nb_nm p
open Classical in
theorem in_names {n : Nm} {ns : List Nm} (g : GNm n) (h : ∀ n ∈ ns, GNm n) (hl : ns.length ≤ 40) :
    op2 pIn (nmD n) (.tuple (ns.map nmD)) = M.ok (.bool (decide (n ∈ ns))) ∧ op2 pNotIn (nmD n) (.tuple (ns.map nmD)) = M.ok (.bool (!decide (n ∈ ns))) ∧
    op2 pIn (nmD n) (.list (ns.map nmD)) = M.ok (.bool (decide (n ∈ ns))) ∧ op2 pNotIn (nmD n) (.list (ns.map nmD)) = M.ok (.bool (!decide (n ∈ ns))) := by
  obtain ⟨s1, s2⟩ := sm_names h hl
  have e : decide (nmD n ∈ ns.map nmD) = decide (n ∈ ns) := decide_eq_decide.mpr (mem_inj nmD_inj)
  refine ⟨?_, ?_, ?_, ?_⟩
  · rw [m_inT (sm_nm g) s1 (by decide) (by decide) (nb_nm n) nb_names, e]
  · rw [m_notInT (sm_nm g) s1 (by decide) (by decide) (nb_nm n) nb_names, e]
  · rw [m_inL (sm_nm g) s2 (by decide) (by decide) (nb_nm n) nb_names, e]
  · rw [m_notInL (sm_nm g) s2 (by decide) (by decide) (nb_nm n) nb_names, e]
end Bk

set_option maxRecDepth 100000
namespace Lw
open PySem L2 PN
def top (i : Nat) : Stmt := PySem.Challenge.pw_pressnotes_k73_offs.main.body.getD i (.Pass ⟨0, 0, 0, 0⟩)
abbrev s_voided : Stmt := top 3
abbrev s_bags_in : Stmt := top 4
abbrev s_counted : Stmt := top 5
abbrev s_counted_pages : Stmt := top 7
abbrev s_many_in : Stmt := top 1
abbrev s_brings : Stmt := top 8
abbrev s_offs : Stmt := top 9
abbrev s__law_feed : Stmt := top 11
abbrev s__law_draw : Stmt := top 12
abbrev s__law_same : Stmt := top 13
abbrev s__law_words : Stmt := top 14
abbrev s__law_office : Stmt := top 15
abbrev s__law_name : Stmt := top 18
abbrev s__law_runs_of : Stmt := top 16
abbrev s__law_runs : Stmt := top 17
abbrev s__law_deed : Stmt := top 19
abbrev s__law_book : Stmt := top 20
abbrev s__law_counted : Stmt := top 21
abbrev s__law_brings : Stmt := top 22
abbrev s__law_due : Stmt := top 23
abbrev s_law : Stmt := top 24
structure Txt (K : PySem.W.Frag) (mg : Str → Option Value) : Prop where
  b_tuple : mg "tuple" = none
  b_dict : mg "dict" = none
  b_sum : mg "sum" = none
  b_len : mg "len" = none
  b_repr : mg "repr" = none
  b_range : mg "range" = none
  b_sorted : mg "sorted" = none
  b_set : mg "set" = none
  b_int : mg "int" = none
  b_zip : mg "zip" = none
theorem sc_voided : FnScope ["book", "named", "name", "deed"] ["book"] (defScope s_voided) := ⟨rfl, rfl, rfl, by decide +kernel, rfl, by decide +kernel, by decide +kernel⟩
noncomputable def b_voided : GS :=
    (sSeq (sAsg (gPN pLst (gLcA [2, 3] (gIter (gVar 0)) (tTupT 2 (tsCons (tName 2) (tsCons (tName 3) tsNil))) (gP2 pEq (gP2 pIx (gVar 3) (gC (.dat (.int 0)))) (gC (.dat (.str "void")))) (gP2 pIx (gVar 3) (gC (.dat (.int 1)))))) (tName 1))
    (sRet (gPN pTupleOf (gCons (gPN pLst (gLcA [2, 3] (gIter (gVar 0)) (tTupT 2 (tsCons (tName 2) (tsCons (tName 3) tsNil))) (gAnd (gP2 pNe (gP2 pIx (gVar 3) (gC (.dat (.int 0)))) (gC (.dat (.str "void")))) (gP2 pIn (gVar 2) (gVar 1))) (gVar 2))) gNil))))
noncomputable def m_voided : GF := gFn 4 b_voided
set_option maxHeartbeats 0 in
theorem ok_voided {P : Program} {w : World} {K : PySem.W.Frag} {mg : Str → Option Value} {base : Heap} (T : Txt K mg) (D : Df K mg "voided" s_voided ["book"])  : OkD P w K mg base 1 "voided" ["book"] m_voided :=
  okd D sc_voided fun f cdv A outer s H E hg hr =>
    (s_cons (s_asg (r_lc (own := [("name", 2), ("deed", 3)]) rfl sc_voided.nd (i_any (r_var rfl (Or.inl rfl) (by decide) (by decide))) (blkOk_by (N := ["book", "named", "name", "deed"]) (sc := (defScope s_voided)) (by decide +kernel)) (by decide) (fun _ _ _ _ _ => (g_tup rfl (gs_cons (g_name (i := 2) sc_voided.nd rfl (Or.inl rfl) (Or.inr rfl)) (gs_cons (g_name (i := 3) sc_voided.nd rfl (Or.inl rfl) (Or.inr rfl)) gs_nil rfl) rfl) rfl rfl)) (fun _ _ _ _ _ => (pts1 (t_cmp (o_eq (ru hr (by decide))) (r_ix x_ix (r_var rfl (Or.inl rfl) (by decide) (by decide)) r_int (fun _ _ => rfl)) r_str rfl))) (fun _ _ _ _ _ => (r_ix x_ix (r_var rfl (Or.inl rfl) (by decide) (by decide)) r_int (fun _ _ => rfl))) (fun _ => rfl)) (g_name (i := 1) sc_voided.nd rfl (Or.inr rfl) (Or.inl rfl)) rfl rfl rfl)
    (s_one (s_ret (r_callTy b_tuple rfl T.b_tuple (by rfl) (r_cons (r_lc (own := [("name", 2), ("deed", 3)]) rfl sc_voided.nd (i_any (r_var rfl (Or.inl rfl) (by decide) (by decide))) (blkOk_by (N := ["book", "named", "name", "deed"]) (sc := (defScope s_voided)) (by decide +kernel)) (by decide) (fun _ _ _ _ _ => (g_tup rfl (gs_cons (g_name (i := 2) sc_voided.nd rfl (Or.inl rfl) (Or.inr rfl)) (gs_cons (g_name (i := 3) sc_voided.nd rfl (Or.inl rfl) (Or.inr rfl)) gs_nil rfl) rfl) rfl rfl)) (fun _ _ _ _ _ => (pts1 (PW.pt (w_and (t_cmp (o_ne (ru hr (by decide))) (r_ix x_ix (r_var rfl (Or.inl rfl) (by decide) (by decide)) r_int (fun _ _ => rfl)) r_str rfl) (w_and1 (t_cmp (o_in (ru hr (by decide))) (r_var rfl (Or.inl rfl) (by decide) (by decide)) (r_var rfl (Or.inr (Or.inl rfl)) (by decide) (by decide)) rfl)))))) (fun _ _ _ _ _ => (r_var rfl (Or.inl rfl) (by decide) (by decide))) (fun _ => rfl)) r_nil rfl) (by decide) (by decide) rfl rfl))))
theorem sc_bags_in : FnScope ["book", "gone", "name", "deed"] ["book"] (defScope s_bags_in) := ⟨rfl, rfl, rfl, by decide +kernel, rfl, by decide +kernel, by decide +kernel⟩
noncomputable def b_bags_in : GS :=
    (sSeq (sAsg (gCall 1 m_voided (gCons (gVar 0) gNil)) (tName 1))
    (sRet (gPN pLst (gLcA [2, 3] (gIter (gVar 0)) (tTupT 2 (tsCons (tName 2) (tsCons (tName 3) tsNil))) (gAnd (gP2 pEq (gP2 pIx (gVar 3) (gC (.dat (.int 0)))) (gC (.dat (.str "bag")))) (gP2 pNotIn (gVar 2) (gVar 1))) (gVar 2)))))
noncomputable def m_bags_in : GF := gFn 4 b_bags_in
set_option maxHeartbeats 0 in
theorem ok_bags_in {P : Program} {w : World} {K : PySem.W.Frag} {mg : Str → Option Value} {base : Heap} (T : Txt K mg) (D : Df K mg "bags_in" s_bags_in ["book"]) (h_voided : OkD P w K mg base 1 "voided" ["book"] m_voided) : OkD P w K mg base 2 "bags_in" ["book"] m_bags_in :=
  okd D sc_bags_in fun f cdv A outer s H E hg hr =>
    (s_cons (s_asg (r_callO h_voided rfl tk_def hg (hr.mono (by decide)) rfl (r_cons (r_var rfl (Or.inl rfl) (by decide) (by decide)) r_nil rfl) (by decide) rfl rfl) (g_name (i := 1) sc_bags_in.nd rfl (Or.inr rfl) (Or.inl rfl)) rfl rfl rfl)
    (s_one (s_ret (r_lc (own := [("name", 2), ("deed", 3)]) rfl sc_bags_in.nd (i_any (r_var rfl (Or.inl rfl) (by decide) (by decide))) (blkOk_by (N := ["book", "gone", "name", "deed"]) (sc := (defScope s_bags_in)) (by decide +kernel)) (by decide) (fun _ _ _ _ _ => (g_tup rfl (gs_cons (g_name (i := 2) sc_bags_in.nd rfl (Or.inl rfl) (Or.inr rfl)) (gs_cons (g_name (i := 3) sc_bags_in.nd rfl (Or.inl rfl) (Or.inr rfl)) gs_nil rfl) rfl) rfl rfl)) (fun _ _ _ _ _ => (pts1 (PW.pt (w_and (t_cmp (o_eq (ru hr (by decide))) (r_ix x_ix (r_var rfl (Or.inl rfl) (by decide) (by decide)) r_int (fun _ _ => rfl)) r_str rfl) (w_and1 (t_cmp (o_notIn (ru hr (by decide))) (r_var rfl (Or.inl rfl) (by decide) (by decide)) (r_var rfl (Or.inr (Or.inl rfl)) (by decide) (by decide)) rfl)))))) (fun _ _ _ _ _ => (r_var rfl (Or.inl rfl) (by decide) (by decide))) (fun _ => rfl)))))
theorem sc_counted : FnScope ["book", "gone", "bags", "found", "name", "deed"] ["book"] (defScope s_counted) := ⟨rfl, rfl, rfl, by decide +kernel, rfl, by decide +kernel, by decide +kernel⟩
noncomputable def b_counted : GS :=
    (sSeq (sAsg (gCall 1 m_voided (gCons (gVar 0) gNil)) (tName 1))
    (sSeq (sAsg (gCall 1 m_bags_in (gCons (gVar 0) gNil)) (tName 2))
    (sSeq (sAsg (gPN pLstA gNil) (tName 3))
    (sSeq (sFor (gIter (gVar 0)) (tTupT 2 (tsCons (tName 4) (tsCons (tName 5) tsNil))) (sIf (gAnd (gP2 pNe (gP2 pIx (gVar 5) (gC (.dat (.int 0)))) (gC (.dat (.str "void")))) (gAnd (gP2 pNotIn (gVar 4) (gVar 1)) (gOr (gP2 pNe (gP2 pIx (gVar 5) (gC (.dat (.int 0)))) (gC (.dat (.str "read")))) (gP2 pIn (gP2 pIx (gVar 5) (gC (.dat (.int 1)))) (gVar 2))))) (sDrop (gMt false pAppend (gVar 3) (gCons (gVar 4) gNil))) sPass))
    (sRet (gPN pTupleOf (gCons (gVar 3) gNil)))))))
noncomputable def m_counted : GF := gFn 6 b_counted
set_option maxHeartbeats 0 in
theorem ok_counted {P : Program} {w : World} {K : PySem.W.Frag} {mg : Str → Option Value} {base : Heap} (T : Txt K mg) (D : Df K mg "counted" s_counted ["book"]) (h_voided : OkD P w K mg base 1 "voided" ["book"] m_voided) (h_bags_in : OkD P w K mg base 2 "bags_in" ["book"] m_bags_in) : OkD P w K mg base 3 "counted" ["book"] m_counted :=
  okd D sc_counted fun f cdv A outer s H E hg hr =>
    (s_cons (s_asg (r_callO h_voided rfl tk_def hg (hr.mono (by decide)) rfl (r_cons (r_var rfl (Or.inl rfl) (by decide) (by decide)) r_nil rfl) (by decide) rfl rfl) (g_name (i := 1) sc_counted.nd rfl (Or.inl rfl) (Or.inl rfl)) rfl rfl rfl)
    (s_cons (s_asg (r_callO h_bags_in rfl tk_def hg (hr.mono (by decide)) rfl (r_cons (r_var rfl (Or.inl rfl) (by decide) (by decide)) r_nil rfl) (by decide) rfl rfl) (g_name (i := 2) sc_counted.nd rfl (Or.inl rfl) (Or.inl rfl)) rfl rfl rfl)
    (s_cons (s_asg (r_lstA r_nil) (g_name (i := 3) sc_counted.nd rfl (Or.inl rfl) (Or.inl rfl)) rfl rfl rfl)
    (s_cons (s_for (passes_of rfl) rfl (i_any (r_var rfl (Or.inl rfl) (by decide) (by decide))) (g_tup rfl (gs_cons (g_name (i := 4) sc_counted.nd rfl (Or.inl rfl) (Or.inl rfl)) (gs_cons (g_name (i := 5) sc_counted.nd rfl (Or.inl rfl) (Or.inl rfl)) gs_nil rfl) rfl) rfl rfl) (s_one (s_if (PW.pt (w_and (t_cmp (o_ne (ru hr (by decide))) (r_ix x_ix (r_var rfl (Or.inl rfl) (by decide) (by decide)) r_int (fun _ _ => rfl)) r_str rfl) (w_and (t_cmp (o_notIn (ru hr (by decide))) (r_var rfl (Or.inl rfl) (by decide) (by decide)) (r_var rfl (Or.inl rfl) (by decide) (by decide)) rfl) (w_and1 (PW.pt (w_or (t_cmp (o_ne (ru hr (by decide))) (r_ix x_ix (r_var rfl (Or.inl rfl) (by decide) (by decide)) r_int (fun _ _ => rfl)) r_str rfl) (w_or1 (t_cmp (o_in (ru hr (by decide))) (r_ix x_ix (r_var rfl (Or.inl rfl) (by decide) (by decide)) r_int (fun _ _ => rfl)) (r_var rfl (Or.inl rfl) (by decide) (by decide)) rfl)))))))) (s_one (s_expr (r_mt (k := false) PySem.F.plainAttrs_list PySem.F.slot_list_append PySem.F.type_list_append m_append (r_var rfl (Or.inl rfl) (by decide) (by decide)) (r_cons (r_var rfl (Or.inl rfl) (by decide) (by decide)) r_nil rfl) rfl (by rfl) rfl rfl rfl) rfl)) s_nil)) (fun _ => rfl))
    (s_one (s_ret (r_callTy b_tuple rfl T.b_tuple (by rfl) (r_cons (r_var rfl (Or.inl rfl) (by decide) (by decide)) r_nil rfl) (by decide) (by decide) rfl rfl)))))))
theorem sc_counted_pages : FnScope ["book", "names", "name", "page"] ["book"] (defScope s_counted_pages) := ⟨rfl, rfl, rfl, by decide +kernel, rfl, by decide +kernel, by decide +kernel⟩
noncomputable def b_counted_pages : GS :=
    (sSeq (sAsg (gPN pDict (gCons (gPN pLst (gLcA [2] (gIter (gCall 1 m_counted (gCons (gVar 0) gNil))) (tName 2) gYes (gPN pTup (gCons (gVar 2) (gCons (gC (.dat (.bool true))) gNil))))) gNil)) (tName 1))
    (sRet (gPN pLst (gLcA [3] (gIter (gVar 0)) (tName 3) (gP2 pIn (gP2 pIx (gVar 3) (gC (.dat (.int 0)))) (gVar 1)) (gVar 3)))))
noncomputable def m_counted_pages : GF := gFn 4 b_counted_pages
set_option maxHeartbeats 0 in
theorem ok_counted_pages {P : Program} {w : World} {K : PySem.W.Frag} {mg : Str → Option Value} {base : Heap} (T : Txt K mg) (D : Df K mg "counted_pages" s_counted_pages ["book"]) (h_counted : OkD P w K mg base 3 "counted" ["book"] m_counted) : OkD P w K mg base 4 "counted_pages" ["book"] m_counted_pages :=
  okd D sc_counted_pages fun f cdv A outer s H E hg hr =>
    (s_cons (s_asg (r_callTy (b_dict rfl (ru hr (by decide))) rfl T.b_dict (by rfl) (r_cons (r_lc (own := [("name", 2)]) rfl sc_counted_pages.nd (i_any (r_callO h_counted rfl tk_def hg (hr.mono (by decide)) rfl (r_cons (r_var rfl (Or.inl rfl) (by decide) (by decide)) r_nil rfl) (by decide) rfl rfl)) (blkOk_by (N := ["book", "names", "name", "page"]) (sc := (defScope s_counted_pages)) (by decide +kernel)) (by decide) (fun _ _ _ _ _ => (g_name (i := 2) sc_counted_pages.nd rfl (Or.inl rfl) (Or.inr rfl))) (fun _ _ _ _ _ => pts0) (fun _ _ _ _ _ => (r_tup (r_cons (r_var rfl (Or.inl rfl) (by decide) (by decide)) (r_cons r_bl r_nil rfl) rfl))) (fun _ => rfl)) r_nil rfl) (by decide) (by decide) rfl rfl) (g_name (i := 1) sc_counted_pages.nd rfl (Or.inr rfl) (Or.inl rfl)) rfl rfl rfl)
    (s_one (s_ret (r_lc (own := [("page", 3)]) rfl sc_counted_pages.nd (i_any (r_var rfl (Or.inl rfl) (by decide) (by decide))) (blkOk_by (N := ["book", "names", "name", "page"]) (sc := (defScope s_counted_pages)) (by decide +kernel)) (by decide) (fun _ _ _ _ _ => (g_name (i := 3) sc_counted_pages.nd rfl (Or.inl rfl) (Or.inr rfl))) (fun _ _ _ _ _ => (pts1 (t_cmp (o_in (ru hr (by decide))) (r_ix x_ix (r_var rfl (Or.inl rfl) (by decide) (by decide)) r_int (fun _ _ => rfl)) (r_var rfl (Or.inr (Or.inl rfl)) (by decide) (by decide)) rfl))) (fun _ _ _ _ _ => (r_var rfl (Or.inl rfl) (by decide) (by decide))) (fun _ => rfl)))))
theorem sc_many_in : FnScope ["runs", "series", "first", "end"] ["runs"] (defScope s_many_in) := ⟨rfl, rfl, rfl, by decide +kernel, rfl, by decide +kernel, by decide +kernel⟩
noncomputable def b_many_in : GS :=
    (sRet (gPN pSum (gCons (gPN pLst (gLcA [1, 2, 3] (gIter (gVar 0)) (tTupT 3 (tsCons (tName 1) (tsCons (tName 2) (tsCons (tName 3) tsNil)))) gYes (gP2 pSub (gVar 3) (gVar 2)))) gNil)))
noncomputable def m_many_in : GF := gFn 4 b_many_in
set_option maxHeartbeats 0 in
theorem ok_many_in {P : Program} {w : World} {K : PySem.W.Frag} {mg : Str → Option Value} {base : Heap} (T : Txt K mg) (D : Df K mg "many_in" s_many_in ["runs"])  : OkD P w K mg base 1 "many_in" ["runs"] m_many_in :=
  okd D sc_many_in fun f cdv A outer s H E hg hr =>
    (s_one (s_ret (r_callB (b_sum rfl) rfl T.b_sum (by rfl) (r_cons (r_lc (own := [("series", 1), ("first", 2), ("end", 3)]) rfl sc_many_in.nd (i_any (r_var rfl (Or.inl rfl) (by decide) (by decide))) (blkOk_by (N := ["runs", "series", "first", "end"]) (sc := (defScope s_many_in)) (by decide +kernel)) (by decide) (fun _ _ _ _ _ => (g_tup rfl (gs_cons (g_name (i := 1) sc_many_in.nd rfl (Or.inl rfl) (Or.inr rfl)) (gs_cons (g_name (i := 2) sc_many_in.nd rfl (Or.inl rfl) (Or.inr rfl)) (gs_cons (g_name (i := 3) sc_many_in.nd rfl (Or.inl rfl) (Or.inr rfl)) gs_nil rfl) rfl) rfl) rfl rfl)) (fun _ _ _ _ _ => pts0) (fun _ _ _ _ _ => (r_op o_sub (r_var rfl (Or.inl rfl) (by decide) (by decide)) (r_var rfl (Or.inl rfl) (by decide) (by decide)))) (fun _ => rfl)) r_nil rfl) (by decide) (by decide) rfl rfl)))
theorem sc_brings : FnScope ["deed", "place", "many"] ["deed", "place"] (defScope s_brings) := ⟨rfl, rfl, rfl, by decide +kernel, rfl, by decide +kernel, by decide +kernel⟩
noncomputable def b_brings : GS :=
    (sSeq (sIf (gOr (gP2 pNotIn (gP2 pIx (gVar 0) (gC (.dat (.int 0)))) (gPN pTup (gCons (gC (.dat (.str "move"))) (gCons (gC (.dat (.str "bag"))) gNil)))) (gP2 pNotIn (gVar 1) (gSl (gVar 0) (gPart (gC (.dat (.int 1)))) (gPart (gC (.dat (.int 3))))))) (sRet (gC (.dat (.int 0)))) sPass)
    (sSeq (sAsg (gP2 pIx (gVar 0) (gC (.dat (.int 3)))) (tName 2))
    (sSeq (sIf (gP2 pEq (gP2 pIx (gVar 0) (gC (.dat (.int 0)))) (gC (.dat (.str "move")))) (sAsg (gCall 1 m_many_in (gCons (gP2 pIx (gVar 0) (gC (.dat (.int 3)))) gNil)) (tName 2)) sPass)
    (sRet (gIf (gP2 pEq (gP2 pIx (gVar 0) (gC (.dat (.int 2)))) (gVar 1)) (gVar 2) (gP2 pSub (gC (.dat (.int 0))) (gVar 2)))))))
noncomputable def m_brings : GF := gFn 3 b_brings
set_option maxHeartbeats 0 in
theorem ok_brings {P : Program} {w : World} {K : PySem.W.Frag} {mg : Str → Option Value} {base : Heap} (T : Txt K mg) (D : Df K mg "brings" s_brings ["deed", "place"]) (h_many_in : OkD P w K mg base 1 "many_in" ["runs"] m_many_in) : OkD P w K mg base 2 "brings" ["deed", "place"] m_brings :=
  okd D sc_brings fun f cdv A outer s H E hg hr =>
    (s_cons (s_if (PW.pt (w_or (t_cmp (o_notIn (ru hr (by decide))) (r_ix x_ix (r_var rfl (Or.inl rfl) (by decide) (by decide)) r_int (fun _ _ => rfl)) (r_tup (r_cons r_str (r_cons r_str r_nil rfl) rfl)) rfl) (w_or1 (t_cmp (o_notIn (ru hr (by decide))) (r_var rfl (Or.inl rfl) (by decide) (by decide)) (r_sl (r_var rfl (Or.inl rfl) (by decide) (by decide)) (po_of r_int) (po_of r_int)) rfl)))) (s_one (s_ret r_int)) s_nil)
    (s_cons (s_asg (r_ix x_ix (r_var rfl (Or.inl rfl) (by decide) (by decide)) r_int (fun _ _ => rfl)) (g_name (i := 2) sc_brings.nd rfl (Or.inl rfl) (Or.inl rfl)) rfl rfl rfl)
    (s_cons (s_if (t_cmp (o_eq (ru hr (by decide))) (r_ix x_ix (r_var rfl (Or.inl rfl) (by decide) (by decide)) r_int (fun _ _ => rfl)) r_str rfl) (s_one (s_asg (r_callO h_many_in rfl tk_def hg (hr.mono (by decide)) rfl (r_cons (r_ix x_ix (r_var rfl (Or.inl rfl) (by decide) (by decide)) r_int (fun _ _ => rfl)) r_nil rfl) (by decide) rfl rfl) (g_name (i := 2) sc_brings.nd rfl (Or.inl rfl) (Or.inl rfl)) rfl rfl rfl)) s_nil)
    (s_one (s_ret (r_ifx (t_cmp (o_eq (ru hr (by decide))) (r_ix x_ix (r_var rfl (Or.inl rfl) (by decide) (by decide)) r_int (fun _ _ => rfl)) (r_var rfl (Or.inl rfl) (by decide) (by decide)) rfl) (r_var rfl (Or.inl rfl) (by decide) (by decide)) (r_op o_sub r_int (r_var rfl (Or.inl rfl) (by decide) (by decide)))))))))
theorem sc_offs : FnScope ["book", "place", "found", "there", "name", "deed"] ["book", "place"] (defScope s_offs) := ⟨rfl, rfl, rfl, by decide +kernel, rfl, by decide +kernel, by decide +kernel⟩
noncomputable def b_offs : GS :=
    (sSeq (sAsg (gPN pLstA gNil) (tName 2))
    (sSeq (sAsg (gC (.dat (.int 0))) (tName 3))
    (sSeq (sFor (gIter (gCall 1 m_counted_pages (gCons (gVar 0) gNil))) (tTupT 2 (tsCons (tName 4) (tsCons (tName 5) tsNil))) (sSeq (sIf (gAnd (gP2 pEq (gP2 pIx (gVar 5) (gC (.dat (.int 0)))) (gC (.dat (.str "count")))) (gP2 pEq (gP2 pIx (gVar 5) (gC (.dat (.int 1)))) (gVar 1))) (sDrop (gMt false pAppend (gVar 2) (gCons (gPN pTup (gCons (gVar 4) (gCons (gP2 pSub (gP2 pIx (gVar 5) (gC (.dat (.int 2)))) (gVar 3)) gNil))) gNil))) sPass)
    (sAsg (gP2 pAdd (gVar 3) (gCall 2 m_brings (gCons (gVar 5) (gCons (gVar 1) gNil)))) (tName 3))))
    (sRet (gVar 2)))))
noncomputable def m_offs : GF := gFnK 6 b_offs
set_option maxHeartbeats 0 in
theorem ok_offs {P : Program} {w : World} {K : PySem.W.Frag} {mg : Str → Option Value} {base : Heap} (T : Txt K mg) (D : Df K mg "offs" s_offs ["book", "place"]) (h_counted_pages : OkD P w K mg base 4 "counted_pages" ["book"] m_counted_pages) (h_brings : OkD P w K mg base 2 "brings" ["deed", "place"] m_brings) : OkD P w K mg base 5 "offs" ["book", "place"] m_offs :=
  okdK D sc_offs fun f cdv A outer s H E hg hr =>
    (s_cons (s_asg (r_lstA r_nil) (g_name (i := 2) sc_offs.nd rfl (Or.inl rfl) (Or.inl rfl)) rfl rfl rfl)
    (s_cons (s_asg r_int (g_name (i := 3) sc_offs.nd rfl (Or.inl rfl) (Or.inl rfl)) rfl rfl rfl)
    (s_cons (s_for (passes_of rfl) rfl (i_any (r_callO h_counted_pages rfl tk_def hg (hr.mono (by decide)) rfl (r_cons (r_var rfl (Or.inl rfl) (by decide) (by decide)) r_nil rfl) (by decide) rfl rfl)) (g_tup rfl (gs_cons (g_name (i := 4) sc_offs.nd rfl (Or.inl rfl) (Or.inl rfl)) (gs_cons (g_name (i := 5) sc_offs.nd rfl (Or.inl rfl) (Or.inl rfl)) gs_nil rfl) rfl) rfl rfl) (s_cons (s_if (PW.pt (w_and (t_cmp (o_eq (ru hr (by decide))) (r_ix x_ix (r_var rfl (Or.inl rfl) (by decide) (by decide)) r_int (fun _ _ => rfl)) r_str rfl) (w_and1 (t_cmp (o_eq (ru hr (by decide))) (r_ix x_ix (r_var rfl (Or.inl rfl) (by decide) (by decide)) r_int (fun _ _ => rfl)) (r_var rfl (Or.inl rfl) (by decide) (by decide)) rfl)))) (s_one (s_expr (r_mt (k := false) PySem.F.plainAttrs_list PySem.F.slot_list_append PySem.F.type_list_append m_append (r_var rfl (Or.inl rfl) (by decide) (by decide)) (r_cons (r_tup (r_cons (r_var rfl (Or.inl rfl) (by decide) (by decide)) (r_cons (r_op o_sub (r_ix x_ix (r_var rfl (Or.inl rfl) (by decide) (by decide)) r_int (fun _ _ => rfl)) (r_var rfl (Or.inl rfl) (by decide) (by decide))) r_nil rfl) rfl)) r_nil rfl) rfl (by rfl) rfl rfl rfl) rfl)) s_nil)
    (s_one (s_asg (r_op o_add (r_var rfl (Or.inl rfl) (by decide) (by decide)) (r_callO h_brings rfl tk_def hg (hr.mono (by decide)) rfl (r_cons (r_var rfl (Or.inl rfl) (by decide) (by decide)) (r_cons (r_var rfl (Or.inl rfl) (by decide) (by decide)) r_nil rfl) rfl) (by decide) rfl rfl)) (g_name (i := 3) sc_offs.nd rfl (Or.inl rfl) (Or.inl rfl)) rfl rfl rfl))) (fun _ => rfl))
    (s_one (s_ret (r_var rfl (Or.inl rfl) (by decide) (by decide)))))))
theorem sc__law_feed : FnScope ["_law_script"] ["_law_script"] (defScope s__law_feed) := ⟨rfl, rfl, rfl, by decide +kernel, rfl, by decide +kernel, by decide +kernel⟩
noncomputable def b__law_feed : GS :=
    (sRet (gPN pLstA (gCons (gSl (gVar 0) (gC (.dat .none)) (gPart (gC (.dat (.int 63))))) (gCons (gC (.dat (.int 0))) (gCons (gC (.dat (.int 0))) gNil)))))
noncomputable def m__law_feed : GF := gFnK 1 b__law_feed
set_option maxHeartbeats 0 in
theorem ok__law_feed {P : Program} {w : World} {K : PySem.W.Frag} {mg : Str → Option Value} {base : Heap} (T : Txt K mg) (D : Df K mg "_law_feed" s__law_feed ["_law_script"])  : OkD P w K mg base 1 "_law_feed" ["_law_script"] m__law_feed :=
  okdK D sc__law_feed fun f cdv A outer s H E hg hr =>
    (s_one (s_ret (r_lstA (r_cons (r_sl (r_var rfl (Or.inl rfl) (by decide) (by decide)) po_no (po_of r_int)) (r_cons r_int (r_cons r_int r_nil rfl) rfl) rfl))))
theorem sc__law_draw : FnScope ["_law_feed_here", "_law_many", "_law_found", "_law_at", "_law_cell", "_law_first"] ["_law_feed_here", "_law_many"] (defScope s__law_draw) := ⟨rfl, rfl, rfl, by decide +kernel, rfl, by decide +kernel, by decide +kernel⟩
noncomputable def b__law_draw : GS :=
    (sSeq (sIf (gP2 pGt (gP2 pIx (gVar 0) (gC (.dat (.int 2)))) (gC (.dat (.int 0)))) (sSeq (sAsg (gP2 pMod (gP2 pIx (gVar 0) (gC (.dat (.int 2)))) (gVar 1)) (tName 2))
    (sSeq (sSetI (gP2 pFdiv (gP2 pIx (gVar 0) (gC (.dat (.int 2)))) (gVar 1)) (gVar 0) (gC (.dat (.int 2))))
    (sRet (gVar 2)))) sPass)
    (sSeq (sAsg (gP2 pIx (gVar 0) (gC (.dat (.int 1)))) (tName 3))
    (sSeq (sSetI (gP2 pAdd (gVar 3) (gC (.dat (.int 1)))) (gVar 0) (gC (.dat (.int 1))))
    (sSeq (sAsg (gIf (gP2 pGt (gPN pLen (gCons (gP2 pIx (gVar 0) (gC (.dat (.int 0)))) gNil)) (gC (.dat (.int 0)))) (gP2 pIx (gP2 pIx (gVar 0) (gC (.dat (.int 0)))) (gP2 pMod (gVar 3) (gPN pLen (gCons (gP2 pIx (gVar 0) (gC (.dat (.int 0)))) gNil)))) (gC (.dat (.int 0)))) (tName 4))
    (sSeq (sIf (gAnd (gP2 pGe (gVar 4) (gP2 pPow (gC (.dat (.int 10))) (gC (.dat (.int 18))))) (gP2 pLt (gVar 3) (gPN pLen (gCons (gP2 pIx (gVar 0) (gC (.dat (.int 0)))) gNil)))) (sSeq (sSetI (gP2 pFdiv (gVar 4) (gVar 1)) (gVar 0) (gC (.dat (.int 2))))
    (sRet (gP2 pMod (gVar 4) (gVar 1)))) sPass)
    (sSeq (sAsg (gP2 pMod (gP2 pMul (gP2 pAdd (gP2 pAdd (gP2 pAdd (gP2 pMod (gVar 4) (gC (.dat (.int 1000003)))) (gP2 pMul (gP2 pMul (gC (.dat (.int 53))) (gVar 3)) (gVar 3))) (gP2 pMul (gC (.dat (.int 29))) (gVar 3))) (gC (.dat (.int 811)))) (gC (.dat (.int 40009)))) (gC (.dat (.int 2147483629)))) (tName 5))
    (sSeq (sAsg (gP2 pMod (gP2 pAdd (gP2 pAdd (gP2 pMul (gVar 5) (gVar 5)) (gP2 pMul (gC (.dat (.int 38317))) (gVar 3))) (gC (.dat (.int 101)))) (gC (.dat (.int 2147483587)))) (tName 5))
    (sRet (gP2 pMod (gP2 pFdiv (gP2 pMod (gP2 pMul (gVar 5) (gC (.dat (.int 48271)))) (gC (.dat (.int 2147483563)))) (gC (.dat (.int 7)))) (gVar 1))))))))))
noncomputable def m__law_draw : GF := gFn 6 b__law_draw
set_option maxHeartbeats 0 in
theorem ok__law_draw {P : Program} {w : World} {K : PySem.W.Frag} {mg : Str → Option Value} {base : Heap} (T : Txt K mg) (D : Df K mg "_law_draw" s__law_draw ["_law_feed_here", "_law_many"])  : OkD P w K mg base 1 "_law_draw" ["_law_feed_here", "_law_many"] m__law_draw :=
  okd D sc__law_draw fun f cdv A outer s H E hg hr =>
    (s_cons (s_if (t_cmp (o_gt (ru hr (by decide))) (r_ix x_ix (r_var rfl (Or.inl rfl) (by decide) (by decide)) r_int (fun _ _ => rfl)) r_int rfl) (s_cons (s_asg (r_op o_mod (r_ix x_ix (r_var rfl (Or.inl rfl) (by decide) (by decide)) r_int (fun _ _ => rfl)) (r_var rfl (Or.inl rfl) (by decide) (by decide))) (g_name (i := 2) sc__law_draw.nd rfl (Or.inl rfl) (Or.inl rfl)) rfl rfl rfl)
    (s_cons (s_seti (r_op o_fdiv (r_ix x_ix (r_var rfl (Or.inl rfl) (by decide) (by decide)) r_int (fun _ _ => rfl)) (r_var rfl (Or.inl rfl) (by decide) (by decide))) (r_var rfl (Or.inl rfl) (by decide) (by decide)) r_int (fun _ => rfl) rfl rfl rfl)
    (s_one (s_ret (r_var rfl (Or.inl rfl) (by decide) (by decide)))))) s_nil)
    (s_cons (s_asg (r_ix x_ix (r_var rfl (Or.inl rfl) (by decide) (by decide)) r_int (fun _ _ => rfl)) (g_name (i := 3) sc__law_draw.nd rfl (Or.inl rfl) (Or.inl rfl)) rfl rfl rfl)
    (s_cons (s_seti (r_op o_add (r_var rfl (Or.inl rfl) (by decide) (by decide)) r_int) (r_var rfl (Or.inl rfl) (by decide) (by decide)) r_int (fun _ => rfl) rfl rfl rfl)
    (s_cons (s_asg (r_ifx (t_cmp (o_gt (ru hr (by decide))) (r_callB b_len rfl T.b_len (by rfl) (r_cons (r_ix x_ix (r_var rfl (Or.inl rfl) (by decide) (by decide)) r_int (fun _ _ => rfl)) r_nil rfl) (by decide) (by decide) rfl rfl) r_int rfl) (r_ix x_ix (r_ix x_ix (r_var rfl (Or.inl rfl) (by decide) (by decide)) r_int (fun _ _ => rfl)) (r_op o_mod (r_var rfl (Or.inl rfl) (by decide) (by decide)) (r_callB b_len rfl T.b_len (by rfl) (r_cons (r_ix x_ix (r_var rfl (Or.inl rfl) (by decide) (by decide)) r_int (fun _ _ => rfl)) r_nil rfl) (by decide) (by decide) rfl rfl)) (fun _ _ => rfl)) r_int) (g_name (i := 4) sc__law_draw.nd rfl (Or.inl rfl) (Or.inl rfl)) rfl rfl rfl)
    (s_cons (s_if (PW.pt (w_and (t_cmp (o_ge (ru hr (by decide))) (r_var rfl (Or.inl rfl) (by decide) (by decide)) (r_op o_pow r_int r_int) rfl) (w_and1 (t_cmp (o_lt (ru hr (by decide))) (r_var rfl (Or.inl rfl) (by decide) (by decide)) (r_callB b_len rfl T.b_len (by rfl) (r_cons (r_ix x_ix (r_var rfl (Or.inl rfl) (by decide) (by decide)) r_int (fun _ _ => rfl)) r_nil rfl) (by decide) (by decide) rfl rfl) rfl)))) (s_cons (s_seti (r_op o_fdiv (r_var rfl (Or.inl rfl) (by decide) (by decide)) (r_var rfl (Or.inl rfl) (by decide) (by decide))) (r_var rfl (Or.inl rfl) (by decide) (by decide)) r_int (fun _ => rfl) rfl rfl rfl)
    (s_one (s_ret (r_op o_mod (r_var rfl (Or.inl rfl) (by decide) (by decide)) (r_var rfl (Or.inl rfl) (by decide) (by decide)))))) s_nil)
    (s_cons (s_asg (r_op o_mod (r_op o_mul (r_op o_add (r_op o_add (r_op o_add (r_op o_mod (r_var rfl (Or.inl rfl) (by decide) (by decide)) r_int) (r_op o_mul (r_op o_mul r_int (r_var rfl (Or.inl rfl) (by decide) (by decide))) (r_var rfl (Or.inl rfl) (by decide) (by decide)))) (r_op o_mul r_int (r_var rfl (Or.inl rfl) (by decide) (by decide)))) r_int) r_int) r_int) (g_name (i := 5) sc__law_draw.nd rfl (Or.inl rfl) (Or.inl rfl)) rfl rfl rfl)
    (s_cons (s_asg (r_op o_mod (r_op o_add (r_op o_add (r_op o_mul (r_var rfl (Or.inl rfl) (by decide) (by decide)) (r_var rfl (Or.inl rfl) (by decide) (by decide))) (r_op o_mul r_int (r_var rfl (Or.inl rfl) (by decide) (by decide)))) r_int) r_int) (g_name (i := 5) sc__law_draw.nd rfl (Or.inl rfl) (Or.inl rfl)) rfl rfl rfl)
    (s_one (s_ret (r_op o_mod (r_op o_fdiv (r_op o_mod (r_op o_mul (r_var rfl (Or.inl rfl) (by decide) (by decide)) r_int) r_int) r_int) (r_var rfl (Or.inl rfl) (by decide) (by decide))))))))))))
theorem sc__law_same : FnScope ["_law_found", "_law_due_here"] ["_law_found", "_law_due_here"] (defScope s__law_same) := ⟨rfl, rfl, rfl, by decide +kernel, rfl, by decide +kernel, by decide +kernel⟩
noncomputable def b__law_same : GS :=
    (sRet (gP2 pEq (gPN pRepr (gCons (gVar 0) gNil)) (gPN pRepr (gCons (gVar 1) gNil))))
noncomputable def m__law_same : GF := gFn 2 b__law_same
set_option maxHeartbeats 0 in
theorem ok__law_same {P : Program} {w : World} {K : PySem.W.Frag} {mg : Str → Option Value} {base : Heap} (T : Txt K mg) (D : Df K mg "_law_same" s__law_same ["_law_found", "_law_due_here"])  : OkD P w K mg base 1 "_law_same" ["_law_found", "_law_due_here"] m__law_same :=
  okd D sc__law_same fun f cdv A outer s H E hg hr =>
    (s_one (s_ret (r_cmp (o_eq (ru hr (by decide))) (r_callB (b_repr hg (ru hr (by decide))) rfl T.b_repr (by rfl) (r_cons (r_var rfl (Or.inl rfl) (by decide) (by decide)) r_nil rfl) (by decide) (by decide) rfl rfl) (r_callB (b_repr hg (ru hr (by decide))) rfl T.b_repr (by rfl) (r_cons (r_var rfl (Or.inl rfl) (by decide) (by decide)) r_nil rfl) (by decide) (by decide) rfl rfl) rfl)))
theorem sc__law_words : FnScope ["_law_feed_here", "_law_some"] ["_law_feed_here"] (defScope s__law_words) := ⟨rfl, rfl, rfl, by decide +kernel, rfl, by decide +kernel, by decide +kernel⟩
noncomputable def b__law_words : GS :=
    (sSeq (sAsg (gPN pLst (gCons (gPN pLst (gCons (gC (.dat (.str "a"))) (gCons (gC (.dat (.str "aa"))) (gCons (gC (.dat (.str "aaa"))) (gCons (gC (.dat (.str "ab"))) (gCons (gC (.dat (.str "b"))) gNil)))))) (gCons (gPN pLst (gCons (gC (.dat (.str "move"))) (gCons (gC (.dat (.str "bag"))) (gCons (gC (.dat (.str "read"))) (gCons (gC (.dat (.str "count"))) (gCons (gC (.dat (.str "void"))) gNil)))))) gNil))) (tName 1))
    (sSeq (sAsg (gP2 pAdd (gVar 1) (gPN pLst (gCons (gPN pLst (gCons (gC (.dat (.str "vault"))) (gCons (gC (.dat (.str "press"))) (gCons (gC (.dat (.str "out"))) (gCons (gC (.dat (.str "ash"))) (gCons (gC (.dat (.str "till"))) gNil)))))) (gCons (gPN pLst (gCons (gC (.dat (.str "banka"))) (gCons (gC (.dat (.str "bankb"))) (gCons (gC (.dat (.str "bankc"))) (gCons (gC (.dat (.str "tell"))) (gCons (gC (.dat (.str "office"))) gNil)))))) gNil)))) (tName 1))
    (sRet (gP2 pIx (gVar 1) (gCall 2 m__law_draw (gCons (gVar 0) (gCons (gC (.dat (.int 4))) gNil)))))))
noncomputable def m__law_words : GF := gFn 2 b__law_words
set_option maxHeartbeats 0 in
theorem ok__law_words {P : Program} {w : World} {K : PySem.W.Frag} {mg : Str → Option Value} {base : Heap} (T : Txt K mg) (D : Df K mg "_law_words" s__law_words ["_law_feed_here"]) (h__law_draw : OkD P w K mg base 1 "_law_draw" ["_law_feed_here", "_law_many"] m__law_draw) : OkD P w K mg base 2 "_law_words" ["_law_feed_here"] m__law_words :=
  okd D sc__law_words fun f cdv A outer s H E hg hr =>
    (s_cons (s_asg (r_lst (r_cons (r_lst (r_cons r_str (r_cons r_str (r_cons r_str (r_cons r_str (r_cons r_str r_nil rfl) rfl) rfl) rfl) rfl)) (r_cons (r_lst (r_cons r_str (r_cons r_str (r_cons r_str (r_cons r_str (r_cons r_str r_nil rfl) rfl) rfl) rfl) rfl)) r_nil rfl) rfl)) (g_name (i := 1) sc__law_words.nd rfl (Or.inl rfl) (Or.inl rfl)) rfl rfl rfl)
    (s_cons (s_asg (r_op o_add (r_var rfl (Or.inl rfl) (by decide) (by decide)) (r_lst (r_cons (r_lst (r_cons r_str (r_cons r_str (r_cons r_str (r_cons r_str (r_cons r_str r_nil rfl) rfl) rfl) rfl) rfl)) (r_cons (r_lst (r_cons r_str (r_cons r_str (r_cons r_str (r_cons r_str (r_cons r_str r_nil rfl) rfl) rfl) rfl) rfl)) r_nil rfl) rfl))) (g_name (i := 1) sc__law_words.nd rfl (Or.inl rfl) (Or.inl rfl)) rfl rfl rfl)
    (s_one (s_ret (r_ix x_ix (r_var rfl (Or.inl rfl) (by decide) (by decide)) (r_callO h__law_draw rfl tk_def hg (hr.mono (by decide)) rfl (r_cons (r_var rfl (Or.inl rfl) (by decide) (by decide)) (r_cons r_int r_nil rfl) rfl) (by decide) rfl rfl) (fun _ _ => rfl))))))
theorem sc__law_office : FnScope ["_law_feed_here", "_law_words_here", "_law_places", "_law_ways", "_law_k", "_law_one", "_law_other", "_law_series", "_law_worths", "_law_word"] ["_law_feed_here"] (defScope s__law_office) := ⟨rfl, rfl, rfl, by decide +kernel, rfl, by decide +kernel, by decide +kernel⟩
noncomputable def b__law_office : GS :=
    (sSeq (sAsg (gCall 1 m__law_words (gCons (gVar 0) gNil)) (tName 1))
    (sSeq (sAsg (gSl (gVar 1) (gC (.dat .none)) (gPart (gP2 pAdd (gC (.dat (.int 2))) (gCall 2 m__law_draw (gCons (gVar 0) (gCons (gC (.dat (.int 4))) gNil)))))) (tName 2))
    (sSeq (sAsg (gPN pLstA (gCons (gPN pTup (gCons (gC (.dat (.str "none"))) (gCons (gP2 pIx (gVar 2) (gCall 2 m__law_draw (gCons (gVar 0) (gCons (gPN pLen (gCons (gVar 2) gNil)) gNil)))) gNil))) gNil)) (tName 3))
    (sSeq (sFor (gRange1 (gCons (gP2 pAdd (gC (.dat (.int 2))) (gCall 2 m__law_draw (gCons (gVar 0) (gCons (gC (.dat (.int 10))) gNil)))) gNil)) (tName 4) (sSeq (sAsg (gP2 pIx (gP2 pAdd (gVar 2) (gPN pLst (gCons (gC (.dat (.str "none"))) gNil))) (gCall 2 m__law_draw (gCons (gVar 0) (gCons (gP2 pAdd (gPN pLen (gCons (gVar 2) gNil)) (gC (.dat (.int 1)))) gNil)))) (tName 5))
    (sSeq (sAsg (gP2 pIx (gVar 2) (gCall 2 m__law_draw (gCons (gVar 0) (gCons (gPN pLen (gCons (gVar 2) gNil)) gNil)))) (tName 6))
    (sIf (gP2 pNe (gVar 5) (gVar 6)) (sDrop (gMt false pAppend (gVar 3) (gCons (gPN pTup (gCons (gVar 5) (gCons (gVar 6) gNil))) gNil))) sPass))))
    (sSeq (sAsg (gSl (gP2 pIx (gPN pLst (gCons (gPN pLst (gCons (gC (.dat (.str "a"))) (gCons (gC (.dat (.str "b"))) (gCons (gC (.dat (.str "c"))) gNil)))) (gCons (gPN pLst (gCons (gC (.dat (.str "ab"))) (gCons (gC (.dat (.str "abc"))) (gCons (gC (.dat (.str "b"))) gNil)))) (gCons (gPN pLst (gCons (gC (.dat (.str "none"))) (gCons (gC (.dat (.str "move"))) (gCons (gC (.dat (.str "x"))) gNil)))) gNil)))) (gCall 2 m__law_draw (gCons (gVar 0) (gCons (gC (.dat (.int 3))) gNil)))) (gC (.dat .none)) (gPart (gP2 pAdd (gC (.dat (.int 1))) (gCall 2 m__law_draw (gCons (gVar 0) (gCons (gC (.dat (.int 3))) gNil)))))) (tName 7))
    (sSeq (sAsg (gPN pTupleOf (gCons (gPN pLst (gLcA [9] (gIter (gPN pSorted (gCons (gVar 7) gNil))) (tName 9) gYes (gPN pTup (gCons (gVar 9) (gCons (gP2 pIx (gPN pLst (gCons (gC (.dat (.int 1))) (gCons (gC (.dat (.int 5))) (gCons (gC (.dat (.int 1000000))) gNil)))) (gCall 2 m__law_draw (gCons (gVar 0) (gCons (gC (.dat (.int 3))) gNil)))) gNil))))) gNil)) (tName 8))
    (sRet (gPN pTup (gCons (gVar 8) (gCons (gPN pTupleOf (gCons (gP1 pSortSet (gVar 3)) gNil)) gNil))))))))))
noncomputable def m__law_office : GF := gFn 10 b__law_office
set_option maxHeartbeats 0 in
theorem ok__law_office {P : Program} {w : World} {K : PySem.W.Frag} {mg : Str → Option Value} {base : Heap} (T : Txt K mg) (D : Df K mg "_law_office" s__law_office ["_law_feed_here"]) (h__law_draw : OkD P w K mg base 1 "_law_draw" ["_law_feed_here", "_law_many"] m__law_draw) (h__law_words : OkD P w K mg base 2 "_law_words" ["_law_feed_here"] m__law_words) : OkD P w K mg base 3 "_law_office" ["_law_feed_here"] m__law_office :=
  okd D sc__law_office fun f cdv A outer s H E hg hr =>
    (s_cons (s_asg (r_callO h__law_words rfl tk_def hg (hr.mono (by decide)) rfl (r_cons (r_var rfl (Or.inr (Or.inl rfl)) (by decide) (by decide)) r_nil rfl) (by decide) rfl rfl) (g_name (i := 1) sc__law_office.nd rfl (Or.inl rfl) (Or.inl rfl)) rfl rfl rfl)
    (s_cons (s_asg (r_sl (r_var rfl (Or.inl rfl) (by decide) (by decide)) po_no (po_of (r_op o_add r_int (r_callO h__law_draw rfl tk_def hg (hr.mono (by decide)) rfl (r_cons (r_var rfl (Or.inr (Or.inl rfl)) (by decide) (by decide)) (r_cons r_int r_nil rfl) rfl) (by decide) rfl rfl)))) (g_name (i := 2) sc__law_office.nd rfl (Or.inl rfl) (Or.inl rfl)) rfl rfl rfl)
    (s_cons (s_asg (r_lstA (r_cons (r_tup (r_cons r_str (r_cons (r_ix x_ix (r_var rfl (Or.inl rfl) (by decide) (by decide)) (r_callO h__law_draw rfl tk_def hg (hr.mono (by decide)) rfl (r_cons (r_var rfl (Or.inr (Or.inl rfl)) (by decide) (by decide)) (r_cons (r_callB b_len rfl T.b_len (by rfl) (r_cons (r_var rfl (Or.inl rfl) (by decide) (by decide)) r_nil rfl) (by decide) (by decide) rfl rfl) r_nil rfl) rfl) (by decide) rfl rfl) (fun _ _ => rfl)) r_nil rfl) rfl)) r_nil rfl)) (g_name (i := 3) sc__law_office.nd rfl (Or.inl rfl) (Or.inl rfl)) rfl rfl rfl)
    (s_cons (s_for (passes_of rfl) rfl (i_range1 rfl T.b_range (r_cons (r_op o_add r_int (r_callO h__law_draw rfl tk_def hg (hr.mono (by decide)) rfl (r_cons (r_var rfl (Or.inr (Or.inl rfl)) (by decide) (by decide)) (r_cons r_int r_nil rfl) rfl) (by decide) rfl rfl)) r_nil rfl) rfl) (g_name (i := 4) sc__law_office.nd rfl (Or.inl rfl) (Or.inl rfl)) (s_cons (s_asg (r_ix x_ix (r_op o_add (r_var rfl (Or.inl rfl) (by decide) (by decide)) (r_lst (r_cons r_str r_nil rfl))) (r_callO h__law_draw rfl tk_def hg (hr.mono (by decide)) rfl (r_cons (r_var rfl (Or.inr (Or.inl rfl)) (by decide) (by decide)) (r_cons (r_op o_add (r_callB b_len rfl T.b_len (by rfl) (r_cons (r_var rfl (Or.inl rfl) (by decide) (by decide)) r_nil rfl) (by decide) (by decide) rfl rfl) r_int) r_nil rfl) rfl) (by decide) rfl rfl) (fun _ _ => rfl)) (g_name (i := 5) sc__law_office.nd rfl (Or.inl rfl) (Or.inl rfl)) rfl rfl rfl)
    (s_cons (s_asg (r_ix x_ix (r_var rfl (Or.inl rfl) (by decide) (by decide)) (r_callO h__law_draw rfl tk_def hg (hr.mono (by decide)) rfl (r_cons (r_var rfl (Or.inr (Or.inl rfl)) (by decide) (by decide)) (r_cons (r_callB b_len rfl T.b_len (by rfl) (r_cons (r_var rfl (Or.inl rfl) (by decide) (by decide)) r_nil rfl) (by decide) (by decide) rfl rfl) r_nil rfl) rfl) (by decide) rfl rfl) (fun _ _ => rfl)) (g_name (i := 6) sc__law_office.nd rfl (Or.inl rfl) (Or.inl rfl)) rfl rfl rfl)
    (s_one (s_if (t_cmp (o_ne (ru hr (by decide))) (r_var rfl (Or.inl rfl) (by decide) (by decide)) (r_var rfl (Or.inl rfl) (by decide) (by decide)) rfl) (s_one (s_expr (r_mt (k := false) PySem.F.plainAttrs_list PySem.F.slot_list_append PySem.F.type_list_append m_append (r_var rfl (Or.inl rfl) (by decide) (by decide)) (r_cons (r_tup (r_cons (r_var rfl (Or.inl rfl) (by decide) (by decide)) (r_cons (r_var rfl (Or.inl rfl) (by decide) (by decide)) r_nil rfl) rfl)) r_nil rfl) rfl (by rfl) rfl rfl rfl) rfl)) s_nil)))) (fun _ => rfl))
    (s_cons (s_asg (r_sl (r_ix x_ix (r_lst (r_cons (r_lst (r_cons r_str (r_cons r_str (r_cons r_str r_nil rfl) rfl) rfl)) (r_cons (r_lst (r_cons r_str (r_cons r_str (r_cons r_str r_nil rfl) rfl) rfl)) (r_cons (r_lst (r_cons r_str (r_cons r_str (r_cons r_str r_nil rfl) rfl) rfl)) r_nil rfl) rfl) rfl)) (r_callO h__law_draw rfl tk_def hg (hr.mono (by decide)) rfl (r_cons (r_var rfl (Or.inr (Or.inl rfl)) (by decide) (by decide)) (r_cons r_int r_nil rfl) rfl) (by decide) rfl rfl) (fun _ _ => rfl)) po_no (po_of (r_op o_add r_int (r_callO h__law_draw rfl tk_def hg (hr.mono (by decide)) rfl (r_cons (r_var rfl (Or.inr (Or.inl rfl)) (by decide) (by decide)) (r_cons r_int r_nil rfl) rfl) (by decide) rfl rfl)))) (g_name (i := 7) sc__law_office.nd rfl (Or.inl rfl) (Or.inl rfl)) rfl rfl rfl)
    (s_cons (s_asg (r_callTy b_tuple rfl T.b_tuple (by rfl) (r_cons (r_lc (own := [("_law_word", 9)]) rfl sc__law_office.nd (i_any (r_callB (b_sorted (ru hr (by decide))) rfl T.b_sorted (by rfl) (r_cons (r_var rfl (Or.inl rfl) (by decide) (by decide)) r_nil rfl) (by decide) (by decide) rfl rfl)) (blkOk_by (N := ["_law_feed_here", "_law_words_here", "_law_places", "_law_ways", "_law_k", "_law_one", "_law_other", "_law_series", "_law_worths", "_law_word"]) (sc := (defScope s__law_office)) (by decide +kernel)) (by decide) (fun _ _ _ _ _ => (g_name (i := 9) sc__law_office.nd rfl (Or.inl rfl) (Or.inr rfl))) (fun _ _ _ _ _ => pts0) (fun _ _ _ _ _ => (r_tup (r_cons (r_var rfl (Or.inl rfl) (by decide) (by decide)) (r_cons (r_ix x_ix (r_lst (r_cons r_int (r_cons r_int (r_cons r_int r_nil rfl) rfl) rfl)) (r_callO h__law_draw rfl takes_none5 hg (hr.mono (by decide)) rfl (r_cons (r_var rfl (Or.inr (Or.inl rfl)) (by decide) (by decide)) (r_cons r_int r_nil rfl) rfl) (by decide) rfl rfl) (fun _ _ => rfl)) r_nil rfl) rfl))) (fun _ => rfl)) r_nil rfl) (by decide) (by decide) rfl rfl) (g_name (i := 8) sc__law_office.nd rfl (Or.inl rfl) (Or.inl rfl)) rfl rfl rfl)
    (s_one (s_ret (r_tup (r_cons (r_var rfl (Or.inl rfl) (by decide) (by decide)) (r_cons (r_callTy b_tuple rfl T.b_tuple (by rfl) (r_cons (r_sortSet rfl (ru hr (by decide)) rfl T.b_sorted rfl T.b_set (r_var rfl (Or.inl rfl) (by decide) (by decide)) rfl) r_nil rfl) (by decide) (by decide) rfl rfl) r_nil rfl) rfl))))))))))
theorem sc__law_name : FnScope ["_law_feed_here", "_law_days", "_law_hand"] ["_law_feed_here"] (defScope s__law_name) := ⟨rfl, rfl, rfl, by decide +kernel, rfl, by decide +kernel, by decide +kernel⟩
noncomputable def b__law_name : GS :=
    (sSeq (sAsg (gPN pLst (gCons (gCall 2 m__law_draw (gCons (gVar 0) (gCons (gC (.dat (.int 6))) gNil))) (gCons (gP2 pAdd (gC (.dat (.int 8))) (gCall 2 m__law_draw (gCons (gVar 0) (gCons (gC (.dat (.int 5))) gNil)))) (gCons (gC (.dat (.int 99999))) gNil)))) (tName 1))
    (sSeq (sAsg (gP2 pIx (gPN pLst (gCons (gC (.dat (.str "a"))) (gCons (gC (.dat (.str "ab"))) (gCons (gC (.dat (.str "b"))) (gCons (gC (.dat (.str "bcdefghi"))) gNil))))) (gCall 2 m__law_draw (gCons (gVar 0) (gCons (gC (.dat (.int 4))) gNil)))) (tName 2))
    (sRet (gPN pTup (gCons (gP2 pIx (gVar 1) (gP2 pIx (gPN pLst (gCons (gC (.dat (.int 0))) (gCons (gC (.dat (.int 0))) (gCons (gC (.dat (.int 1))) (gCons (gC (.dat (.int 1))) (gCons (gC (.dat (.int 2))) gNil)))))) (gCall 2 m__law_draw (gCons (gVar 0) (gCons (gC (.dat (.int 5))) gNil))))) (gCons (gP2 pIx (gPN pLst (gCons (gC (.dat (.int 0))) (gCons (gC (.dat (.int 2))) (gCons (gC (.dat (.int 10))) (gCons (gC (.dat (.int 999))) gNil))))) (gCall 2 m__law_draw (gCons (gVar 0) (gCons (gC (.dat (.int 4))) gNil)))) (gCons (gVar 2) gNil)))))))
noncomputable def m__law_name : GF := gFn 3 b__law_name
set_option maxHeartbeats 0 in
theorem ok__law_name {P : Program} {w : World} {K : PySem.W.Frag} {mg : Str → Option Value} {base : Heap} (T : Txt K mg) (D : Df K mg "_law_name" s__law_name ["_law_feed_here"]) (h__law_draw : OkD P w K mg base 1 "_law_draw" ["_law_feed_here", "_law_many"] m__law_draw) : OkD P w K mg base 2 "_law_name" ["_law_feed_here"] m__law_name :=
  okd D sc__law_name fun f cdv A outer s H E hg hr =>
    (s_cons (s_asg (r_lst (r_cons (r_callO h__law_draw rfl tk_def hg (hr.mono (by decide)) rfl (r_cons (r_var rfl (Or.inl rfl) (by decide) (by decide)) (r_cons r_int r_nil rfl) rfl) (by decide) rfl rfl) (r_cons (r_op o_add r_int (r_callO h__law_draw rfl tk_def hg (hr.mono (by decide)) rfl (r_cons (r_var rfl (Or.inl rfl) (by decide) (by decide)) (r_cons r_int r_nil rfl) rfl) (by decide) rfl rfl)) (r_cons r_int r_nil rfl) rfl) rfl)) (g_name (i := 1) sc__law_name.nd rfl (Or.inl rfl) (Or.inl rfl)) rfl rfl rfl)
    (s_cons (s_asg (r_ix x_ix (r_lst (r_cons r_str (r_cons r_str (r_cons r_str (r_cons r_str r_nil rfl) rfl) rfl) rfl)) (r_callO h__law_draw rfl tk_def hg (hr.mono (by decide)) rfl (r_cons (r_var rfl (Or.inl rfl) (by decide) (by decide)) (r_cons r_int r_nil rfl) rfl) (by decide) rfl rfl) (fun _ _ => rfl)) (g_name (i := 2) sc__law_name.nd rfl (Or.inl rfl) (Or.inl rfl)) rfl rfl rfl)
    (s_one (s_ret (r_tup (r_cons (r_ix x_ix (r_var rfl (Or.inl rfl) (by decide) (by decide)) (r_ix x_ix (r_lst (r_cons r_int (r_cons r_int (r_cons r_int (r_cons r_int (r_cons r_int r_nil rfl) rfl) rfl) rfl) rfl)) (r_callO h__law_draw rfl tk_def hg (hr.mono (by decide)) rfl (r_cons (r_var rfl (Or.inl rfl) (by decide) (by decide)) (r_cons r_int r_nil rfl) rfl) (by decide) rfl rfl) (fun _ _ => rfl)) (fun _ _ => rfl)) (r_cons (r_ix x_ix (r_lst (r_cons r_int (r_cons r_int (r_cons r_int (r_cons r_int r_nil rfl) rfl) rfl) rfl)) (r_callO h__law_draw rfl tk_def hg (hr.mono (by decide)) rfl (r_cons (r_var rfl (Or.inl rfl) (by decide) (by decide)) (r_cons r_int r_nil rfl) rfl) (by decide) rfl rfl) (fun _ _ => rfl)) (r_cons (r_var rfl (Or.inl rfl) (by decide) (by decide)) r_nil rfl) rfl) rfl))))))
theorem sc__law_runs_of : FnScope ["_law_notes", "_law_found", "_law_series", "_law_number"] ["_law_notes"] (defScope s__law_runs_of) := ⟨rfl, rfl, rfl, by decide +kernel, rfl, by decide +kernel, by decide +kernel⟩
noncomputable def b__law_runs_of : GS :=
    (sSeq (sAsg (gPN pLstA gNil) (tName 1))
    (sSeq (sFor (gIter (gP1 pSortSet (gVar 0))) (tTupT 2 (tsCons (tName 2) (tsCons (tName 3) tsNil))) (sIf (gAnd (gP2 pGt (gPN pLen (gCons (gVar 1) gNil)) (gC (.dat (.int 0)))) (gAnd (gP2 pEq (gP2 pIx (gP2 pIx (gVar 1) (gP1 pNeg (gC (.dat (.int 1))))) (gC (.dat (.int 0)))) (gVar 2)) (gP2 pEq (gP2 pIx (gP2 pIx (gVar 1) (gP1 pNeg (gC (.dat (.int 1))))) (gC (.dat (.int 2)))) (gVar 3)))) (sSetI (gPN pTup (gCons (gVar 2) (gCons (gP2 pIx (gP2 pIx (gVar 1) (gP1 pNeg (gC (.dat (.int 1))))) (gC (.dat (.int 1)))) (gCons (gP2 pAdd (gVar 3) (gC (.dat (.int 1)))) gNil)))) (gVar 1) (gP1 pNeg (gC (.dat (.int 1))))) (sDrop (gMt false pAppend (gVar 1) (gCons (gPN pTup (gCons (gVar 2) (gCons (gVar 3) (gCons (gP2 pAdd (gVar 3) (gC (.dat (.int 1)))) gNil)))) gNil)))))
    (sRet (gPN pTupleOf (gCons (gVar 1) gNil)))))
noncomputable def m__law_runs_of : GF := gFn 4 b__law_runs_of
set_option maxHeartbeats 0 in
theorem ok__law_runs_of {P : Program} {w : World} {K : PySem.W.Frag} {mg : Str → Option Value} {base : Heap} (T : Txt K mg) (D : Df K mg "_law_runs_of" s__law_runs_of ["_law_notes"])  : OkD P w K mg base 1 "_law_runs_of" ["_law_notes"] m__law_runs_of :=
  okd D sc__law_runs_of fun f cdv A outer s H E hg hr =>
    (s_cons (s_asg (r_lstA r_nil) (g_name (i := 1) sc__law_runs_of.nd rfl (Or.inl rfl) (Or.inl rfl)) rfl rfl rfl)
    (s_cons (s_for (passes_of rfl) rfl (i_any (r_sortSet rfl (ru hr (by decide)) rfl T.b_sorted rfl T.b_set (r_var rfl (Or.inl rfl) (by decide) (by decide)) rfl)) (g_tup rfl (gs_cons (g_name (i := 2) sc__law_runs_of.nd rfl (Or.inl rfl) (Or.inl rfl)) (gs_cons (g_name (i := 3) sc__law_runs_of.nd rfl (Or.inl rfl) (Or.inl rfl)) gs_nil rfl) rfl) rfl rfl) (s_one (s_if (PW.pt (w_and (t_cmp (o_gt (ru hr (by decide))) (r_callB b_len rfl T.b_len (by rfl) (r_cons (r_var rfl (Or.inl rfl) (by decide) (by decide)) r_nil rfl) (by decide) (by decide) rfl rfl) r_int rfl) (w_and (t_cmp (o_eq (ru hr (by decide))) (r_ix x_ix (r_ix x_ix (r_var rfl (Or.inl rfl) (by decide) (by decide)) (r_un o_neg r_int) (fun _ _ => rfl)) r_int (fun _ _ => rfl)) (r_var rfl (Or.inl rfl) (by decide) (by decide)) rfl) (w_and1 (t_cmp (o_eq (ru hr (by decide))) (r_ix x_ix (r_ix x_ix (r_var rfl (Or.inl rfl) (by decide) (by decide)) (r_un o_neg r_int) (fun _ _ => rfl)) r_int (fun _ _ => rfl)) (r_var rfl (Or.inl rfl) (by decide) (by decide)) rfl))))) (s_one (s_seti (r_tup (r_cons (r_var rfl (Or.inl rfl) (by decide) (by decide)) (r_cons (r_ix x_ix (r_ix x_ix (r_var rfl (Or.inl rfl) (by decide) (by decide)) (r_un o_neg r_int) (fun _ _ => rfl)) r_int (fun _ _ => rfl)) (r_cons (r_op o_add (r_var rfl (Or.inl rfl) (by decide) (by decide)) r_int) r_nil rfl) rfl) rfl)) (r_var rfl (Or.inl rfl) (by decide) (by decide)) (r_un o_neg r_int) (fun _ => rfl) rfl rfl rfl)) (s_one (s_expr (r_mt (k := false) PySem.F.plainAttrs_list PySem.F.slot_list_append PySem.F.type_list_append m_append (r_var rfl (Or.inl rfl) (by decide) (by decide)) (r_cons (r_tup (r_cons (r_var rfl (Or.inl rfl) (by decide) (by decide)) (r_cons (r_var rfl (Or.inl rfl) (by decide) (by decide)) (r_cons (r_op o_add (r_var rfl (Or.inl rfl) (by decide) (by decide)) r_int) r_nil rfl) rfl) rfl)) r_nil rfl) rfl (by rfl) rfl rfl rfl) rfl)))) (fun _ => rfl))
    (s_one (s_ret (r_callTy b_tuple rfl T.b_tuple (by rfl) (r_cons (r_var rfl (Or.inl rfl) (by decide) (by decide)) r_nil rfl) (by decide) (by decide) rfl rfl)))))
theorem sc__law_runs : FnScope ["_law_feed_here", "_law_office_here", "_law_notes", "_law_k", "_law_series", "_law_first", "_law_j"] ["_law_feed_here", "_law_office_here"] (defScope s__law_runs) := ⟨rfl, rfl, rfl, by decide +kernel, rfl, by decide +kernel, by decide +kernel⟩
noncomputable def b__law_runs : GS :=
    (sSeq (sIf (gP2 pEq (gCall 2 m__law_draw (gCons (gVar 0) (gCons (gC (.dat (.int 12))) gNil))) (gC (.dat (.int 0)))) (sRet (gPN pTup (gCons (gPN pTup (gCons (gP2 pIx (gP2 pIx (gP2 pIx (gVar 1) (gC (.dat (.int 0)))) (gC (.dat (.int 0)))) (gC (.dat (.int 0)))) (gCons (gC (.dat (.int 0))) (gCons (gP2 pPow (gC (.dat (.int 10))) (gC (.dat (.int 9)))) gNil)))) gNil))) sPass)
    (sSeq (sAsg (gPN pLstA gNil) (tName 2))
    (sSeq (sFor (gRange1 (gCons (gP2 pAdd (gC (.dat (.int 1))) (gCall 2 m__law_draw (gCons (gVar 0) (gCons (gC (.dat (.int 3))) gNil)))) gNil)) (tName 3) (sSeq (sAsg (gP2 pIx (gP2 pIx (gP2 pIx (gVar 1) (gC (.dat (.int 0)))) (gCall 2 m__law_draw (gCons (gVar 0) (gCons (gPN pLen (gCons (gP2 pIx (gVar 1) (gC (.dat (.int 0)))) gNil)) gNil)))) (gC (.dat (.int 0)))) (tName 4))
    (sSeq (sAsg (gP2 pIx (gPN pLst (gCons (gCall 2 m__law_draw (gCons (gVar 0) (gCons (gC (.dat (.int 9))) gNil))) (gCons (gP2 pSub (gP2 pPow (gC (.dat (.int 10))) (gC (.dat (.int 9)))) (gC (.dat (.int 6)))) gNil))) (gPN pInt (gCons (gP2 pEq (gCall 2 m__law_draw (gCons (gVar 0) (gCons (gC (.dat (.int 9))) gNil))) (gC (.dat (.int 0)))) gNil))) (tName 5))
    (sDrop (gMt false pExtend (gVar 2) (gCons (gPN pLst (gLcA [6] (gRange1 (gCons (gP2 pAdd (gC (.dat (.int 1))) (gCall 2 m__law_draw (gCons (gVar 0) (gCons (gC (.dat (.int 6))) gNil)))) gNil)) (tName 6) gYes (gPN pTup (gCons (gVar 4) (gCons (gP2 pAdd (gVar 5) (gVar 6)) gNil))))) gNil))))))
    (sRet (gCall 1 m__law_runs_of (gCons (gVar 2) gNil))))))
noncomputable def m__law_runs : GF := gFn 7 b__law_runs
set_option maxHeartbeats 0 in
theorem ok__law_runs {P : Program} {w : World} {K : PySem.W.Frag} {mg : Str → Option Value} {base : Heap} (T : Txt K mg) (D : Df K mg "_law_runs" s__law_runs ["_law_feed_here", "_law_office_here"]) (h__law_draw : OkD P w K mg base 1 "_law_draw" ["_law_feed_here", "_law_many"] m__law_draw) (h__law_runs_of : OkD P w K mg base 1 "_law_runs_of" ["_law_notes"] m__law_runs_of) : OkD P w K mg base 2 "_law_runs" ["_law_feed_here", "_law_office_here"] m__law_runs :=
  okd D sc__law_runs fun f cdv A outer s H E hg hr =>
    (s_cons (s_if (t_cmp (o_eq (ru hr (by decide))) (r_callO h__law_draw rfl tk_def hg (hr.mono (by decide)) rfl (r_cons (r_var rfl (Or.inl rfl) (by decide) (by decide)) (r_cons r_int r_nil rfl) rfl) (by decide) rfl rfl) r_int rfl) (s_one (s_ret (r_tup (r_cons (r_tup (r_cons (r_ix x_ix (r_ix x_ix (r_ix x_ix (r_var rfl (Or.inl rfl) (by decide) (by decide)) r_int (fun _ _ => rfl)) r_int (fun _ _ => rfl)) r_int (fun _ _ => rfl)) (r_cons r_int (r_cons (r_op o_pow r_int r_int) r_nil rfl) rfl) rfl)) r_nil rfl)))) s_nil)
    (s_cons (s_asg (r_lstA r_nil) (g_name (i := 2) sc__law_runs.nd rfl (Or.inl rfl) (Or.inl rfl)) rfl rfl rfl)
    (s_cons (s_for (passes_of rfl) rfl (i_range1 rfl T.b_range (r_cons (r_op o_add r_int (r_callO h__law_draw rfl tk_def hg (hr.mono (by decide)) rfl (r_cons (r_var rfl (Or.inl rfl) (by decide) (by decide)) (r_cons r_int r_nil rfl) rfl) (by decide) rfl rfl)) r_nil rfl) rfl) (g_name (i := 3) sc__law_runs.nd rfl (Or.inl rfl) (Or.inl rfl)) (s_cons (s_asg (r_ix x_ix (r_ix x_ix (r_ix x_ix (r_var rfl (Or.inl rfl) (by decide) (by decide)) r_int (fun _ _ => rfl)) (r_callO h__law_draw rfl tk_def hg (hr.mono (by decide)) rfl (r_cons (r_var rfl (Or.inl rfl) (by decide) (by decide)) (r_cons (r_callB b_len rfl T.b_len (by rfl) (r_cons (r_ix x_ix (r_var rfl (Or.inl rfl) (by decide) (by decide)) r_int (fun _ _ => rfl)) r_nil rfl) (by decide) (by decide) rfl rfl) r_nil rfl) rfl) (by decide) rfl rfl) (fun _ _ => rfl)) r_int (fun _ _ => rfl)) (g_name (i := 4) sc__law_runs.nd rfl (Or.inr rfl) (Or.inl rfl)) rfl rfl rfl)
    (s_cons (s_asg (r_ix x_ix (r_lst (r_cons (r_callO h__law_draw rfl tk_def hg (hr.mono (by decide)) rfl (r_cons (r_var rfl (Or.inl rfl) (by decide) (by decide)) (r_cons r_int r_nil rfl) rfl) (by decide) rfl rfl) (r_cons (r_op o_sub (r_op o_pow r_int r_int) r_int) r_nil rfl) rfl)) (r_callTy b_int rfl T.b_int (by rfl) (r_cons (r_cmp (o_eq (ru hr (by decide))) (r_callO h__law_draw rfl tk_def hg (hr.mono (by decide)) rfl (r_cons (r_var rfl (Or.inl rfl) (by decide) (by decide)) (r_cons r_int r_nil rfl) rfl) (by decide) rfl rfl) r_int rfl) r_nil rfl) (by decide) (by decide) rfl rfl) (fun _ _ => rfl)) (g_name (i := 5) sc__law_runs.nd rfl (Or.inr rfl) (Or.inl rfl)) rfl rfl rfl)
    (s_one (s_expr (r_mt (k := false) PySem.F.plainAttrs_list PySem.F.slot_list_extend PySem.F.type_list_extend m_extend (r_var rfl (Or.inl rfl) (by decide) (by decide)) (r_cons (r_lc (own := [("_law_j", 6)]) rfl sc__law_runs.nd (i_range1 rfl T.b_range (r_cons (r_op o_add r_int (r_callO h__law_draw rfl tk_def hg (hr.mono (by decide)) rfl (r_cons (r_var rfl (Or.inl rfl) (by decide) (by decide)) (r_cons r_int r_nil rfl) rfl) (by decide) rfl rfl)) r_nil rfl) rfl) (blkOk_by (N := ["_law_feed_here", "_law_office_here", "_law_notes", "_law_k", "_law_series", "_law_first", "_law_j"]) (sc := (defScope s__law_runs)) (by decide +kernel)) (by decide) (fun _ _ _ _ _ => (g_name (i := 6) sc__law_runs.nd rfl (Or.inl rfl) (Or.inr rfl))) (fun _ _ _ _ _ => pts0) (fun _ _ _ _ _ => (r_tup (r_cons (r_var rfl (Or.inr (Or.inl rfl)) (by decide) (by decide)) (r_cons (r_op o_add (r_var rfl (Or.inr (Or.inl rfl)) (by decide) (by decide)) (r_var rfl (Or.inl rfl) (by decide) (by decide))) r_nil rfl) rfl))) (fun _ => rfl)) r_nil rfl) rfl (by rfl) rfl rfl rfl) rfl)))) (fun _ => rfl))
    (s_one (s_ret (r_callO h__law_runs_of rfl tk_def hg (hr.mono (by decide)) rfl (r_cons (r_var rfl (Or.inl rfl) (by decide) (by decide)) r_nil rfl) (by decide) rfl rfl))))))
theorem sc__law_deed : FnScope ["_law_feed_here", "_law_office_here", "_law_kind", "_law_names", "_law_bags", "_law_one", "_law_other", "_law_some"] ["_law_feed_here", "_law_office_here", "_law_kind", "_law_names", "_law_bags"] (defScope s__law_deed) := ⟨rfl, rfl, rfl, by decide +kernel, rfl, by decide +kernel, by decide +kernel⟩
noncomputable def b__law_deed : GS :=
    (sSeq (sAsg (gP2 pIx (gP2 pIx (gVar 1) (gC (.dat (.int 1)))) (gCall 2 m__law_draw (gCons (gVar 0) (gCons (gPN pLen (gCons (gP2 pIx (gVar 1) (gC (.dat (.int 1)))) gNil)) gNil)))) (tTupT 2 (tsCons (tName 5) (tsCons (tName 6) tsNil))))
    (sSeq (sIf (gOr (gP2 pLt (gVar 2) (gC (.dat (.int 4)))) (gAnd (gP2 pLt (gVar 2) (gC (.dat (.int 6)))) (gP2 pEq (gVar 5) (gC (.dat (.str "none")))))) (sRet (gPN pTup (gCons (gC (.dat (.str "move"))) (gCons (gVar 5) (gCons (gVar 6) (gCons (gCall 2 m__law_runs (gCons (gVar 0) (gCons (gVar 1) gNil))) gNil)))))) sPass)
    (sSeq (sIf (gP2 pLt (gVar 2) (gC (.dat (.int 6)))) (sRet (gPN pTup (gCons (gC (.dat (.str "bag"))) (gCons (gVar 5) (gCons (gVar 6) (gCons (gP2 pIx (gPN pLst (gCons (gP2 pAdd (gC (.dat (.int 1))) (gCall 2 m__law_draw (gCons (gVar 0) (gCons (gC (.dat (.int 8))) gNil)))) (gCons (gP2 pPow (gC (.dat (.int 10))) (gC (.dat (.int 9)))) gNil))) (gPN pInt (gCons (gP2 pEq (gCall 2 m__law_draw (gCons (gVar 0) (gCons (gC (.dat (.int 9))) gNil))) (gC (.dat (.int 0)))) gNil))) gNil)))))) sPass)
    (sSeq (sIf (gP2 pLt (gVar 2) (gC (.dat (.int 8)))) (sSeq (sAsg (gIf (gAnd (gP2 pGt (gPN pLen (gCons (gVar 4) gNil)) (gC (.dat (.int 0)))) (gP2 pGt (gCall 2 m__law_draw (gCons (gVar 0) (gCons (gC (.dat (.int 5))) gNil))) (gC (.dat (.int 0))))) (gVar 4) (gVar 3)) (tName 7))
    (sRet (gPN pTup (gCons (gC (.dat (.str "read"))) (gCons (gP2 pIx (gVar 7) (gCall 2 m__law_draw (gCons (gVar 0) (gCons (gPN pLen (gCons (gVar 7) gNil)) gNil)))) (gCons (gCall 2 m__law_runs (gCons (gVar 0) (gCons (gVar 1) gNil))) gNil)))))) sPass)
    (sSeq (sIf (gP2 pLt (gVar 2) (gC (.dat (.int 11)))) (sRet (gPN pTup (gCons (gC (.dat (.str "count"))) (gCons (gVar 6) (gCons (gP2 pIx (gPN pLst (gCons (gCall 2 m__law_draw (gCons (gVar 0) (gCons (gC (.dat (.int 30))) gNil))) (gCons (gP2 pPow (gC (.dat (.int 10))) (gC (.dat (.int 12)))) gNil))) (gPN pInt (gCons (gP2 pEq (gCall 2 m__law_draw (gCons (gVar 0) (gCons (gC (.dat (.int 9))) gNil))) (gC (.dat (.int 0)))) gNil))) gNil))))) sPass)
    (sRet (gPN pTup (gCons (gC (.dat (.str "void"))) (gCons (gP2 pIx (gVar 3) (gCall 2 m__law_draw (gCons (gVar 0) (gCons (gPN pLen (gCons (gVar 3) gNil)) gNil)))) gNil)))))))))
noncomputable def m__law_deed : GF := gFn 8 b__law_deed
set_option maxHeartbeats 0 in
theorem ok__law_deed {P : Program} {w : World} {K : PySem.W.Frag} {mg : Str → Option Value} {base : Heap} (T : Txt K mg) (D : Df K mg "_law_deed" s__law_deed ["_law_feed_here", "_law_office_here", "_law_kind", "_law_names", "_law_bags"]) (h__law_draw : OkD P w K mg base 1 "_law_draw" ["_law_feed_here", "_law_many"] m__law_draw) (h__law_runs : OkD P w K mg base 2 "_law_runs" ["_law_feed_here", "_law_office_here"] m__law_runs) : OkD P w K mg base 3 "_law_deed" ["_law_feed_here", "_law_office_here", "_law_kind", "_law_names", "_law_bags"] m__law_deed :=
  okd D sc__law_deed fun f cdv A outer s H E hg hr =>
    (s_cons (s_asg (r_ix x_ix (r_ix x_ix (r_var rfl (Or.inl rfl) (by decide) (by decide)) r_int (fun _ _ => rfl)) (r_callO h__law_draw rfl tk_def hg (hr.mono (by decide)) rfl (r_cons (r_var rfl (Or.inl rfl) (by decide) (by decide)) (r_cons (r_callB b_len rfl T.b_len (by rfl) (r_cons (r_ix x_ix (r_var rfl (Or.inl rfl) (by decide) (by decide)) r_int (fun _ _ => rfl)) r_nil rfl) (by decide) (by decide) rfl rfl) r_nil rfl) rfl) (by decide) rfl rfl) (fun _ _ => rfl)) (g_tup rfl (gs_cons (g_name (i := 5) sc__law_deed.nd rfl (Or.inl rfl) (Or.inl rfl)) (gs_cons (g_name (i := 6) sc__law_deed.nd rfl (Or.inl rfl) (Or.inl rfl)) gs_nil rfl) rfl) rfl rfl) rfl rfl rfl)
    (s_cons (s_if (PW.pt (w_or (t_cmp (o_lt (ru hr (by decide))) (r_var rfl (Or.inl rfl) (by decide) (by decide)) r_int rfl) (w_or1 (PW.pt (w_and (t_cmp (o_lt (ru hr (by decide))) (r_var rfl (Or.inl rfl) (by decide) (by decide)) r_int rfl) (w_and1 (t_cmp (o_eq (ru hr (by decide))) (r_var rfl (Or.inl rfl) (by decide) (by decide)) r_str rfl))))))) (s_one (s_ret (r_tup (r_cons r_str (r_cons (r_var rfl (Or.inl rfl) (by decide) (by decide)) (r_cons (r_var rfl (Or.inl rfl) (by decide) (by decide)) (r_cons (r_callO h__law_runs rfl tk_def hg (hr.mono (by decide)) rfl (r_cons (r_var rfl (Or.inl rfl) (by decide) (by decide)) (r_cons (r_var rfl (Or.inl rfl) (by decide) (by decide)) r_nil rfl) rfl) (by decide) rfl rfl) r_nil rfl) rfl) rfl) rfl)))) s_nil)
    (s_cons (s_if (t_cmp (o_lt (ru hr (by decide))) (r_var rfl (Or.inl rfl) (by decide) (by decide)) r_int rfl) (s_one (s_ret (r_tup (r_cons r_str (r_cons (r_var rfl (Or.inl rfl) (by decide) (by decide)) (r_cons (r_var rfl (Or.inl rfl) (by decide) (by decide)) (r_cons (r_ix x_ix (r_lst (r_cons (r_op o_add r_int (r_callO h__law_draw rfl tk_def hg (hr.mono (by decide)) rfl (r_cons (r_var rfl (Or.inl rfl) (by decide) (by decide)) (r_cons r_int r_nil rfl) rfl) (by decide) rfl rfl)) (r_cons (r_op o_pow r_int r_int) r_nil rfl) rfl)) (r_callTy b_int rfl T.b_int (by rfl) (r_cons (r_cmp (o_eq (ru hr (by decide))) (r_callO h__law_draw rfl tk_def hg (hr.mono (by decide)) rfl (r_cons (r_var rfl (Or.inl rfl) (by decide) (by decide)) (r_cons r_int r_nil rfl) rfl) (by decide) rfl rfl) r_int rfl) r_nil rfl) (by decide) (by decide) rfl rfl) (fun _ _ => rfl)) r_nil rfl) rfl) rfl) rfl)))) s_nil)
    (s_cons (s_if (t_cmp (o_lt (ru hr (by decide))) (r_var rfl (Or.inl rfl) (by decide) (by decide)) r_int rfl) (s_cons (s_asg (r_ifx (PW.pt (w_and (t_cmp (o_gt (ru hr (by decide))) (r_callB b_len rfl T.b_len (by rfl) (r_cons (r_var rfl (Or.inl rfl) (by decide) (by decide)) r_nil rfl) (by decide) (by decide) rfl rfl) r_int rfl) (w_and1 (t_cmp (o_gt (ru hr (by decide))) (r_callO h__law_draw rfl tk_def hg (hr.mono (by decide)) rfl (r_cons (r_var rfl (Or.inl rfl) (by decide) (by decide)) (r_cons r_int r_nil rfl) rfl) (by decide) rfl rfl) r_int rfl)))) (r_var rfl (Or.inl rfl) (by decide) (by decide)) (r_var rfl (Or.inl rfl) (by decide) (by decide))) (g_name (i := 7) sc__law_deed.nd rfl (Or.inl rfl) (Or.inl rfl)) rfl rfl rfl)
    (s_one (s_ret (r_tup (r_cons r_str (r_cons (r_ix x_ix (r_var rfl (Or.inl rfl) (by decide) (by decide)) (r_callO h__law_draw rfl tk_def hg (hr.mono (by decide)) rfl (r_cons (r_var rfl (Or.inl rfl) (by decide) (by decide)) (r_cons (r_callB b_len rfl T.b_len (by rfl) (r_cons (r_var rfl (Or.inl rfl) (by decide) (by decide)) r_nil rfl) (by decide) (by decide) rfl rfl) r_nil rfl) rfl) (by decide) rfl rfl) (fun _ _ => rfl)) (r_cons (r_callO h__law_runs rfl tk_def hg (hr.mono (by decide)) rfl (r_cons (r_var rfl (Or.inl rfl) (by decide) (by decide)) (r_cons (r_var rfl (Or.inl rfl) (by decide) (by decide)) r_nil rfl) rfl) (by decide) rfl rfl) r_nil rfl) rfl) rfl))))) s_nil)
    (s_cons (s_if (t_cmp (o_lt (ru hr (by decide))) (r_var rfl (Or.inl rfl) (by decide) (by decide)) r_int rfl) (s_one (s_ret (r_tup (r_cons r_str (r_cons (r_var rfl (Or.inl rfl) (by decide) (by decide)) (r_cons (r_ix x_ix (r_lst (r_cons (r_callO h__law_draw rfl tk_def hg (hr.mono (by decide)) rfl (r_cons (r_var rfl (Or.inl rfl) (by decide) (by decide)) (r_cons r_int r_nil rfl) rfl) (by decide) rfl rfl) (r_cons (r_op o_pow r_int r_int) r_nil rfl) rfl)) (r_callTy b_int rfl T.b_int (by rfl) (r_cons (r_cmp (o_eq (ru hr (by decide))) (r_callO h__law_draw rfl tk_def hg (hr.mono (by decide)) rfl (r_cons (r_var rfl (Or.inl rfl) (by decide) (by decide)) (r_cons r_int r_nil rfl) rfl) (by decide) rfl rfl) r_int rfl) r_nil rfl) (by decide) (by decide) rfl rfl) (fun _ _ => rfl)) r_nil rfl) rfl) rfl)))) s_nil)
    (s_one (s_ret (r_tup (r_cons r_str (r_cons (r_ix x_ix (r_var rfl (Or.inl rfl) (by decide) (by decide)) (r_callO h__law_draw rfl tk_def hg (hr.mono (by decide)) rfl (r_cons (r_var rfl (Or.inl rfl) (by decide) (by decide)) (r_cons (r_callB b_len rfl T.b_len (by rfl) (r_cons (r_var rfl (Or.inl rfl) (by decide) (by decide)) r_nil rfl) (by decide) (by decide) rfl rfl) r_nil rfl) rfl) (by decide) rfl rfl) (fun _ _ => rfl)) r_nil rfl) rfl)))))))))
theorem sc__law_book : FnScope ["_law_feed_here", "_law_office_here", "_law_most", "_law_names", "_law_kinds", "_law_bags", "_law_k", "_law_name_here", "_law_kind"] ["_law_feed_here", "_law_office_here", "_law_most"] (defScope s__law_book) := ⟨rfl, rfl, rfl, by decide +kernel, rfl, by decide +kernel, by decide +kernel⟩
noncomputable def b__law_book : GS :=
    (sSeq (sAsg (gP1 pSortSet (gPN pLst (gLcA [6] (gRange1 (gCons (gVar 2) gNil)) (tName 6) gYes (gCall 1 m__law_name (gCons (gVar 0) gNil))))) (tName 3))
    (sSeq (sAsg (gPN pLst (gLcA [7] (gIter (gVar 3)) (tName 7) gYes (gCall 2 m__law_draw (gCons (gVar 0) (gCons (gC (.dat (.int 12))) gNil))))) (tName 4))
    (sSeq (sAsg (gPN pLst (gLcA [7, 8] (gZip (gCons (gVar 3) (gCons (gVar 4) gNil))) (tTupT 2 (tsCons (tName 7) (tsCons (tName 8) tsNil))) (gChain pLe pLt (gC (.dat (.int 4))) (gVar 8) (gC (.dat (.int 6)))) (gVar 7))) (tName 5))
    (sRet (gPN pTupleOf (gCons (gPN pLst (gLcA [7, 8] (gZip (gCons (gVar 3) (gCons (gVar 4) gNil))) (tTupT 2 (tsCons (tName 7) (tsCons (tName 8) tsNil))) gYes (gPN pTup (gCons (gVar 7) (gCons (gCall 5 m__law_deed (gCons (gVar 0) (gCons (gVar 1) (gCons (gVar 8) (gCons (gVar 3) (gCons (gVar 5) gNil)))))) gNil))))) gNil))))))
noncomputable def m__law_book : GF := gFn 9 b__law_book
set_option maxHeartbeats 0 in
theorem ok__law_book {P : Program} {w : World} {K : PySem.W.Frag} {mg : Str → Option Value} {base : Heap} (T : Txt K mg) (D : Df K mg "_law_book" s__law_book ["_law_feed_here", "_law_office_here", "_law_most"]) (h__law_draw : OkD P w K mg base 1 "_law_draw" ["_law_feed_here", "_law_many"] m__law_draw) (h__law_name : OkD P w K mg base 2 "_law_name" ["_law_feed_here"] m__law_name) (h__law_deed : OkD P w K mg base 3 "_law_deed" ["_law_feed_here", "_law_office_here", "_law_kind", "_law_names", "_law_bags"] m__law_deed) : OkD P w K mg base 4 "_law_book" ["_law_feed_here", "_law_office_here", "_law_most"] m__law_book :=
  okd D sc__law_book fun f cdv A outer s H E hg hr =>
    (s_cons (s_asg (r_sortSet rfl (ru hr (by decide)) rfl T.b_sorted rfl T.b_set (r_lc (own := [("_law_k", 6)]) rfl sc__law_book.nd (i_range1 rfl T.b_range (r_cons (r_var rfl (Or.inl rfl) (by decide) (by decide)) r_nil rfl) rfl) (blkOk_by (N := ["_law_feed_here", "_law_office_here", "_law_most", "_law_names", "_law_kinds", "_law_bags", "_law_k", "_law_name_here", "_law_kind"]) (sc := (defScope s__law_book)) (by decide +kernel)) (by decide) (fun _ _ _ _ _ => (g_name (i := 6) sc__law_book.nd rfl (Or.inl rfl) (Or.inr rfl))) (fun _ _ _ _ _ => pts0) (fun _ _ _ _ _ => (r_callO h__law_name rfl takes_none5 hg (hr.mono (by decide)) rfl (r_cons (r_var rfl (Or.inr (Or.inl rfl)) (by decide) (by decide)) r_nil rfl) (by decide) rfl rfl)) (fun _ => rfl)) rfl) (g_name (i := 3) sc__law_book.nd rfl (Or.inr rfl) (Or.inl rfl)) rfl rfl rfl)
    (s_cons (s_setLc (i := 4) (own := [("_law_name_here", 7)]) rfl sc__law_book.nd rfl rfl (sw_true rfl rfl rfl (by decide +kernel)) (i_any (r_var rfl (Or.inr (Or.inl rfl)) (by decide) (by decide))) (blkOk_by (N := ["_law_feed_here", "_law_office_here", "_law_most", "_law_names", "_law_kinds", "_law_bags", "_law_k", "_law_name_here", "_law_kind"]) (sc := (defScope s__law_book)) (by decide +kernel)) (by decide) (fun _ _ _ _ _ => (g_name (i := 7) sc__law_book.nd rfl (Or.inl rfl) (Or.inr rfl))) (fun _ _ _ _ _ => pts0) (fun _ _ _ _ _ => (r_callO h__law_draw rfl takes_none5 hg (hr.mono (by decide)) rfl (r_cons (r_var rfl (Or.inr (Or.inl rfl)) (by decide) (by decide)) (r_cons r_int r_nil rfl) rfl) (by decide) rfl rfl)) (fun _ => rfl))
    (s_cons (s_asg (r_lc (own := [("_law_name_here", 7), ("_law_kind", 8)]) rfl sc__law_book.nd (i_zip rfl T.b_zip (r_cons (r_var rfl (Or.inr (Or.inl rfl)) (by decide) (by decide)) (r_cons (r_var rfl (Or.inl rfl) (by decide) (by decide)) r_nil rfl) rfl) rfl rfl) (blkOk_by (N := ["_law_feed_here", "_law_office_here", "_law_most", "_law_names", "_law_kinds", "_law_bags", "_law_k", "_law_name_here", "_law_kind"]) (sc := (defScope s__law_book)) (by decide +kernel)) (by decide) (fun _ _ _ _ _ => (g_tup rfl (gs_cons (g_name (i := 7) sc__law_book.nd rfl (Or.inl rfl) (Or.inr rfl)) (gs_cons (g_name (i := 8) sc__law_book.nd rfl (Or.inl rfl) (Or.inr rfl)) gs_nil rfl) rfl) rfl rfl)) (fun _ _ _ _ _ => (pts1 (t_chain (o_le (ru hr (by decide))) (o_lt (ru hr (by decide))) r_int (r_var rfl (Or.inl rfl) (by decide) (by decide)) r_int rfl))) (fun _ _ _ _ _ => (r_var rfl (Or.inl rfl) (by decide) (by decide))) (fun _ => rfl)) (g_name (i := 5) sc__law_book.nd rfl (Or.inr rfl) (Or.inl rfl)) rfl rfl rfl)
    (s_one (s_ret (r_callTy b_tuple rfl T.b_tuple (by rfl) (r_cons (r_lc (own := [("_law_name_here", 7), ("_law_kind", 8)]) rfl sc__law_book.nd (i_zip rfl T.b_zip (r_cons (r_var rfl (Or.inr (Or.inl rfl)) (by decide) (by decide)) (r_cons (r_var rfl (Or.inl rfl) (by decide) (by decide)) r_nil rfl) rfl) rfl rfl) (blkOk_by (N := ["_law_feed_here", "_law_office_here", "_law_most", "_law_names", "_law_kinds", "_law_bags", "_law_k", "_law_name_here", "_law_kind"]) (sc := (defScope s__law_book)) (by decide +kernel)) (by decide) (fun _ _ _ _ _ => (g_tup rfl (gs_cons (g_name (i := 7) sc__law_book.nd rfl (Or.inl rfl) (Or.inr rfl)) (gs_cons (g_name (i := 8) sc__law_book.nd rfl (Or.inl rfl) (Or.inr rfl)) gs_nil rfl) rfl) rfl rfl)) (fun _ _ _ _ _ => pts0) (fun _ _ _ _ _ => (r_tup (r_cons (r_var rfl (Or.inl rfl) (by decide) (by decide)) (r_cons (r_callO h__law_deed rfl takes_none5 hg (hr.mono (by decide)) rfl (r_cons (r_var rfl (Or.inr (Or.inl rfl)) (by decide) (by decide)) (r_cons (r_var rfl (Or.inr (Or.inl rfl)) (by decide) (by decide)) (r_cons (r_var rfl (Or.inl rfl) (by decide) (by decide)) (r_cons (r_var rfl (Or.inr (Or.inl rfl)) (by decide) (by decide)) (r_cons (r_var rfl (Or.inr (Or.inl rfl)) (by decide) (by decide)) r_nil rfl) rfl) rfl) rfl) rfl) (by decide) rfl rfl) r_nil rfl) rfl))) (fun _ => rfl)) r_nil rfl) (by decide) (by decide) rfl rfl))))))
theorem sc__law_counted : FnScope ["_law_book_here", "_law_gone", "_law_bags", "_law_found", "_law_name_here", "_law_deed_here"] ["_law_book_here"] (defScope s__law_counted) := ⟨rfl, rfl, rfl, by decide +kernel, rfl, by decide +kernel, by decide +kernel⟩
noncomputable def b__law_counted : GS :=
    (sSeq (sAsg (gPN pLst (gLcA [4, 5] (gIter (gVar 0)) (tTupT 2 (tsCons (tName 4) (tsCons (tName 5) tsNil))) (gP2 pEq (gP2 pIx (gVar 5) (gC (.dat (.int 0)))) (gC (.dat (.str "void")))) (gP2 pIx (gVar 5) (gC (.dat (.int 1)))))) (tName 1))
    (sSeq (sAsg (gPN pLst (gLcA [4, 5] (gIter (gVar 0)) (tTupT 2 (tsCons (tName 4) (tsCons (tName 5) tsNil))) (gAnd (gP2 pEq (gP2 pIx (gVar 5) (gC (.dat (.int 0)))) (gC (.dat (.str "bag")))) (gP2 pNotIn (gVar 4) (gVar 1))) (gVar 4))) (tName 2))
    (sSeq (sAsg (gPN pLstA gNil) (tName 3))
    (sSeq (sFor (gIter (gVar 0)) (tTupT 2 (tsCons (tName 4) (tsCons (tName 5) tsNil))) (sIf (gAnd (gP2 pNe (gP2 pIx (gVar 5) (gC (.dat (.int 0)))) (gC (.dat (.str "void")))) (gAnd (gP2 pNotIn (gVar 4) (gVar 1)) (gOr (gP2 pNe (gP2 pIx (gVar 5) (gC (.dat (.int 0)))) (gC (.dat (.str "read")))) (gP2 pIn (gP2 pIx (gVar 5) (gC (.dat (.int 1)))) (gVar 2))))) (sDrop (gMt false pAppend (gVar 3) (gCons (gPN pTup (gCons (gVar 4) (gCons (gVar 5) gNil))) gNil))) sPass))
    (sRet (gShut (gVar 3)))))))
noncomputable def m__law_counted : GF := gFn 6 b__law_counted
set_option maxHeartbeats 0 in
theorem ok__law_counted {P : Program} {w : World} {K : PySem.W.Frag} {mg : Str → Option Value} {base : Heap} (T : Txt K mg) (D : Df K mg "_law_counted" s__law_counted ["_law_book_here"])  : OkD P w K mg base 1 "_law_counted" ["_law_book_here"] m__law_counted :=
  okd D sc__law_counted fun f cdv A outer s H E hg hr =>
    (s_cons (s_asg (r_lc (own := [("_law_name_here", 4), ("_law_deed_here", 5)]) rfl sc__law_counted.nd (i_any (r_var rfl (Or.inl rfl) (by decide) (by decide))) (blkOk_by (N := ["_law_book_here", "_law_gone", "_law_bags", "_law_found", "_law_name_here", "_law_deed_here"]) (sc := (defScope s__law_counted)) (by decide +kernel)) (by decide) (fun _ _ _ _ _ => (g_tup rfl (gs_cons (g_name (i := 4) sc__law_counted.nd rfl (Or.inl rfl) (Or.inr rfl)) (gs_cons (g_name (i := 5) sc__law_counted.nd rfl (Or.inl rfl) (Or.inr rfl)) gs_nil rfl) rfl) rfl rfl)) (fun _ _ _ _ _ => (pts1 (t_cmp (o_eq (ru hr (by decide))) (r_ix x_ix (r_var rfl (Or.inl rfl) (by decide) (by decide)) r_int (fun _ _ => rfl)) r_str rfl))) (fun _ _ _ _ _ => (r_ix x_ix (r_var rfl (Or.inl rfl) (by decide) (by decide)) r_int (fun _ _ => rfl))) (fun _ => rfl)) (g_name (i := 1) sc__law_counted.nd rfl (Or.inr rfl) (Or.inl rfl)) rfl rfl rfl)
    (s_cons (s_setLc (i := 2) (own := [("_law_name_here", 4), ("_law_deed_here", 5)]) rfl sc__law_counted.nd rfl rfl (sw_true rfl rfl rfl (by decide +kernel)) (i_any (r_var rfl (Or.inl rfl) (by decide) (by decide))) (blkOk_by (N := ["_law_book_here", "_law_gone", "_law_bags", "_law_found", "_law_name_here", "_law_deed_here"]) (sc := (defScope s__law_counted)) (by decide +kernel)) (by decide) (fun _ _ _ _ _ => (g_tup rfl (gs_cons (g_name (i := 4) sc__law_counted.nd rfl (Or.inl rfl) (Or.inr rfl)) (gs_cons (g_name (i := 5) sc__law_counted.nd rfl (Or.inl rfl) (Or.inr rfl)) gs_nil rfl) rfl) rfl rfl)) (fun _ _ _ _ _ => (pts1 (PW.pt (w_and (t_cmp (o_eq (ru hr (by decide))) (r_ix x_ix (r_var rfl (Or.inl rfl) (by decide) (by decide)) r_int (fun _ _ => rfl)) r_str rfl) (w_and1 (t_cmp (o_notIn (ru hr (by decide))) (r_var rfl (Or.inl rfl) (by decide) (by decide)) (r_var rfl (Or.inr (Or.inl rfl)) (by decide) (by decide)) rfl)))))) (fun _ _ _ _ _ => (r_var rfl (Or.inl rfl) (by decide) (by decide))) (fun _ => rfl))
    (s_cons (s_asg (r_lstA r_nil) (g_name (i := 3) sc__law_counted.nd rfl (Or.inl rfl) (Or.inl rfl)) rfl rfl rfl)
    (s_cons (s_for (passes_of rfl) rfl (i_any (r_var rfl (Or.inl rfl) (by decide) (by decide))) (g_tup rfl (gs_cons (g_name (i := 4) sc__law_counted.nd rfl (Or.inl rfl) (Or.inl rfl)) (gs_cons (g_name (i := 5) sc__law_counted.nd rfl (Or.inl rfl) (Or.inl rfl)) gs_nil rfl) rfl) rfl rfl) (s_one (s_if (PW.pt (w_and (t_cmp (o_ne (ru hr (by decide))) (r_ix x_ix (r_var rfl (Or.inl rfl) (by decide) (by decide)) r_int (fun _ _ => rfl)) r_str rfl) (w_and (t_cmp (o_notIn (ru hr (by decide))) (r_var rfl (Or.inl rfl) (by decide) (by decide)) (r_var rfl (Or.inr (Or.inl rfl)) (by decide) (by decide)) rfl) (w_and1 (PW.pt (w_or (t_cmp (o_ne (ru hr (by decide))) (r_ix x_ix (r_var rfl (Or.inl rfl) (by decide) (by decide)) r_int (fun _ _ => rfl)) r_str rfl) (w_or1 (t_cmp (o_in (ru hr (by decide))) (r_ix x_ix (r_var rfl (Or.inl rfl) (by decide) (by decide)) r_int (fun _ _ => rfl)) (r_var rfl (Or.inl rfl) (by decide) (by decide)) rfl)))))))) (s_one (s_expr (r_mt (k := false) PySem.F.plainAttrs_list PySem.F.slot_list_append PySem.F.type_list_append m_append (r_var rfl (Or.inl rfl) (by decide) (by decide)) (r_cons (r_tup (r_cons (r_var rfl (Or.inl rfl) (by decide) (by decide)) (r_cons (r_var rfl (Or.inl rfl) (by decide) (by decide)) r_nil rfl) rfl)) r_nil rfl) rfl (by rfl) rfl rfl rfl) rfl)) s_nil)) (fun _ => rfl))
    (s_one (s_ret (r_shut (r_var rfl (Or.inl rfl) (by decide) (by decide)))))))))
theorem sc__law_brings : FnScope ["_law_deed_here", "_law_place", "_law_many", "_law_series", "_law_first", "_law_end"] ["_law_deed_here", "_law_place"] (defScope s__law_brings) := ⟨rfl, rfl, rfl, by decide +kernel, rfl, by decide +kernel, by decide +kernel⟩
noncomputable def b__law_brings : GS :=
    (sSeq (sIf (gOr (gP2 pNotIn (gP2 pIx (gVar 0) (gC (.dat (.int 0)))) (gPN pTup (gCons (gC (.dat (.str "move"))) (gCons (gC (.dat (.str "bag"))) gNil)))) (gP2 pNotIn (gVar 1) (gPN pTup (gCons (gP2 pIx (gVar 0) (gC (.dat (.int 1)))) (gCons (gP2 pIx (gVar 0) (gC (.dat (.int 2)))) gNil))))) (sRet (gC (.dat (.int 0)))) sPass)
    (sSeq (sAsg (gP2 pIx (gVar 0) (gC (.dat (.int 3)))) (tName 2))
    (sSeq (sIf (gP2 pEq (gP2 pIx (gVar 0) (gC (.dat (.int 0)))) (gC (.dat (.str "move")))) (sAsg (gPN pSum (gCons (gPN pLst (gLcA [3, 4, 5] (gIter (gP2 pIx (gVar 0) (gC (.dat (.int 3))))) (tTupT 3 (tsCons (tName 3) (tsCons (tName 4) (tsCons (tName 5) tsNil)))) gYes (gP2 pSub (gVar 5) (gVar 4)))) gNil)) (tName 2)) sPass)
    (sRet (gIf (gP2 pEq (gP2 pIx (gVar 0) (gC (.dat (.int 2)))) (gVar 1)) (gVar 2) (gP1 pNeg (gVar 2)))))))
noncomputable def m__law_brings : GF := gFn 6 b__law_brings
set_option maxHeartbeats 0 in
theorem ok__law_brings {P : Program} {w : World} {K : PySem.W.Frag} {mg : Str → Option Value} {base : Heap} (T : Txt K mg) (D : Df K mg "_law_brings" s__law_brings ["_law_deed_here", "_law_place"])  : OkD P w K mg base 1 "_law_brings" ["_law_deed_here", "_law_place"] m__law_brings :=
  okd D sc__law_brings fun f cdv A outer s H E hg hr =>
    (s_cons (s_if (PW.pt (w_or (t_cmp (o_notIn (ru hr (by decide))) (r_ix x_ix (r_var rfl (Or.inl rfl) (by decide) (by decide)) r_int (fun _ _ => rfl)) (r_tup (r_cons r_str (r_cons r_str r_nil rfl) rfl)) rfl) (w_or1 (t_cmp (o_notIn (ru hr (by decide))) (r_var rfl (Or.inl rfl) (by decide) (by decide)) (r_tup (r_cons (r_ix x_ix (r_var rfl (Or.inl rfl) (by decide) (by decide)) r_int (fun _ _ => rfl)) (r_cons (r_ix x_ix (r_var rfl (Or.inl rfl) (by decide) (by decide)) r_int (fun _ _ => rfl)) r_nil rfl) rfl)) rfl)))) (s_one (s_ret r_int)) s_nil)
    (s_cons (s_asg (r_ix x_ix (r_var rfl (Or.inl rfl) (by decide) (by decide)) r_int (fun _ _ => rfl)) (g_name (i := 2) sc__law_brings.nd rfl (Or.inl rfl) (Or.inl rfl)) rfl rfl rfl)
    (s_cons (s_if (t_cmp (o_eq (ru hr (by decide))) (r_ix x_ix (r_var rfl (Or.inl rfl) (by decide) (by decide)) r_int (fun _ _ => rfl)) r_str rfl) (s_one (s_asg (r_callB (b_sum rfl) rfl T.b_sum (by rfl) (r_cons (r_lc (own := [("_law_series", 3), ("_law_first", 4), ("_law_end", 5)]) rfl sc__law_brings.nd (i_any (r_ix x_ix (r_var rfl (Or.inl rfl) (by decide) (by decide)) r_int (fun _ _ => rfl))) (blkOk_by (N := ["_law_deed_here", "_law_place", "_law_many", "_law_series", "_law_first", "_law_end"]) (sc := (defScope s__law_brings)) (by decide +kernel)) (by decide) (fun _ _ _ _ _ => (g_tup rfl (gs_cons (g_name (i := 3) sc__law_brings.nd rfl (Or.inl rfl) (Or.inr rfl)) (gs_cons (g_name (i := 4) sc__law_brings.nd rfl (Or.inl rfl) (Or.inr rfl)) (gs_cons (g_name (i := 5) sc__law_brings.nd rfl (Or.inl rfl) (Or.inr rfl)) gs_nil rfl) rfl) rfl) rfl rfl)) (fun _ _ _ _ _ => pts0) (fun _ _ _ _ _ => (r_op o_sub (r_var rfl (Or.inl rfl) (by decide) (by decide)) (r_var rfl (Or.inl rfl) (by decide) (by decide)))) (fun _ => rfl)) r_nil rfl) (by decide) (by decide) rfl rfl) (g_name (i := 2) sc__law_brings.nd rfl (Or.inl rfl) (Or.inl rfl)) rfl rfl rfl)) s_nil)
    (s_one (s_ret (r_ifx (t_cmp (o_eq (ru hr (by decide))) (r_ix x_ix (r_var rfl (Or.inl rfl) (by decide) (by decide)) r_int (fun _ _ => rfl)) (r_var rfl (Or.inl rfl) (by decide) (by decide)) rfl) (r_var rfl (Or.inl rfl) (by decide) (by decide)) (r_un o_neg (r_var rfl (Or.inl rfl) (by decide) (by decide)))))))))
theorem sc__law_due : FnScope ["_law_book_here", "_law_place", "_law_pages", "_law_found", "_law_at", "_law_name_here", "_law_deed_here", "_law_one"] ["_law_book_here", "_law_place"] (defScope s__law_due) := ⟨rfl, rfl, rfl, by decide +kernel, rfl, by decide +kernel, by decide +kernel⟩
noncomputable def b__law_due : GS :=
    (sSeq (sAsg (gCall 1 m__law_counted (gCons (gVar 0) gNil)) (tName 2))
    (sSeq (sAsg (gPN pLstA gNil) (tName 3))
    (sSeq (sFor (gRange1 (gCons (gPN pLen (gCons (gVar 2) gNil)) gNil)) (tName 4) (sSeq (sAsg (gP2 pIx (gVar 2) (gVar 4)) (tTupT 2 (tsCons (tName 5) (tsCons (tName 6) tsNil))))
    (sIf (gAnd (gP2 pEq (gP2 pIx (gVar 6) (gC (.dat (.int 0)))) (gC (.dat (.str "count")))) (gP2 pEq (gP2 pIx (gVar 6) (gC (.dat (.int 1)))) (gVar 1))) (sDrop (gMt false pAppend (gVar 3) (gCons (gPN pTup (gCons (gVar 5) (gCons (gP2 pSub (gP2 pIx (gVar 6) (gC (.dat (.int 2)))) (gPN pSum (gCons (gPN pLst (gLcA [7] (gIter (gSl (gVar 2) (gC (.dat .none)) (gPart (gVar 4)))) (tName 7) gYes (gCall 2 m__law_brings (gCons (gP2 pIx (gVar 7) (gC (.dat (.int 1)))) (gCons (gVar 1) gNil))))) gNil))) gNil))) gNil))) sPass)))
    (sRet (gShut (gVar 3))))))
noncomputable def m__law_due : GF := gFn 8 b__law_due
set_option maxHeartbeats 0 in
theorem ok__law_due {P : Program} {w : World} {K : PySem.W.Frag} {mg : Str → Option Value} {base : Heap} (T : Txt K mg) (D : Df K mg "_law_due" s__law_due ["_law_book_here", "_law_place"]) (h__law_counted : OkD P w K mg base 1 "_law_counted" ["_law_book_here"] m__law_counted) (h__law_brings : OkD P w K mg base 1 "_law_brings" ["_law_deed_here", "_law_place"] m__law_brings) : OkD P w K mg base 2 "_law_due" ["_law_book_here", "_law_place"] m__law_due :=
  okd D sc__law_due fun f cdv A outer s H E hg hr =>
    (s_cons (s_asg (r_callO h__law_counted rfl tk_def hg (hr.mono (by decide)) rfl (r_cons (r_var rfl (Or.inl rfl) (by decide) (by decide)) r_nil rfl) (by decide) rfl rfl) (g_name (i := 2) sc__law_due.nd rfl (Or.inl rfl) (Or.inl rfl)) rfl rfl rfl)
    (s_cons (s_asg (r_lstA r_nil) (g_name (i := 3) sc__law_due.nd rfl (Or.inl rfl) (Or.inl rfl)) rfl rfl rfl)
    (s_cons (s_for (passes_of rfl) rfl (i_range1 rfl T.b_range (r_cons (r_callB b_len rfl T.b_len (by rfl) (r_cons (r_var rfl (Or.inl rfl) (by decide) (by decide)) r_nil rfl) (by decide) (by decide) rfl rfl) r_nil rfl) rfl) (g_name (i := 4) sc__law_due.nd rfl (Or.inl rfl) (Or.inl rfl)) (s_cons (s_asg (r_ix x_ix (r_var rfl (Or.inl rfl) (by decide) (by decide)) (r_var rfl (Or.inl rfl) (by decide) (by decide)) (fun _ _ => rfl)) (g_tup rfl (gs_cons (g_name (i := 5) sc__law_due.nd rfl (Or.inl rfl) (Or.inl rfl)) (gs_cons (g_name (i := 6) sc__law_due.nd rfl (Or.inl rfl) (Or.inl rfl)) gs_nil rfl) rfl) rfl rfl) rfl rfl rfl)
    (s_one (s_if (PW.pt (w_and (t_cmp (o_eq (ru hr (by decide))) (r_ix x_ix (r_var rfl (Or.inl rfl) (by decide) (by decide)) r_int (fun _ _ => rfl)) r_str rfl) (w_and1 (t_cmp (o_eq (ru hr (by decide))) (r_ix x_ix (r_var rfl (Or.inl rfl) (by decide) (by decide)) r_int (fun _ _ => rfl)) (r_var rfl (Or.inr (Or.inl rfl)) (by decide) (by decide)) rfl)))) (s_one (s_expr (r_mt (k := false) PySem.F.plainAttrs_list PySem.F.slot_list_append PySem.F.type_list_append m_append (r_var rfl (Or.inl rfl) (by decide) (by decide)) (r_cons (r_tup (r_cons (r_var rfl (Or.inl rfl) (by decide) (by decide)) (r_cons (r_op o_sub (r_ix x_ix (r_var rfl (Or.inl rfl) (by decide) (by decide)) r_int (fun _ _ => rfl)) (r_callB (b_sum rfl) rfl T.b_sum (by rfl) (r_cons (r_lc (own := [("_law_one", 7)]) rfl sc__law_due.nd (i_any (r_sl (r_var rfl (Or.inl rfl) (by decide) (by decide)) po_no (po_of (r_var rfl (Or.inl rfl) (by decide) (by decide))))) (blkOk_by (N := ["_law_book_here", "_law_place", "_law_pages", "_law_found", "_law_at", "_law_name_here", "_law_deed_here", "_law_one"]) (sc := (defScope s__law_due)) (by decide +kernel)) (by decide) (fun _ _ _ _ _ => (g_name (i := 7) sc__law_due.nd rfl (Or.inl rfl) (Or.inr rfl))) (fun _ _ _ _ _ => pts0) (fun _ _ _ _ _ => (r_callO h__law_brings rfl takes_none5 hg (hr.mono (by decide)) rfl (r_cons (r_ix x_ix (r_var rfl (Or.inl rfl) (by decide) (by decide)) r_int (fun _ _ => rfl)) (r_cons (r_var rfl (Or.inr (Or.inl rfl)) (by decide) (by decide)) r_nil rfl) rfl) (by decide) rfl rfl)) (fun _ => rfl)) r_nil rfl) (by decide) (by decide) rfl rfl)) r_nil rfl) rfl)) r_nil rfl) rfl (by rfl) rfl rfl rfl) rfl)) s_nil))) (fun _ => rfl))
    (s_one (s_ret (r_shut (r_var rfl (Or.inl rfl) (by decide) (by decide))))))))
theorem sc_law : FnScope ["_law_script", "_law_feed_here", "_law_most", "_law_office_here", "_law_book_here", "_law_at", "_law_fewer", "_law_places", "_law_some", "_law_kept", "_law_place", "_law_told", "_law_road"] ["_law_script"] (defScope s_law) := ⟨rfl, rfl, rfl, by decide +kernel, rfl, by decide +kernel, by decide +kernel⟩
noncomputable def b_law : GS :=
    (sSeq (sAsg (gCall 1 m__law_feed (gCons (gVar 0) gNil)) (tName 1))
    (sSeq (sAsg (gP2 pIx (gPN pLst (gCons (gC (.dat (.int 14))) (gCons (gC (.dat (.int 40))) gNil))) (gPN pInt (gCons (gP2 pEq (gCall 2 m__law_draw (gCons (gVar 1) (gCons (gC (.dat (.int 8))) gNil))) (gC (.dat (.int 0)))) gNil))) (tName 2))
    (sSeq (sAsg (gCall 1 m__law_office (gCons (gVar 1) gNil)) (tName 3))
    (sSeq (sAsg (gCall 3 m__law_book (gCons (gVar 1) (gCons (gVar 3) (gCons (gVar 2) gNil)))) (tName 4))
    (sSeq (sAsg (gCall 2 m__law_draw (gCons (gVar 1) (gCons (gPN pLen (gCons (gVar 4) gNil)) gNil))) (tName 5))
    (sSeq (sAsg (gP2 pAdd (gSl (gVar 4) (gC (.dat .none)) (gPart (gVar 5))) (gSl (gVar 4) (gPart (gP2 pAdd (gVar 5) (gC (.dat (.int 1))))) (gC (.dat .none)))) (tName 6))
    (sSeq (sAsg (gP1 pSortSet (gP2 pAdd (gP2 pAdd (gPN pLst (gLcA [12] (gIter (gP2 pIx (gVar 3) (gC (.dat (.int 1))))) (tName 12) gYes (gP2 pIx (gVar 12) (gC (.dat (.int 0)))))) (gPN pLst (gLcA [12] (gIter (gP2 pIx (gVar 3) (gC (.dat (.int 1))))) (tName 12) gYes (gP2 pIx (gVar 12) (gC (.dat (.int 1))))))) (gPN pLst (gCons (gC (.dat (.str "none"))) (gCons (gC (.dat (.str "zz"))) gNil))))) (tName 7))
    (sSeq (sFor (gIter (gPN pTup (gCons (gVar 4) (gCons (gVar 6) (gCons (gVar 4) gNil))))) (tName 8) (sSeq (sAsg (gPN pRepr (gCons (gVar 8) gNil)) (tName 9))
    (sFor (gIter (gVar 7)) (tName 10) (sSeq (sAsg (gCall 2 m_offs (gCons (gVar 8) (gCons (gVar 10) gNil))) (tName 11))
    (sSeq (sIf (gNot (gCall 2 m__law_same (gCons (gVar 11) (gCons (gCall 2 m__law_due (gCons (gVar 8) (gCons (gVar 10) gNil))) gNil)))) (sRet (gC (.dat (.bool false)))) sPass)
    (sSeq (sDrop (gMt false pAppend (gVar 11) (gCons (gC (.dat .none)) gNil)))
    (sIf (gOr (gNot (gCall 2 m__law_same (gCons (gCall 2 m_offs (gCons (gVar 8) (gCons (gVar 10) gNil))) (gCons (gCall 2 m__law_due (gCons (gVar 8) (gCons (gVar 10) gNil))) gNil)))) (gP2 pNe (gPN pRepr (gCons (gVar 8) gNil)) (gVar 9))) (sRet (gC (.dat (.bool false)))) sPass)))))))
    (sRet (gC (.dat (.bool true))))))))))))
noncomputable def m_law : GF := gFn 13 b_law
set_option maxHeartbeats 0 in
theorem ok_law {P : Program} {w : World} {K : PySem.W.Frag} {mg : Str → Option Value} {base : Heap} {f : Addr} {fd : FuncData} (F : Fun K "law" "law" s_law f fd) (T : Txt K mg) (h_offs : OkD P w K mg base 5 "offs" ["book", "place"] m_offs) (h__law_feed : OkD P w K mg base 1 "_law_feed" ["_law_script"] m__law_feed) (h__law_draw : OkD P w K mg base 1 "_law_draw" ["_law_feed_here", "_law_many"] m__law_draw) (h__law_same : OkD P w K mg base 1 "_law_same" ["_law_found", "_law_due_here"] m__law_same) (h__law_office : OkD P w K mg base 3 "_law_office" ["_law_feed_here"] m__law_office) (h__law_book : OkD P w K mg base 4 "_law_book" ["_law_feed_here", "_law_office_here", "_law_most"] m__law_book) (h__law_due : OkD P w K mg base 2 "_law_due" ["_law_book_here", "_law_place"] m__law_due) : FnG P w K mg base 6 f fd ["_law_script"] (spM K mg 1 m_law) :=
  fn_ok F sc_law fun cdv A outer s H E hg hr =>
    (s_cons (s_asg (r_callO h__law_feed rfl tk_def hg (hr.mono (by decide)) rfl (r_cons (r_var rfl (Or.inl rfl) (by decide) (by decide)) r_nil rfl) (by decide) rfl rfl) (g_name (i := 1) sc_law.nd rfl (Or.inl rfl) (Or.inl rfl)) rfl rfl rfl)
    (s_cons (s_asg (r_ix x_ix (r_lst (r_cons r_int (r_cons r_int r_nil rfl) rfl)) (r_callTy b_int rfl T.b_int (by rfl) (r_cons (r_cmp (o_eq (ru hr (by decide))) (r_callO h__law_draw rfl tk_def hg (hr.mono (by decide)) rfl (r_cons (r_var rfl (Or.inl rfl) (by decide) (by decide)) (r_cons r_int r_nil rfl) rfl) (by decide) rfl rfl) r_int rfl) r_nil rfl) (by decide) (by decide) rfl rfl) (fun _ _ => rfl)) (g_name (i := 2) sc_law.nd rfl (Or.inl rfl) (Or.inl rfl)) rfl rfl rfl)
    (s_cons (s_asg (r_callO h__law_office rfl tk_def hg (hr.mono (by decide)) rfl (r_cons (r_var rfl (Or.inl rfl) (by decide) (by decide)) r_nil rfl) (by decide) rfl rfl) (g_name (i := 3) sc_law.nd rfl (Or.inl rfl) (Or.inl rfl)) rfl rfl rfl)
    (s_cons (s_asg (r_callO h__law_book rfl tk_def hg (hr.mono (by decide)) rfl (r_cons (r_var rfl (Or.inl rfl) (by decide) (by decide)) (r_cons (r_var rfl (Or.inl rfl) (by decide) (by decide)) (r_cons (r_var rfl (Or.inl rfl) (by decide) (by decide)) r_nil rfl) rfl) rfl) (by decide) rfl rfl) (g_name (i := 4) sc_law.nd rfl (Or.inl rfl) (Or.inl rfl)) rfl rfl rfl)
    (s_cons (s_asg (r_callO h__law_draw rfl tk_def hg (hr.mono (by decide)) rfl (r_cons (r_var rfl (Or.inl rfl) (by decide) (by decide)) (r_cons (r_callB b_len rfl T.b_len (by rfl) (r_cons (r_var rfl (Or.inl rfl) (by decide) (by decide)) r_nil rfl) (by decide) (by decide) rfl rfl) r_nil rfl) rfl) (by decide) rfl rfl) (g_name (i := 5) sc_law.nd rfl (Or.inl rfl) (Or.inl rfl)) rfl rfl rfl)
    (s_cons (s_asg (r_op o_add (r_sl (r_var rfl (Or.inl rfl) (by decide) (by decide)) po_no (po_of (r_var rfl (Or.inl rfl) (by decide) (by decide)))) (r_sl (r_var rfl (Or.inl rfl) (by decide) (by decide)) (po_of (r_op o_add (r_var rfl (Or.inl rfl) (by decide) (by decide)) r_int)) po_no)) (g_name (i := 6) sc_law.nd rfl (Or.inl rfl) (Or.inl rfl)) rfl rfl rfl)
    (s_cons (s_asg (r_sortSet rfl (ru hr (by decide)) rfl T.b_sorted rfl T.b_set (r_op o_add (r_op o_add (r_lc (own := [("_law_road", 12)]) rfl sc_law.nd (i_any (r_ix x_ix (r_var rfl (Or.inl rfl) (by decide) (by decide)) r_int (fun _ _ => rfl))) (blkOk_by (N := ["_law_script", "_law_feed_here", "_law_most", "_law_office_here", "_law_book_here", "_law_at", "_law_fewer", "_law_places", "_law_some", "_law_kept", "_law_place", "_law_told", "_law_road"]) (sc := (defScope s_law)) (by decide +kernel)) (by decide) (fun _ _ _ _ _ => (g_name (i := 12) sc_law.nd rfl (Or.inl rfl) (Or.inr rfl))) (fun _ _ _ _ _ => pts0) (fun _ _ _ _ _ => (r_ix x_ix (r_var rfl (Or.inl rfl) (by decide) (by decide)) r_int (fun _ _ => rfl))) (fun _ => rfl)) (r_lc (own := [("_law_road", 12)]) rfl sc_law.nd (i_any (r_ix x_ix (r_var rfl (Or.inl rfl) (by decide) (by decide)) r_int (fun _ _ => rfl))) (blkOk_by (N := ["_law_script", "_law_feed_here", "_law_most", "_law_office_here", "_law_book_here", "_law_at", "_law_fewer", "_law_places", "_law_some", "_law_kept", "_law_place", "_law_told", "_law_road"]) (sc := (defScope s_law)) (by decide +kernel)) (by decide) (fun _ _ _ _ _ => (g_name (i := 12) sc_law.nd rfl (Or.inl rfl) (Or.inr rfl))) (fun _ _ _ _ _ => pts0) (fun _ _ _ _ _ => (r_ix x_ix (r_var rfl (Or.inl rfl) (by decide) (by decide)) r_int (fun _ _ => rfl))) (fun _ => rfl))) (r_lst (r_cons r_str (r_cons r_str r_nil rfl) rfl))) rfl) (g_name (i := 7) sc_law.nd rfl (Or.inl rfl) (Or.inl rfl)) rfl rfl rfl)
    (s_cons (s_for (passes_of rfl) rfl (i_any (r_tup (r_cons (r_var rfl (Or.inl rfl) (by decide) (by decide)) (r_cons (r_var rfl (Or.inl rfl) (by decide) (by decide)) (r_cons (r_var rfl (Or.inl rfl) (by decide) (by decide)) r_nil rfl) rfl) rfl))) (g_name (i := 8) sc_law.nd rfl (Or.inl rfl) (Or.inl rfl)) (s_cons (s_asg (r_callB (b_repr hg (ru hr (by decide))) rfl T.b_repr (by rfl) (r_cons (r_var rfl (Or.inl rfl) (by decide) (by decide)) r_nil rfl) (by decide) (by decide) rfl rfl) (g_name (i := 9) sc_law.nd rfl (Or.inl rfl) (Or.inl rfl)) rfl rfl rfl)
    (s_one (s_for (passes_of rfl) rfl (i_any (r_var rfl (Or.inl rfl) (by decide) (by decide))) (g_name (i := 10) sc_law.nd rfl (Or.inl rfl) (Or.inl rfl)) (s_cons (s_asg (r_callO h_offs rfl tk_def hg (hr.mono (by decide)) rfl (r_cons (r_var rfl (Or.inl rfl) (by decide) (by decide)) (r_cons (r_var rfl (Or.inl rfl) (by decide) (by decide)) r_nil rfl) rfl) (by decide) rfl rfl) (g_name (i := 11) sc_law.nd rfl (Or.inl rfl) (Or.inl rfl)) rfl rfl rfl)
    (s_cons (s_if (t_not (t_of (r_callO h__law_same rfl tk_def hg (hr.mono (by decide)) rfl (r_cons (r_var rfl (Or.inl rfl) (by decide) (by decide)) (r_cons (r_callO h__law_due rfl tk_def hg (hr.mono (by decide)) rfl (r_cons (r_var rfl (Or.inl rfl) (by decide) (by decide)) (r_cons (r_var rfl (Or.inl rfl) (by decide) (by decide)) r_nil rfl) rfl) (by decide) rfl rfl) r_nil rfl) rfl) (by decide) rfl rfl) (fun _ => rfl))) (s_one (s_ret r_bl)) s_nil)
    (s_cons (s_expr (r_mt (k := false) PySem.F.plainAttrs_list PySem.F.slot_list_append PySem.F.type_list_append m_append (r_var rfl (Or.inl rfl) (by decide) (by decide)) (r_cons r_non r_nil rfl) rfl (by rfl) rfl rfl rfl) rfl)
    (s_one (s_if (PW.pt (w_or (t_not (t_of (r_callO h__law_same rfl tk_def hg (hr.mono (by decide)) rfl (r_cons (r_callO h_offs rfl tk_def hg (hr.mono (by decide)) rfl (r_cons (r_var rfl (Or.inl rfl) (by decide) (by decide)) (r_cons (r_var rfl (Or.inl rfl) (by decide) (by decide)) r_nil rfl) rfl) (by decide) rfl rfl) (r_cons (r_callO h__law_due rfl tk_def hg (hr.mono (by decide)) rfl (r_cons (r_var rfl (Or.inl rfl) (by decide) (by decide)) (r_cons (r_var rfl (Or.inl rfl) (by decide) (by decide)) r_nil rfl) rfl) (by decide) rfl rfl) r_nil rfl) rfl) (by decide) rfl rfl) (fun _ => rfl))) (w_or1 (t_cmp (o_ne (ru hr (by decide))) (r_callB (b_repr hg (ru hr (by decide))) rfl T.b_repr (by rfl) (r_cons (r_var rfl (Or.inl rfl) (by decide) (by decide)) r_nil rfl) (by decide) (by decide) rfl rfl) (r_var rfl (Or.inl rfl) (by decide) (by decide)) rfl)))) (s_one (s_ret r_bl)) s_nil))))) (fun _ => rfl)))) (fun _ => rfl))
    (s_one (s_ret r_bl))))))))))
end Lw

set_option maxRecDepth 100000
namespace Lw
open PySem L2 PO
open PN hiding RF RO e_and e_call e_chain e_if e_isi e_lc e_mt e_not e_or e_part e_sl i_any i_zip
noncomputable abbrev p__law_draw := drawM
theorem q__law_draw (m1 : D) : EvA m__law_draw [.fd, .dat m1] (drawM m1) := q_draw m1
noncomputable def p_voided (book1 : D) : M D := M.bind (lcD (M.bind (M.ok book1) iterM) fun it2 => un2 it2 fun name3 deed4 => M.bind (M.bind (M.bind (M.ok deed4) fun a8 => M.bind (M.ok (.int 0)) fun i9 => op2 pIx a8 i9) fun a10 => M.bind (M.ok (.str "void")) fun b11 => op2 pEq a10 b11) fun t12 => M.ite t12 (M.bind (M.bind (M.ok deed4) fun a5 => M.bind (M.ok (.int 1)) fun i6 => op2 pIx a5 i6) fun v7 => M.ok (some v7)) (M.ok none)) fun named13 => M.bind (M.bind (lcD (M.bind (M.ok book1) iterM) fun it15 => un2 it15 fun name16 deed17 => M.bind (M.bind (M.bind (M.bind (M.ok deed17) fun a19 => M.bind (M.ok (.int 0)) fun i20 => op2 pIx a19 i20) fun a21 => M.bind (M.ok (.str "void")) fun b22 => op2 pNe a21 b22) fun t25 => M.ite t25 (M.bind (M.ok name16) fun a23 => M.bind (M.ok named13) fun b24 => op2 pIn a23 b24) (M.ok (.bool false))) fun t26 => M.ite t26 (M.bind (M.ok name16) fun v18 => M.ok (some v18)) (M.ok none)) fun x14 => op1 pTupleOf x14) M.ok
set_option maxHeartbeats 0 in
theorem q_voided (book1 : D) : EvA m_voided [.dat book1] (p_voided book1) :=
  def_d (L := [.dat book1, .any, .any, .any]) rfl (by simp) (seqJ (asg (e_lc (i_any (e_var rfl good_dat)) trivial fun it2 => cb_un2 fun name3 deed4 => cb_if (tg_tup (tgs_cons tg_name (tgs_cons tg_name tgs_nil)) rfl) (e_p2 o2_eq (v_of (e_p2 o2_ix (v_of (e_var rfl good_dat)) (v_of (e_con good_dat)) good_dat)) (v_of (e_con good_dat)) good_dat) (e_p2 o2_ix (v_of (e_var rfl good_dat)) (v_of (e_con good_dat)) good_dat))) fun named13 => (last (ret rets_d (e_pn (k_consB mono_d (v_of (e_lc (i_any (e_var rfl good_dat)) trivial fun it15 => cb_un2 fun name16 deed17 => cb_if (tg_tup (tgs_cons tg_name (tgs_cons tg_name tgs_nil)) rfl) (e_and (e_p2 o2_ne (v_of (e_p2 o2_ix (v_of (e_var rfl good_dat)) (v_of (e_con good_dat)) good_dat)) (v_of (e_con good_dat)) good_dat) (e_p2 o2_in (v_of (e_var rfl good_dat)) (v_of (e_var rfl good_dat)) good_dat)) (e_var rfl good_dat))) fun x14 => k_nil (ea_1 o1_tuple))))))
noncomputable def p_bags_in (book1 : D) : M D := M.bind (M.bind (M.ok book1) fun x2 => p_voided x2) fun gone3 => M.bind (lcD (M.bind (M.ok book1) iterM) fun it4 => un2 it4 fun name5 deed6 => M.bind (M.bind (M.bind (M.bind (M.ok deed6) fun a8 => M.bind (M.ok (.int 0)) fun i9 => op2 pIx a8 i9) fun a10 => M.bind (M.ok (.str "bag")) fun b11 => op2 pEq a10 b11) fun t14 => M.ite t14 (M.bind (M.ok name5) fun a12 => M.bind (M.ok gone3) fun b13 => op2 pNotIn a12 b13) (M.ok (.bool false))) fun t15 => M.ite t15 (M.bind (M.ok name5) fun v7 => M.ok (some v7)) (M.ok none)) M.ok
set_option maxHeartbeats 0 in
theorem q_bags_in (book1 : D) : EvA m_bags_in [.dat book1] (p_bags_in book1) :=
  def_d (L := [.dat book1, .any, .any, .any]) rfl (by simp) (seqJ (asg (e_call (k_cons mono_d (e_var rfl good_dat) fun x2 => k_nil (ea_n (q_voided x2) rfl)))) fun gone3 => (last (ret rets_d (e_lc (i_any (e_var rfl good_dat)) trivial fun it4 => cb_un2 fun name5 deed6 => cb_if (tg_tup (tgs_cons tg_name (tgs_cons tg_name tgs_nil)) rfl) (e_and (e_p2 o2_eq (v_of (e_p2 o2_ix (v_of (e_var rfl good_dat)) (v_of (e_con good_dat)) good_dat)) (v_of (e_con good_dat)) good_dat) (e_p2 o2_notIn (v_of (e_var rfl good_dat)) (v_of (e_var rfl good_dat)) good_dat)) (e_var rfl good_dat)))))
noncomputable def p_counted (book1 : D) : M D := M.bind (M.bind (M.ok book1) fun x2 => p_voided x2) fun gone3 => M.bind (M.bind (M.ok book1) fun x4 => p_bags_in x4) fun bags5 => M.bind (M.ok []) fun found7 => M.bind (M.bind (M.bind (M.ok book1) iterM) fun its32 => fold (fun it9 st8 => un2 it9 fun name10 deed11 => M.bind (M.bind (M.bind (M.bind (M.ok deed11) fun a12 => M.bind (M.ok (.int 0)) fun i13 => op2 pIx a12 i13) fun a14 => M.bind (M.ok (.str "void")) fun b15 => op2 pNe a14 b15) fun t28 => M.ite t28 (M.bind (M.bind (M.ok name10) fun a16 => M.bind (M.ok gone3) fun b17 => op2 pNotIn a16 b17) fun t27 => M.ite t27 (M.bind (M.bind (M.bind (M.ok deed11) fun a18 => M.bind (M.ok (.int 0)) fun i19 => op2 pIx a18 i19) fun a20 => M.bind (M.ok (.str "read")) fun b21 => op2 pNe a20 b21) fun t26 => M.ite t26 (M.ok (.bool true)) (M.bind (M.bind (M.ok deed11) fun a22 => M.bind (M.ok (.int 1)) fun i23 => op2 pIx a22 i23) fun a24 => M.bind (M.ok bags5) fun b25 => op2 pIn a24 b25)) (M.ok (.bool false))) (M.ok (.bool false))) fun t29 => M.ite t29 (M.bind (M.bind (M.ok name10) fun v31 => push st8 v31) fun found30 => M.ok found30) (M.ok st8)) its32 found7) fun st8 => M.bind (M.bind (M.ok (.list st8)) fun x33 => op1 pTupleOf x33) M.ok
set_option maxHeartbeats 0 in
theorem q_counted (book1 : D) : EvA m_counted [.dat book1] (p_counted book1) :=
  def_d (L := [.dat book1, .any, .any, .any, .any, .any]) rfl (by simp) (seqJ (asg (e_call (k_cons mono_d (e_var rfl good_dat) fun x2 => k_nil (ea_n (q_voided x2) rfl)))) fun gone3 => (seqJ (asg (e_call (k_cons mono_d (e_var rfl good_dat) fun x4 => k_nil (ea_n (q_bags_in x4) rfl)))) fun bags5 => (alloc (o_pn (k_nil (ek_lst [] (Nat.le_of_ble_eq_true rfl)))) fun j6 found7 => (seqJ (mk := fun (st8 : List D) => [.dat book1, .dat gone3, .dat bags5, .own j6 st8, .any, .any]) (for_fold (a0 := found7) (i_any (e_var rfl good_dat)) (Le.eq (Le.eq (Le.eq (Le.eq (Le.any (Le.any Le.nil)))))) (fun _ => trivial) fun it9 st8 => tc_un2 fun name10 deed11 => tc (tl_tup (tl_cons tl_name (tl_cons tl_name tl_nil))) (tg_tup (tgs_cons tg_name (tgs_cons tg_name tgs_nil)) rfl) (last (dist (iff_ (e_and (e_p2 o2_ne (v_of (e_p2 o2_ix (v_of (e_var rfl good_dat)) (v_of (e_con good_dat)) good_dat)) (v_of (e_con good_dat)) good_dat) (e_and (e_p2 o2_notIn (v_of (e_var rfl good_dat)) (v_of (e_var rfl good_dat)) good_dat) (e_or (e_p2 o2_ne (v_of (e_p2 o2_ix (v_of (e_var rfl good_dat)) (v_of (e_con good_dat)) good_dat)) (v_of (e_con good_dat)) good_dat) (e_p2 o2_in (v_of (e_p2 o2_ix (v_of (e_var rfl good_dat)) (v_of (e_con good_dat)) good_dat)) (v_of (e_var rfl good_dat)) good_dat)))) (seqJ (append_ rfl (e_var rfl good_dat)) fun found30 => (end_f (a := found30) (Le.eq (Le.eq (Le.eq (Le.eq (Le.any (Le.any Le.nil)))))))) (passl (end_f (a := st8) (Le.eq (Le.eq (Le.eq (Le.eq (Le.any (Le.any Le.nil)))))))))))) fun st8 => (last (ret rets_d (e_pn (k_consB mono_d (v_own rfl) fun x33 => k_nil (ea_1 o1_tuple)))))))))
noncomputable def p_counted_pages (book1 : D) : M D := M.bind (M.bind (lcD (M.bind (M.bind (M.ok book1) fun x3 => p_counted x3) iterM) fun it4 => M.bind (M.bind (M.ok it4) fun x5 => (M.bind (M.ok (.bool true)) fun x6 => M.ok (.tuple [x5, x6]))) fun v7 => M.ok (some v7)) fun x2 => op1 pDict x2) fun names8 => M.bind (lcD (M.bind (M.ok book1) iterM) fun it9 => M.bind (M.bind (M.bind (M.ok it9) fun a11 => M.bind (M.ok (.int 0)) fun i12 => op2 pIx a11 i12) fun a13 => M.bind (M.ok names8) fun b14 => op2 pIn a13 b14) fun t15 => M.ite t15 (M.bind (M.ok it9) fun v10 => M.ok (some v10)) (M.ok none)) M.ok
set_option maxHeartbeats 0 in
theorem q_counted_pages (book1 : D) : EvA m_counted_pages [.dat book1] (p_counted_pages book1) :=
  def_d (L := [.dat book1, .any, .any, .any]) rfl (by simp) (seqJ (asg (e_pn (k_consB mono_d (v_of (e_lc (i_any (e_call (k_cons mono_d (e_var rfl good_dat) fun x3 => k_nil (ea_n (q_counted x3) rfl)))) trivial fun it4 => cb_map tg_name (e_pn (k_cons mono_d (e_var rfl good_dat) fun x5 => (k_cons mono_d (e_con good_dat) fun x6 => k_nil (ea_tup [x5, x6] (Nat.le_of_ble_eq_true rfl))))))) fun x2 => k_nil (ea_1 o1_dict)))) fun names8 => (last (ret rets_d (e_lc (i_any (e_var rfl good_dat)) trivial fun it9 => cb_if tg_name (e_p2 o2_in (v_of (e_p2 o2_ix (v_of (e_var rfl good_dat)) (v_of (e_con good_dat)) good_dat)) (v_of (e_var rfl good_dat)) good_dat) (e_var rfl good_dat)))))
noncomputable def p_many_in (runs1 : D) : M D := M.bind (M.bind (lcD (M.bind (M.ok runs1) iterM) fun it3 => un3 it3 fun series4 first5 end_6 => M.bind (M.bind (M.ok end_6) fun a7 => M.bind (M.ok first5) fun b8 => op2 pSub a7 b8) fun v9 => M.ok (some v9)) fun x2 => op1 pSum x2) M.ok
set_option maxHeartbeats 0 in
theorem q_many_in (runs1 : D) : EvA m_many_in [.dat runs1] (p_many_in runs1) :=
  def_d (L := [.dat runs1, .any, .any, .any]) rfl (by simp) (last (ret rets_d (e_pn (k_consB mono_d (v_of (e_lc (i_any (e_var rfl good_dat)) trivial fun it3 => cb_un3 fun series4 first5 end_6 => cb_map (tg_tup (tgs_cons tg_name (tgs_cons tg_name (tgs_cons tg_name tgs_nil))) rfl) (e_p2 o2_sub (v_of (e_var rfl good_dat)) (v_of (e_var rfl good_dat)) good_dat))) fun x2 => k_nil (ea_1 o1_sum)))))
noncomputable def p_brings (deed1 : D) (place2 : D) : M D := M.bind (M.bind (M.bind (M.bind (M.ok deed1) fun a3 => M.bind (M.ok (.int 0)) fun i4 => op2 pIx a3 i4) fun a7 => M.bind (M.bind (M.ok (.str "move")) fun x5 => (M.bind (M.ok (.str "bag")) fun x6 => M.ok (.tuple [x5, x6]))) fun b8 => op2 pNotIn a7 b8) fun t16 => M.ite t16 (M.ok (.bool true)) (M.bind (M.ok place2) fun a14 => M.bind (M.bind (M.ok deed1) fun a9 => M.bind (M.bind (M.ok (.int 1)) intM) fun l12 => parts l12 (M.bind (M.bind (M.ok (.int 3)) intM) fun h13 => op3 pSl a9 l12 h13)) fun b15 => op2 pNotIn a14 b15)) fun t17 => M.ite t17 (M.bind (M.ok (.int 0)) M.ok) (M.bind (M.bind (M.ok deed1) fun a18 => M.bind (M.ok (.int 3)) fun i19 => op2 pIx a18 i19) fun many20 => M.bind (M.bind (M.bind (M.bind (M.ok deed1) fun a21 => M.bind (M.ok (.int 0)) fun i22 => op2 pIx a21 i22) fun a23 => M.bind (M.ok (.str "move")) fun b24 => op2 pEq a23 b24) fun t25 => M.ite t25 (M.bind (M.bind (M.bind (M.ok deed1) fun a28 => M.bind (M.ok (.int 3)) fun i29 => op2 pIx a28 i29) fun x27 => p_many_in x27) fun many30 => M.ok many30) (M.ok many20)) fun st26 => M.bind (M.bind (M.bind (M.bind (M.ok deed1) fun a31 => M.bind (M.ok (.int 2)) fun i32 => op2 pIx a31 i32) fun a33 => M.bind (M.ok place2) fun b34 => op2 pEq a33 b34) fun t37 => M.ite t37 (M.ok st26) (M.bind (M.ok (.int 0)) fun a35 => M.bind (M.ok st26) fun b36 => op2 pSub a35 b36)) M.ok)
set_option maxHeartbeats 0 in
theorem q_brings (deed1 : D) (place2 : D) : EvA m_brings [.dat deed1, .dat place2] (p_brings deed1 place2) :=
  def_d (L := [.dat deed1, .dat place2, .any]) rfl (by simp) (dist (iff_ (e_or (e_p2 o2_notIn (v_of (e_p2 o2_ix (v_of (e_var rfl good_dat)) (v_of (e_con good_dat)) good_dat)) (v_of (e_pn (k_cons mono_d (e_con good_dat) fun x5 => (k_cons mono_d (e_con good_dat) fun x6 => k_nil (ea_tup [x5, x6] (Nat.le_of_ble_eq_true rfl)))))) good_dat) (e_p2 o2_notIn (v_of (e_var rfl good_dat)) (v_of (e_sl o3_sl (v_of (e_var rfl good_dat)) (e_part (e_con good_dat)) (e_part (e_con good_dat)) good_dat)) good_dat)) (ret rets_d (e_con good_dat)) (passl (seqJ (asg (e_p2 o2_ix (v_of (e_var rfl good_dat)) (v_of (e_con good_dat)) good_dat)) fun many20 => (seqJ (mk := fun (st26 : D) => [.dat deed1, .dat place2, .dat st26]) (iff_ (e_p2 o2_eq (v_of (e_p2 o2_ix (v_of (e_var rfl good_dat)) (v_of (e_con good_dat)) good_dat)) (v_of (e_con good_dat)) good_dat) (last (seqJ (asg (e_call (k_cons mono_d (e_p2 o2_ix (v_of (e_var rfl good_dat)) (v_of (e_con good_dat)) good_dat) fun x27 => k_nil (ea_n (q_many_in x27) rfl)))) fun many30 => (end_j (a := many30) (Le.eq (Le.eq (Le.eq Le.nil)))))) (end_j (a := many20) (Le.eq (Le.eq (Le.eq Le.nil))))) fun st26 => (last (ret rets_d (e_if (e_p2 o2_eq (v_of (e_p2 o2_ix (v_of (e_var rfl good_dat)) (v_of (e_con good_dat)) good_dat)) (v_of (e_var rfl good_dat)) good_dat) (e_var rfl good_dat) (e_p2 o2_sub (v_of (e_con good_dat)) (v_of (e_var rfl good_dat)) good_dat)))))))))
noncomputable def p_offs (book1 : D) (place2 : D) : M (List D) := M.bind (M.ok []) fun found4 => M.bind (M.ok (.int 0)) fun there5 => M.bind (M.bind (M.bind (M.bind (M.ok book1) fun x7 => p_counted_pages x7) iterM) fun its35 => fold (fun it8 st6 => un2 it8 fun name9 deed10 => M.bind (M.bind (M.bind (M.bind (M.bind (M.ok deed10) fun a11 => M.bind (M.ok (.int 0)) fun i12 => op2 pIx a11 i12) fun a13 => M.bind (M.ok (.str "count")) fun b14 => op2 pEq a13 b14) fun t19 => M.ite t19 (M.bind (M.bind (M.ok deed10) fun a15 => M.bind (M.ok (.int 1)) fun i16 => op2 pIx a15 i16) fun a17 => M.bind (M.ok place2) fun b18 => op2 pEq a17 b18) (M.ok (.bool false))) fun t20 => M.ite t20 (M.bind (M.bind (M.bind (M.ok name9) fun x24 => (M.bind (M.bind (M.bind (M.ok deed10) fun a26 => M.bind (M.ok (.int 2)) fun i27 => op2 pIx a26 i27) fun a28 => M.bind (M.ok st6.2) fun b29 => op2 pSub a28 b29) fun x25 => M.ok (.tuple [x24, x25]))) fun v23 => push st6.1 v23) fun found22 => M.ok found22) (M.ok st6.1)) fun st21 => M.bind (M.bind (M.ok st6.2) fun a32 => M.bind (M.bind (M.ok deed10) fun x30 => (M.bind (M.ok place2) fun x31 => p_brings x30 x31)) fun b33 => op2 pAdd a32 b33) fun there34 => M.ok (st21, there34)) its35 (found4, there5)) fun st6 => M.ok st6.1
set_option maxHeartbeats 0 in
theorem q_offs (book1 : D) (place2 : D) : EvK m_offs [.dat book1, .dat place2] (p_offs book1 place2) :=
  def_k (L := [.dat book1, .dat place2, .any, .any, .any, .any]) rfl (by simp) (alloc (o_pn (k_nil (ek_lst [] (Nat.le_of_ble_eq_true rfl)))) fun j3 found4 => (seqJ (asg (e_con good_dat)) fun there5 => (seqJ (mk := fun (st6 : List D × D) => [.dat book1, .dat place2, .own j3 st6.1, .dat st6.2, .any, .any]) (for_fold (a0 := (found4, there5)) (i_any (e_call (k_cons mono_d (e_var rfl good_dat) fun x7 => k_nil (ea_n (q_counted_pages x7) rfl)))) (Le.eq (Le.eq (Le.eq (Le.eq (Le.any (Le.any Le.nil)))))) (fun _ => trivial) fun it8 st6 => tc_un2 fun name9 deed10 => tc (tl_tup (tl_cons tl_name (tl_cons tl_name tl_nil))) (tg_tup (tgs_cons tg_name (tgs_cons tg_name tgs_nil)) rfl) (seqJ (mk := fun (st21 : List D) => [.dat book1, .dat place2, .own j3 st21, .dat st6.2, .dat name9, .dat deed10]) (iff_ (e_and (e_p2 o2_eq (v_of (e_p2 o2_ix (v_of (e_var rfl good_dat)) (v_of (e_con good_dat)) good_dat)) (v_of (e_con good_dat)) good_dat) (e_p2 o2_eq (v_of (e_p2 o2_ix (v_of (e_var rfl good_dat)) (v_of (e_con good_dat)) good_dat)) (v_of (e_var rfl good_dat)) good_dat)) (last (seqJ (append_ rfl (e_pn (k_cons mono_d (e_var rfl good_dat) fun x24 => (k_cons mono_d (e_p2 o2_sub (v_of (e_p2 o2_ix (v_of (e_var rfl good_dat)) (v_of (e_con good_dat)) good_dat)) (v_of (e_var rfl good_dat)) good_dat) fun x25 => k_nil (ea_tup [x24, x25] (Nat.le_of_ble_eq_true rfl)))))) fun found22 => (end_j (a := found22) (Le.eq (Le.eq (Le.eq (Le.eq (Le.eq (Le.eq Le.nil))))))))) (end_j (a := st6.1) (Le.eq (Le.eq (Le.eq (Le.eq (Le.eq (Le.eq Le.nil)))))))) fun st21 => (last (seqJ (asg (e_p2 o2_add (v_of (e_var rfl good_dat)) (v_of (e_call (k_cons mono_d (e_var rfl good_dat) fun x30 => (k_cons mono_d (e_var rfl good_dat) fun x31 => k_nil (ea_n (q_brings x30 x31) rfl))))) good_dat)) fun there34 => (end_f (a := (st21, there34)) (Le.eq (Le.eq (Le.eq (Le.eq (Le.any (Le.any Le.nil))))))))))) fun st6 => (last (ret_own rfl)))))
noncomputable def p__law_same (found1 : D) (due_here2 : D) : M D := M.bind (M.bind (M.bind (M.ok found1) fun x3 => op1 pRepr x3) fun a5 => M.bind (M.bind (M.ok due_here2) fun x4 => op1 pRepr x4) fun b6 => op2 pEq a5 b6) M.ok
set_option maxHeartbeats 0 in
theorem q__law_same (found1 : D) (due_here2 : D) : EvA m__law_same [.bor found1, .dat due_here2] (p__law_same found1 due_here2) :=
  def_d (L := [.bor found1, .dat due_here2]) rfl (by simp) (last (ret rets_d (e_p2 o2_eq (v_of (e_pn (k_consB mono_d (v_bor rfl) fun x3 => k_nil (ea_1 o1_repr)))) (v_of (e_pn (k_consB mono_d (v_of (e_var rfl good_dat)) fun x4 => k_nil (ea_1 o1_repr)))) good_dat)))
noncomputable def p__law_words : M D := M.bind (M.bind (M.bind (M.ok (.str "a")) fun x2 => (M.bind (M.ok (.str "aa")) fun x3 => (M.bind (M.ok (.str "aaa")) fun x4 => (M.bind (M.ok (.str "ab")) fun x5 => (M.bind (M.ok (.str "b")) fun x6 => M.ok (.list [x2, x3, x4, x5, x6])))))) fun x1 => (M.bind (M.bind (M.ok (.str "move")) fun x8 => (M.bind (M.ok (.str "bag")) fun x9 => (M.bind (M.ok (.str "read")) fun x10 => (M.bind (M.ok (.str "count")) fun x11 => (M.bind (M.ok (.str "void")) fun x12 => M.ok (.list [x8, x9, x10, x11, x12])))))) fun x7 => M.ok (.list [x1, x7]))) fun some_13 => M.bind (M.bind (M.ok some_13) fun a26 => M.bind (M.bind (M.bind (M.ok (.str "vault")) fun x15 => (M.bind (M.ok (.str "press")) fun x16 => (M.bind (M.ok (.str "out")) fun x17 => (M.bind (M.ok (.str "ash")) fun x18 => (M.bind (M.ok (.str "till")) fun x19 => M.ok (.list [x15, x16, x17, x18, x19])))))) fun x14 => (M.bind (M.bind (M.ok (.str "banka")) fun x21 => (M.bind (M.ok (.str "bankb")) fun x22 => (M.bind (M.ok (.str "bankc")) fun x23 => (M.bind (M.ok (.str "tell")) fun x24 => (M.bind (M.ok (.str "office")) fun x25 => M.ok (.list [x21, x22, x23, x24, x25])))))) fun x20 => M.ok (.list [x14, x20]))) fun b27 => op2 pAdd a26 b27) fun some_28 => M.bind (M.bind (M.ok some_28) fun a29 => M.bind (M.bind (M.ok (.int 4)) fun x30 => p__law_draw x30) fun i31 => op2 pIx a29 i31) M.ok
set_option maxHeartbeats 0 in
theorem q__law_words : EvA m__law_words [.fd] (p__law_words) :=
  def_d (L := [.fd, .any]) rfl (by simp) (seqJ (asg (e_pn (k_cons mono_d (e_pn (k_cons mono_d (e_con good_dat) fun x2 => (k_cons mono_d (e_con good_dat) fun x3 => (k_cons mono_d (e_con good_dat) fun x4 => (k_cons mono_d (e_con good_dat) fun x5 => (k_cons mono_d (e_con good_dat) fun x6 => k_nil (ea_lst [x2, x3, x4, x5, x6] (Nat.le_of_ble_eq_true rfl)))))))) fun x1 => (k_cons mono_d (e_pn (k_cons mono_d (e_con good_dat) fun x8 => (k_cons mono_d (e_con good_dat) fun x9 => (k_cons mono_d (e_con good_dat) fun x10 => (k_cons mono_d (e_con good_dat) fun x11 => (k_cons mono_d (e_con good_dat) fun x12 => k_nil (ea_lst [x8, x9, x10, x11, x12] (Nat.le_of_ble_eq_true rfl)))))))) fun x7 => k_nil (ea_lst [x1, x7] (Nat.le_of_ble_eq_true rfl)))))) fun some_13 => (seqJ (asg (e_p2 o2_add (v_of (e_var rfl good_dat)) (v_of (e_pn (k_cons mono_d (e_pn (k_cons mono_d (e_con good_dat) fun x15 => (k_cons mono_d (e_con good_dat) fun x16 => (k_cons mono_d (e_con good_dat) fun x17 => (k_cons mono_d (e_con good_dat) fun x18 => (k_cons mono_d (e_con good_dat) fun x19 => k_nil (ea_lst [x15, x16, x17, x18, x19] (Nat.le_of_ble_eq_true rfl)))))))) fun x14 => (k_cons mono_d (e_pn (k_cons mono_d (e_con good_dat) fun x21 => (k_cons mono_d (e_con good_dat) fun x22 => (k_cons mono_d (e_con good_dat) fun x23 => (k_cons mono_d (e_con good_dat) fun x24 => (k_cons mono_d (e_con good_dat) fun x25 => k_nil (ea_lst [x21, x22, x23, x24, x25] (Nat.le_of_ble_eq_true rfl)))))))) fun x20 => k_nil (ea_lst [x14, x20] (Nat.le_of_ble_eq_true rfl)))))) good_dat)) fun some_28 => (last (ret rets_d (e_p2 o2_ix (v_of (e_var rfl good_dat)) (v_of (e_call (k_fd rfl ((k_cons mono_d (e_con good_dat) fun x30 => k_nil (ea_n (q__law_draw x30) rfl)))))) good_dat)))))
noncomputable def p__law_office : M D := M.bind (p__law_words) fun words_here1 => M.bind (M.bind (M.ok words_here1) fun a2 => M.bind (M.ok .none) fun l7 => parts l7 (M.bind (M.bind (M.bind (M.ok (.int 2)) fun a4 => M.bind (M.bind (M.ok (.int 4)) fun x3 => p__law_draw x3) fun b5 => op2 pAdd a4 b5) intM) fun h8 => op3 pSl a2 l7 h8)) fun places9 => M.bind (M.bind (M.bind (M.ok (.str "none")) fun x11 => (M.bind (M.bind (M.ok places9) fun a13 => M.bind (M.bind (M.bind (M.ok places9) fun x15 => op1 pLen x15) fun x14 => p__law_draw x14) fun i16 => op2 pIx a13 i16) fun x12 => M.ok (.tuple [x11, x12]))) fun x10 => M.ok [x10]) fun ways18 => M.bind (M.bind (M.bind (M.bind (M.ok (.int 2)) fun a21 => M.bind (M.bind (M.ok (.int 10)) fun x20 => p__law_draw x20) fun b22 => op2 pAdd a21 b22) rangeM) fun its46 => fold (fun it23 st19 => M.bind (M.bind (M.bind (M.ok places9) fun a25 => M.bind (M.bind (M.ok (.str "none")) fun x24 => M.ok (.list [x24])) fun b26 => op2 pAdd a25 b26) fun a27 => M.bind (M.bind (M.bind (M.bind (M.ok places9) fun x29 => op1 pLen x29) fun a30 => M.bind (M.ok (.int 1)) fun b31 => op2 pAdd a30 b31) fun x28 => p__law_draw x28) fun i32 => op2 pIx a27 i32) fun one33 => M.bind (M.bind (M.ok places9) fun a34 => M.bind (M.bind (M.bind (M.ok places9) fun x36 => op1 pLen x36) fun x35 => p__law_draw x35) fun i37 => op2 pIx a34 i37) fun other38 => M.bind (M.bind (M.ok one33) fun a39 => M.bind (M.ok other38) fun b40 => op2 pNe a39 b40) fun t41 => M.ite t41 (M.bind (M.bind (M.bind (M.ok one33) fun x44 => (M.bind (M.ok other38) fun x45 => M.ok (.tuple [x44, x45]))) fun v43 => push st19 v43) fun ways42 => M.ok ways42) (M.ok st19)) its46 ways18) fun st19 => M.bind (M.bind (M.bind (M.bind (M.bind (M.ok (.str "a")) fun x48 => (M.bind (M.ok (.str "b")) fun x49 => (M.bind (M.ok (.str "c")) fun x50 => M.ok (.list [x48, x49, x50])))) fun x47 => (M.bind (M.bind (M.ok (.str "ab")) fun x52 => (M.bind (M.ok (.str "abc")) fun x53 => (M.bind (M.ok (.str "b")) fun x54 => M.ok (.list [x52, x53, x54])))) fun x51 => (M.bind (M.bind (M.ok (.str "none")) fun x56 => (M.bind (M.ok (.str "move")) fun x57 => (M.bind (M.ok (.str "x")) fun x58 => M.ok (.list [x56, x57, x58])))) fun x55 => M.ok (.list [x47, x51, x55])))) fun a59 => M.bind (M.bind (M.ok (.int 3)) fun x60 => p__law_draw x60) fun i61 => op2 pIx a59 i61) fun a62 => M.bind (M.ok .none) fun l67 => parts l67 (M.bind (M.bind (M.bind (M.ok (.int 1)) fun a64 => M.bind (M.bind (M.ok (.int 3)) fun x63 => p__law_draw x63) fun b65 => op2 pAdd a64 b65) intM) fun h68 => op3 pSl a62 l67 h68)) fun series69 => M.bind (M.bind (lcD (M.bind (M.bind (M.ok series69) fun x71 => op1 pSorted x71) iterM) fun it72 => M.bind (M.bind (M.ok it72) fun x73 => (M.bind (M.bind (M.bind (M.ok (.int 1)) fun x75 => (M.bind (M.ok (.int 5)) fun x76 => (M.bind (M.ok (.int 1000000)) fun x77 => M.ok (.list [x75, x76, x77])))) fun a78 => M.bind (M.bind (M.ok (.int 3)) fun x79 => p__law_draw x79) fun i80 => op2 pIx a78 i80) fun x74 => M.ok (.tuple [x73, x74]))) fun v81 => M.ok (some v81)) fun x70 => op1 pTupleOf x70) fun worths82 => M.bind (M.bind (M.ok worths82) fun x83 => (M.bind (M.bind (M.bind (M.ok (.list st19)) fun a86 => op1 pSortSet a86) fun x85 => op1 pTupleOf x85) fun x84 => M.ok (.tuple [x83, x84]))) M.ok
set_option maxHeartbeats 0 in
theorem q__law_office : EvA m__law_office [.fd] (p__law_office) :=
  def_d (L := [.fd, .any, .any, .any, .any, .any, .any, .any, .any, .any]) rfl (by simp) (seqJ (asg (e_call (k_fd rfl (k_nil (ea_n (q__law_words ) rfl))))) fun words_here1 => (seqJ (asg (e_sl o3_sl (v_of (e_var rfl good_dat)) (e_con good_dat) (e_part (e_p2 o2_add (v_of (e_con good_dat)) (v_of (e_call (k_fd rfl ((k_cons mono_d (e_con good_dat) fun x3 => k_nil (ea_n (q__law_draw x3) rfl)))))) good_dat)) good_dat)) fun places9 => (alloc (o_pn (k_cons mono_k (e_pn (k_cons mono_d (e_con good_dat) fun x11 => (k_cons mono_d (e_p2 o2_ix (v_of (e_var rfl good_dat)) (v_of (e_call (k_fd rfl ((k_cons mono_d (e_pn (k_consB mono_d (v_of (e_var rfl good_dat)) fun x15 => k_nil (ea_1 o1_len))) fun x14 => k_nil (ea_n (q__law_draw x14) rfl)))))) good_dat) fun x12 => k_nil (ea_tup [x11, x12] (Nat.le_of_ble_eq_true rfl))))) fun x10 => k_nil (ek_lst [x10] (Nat.le_of_ble_eq_true rfl)))) fun j17 ways18 => (seqJ (mk := fun (st19 : List D) => [.fd, .dat words_here1, .dat places9, .own j17 st19, .any, .any, .any, .any, .any, .any]) (for_fold (a0 := ways18) (i_r1 (e_p2 o2_add (v_of (e_con good_dat)) (v_of (e_call (k_fd rfl ((k_cons mono_d (e_con good_dat) fun x20 => k_nil (ea_n (q__law_draw x20) rfl)))))) good_dat)) (Le.eq (Le.eq (Le.eq (Le.eq (Le.any (Le.any (Le.any (Le.any (Le.any (Le.any Le.nil)))))))))) (fun _ => trivial) fun it23 st19 => tc tl_name tg_name (seqJ (asg (e_p2 o2_ix (v_of (e_p2 o2_add (v_of (e_var rfl good_dat)) (v_of (e_pn (k_cons mono_d (e_con good_dat) fun x24 => k_nil (ea_lst [x24] (Nat.le_of_ble_eq_true rfl))))) good_dat)) (v_of (e_call (k_fd rfl ((k_cons mono_d (e_p2 o2_add (v_of (e_pn (k_consB mono_d (v_of (e_var rfl good_dat)) fun x29 => k_nil (ea_1 o1_len)))) (v_of (e_con good_dat)) good_dat) fun x28 => k_nil (ea_n (q__law_draw x28) rfl)))))) good_dat)) fun one33 => (seqJ (asg (e_p2 o2_ix (v_of (e_var rfl good_dat)) (v_of (e_call (k_fd rfl ((k_cons mono_d (e_pn (k_consB mono_d (v_of (e_var rfl good_dat)) fun x36 => k_nil (ea_1 o1_len))) fun x35 => k_nil (ea_n (q__law_draw x35) rfl)))))) good_dat)) fun other38 => (last (dist (iff_ (e_p2 o2_ne (v_of (e_var rfl good_dat)) (v_of (e_var rfl good_dat)) good_dat) (seqJ (append_ rfl (e_pn (k_cons mono_d (e_var rfl good_dat) fun x44 => (k_cons mono_d (e_var rfl good_dat) fun x45 => k_nil (ea_tup [x44, x45] (Nat.le_of_ble_eq_true rfl)))))) fun ways42 => (end_f (a := ways42) (Le.eq (Le.eq (Le.eq (Le.eq (Le.any (Le.any (Le.any (Le.any (Le.any (Le.any Le.nil)))))))))))) (passl (end_f (a := st19) (Le.eq (Le.eq (Le.eq (Le.eq (Le.any (Le.any (Le.any (Le.any (Le.any (Le.any Le.nil)))))))))))))))))) fun st19 => (seqJ (asg (e_sl o3_sl (v_of (e_p2 o2_ix (v_of (e_pn (k_cons mono_d (e_pn (k_cons mono_d (e_con good_dat) fun x48 => (k_cons mono_d (e_con good_dat) fun x49 => (k_cons mono_d (e_con good_dat) fun x50 => k_nil (ea_lst [x48, x49, x50] (Nat.le_of_ble_eq_true rfl)))))) fun x47 => (k_cons mono_d (e_pn (k_cons mono_d (e_con good_dat) fun x52 => (k_cons mono_d (e_con good_dat) fun x53 => (k_cons mono_d (e_con good_dat) fun x54 => k_nil (ea_lst [x52, x53, x54] (Nat.le_of_ble_eq_true rfl)))))) fun x51 => (k_cons mono_d (e_pn (k_cons mono_d (e_con good_dat) fun x56 => (k_cons mono_d (e_con good_dat) fun x57 => (k_cons mono_d (e_con good_dat) fun x58 => k_nil (ea_lst [x56, x57, x58] (Nat.le_of_ble_eq_true rfl)))))) fun x55 => k_nil (ea_lst [x47, x51, x55] (Nat.le_of_ble_eq_true rfl))))))) (v_of (e_call (k_fd rfl ((k_cons mono_d (e_con good_dat) fun x60 => k_nil (ea_n (q__law_draw x60) rfl)))))) good_dat)) (e_con good_dat) (e_part (e_p2 o2_add (v_of (e_con good_dat)) (v_of (e_call (k_fd rfl ((k_cons mono_d (e_con good_dat) fun x63 => k_nil (ea_n (q__law_draw x63) rfl)))))) good_dat)) good_dat)) fun series69 => (seqJ (asg (e_pn (k_consB mono_d (v_of (e_lc (i_any (e_pn (k_consB mono_d (v_of (e_var rfl good_dat)) fun x71 => k_nil (ea_1 o1_sorted)))) trivial fun it72 => cb_map tg_name (e_pn (k_cons mono_d (e_var rfl good_dat) fun x73 => (k_cons mono_d (e_p2 o2_ix (v_of (e_pn (k_cons mono_d (e_con good_dat) fun x75 => (k_cons mono_d (e_con good_dat) fun x76 => (k_cons mono_d (e_con good_dat) fun x77 => k_nil (ea_lst [x75, x76, x77] (Nat.le_of_ble_eq_true rfl))))))) (v_of (e_call (k_fd rfl ((k_cons mono_d (e_con good_dat) fun x79 => k_nil (ea_n (q__law_draw x79) rfl)))))) good_dat) fun x74 => k_nil (ea_tup [x73, x74] (Nat.le_of_ble_eq_true rfl))))))) fun x70 => k_nil (ea_1 o1_tuple)))) fun worths82 => (last (ret rets_d (e_pn (k_cons mono_d (e_var rfl good_dat) fun x83 => (k_cons mono_d (e_pn (k_consB mono_d (v_of (e_p1 o1_sortSet (v_own rfl) good_dat)) fun x85 => k_nil (ea_1 o1_tuple))) fun x84 => k_nil (ea_tup [x83, x84] (Nat.le_of_ble_eq_true rfl)))))))))))))
noncomputable def p__law_name : M D := M.bind (M.bind (M.bind (M.ok (.int 6)) fun x2 => p__law_draw x2) fun x1 => (M.bind (M.bind (M.ok (.int 8)) fun a5 => M.bind (M.bind (M.ok (.int 5)) fun x4 => p__law_draw x4) fun b6 => op2 pAdd a5 b6) fun x3 => (M.bind (M.ok (.int 99999)) fun x7 => M.ok (.list [x1, x3, x7])))) fun days8 => M.bind (M.bind (M.bind (M.ok (.str "a")) fun x9 => (M.bind (M.ok (.str "ab")) fun x10 => (M.bind (M.ok (.str "b")) fun x11 => (M.bind (M.ok (.str "bcdefghi")) fun x12 => M.ok (.list [x9, x10, x11, x12]))))) fun a13 => M.bind (M.bind (M.ok (.int 4)) fun x14 => p__law_draw x14) fun i15 => op2 pIx a13 i15) fun hand16 => M.bind (M.bind (M.bind (M.ok days8) fun a18 => M.bind (M.bind (M.bind (M.ok (.int 0)) fun x19 => (M.bind (M.ok (.int 0)) fun x20 => (M.bind (M.ok (.int 1)) fun x21 => (M.bind (M.ok (.int 1)) fun x22 => (M.bind (M.ok (.int 2)) fun x23 => M.ok (.list [x19, x20, x21, x22, x23])))))) fun a24 => M.bind (M.bind (M.ok (.int 5)) fun x25 => p__law_draw x25) fun i26 => op2 pIx a24 i26) fun i27 => op2 pIx a18 i27) fun x17 => (M.bind (M.bind (M.bind (M.ok (.int 0)) fun x29 => (M.bind (M.ok (.int 2)) fun x30 => (M.bind (M.ok (.int 10)) fun x31 => (M.bind (M.ok (.int 999)) fun x32 => M.ok (.list [x29, x30, x31, x32]))))) fun a33 => M.bind (M.bind (M.ok (.int 4)) fun x34 => p__law_draw x34) fun i35 => op2 pIx a33 i35) fun x28 => (M.bind (M.ok hand16) fun x36 => M.ok (.tuple [x17, x28, x36])))) M.ok
set_option maxHeartbeats 0 in
theorem q__law_name : EvA m__law_name [.fd] (p__law_name) :=
  def_d (L := [.fd, .any, .any]) rfl (by simp) (seqJ (asg (e_pn (k_cons mono_d (e_call (k_fd rfl ((k_cons mono_d (e_con good_dat) fun x2 => k_nil (ea_n (q__law_draw x2) rfl))))) fun x1 => (k_cons mono_d (e_p2 o2_add (v_of (e_con good_dat)) (v_of (e_call (k_fd rfl ((k_cons mono_d (e_con good_dat) fun x4 => k_nil (ea_n (q__law_draw x4) rfl)))))) good_dat) fun x3 => (k_cons mono_d (e_con good_dat) fun x7 => k_nil (ea_lst [x1, x3, x7] (Nat.le_of_ble_eq_true rfl))))))) fun days8 => (seqJ (asg (e_p2 o2_ix (v_of (e_pn (k_cons mono_d (e_con good_dat) fun x9 => (k_cons mono_d (e_con good_dat) fun x10 => (k_cons mono_d (e_con good_dat) fun x11 => (k_cons mono_d (e_con good_dat) fun x12 => k_nil (ea_lst [x9, x10, x11, x12] (Nat.le_of_ble_eq_true rfl)))))))) (v_of (e_call (k_fd rfl ((k_cons mono_d (e_con good_dat) fun x14 => k_nil (ea_n (q__law_draw x14) rfl)))))) good_dat)) fun hand16 => (last (ret rets_d (e_pn (k_cons mono_d (e_p2 o2_ix (v_of (e_var rfl good_dat)) (v_of (e_p2 o2_ix (v_of (e_pn (k_cons mono_d (e_con good_dat) fun x19 => (k_cons mono_d (e_con good_dat) fun x20 => (k_cons mono_d (e_con good_dat) fun x21 => (k_cons mono_d (e_con good_dat) fun x22 => (k_cons mono_d (e_con good_dat) fun x23 => k_nil (ea_lst [x19, x20, x21, x22, x23] (Nat.le_of_ble_eq_true rfl))))))))) (v_of (e_call (k_fd rfl ((k_cons mono_d (e_con good_dat) fun x25 => k_nil (ea_n (q__law_draw x25) rfl)))))) good_dat)) good_dat) fun x17 => (k_cons mono_d (e_p2 o2_ix (v_of (e_pn (k_cons mono_d (e_con good_dat) fun x29 => (k_cons mono_d (e_con good_dat) fun x30 => (k_cons mono_d (e_con good_dat) fun x31 => (k_cons mono_d (e_con good_dat) fun x32 => k_nil (ea_lst [x29, x30, x31, x32] (Nat.le_of_ble_eq_true rfl)))))))) (v_of (e_call (k_fd rfl ((k_cons mono_d (e_con good_dat) fun x34 => k_nil (ea_n (q__law_draw x34) rfl)))))) good_dat) fun x28 => (k_cons mono_d (e_var rfl good_dat) fun x36 => k_nil (ea_tup [x17, x28, x36] (Nat.le_of_ble_eq_true rfl))))))))))
noncomputable def p__law_runs_of (notes1 : D) : M D := M.bind (M.ok []) fun found3 => M.bind (M.bind (M.bind (M.bind (M.ok notes1) fun a5 => op1 pSortSet a5) iterM) fun its50 => fold (fun it6 st4 => un2 it6 fun series7 number8 => M.bind (M.bind (M.bind (M.bind (M.ok (.list st4)) fun x9 => op1 pLen x9) fun a10 => M.bind (M.ok (.int 0)) fun b11 => op2 pGt a10 b11) fun t27 => M.ite t27 (M.bind (M.bind (M.bind (M.bind (M.ok (.list st4)) fun a12 => M.bind (M.bind (M.ok (.int 1)) fun a13 => op1 pNeg a13) fun i14 => op2 pIx a12 i14) fun a15 => M.bind (M.ok (.int 0)) fun i16 => op2 pIx a15 i16) fun a17 => M.bind (M.ok series7) fun b18 => op2 pEq a17 b18) fun t26 => M.ite t26 (M.bind (M.bind (M.bind (M.ok (.list st4)) fun a19 => M.bind (M.bind (M.ok (.int 1)) fun a20 => op1 pNeg a20) fun i21 => op2 pIx a19 i21) fun a22 => M.bind (M.ok (.int 2)) fun i23 => op2 pIx a22 i23) fun a24 => M.bind (M.ok number8) fun b25 => op2 pEq a24 b25) (M.ok (.bool false))) (M.ok (.bool false))) fun t28 => M.ite t28 (M.bind (M.bind (M.bind (M.ok series7) fun x29 => (M.bind (M.bind (M.bind (M.ok (.list st4)) fun a31 => M.bind (M.bind (M.ok (.int 1)) fun a32 => op1 pNeg a32) fun i33 => op2 pIx a31 i33) fun a34 => M.bind (M.ok (.int 1)) fun i35 => op2 pIx a34 i35) fun x30 => (M.bind (M.bind (M.ok number8) fun a37 => M.bind (M.ok (.int 1)) fun b38 => op2 pAdd a37 b38) fun x36 => M.ok (.tuple [x29, x30, x36])))) fun v40 => M.bind (M.bind (M.ok (.int 1)) fun a39 => op1 pNeg a39) fun n41 => setM st4 n41 v40) fun found42 => M.ok found42) (M.bind (M.bind (M.bind (M.ok series7) fun x45 => (M.bind (M.ok number8) fun x46 => (M.bind (M.bind (M.ok number8) fun a48 => M.bind (M.ok (.int 1)) fun b49 => op2 pAdd a48 b49) fun x47 => M.ok (.tuple [x45, x46, x47])))) fun v44 => push st4 v44) fun found43 => M.ok found43)) its50 found3) fun st4 => M.bind (M.bind (M.ok (.list st4)) fun x51 => op1 pTupleOf x51) M.ok
set_option maxHeartbeats 0 in
theorem q__law_runs_of (notes1 : D) : EvA m__law_runs_of [.bor notes1] (p__law_runs_of notes1) :=
  def_d (L := [.bor notes1, .any, .any, .any]) rfl (by simp) (alloc (o_pn (k_nil (ek_lst [] (Nat.le_of_ble_eq_true rfl)))) fun j2 found3 => (seqJ (mk := fun (st4 : List D) => [.bor notes1, .own j2 st4, .any, .any]) (for_fold (a0 := found3) (i_any (e_p1 o1_sortSet (v_bor rfl) good_dat)) (Le.eq (Le.eq (Le.any (Le.any Le.nil)))) (fun _ => trivial) fun it6 st4 => tc_un2 fun series7 number8 => tc (tl_tup (tl_cons tl_name (tl_cons tl_name tl_nil))) (tg_tup (tgs_cons tg_name (tgs_cons tg_name tgs_nil)) rfl) (last (dist (iff_ (e_and (e_p2 o2_gt (v_of (e_pn (k_consB mono_d (v_own rfl) fun x9 => k_nil (ea_1 o1_len)))) (v_of (e_con good_dat)) good_dat) (e_and (e_p2 o2_eq (v_of (e_p2 o2_ix (v_of (e_p2 o2_ix (v_own rfl) (v_of (e_p1 o1_neg (v_of (e_con good_dat)) good_dat)) good_dat)) (v_of (e_con good_dat)) good_dat)) (v_of (e_var rfl good_dat)) good_dat) (e_p2 o2_eq (v_of (e_p2 o2_ix (v_of (e_p2 o2_ix (v_own rfl) (v_of (e_p1 o1_neg (v_of (e_con good_dat)) good_dat)) good_dat)) (v_of (e_con good_dat)) good_dat)) (v_of (e_var rfl good_dat)) good_dat))) (seqJ (seti_ rfl (e_pn (k_cons mono_d (e_var rfl good_dat) fun x29 => (k_cons mono_d (e_p2 o2_ix (v_of (e_p2 o2_ix (v_own rfl) (v_of (e_p1 o1_neg (v_of (e_con good_dat)) good_dat)) good_dat)) (v_of (e_con good_dat)) good_dat) fun x30 => (k_cons mono_d (e_p2 o2_add (v_of (e_var rfl good_dat)) (v_of (e_con good_dat)) good_dat) fun x36 => k_nil (ea_tup [x29, x30, x36] (Nat.le_of_ble_eq_true rfl)))))) (e_p1 o1_neg (v_of (e_con good_dat)) good_dat)) fun found42 => (end_f (a := found42) (Le.eq (Le.eq (Le.any (Le.any Le.nil)))))) (seqJ (append_ rfl (e_pn (k_cons mono_d (e_var rfl good_dat) fun x45 => (k_cons mono_d (e_var rfl good_dat) fun x46 => (k_cons mono_d (e_p2 o2_add (v_of (e_var rfl good_dat)) (v_of (e_con good_dat)) good_dat) fun x47 => k_nil (ea_tup [x45, x46, x47] (Nat.le_of_ble_eq_true rfl))))))) fun found43 => (end_f (a := found43) (Le.eq (Le.eq (Le.any (Le.any Le.nil)))))))))) fun st4 => (last (ret rets_d (e_pn (k_consB mono_d (v_own rfl) fun x51 => k_nil (ea_1 o1_tuple)))))))
noncomputable def p__law_runs (office_here1 : D) : M D := M.bind (M.bind (M.bind (M.ok (.int 12)) fun x2 => p__law_draw x2) fun a3 => M.bind (M.ok (.int 0)) fun b4 => op2 pEq a3 b4) fun t5 => M.ite t5 (M.bind (M.bind (M.bind (M.bind (M.bind (M.bind (M.ok office_here1) fun a8 => M.bind (M.ok (.int 0)) fun i9 => op2 pIx a8 i9) fun a10 => M.bind (M.ok (.int 0)) fun i11 => op2 pIx a10 i11) fun a12 => M.bind (M.ok (.int 0)) fun i13 => op2 pIx a12 i13) fun x7 => (M.bind (M.ok (.int 0)) fun x14 => (M.bind (M.bind (M.ok (.int 10)) fun a16 => M.bind (M.ok (.int 9)) fun b17 => op2 pPow a16 b17) fun x15 => M.ok (.tuple [x7, x14, x15])))) fun x6 => M.ok (.tuple [x6])) M.ok) (M.bind (M.ok []) fun notes19 => M.bind (M.bind (M.bind (M.bind (M.ok (.int 1)) fun a22 => M.bind (M.bind (M.ok (.int 3)) fun x21 => p__law_draw x21) fun b23 => op2 pAdd a22 b23) rangeM) fun its61 => fold (fun it24 st20 => M.bind (M.bind (M.bind (M.bind (M.ok office_here1) fun a25 => M.bind (M.ok (.int 0)) fun i26 => op2 pIx a25 i26) fun a27 => M.bind (M.bind (M.bind (M.bind (M.ok office_here1) fun a30 => M.bind (M.ok (.int 0)) fun i31 => op2 pIx a30 i31) fun x29 => op1 pLen x29) fun x28 => p__law_draw x28) fun i32 => op2 pIx a27 i32) fun a33 => M.bind (M.ok (.int 0)) fun i34 => op2 pIx a33 i34) fun series35 => M.bind (M.bind (M.bind (M.bind (M.ok (.int 9)) fun x37 => p__law_draw x37) fun x36 => (M.bind (M.bind (M.bind (M.ok (.int 10)) fun a39 => M.bind (M.ok (.int 9)) fun b40 => op2 pPow a39 b40) fun a41 => M.bind (M.ok (.int 6)) fun b42 => op2 pSub a41 b42) fun x38 => M.ok (.list [x36, x38]))) fun a43 => M.bind (M.bind (M.bind (M.bind (M.ok (.int 9)) fun x45 => p__law_draw x45) fun a46 => M.bind (M.ok (.int 0)) fun b47 => op2 pEq a46 b47) fun x44 => op1 pInt x44) fun i48 => op2 pIx a43 i48) fun first49 => M.bind (M.bind (lcD (M.bind (M.bind (M.ok (.int 1)) fun a53 => M.bind (M.bind (M.ok (.int 6)) fun x52 => p__law_draw x52) fun b54 => op2 pAdd a53 b54) rangeM) fun it55 => M.bind (M.bind (M.ok series35) fun x56 => (M.bind (M.bind (M.ok first49) fun a58 => M.bind (M.ok it55) fun b59 => op2 pAdd a58 b59) fun x57 => M.ok (.tuple [x56, x57]))) fun v60 => M.ok (some v60)) fun v51 => pushAll st20 v51) fun notes50 => M.ok notes50) its61 notes19) fun st20 => M.bind (M.bind (M.ok (.list st20)) fun x62 => p__law_runs_of x62) M.ok)
set_option maxHeartbeats 0 in
theorem q__law_runs (office_here1 : D) : EvA m__law_runs [.fd, .dat office_here1] (p__law_runs office_here1) :=
  def_d (L := [.fd, .dat office_here1, .any, .any, .any, .any, .any]) rfl (by simp) (dist (iff_ (e_p2 o2_eq (v_of (e_call (k_fd rfl ((k_cons mono_d (e_con good_dat) fun x2 => k_nil (ea_n (q__law_draw x2) rfl)))))) (v_of (e_con good_dat)) good_dat) (ret rets_d (e_pn (k_cons mono_d (e_pn (k_cons mono_d (e_p2 o2_ix (v_of (e_p2 o2_ix (v_of (e_p2 o2_ix (v_of (e_var rfl good_dat)) (v_of (e_con good_dat)) good_dat)) (v_of (e_con good_dat)) good_dat)) (v_of (e_con good_dat)) good_dat) fun x7 => (k_cons mono_d (e_con good_dat) fun x14 => (k_cons mono_d (e_p2 o2_pow (v_of (e_con good_dat)) (v_of (e_con good_dat)) good_dat) fun x15 => k_nil (ea_tup [x7, x14, x15] (Nat.le_of_ble_eq_true rfl)))))) fun x6 => k_nil (ea_tup [x6] (Nat.le_of_ble_eq_true rfl))))) (passl (alloc (o_pn (k_nil (ek_lst [] (Nat.le_of_ble_eq_true rfl)))) fun j18 notes19 => (seqJ (mk := fun (st20 : List D) => [.fd, .dat office_here1, .own j18 st20, .any, .any, .any, .any]) (for_fold (a0 := notes19) (i_r1 (e_p2 o2_add (v_of (e_con good_dat)) (v_of (e_call (k_fd rfl ((k_cons mono_d (e_con good_dat) fun x21 => k_nil (ea_n (q__law_draw x21) rfl)))))) good_dat)) (Le.eq (Le.eq (Le.eq (Le.any (Le.any (Le.any (Le.any Le.nil))))))) (fun _ => trivial) fun it24 st20 => tc tl_name tg_name (seqJ (asg (e_p2 o2_ix (v_of (e_p2 o2_ix (v_of (e_p2 o2_ix (v_of (e_var rfl good_dat)) (v_of (e_con good_dat)) good_dat)) (v_of (e_call (k_fd rfl ((k_cons mono_d (e_pn (k_consB mono_d (v_of (e_p2 o2_ix (v_of (e_var rfl good_dat)) (v_of (e_con good_dat)) good_dat)) fun x29 => k_nil (ea_1 o1_len))) fun x28 => k_nil (ea_n (q__law_draw x28) rfl)))))) good_dat)) (v_of (e_con good_dat)) good_dat)) fun series35 => (seqJ (asg (e_p2 o2_ix (v_of (e_pn (k_cons mono_d (e_call (k_fd rfl ((k_cons mono_d (e_con good_dat) fun x37 => k_nil (ea_n (q__law_draw x37) rfl))))) fun x36 => (k_cons mono_d (e_p2 o2_sub (v_of (e_p2 o2_pow (v_of (e_con good_dat)) (v_of (e_con good_dat)) good_dat)) (v_of (e_con good_dat)) good_dat) fun x38 => k_nil (ea_lst [x36, x38] (Nat.le_of_ble_eq_true rfl)))))) (v_of (e_pn (k_consB mono_d (v_of (e_p2 o2_eq (v_of (e_call (k_fd rfl ((k_cons mono_d (e_con good_dat) fun x45 => k_nil (ea_n (q__law_draw x45) rfl)))))) (v_of (e_con good_dat)) good_dat)) fun x44 => k_nil (ea_1 o1_int)))) good_dat)) fun first49 => (last (seqJ (extend_ rfl (v_of (e_lc (i_r1 (e_p2 o2_add (v_of (e_con good_dat)) (v_of (e_call (k_fd rfl ((k_cons mono_d (e_con good_dat) fun x52 => k_nil (ea_n (q__law_draw x52) rfl)))))) good_dat)) trivial fun it55 => cb_map tg_name (e_pn (k_cons mono_d (e_var rfl good_dat) fun x56 => (k_cons mono_d (e_p2 o2_add (v_of (e_var rfl good_dat)) (v_of (e_var rfl good_dat)) good_dat) fun x57 => k_nil (ea_tup [x56, x57] (Nat.le_of_ble_eq_true rfl)))))))) fun notes50 => (end_f (a := notes50) (Le.eq (Le.eq (Le.eq (Le.any (Le.any (Le.any (Le.any Le.nil))))))))))))) fun st20 => (last (ret rets_d (e_call (k_consB mono_d (v_own rfl) fun x62 => k_nil (ea_n (q__law_runs_of x62) rfl))))))))))
noncomputable def p__law_deed (office_here1 : D) (kind2 : D) (names3 : D) (bags4 : D) : M D := M.bind (M.bind (M.bind (M.ok office_here1) fun a5 => M.bind (M.ok (.int 1)) fun i6 => op2 pIx a5 i6) fun a7 => M.bind (M.bind (M.bind (M.bind (M.ok office_here1) fun a10 => M.bind (M.ok (.int 1)) fun i11 => op2 pIx a10 i11) fun x9 => op1 pLen x9) fun x8 => p__law_draw x8) fun i12 => op2 pIx a7 i12) fun v13 => un2 v13 fun one14 other15 => M.bind (M.bind (M.bind (M.ok kind2) fun a16 => M.bind (M.ok (.int 4)) fun b17 => op2 pLt a16 b17) fun t23 => M.ite t23 (M.ok (.bool true)) (M.bind (M.bind (M.ok kind2) fun a18 => M.bind (M.ok (.int 6)) fun b19 => op2 pLt a18 b19) fun t22 => M.ite t22 (M.bind (M.ok one14) fun a20 => M.bind (M.ok (.str "none")) fun b21 => op2 pEq a20 b21) (M.ok (.bool false)))) fun t24 => M.ite t24 (M.bind (M.bind (M.ok (.str "move")) fun x25 => (M.bind (M.ok one14) fun x26 => (M.bind (M.ok other15) fun x27 => (M.bind (M.bind (M.ok office_here1) fun x29 => p__law_runs x29) fun x28 => M.ok (.tuple [x25, x26, x27, x28]))))) M.ok) (M.bind (M.bind (M.ok kind2) fun a30 => M.bind (M.ok (.int 6)) fun b31 => op2 pLt a30 b31) fun t32 => M.ite t32 (M.bind (M.bind (M.ok (.str "bag")) fun x33 => (M.bind (M.ok one14) fun x34 => (M.bind (M.ok other15) fun x35 => (M.bind (M.bind (M.bind (M.bind (M.ok (.int 1)) fun a39 => M.bind (M.bind (M.ok (.int 8)) fun x38 => p__law_draw x38) fun b40 => op2 pAdd a39 b40) fun x37 => (M.bind (M.bind (M.ok (.int 10)) fun a42 => M.bind (M.ok (.int 9)) fun b43 => op2 pPow a42 b43) fun x41 => M.ok (.list [x37, x41]))) fun a44 => M.bind (M.bind (M.bind (M.bind (M.ok (.int 9)) fun x46 => p__law_draw x46) fun a47 => M.bind (M.ok (.int 0)) fun b48 => op2 pEq a47 b48) fun x45 => op1 pInt x45) fun i49 => op2 pIx a44 i49) fun x36 => M.ok (.tuple [x33, x34, x35, x36]))))) M.ok) (M.bind (M.bind (M.ok kind2) fun a50 => M.bind (M.ok (.int 8)) fun b51 => op2 pLt a50 b51) fun t52 => M.ite t52 (M.bind (M.bind (M.bind (M.bind (M.bind (M.ok bags4) fun x53 => op1 pLen x53) fun a54 => M.bind (M.ok (.int 0)) fun b55 => op2 pGt a54 b55) fun t59 => M.ite t59 (M.bind (M.bind (M.ok (.int 5)) fun x56 => p__law_draw x56) fun a57 => M.bind (M.ok (.int 0)) fun b58 => op2 pGt a57 b58) (M.ok (.bool false))) fun t60 => M.ite t60 (M.ok bags4) (M.ok names3)) fun some_61 => M.bind (M.bind (M.ok (.str "read")) fun x62 => (M.bind (M.bind (M.ok some_61) fun a64 => M.bind (M.bind (M.bind (M.ok some_61) fun x66 => op1 pLen x66) fun x65 => p__law_draw x65) fun i67 => op2 pIx a64 i67) fun x63 => (M.bind (M.bind (M.ok office_here1) fun x69 => p__law_runs x69) fun x68 => M.ok (.tuple [x62, x63, x68])))) M.ok) (M.bind (M.bind (M.ok kind2) fun a70 => M.bind (M.ok (.int 11)) fun b71 => op2 pLt a70 b71) fun t72 => M.ite t72 (M.bind (M.bind (M.ok (.str "count")) fun x73 => (M.bind (M.ok other15) fun x74 => (M.bind (M.bind (M.bind (M.bind (M.ok (.int 30)) fun x77 => p__law_draw x77) fun x76 => (M.bind (M.bind (M.ok (.int 10)) fun a79 => M.bind (M.ok (.int 12)) fun b80 => op2 pPow a79 b80) fun x78 => M.ok (.list [x76, x78]))) fun a81 => M.bind (M.bind (M.bind (M.bind (M.ok (.int 9)) fun x83 => p__law_draw x83) fun a84 => M.bind (M.ok (.int 0)) fun b85 => op2 pEq a84 b85) fun x82 => op1 pInt x82) fun i86 => op2 pIx a81 i86) fun x75 => M.ok (.tuple [x73, x74, x75])))) M.ok) (M.bind (M.bind (M.ok (.str "void")) fun x87 => (M.bind (M.bind (M.ok names3) fun a89 => M.bind (M.bind (M.bind (M.ok names3) fun x91 => op1 pLen x91) fun x90 => p__law_draw x90) fun i92 => op2 pIx a89 i92) fun x88 => M.ok (.tuple [x87, x88]))) M.ok))))
set_option maxHeartbeats 0 in
theorem q__law_deed (office_here1 : D) (kind2 : D) (names3 : D) (bags4 : D) : EvA m__law_deed [.fd, .dat office_here1, .dat kind2, .dat names3, .dat bags4] (p__law_deed office_here1 kind2 names3 bags4) :=
  def_d (L := [.fd, .dat office_here1, .dat kind2, .dat names3, .dat bags4, .any, .any, .any]) rfl (by simp) (asgT (e_p2 o2_ix (v_of (e_p2 o2_ix (v_of (e_var rfl good_dat)) (v_of (e_con good_dat)) good_dat)) (v_of (e_call (k_fd rfl ((k_cons mono_d (e_pn (k_consB mono_d (v_of (e_p2 o2_ix (v_of (e_var rfl good_dat)) (v_of (e_con good_dat)) good_dat)) fun x9 => k_nil (ea_1 o1_len))) fun x8 => k_nil (ea_n (q__law_draw x8) rfl)))))) good_dat) fun v13 => tc_un2 fun one14 other15 => tc (tl_tup (tl_cons tl_name (tl_cons tl_name tl_nil))) (tg_tup (tgs_cons tg_name (tgs_cons tg_name tgs_nil)) rfl) (dist (iff_ (e_or (e_p2 o2_lt (v_of (e_var rfl good_dat)) (v_of (e_con good_dat)) good_dat) (e_and (e_p2 o2_lt (v_of (e_var rfl good_dat)) (v_of (e_con good_dat)) good_dat) (e_p2 o2_eq (v_of (e_var rfl good_dat)) (v_of (e_con good_dat)) good_dat))) (ret rets_d (e_pn (k_cons mono_d (e_con good_dat) fun x25 => (k_cons mono_d (e_var rfl good_dat) fun x26 => (k_cons mono_d (e_var rfl good_dat) fun x27 => (k_cons mono_d (e_call (k_fd rfl ((k_cons mono_d (e_var rfl good_dat) fun x29 => k_nil (ea_n (q__law_runs x29) rfl))))) fun x28 => k_nil (ea_tup [x25, x26, x27, x28] (Nat.le_of_ble_eq_true rfl)))))))) (passl (dist (iff_ (e_p2 o2_lt (v_of (e_var rfl good_dat)) (v_of (e_con good_dat)) good_dat) (ret rets_d (e_pn (k_cons mono_d (e_con good_dat) fun x33 => (k_cons mono_d (e_var rfl good_dat) fun x34 => (k_cons mono_d (e_var rfl good_dat) fun x35 => (k_cons mono_d (e_p2 o2_ix (v_of (e_pn (k_cons mono_d (e_p2 o2_add (v_of (e_con good_dat)) (v_of (e_call (k_fd rfl ((k_cons mono_d (e_con good_dat) fun x38 => k_nil (ea_n (q__law_draw x38) rfl)))))) good_dat) fun x37 => (k_cons mono_d (e_p2 o2_pow (v_of (e_con good_dat)) (v_of (e_con good_dat)) good_dat) fun x41 => k_nil (ea_lst [x37, x41] (Nat.le_of_ble_eq_true rfl)))))) (v_of (e_pn (k_consB mono_d (v_of (e_p2 o2_eq (v_of (e_call (k_fd rfl ((k_cons mono_d (e_con good_dat) fun x46 => k_nil (ea_n (q__law_draw x46) rfl)))))) (v_of (e_con good_dat)) good_dat)) fun x45 => k_nil (ea_1 o1_int)))) good_dat) fun x36 => k_nil (ea_tup [x33, x34, x35, x36] (Nat.le_of_ble_eq_true rfl)))))))) (passl (dist (iff_ (e_p2 o2_lt (v_of (e_var rfl good_dat)) (v_of (e_con good_dat)) good_dat) (assoc (seqJ (asg (e_if (e_and (e_p2 o2_gt (v_of (e_pn (k_consB mono_d (v_of (e_var rfl good_dat)) fun x53 => k_nil (ea_1 o1_len)))) (v_of (e_con good_dat)) good_dat) (e_p2 o2_gt (v_of (e_call (k_fd rfl ((k_cons mono_d (e_con good_dat) fun x56 => k_nil (ea_n (q__law_draw x56) rfl)))))) (v_of (e_con good_dat)) good_dat)) (e_var rfl good_dat) (e_var rfl good_dat))) fun some_61 => (ret rets_d (e_pn (k_cons mono_d (e_con good_dat) fun x62 => (k_cons mono_d (e_p2 o2_ix (v_of (e_var rfl good_dat)) (v_of (e_call (k_fd rfl ((k_cons mono_d (e_pn (k_consB mono_d (v_of (e_var rfl good_dat)) fun x66 => k_nil (ea_1 o1_len))) fun x65 => k_nil (ea_n (q__law_draw x65) rfl)))))) good_dat) fun x63 => (k_cons mono_d (e_call (k_fd rfl ((k_cons mono_d (e_var rfl good_dat) fun x69 => k_nil (ea_n (q__law_runs x69) rfl))))) fun x68 => k_nil (ea_tup [x62, x63, x68] (Nat.le_of_ble_eq_true rfl))))))))) (passl (dist (iff_ (e_p2 o2_lt (v_of (e_var rfl good_dat)) (v_of (e_con good_dat)) good_dat) (ret rets_d (e_pn (k_cons mono_d (e_con good_dat) fun x73 => (k_cons mono_d (e_var rfl good_dat) fun x74 => (k_cons mono_d (e_p2 o2_ix (v_of (e_pn (k_cons mono_d (e_call (k_fd rfl ((k_cons mono_d (e_con good_dat) fun x77 => k_nil (ea_n (q__law_draw x77) rfl))))) fun x76 => (k_cons mono_d (e_p2 o2_pow (v_of (e_con good_dat)) (v_of (e_con good_dat)) good_dat) fun x78 => k_nil (ea_lst [x76, x78] (Nat.le_of_ble_eq_true rfl)))))) (v_of (e_pn (k_consB mono_d (v_of (e_p2 o2_eq (v_of (e_call (k_fd rfl ((k_cons mono_d (e_con good_dat) fun x83 => k_nil (ea_n (q__law_draw x83) rfl)))))) (v_of (e_con good_dat)) good_dat)) fun x82 => k_nil (ea_1 o1_int)))) good_dat) fun x75 => k_nil (ea_tup [x73, x74, x75] (Nat.le_of_ble_eq_true rfl))))))) (passl (last (ret rets_d (e_pn (k_cons mono_d (e_con good_dat) fun x87 => (k_cons mono_d (e_p2 o2_ix (v_of (e_var rfl good_dat)) (v_of (e_call (k_fd rfl ((k_cons mono_d (e_pn (k_consB mono_d (v_of (e_var rfl good_dat)) fun x91 => k_nil (ea_1 o1_len))) fun x90 => k_nil (ea_n (q__law_draw x90) rfl)))))) good_dat) fun x88 => k_nil (ea_tup [x87, x88] (Nat.le_of_ble_eq_true rfl))))))))))))))))))))
noncomputable def p__law_book (office_here1 : D) (most2 : D) : M D := M.bind (M.bind (lcD (M.bind (M.ok most2) rangeM) fun it3 => M.bind (p__law_name) fun v4 => M.ok (some v4)) fun a5 => op1 pSortSet a5) fun names6 => M.bind (lcD (M.bind (M.ok names6) iterM) fun it7 => M.bind (M.bind (M.ok (.int 12)) fun x8 => p__law_draw x8) fun v9 => M.ok (some v9)) fun kinds10 => M.bind (lcD (M.bind (M.ok names6) fun a11 => M.bind (M.ok kinds10) fun b12 => zipM a11 b12) fun it13 => un2 it13 fun name_here14 kind15 => M.bind (M.bind (M.ok (.int 4)) fun a17 => M.bind (M.ok kind15) fun b18 => M.bind (op2 pLe a17 b18) fun t20 => M.ite t20 (M.bind (M.ok (.int 6)) fun c19 => op2 pLt b18 c19) (M.ok (.bool false))) fun t21 => M.ite t21 (M.bind (M.ok name_here14) fun v16 => M.ok (some v16)) (M.ok none)) fun bags22 => M.bind (M.bind (lcD (M.bind (M.ok names6) fun a24 => M.bind (M.ok kinds10) fun b25 => zipM a24 b25) fun it26 => un2 it26 fun name_here27 kind28 => M.bind (M.bind (M.ok name_here27) fun x29 => (M.bind (M.bind (M.ok office_here1) fun x31 => (M.bind (M.ok kind28) fun x32 => (M.bind (M.ok names6) fun x33 => (M.bind (M.ok bags22) fun x34 => p__law_deed x31 x32 x33 x34)))) fun x30 => M.ok (.tuple [x29, x30]))) fun v35 => M.ok (some v35)) fun x23 => op1 pTupleOf x23) M.ok
set_option maxHeartbeats 0 in
theorem q__law_book (office_here1 : D) (most2 : D) : EvA m__law_book [.fd, .dat office_here1, .dat most2] (p__law_book office_here1 most2) :=
  def_d (L := [.fd, .dat office_here1, .dat most2, .any, .any, .any, .any, .any, .any]) rfl (by simp) (seqJ (asg (e_p1 o1_sortSet (v_of (e_lc (i_r1 (e_var rfl good_dat)) trivial fun it3 => cb_map tg_name (e_call (k_fd rfl (k_nil (ea_n (q__law_name ) rfl)))))) good_dat)) fun names6 => (seqJ (asg (e_lc (i_any (e_var rfl good_dat)) trivial fun it7 => cb_map tg_name (e_call (k_fd rfl ((k_cons mono_d (e_con good_dat) fun x8 => k_nil (ea_n (q__law_draw x8) rfl))))))) fun kinds10 => (seqJ (asg (e_lc (i_zip (e_var rfl good_dat) (e_var rfl good_dat)) trivial fun it13 => cb_un2 fun name_here14 kind15 => cb_if (tg_tup (tgs_cons tg_name (tgs_cons tg_name tgs_nil)) rfl) (e_chain o2_le o2_lt (v_of (e_con good_dat)) (v_of (e_var rfl good_dat)) (v_of (e_con good_dat))) (e_var rfl good_dat))) fun bags22 => (last (ret rets_d (e_pn (k_consB mono_d (v_of (e_lc (i_zip (e_var rfl good_dat) (e_var rfl good_dat)) trivial fun it26 => cb_un2 fun name_here27 kind28 => cb_map (tg_tup (tgs_cons tg_name (tgs_cons tg_name tgs_nil)) rfl) (e_pn (k_cons mono_d (e_var rfl good_dat) fun x29 => (k_cons mono_d (e_call (k_fd rfl ((k_cons mono_d (e_var rfl good_dat) fun x31 => (k_cons mono_d (e_var rfl good_dat) fun x32 => (k_cons mono_d (e_var rfl good_dat) fun x33 => (k_cons mono_d (e_var rfl good_dat) fun x34 => k_nil (ea_n (q__law_deed x31 x32 x33 x34) rfl)))))))) fun x30 => k_nil (ea_tup [x29, x30] (Nat.le_of_ble_eq_true rfl))))))) fun x23 => k_nil (ea_1 o1_tuple))))))))
noncomputable def p__law_counted (book_here1 : D) : M D := M.bind (lcD (M.bind (M.ok book_here1) iterM) fun it2 => un2 it2 fun name_here3 deed_here4 => M.bind (M.bind (M.bind (M.ok deed_here4) fun a8 => M.bind (M.ok (.int 0)) fun i9 => op2 pIx a8 i9) fun a10 => M.bind (M.ok (.str "void")) fun b11 => op2 pEq a10 b11) fun t12 => M.ite t12 (M.bind (M.bind (M.ok deed_here4) fun a5 => M.bind (M.ok (.int 1)) fun i6 => op2 pIx a5 i6) fun v7 => M.ok (some v7)) (M.ok none)) fun gone13 => M.bind (lcD (M.bind (M.ok book_here1) iterM) fun it14 => un2 it14 fun name_here15 deed_here16 => M.bind (M.bind (M.bind (M.bind (M.ok deed_here16) fun a18 => M.bind (M.ok (.int 0)) fun i19 => op2 pIx a18 i19) fun a20 => M.bind (M.ok (.str "bag")) fun b21 => op2 pEq a20 b21) fun t24 => M.ite t24 (M.bind (M.ok name_here15) fun a22 => M.bind (M.ok gone13) fun b23 => op2 pNotIn a22 b23) (M.ok (.bool false))) fun t25 => M.ite t25 (M.bind (M.ok name_here15) fun v17 => M.ok (some v17)) (M.ok none)) fun bags26 => M.bind (M.ok []) fun found28 => M.bind (M.bind (M.bind (M.ok book_here1) iterM) fun its55 => fold (fun it30 st29 => un2 it30 fun name_here31 deed_here32 => M.bind (M.bind (M.bind (M.bind (M.ok deed_here32) fun a33 => M.bind (M.ok (.int 0)) fun i34 => op2 pIx a33 i34) fun a35 => M.bind (M.ok (.str "void")) fun b36 => op2 pNe a35 b36) fun t49 => M.ite t49 (M.bind (M.bind (M.ok name_here31) fun a37 => M.bind (M.ok gone13) fun b38 => op2 pNotIn a37 b38) fun t48 => M.ite t48 (M.bind (M.bind (M.bind (M.ok deed_here32) fun a39 => M.bind (M.ok (.int 0)) fun i40 => op2 pIx a39 i40) fun a41 => M.bind (M.ok (.str "read")) fun b42 => op2 pNe a41 b42) fun t47 => M.ite t47 (M.ok (.bool true)) (M.bind (M.bind (M.ok deed_here32) fun a43 => M.bind (M.ok (.int 1)) fun i44 => op2 pIx a43 i44) fun a45 => M.bind (M.ok bags26) fun b46 => op2 pIn a45 b46)) (M.ok (.bool false))) (M.ok (.bool false))) fun t50 => M.ite t50 (M.bind (M.bind (M.bind (M.ok name_here31) fun x53 => (M.bind (M.ok deed_here32) fun x54 => M.ok (.tuple [x53, x54]))) fun v52 => push st29 v52) fun found51 => M.ok found51) (M.ok st29)) its55 found28) fun st29 => M.ok (.list st29)
set_option maxHeartbeats 0 in
theorem q__law_counted (book_here1 : D) : EvA m__law_counted [.dat book_here1] (p__law_counted book_here1) :=
  def_d (L := [.dat book_here1, .any, .any, .any, .any, .any]) rfl (by simp) (seqJ (asg (e_lc (i_any (e_var rfl good_dat)) trivial fun it2 => cb_un2 fun name_here3 deed_here4 => cb_if (tg_tup (tgs_cons tg_name (tgs_cons tg_name tgs_nil)) rfl) (e_p2 o2_eq (v_of (e_p2 o2_ix (v_of (e_var rfl good_dat)) (v_of (e_con good_dat)) good_dat)) (v_of (e_con good_dat)) good_dat) (e_p2 o2_ix (v_of (e_var rfl good_dat)) (v_of (e_con good_dat)) good_dat))) fun gone13 => (seqJ (asg (e_lc (i_any (e_var rfl good_dat)) trivial fun it14 => cb_un2 fun name_here15 deed_here16 => cb_if (tg_tup (tgs_cons tg_name (tgs_cons tg_name tgs_nil)) rfl) (e_and (e_p2 o2_eq (v_of (e_p2 o2_ix (v_of (e_var rfl good_dat)) (v_of (e_con good_dat)) good_dat)) (v_of (e_con good_dat)) good_dat) (e_p2 o2_notIn (v_of (e_var rfl good_dat)) (v_of (e_var rfl good_dat)) good_dat)) (e_var rfl good_dat))) fun bags26 => (alloc (o_pn (k_nil (ek_lst [] (Nat.le_of_ble_eq_true rfl)))) fun j27 found28 => (seqJ (mk := fun (st29 : List D) => [.dat book_here1, .dat gone13, .dat bags26, .own j27 st29, .any, .any]) (for_fold (a0 := found28) (i_any (e_var rfl good_dat)) (Le.eq (Le.eq (Le.eq (Le.eq (Le.any (Le.any Le.nil)))))) (fun _ => trivial) fun it30 st29 => tc_un2 fun name_here31 deed_here32 => tc (tl_tup (tl_cons tl_name (tl_cons tl_name tl_nil))) (tg_tup (tgs_cons tg_name (tgs_cons tg_name tgs_nil)) rfl) (last (dist (iff_ (e_and (e_p2 o2_ne (v_of (e_p2 o2_ix (v_of (e_var rfl good_dat)) (v_of (e_con good_dat)) good_dat)) (v_of (e_con good_dat)) good_dat) (e_and (e_p2 o2_notIn (v_of (e_var rfl good_dat)) (v_of (e_var rfl good_dat)) good_dat) (e_or (e_p2 o2_ne (v_of (e_p2 o2_ix (v_of (e_var rfl good_dat)) (v_of (e_con good_dat)) good_dat)) (v_of (e_con good_dat)) good_dat) (e_p2 o2_in (v_of (e_p2 o2_ix (v_of (e_var rfl good_dat)) (v_of (e_con good_dat)) good_dat)) (v_of (e_var rfl good_dat)) good_dat)))) (seqJ (append_ rfl (e_pn (k_cons mono_d (e_var rfl good_dat) fun x53 => (k_cons mono_d (e_var rfl good_dat) fun x54 => k_nil (ea_tup [x53, x54] (Nat.le_of_ble_eq_true rfl)))))) fun found51 => (end_f (a := found51) (Le.eq (Le.eq (Le.eq (Le.eq (Le.any (Le.any Le.nil)))))))) (passl (end_f (a := st29) (Le.eq (Le.eq (Le.eq (Le.eq (Le.any (Le.any Le.nil)))))))))))) fun st29 => (last (ret_shut rets_d rfl))))))
noncomputable def p__law_brings (deed_here1 : D) (place2 : D) : M D := M.bind (M.bind (M.bind (M.bind (M.ok deed_here1) fun a3 => M.bind (M.ok (.int 0)) fun i4 => op2 pIx a3 i4) fun a7 => M.bind (M.bind (M.ok (.str "move")) fun x5 => (M.bind (M.ok (.str "bag")) fun x6 => M.ok (.tuple [x5, x6]))) fun b8 => op2 pNotIn a7 b8) fun t17 => M.ite t17 (M.ok (.bool true)) (M.bind (M.ok place2) fun a15 => M.bind (M.bind (M.bind (M.ok deed_here1) fun a10 => M.bind (M.ok (.int 1)) fun i11 => op2 pIx a10 i11) fun x9 => (M.bind (M.bind (M.ok deed_here1) fun a13 => M.bind (M.ok (.int 2)) fun i14 => op2 pIx a13 i14) fun x12 => M.ok (.tuple [x9, x12]))) fun b16 => op2 pNotIn a15 b16)) fun t18 => M.ite t18 (M.bind (M.ok (.int 0)) M.ok) (M.bind (M.bind (M.ok deed_here1) fun a19 => M.bind (M.ok (.int 3)) fun i20 => op2 pIx a19 i20) fun many21 => M.bind (M.bind (M.bind (M.bind (M.ok deed_here1) fun a22 => M.bind (M.ok (.int 0)) fun i23 => op2 pIx a22 i23) fun a24 => M.bind (M.ok (.str "move")) fun b25 => op2 pEq a24 b25) fun t26 => M.ite t26 (M.bind (M.bind (lcD (M.bind (M.bind (M.ok deed_here1) fun a29 => M.bind (M.ok (.int 3)) fun i30 => op2 pIx a29 i30) iterM) fun it31 => un3 it31 fun series32 first33 end_34 => M.bind (M.bind (M.ok end_34) fun a35 => M.bind (M.ok first33) fun b36 => op2 pSub a35 b36) fun v37 => M.ok (some v37)) fun x28 => op1 pSum x28) fun many38 => M.ok many38) (M.ok many21)) fun st27 => M.bind (M.bind (M.bind (M.bind (M.ok deed_here1) fun a39 => M.bind (M.ok (.int 2)) fun i40 => op2 pIx a39 i40) fun a41 => M.bind (M.ok place2) fun b42 => op2 pEq a41 b42) fun t44 => M.ite t44 (M.ok st27) (M.bind (M.ok st27) fun a43 => op1 pNeg a43)) M.ok)
set_option maxHeartbeats 0 in
theorem q__law_brings (deed_here1 : D) (place2 : D) : EvA m__law_brings [.dat deed_here1, .dat place2] (p__law_brings deed_here1 place2) :=
  def_d (L := [.dat deed_here1, .dat place2, .any, .any, .any, .any]) rfl (by simp) (dist (iff_ (e_or (e_p2 o2_notIn (v_of (e_p2 o2_ix (v_of (e_var rfl good_dat)) (v_of (e_con good_dat)) good_dat)) (v_of (e_pn (k_cons mono_d (e_con good_dat) fun x5 => (k_cons mono_d (e_con good_dat) fun x6 => k_nil (ea_tup [x5, x6] (Nat.le_of_ble_eq_true rfl)))))) good_dat) (e_p2 o2_notIn (v_of (e_var rfl good_dat)) (v_of (e_pn (k_cons mono_d (e_p2 o2_ix (v_of (e_var rfl good_dat)) (v_of (e_con good_dat)) good_dat) fun x9 => (k_cons mono_d (e_p2 o2_ix (v_of (e_var rfl good_dat)) (v_of (e_con good_dat)) good_dat) fun x12 => k_nil (ea_tup [x9, x12] (Nat.le_of_ble_eq_true rfl)))))) good_dat)) (ret rets_d (e_con good_dat)) (passl (seqJ (asg (e_p2 o2_ix (v_of (e_var rfl good_dat)) (v_of (e_con good_dat)) good_dat)) fun many21 => (seqJ (mk := fun (st27 : D) => [.dat deed_here1, .dat place2, .dat st27, .any, .any, .any]) (iff_ (e_p2 o2_eq (v_of (e_p2 o2_ix (v_of (e_var rfl good_dat)) (v_of (e_con good_dat)) good_dat)) (v_of (e_con good_dat)) good_dat) (last (seqJ (asg (e_pn (k_consB mono_d (v_of (e_lc (i_any (e_p2 o2_ix (v_of (e_var rfl good_dat)) (v_of (e_con good_dat)) good_dat)) trivial fun it31 => cb_un3 fun series32 first33 end_34 => cb_map (tg_tup (tgs_cons tg_name (tgs_cons tg_name (tgs_cons tg_name tgs_nil))) rfl) (e_p2 o2_sub (v_of (e_var rfl good_dat)) (v_of (e_var rfl good_dat)) good_dat))) fun x28 => k_nil (ea_1 o1_sum)))) fun many38 => (end_j (a := many38) (Le.eq (Le.eq (Le.eq (Le.any (Le.any (Le.any Le.nil))))))))) (end_j (a := many21) (Le.eq (Le.eq (Le.eq (Le.any (Le.any (Le.any Le.nil)))))))) fun st27 => (last (ret rets_d (e_if (e_p2 o2_eq (v_of (e_p2 o2_ix (v_of (e_var rfl good_dat)) (v_of (e_con good_dat)) good_dat)) (v_of (e_var rfl good_dat)) good_dat) (e_var rfl good_dat) (e_p1 o1_neg (v_of (e_var rfl good_dat)) good_dat)))))))))
noncomputable def p__law_due (book_here1 : D) (place2 : D) : M D := M.bind (M.bind (M.ok book_here1) fun x3 => p__law_counted x3) fun pages4 => M.bind (M.ok []) fun found6 => M.bind (M.bind (M.bind (M.bind (M.ok pages4) fun x8 => op1 pLen x8) rangeM) fun its44 => fold (fun it9 st7 => M.bind (M.bind (M.ok pages4) fun a10 => M.bind (M.ok it9) fun i11 => op2 pIx a10 i11) fun v12 => un2 v12 fun name_here13 deed_here14 => M.bind (M.bind (M.bind (M.bind (M.ok deed_here14) fun a15 => M.bind (M.ok (.int 0)) fun i16 => op2 pIx a15 i16) fun a17 => M.bind (M.ok (.str "count")) fun b18 => op2 pEq a17 b18) fun t23 => M.ite t23 (M.bind (M.bind (M.ok deed_here14) fun a19 => M.bind (M.ok (.int 1)) fun i20 => op2 pIx a19 i20) fun a21 => M.bind (M.ok place2) fun b22 => op2 pEq a21 b22) (M.ok (.bool false))) fun t24 => M.ite t24 (M.bind (M.bind (M.bind (M.ok name_here13) fun x27 => (M.bind (M.bind (M.bind (M.ok deed_here14) fun a29 => M.bind (M.ok (.int 2)) fun i30 => op2 pIx a29 i30) fun a42 => M.bind (M.bind (lcD (M.bind (M.bind (M.ok pages4) fun a32 => M.bind (M.ok .none) fun l34 => parts l34 (M.bind (M.bind (M.ok it9) intM) fun h35 => op3 pSl a32 l34 h35)) iterM) fun it36 => M.bind (M.bind (M.bind (M.ok it36) fun a38 => M.bind (M.ok (.int 1)) fun i39 => op2 pIx a38 i39) fun x37 => (M.bind (M.ok place2) fun x40 => p__law_brings x37 x40)) fun v41 => M.ok (some v41)) fun x31 => op1 pSum x31) fun b43 => op2 pSub a42 b43) fun x28 => M.ok (.tuple [x27, x28]))) fun v26 => push st7 v26) fun found25 => M.ok found25) (M.ok st7)) its44 found6) fun st7 => M.ok (.list st7)
set_option maxHeartbeats 0 in
theorem q__law_due (book_here1 : D) (place2 : D) : EvA m__law_due [.dat book_here1, .dat place2] (p__law_due book_here1 place2) :=
  def_d (L := [.dat book_here1, .dat place2, .any, .any, .any, .any, .any, .any]) rfl (by simp) (seqJ (asg (e_call (k_cons mono_d (e_var rfl good_dat) fun x3 => k_nil (ea_n (q__law_counted x3) rfl)))) fun pages4 => (alloc (o_pn (k_nil (ek_lst [] (Nat.le_of_ble_eq_true rfl)))) fun j5 found6 => (seqJ (mk := fun (st7 : List D) => [.dat book_here1, .dat place2, .dat pages4, .own j5 st7, .any, .any, .any, .any]) (for_fold (a0 := found6) (i_r1 (e_pn (k_consB mono_d (v_of (e_var rfl good_dat)) fun x8 => k_nil (ea_1 o1_len)))) (Le.eq (Le.eq (Le.eq (Le.eq (Le.any (Le.any (Le.any (Le.any Le.nil)))))))) (fun _ => trivial) fun it9 st7 => tc tl_name tg_name (asgT (e_p2 o2_ix (v_of (e_var rfl good_dat)) (v_of (e_var rfl good_dat)) good_dat) fun v12 => tc_un2 fun name_here13 deed_here14 => tc (tl_tup (tl_cons tl_name (tl_cons tl_name tl_nil))) (tg_tup (tgs_cons tg_name (tgs_cons tg_name tgs_nil)) rfl) (last (dist (iff_ (e_and (e_p2 o2_eq (v_of (e_p2 o2_ix (v_of (e_var rfl good_dat)) (v_of (e_con good_dat)) good_dat)) (v_of (e_con good_dat)) good_dat) (e_p2 o2_eq (v_of (e_p2 o2_ix (v_of (e_var rfl good_dat)) (v_of (e_con good_dat)) good_dat)) (v_of (e_var rfl good_dat)) good_dat)) (seqJ (append_ rfl (e_pn (k_cons mono_d (e_var rfl good_dat) fun x27 => (k_cons mono_d (e_p2 o2_sub (v_of (e_p2 o2_ix (v_of (e_var rfl good_dat)) (v_of (e_con good_dat)) good_dat)) (v_of (e_pn (k_consB mono_d (v_of (e_lc (i_any (e_sl o3_sl (v_of (e_var rfl good_dat)) (e_con good_dat) (e_part (e_var rfl good_dat)) good_dat)) trivial fun it36 => cb_map tg_name (e_call (k_cons mono_d (e_p2 o2_ix (v_of (e_var rfl good_dat)) (v_of (e_con good_dat)) good_dat) fun x37 => (k_cons mono_d (e_var rfl good_dat) fun x40 => k_nil (ea_n (q__law_brings x37 x40) rfl)))))) fun x31 => k_nil (ea_1 o1_sum)))) good_dat) fun x28 => k_nil (ea_tup [x27, x28] (Nat.le_of_ble_eq_true rfl)))))) fun found25 => (end_f (a := found25) (Le.eq (Le.eq (Le.eq (Le.eq (Le.any (Le.any (Le.any (Le.any Le.nil)))))))))) (passl (end_f (a := st7) (Le.eq (Le.eq (Le.eq (Le.eq (Le.any (Le.any (Le.any (Le.any Le.nil))))))))))))))) fun st7 => (last (ret_shut rets_d rfl)))))
noncomputable def p_law : M D := M.bind (M.bind (M.bind (M.ok (.int 14)) fun x2 => (M.bind (M.ok (.int 40)) fun x3 => M.ok (.list [x2, x3]))) fun a4 => M.bind (M.bind (M.bind (M.bind (M.ok (.int 8)) fun x6 => p__law_draw x6) fun a7 => M.bind (M.ok (.int 0)) fun b8 => op2 pEq a7 b8) fun x5 => op1 pInt x5) fun i9 => op2 pIx a4 i9) fun most10 => M.bind (p__law_office) fun office_here11 => M.bind (M.bind (M.ok office_here11) fun x12 => (M.bind (M.ok most10) fun x13 => p__law_book x12 x13)) fun book_here14 => M.bind (M.bind (M.bind (M.ok book_here14) fun x16 => op1 pLen x16) fun x15 => p__law_draw x15) fun at_17 => M.bind (M.bind (M.bind (M.ok book_here14) fun a18 => M.bind (M.ok .none) fun l20 => parts l20 (M.bind (M.bind (M.ok at_17) intM) fun h21 => op3 pSl a18 l20 h21)) fun a28 => M.bind (M.bind (M.ok book_here14) fun a22 => M.bind (M.bind (M.bind (M.ok at_17) fun a23 => M.bind (M.ok (.int 1)) fun b24 => op2 pAdd a23 b24) intM) fun l26 => parts l26 (M.bind (M.ok .none) fun h27 => op3 pSl a22 l26 h27)) fun b29 => op2 pAdd a28 b29) fun fewer30 => M.bind (M.bind (M.bind (M.bind (lcD (M.bind (M.bind (M.ok office_here11) fun a31 => M.bind (M.ok (.int 1)) fun i32 => op2 pIx a31 i32) iterM) fun it33 => M.bind (M.bind (M.ok it33) fun a34 => M.bind (M.ok (.int 0)) fun i35 => op2 pIx a34 i35) fun v36 => M.ok (some v36)) fun a43 => M.bind (lcD (M.bind (M.bind (M.ok office_here11) fun a37 => M.bind (M.ok (.int 1)) fun i38 => op2 pIx a37 i38) iterM) fun it39 => M.bind (M.bind (M.ok it39) fun a40 => M.bind (M.ok (.int 1)) fun i41 => op2 pIx a40 i41) fun v42 => M.ok (some v42)) fun b44 => op2 pAdd a43 b44) fun a47 => M.bind (M.bind (M.ok (.str "none")) fun x45 => (M.bind (M.ok (.str "zz")) fun x46 => M.ok (.list [x45, x46]))) fun b48 => op2 pAdd a47 b48) fun a49 => op1 pSortSet a49) fun places50 => M.bind (M.bind (M.bind (M.ok book_here14) fun x52 => (M.bind (M.ok fewer30) fun x53 => (M.bind (M.ok book_here14) fun x54 => M.ok (.tuple [x52, x53, x54])))) iterM) fun its87 => M.bind (loop (fun it55 (st51 : Unit) => M.bind (M.bind (M.ok it55) fun x56 => op1 pRepr x56) fun kept57 => M.bind (M.bind (M.ok places50) iterM) fun its85 => M.bind (loop (fun it59 (st58 : Unit) => M.bind (M.bind (M.ok it55) fun x60 => (M.bind (M.ok it59) fun x61 => p_offs x60 x61)) fun told63 => M.bind (M.bind (M.bind (M.ok (.list told63)) fun x64 => (M.bind (M.bind (M.ok it55) fun x66 => (M.bind (M.ok it59) fun x67 => p__law_due x66 x67)) fun x65 => p__law_same x64 x65)) fun a68 => M.ite a68 (M.ok (.bool false)) (M.ok (.bool true))) fun t69 => M.ite t69 (M.bind (M.ok (.bool false)) (fun d => M.ok (.ret d))) (M.bind (M.bind (M.ok .none) fun v71 => push told63 v71) fun told70 => M.bind (M.bind (M.bind (M.bind (M.bind (M.bind (M.ok it55) fun x73 => (M.bind (M.ok it59) fun x74 => p_offs x73 x74)) fun w75 => M.ok (.list w75)) fun x72 => (M.bind (M.bind (M.ok it55) fun x77 => (M.bind (M.ok it59) fun x78 => p__law_due x77 x78)) fun x76 => p__law_same x72 x76)) fun a79 => M.ite a79 (M.ok (.bool false)) (M.ok (.bool true))) fun t83 => M.ite t83 (M.ok (.bool true)) (M.bind (M.bind (M.ok it55) fun x80 => op1 pRepr x80) fun a81 => M.bind (M.ok kept57) fun b82 => op2 pNe a81 b82)) fun t84 => M.ite t84 (M.bind (M.ok (.bool false)) (fun d => M.ok (.ret d))) (M.ok (.go ())))) its85 ()) fun l86 => elim l86 (fun st58 => M.ok (.go ())) (fun d => M.ok (.ret d))) its87 ()) fun l88 => elim l88 (fun st51 => M.bind (M.ok (.bool true)) M.ok) M.ok
noncomputable def c_law : GS :=
    (sSeq (sAsg (gP2 pIx (gPN pLst (gCons (gC (.dat (.int 14))) (gCons (gC (.dat (.int 40))) gNil))) (gPN pInt (gCons (gP2 pEq (gCall 2 m__law_draw (gCons (gVar 1) (gCons (gC (.dat (.int 8))) gNil))) (gC (.dat (.int 0)))) gNil))) (tName 2))
    (sSeq (sAsg (gCall 1 m__law_office (gCons (gVar 1) gNil)) (tName 3))
    (sSeq (sAsg (gCall 3 m__law_book (gCons (gVar 1) (gCons (gVar 3) (gCons (gVar 2) gNil)))) (tName 4))
    (sSeq (sAsg (gCall 2 m__law_draw (gCons (gVar 1) (gCons (gPN pLen (gCons (gVar 4) gNil)) gNil))) (tName 5))
    (sSeq (sAsg (gP2 pAdd (gSl (gVar 4) (gC (.dat .none)) (gPart (gVar 5))) (gSl (gVar 4) (gPart (gP2 pAdd (gVar 5) (gC (.dat (.int 1))))) (gC (.dat .none)))) (tName 6))
    (sSeq (sAsg (gP1 pSortSet (gP2 pAdd (gP2 pAdd (gPN pLst (gLcA [12] (gIter (gP2 pIx (gVar 3) (gC (.dat (.int 1))))) (tName 12) gYes (gP2 pIx (gVar 12) (gC (.dat (.int 0)))))) (gPN pLst (gLcA [12] (gIter (gP2 pIx (gVar 3) (gC (.dat (.int 1))))) (tName 12) gYes (gP2 pIx (gVar 12) (gC (.dat (.int 1))))))) (gPN pLst (gCons (gC (.dat (.str "none"))) (gCons (gC (.dat (.str "zz"))) gNil))))) (tName 7))
    (sSeq (sFor (gIter (gPN pTup (gCons (gVar 4) (gCons (gVar 6) (gCons (gVar 4) gNil))))) (tName 8) (sSeq (sAsg (gPN pRepr (gCons (gVar 8) gNil)) (tName 9))
    (sFor (gIter (gVar 7)) (tName 10) (sSeq (sAsg (gCall 2 m_offs (gCons (gVar 8) (gCons (gVar 10) gNil))) (tName 11))
    (sSeq (sIf (gNot (gCall 2 m__law_same (gCons (gVar 11) (gCons (gCall 2 m__law_due (gCons (gVar 8) (gCons (gVar 10) gNil))) gNil)))) (sRet (gC (.dat (.bool false)))) sPass)
    (sSeq (sDrop (gMt false pAppend (gVar 11) (gCons (gC (.dat .none)) gNil)))
    (sIf (gOr (gNot (gCall 2 m__law_same (gCons (gCall 2 m_offs (gCons (gVar 8) (gCons (gVar 10) gNil))) (gCons (gCall 2 m__law_due (gCons (gVar 8) (gCons (gVar 10) gNil))) gNil)))) (gP2 pNe (gPN pRepr (gCons (gVar 8) gNil)) (gVar 9))) (sRet (gC (.dat (.bool false)))) sPass)))))))
    (sRet (gC (.dat (.bool true)))))))))))
theorem b_law_eq : b_law = sSeq (sAsg (gCall 1 m__law_feed (gCons (gVar 0) gNil)) (tName 1)) c_law := rfl
set_option maxHeartbeats 0 in
theorem q_law : EC RD [.any, .fd, .any, .any, .any, .any, .any, .any, .any, .any, .any, .any, .any] c_law p_law :=
  (seqJ (asg (e_p2 o2_ix (v_of (e_pn (k_cons mono_d (e_con good_dat) fun x2 => (k_cons mono_d (e_con good_dat) fun x3 => k_nil (ea_lst [x2, x3] (Nat.le_of_ble_eq_true rfl)))))) (v_of (e_pn (k_consB mono_d (v_of (e_p2 o2_eq (v_of (e_call (k_fd rfl ((k_cons mono_d (e_con good_dat) fun x6 => k_nil (ea_n (q__law_draw x6) rfl)))))) (v_of (e_con good_dat)) good_dat)) fun x5 => k_nil (ea_1 o1_int)))) good_dat)) fun most10 => (seqJ (asg (e_call (k_fd rfl (k_nil (ea_n (q__law_office ) rfl))))) fun office_here11 => (seqJ (asg (e_call (k_fd rfl ((k_cons mono_d (e_var rfl good_dat) fun x12 => (k_cons mono_d (e_var rfl good_dat) fun x13 => k_nil (ea_n (q__law_book x12 x13) rfl))))))) fun book_here14 => (seqJ (asg (e_call (k_fd rfl ((k_cons mono_d (e_pn (k_consB mono_d (v_of (e_var rfl good_dat)) fun x16 => k_nil (ea_1 o1_len))) fun x15 => k_nil (ea_n (q__law_draw x15) rfl)))))) fun at_17 => (seqJ (asg (e_p2 o2_add (v_of (e_sl o3_sl (v_of (e_var rfl good_dat)) (e_con good_dat) (e_part (e_var rfl good_dat)) good_dat)) (v_of (e_sl o3_sl (v_of (e_var rfl good_dat)) (e_part (e_p2 o2_add (v_of (e_var rfl good_dat)) (v_of (e_con good_dat)) good_dat)) (e_con good_dat) good_dat)) good_dat)) fun fewer30 => (seqJ (asg (e_p1 o1_sortSet (v_of (e_p2 o2_add (v_of (e_p2 o2_add (v_of (e_lc (i_any (e_p2 o2_ix (v_of (e_var rfl good_dat)) (v_of (e_con good_dat)) good_dat)) trivial fun it33 => cb_map tg_name (e_p2 o2_ix (v_of (e_var rfl good_dat)) (v_of (e_con good_dat)) good_dat))) (v_of (e_lc (i_any (e_p2 o2_ix (v_of (e_var rfl good_dat)) (v_of (e_con good_dat)) good_dat)) trivial fun it39 => cb_map tg_name (e_p2 o2_ix (v_of (e_var rfl good_dat)) (v_of (e_con good_dat)) good_dat))) good_dat)) (v_of (e_pn (k_cons mono_d (e_con good_dat) fun x45 => (k_cons mono_d (e_con good_dat) fun x46 => k_nil (ea_lst [x45, x46] (Nat.le_of_ble_eq_true rfl)))))) good_dat)) good_dat)) fun places50 => (for_loop (mk := fun (st51 : Unit) => [.any, .fd, .dat most10, .dat office_here11, .dat book_here14, .dat at_17, .dat fewer30, .dat places50, .any, .any, .any, .any, .any]) (a0 := ()) (i_any (e_pn (k_cons mono_d (e_var rfl good_dat) fun x52 => (k_cons mono_d (e_var rfl good_dat) fun x53 => (k_cons mono_d (e_var rfl good_dat) fun x54 => k_nil (ea_tup [x52, x53, x54] (Nat.le_of_ble_eq_true rfl))))))) (Le.any (Le.eq (Le.eq (Le.eq (Le.eq (Le.eq (Le.eq (Le.eq (Le.any (Le.any (Le.any (Le.any (Le.any Le.nil))))))))))))) (fun _ => trivial) (fun it55 st51 => tc tl_name tg_name (seqJ (asg (e_pn (k_consB mono_d (v_of (e_var rfl good_dat)) fun x56 => k_nil (ea_1 o1_repr)))) fun kept57 => (last (for_loop (mk := fun (st58 : Unit) => [.any, .fd, .dat most10, .dat office_here11, .dat book_here14, .dat at_17, .dat fewer30, .dat places50, .dat it55, .dat kept57, .any, .any, .any]) (a0 := ()) (i_any (e_var rfl good_dat)) (Le.any (Le.eq (Le.eq (Le.eq (Le.eq (Le.eq (Le.eq (Le.eq (Le.eq (Le.eq (Le.any (Le.any (Le.any Le.nil))))))))))))) (fun _ => trivial) (fun it59 st58 => tc tl_name tg_name (alloc (o_call (k_cons mono_k (e_var rfl good_dat) fun x60 => (k_cons mono_k (e_var rfl good_dat) fun x61 => k_nil (ea_n (q_offs x60 x61) rfl)))) fun j62 told63 => (dist (iff_ (e_not (e_call (k_consB mono_d (v_own rfl) fun x64 => (k_cons mono_d (e_call (k_cons mono_d (e_var rfl good_dat) fun x66 => (k_cons mono_d (e_var rfl good_dat) fun x67 => k_nil (ea_n (q__law_due x66 x67) rfl)))) fun x65 => k_nil (ea_n (q__law_same x64 x65) rfl))))) (ret rets_l (e_con good_dat)) (passl (seqJ (append_ rfl (e_con good_dat)) fun told70 => (last (dist (iff_ (e_or (e_not (e_call (k_consB mono_d (v_ownof (o_call (k_cons mono_k (e_var rfl good_dat) fun x73 => (k_cons mono_k (e_var rfl good_dat) fun x74 => k_nil (ea_n (q_offs x73 x74) rfl))))) fun x72 => (k_cons mono_d (e_call (k_cons mono_d (e_var rfl good_dat) fun x77 => (k_cons mono_d (e_var rfl good_dat) fun x78 => k_nil (ea_n (q__law_due x77 x78) rfl)))) fun x76 => k_nil (ea_n (q__law_same x72 x76) rfl))))) (e_p2 o2_ne (v_of (e_pn (k_consB mono_d (v_of (e_var rfl good_dat)) fun x80 => k_nil (ea_1 o1_repr)))) (v_of (e_var rfl good_dat)) good_dat)) (ret rets_l (e_con good_dat)) (passl (end_l (a := ()) (Le.any (Le.eq (Le.eq (Le.eq (Le.eq (Le.eq (Le.eq (Le.eq (Le.eq (Le.eq (Le.any (Le.any (Le.any Le.nil)))))))))))))))))))))))) rets_l fun st58 => (end_l (a := ()) (Le.any (Le.eq (Le.eq (Le.eq (Le.eq (Le.eq (Le.eq (Le.eq (Le.any (Le.any (Le.any (Le.any (Le.any Le.nil)))))))))))))))))) rets_d fun st51 => (last (ret rets_d (e_con good_dat))))))))))
theorem law_by {N : Nat} (hy : Yl N p_law fun d => d = .bool true) (hN : N ≤ 1000000000) (ns : List Int) : ∃ B', m_law [.scr ns] [] = .ok (.dat (.bool true)) B' := law_of (n := 11) q_law hy hN ns
end Lw

set_option maxRecDepth 100000
set_option maxHeartbeats 4000000
namespace Lw
open PySem L2 PO Bk
open PN hiding RF RO e_and e_call e_chain e_if e_isi e_lc e_mt e_not e_or e_part e_sl i_any i_zip
abbrev bkD (pg : List Page) : D := .tuple (pg.map pageD)
/-- the names that void pages name -/
def vn (pg : List Page) : List Nm := pg.filterMap fun p => match p.2 with
  | .void nm => some nm
  | _ => none
open Classical in
noncomputable def gone (pg : List Page) : List Nm := pg.filterMap fun p => if kind p.2 ≠ "void" ∧ p.1 ∈ vn pg then some p.1 else none
open Classical in
noncomputable def bags (gs : List Nm) (pg : List Page) : List Nm := pg.filterMap fun p => if kind p.2 = "bag" ∧ p.1 ∉ gs then some p.1 else none
def rd : Deed → Option Nm
  | .read nm _ => some nm
  | _ => none
def okP (gs bs : List Nm) (p : Page) : Prop := kind p.2 ≠ "void" ∧ p.1 ∉ gs ∧ ∀ nm, rd p.2 = some nm → nm ∈ bs
open Classical in
theorem fm_if {α β : Type} (P : α → Prop) (f : α → β) : ∀ l : List α, (l.filterMap fun p => if P p then some (f p) else none) = (l.filter fun p => decide (P p)).map f
  | [] => rfl
  | a :: l => by
    rw [List.filterMap_cons, fm_if P f l]
    by_cases h : P a
    · simp [h]
    · simp [h]
theorem fm_congr {α β : Type} {f g : α → Option β} : ∀ {l : List α}, (∀ x ∈ l, f x = g x) → l.filterMap f = l.filterMap g
  | [], _ => rfl
  | a :: l, h => by rw [List.filterMap_cons, List.filterMap_cons, h a List.mem_cons_self, fm_congr fun x m => h x (List.mem_cons_of_mem _ m)]
theorem fm_len {α β : Type} {f : α → Option β} : ∀ {l : List α}, (l.filterMap f).length ≤ l.length
  | [] => Nat.le_refl _
  | a :: l => by
    rw [List.filterMap_cons]
    have := fm_len (f := f) (l := l)
    cases f a with
    | none => exact Nat.le_succ_of_le this
    | some b => exact Nat.succ_le_succ this
section
variable {pg : List Page} (hb : Book pg)
include hb
theorem vn_ok : (vn pg).length ≤ 40 ∧ ∀ n ∈ vn pg, GNm n := by
  refine ⟨Nat.le_trans fm_len hb.len, fun n m => ?_⟩
  obtain ⟨p, mp, e⟩ := List.mem_filterMap.mp m
  have g := hb.dd p mp
  revert e g
  cases p.2 with
  | void nm => exact fun e g => by cases e; exact g
  | _ => exact fun e => by cases e
theorem gone_ok : (gone pg).length ≤ 40 ∧ ∀ n ∈ gone pg, GNm n := by
  refine ⟨Nat.le_trans fm_len hb.len, fun n m => ?_⟩
  obtain ⟨p, mp, e⟩ := List.mem_filterMap.mp m
  split at e
  · cases e; exact hb.nm p mp
  · cases e
theorem bags_ok (gs : List Nm) : (bags gs pg).length ≤ 40 ∧ ∀ n ∈ bags gs pg, GNm n := by
  refine ⟨Nat.le_trans fm_len hb.len, fun n m => ?_⟩
  obtain ⟨p, mp, e⟩ := List.mem_filterMap.mp m
  split at e
  · cases e; exact hb.nm p mp
  · cases e
theorem long : pg.length ≤ 100000 := Nat.le_trans hb.len (by decide)
theorem e_voided : p_voided (bkD pg) = M.ok (.tuple ((gone pg).map nmD)) := by
  obtain ⟨vl, vg⟩ := vn_ok hb
  unfold p_voided
  simp only [M.ok_bind, iter_t]
  rw [lc_map (h := pageD) (fun p => match p.2 with | .void nm => some (nmD nm) | _ => none) (long hb) ?h1]
  case h1 =>
    rintro ⟨n, e⟩ mp
    show un2 (.tuple [nmD n, deedD e]) _ = _
    simp only [un2_t, M.ok_bind, M.bind_assoc, ix0, m_eqS, m_ite]
    by_cases hv : kind e = "void"
    · obtain ⟨nm, rfl⟩ := kind_void hv
      rw [if_pos (decide_eq_true hv)]
      simp only [deedD, m_ixT, at1, M.opt_some, M.ok_bind]
    · rw [if_neg (by simpa using hv)]
      cases e <;> first | rfl | exact absurd rfl hv
  have e1 : (pg.filterMap fun p => match p.2 with | .void nm => some (nmD nm) | _ => none) = (vn pg).map nmD := by
    unfold vn
    rw [List.map_filterMap]
    congr 1
    funext p
    cases p.2 <;> rfl
  rw [e1]
  simp only [M.ok_bind, M.bind_ok]
  rw [lc_map (h := pageD) (fun p => if kind p.2 ≠ "void" ∧ p.1 ∈ vn pg then some (nmD p.1) else none) (long hb) ?h2]
  case h2 =>
    rintro ⟨n, e⟩ mp
    show un2 (.tuple [nmD n, deedD e]) _ = _
    simp only [un2_t, M.ok_bind, M.bind_assoc, ix0, m_neS, m_ite, (in_names (hb.nm _ mp) vg vl).2.2.1]
    by_cases hv : kind e = "void" <;> by_cases hm : n ∈ vn pg <;> simp [hv, hm, M.ok_bind, M.ite_t, M.ite_f]
  have e2 : (pg.filterMap fun p => if kind p.2 ≠ "void" ∧ p.1 ∈ vn pg then some (nmD p.1) else none) = (gone pg).map nmD := by
    unfold gone
    rw [List.map_filterMap]
    congr 1
    funext p
    split <;> rfl
  rw [e2, M.ok_bind, m_tupL]
theorem e_bags : p_bags_in (bkD pg) = M.ok (.list ((bags (gone pg) pg).map nmD)) := by
  obtain ⟨vl, vg⟩ := gone_ok hb
  unfold p_bags_in
  simp only [M.ok_bind, iter_t, M.bind_ok, e_voided hb]
  rw [lc_map (h := pageD) (fun p => if kind p.2 = "bag" ∧ p.1 ∉ gone pg then some (nmD p.1) else none) (long hb) ?h2]
  case h2 =>
    rintro ⟨n, e⟩ mp
    show un2 (.tuple [nmD n, deedD e]) _ = _
    simp only [un2_t, M.ok_bind, M.bind_assoc, ix0, m_eqS, m_ite, (in_names (hb.nm _ mp) vg vl).2.1]
    by_cases hv : kind e = "bag" <;> by_cases hm : n ∈ gone pg <;> simp [hv, hm, M.ok_bind, M.ite_t, M.ite_f]
  congr 2
  unfold bags
  rw [List.map_filterMap]
  congr 1
  funext p
  split <;> rfl
theorem rd_ix {e : Deed} (h : kind e = "read") : ∃ nm, rd e = some nm ∧ op2 pIx (deedD e) (.int 1) = M.ok (nmD nm) := by
  obtain ⟨nm, us, rfl⟩ := kind_read h
  exact ⟨nm, rfl, by rw [deedD, m_ixT, at1]; rfl⟩
theorem rd_no {e : Deed} (h : kind e ≠ "read") : rd e = none := by
  cases e <;> first | rfl | exact absurd rfl h
theorem rd_good {e : Deed} {nm : Nm} (h : GDeed GNm e) (q : rd e = some nm) : GNm nm := by
  cases e <;> first | (cases q; done) | (cases q; exact h.1)
open Classical in
theorem test_ok {gs bs : List Nm} (gl : gs.length ≤ 40 ∧ ∀ n ∈ gs, GNm n) (bl : bs.length ≤ 40 ∧ ∀ n ∈ bs, GNm n) {n : Nm} {e : Deed} (mp : (n, e) ∈ pg) {T : Nm → M D} (hT : T n = M.ok (.bool (!decide (n ∈ gs)))) {α : Type} {x y : M α} :
    (M.bind (M.bind (M.bind (M.bind (M.ok (deedD e)) fun a => M.bind (M.ok (.int 0)) fun i => op2 pIx a i) fun a => M.bind (M.ok (.str "void")) fun b => op2 pNe a b) fun t28 => M.ite t28 (M.bind (T n) fun t27 => M.ite t27 (M.bind (M.bind (M.bind (M.ok (deedD e)) fun a => M.bind (M.ok (.int 0)) fun i => op2 pIx a i) fun a20 => M.bind (M.ok (.str "read")) fun b21 => op2 pNe a20 b21) fun t26 => M.ite t26 (M.ok (.bool true)) (M.bind (M.bind (M.ok (deedD e)) fun a22 => M.bind (M.ok (.int 1)) fun i23 => op2 pIx a22 i23) fun a24 => M.bind (M.ok (.list (bs.map nmD))) fun b25 => op2 pIn a24 b25)) (M.ok (.bool false))) (M.ok (.bool false))) fun t29 => M.ite t29 x y) = if okP gs bs (n, e) then x else y := by
  simp only [M.ok_bind, M.bind_assoc, ix0, m_neS, m_ite, hT]
  by_cases hv : kind e = "void"
  · have : ¬ okP gs bs (n, e) := fun z => z.1 hv
    simp [hv, this, M.ok_bind, M.ite_f]
  · by_cases hm : n ∈ gs
    · have : ¬ okP gs bs (n, e) := fun z => z.2.1 hm
      simp [hv, hm, this, M.ok_bind, M.ite_f, M.ite_t]
    · by_cases hr : kind e = "read"
      · have rv : ¬ ("read" : Str) = "void" := by decide
        obtain ⟨nm, h1, h2⟩ := rd_ix hb hr
        have hin := (in_names (rd_good hb (hb.dd _ mp) h1) bl.2 bl.1).2.2.1
        by_cases hq : nm ∈ bs
        · have : okP gs bs (n, e) := ⟨hv, hm, fun z hz => by rw [h1] at hz; cases hz; exact hq⟩
          simp [hv, hm, hr, rv, this, h2, hin, hq, M.ok_bind, M.ite_f, M.ite_t]
        · have : ¬ okP gs bs (n, e) := fun z => hq (z.2.2 nm h1)
          simp [hv, hm, hr, rv, this, h2, hin, hq, M.ok_bind, M.ite_f, M.ite_t]
      · have : okP gs bs (n, e) := ⟨hv, hm, fun z hz => by rw [rd_no hb hr] at hz; cases hz⟩
        simp [hv, hm, hr, this, M.ok_bind, M.ite_f, M.ite_t]
end
open Classical in
noncomputable def cp (gs bs : List Nm) (pg : List Page) : List Page := pg.filter fun p => decide (okP gs bs p)
section
variable {γ : Type} {δ : Type}
theorem fold_inv {f : D → γ → M γ} : ∀ {its : List D} {a : γ} (I : Nat → γ → Prop), I 0 a → (∀ j d b, its[j]? = some d → I j b → ∃ b', f d b = M.ok b' ∧ I (j + 1) b') → ∃ b, fold f its a = M.ok b ∧ I its.length b
  | [], a, I, h0, _ => ⟨a, rfl, h0⟩
  | d :: ds, a, I, h0, hs => by
    obtain ⟨b, e, i1⟩ := hs 0 d a rfl h0
    obtain ⟨c, e2, i2⟩ := fold_inv (fun j => I (j + 1)) i1 fun j x b hx hb => hs (j + 1) x b (by simpa using hx) hb
    refine ⟨c, ?_, i2⟩
    unfold PO.fold
    rw [e, M.ok_bind]
    exact e2
theorem take_succ' {α : Type} {l : List α} {j : Nat} {x : α} (h : l[j]? = some x) : l.take (j + 1) = l.take j ++ [x] := by
  rw [List.take_add_one, h]
  rfl
end
section
variable {pg : List Page} (hb : Book pg)
include hb
open Classical in
theorem e_counted : p_counted (bkD pg) = M.ok (.tuple ((cp (gone pg) (bags (gone pg) pg) pg).map fun p => nmD p.1)) := by
  have gl := gone_ok hb
  have bl := bags_ok hb (gone pg)
  generalize hgs : gone pg = gs at gl bl ⊢
  generalize hbs : bags gs pg = bs at bl ⊢
  have ev := e_voided hb
  have eb := e_bags hb
  rw [hgs] at ev eb
  rw [hbs] at eb
  unfold p_counted
  simp only [M.ok_bind, iter_t, M.bind_ok, ev, eb]
  obtain ⟨st, e, I⟩ := fold_inv (f := fun it9 st8 => un2 it9 fun name10 deed11 => M.bind (M.bind (M.bind (M.bind (M.ok deed11) fun a12 => M.bind (M.ok (.int 0)) fun i13 => op2 pIx a12 i13) fun a14 => M.bind (M.ok (.str "void")) fun b15 => op2 pNe a14 b15) fun t28 => M.ite t28 (M.bind (op2 pNotIn name10 (.tuple (gs.map nmD))) fun t27 => M.ite t27 (M.bind (M.bind (M.bind (M.ok deed11) fun a18 => M.bind (M.ok (.int 0)) fun i19 => op2 pIx a18 i19) fun a20 => M.bind (M.ok (.str "read")) fun b21 => op2 pNe a20 b21) fun t26 => M.ite t26 (M.ok (.bool true)) (M.bind (M.bind (M.ok deed11) fun a22 => M.bind (M.ok (.int 1)) fun i23 => op2 pIx a22 i23) fun a24 => M.bind (M.ok (.list (bs.map nmD))) fun b25 => op2 pIn a24 b25)) (M.ok (.bool false))) (M.ok (.bool false))) fun t29 => M.ite t29 (push st8 name10) (M.ok st8))
    (its := pg.map pageD) (a := []) (fun j st => st = ((pg.take j).filter fun p => decide (okP gs bs p)).map fun p => nmD p.1) rfl fun j d st hd hI => by
    rw [List.getElem?_map] at hd
    obtain ⟨⟨n, e⟩, hp, rfl⟩ := Option.map_eq_some_iff.mp hd
    have mp := List.mem_of_getElem? hp
    rw [take_succ' hp, List.filter_append, List.map_append, ← hI]
    show ∃ b', un2 (.tuple [nmD n, deedD e]) _ = M.ok b' ∧ _
    rw [un2_t, test_ok hb gl bl mp (T := fun n => op2 pNotIn (nmD n) (.tuple (gs.map nmD))) (in_names (hb.nm _ mp) gl.2 gl.1).2.1]
    have sl : st.length < 1000000 := by
      rw [hI, List.length_map]
      have := List.length_filter_le (fun p => decide (okP gs bs p)) (pg.take j)
      have := List.length_take_le' j pg
      have := hb.len
      omega
    by_cases q : okP gs bs (n, e)
    · rw [if_pos q, m_push sl]
      exact ⟨_, rfl, by simp [q]⟩
    · rw [if_neg q]
      exact ⟨_, rfl, by simp [q]⟩
  rw [List.length_map, List.take_length] at I
  simp only [M.ok_bind, M.bind_assoc, M.bind_ok] at e ⊢
  rw [e]
  simp only [M.ok_bind, m_tupL, I]
  rfl
end
/-! ### the dict of names -/
theorem keys_put {ps : List (D × D)} {k v j : D} : j ∈ (putP ps k v).map (·.1) ↔ j ∈ ps.map (·.1) ∨ j = k := by
  classical
  unfold putP
  split
  · rename_i h
    have e : (ps.map fun p => if p.1 = k then (p.1, v) else p).map (·.1) = ps.map (·.1) := by
      rw [List.map_map]
      congr 1
      funext p
      show (if p.1 = k then (p.1, v) else p).1 = p.1
      split <;> rfl
    rw [e]
    refine ⟨.inl, fun z => z.elim id fun e => ?_⟩
    rw [List.any_eq_true] at h
    obtain ⟨p, mp, q⟩ := h
    have q := of_decide_eq_true q
    rw [e, ← q]
    exact List.mem_map_of_mem mp
  · rw [List.map_append, List.mem_append]
    simp
theorem keys_merge {j : D} : ∀ {qs ps : List (D × D)}, j ∈ (mergeP ps qs).map (·.1) ↔ j ∈ ps.map (·.1) ∨ j ∈ qs.map (·.1)
  | [], ps => by
    show j ∈ ps.map (·.1) ↔ _
    simp
  | q :: qs, ps => by
    have e : mergeP ps (q :: qs) = mergeP (putP ps q.1 q.2) qs := rfl
    rw [e, keys_merge, keys_put, List.map_cons, List.mem_cons]
    constructor
    · rintro ((h | h) | h)
      · exact .inl h
      · exact .inr (.inl h)
      · exact .inr (.inr h)
    · rintro (h | h | h)
      · exact .inl (.inl h)
      · exact .inl (.inr h)
      · exact .inr h
theorem val_some {ps : List (D × D)} {k : D} : (valP ps k).isSome = true ↔ k ∈ ps.map (·.1) := by
  classical
  unfold valP
  rw [Option.isSome_map, List.find?_isSome]
  constructor
  · rintro ⟨p, mp, q⟩
    rw [← of_decide_eq_true q]
    exact List.mem_map_of_mem mp
  · intro m
    obtain ⟨p, mp, q⟩ := List.mem_map.mp m
    exact ⟨p, mp, decide_eq_true q⟩
theorem nm_key (n : Nm) : nmD n = tD [.inl n.1, .inl n.2.1, .inr n.2.2] := rfl
theorem pairs_map {α : Type} {f g : α → D} : ∀ {l : List α}, pairsOf (l.map fun x => PyData.tuple [f x, g x]) = some (l.map fun x => (f x, g x))
  | [] => rfl
  | x :: l => by
    rw [List.map_cons]
    unfold pairsOf
    rw [pairs_map]
    rfl
open Classical in
theorem m_dict {ds : List D} {d : D} (h : dictD ds = some d) : op1 pDict (.list ds) = M.ok d := by
  refine op1_val (B' := []) ?_
  show (some (ds.map S.dat)).bind (fun ss => (datsOf ss).bind fun ds => (dictD ds).bind fun d => some (S.dat d, ([] : Bs))) = _
  rw [Option.bind_some, datsOf_map, Option.bind_some, h]
  rfl
section
variable {pg : List Page} (hb : Book pg)
include hb
open Classical in
theorem e_pages : p_counted_pages (bkD pg) = M.ok (.list ((cp (gone pg) (bags (gone pg) pg) pg).map pageD)) := by
  have ec := e_counted hb
  generalize hgs : gone pg = gs at ec ⊢
  generalize hbs : bags gs pg = bs at ec ⊢
  have cpm : ∀ p, p ∈ cp gs bs pg ↔ p ∈ pg ∧ okP gs bs p := fun p => by unfold cp; rw [List.mem_filter, decide_eq_true_iff]
  have cl : (cp gs bs pg).length ≤ 40 := Nat.le_trans (List.length_filter_le _ _) hb.len
  unfold p_counted_pages
  simp only [M.ok_bind, iter_t, M.bind_ok, ec]
  rw [lc_map (h := fun p : Page => nmD p.1) (fun p => some (PyData.tuple [nmD p.1, .bool true])) (by omega) fun p _ => rfl]
  rw [show ((cp gs bs pg).filterMap fun p => some (PyData.tuple [nmD p.1, .bool true])) = (cp gs bs pg).map fun p => PyData.tuple [nmD p.1, .bool true] from by rw [← List.filterMap_eq_map]; rfl]
  have kt : KeysT ((cp gs bs pg).map fun p => (nmD p.1, PyData.bool true)) := fun q m => by
    obtain ⟨p, _, rfl⟩ := List.mem_map.mp m
    exact ⟨_, nm_key p.1⟩
  have dd : dictD ((cp gs bs pg).map fun p => PyData.tuple [nmD p.1, .bool true]) = some (.dict (mergeP [] ((cp gs bs pg).map fun p => (nmD p.1, PyData.bool true)))) := by
    unfold dictD
    rw [pairs_map (f := fun p : Page => nmD p.1) (g := fun _ => PyData.bool true)]
    show (if _ then _ else _) = _
    rw [if_pos (.inr kt)]
  simp only [M.ok_bind]
  rw [m_dict dd, M.ok_bind]
  have ks : ∀ j, j ∈ (mergeP [] ((cp gs bs pg).map fun p => (nmD p.1, PyData.bool true))).map (·.1) ↔ ∃ p ∈ cp gs bs pg, nmD p.1 = j := fun j => by
    rw [keys_merge]
    constructor
    · rintro (h | h)
      · exact absurd h (by simp)
      · obtain ⟨q, mq, e⟩ := List.mem_map.mp h
        obtain ⟨p, mp, rfl⟩ := List.mem_map.mp mq
        exact ⟨p, mp, e⟩
    · rintro ⟨p, mp, e⟩
      exact .inr (List.mem_map.mpr ⟨(nmD p.1, PyData.bool true), List.mem_map.mpr ⟨p, mp, rfl⟩, e⟩)
  generalize mergeP [] ((cp gs bs pg).map fun p => (nmD p.1, PyData.bool true)) = tb at ks ⊢
  rw [lc_map (h := pageD) (fun p => if okP gs bs p then some (pageD p) else none) (long hb) ?h3]
  case h3 =>
    intro p mp
    have kk : KeyOk (nmD p.1) tb := .inr ⟨_, nm_key p.1, fun q m => by
      obtain ⟨z, _, e⟩ := (ks q.1).mp (List.mem_map_of_mem m)
      exact ⟨_, e.symm.trans (nm_key z.1)⟩⟩
    have e0 : op2 pIx (pageD p) (.int 0) = M.ok (nmD p.1) := by unfold pageD; rw [m_ixT, at0]; rfl
    have iff_ : (valP tb (nmD p.1)).isSome = true ↔ okP gs bs p := by
      rw [val_some, ks]
      constructor
      · rintro ⟨q, mq, e⟩
        have e := nmD_inj _ _ e
        obtain ⟨mq1, mq2⟩ := (cpm q).mp mq
        have : q = p := by
          obtain ⟨i, hi, rfl⟩ := List.mem_iff_getElem.mp mq1
          obtain ⟨j, hj, rfl⟩ := List.mem_iff_getElem.mp mp
          have nd := hb.nd
          have := (List.getElem_inj (h₀ := by rw [List.length_map]; exact hi) (h₁ := by rw [List.length_map]; exact hj) nd).mp (by rw [List.getElem_map, List.getElem_map]; exact e)
          subst this
          rfl
        rw [← this]
        exact mq2
      · intro q
        exact ⟨p, (cpm p).mpr ⟨mp, q⟩, rfl⟩
    simp only [M.ok_bind, M.bind_assoc, e0, m_inD kk, m_ite]
    by_cases q : okP gs bs p
    · rw [if_pos (iff_.mpr q), if_pos q]
    · rw [if_neg (fun z => q (iff_.mp z)), if_neg q]
  congr 2
  unfold cp
  exact fm_if _ _ _
open Classical in
/-- the law's own count of pages -/
theorem e_lcounted : p__law_counted (bkD pg) = M.ok (.list ((cp (vn pg) (bags (vn pg) pg) pg).map pageD)) := by
  have gl := vn_ok hb
  have bl := bags_ok hb (vn pg)
  unfold p__law_counted
  simp only [M.ok_bind, iter_t]
  rw [lc_map (h := pageD) (fun p => match p.2 with | .void nm => some (nmD nm) | _ => none) (long hb) ?h1]
  case h1 =>
    rintro ⟨n, e⟩ mp
    show un2 (.tuple [nmD n, deedD e]) _ = _
    simp only [un2_t, M.ok_bind, M.bind_assoc, ix0, m_eqS, m_ite]
    by_cases hv : kind e = "void"
    · obtain ⟨nm, rfl⟩ := kind_void hv
      rw [if_pos (decide_eq_true hv)]
      simp only [deedD, m_ixT, at1, M.opt_some, M.ok_bind]
    · rw [if_neg (by simpa using hv)]
      cases e <;> first | rfl | exact absurd rfl hv
  have e1 : (pg.filterMap fun p => match p.2 with | .void nm => some (nmD nm) | _ => none) = (vn pg).map nmD := by
    unfold vn
    rw [List.map_filterMap]
    congr 1
    funext p
    cases p.2 <;> rfl
  rw [e1, M.ok_bind]
  rw [lc_map (h := pageD) (fun p => if kind p.2 = "bag" ∧ p.1 ∉ vn pg then some (nmD p.1) else none) (long hb) ?h2]
  case h2 =>
    rintro ⟨n, e⟩ mp
    show un2 (.tuple [nmD n, deedD e]) _ = _
    simp only [un2_t, M.ok_bind, M.bind_assoc, ix0, m_eqS, m_ite, (in_names (hb.nm _ mp) gl.2 gl.1).2.2.2]
    by_cases hv : kind e = "bag" <;> by_cases hm : n ∈ vn pg <;> simp [hv, hm, M.ok_bind, M.ite_t, M.ite_f]
  have e2 : (pg.filterMap fun p => if kind p.2 = "bag" ∧ p.1 ∉ vn pg then some (nmD p.1) else none) = (bags (vn pg) pg).map nmD := by
    unfold bags
    rw [List.map_filterMap]
    congr 1
    funext p
    split <;> rfl
  rw [e2, M.ok_bind]
  generalize vn pg = gs at gl bl ⊢
  generalize bags gs pg = bs at bl ⊢
  obtain ⟨st, e, I⟩ := fold_inv (f := fun it9 st8 => un2 it9 fun name10 deed11 => M.bind (M.bind (M.bind (M.bind (M.ok deed11) fun a12 => M.bind (M.ok (.int 0)) fun i13 => op2 pIx a12 i13) fun a14 => M.bind (M.ok (.str "void")) fun b15 => op2 pNe a14 b15) fun t28 => M.ite t28 (M.bind (op2 pNotIn name10 (.list (gs.map nmD))) fun t27 => M.ite t27 (M.bind (M.bind (M.bind (M.ok deed11) fun a18 => M.bind (M.ok (.int 0)) fun i19 => op2 pIx a18 i19) fun a20 => M.bind (M.ok (.str "read")) fun b21 => op2 pNe a20 b21) fun t26 => M.ite t26 (M.ok (.bool true)) (M.bind (M.bind (M.ok deed11) fun a22 => M.bind (M.ok (.int 1)) fun i23 => op2 pIx a22 i23) fun a24 => M.bind (M.ok (.list (bs.map nmD))) fun b25 => op2 pIn a24 b25)) (M.ok (.bool false))) (M.ok (.bool false))) fun t29 => M.ite t29 (push st8 (.tuple [name10, deed11])) (M.ok st8))
    (its := pg.map pageD) (a := []) (fun j st => st = ((pg.take j).filter fun p => decide (okP gs bs p)).map pageD) rfl fun j d st hd hI => by
    rw [List.getElem?_map] at hd
    obtain ⟨⟨n, e⟩, hp, rfl⟩ := Option.map_eq_some_iff.mp hd
    have mp := List.mem_of_getElem? hp
    rw [take_succ' hp, List.filter_append, List.map_append, ← hI]
    show ∃ b', un2 (.tuple [nmD n, deedD e]) _ = M.ok b' ∧ _
    rw [un2_t, test_ok hb gl bl mp (T := fun n => op2 pNotIn (nmD n) (.list (gs.map nmD))) (in_names (hb.nm _ mp) gl.2 gl.1).2.2.2]
    have sl : st.length < 1000000 := by
      rw [hI, List.length_map]
      have := List.length_filter_le (fun p => decide (okP gs bs p)) (pg.take j)
      have := List.length_take_le' j pg
      have := hb.len
      omega
    by_cases q : okP gs bs (n, e)
    · rw [if_pos q, m_push sl]
      exact ⟨_, rfl, by simp [q]; rfl⟩
    · rw [if_neg q]
      exact ⟨_, rfl, by simp [q]⟩
  rw [List.length_map, List.take_length] at I
  simp only [M.ok_bind, M.bind_assoc, M.bind_ok] at e ⊢
  rw [e]
  simp only [M.ok_bind, I]
  rfl
theorem gone_iff {p : Page} (mp : p ∈ pg) (hv : kind p.2 ≠ "void") : p.1 ∈ gone pg ↔ p.1 ∈ vn pg := by
  constructor
  · intro m
    obtain ⟨q, mq, e⟩ := List.mem_filterMap.mp m
    split at e
    · rename_i z
      rw [← Option.some.inj e]
      exact z.2
    · cases e
  · intro m
    exact List.mem_filterMap.mpr ⟨p, mp, if_pos ⟨hv, m⟩⟩
theorem bags_eq : bags (gone pg) pg = bags (vn pg) pg := by
  unfold bags
  refine fm_congr fun p mp => ?_
  by_cases hv : kind p.2 = "bag"
  · have nv : kind p.2 ≠ "void" := by rw [hv]; decide
    have := gone_iff hb mp nv
    by_cases m : p.1 ∈ vn pg <;> simp [hv, this, m]
  · simp [hv]
theorem cp_eq : cp (gone pg) (bags (gone pg) pg) pg = cp (vn pg) (bags (vn pg) pg) pg := by
  rw [bags_eq hb]
  unfold cp
  refine List.filter_congr fun p mp => ?_
  rw [decide_eq_decide]
  unfold okP
  constructor
  · rintro ⟨h1, h2, h3⟩
    exact ⟨h1, fun m => h2 ((gone_iff hb mp h1).mpr m), h3⟩
  · rintro ⟨h1, h2, h3⟩
    exact ⟨h1, fun m => h2 ((gone_iff hb mp h1).mp m), h3⟩
end
end Lw

set_option maxRecDepth 100000
set_option maxHeartbeats 4000000
namespace Lw
open PySem L2 PO Bk
open PN hiding RF RO e_and e_call e_chain e_if e_isi e_lc e_mt e_not e_or e_part e_sl i_any i_zip
def many (us : List P3) : Int := (us.map fun r => r.2.2 - r.2.1).sum
def br (pl : Str) : Deed → Int
  | .move a b us => if pl = a ∨ pl = b then (if b = pl then many us else -many us) else 0
  | .bag a b n => if pl = a ∨ pl = b then (if b = pl then n else -n) else 0
  | _ => 0
theorem notin2 {x a b : Str} (hx : Small x) (ha : Small a) (hb : Small b) : op2 pNotIn (.str x) (.tuple [.str a, .str b]) = M.ok (.bool (!decide (x = a ∨ x = b))) := by
  have s2 : Sm 200 1 (.tuple [.str a, .str b]) := by
    refine (Sm.tup (n := 82) (k := 0) (ds := [_, _]) fun d m => ?_).up (Nat.le_of_ble_eq_true rfl) (Nat.le_refl _)
    simp only [List.mem_cons, List.not_mem_nil, or_false] at m
    rcases m with rfl | rfl
    · exact sm_s ha
    · exact sm_s hb
  rw [m_notInT (sm_s hx) s2 (by decide) (by decide) rfl (fun z m => by
    simp only [List.mem_cons, List.not_mem_nil, or_false] at m
    rcases m with rfl | rfl <;> rfl)]
  congr 3
  rw [decide_eq_decide]
  simp
theorem many_lc (us : List P3) (hl : us.length ≤ 100000) : lcD (M.ok (us.map runD)) (fun it3 => un3 it3 fun series4 first5 end_6 => M.bind (M.bind (M.ok end_6) fun a7 => M.bind (M.ok first5) fun b8 => op2 pSub a7 b8) fun v9 => M.ok (some v9)) = M.ok (.list ((us.map fun r => r.2.2 - r.2.1).map .int)) := by
  rw [lc_map (h := runD) (fun r => some (.int (r.2.2 - r.2.1))) hl fun r _ => by
    show un3 (.tuple [.str r.1, .int r.2.1, .int r.2.2]) _ = _
    simp only [un3_t, M.ok_bind, m_subI]]
  rw [List.map_map, ← List.filterMap_eq_map]
  rfl
theorem e_many (us : List P3) (hl : us.length ≤ 100000) : p_many_in (.tuple (us.map runD)) = M.ok (.int (many us)) := by
  unfold p_many_in
  rw [M.ok_bind, iter_t, many_lc us hl, M.ok_bind, m_sum, M.ok_bind]
  rfl
theorem nk_bag (a b : Str) (n : Int) : kind (.bag a b n) ≠ "move" := by show ("bag" : Str) ≠ "move"; decide
theorem nk_read (nm : Nm) (us : List P3) : kind (.read nm us) ≠ "move" ∧ kind (.read nm us) ≠ "bag" := ⟨by show ("read" : Str) ≠ "move"; decide, by show ("read" : Str) ≠ "bag"; decide⟩
theorem nk_count (p : Str) (n : Int) : kind (.count p n) ≠ "move" ∧ kind (.count p n) ≠ "bag" := ⟨by show ("count" : Str) ≠ "move"; decide, by show ("count" : Str) ≠ "bag"; decide⟩
theorem nk_void (nm : Nm) : kind (.void nm) ≠ "move" ∧ kind (.void nm) ≠ "bag" := ⟨by show ("void" : Str) ≠ "move"; decide, by show ("void" : Str) ≠ "bag"; decide⟩
theorem sm_mv : Small "move" := small_5 _ (by simp)
theorem sm_bg : Small "bag" := small_5 _ (by simp)
theorem cut13 {a b c d : D} : cutL [a, b, c, d] (some 1) (some 3) = [b, c] := rfl
theorem e_brings {e : Deed} (g : GDeed GNm e) {pl : Str} (hp : Small pl) : p_brings (deedD e) (.str pl) = M.ok (.int (br pl e)) := by
  unfold p_brings
  simp only [M.ok_bind, M.bind_assoc, M.bind_ok, ix0, notin2 (small_kind e) sm_mv sm_bg, m_eqS, int_i, part_i]
  cases e with
  | move a b us =>
    have h1 : ((!decide (kind (.move a b us) = "move" ∨ kind (.move a b us) = "bag")) : Bool) = false := by simp [kind]
    have sl : op3 pSl (deedD (.move a b us)) (.int 1) (.int 3) = M.ok (.tuple [.str a, .str b]) := by
      unfold deedD
      rw [m_slT _ (lo := some 1) (hi := some 3) rfl rfl, cut13]
    have h3 : decide (kind (.move a b us) = "move") = true := by simp [kind]
    rw [h1, sl, h3]
    simp only [M.ite_t, M.ite_f, M.ok_bind, M.bind_assoc, notin2 hp (small_pl _ g.1) (small_pl _ g.2.1), deedD, m_ixT, at2, at3, M.opt_some, e_many us (Nat.le_trans g.2.2.1 (by decide)), m_eqS, m_ite, m_subI, Int.zero_sub, M.bind_ok]
    unfold br
    by_cases q : pl = a ∨ pl = b
    · by_cases q2 : b = pl <;> simp [q, q2, M.ok_bind, M.ite_t, M.ite_f, m_negI, m_subI]
    · simp [q, M.ok_bind, M.ite_t, M.ite_f]
  | bag a b n =>
    have h1 : ((!decide (kind (.bag a b n) = "move" ∨ kind (.bag a b n) = "bag")) : Bool) = false := by simp [kind]
    have sl : op3 pSl (deedD (.bag a b n)) (.int 1) (.int 3) = M.ok (.tuple [.str a, .str b]) := by
      unfold deedD
      rw [m_slT _ (lo := some 1) (hi := some 3) rfl rfl, cut13]
    have h3 : decide (kind (.bag a b n) = "move") = false := by simp [nk_bag]
    rw [h1, sl, h3]
    simp only [M.ite_t, M.ite_f, M.ok_bind, M.bind_assoc, notin2 hp (small_pl _ g.1) (small_pl _ g.2.1), deedD, m_ixT, at2, at3, M.opt_some, m_eqS, m_ite, m_subI, Int.zero_sub, M.bind_ok]
    unfold br
    by_cases q : pl = a ∨ pl = b
    · by_cases q2 : b = pl <;> simp [q, q2, M.ok_bind, M.ite_t, M.ite_f, m_negI, m_subI]
    · simp [q, M.ok_bind, M.ite_t, M.ite_f]
  | read nm us =>
    have h1 : ((!decide (kind (.read nm us) = "move" ∨ kind (.read nm us) = "bag")) : Bool) = true := by simp [nk_read]
    rw [h1]
    simp only [M.ite_t, M.ok_bind, br]
  | count p n =>
    have h1 : ((!decide (kind (.count p n) = "move" ∨ kind (.count p n) = "bag")) : Bool) = true := by simp [nk_count]
    rw [h1]
    simp only [M.ite_t, M.ok_bind, br]
  | void nm =>
    have h1 : ((!decide (kind (.void nm) = "move" ∨ kind (.void nm) = "bag")) : Bool) = true := by simp [nk_void]
    rw [h1]
    simp only [M.ite_t, M.ok_bind, br]
theorem e_lbrings {e : Deed} (g : GDeed GNm e) {pl : Str} (hp : Small pl) : p__law_brings (deedD e) (.str pl) = M.ok (.int (br pl e)) := by
  unfold p__law_brings
  simp only [M.ok_bind, M.bind_assoc, M.bind_ok, ix0, notin2 (small_kind e) sm_mv sm_bg, m_eqS, int_i, part_i]
  cases e with
  | move a b us =>
    have h1 : ((!decide (kind (.move a b us) = "move" ∨ kind (.move a b us) = "bag")) : Bool) = false := by simp [kind]
    have h3 : decide (kind (.move a b us) = "move") = true := by simp [kind]
    have ml := many_lc us (Nat.le_trans g.2.2.1 (by decide))
    simp only [M.ok_bind] at ml
    rw [h1, h3]
    simp only [M.ite_t, M.ite_f, M.ok_bind, M.bind_assoc, notin2 hp (small_pl _ g.1) (small_pl _ g.2.1), deedD, m_ixT, at1, at2, at3, M.opt_some, iter_t, ml, m_sum, m_eqS, m_ite, m_negI, M.bind_ok]
    unfold br many
    by_cases q : pl = a ∨ pl = b
    · by_cases q2 : b = pl <;> simp [q, q2, M.ok_bind, M.ite_t, M.ite_f, m_negI, m_subI]
    · simp [q, M.ok_bind, M.ite_t, M.ite_f]
  | bag a b n =>
    have h1 : ((!decide (kind (.bag a b n) = "move" ∨ kind (.bag a b n) = "bag")) : Bool) = false := by simp [kind]
    have h3 : decide (kind (.bag a b n) = "move") = false := by simp [nk_bag]
    rw [h1, h3]
    simp only [M.ite_t, M.ite_f, M.ok_bind, M.bind_assoc, notin2 hp (small_pl _ g.1) (small_pl _ g.2.1), deedD, m_ixT, at1, at2, at3, M.opt_some, m_eqS, m_ite, m_negI, M.bind_ok]
    unfold br
    by_cases q : pl = a ∨ pl = b
    · by_cases q2 : b = pl <;> simp [q, q2, M.ok_bind, M.ite_t, M.ite_f, m_negI, m_subI]
    · simp [q, M.ok_bind, M.ite_t, M.ite_f]
  | read nm us =>
    have h1 : ((!decide (kind (.read nm us) = "move" ∨ kind (.read nm us) = "bag")) : Bool) = true := by simp [nk_read]
    rw [h1]
    simp only [M.ite_t, M.ok_bind, br]
  | count p n =>
    have h1 : ((!decide (kind (.count p n) = "move" ∨ kind (.count p n) = "bag")) : Bool) = true := by simp [nk_count]
    rw [h1]
    simp only [M.ite_t, M.ok_bind, br]
  | void nm =>
    have h1 : ((!decide (kind (.void nm) = "move" ∨ kind (.void nm) = "bag")) : Bool) = true := by simp [nk_void]
    rw [h1]
    simp only [M.ite_t, M.ok_bind, br]
end Lw

set_option maxRecDepth 100000
set_option maxHeartbeats 4000000
namespace Lw
open PySem L2 PO Bk
open PN hiding RF RO e_and e_call e_chain e_if e_isi e_lc e_mt e_not e_or e_part e_sl i_any i_zip
theorem fold_val {γ δ : Type} {f : D → γ → M γ} {its : List D} {a : γ} {k : γ → M δ} {R : M δ} (I : Nat → γ → Prop) (h0 : I 0 a) (hs : ∀ j d b, its[j]? = some d → I j b → ∃ b', f d b = M.ok b' ∧ I (j + 1) b') (hk : ∀ b, I its.length b → k b = R) : M.bind (PO.fold f its a) k = R := by
  obtain ⟨b, e, i⟩ := fold_inv I h0 hs
  rw [e, M.ok_bind, hk b i]
theorem foldl_inv {α γ : Type} {g : γ → α → γ} : ∀ {l : List α} {a : γ} (I : Nat → γ → Prop), I 0 a → (∀ j x b, l[j]? = some x → I j b → I (j + 1) (g b x)) → I l.length (l.foldl g a)
  | [], _, _, h0, _ => h0
  | x :: l, a, I, h0, hs => foldl_inv (l := l) (fun j => I (j + 1)) (hs 0 x a rfl h0) fun j y b hy hb => hs (j + 1) y b (by simpa using hy) hb
def cn (pl : Str) (p : Page) : Option Int := match p.2 with
  | .count q n => if q = pl then some n else none
  | _ => none
def row (p : Page) (n t : Int) : D := .tuple [nmD p.1, .int (n - t)]
def step (pl : Str) (st : List D × Int) (p : Page) : List D × Int := ((match cn pl p with | some n => st.1 ++ [row p n st.2] | none => st.1), st.2 + br pl p.2)
def sp (pl : Str) (l : List Page) : List D × Int := l.foldl (step pl) ([], 0)
theorem sp_snoc (pl : Str) (l : List Page) (p : Page) : sp pl (l ++ [p]) = step pl (sp pl l) p := by
  unfold sp
  rw [List.foldl_append]
  rfl
theorem sp_sum (pl : Str) : ∀ (l : List Page) (a : List D) (t : Int), (l.foldl (step pl) (a, t)).2 = t + (l.map fun p => br pl p.2).sum
  | [], a, t => by simp
  | p :: l, a, t => by
    rw [List.foldl_cons]
    show (l.foldl (step pl) (_, t + br pl p.2)).2 = _
    rw [sp_sum pl l, List.map_cons, List.sum_cons]
    omega
theorem sp_len (pl : Str) (l : List Page) : (sp pl l).1.length ≤ l.length := foldl_inv (g := step pl) (fun j (st : List D × Int) => st.1.length ≤ j) (Nat.le_refl _) fun j x b _ h => by
  show (match cn pl x with | some n => b.1 ++ [row x n b.2] | none => b.1).length ≤ j + 1
  have h : b.1.length ≤ j := h
  split
  · rw [List.length_append, List.length_singleton]; omega
  · omega
open Classical in
/-- the test for a count at a place -/
theorem cnt_test {e : Deed} {n : Nm} {pl : Str} :
    (M.bind (M.bind (M.bind (M.ok (deedD e)) fun a11 => M.bind (M.ok (.int 0)) fun i12 => op2 pIx a11 i12) fun a13 => M.bind (M.ok (.str "count")) fun b14 => op2 pEq a13 b14) fun t19 => M.ite t19 (M.bind (M.bind (M.ok (deedD e)) fun a15 => M.bind (M.ok (.int 1)) fun i16 => op2 pIx a15 i16) fun a17 => M.bind (M.ok (.str pl)) fun b18 => op2 pEq a17 b18) (M.ok (.bool false))) = M.ok (.bool (cn pl (n, e)).isSome) := by
  simp only [M.ok_bind, M.bind_assoc, ix0, m_eqS, m_ite]
  by_cases hv : kind e = "count"
  · obtain ⟨q, v, rfl⟩ := kind_count hv
    rw [if_pos (decide_eq_true hv)]
    simp only [deedD, m_ixT, at1, M.opt_some, M.ok_bind, m_eqS]
    unfold cn
    by_cases h : q = pl <;> simp [h]
  · rw [if_neg (by simpa using hv)]
    have : cn pl (n, e) = none := by
      cases e <;> first | rfl | exact absurd rfl hv
    rw [this]
    rfl
theorem cn_ix {e : Deed} {n : Nm} {pl : Str} {v : Int} (h : cn pl (n, e) = some v) : op2 pIx (deedD e) (.int 2) = M.ok (.int v) := by
  cases e <;> first | (cases h; done) | skip
  rename_i q m
  have h : (if q = pl then some m else none) = some v := h
  split at h
  · cases h
    rw [deedD, m_ixT, at2]
    rfl
  · cases h
section
variable {pg : List Page} (hb : Book pg)
include hb
theorem cp_sub {gs bs : List Nm} {p : Page} (m : p ∈ cp gs bs pg) : p ∈ pg := (List.mem_filter.mp m).1
theorem cp_len (gs bs : List Nm) : (cp gs bs pg).length ≤ 40 := Nat.le_trans (List.length_filter_le _ _) hb.len
theorem e_offs {pl : Str} (hp : Small pl) : p_offs (bkD pg) (.str pl) = M.ok (sp pl (cp (vn pg) (bags (vn pg) pg) pg)).1 := by
  have ep := e_pages hb
  rw [cp_eq hb] at ep
  have sub := fun p => cp_sub hb (gs := vn pg) (bs := bags (vn pg) pg) (p := p)
  have cl := cp_len hb (vn pg) (bags (vn pg) pg)
  generalize cp (vn pg) (bags (vn pg) pg) pg = l at ep sub cl ⊢
  unfold p_offs
  rw [M.ok_bind, M.ok_bind, M.ok_bind, ep, M.ok_bind, iter_l]
  refine fold_val (fun j (st : List D × D) => st.1 = (sp pl (l.take j)).1 ∧ st.2 = .int (sp pl (l.take j)).2) ⟨rfl, rfl⟩ (fun j d b hd hI => ?_) fun b hI => ?_
  · rw [List.getElem?_map] at hd
    obtain ⟨⟨n, e⟩, hp', rfl⟩ := Option.map_eq_some_iff.mp hd
    have mp := sub _ (List.mem_of_getElem? hp')
    obtain ⟨b1, b2⟩ := b
    obtain ⟨rfl, rfl⟩ := hI
    rw [take_succ' hp', sp_snoc]
    show ∃ b', un2 (.tuple [nmD n, deedD e]) _ = M.ok b' ∧ _
    rw [un2_t, cnt_test (n := n)]
    have sl := sp_len pl (l.take j)
    have tl := List.length_take_le' j l
    cases hc : cn pl (n, e) with
    | none =>
      simp only [Option.isSome_none, M.ok_bind, M.bind_assoc, M.ite_f, e_brings (hb.dd _ mp) hp, m_addI]
      exact ⟨_, rfl, by unfold step; rw [hc], rfl⟩
    | some v =>
      simp only [Option.isSome_some, M.ok_bind, M.bind_assoc, M.ite_t, cn_ix hc, m_subI, e_brings (hb.dd _ mp) hp, m_addI]
      rw [m_push (by omega)]
      exact ⟨_, rfl, by unfold step; rw [hc]; rfl, rfl⟩
  · rw [List.length_map, List.take_length] at hI
    rw [hI.1]
theorem ints_get {n j : Nat} {d : D} (h : (intsD 0 n)[j]? = some d) : d = .int (j : Int) ∧ j < n := by
  have hl := (List.getElem?_eq_some_iff.mp h).1
  rw [len_ints] at hl
  refine ⟨?_, hl⟩
  unfold intsD at h
  rw [List.getElem?_map, List.getElem?_range hl] at h
  have := Option.some.inj h
  rw [← this]
  show PyData.int (0 + (j : Int)) = _
  rw [Int.zero_add]
theorem e_due {pl : Str} (hp : Small pl) : p__law_due (bkD pg) (.str pl) = M.ok (.list (sp pl (cp (vn pg) (bags (vn pg) pg) pg)).1) := by
  have ep := e_lcounted hb
  have sub := fun p => cp_sub hb (gs := vn pg) (bs := bags (vn pg) pg) (p := p)
  have cl := cp_len hb (vn pg) (bags (vn pg) pg)
  generalize cp (vn pg) (bags (vn pg) pg) pg = l at ep sub cl ⊢
  unfold p__law_due
  rw [M.ok_bind, ep, M.ok_bind, M.ok_bind, M.ok_bind, m_lenL, M.ok_bind, List.length_map, m_range (by omega), M.ok_bind]
  refine fold_val (fun j (st : List D) => st = (sp pl (l.take j)).1) rfl (fun j d b hd hI => ?_) fun b hI => ?_
  · obtain ⟨rfl, hj⟩ := ints_get hb hd
    subst hI
    have hp' : l[j]? = some l[j] := List.getElem?_eq_getElem hj
    generalize l[j] = pe at hp'
    obtain ⟨n, e⟩ := pe
    have mp := sub _ (List.mem_of_getElem? hp')
    have ei : op2 pIx (.list (l.map pageD)) (.int (j : Int)) = M.ok (.tuple [nmD n, deedD e]) := by
      have hj2 : j < (l.map pageD).length := by rw [List.length_map]; exact hj
      rw [m_ixL, at_nat hj2, List.getElem_map]
      have : l[j] = (n, e) := Option.some.inj ((List.getElem?_eq_getElem hj).symm.trans hp')
      rw [this]
      rfl
    rw [take_succ' hp', sp_snoc]
    simp only [M.ok_bind, ei]
    rw [un2_t]
    have ct := cnt_test (pl := pl) (e := e) (n := n)
    simp only [M.ok_bind] at ct
    rw [ct]
    have sl := sp_len pl (l.take j)
    have tl := List.length_take_le' j l
    cases hc : cn pl (n, e) with
    | none =>
      simp only [Option.isSome_none, M.ok_bind, M.bind_assoc, M.ite_f]
      exact ⟨_, rfl, by unfold step; rw [hc]⟩
    | some v =>
      have inner : ∀ {k : D → M D}, (lcD (M.ok ((l.take j).map pageD)) fun it36 => M.bind (M.bind (op2 pIx it36 (.int 1)) fun x37 => p__law_brings x37 (.str pl)) fun v41 => M.ok (some v41)) = M.ok (.list (((l.take j).map fun p => br pl p.2).map .int)) := fun {k} => by
        rw [lc_map (h := pageD) (fun p => some (.int (br pl p.2))) (by omega) fun p mpp => ?_]
        · rw [List.map_map, ← List.filterMap_eq_map]
          rfl
        · have mpp := sub _ (List.mem_of_mem_take mpp)
          have e1 : op2 pIx (pageD p) (.int 1) = M.ok (deedD p.2) := by unfold pageD; rw [m_ixT, at1]; rfl
          rw [e1, M.ok_bind, e_lbrings (hb.dd _ mpp) hp, M.ok_bind]
      simp only [Option.isSome_some, M.ok_bind, M.ite_t, cn_ix hc, int_i, part_n]
      rw [m_slL _ (lo := none) (hi := some ((j : Nat) : Int)) rfl rfl, cut_to, ← List.map_take]
      simp only [M.ok_bind, iter_l]
      simp only [M.bind_assoc] at inner ⊢
      rw [inner (k := fun _ => M.bad)]
      simp only [M.ok_bind, m_sum, m_subI]
      rw [m_push (by omega)]
      refine ⟨_, rfl, ?_⟩
      unfold step
      rw [hc]
      have := sp_sum pl (l.take j) [] 0
      show _ = (sp pl (l.take j)).1 ++ [row (n, e) v (sp pl (l.take j)).2]
      unfold row sp
      rw [this, Int.zero_add]
  · rw [len_ints, List.take_length] at hI
    rw [hI]
end
end Lw

set_option maxRecDepth 100000
set_option maxHeartbeats 4000000
namespace Lw
open PySem L2 PO Bk
open PN hiding RF RO e_and e_call e_chain e_if e_isi e_lc e_mt e_not e_or e_part e_sl i_any i_zip
theorem sum_small : ∀ (us : List P3), (∀ r ∈ us, GRun r) → (many us).natAbs ≤ us.length * 1000000000
  | [], _ => by unfold many; simp
  | r :: us, h => by
    have ih := sum_small us fun x m => h x (List.mem_cons_of_mem _ m)
    have g := h r List.mem_cons_self
    have := g.a0; have := g.a1; have := g.b0; have := g.b1
    unfold many at ih ⊢
    rw [List.map_cons, List.sum_cons, List.length_cons]
    omega
theorem br_small {e : Deed} (g : GDeed GNm e) (pl : Str) : (br pl e).natAbs ≤ 100000000000 := by
  unfold br
  cases e with
  | move a b us =>
    have h1 := sum_small us g.2.2.2
    have h2 := g.2.2.1
    show (if pl = a ∨ pl = b then (if b = pl then many us else -many us) else 0).natAbs ≤ _
    split
    · split <;> omega
    · simp
  | bag a b n =>
    have h1 := g.2.2
    show (if pl = a ∨ pl = b then (if b = pl then n else -n) else 0).natAbs ≤ _
    split
    · split <;> omega
    · simp
  | read nm us => simp
  | count p n => simp
  | void nm => simp
theorem cn_small {p : Page} (g : GDeed GNm p.2) {pl : Str} {v : Int} (h : cn pl p = some v) : v.natAbs ≤ 1000000000000 := by
  unfold cn at h
  revert h g
  cases p.2 with
  | count q n =>
    intro g h
    have h : (if q = pl then some n else none) = some v := h
    have := g.2
    split at h
    · cases h; omega
    · cases h
  | _ => exact fun _ h => by cases h
theorem sp_good (pl : Str) {l : List Page} (hl : l.length ≤ 40) (h1 : ∀ p ∈ l, GNm p.1) (h2 : ∀ p ∈ l, GDeed GNm p.2) :
    (∀ x ∈ (sp pl l).1, Sm 600 2 x) ∧ (sp pl l).2.natAbs ≤ l.length * 100000000000 := foldl_inv (g := step pl) (fun j (st : List D × Int) => (∀ x ∈ st.1, Sm 600 2 x) ∧ st.2.natAbs ≤ j * 100000000000) ⟨fun x m => absurd m (by simp), by simp⟩ fun j p st hp hI => by
  have mp := List.mem_of_getElem? hp
  have hj := (List.getElem?_eq_some_iff.mp hp).1
  have b := br_small (h2 p mp) pl
  obtain ⟨i1, i2⟩ := hI
  refine ⟨fun x m => ?_, ?_⟩
  · unfold step at m
    cases hc : cn pl p with
    | none => rw [hc] at m; exact i1 x m
    | some v =>
      rw [hc] at m
      rcases List.mem_append.mp m with m | m
      · exact i1 x m
      · rw [List.mem_singleton.mp m]
        have cv := cn_small (h2 p mp) hc
        refine (Sm.tup (n := 256) (k := 1) (ds := [_, _]) fun d m => ?_).up (Nat.le_of_ble_eq_true rfl) (Nat.le_refl _)
        simp only [List.mem_cons, List.not_mem_nil, or_false] at m
        rcases m with rfl | rfl
        · exact sm_nm (h1 p mp)
        · exact (sm_i (by omega)).up (by decide) (by decide)
  · show (st.2 + br pl p.2).natAbs ≤ (j + 1) * 100000000000
    omega
theorem e_same {X : List D} (h : ∀ x ∈ X, Sm 600 2 x) (hl : X.length ≤ 40) : p__law_same (.list X) (.list X) = M.ok (.bool true) := by
  have s : Sm 30000 3 (.list X) := (Sm.lst h).up (by omega) (Nat.le_refl _)
  unfold p__law_same
  simp only [M.ok_bind, m_repr s (by decide) (by decide), m_eqS, decide_true]
end Lw

set_option maxRecDepth 100000
set_option maxHeartbeats 4000000
namespace Lw
open PySem L2 PO Bk
open PN hiding RF RO e_and e_call e_chain e_if e_isi e_lc e_mt e_not e_or e_part e_sl i_any i_zip
theorem loop_val {γ δ : Type} {f : D → γ → M (Lo γ)} {its : List D} {a : γ} {k : Lo γ → M δ} {R : M δ} (h : γ → D → γ) (hs : ∀ d ∈ its, ∀ b, f d b = M.ok (.go (h b d))) (hk : ∀ b, k (.go b) = R) : M.bind (PO.loop f its a) k = R := by
  rw [loop_go h hs, M.ok_bind, hk]
theorem sub_book {pg fw : List Page} (hb : Book pg) (h : fw.Sublist pg) : Book fw :=
  ⟨Nat.le_trans h.length_le hb.len, hb.nd.sublist (h.map _), fun p m => hb.nm p (h.subset m), fun p m => hb.dd p (h.subset m)⟩
theorem sub_fewer {α : Type} (l : List α) (j : Nat) : (l.take j ++ l.drop (j + 1)).Sublist l := by
  conv => rhs; rw [← List.take_append_drop j l]
  refine List.Sublist.append_left ?_ _
  rw [← List.drop_drop]
  exact List.drop_sublist 1 _
theorem y_law : Yl 3000 p_law (fun d => d = .bool true) := by
  unfold p_law
  repeat (first | with_reducible refine Yl.okb ?_ | with_reducible refine Yl.asc ?_ | rw [itt] | rw [itf] | rw [lcD_okb] | rw [lcD_asc] | rw [M.opt_some] | rw [un2_t] | rw [un3_t] | rw [iter_l] | rw [iter_t] | rw [part_n] | rw [part_i] | rw [int_i] | rw [m_zip] | rw [m_eqS] | rw [m_neS] | rw [m_eqI] | rw [m_neI] | rw [m_ltI] | rw [m_leI] | rw [m_gtI] | rw [m_geI] | rw [m_addI] | rw [m_subI] | rw [m_negI] | rw [m_pow9] | rw [m_pow12] | rw [m_intB] | rw [m_lenL] | rw [m_lenT] | rw [m_tupL] | rw [m_ixT] | rw [m_ixL] | rw [at0] | rw [at1] | rw [at2] | rw [at3] | rw [m_ite] | rw [List.length_map])
  refine Yl.drawB (n := 2999) (by decide) (by decide) fun a a0 a1 => ?_
  repeat (first | with_reducible refine Yl.okb ?_ | with_reducible refine Yl.asc ?_ | rw [itt] | rw [itf] | rw [lcD_okb] | rw [lcD_asc] | rw [M.opt_some] | rw [un2_t] | rw [un3_t] | rw [iter_l] | rw [iter_t] | rw [part_n] | rw [part_i] | rw [int_i] | rw [m_zip] | rw [m_eqS] | rw [m_neS] | rw [m_eqI] | rw [m_neI] | rw [m_ltI] | rw [m_leI] | rw [m_gtI] | rw [m_geI] | rw [m_addI] | rw [m_subI] | rw [m_negI] | rw [m_pow9] | rw [m_pow12] | rw [m_intB] | rw [m_lenL] | rw [m_lenT] | rw [m_tupL] | rw [m_ixT] | rw [m_ixL] | rw [at0] | rw [at1] | rw [at2] | rw [at3] | rw [m_ite] | rw [List.length_map])
  obtain ⟨f, hf, e3⟩ := pickM PyData.int (l := [14, 40]) (i := if decide (a = 0) = true then 1 else 0) (by split <;> decide) (by split <;> (rw [List.length_cons, List.length_singleton]; decide))
  have e3 : atI [PyData.int 14, .int 40] (if decide (a = 0) = true then 1 else 0) = some (.int f) := e3
  obtain ⟨most, rfl, m0, m1⟩ : ∃ m : Nat, f = (m : Int) ∧ 0 < m ∧ m ≤ 40 := by
    simp only [List.mem_cons, List.not_mem_nil, or_false] at hf
    rcases hf with rfl | rfl
    · exact ⟨14, rfl, by decide, by decide⟩
    · exact ⟨40, rfl, by decide, by decide⟩
  repeat (first | with_reducible refine Yl.okb ?_ | with_reducible refine Yl.asc ?_ | rw [itt] | rw [itf] | rw [e3] | rw [lcD_okb] | rw [lcD_asc] | rw [M.opt_some] | rw [un2_t] | rw [un3_t] | rw [iter_l] | rw [iter_t] | rw [part_n] | rw [part_i] | rw [int_i] | rw [m_zip] | rw [m_eqS] | rw [m_neS] | rw [m_eqI] | rw [m_neI] | rw [m_ltI] | rw [m_leI] | rw [m_gtI] | rw [m_geI] | rw [m_addI] | rw [m_subI] | rw [m_negI] | rw [m_pow9] | rw [m_pow12] | rw [m_intB] | rw [m_lenL] | rw [m_lenT] | rw [m_tupL] | rw [m_ixT] | rw [m_ixL] | rw [at0] | rw [at1] | rw [at2] | rw [at3] | rw [m_ite] | rw [List.length_map])
  refine Yl.bind (n := 60) (m := 2939) (show Yl 60 p__law_office _ from y_office) fun o ho => ?_
  obtain ⟨ws, rs, rfl, ho⟩ := ho
  repeat (first | with_reducible refine Yl.okb ?_ | with_reducible refine Yl.asc ?_ | rw [itt] | rw [itf] | rw [lcD_okb] | rw [lcD_asc] | rw [M.opt_some] | rw [un2_t] | rw [un3_t] | rw [iter_l] | rw [iter_t] | rw [part_n] | rw [part_i] | rw [int_i] | rw [m_zip] | rw [m_eqS] | rw [m_neS] | rw [m_eqI] | rw [m_neI] | rw [m_ltI] | rw [m_leI] | rw [m_gtI] | rw [m_geI] | rw [m_addI] | rw [m_subI] | rw [m_negI] | rw [m_pow9] | rw [m_pow12] | rw [m_intB] | rw [m_lenL] | rw [m_lenT] | rw [m_tupL] | rw [m_ixT] | rw [m_ixL] | rw [at0] | rw [at1] | rw [at2] | rw [at3] | rw [m_ite] | rw [List.length_map])
  refine Yl.bind (n := 2300) (m := 639) (show Yl 2300 (p__law_book (offD ws rs) (.int most)) _ from y_book ho m0 m1) fun b hb => ?_
  obtain ⟨pg, rfl, p0, hb⟩ := hb
  have ppos : 0 < pg.length := List.length_pos_iff.mpr p0
  have pl := hb.len
  repeat (first | with_reducible refine Yl.okb ?_ | with_reducible refine Yl.asc ?_ | rw [itt] | rw [itf] | rw [lcD_okb] | rw [lcD_asc] | rw [M.opt_some] | rw [un2_t] | rw [un3_t] | rw [iter_l] | rw [iter_t] | rw [part_n] | rw [part_i] | rw [int_i] | rw [m_zip] | rw [m_eqS] | rw [m_neS] | rw [m_eqI] | rw [m_neI] | rw [m_ltI] | rw [m_leI] | rw [m_gtI] | rw [m_geI] | rw [m_addI] | rw [m_subI] | rw [m_negI] | rw [m_pow9] | rw [m_pow12] | rw [m_intB] | rw [m_lenL] | rw [m_lenT] | rw [m_tupL] | rw [m_ixT] | rw [m_ixL] | rw [at0] | rw [at1] | rw [at2] | rw [at3] | rw [m_ite] | rw [List.length_map])
  refine Yl.drawB (n := 638) (by omega) (by omega) fun c c0 c1 => ?_
  obtain ⟨j, rfl⟩ := Int.eq_ofNat_of_zero_le c0
  repeat (first | with_reducible refine Yl.okb ?_ | with_reducible refine Yl.asc ?_ | rw [itt] | rw [itf] | rw [lcD_okb] | rw [lcD_asc] | rw [M.opt_some] | rw [un2_t] | rw [un3_t] | rw [iter_l] | rw [iter_t] | rw [part_n] | rw [part_i] | rw [int_i] | rw [m_zip] | rw [m_eqS] | rw [m_neS] | rw [m_eqI] | rw [m_neI] | rw [m_ltI] | rw [m_leI] | rw [m_gtI] | rw [m_geI] | rw [m_addI] | rw [m_subI] | rw [m_negI] | rw [m_pow9] | rw [m_pow12] | rw [m_intB] | rw [m_lenL] | rw [m_lenT] | rw [m_tupL] | rw [m_ixT] | rw [m_ixL] | rw [at0] | rw [at1] | rw [at2] | rw [at3] | rw [m_ite] | rw [List.length_map])
  rw [m_slT _ (lo := none) (hi := some ((j : Nat) : Int)) rfl rfl, cut_to, ← List.map_take]
  repeat (first | with_reducible refine Yl.okb ?_ | with_reducible refine Yl.asc ?_ | rw [itt] | rw [itf] | rw [lcD_okb] | rw [lcD_asc] | rw [M.opt_some] | rw [un2_t] | rw [un3_t] | rw [iter_l] | rw [iter_t] | rw [part_n] | rw [part_i] | rw [int_i] | rw [m_zip] | rw [m_eqS] | rw [m_neS] | rw [m_eqI] | rw [m_neI] | rw [m_ltI] | rw [m_leI] | rw [m_gtI] | rw [m_geI] | rw [m_addI] | rw [m_subI] | rw [m_negI] | rw [m_pow9] | rw [m_pow12] | rw [m_intB] | rw [m_lenL] | rw [m_lenT] | rw [m_tupL] | rw [m_ixT] | rw [m_ixL] | rw [at0] | rw [at1] | rw [at2] | rw [at3] | rw [m_ite] | rw [List.length_map])
  have e4 : (j : Int) + 1 = ((j + 1 : Nat) : Int) := by omega
  rw [e4, m_slT _ (lo := some ((j + 1 : Nat) : Int)) (hi := none) rfl rfl, cut_from, ← List.map_drop]
  repeat (first | with_reducible refine Yl.okb ?_ | with_reducible refine Yl.asc ?_ | rw [itt] | rw [itf] | rw [lcD_okb] | rw [lcD_asc] | rw [M.opt_some] | rw [un2_t] | rw [un3_t] | rw [iter_l] | rw [iter_t] | rw [part_n] | rw [part_i] | rw [int_i] | rw [m_zip] | rw [m_eqS] | rw [m_neS] | rw [m_eqI] | rw [m_neI] | rw [m_ltI] | rw [m_leI] | rw [m_gtI] | rw [m_geI] | rw [m_addI] | rw [m_subI] | rw [m_negI] | rw [m_pow9] | rw [m_pow12] | rw [m_intB] | rw [m_lenL] | rw [m_lenT] | rw [m_tupL] | rw [m_ixT] | rw [m_ixL] | rw [at0] | rw [at1] | rw [at2] | rw [at3] | rw [m_ite] | rw [List.length_map])
  have l1 := List.length_take_le' j pg
  have l2 : (pg.drop (j + 1)).length ≤ pg.length := by rw [List.length_drop]; omega
  rw [m_addT (by rw [List.length_map, List.length_map]; omega), ← List.map_append]
  have hw := sub_book hb (sub_fewer pg j)
  generalize pg.take j ++ pg.drop (j + 1) = fw at hw
  rw [show offD ws rs = .tuple [.tuple (ws.map worthD), .tuple (rs.map wayD)] from rfl]
  repeat (first | with_reducible refine Yl.okb ?_ | with_reducible refine Yl.asc ?_ | rw [itt] | rw [itf] | rw [lcD_okb] | rw [lcD_asc] | rw [M.opt_some] | rw [un2_t] | rw [un3_t] | rw [iter_l] | rw [iter_t] | rw [part_n] | rw [part_i] | rw [int_i] | rw [m_zip] | rw [m_eqS] | rw [m_neS] | rw [m_eqI] | rw [m_neI] | rw [m_ltI] | rw [m_leI] | rw [m_gtI] | rw [m_geI] | rw [m_addI] | rw [m_subI] | rw [m_negI] | rw [m_pow9] | rw [m_pow12] | rw [m_intB] | rw [m_lenL] | rw [m_lenT] | rw [m_tupL] | rw [m_ixT] | rw [m_ixL] | rw [at0] | rw [at1] | rw [at2] | rw [at3] | rw [m_ite] | rw [List.length_map])
  have rl := ho.rl
  rw [lc_map (h := wayD) (fun w => some (.str w.1)) (by omega) fun w _ => by
    simp only [wayD, M.ok_bind, m_ixT, at0, M.opt_some]]
  repeat (first | with_reducible refine Yl.okb ?_ | with_reducible refine Yl.asc ?_ | rw [itt] | rw [itf] | rw [lcD_okb] | rw [lcD_asc] | rw [M.opt_some] | rw [un2_t] | rw [un3_t] | rw [iter_l] | rw [iter_t] | rw [part_n] | rw [part_i] | rw [int_i] | rw [m_zip] | rw [m_eqS] | rw [m_neS] | rw [m_eqI] | rw [m_neI] | rw [m_ltI] | rw [m_leI] | rw [m_gtI] | rw [m_geI] | rw [m_addI] | rw [m_subI] | rw [m_negI] | rw [m_pow9] | rw [m_pow12] | rw [m_intB] | rw [m_lenL] | rw [m_lenT] | rw [m_tupL] | rw [m_ixT] | rw [m_ixL] | rw [at0] | rw [at1] | rw [at2] | rw [at3] | rw [m_ite] | rw [List.length_map])
  rw [lc_map (h := wayD) (fun w => some (.str w.2)) (by omega) fun w _ => by
    simp only [wayD, M.ok_bind, m_ixT, at1, M.opt_some]]
  repeat (first | with_reducible refine Yl.okb ?_ | with_reducible refine Yl.asc ?_ | rw [itt] | rw [itf] | rw [lcD_okb] | rw [lcD_asc] | rw [M.opt_some] | rw [un2_t] | rw [un3_t] | rw [iter_l] | rw [iter_t] | rw [part_n] | rw [part_i] | rw [int_i] | rw [m_zip] | rw [m_eqS] | rw [m_neS] | rw [m_eqI] | rw [m_neI] | rw [m_ltI] | rw [m_leI] | rw [m_gtI] | rw [m_geI] | rw [m_addI] | rw [m_subI] | rw [m_negI] | rw [m_pow9] | rw [m_pow12] | rw [m_intB] | rw [m_lenL] | rw [m_lenT] | rw [m_tupL] | rw [m_ixT] | rw [m_ixL] | rw [at0] | rw [at1] | rw [at2] | rw [at3] | rw [m_ite] | rw [List.length_map])
  have f1 : (rs.filterMap fun w => some (PyData.str w.1)).length ≤ 12 := Nat.le_trans fm_len rl
  have f2 : (rs.filterMap fun w => some (PyData.str w.2)).length ≤ 12 := Nat.le_trans fm_len rl
  have g1 : ∀ d ∈ rs.filterMap fun w => some (PyData.str w.1), ∃ s, d = .str s ∧ Small s := fun d m => by
    obtain ⟨w, mw, e⟩ := List.mem_filterMap.mp m
    cases e
    exact ⟨_, rfl, small_pl _ (ho.r1 w mw).1⟩
  have g2 : ∀ d ∈ rs.filterMap fun w => some (PyData.str w.2), ∃ s, d = .str s ∧ Small s := fun d m => by
    obtain ⟨w, mw, e⟩ := List.mem_filterMap.mp m
    cases e
    exact ⟨_, rfl, small_pl _ (ho.r1 w mw).2⟩
  generalize (rs.filterMap fun w => some (PyData.str w.1)) = q1 at f1 g1
  generalize (rs.filterMap fun w => some (PyData.str w.2)) = q2 at f2 g2
  rw [m_addL (by omega)]
  repeat (first | with_reducible refine Yl.okb ?_ | with_reducible refine Yl.asc ?_ | rw [itt] | rw [itf] | rw [lcD_okb] | rw [lcD_asc] | rw [M.opt_some] | rw [un2_t] | rw [un3_t] | rw [iter_l] | rw [iter_t] | rw [part_n] | rw [part_i] | rw [int_i] | rw [m_zip] | rw [m_eqS] | rw [m_neS] | rw [m_eqI] | rw [m_neI] | rw [m_ltI] | rw [m_leI] | rw [m_gtI] | rw [m_geI] | rw [m_addI] | rw [m_subI] | rw [m_negI] | rw [m_pow9] | rw [m_pow12] | rw [m_intB] | rw [m_lenL] | rw [m_lenT] | rw [m_tupL] | rw [m_ixT] | rw [m_ixL] | rw [at0] | rw [at1] | rw [at2] | rw [at3] | rw [m_ite] | rw [List.length_map])
  rw [m_addL (by rw [List.length_append, List.length_cons, List.length_singleton]; omega)]
  repeat (first | with_reducible refine Yl.okb ?_ | with_reducible refine Yl.asc ?_ | rw [itt] | rw [itf] | rw [lcD_okb] | rw [lcD_asc] | rw [M.opt_some] | rw [un2_t] | rw [un3_t] | rw [iter_l] | rw [iter_t] | rw [part_n] | rw [part_i] | rw [int_i] | rw [m_zip] | rw [m_eqS] | rw [m_neS] | rw [m_eqI] | rw [m_neI] | rw [m_ltI] | rw [m_leI] | rw [m_gtI] | rw [m_geI] | rw [m_addI] | rw [m_subI] | rw [m_negI] | rw [m_pow9] | rw [m_pow12] | rw [m_intB] | rw [m_lenL] | rw [m_lenT] | rw [m_tupL] | rw [m_ixT] | rw [m_ixL] | rw [at0] | rw [at1] | rw [at2] | rw [at3] | rw [m_ite] | rw [List.length_map])
  have g3 : ∀ d ∈ (q1 ++ q2) ++ [PyData.str "none", .str "zz"], ∃ s, d = .str s ∧ Small s := fun d m => by
    rcases List.mem_append.mp m with m | m
    · exact (List.mem_append.mp m).elim (g1 d) (g2 d)
    · simp only [List.mem_cons, List.not_mem_nil, or_false] at m
      rcases m with rfl | rfl
      · exact ⟨_, rfl, small_pl _ none_pl⟩
      · exact ⟨_, rfl, small_zz⟩
  have sd : SetD ((q1 ++ q2) ++ [PyData.str "none", .str "zz"]) := setD_s (by simp only [List.length_append, List.length_cons, List.length_nil]; omega) fun d m => by
    obtain ⟨s, e, _⟩ := g3 d m
    exact ⟨s, e⟩
  repeat (first | with_reducible refine Yl.okb ?_ | with_reducible refine Yl.asc ?_ | rw [itt] | rw [itf] | rw [m_sortSet sd] | rw [lcD_okb] | rw [lcD_asc] | rw [M.opt_some] | rw [un2_t] | rw [un3_t] | rw [iter_l] | rw [iter_t] | rw [part_n] | rw [part_i] | rw [int_i] | rw [m_zip] | rw [m_eqS] | rw [m_neS] | rw [m_eqI] | rw [m_neI] | rw [m_ltI] | rw [m_leI] | rw [m_gtI] | rw [m_geI] | rw [m_addI] | rw [m_subI] | rw [m_negI] | rw [m_pow9] | rw [m_pow12] | rw [m_intB] | rw [m_lenL] | rw [m_lenT] | rw [m_tupL] | rw [m_ixT] | rw [m_ixL] | rw [at0] | rw [at1] | rw [at2] | rw [at3] | rw [m_ite] | rw [List.length_map])
  have g4 : ∀ d ∈ sortD (dedupD ((q1 ++ q2) ++ [PyData.str "none", .str "zz"])), ∃ s, d = .str s ∧ Small s := fun d m => g3 d (mem_ss.mp m)
  generalize sortD (dedupD ((q1 ++ q2) ++ [PyData.str "none", .str "zz"])) = ps at g4
  refine Yl.of_ok (a := .bool true) ?_ rfl
  have g5 : ∀ d ∈ [bkD pg, bkD fw, bkD pg], ∃ bk, d = bkD bk ∧ Book bk := fun d m => by
    simp only [List.mem_cons, List.not_mem_nil, or_false] at m
    rcases m with rfl | rfl | rfl
    · exact ⟨pg, rfl, hb⟩
    · exact ⟨fw, rfl, hw⟩
    · exact ⟨pg, rfl, hb⟩
  refine loop_val (fun _ _ => ()) (fun d m u => ?_) fun u => rfl
  obtain ⟨bk, rfl, hk⟩ := g5 d m
  have sk := sm_book hk
  simp -implicitDefEqProofs only [M.ok_bind, m_repr sk (by decide) (by decide), iter_l]
  refine loop_val (fun _ _ => ()) (fun d m u => ?_) fun u => rfl
  obtain ⟨s, rfl, hs⟩ := g4 d m
  have cl := cp_len hk (vn bk) (bags (vn bk) bk)
  have sg := sp_good s cl (fun p m => hk.nm p (cp_sub hk m)) (fun p m => hk.dd p (cp_sub hk m))
  have sl := sp_len s (cp (vn bk) (bags (vn bk) bk) bk)
  have es := e_same sg.1 (Nat.le_trans sl cl)
  simp -implicitDefEqProofs only [e_offs hk hs, e_due hk hs, M.ok_bind, es, M.ite_t, M.ite_f]
  rw [m_push (by omega)]
  simp -implicitDefEqProofs only [M.ok_bind, m_neS, decide_true, Bool.not_true, M.ite_f]
end Lw

set_option maxRecDepth 100000
namespace Lw
open PySem L2 PN
theorem law_true (ns : List Int) (h : ns.length ≤ 63) : ∃ B', m_law [.scr ns] [] = .ok (.dat (.bool true)) B' := law_by y_law (by decide) ns
end Lw

set_option maxRecDepth 100000
open PySem PySem.W PyProof.Rows
set_option maxRecDepth 100000 in
set_option maxHeartbeats 0 in
theorem PySem.Challenge.cw_pressnotes_k73_offs_holds : PySem.Challenge.rw_pressnotes_k73_offs.Holds := by
  w_on; o_law; k_head; (case hw => w_witness2)
  k_fill
  refine PN.walk_g (l := PySem.Challenge.rw_pressnotes_k73_offs) (n := 63) (k := 6) (x := "_law_script") (m := Lw.m_law) rfl (by decide) rfl ⟨rfl, by decide, by decide⟩ (fun w h Y => PySem.W.kIn_of Y) ?FF Lw.law_true
  case FF =>
    intro w mg fa h KX G hmg
    have D_voided : PN.Df (L2.KOf KX) mg "voided" Lw.s_voided ["book"] := by
      unfold L2.KOf
      refine' PN.df_mk KX G ?a ?l ?c ?k ?b
      (case a => k_is); (case l => k_is); (case c => k_is); (case k => k_is); (case b => exact fun _ _ _ _ _ _ us hl => match us, hl with | [_], _ => rfl)
    have D_bags_in : PN.Df (L2.KOf KX) mg "bags_in" Lw.s_bags_in ["book"] := by
      unfold L2.KOf
      refine' PN.df_mk KX G ?a ?l ?c ?k ?b
      (case a => k_is); (case l => k_is); (case c => k_is); (case k => k_is); (case b => exact fun _ _ _ _ _ _ us hl => match us, hl with | [_], _ => rfl)
    have D_counted : PN.Df (L2.KOf KX) mg "counted" Lw.s_counted ["book"] := by
      unfold L2.KOf
      refine' PN.df_mk KX G ?a ?l ?c ?k ?b
      (case a => k_is); (case l => k_is); (case c => k_is); (case k => k_is); (case b => exact fun _ _ _ _ _ _ us hl => match us, hl with | [_], _ => rfl)
    have D_counted_pages : PN.Df (L2.KOf KX) mg "counted_pages" Lw.s_counted_pages ["book"] := by
      unfold L2.KOf
      refine' PN.df_mk KX G ?a ?l ?c ?k ?b
      (case a => k_is); (case l => k_is); (case c => k_is); (case k => k_is); (case b => exact fun _ _ _ _ _ _ us hl => match us, hl with | [_], _ => rfl)
    have D_many_in : PN.Df (L2.KOf KX) mg "many_in" Lw.s_many_in ["runs"] := by
      unfold L2.KOf
      refine' PN.df_mk KX G ?a ?l ?c ?k ?b
      (case a => k_is); (case l => k_is); (case c => k_is); (case k => k_is); (case b => exact fun _ _ _ _ _ _ us hl => match us, hl with | [_], _ => rfl)
    have D_brings : PN.Df (L2.KOf KX) mg "brings" Lw.s_brings ["deed", "place"] := by
      unfold L2.KOf
      refine' PN.df_mk KX G ?a ?l ?c ?k ?b
      (case a => k_is); (case l => k_is); (case c => k_is); (case k => k_is); (case b => exact fun _ _ _ _ _ _ us hl => match us, hl with | [_, _], _ => rfl)
    have D_offs : PN.Df (L2.KOf KX) mg "offs" Lw.s_offs ["book", "place"] := by
      unfold L2.KOf
      refine' PN.df_mk KX G ?a ?l ?c ?k ?b
      (case a => k_is); (case l => k_is); (case c => k_is); (case k => k_is); (case b => exact fun _ _ _ _ _ _ us hl => match us, hl with | [_, _], _ => rfl)
    have D__law_feed : PN.Df (L2.KOf KX) mg "_law_feed" Lw.s__law_feed ["_law_script"] := by
      unfold L2.KOf
      refine' PN.df_mk KX G ?a ?l ?c ?k ?b
      (case a => k_is); (case l => k_is); (case c => k_is); (case k => k_is); (case b => exact fun _ _ _ _ _ _ us hl => match us, hl with | [_], _ => rfl)
    have D__law_draw : PN.Df (L2.KOf KX) mg "_law_draw" Lw.s__law_draw ["_law_feed_here", "_law_many"] := by
      unfold L2.KOf
      refine' PN.df_mk KX G ?a ?l ?c ?k ?b
      (case a => k_is); (case l => k_is); (case c => k_is); (case k => k_is); (case b => exact fun _ _ _ _ _ _ us hl => match us, hl with | [_, _], _ => rfl)
    have D__law_same : PN.Df (L2.KOf KX) mg "_law_same" Lw.s__law_same ["_law_found", "_law_due_here"] := by
      unfold L2.KOf
      refine' PN.df_mk KX G ?a ?l ?c ?k ?b
      (case a => k_is); (case l => k_is); (case c => k_is); (case k => k_is); (case b => exact fun _ _ _ _ _ _ us hl => match us, hl with | [_, _], _ => rfl)
    have D__law_words : PN.Df (L2.KOf KX) mg "_law_words" Lw.s__law_words ["_law_feed_here"] := by
      unfold L2.KOf
      refine' PN.df_mk KX G ?a ?l ?c ?k ?b
      (case a => k_is); (case l => k_is); (case c => k_is); (case k => k_is); (case b => exact fun _ _ _ _ _ _ us hl => match us, hl with | [_], _ => rfl)
    have D__law_office : PN.Df (L2.KOf KX) mg "_law_office" Lw.s__law_office ["_law_feed_here"] := by
      unfold L2.KOf
      refine' PN.df_mk KX G ?a ?l ?c ?k ?b
      (case a => k_is); (case l => k_is); (case c => k_is); (case k => k_is); (case b => exact fun _ _ _ _ _ _ us hl => match us, hl with | [_], _ => rfl)
    have D__law_name : PN.Df (L2.KOf KX) mg "_law_name" Lw.s__law_name ["_law_feed_here"] := by
      unfold L2.KOf
      refine' PN.df_mk KX G ?a ?l ?c ?k ?b
      (case a => k_is); (case l => k_is); (case c => k_is); (case k => k_is); (case b => exact fun _ _ _ _ _ _ us hl => match us, hl with | [_], _ => rfl)
    have D__law_runs_of : PN.Df (L2.KOf KX) mg "_law_runs_of" Lw.s__law_runs_of ["_law_notes"] := by
      unfold L2.KOf
      refine' PN.df_mk KX G ?a ?l ?c ?k ?b
      (case a => k_is); (case l => k_is); (case c => k_is); (case k => k_is); (case b => exact fun _ _ _ _ _ _ us hl => match us, hl with | [_], _ => rfl)
    have D__law_runs : PN.Df (L2.KOf KX) mg "_law_runs" Lw.s__law_runs ["_law_feed_here", "_law_office_here"] := by
      unfold L2.KOf
      refine' PN.df_mk KX G ?a ?l ?c ?k ?b
      (case a => k_is); (case l => k_is); (case c => k_is); (case k => k_is); (case b => exact fun _ _ _ _ _ _ us hl => match us, hl with | [_, _], _ => rfl)
    have D__law_deed : PN.Df (L2.KOf KX) mg "_law_deed" Lw.s__law_deed ["_law_feed_here", "_law_office_here", "_law_kind", "_law_names", "_law_bags"] := by
      unfold L2.KOf
      refine' PN.df_mk KX G ?a ?l ?c ?k ?b
      (case a => k_is); (case l => k_is); (case c => k_is); (case k => k_is); (case b => exact fun _ _ _ _ _ _ us hl => match us, hl with | [_, _, _, _, _], _ => rfl)
    have D__law_book : PN.Df (L2.KOf KX) mg "_law_book" Lw.s__law_book ["_law_feed_here", "_law_office_here", "_law_most"] := by
      unfold L2.KOf
      refine' PN.df_mk KX G ?a ?l ?c ?k ?b
      (case a => k_is); (case l => k_is); (case c => k_is); (case k => k_is); (case b => exact fun _ _ _ _ _ _ us hl => match us, hl with | [_, _, _], _ => rfl)
    have D__law_counted : PN.Df (L2.KOf KX) mg "_law_counted" Lw.s__law_counted ["_law_book_here"] := by
      unfold L2.KOf
      refine' PN.df_mk KX G ?a ?l ?c ?k ?b
      (case a => k_is); (case l => k_is); (case c => k_is); (case k => k_is); (case b => exact fun _ _ _ _ _ _ us hl => match us, hl with | [_], _ => rfl)
    have D__law_brings : PN.Df (L2.KOf KX) mg "_law_brings" Lw.s__law_brings ["_law_deed_here", "_law_place"] := by
      unfold L2.KOf
      refine' PN.df_mk KX G ?a ?l ?c ?k ?b
      (case a => k_is); (case l => k_is); (case c => k_is); (case k => k_is); (case b => exact fun _ _ _ _ _ _ us hl => match us, hl with | [_, _], _ => rfl)
    have D__law_due : PN.Df (L2.KOf KX) mg "_law_due" Lw.s__law_due ["_law_book_here", "_law_place"] := by
      unfold L2.KOf
      refine' PN.df_mk KX G ?a ?l ?c ?k ?b
      (case a => k_is); (case l => k_is); (case c => k_is); (case k => k_is); (case b => exact fun _ _ _ _ _ _ us hl => match us, hl with | [_, _], _ => rfl)
    have D_law : PN.Df (L2.KOf KX) mg "law" Lw.s_law ["_law_script"] := by
      unfold L2.KOf
      refine' PN.df_mk KX G ?a ?l ?c ?k ?b
      (case a => k_is); (case l => k_is); (case c => k_is); (case k => k_is); (case b => exact fun _ _ _ _ _ _ us hl => match us, hl with | [_], _ => rfl)
    have T : Lw.Txt (L2.KOf KX) mg := by
      unfold L2.KOf
      refine' ⟨PySem.W.mg_none_of KX G ?z0, PySem.W.mg_none_of KX G ?z1, PySem.W.mg_none_of KX G ?z2, PySem.W.mg_none_of KX G ?z3, PySem.W.mg_none_of KX G ?z4, PySem.W.mg_none_of KX G ?z5, PySem.W.mg_none_of KX G ?z6, PySem.W.mg_none_of KX G ?z7, PySem.W.mg_none_of KX G ?z8, PySem.W.mg_none_of KX G ?z9⟩
      (case z0 => k_is); (case z1 => k_is); (case z2 => k_is); (case z3 => k_is); (case z4 => k_is); (case z5 => k_is); (case z6 => k_is); (case z7 => k_is); (case z8 => k_is); (case z9 => k_is)
    refine PN.law_mk D_law hmg fun f fd F base hK hN => ?_
    have h_voided := Lw.ok_voided (P := PySem.Challenge.rw_pressnotes_k73_offs.prog) (w := w) (base := base) T D_voided 
    have h_bags_in := Lw.ok_bags_in (P := PySem.Challenge.rw_pressnotes_k73_offs.prog) (w := w) (base := base) T D_bags_in h_voided
    have h_counted := Lw.ok_counted (P := PySem.Challenge.rw_pressnotes_k73_offs.prog) (w := w) (base := base) T D_counted h_voided h_bags_in
    have h_counted_pages := Lw.ok_counted_pages (P := PySem.Challenge.rw_pressnotes_k73_offs.prog) (w := w) (base := base) T D_counted_pages h_counted
    have h_many_in := Lw.ok_many_in (P := PySem.Challenge.rw_pressnotes_k73_offs.prog) (w := w) (base := base) T D_many_in 
    have h_brings := Lw.ok_brings (P := PySem.Challenge.rw_pressnotes_k73_offs.prog) (w := w) (base := base) T D_brings h_many_in
    have h_offs := Lw.ok_offs (P := PySem.Challenge.rw_pressnotes_k73_offs.prog) (w := w) (base := base) T D_offs h_counted_pages h_brings
    have h__law_feed := Lw.ok__law_feed (P := PySem.Challenge.rw_pressnotes_k73_offs.prog) (w := w) (base := base) T D__law_feed 
    have h__law_draw := Lw.ok__law_draw (P := PySem.Challenge.rw_pressnotes_k73_offs.prog) (w := w) (base := base) T D__law_draw 
    have h__law_same := Lw.ok__law_same (P := PySem.Challenge.rw_pressnotes_k73_offs.prog) (w := w) (base := base) T D__law_same 
    have h__law_words := Lw.ok__law_words (P := PySem.Challenge.rw_pressnotes_k73_offs.prog) (w := w) (base := base) T D__law_words h__law_draw
    have h__law_office := Lw.ok__law_office (P := PySem.Challenge.rw_pressnotes_k73_offs.prog) (w := w) (base := base) T D__law_office h__law_draw h__law_words
    have h__law_name := Lw.ok__law_name (P := PySem.Challenge.rw_pressnotes_k73_offs.prog) (w := w) (base := base) T D__law_name h__law_draw
    have h__law_runs_of := Lw.ok__law_runs_of (P := PySem.Challenge.rw_pressnotes_k73_offs.prog) (w := w) (base := base) T D__law_runs_of 
    have h__law_runs := Lw.ok__law_runs (P := PySem.Challenge.rw_pressnotes_k73_offs.prog) (w := w) (base := base) T D__law_runs h__law_draw h__law_runs_of
    have h__law_deed := Lw.ok__law_deed (P := PySem.Challenge.rw_pressnotes_k73_offs.prog) (w := w) (base := base) T D__law_deed h__law_draw h__law_runs
    have h__law_book := Lw.ok__law_book (P := PySem.Challenge.rw_pressnotes_k73_offs.prog) (w := w) (base := base) T D__law_book h__law_draw h__law_name h__law_deed
    have h__law_counted := Lw.ok__law_counted (P := PySem.Challenge.rw_pressnotes_k73_offs.prog) (w := w) (base := base) T D__law_counted 
    have h__law_brings := Lw.ok__law_brings (P := PySem.Challenge.rw_pressnotes_k73_offs.prog) (w := w) (base := base) T D__law_brings 
    have h__law_due := Lw.ok__law_due (P := PySem.Challenge.rw_pressnotes_k73_offs.prog) (w := w) (base := base) T D__law_due h__law_counted h__law_brings
    exact Lw.ok_law F T h_offs h__law_feed h__law_draw h__law_same h__law_office h__law_book h__law_due

