import PyProof.Rows.All
import Wide.All
import OpenK.AllK
import Wide.FinOn
import HandS.ForMost
import HandS.Exc
import HandS.TryOnly
import HandS.ExcOwn
import HandS.WordsExc
import HandS.IsInst
import HandS.Wide
import HandS.Defaults
import HandS.TupAny
import HandS.Style
import HandS.ExcInit
import HandS.ExcCtx
import HandS.Head0
import HandS.Head1
import HandS.Head2
import HandS.HeadEnd
import HandS.HeadHook1
import HandS.HeadHook2
import KE.KExcSuper
import HandS.HotCalls
import KE.KExcIs
import HandS.ExcField
import HandS.ExcIs
import HandS.HeadHook4
import PySem.Challenge.RW_surelyseen_k43_whole_overspent
set_option Elab.async false
set_option linter.all false
set_option maxRecDepth 100000
set_option maxHeartbeats 4000000
/-! Pu1: a layer of plain data over the hand layer. D: data; DV: a value stands for it in a heap; Rep: the slots. -/
namespace Pu
open PySem PySem.Spec PyProof.Rows L2

/-- plain data -/
inductive D where
  | non | bl (b : Bool) | int (i : Int) | str (x : Str)
  | tup (ds : List D) | lst (ds : List D)
  | ins (C : Addr) (fs : List Str) (ds : List D)
  | adr (a : Addr)
  | scr (ns : List Int)

mutual
def DV (H : Hp) : D → V → Prop
  | .non, v => v = .non
  | .bl b, v => v = .bl b
  | .int i, v => v = .int i
  | .str x, v => v = .str x
  | .adr a, v => v = .ref a
  | .scr ns, v => ∃ a o, v = .ref a ∧ H a = some (.frz o (.lst (ns.map V.int)))
  | .tup ds, v => ∃ a xs, v = .ref a ∧ H a = some (.tup xs) ∧ DVs H ds xs
  | .lst ds, v => ∃ a xs, v = .ref a ∧ H a = some (.lst xs) ∧ DVs H ds xs
  | .ins C fs ds, v => ∃ a dx xs, v = .ref a ∧ H a = some (.ins C dx (fs.zip xs)) ∧ DVs H ds xs
def DVs (H : Hp) : List D → List V → Prop
  | [], xs => xs = []
  | d :: ds, xs => ∃ x r, xs = x :: r ∧ DV H d x ∧ DVs H ds r
end

mutual
theorem DV.mono {H H' : Hp} (s : Same H H') : ∀ {d : D} {v : V}, DV H d v → DV H' d v
  | .non, _, h => by simpa only [DV] using h
  | .bl b, _, h => by simpa only [DV] using h
  | .int i, _, h => by simpa only [DV] using h
  | .str x, _, h => by simpa only [DV] using h
  | .adr a, _, h => by simpa only [DV] using h
  | .scr ns, _, h => by
    simp only [DV] at h ⊢
    obtain ⟨a, o, e, h1⟩ := h
    exact ⟨a, o, e, s a _ h1⟩
  | .tup ds, _, h => by
    simp only [DV] at h ⊢
    obtain ⟨a, xs, e, h1, h2⟩ := h
    exact ⟨a, xs, e, s a _ h1, DVs.mono s h2⟩
  | .lst ds, _, h => by
    simp only [DV] at h ⊢
    obtain ⟨a, xs, e, h1, h2⟩ := h
    exact ⟨a, xs, e, s a _ h1, DVs.mono s h2⟩
  | .ins C fs ds, _, h => by
    simp only [DV] at h ⊢
    obtain ⟨a, dx, xs, e, h1, h2⟩ := h
    exact ⟨a, dx, xs, e, s a _ h1, DVs.mono s h2⟩
theorem DVs.mono {H H' : Hp} (s : Same H H') : ∀ {ds : List D} {xs : List V}, DVs H ds xs → DVs H' ds xs
  | [], _, h => by simpa only [DVs] using h
  | d :: ds, _, h => by
    simp only [DVs] at h ⊢
    obtain ⟨x, r, e, h1, h2⟩ := h
    exact ⟨x, r, e, DV.mono s h1, DVs.mono s h2⟩
end
section
variable {H : Hp}
theorem DVs.nil : DVs H [] [] := by simp only [DVs]
theorem DVs.cons {d : D} {x : V} {ds : List D} {xs : List V} (h : DV H d x) (r : DVs H ds xs) : DVs H (d :: ds) (x :: xs) := by
  simp only [DVs]
  exact ⟨x, xs, rfl, h, r⟩
theorem DVs.of_nil {xs : List V} (h : DVs H [] xs) : xs = [] := by simpa only [DVs] using h
theorem DVs.of_cons {d : D} {ds : List D} {xs : List V} (h : DVs H (d :: ds) xs) : ∃ x r, xs = x :: r ∧ DV H d x ∧ DVs H ds r := by simpa only [DVs] using h
theorem DVs.length : ∀ {ds : List D} {xs : List V}, DVs H ds xs → xs.length = ds.length
  | [], _, h => by rw [h.of_nil]; rfl
  | d :: ds, _, h => by
    obtain ⟨x, r, rfl, _, h2⟩ := h.of_cons
    rw [List.length_cons, List.length_cons, DVs.length h2]
theorem DVs.get : ∀ {ds : List D} {xs : List V} {i : Nat} {d : D}, DVs H ds xs → ds[i]? = some d → ∃ x, xs[i]? = some x ∧ DV H d x
  | [], _, _, _, _, e => by simp at e
  | d :: ds, _, 0, _, h, e => by
    obtain ⟨x, r, rfl, h1, _⟩ := h.of_cons
    simp at e
    subst e
    exact ⟨x, rfl, h1⟩
  | d :: ds, _, i + 1, d', h, e => by
    obtain ⟨x, r, rfl, _, h2⟩ := h.of_cons
    obtain ⟨y, h3, h4⟩ := DVs.get (i := i) (d := d') h2 (by simpa using e)
    exact ⟨y, by simpa using h3, h4⟩
theorem DVs.gets : ∀ {ds : List D} {xs : List V} {i : Nat} {x : V}, DVs H ds xs → xs[i]? = some x → ∃ d, ds[i]? = some d ∧ DV H d x
  | [], _, _, _, h, e => by rw [h.of_nil] at e; simp at e
  | d :: ds, _, 0, _, h, e => by
    obtain ⟨x, r, rfl, h1, _⟩ := h.of_cons
    simp at e
    subst e
    exact ⟨d, rfl, h1⟩
  | d :: ds, _, i + 1, x', h, e => by
    obtain ⟨x, r, rfl, _, h2⟩ := h.of_cons
    obtain ⟨y, h3, h4⟩ := DVs.gets (i := i) (x := x') h2 (by simpa using e)
    exact ⟨y, by simpa using h3, h4⟩
theorem DVs.append : ∀ {ds es : List D} {xs ys : List V}, DVs H ds xs → DVs H es ys → DVs H (ds ++ es) (xs ++ ys)
  | [], _, _, _, h, k => by rw [h.of_nil]; exact k
  | d :: ds, _, _, _, h, k => by
    obtain ⟨x, r, rfl, h1, h2⟩ := h.of_cons
    exact DVs.cons h1 (DVs.append h2 k)
theorem DVs.one {d : D} {x : V} (h : DV H d x) : DVs H [d] [x] := .cons h .nil
theorem DVs.set {d : D} {x : V} (k : DV H d x) : ∀ {ds : List D} {xs : List V} (i : Nat), DVs H ds xs → DVs H (ds.set i d) (xs.set i x)
  | [], _, _, h => by rw [h.of_nil]; exact .nil
  | _ :: ds, _, 0, h => by
    obtain ⟨y, r, rfl, _, h2⟩ := h.of_cons
    exact DVs.cons k h2
  | _ :: ds, _, i + 1, h => by
    obtain ⟨y, r, rfl, h1, h2⟩ := h.of_cons
    exact DVs.cons h1 (DVs.set k i h2)
theorem DVs.take : ∀ {ds : List D} {xs : List V} (n : Nat), DVs H ds xs → DVs H (ds.take n) (xs.take n)
  | _, _, 0, _ => by simpa using DVs.nil
  | [], _, n + 1, h => by rw [h.of_nil]; exact .nil
  | d :: ds, _, n + 1, h => by
    obtain ⟨y, r, rfl, h1, h2⟩ := h.of_cons
    exact DVs.cons h1 (DVs.take n h2)
theorem DVs.drop : ∀ {ds : List D} {xs : List V} (n : Nat), DVs H ds xs → DVs H (ds.drop n) (xs.drop n)
  | _, _, 0, h => h
  | [], _, n + 1, h => by rw [h.of_nil]; exact .nil
  | d :: ds, _, n + 1, h => by
    obtain ⟨y, r, rfl, h1, h2⟩ := h.of_cons
    exact DVs.drop n h2
theorem DVs.reverse : ∀ {ds : List D} {xs : List V}, DVs H ds xs → DVs H ds.reverse xs.reverse
  | [], _, h => by rw [h.of_nil]; exact .nil
  | d :: ds, _, h => by
    obtain ⟨y, r, rfl, h1, h2⟩ := h.of_cons
    rw [List.reverse_cons, List.reverse_cons]
    exact DVs.append (DVs.reverse h2) (.one h1)
theorem DVs.flat : ∀ (n : Nat) {ds : List D} {xs : List V}, DVs H ds xs → DVs H (List.replicate n ds).flatten (List.replicate n xs).flatten
  | 0, _, _, _ => .nil
  | n + 1, _, _, h => by
    rw [List.replicate_succ, List.flatten_cons, List.replicate_succ, List.flatten_cons]
    exact DVs.append h (DVs.flat n h)
theorem DVs.ints : ∀ {ns : List Int} {xs : List V}, DVs H (ns.map D.int) xs → xs = ns.map V.int
  | [], _, h => h.of_nil
  | n :: ns, _, h => by
    obtain ⟨y, r, rfl, h1, h2⟩ := h.of_cons
    have e : y = V.int n := by simpa only [DV] using h1
    rw [e, DVs.ints h2]
    rfl
theorem DVs.of_ints : ∀ (ns : List Int), DVs H (ns.map D.int) (ns.map V.int)
  | [] => .nil
  | n :: ns => .cons (by simp only [DV]) (DVs.of_ints ns)
theorem DV.int_ {i : Int} {v : V} (h : DV H (.int i) v) : v = .int i := by simpa only [DV] using h
theorem DV.bl_ {i : Bool} {v : V} (h : DV H (.bl i) v) : v = .bl i := by simpa only [DV] using h
theorem DV.str_ {i : Str} {v : V} (h : DV H (.str i) v) : v = .str i := by simpa only [DV] using h
theorem DV.non_ {v : V} (h : DV H .non v) : v = .non := by simpa only [DV] using h
theorem DV.adr_ {a : Addr} {v : V} (h : DV H (.adr a) v) : v = .ref a := by simpa only [DV] using h
theorem DV.scr_ {ns : List Int} {v : V} (h : DV H (.scr ns) v) : ∃ a o, v = .ref a ∧ H a = some (.frz o (.lst (ns.map V.int))) := by simpa only [DV] using h
theorem DV.tup_ {ds : List D} {v : V} (h : DV H (.tup ds) v) : ∃ a xs, v = .ref a ∧ H a = some (.tup xs) ∧ DVs H ds xs := by simpa only [DV] using h
theorem DV.lst_ {ds : List D} {v : V} (h : DV H (.lst ds) v) : ∃ a xs, v = .ref a ∧ H a = some (.lst xs) ∧ DVs H ds xs := by simpa only [DV] using h
theorem DV.ins_ {C : Addr} {fs : List Str} {ds : List D} {v : V} (h : DV H (.ins C fs ds) v) : ∃ a dx xs, v = .ref a ∧ H a = some (.ins C dx (fs.zip xs)) ∧ DVs H ds xs := by simpa only [DV] using h
theorem DV.mk_int {i : Int} : DV H (.int i) (.int i) := by simp only [DV]
theorem DV.mk_bl {i : Bool} : DV H (.bl i) (.bl i) := by simp only [DV]
theorem DV.mk_str {i : Str} : DV H (.str i) (.str i) := by simp only [DV]
theorem DV.mk_non : DV H .non .non := by simp only [DV]
theorem DV.mk_adr {a : Addr} : DV H (.adr a) (.ref a) := by simp only [DV]
theorem DV.mk_tup {a : Addr} {ds : List D} {xs : List V} (h : H a = some (.tup xs)) (k : DVs H ds xs) : DV H (.tup ds) (.ref a) := by
  simp only [DV]; exact ⟨a, xs, rfl, h, k⟩
theorem DV.mk_lst {a : Addr} {ds : List D} {xs : List V} (h : H a = some (.lst xs)) (k : DVs H ds xs) : DV H (.lst ds) (.ref a) := by
  simp only [DV]; exact ⟨a, xs, rfl, h, k⟩
end

/-! ### heaps: H the heap, Hb the part of it in which the data that is only read lies -/
structure Grow (H Hb H' Hb' : Hp) : Prop where
  top : Same H H'
  bot : Same Hb Hb'
  sub : Same Hb' H'
  new : ∀ a, Hb a = none → Hb' a ≠ none → H a = none
theorem same_none {H H' : Hp} (s : Same H H') {a : Addr} (h : H' a = none) : H a = none := s.free h
theorem Grow.refl {H Hb : Hp} (s : Same Hb H) : Grow H Hb H Hb := ⟨Same.refl _, Same.refl _, s, fun a h k => absurd h k⟩
theorem Grow.trans {H0 B0 H1 B1 H2 B2 : Hp} (a : Grow H0 B0 H1 B1) (b : Grow H1 B1 H2 B2) : Grow H0 B0 H2 B2 where
  top := a.top.trans b.top
  bot := a.bot.trans b.bot
  sub := b.sub
  new := fun p h k => by
    cases e : B1 p with
    | none => exact same_none a.top (b.new p e k)
    | some o => exact a.new p h (by rw [e]; exact fun z => nomatch z)
/-- a new object that is read from now on -/
theorem Grow.ro {H Hb : Hp} (s : Same Hb H) {p : Addr} {o : HO} (hp : H p = none) : Grow H Hb (upd H p o) (upd Hb p o) where
  top := fun a u e => by rw [upd_ne (ne_of_none e hp)]; exact e
  bot := fun a u e => by rw [upd_ne (ne_of_none (s a u e) hp)]; exact e
  sub := fun a u e => by
    by_cases ha : a = p
    · rw [ha, upd_same] at e ⊢; exact e
    · rw [upd_ne ha] at e ⊢; exact s a u e
  new := fun a h k => by
    by_cases ha : a = p
    · rw [ha]; exact hp
    · rw [upd_ne ha] at k; exact absurd h k
/-- a new object that may be written -/
theorem Grow.own {H Hb : Hp} (s : Same Hb H) {p : Addr} {o : HO} (hp : H p = none) : Grow H Hb (upd H p o) Hb where
  top := fun a u e => by rw [upd_ne (ne_of_none e hp)]; exact e
  bot := Same.refl _
  sub := fun a u e => by rw [upd_ne (ne_of_none (s a u e) hp)]; exact s a u e
  new := fun a h k => absurd h k
/-- what stands in neither of the two older parts may change -/
theorem Grow.mut {H0 B0 H Hb : Hp} (g : Grow H0 B0 H Hb) {p : Addr} {o : HO} (h0 : H0 p = none) (hb : Hb p = none) : Grow H0 B0 (upd H p o) Hb where
  top := fun a u e => by rw [upd_ne (ne_of_none e h0)]; exact g.top a u e
  bot := g.bot
  sub := fun a u e => by rw [upd_ne (ne_of_none e hb)]; exact g.sub a u e
  new := g.new
/-- an owned object becomes one that is only read -/
theorem Grow.frz {H0 B0 H Hb : Hp} (g : Grow H0 B0 H Hb) {p : Addr} {o : HO} (h0 : H0 p = none) (hb : Hb p = none) (hp : H p = some o) : Grow H0 B0 H (upd Hb p o) where
  top := g.top
  bot := fun a u e => by rw [upd_ne (ne_of_none (g.bot a u e) hb)]; exact g.bot a u e
  sub := fun a u e => by
    by_cases ha : a = p
    · rw [ha, upd_same] at e; rw [ha, hp]; exact e
    · rw [upd_ne ha] at e; exact g.sub a u e
  new := fun a h k => by
    by_cases ha : a = p
    · rw [ha]; exact h0
    · rw [upd_ne ha] at k; exact g.new a h k

/-! ### slots -/
/-- a slot: data that is only read; a list of its own; a list of lists of its own (where its rows lie, the rows) -/
inductive S where
  | ro (d : D) | own (ds : List D) | tab (p : Addr) (ps : List Addr) (rows : List (List D))
abbrev Ro : Type := List (Option S)
/-- a table at p: its rows stand at ps, each its own list -/
structure TabOk (H0 Hb H : Hp) (ps : List Addr) (rows : List (List D)) (p : Addr) : Prop where
  out : H p = some (.lst (ps.map V.ref))
  o0 : H0 p = none
  ob : Hb p = none
  len : ps.length = rows.length
  nd : ps.Nodup
  np : p ∉ ps
  row : ∀ (k : Nat) (q : Addr) (r : List D), ps[k]? = some q → rows[k]? = some r → ∃ xs, H q = some (.lst xs) ∧ H0 q = none ∧ Hb q = none ∧ DVs Hb r xs
def SOk (H0 Hb H : Hp) : S → V → Prop
  | .ro d, v => DV Hb d v
  | .own ds, v => ∃ p xs, v = .ref p ∧ H p = some (.lst xs) ∧ H0 p = none ∧ Hb p = none ∧ DVs Hb ds xs
  | .tab p ps rows, v => v = .ref p ∧ TabOk H0 Hb H ps rows p
/-- a stands among what a slot owns -/
def Has : S → V → Addr → Prop
  | .ro _, _, _ => False
  | .own _, v, a => v = .ref a
  | .tab _ ps _, v, a => v = .ref a ∨ a ∈ ps
structure Rep (H0 B0 : Hp) (ρ : Ro) (σ : L2.St) (Hb H : Hp) : Prop where
  grow : Grow H0 B0 H Hb
  len : σ.length = ρ.length
  slot : ∀ (i : Nat) (s : S), ρ[i]? = some (some s) → ∃ v, σ[i]? = some (some v) ∧ SOk H0 Hb H s v
  sep : ∀ (i j : Nat) (s t : S) (u v : V) (a : Addr), i ≠ j → ρ[i]? = some (some s) → ρ[j]? = some (some t) → σ[i]? = some (some u) → σ[j]? = some (some v) → Has s u a → Has t v a → False
section
variable {H0 B0 Hb H Hb' H' : Hp} {ρ : Ro} {σ : L2.St}
theorem grow_free (g : Grow H Hb H' Hb') {p : Addr} {o : HO} (h1 : H p = some o) (h3 : Hb p = none) : Hb' p = none := by
  cases q : Hb' p with
  | none => rfl
  | some o' =>
    have z := g.new p h3 (by rw [q]; exact fun z => nomatch z)
    rw [h1] at z
    cases z
theorem TabOk.grow {ps : List Addr} {rows : List (List D)} {p : Addr} (h : TabOk H0 Hb H ps rows p) (g : Grow H Hb H' Hb') : TabOk H0 Hb' H' ps rows p :=
  ⟨g.top p _ h.out, h.o0, grow_free g h.out h.ob, h.len, h.nd, h.np, fun k q r e1 e2 => by
    obtain ⟨xs, z1, z2, z3, z4⟩ := h.row k q r e1 e2
    exact ⟨xs, g.top q _ z1, z2, grow_free g z1 z3, z4.mono g.bot⟩⟩
theorem SOk.grow {s : S} {v : V} (h : SOk H0 Hb H s v) (g : Grow H Hb H' Hb') : SOk H0 Hb' H' s v := by
  cases s with
  | ro d => exact DV.mono g.bot h
  | own ds =>
    obtain ⟨p, xs, e, h1, h2, h3, h4⟩ := h
    exact ⟨p, xs, e, g.top p _ h1, h2, grow_free g h1 h3, h4.mono g.bot⟩
  | tab p ps rows =>
    obtain ⟨e, h⟩ := h
    exact ⟨e, h.grow g⟩
/-- what a slot owns stands in the heap, outside of the older parts -/
theorem Has.own {s : S} {v : V} {a : Addr} (k : SOk H0 Hb H s v) (h : Has s v a) : (∃ xs, H a = some (.lst xs)) ∧ H0 a = none ∧ Hb a = none := by
  cases s with
  | ro d => exact h.elim
  | own ds =>
    obtain ⟨p, xs, e, h1, h2, h3, h4⟩ := k
    rw [e] at h
    have e2 : p = a := V.ref.inj h
    rw [← e2]
    exact ⟨⟨_, h1⟩, h2, h3⟩
  | tab p ps rows =>
    obtain ⟨e, K⟩ := k
    rcases h with h | h
    · rw [e] at h
      have e2 : p = a := V.ref.inj h
      rw [← e2]
      exact ⟨⟨_, K.out⟩, K.o0, K.ob⟩
    · obtain ⟨k, hk⟩ := List.getElem?_of_mem h
      have hl := (List.getElem?_eq_some_iff.mp hk).1
      rw [K.len] at hl
      obtain ⟨xs, z1, z2, z3, _⟩ := K.row k a _ hk (List.getElem?_eq_getElem hl)
      exact ⟨⟨_, z1⟩, z2, z3⟩
theorem Rep.more (R : Rep H0 B0 ρ σ Hb H) (g : Grow H Hb H' Hb') : Rep H0 B0 ρ σ Hb' H' :=
  ⟨R.grow.trans g, R.len, fun i s e => by
    obtain ⟨v, h1, h2⟩ := R.slot i s e
    exact ⟨v, h1, h2.grow g⟩, R.sep⟩
theorem Rep.sub (R : Rep H0 B0 ρ σ Hb H) : Same Hb H := R.grow.sub
/-- the slot i is stored anew: by s, which stands as it should; what it owns no other slot owns -/
theorem Rep.putS (R : Rep H0 B0 ρ σ Hb H) {i : Nat} {s : S} {v : V} (h : SOk H0 Hb H s v) (nw : ∀ (j : Nat) (t : S) (u : V) (a : Addr), j ≠ i → ρ[j]? = some (some t) → σ[j]? = some (some u) → Has t u a → Has s v a → False) : Rep H0 B0 (ρ.set i (some s)) (σ.set i (some v)) Hb H := by
  have at_ : ∀ {j : Nat} {t : S} {u : V}, (ρ.set i (some s))[j]? = some (some t) → (σ.set i (some v))[j]? = some (some u) → (j = i ∧ t = s ∧ u = v) ∨ (j ≠ i ∧ ρ[j]? = some (some t) ∧ σ[j]? = some (some u)) := fun {j t u} e1 e2 => by
    by_cases hj : j = i
    · subst hj
      by_cases hl : j < ρ.length
      · rw [List.getElem?_set_self hl] at e1
        rw [List.getElem?_set_self (by rw [R.len]; exact hl)] at e2
        cases e1
        cases e2
        exact .inl ⟨rfl, rfl, rfl⟩
      · rw [List.getElem?_eq_none (by rw [List.length_set]; omega)] at e1
        cases e1
    · rw [List.getElem?_set_ne (Ne.symm hj)] at e1 e2
      exact .inr ⟨hj, e1, e2⟩
  refine ⟨R.grow, by rw [List.length_set, List.length_set]; exact R.len, fun j t e => ?_, fun a b t1 t2 u1 u2 x hab e1 e2 f1 f2 h1 h2 => ?_⟩
  · by_cases hj : j = i
    · subst hj
      by_cases hl : j < ρ.length
      · rw [List.getElem?_set_self hl] at e
        cases e
        exact ⟨v, List.getElem?_set_self (by rw [R.len]; exact hl), h⟩
      · rw [List.getElem?_eq_none (by rw [List.length_set]; omega)] at e
        cases e
    · rw [List.getElem?_set_ne (Ne.symm hj)] at e
      obtain ⟨u, k1, k2⟩ := R.slot j t e
      exact ⟨u, by rw [List.getElem?_set_ne (Ne.symm hj)]; exact k1, k2⟩
  · rcases at_ e1 f1 with ⟨rfl, rfl, rfl⟩ | ⟨na, q1, q2⟩ <;> rcases at_ e2 f2 with ⟨rfl, rfl, rfl⟩ | ⟨nb, q3, q4⟩
    · exact hab rfl
    · exact nw b t2 u2 x nb q3 q4 h2 h1
    · exact nw a t1 u1 x na q1 q2 h1 h2
    · exact R.sep a b t1 t2 u1 u2 x hab q1 q3 q2 q4 h1 h2
theorem Rep.put (R : Rep H0 B0 ρ σ Hb H) {i : Nat} {d : D} {v : V} (h : DV Hb d v) : Rep H0 B0 (ρ.set i (some (.ro d))) (σ.set i (some v)) Hb H := R.putS h fun _ _ _ _ _ _ _ _ z => z
/-- .. by a list of its own, at p, which no slot owns -/
theorem Rep.putOwn (R : Rep H0 B0 ρ σ Hb H) {i : Nat} {ds : List D} {p : Addr} {xs : List V} (hp : H p = some (.lst xs)) (h0 : H0 p = none) (hb : Hb p = none) (h : DVs Hb ds xs)
    (nw : ∀ (j : Nat) (t : S) (u : V), j ≠ i → ρ[j]? = some (some t) → σ[j]? = some (some u) → ¬ Has t u p) : Rep H0 B0 (ρ.set i (some (.own ds))) (σ.set i (some (.ref p))) Hb H :=
  R.putS (s := .own ds) ⟨p, xs, rfl, hp, h0, hb, h⟩ fun j t u a hj e1 e2 h1 h2 => by
    have e : p = a := V.ref.inj h2
    rw [← e] at h1
    exact nw j t u hj e1 e2 h1
/-- .. by a table that is owned by no slot -/
theorem Rep.putTab (R : Rep H0 B0 ρ σ Hb H) {i : Nat} {ps : List Addr} {rows : List (List D)} {p : Addr} (K : TabOk H0 Hb H ps rows p)
    (nw : ∀ (j : Nat) (t : S) (u : V) (a : Addr), j ≠ i → ρ[j]? = some (some t) → σ[j]? = some (some u) → Has t u a → ¬ (a = p ∨ a ∈ ps)) : Rep H0 B0 (ρ.set i (some (.tab p ps rows))) (σ.set i (some (.ref p))) Hb H :=
  R.putS (s := .tab p ps rows) ⟨rfl, K⟩ fun j t u a hj e1 e2 h1 h2 => nw j t u a hj e1 e2 h1 (h2.elim (fun z => .inl (V.ref.inj z).symm) .inr)
theorem TabOk.fresh {ps : List Addr} {rows : List (List D)} {p : Addr} (K : TabOk H0 Hb H ps rows p) {a : Addr} (h : H0 a = none → False) : ¬ (a = p ∨ a ∈ ps) := fun z => by
  rcases z with z | z
  · rw [z] at h; exact h K.o0
  · obtain ⟨k, hk⟩ := List.getElem?_of_mem z
    have hl := (List.getElem?_eq_some_iff.mp hk).1
    rw [K.len] at hl
    obtain ⟨xs, _, y2, _⟩ := K.row k a _ hk (List.getElem?_eq_getElem hl)
    exact h y2
/-- what is fresh is owned by no slot -/
theorem Rep.fresh_own (R : Rep H0 B0 ρ σ Hb H) {p : Addr} (hp : H p = none) : ∀ (j : Nat) (t : S) (u : V), ρ[j]? = some (some t) → σ[j]? = some (some u) → ¬ Has t u p := fun j t u e1 e2 h => by
  obtain ⟨v, k1, k2⟩ := R.slot j t e1
  rw [e2] at k1
  cases k1
  obtain ⟨⟨xs, z⟩, _⟩ := h.own k2
  rw [hp] at z
  cases z
/-- the list at q, which the slot i owns, is written; the slot stands for s' then -/
theorem Rep.writeS (R : Rep H0 B0 ρ σ Hb H) {i : Nat} {s s' : S} {v : V} {q : Addr} {ys : List V} (e : ρ[i]? = some (some s)) (hσ : σ[i]? = some (some v)) (hq : Has s v q) (hs : ∀ a, Has s' v a → Has s v a) (k : SOk H0 Hb (upd H q (.lst ys)) s' v) :
    Rep H0 B0 (ρ.set i (some s')) σ Hb (upd H q (.lst ys)) := by
  obtain ⟨v', h1, h2⟩ := R.slot i s e
  rw [hσ] at h1
  cases h1
  obtain ⟨_, q0, qb⟩ := hq.own h2
  have hl : i < ρ.length := (List.getElem?_eq_some_iff.mp e).1
  refine ⟨R.grow.mut q0 qb, by rw [List.length_set]; exact R.len, fun j t ej => ?_, fun a b t1 t2 u1 u2 x hab e1 e2 f1 f2 h3 h4 => ?_⟩
  · by_cases hj : j = i
    · subst hj
      rw [List.getElem?_set_self hl] at ej
      cases ej
      exact ⟨v, hσ, k⟩
    · rw [List.getElem?_set_ne (Ne.symm hj)] at ej
      obtain ⟨u, k1, k2⟩ := R.slot j t ej
      refine ⟨u, k1, ?_⟩
      have ne : ∀ a, Has t u a → a ≠ q := fun a ha z => by
        rw [z] at ha
        exact R.sep i j s t v u q (Ne.symm hj) e ej hσ k1 hq ha
      cases t with
      | ro d => exact k2
      | own ds' =>
        obtain ⟨p, zs, z1, z2, z3, z4, z5⟩ := k2
        exact ⟨p, zs, z1, by rw [upd_ne (ne p z1)]; exact z2, z3, z4, z5⟩
      | tab p ps rows =>
        obtain ⟨z1, K⟩ := k2
        refine ⟨z1, by rw [upd_ne (ne p (.inl z1))]; exact K.out, K.o0, K.ob, K.len, K.nd, K.np, fun n q' r e3 e4 => ?_⟩
        obtain ⟨xs, y1, y2, y3, y4⟩ := K.row n q' r e3 e4
        exact ⟨xs, by rw [upd_ne (ne q' (.inr (List.mem_of_getElem? e3)))]; exact y1, y2, y3, y4⟩
  · have old : ∀ {c : Nat} {t : S} {u : V}, (ρ.set i (some s'))[c]? = some (some t) → σ[c]? = some (some u) → Has t u x → ∃ t', ρ[c]? = some (some t') ∧ Has t' u x := fun {c t u} hc hu hx => by
      by_cases hci : c = i
      · subst hci
        rw [List.getElem?_set_self hl] at hc
        cases hc
        rw [hσ] at hu
        cases hu
        exact ⟨s, e, hs x hx⟩
      · rw [List.getElem?_set_ne (Ne.symm hci)] at hc
        exact ⟨t, hc, hx⟩
    obtain ⟨t1', a1, a2⟩ := old e1 f1 h3
    obtain ⟨t2', b1, b2⟩ := old e2 f2 h4
    exact R.sep a b t1' t2' u1 u2 x hab a1 b1 f1 f2 a2 b2
/-- an owned list is written -/
theorem Rep.write (R : Rep H0 B0 ρ σ Hb H) {i : Nat} {ds es : List D} {p : Addr} {ys : List V} (e : ρ[i]? = some (some (.own ds))) (hσ : σ[i]? = some (some (.ref p))) (k : DVs Hb es ys) :
    Rep H0 B0 (ρ.set i (some (.own es))) σ Hb (upd H p (.lst ys)) := by
  obtain ⟨v, h1, q, xs, e2, h3, h4, h5, h6⟩ := R.slot i _ e
  rw [hσ] at h1
  cases h1
  have e4 : p = q := V.ref.inj e2
  subst e4
  exact R.writeS e hσ (s' := .own es) rfl (fun _ h => h) ⟨p, ys, rfl, upd_same, h4, h5, k⟩
/-- a row of a table is written -/
theorem Rep.writeT (R : Rep H0 B0 ρ σ Hb H) {i k : Nat} {p : Addr} {ps : List Addr} {rows : List (List D)} {q : Addr} {r : List D} {ys : List V} (e : ρ[i]? = some (some (.tab p ps rows))) (hq : ps[k]? = some q) (d : DVs Hb r ys) :
    Rep H0 B0 (ρ.set i (some (.tab p ps (rows.set k r)))) σ Hb (upd H q (.lst ys)) := by
  obtain ⟨v, h1, e2, K⟩ := R.slot i _ e
  have hk := (List.getElem?_eq_some_iff.mp hq).1
  obtain ⟨xs, z1, z2, z3, _⟩ := K.row k q _ hq (List.getElem?_eq_getElem (by rw [← K.len]; exact hk))
  have mq := List.mem_of_getElem? hq
  refine R.writeS e h1 (s' := .tab p ps (rows.set k r)) (.inr mq) (fun _ h => h) ⟨e2, ?_, K.o0, K.ob, by rw [List.length_set]; exact K.len, K.nd, K.np, fun n q' r' e3 e4 => ?_⟩
  · rw [upd_ne (fun z => K.np (by rw [z]; exact mq))]
    exact K.out
  · by_cases hn : n = k
    · subst hn
      rw [hq] at e3
      cases e3
      rw [List.getElem?_set_self (by rw [← K.len]; exact hk)] at e4
      cases e4
      exact ⟨ys, upd_same, z2, z3, d⟩
    · rw [List.getElem?_set_ne (Ne.symm hn)] at e4
      obtain ⟨xs', y1, y2, y3, y4⟩ := K.row n q' r' e3 e4
      refine ⟨xs', ?_, y2, y3, y4⟩
      rw [upd_ne]
      · exact y1
      · intro z
        rw [z] at e3
        have hn2 := (List.getElem?_eq_some_iff.mp e3).1
        have w1 := (List.getElem?_eq_some_iff.mp hq).2
        have w2 := (List.getElem?_eq_some_iff.mp e3).2
        exact hn ((List.getElem_inj K.nd).mp (w2.trans w1.symm))
/-- an owned list is only read from now on -/
theorem Rep.freeze (R : Rep H0 B0 ρ σ Hb H) {i : Nat} {ds : List D} (e : ρ[i]? = some (some (.own ds))) : ∃ Hb', Rep H0 B0 (ρ.set i (some (.ro (.lst ds)))) σ Hb' H ∧ Grow H0 B0 H Hb' ∧ Same Hb Hb' := by
  obtain ⟨v, h1, p, xs, e2, h3, h4, h5, h6⟩ := R.slot i _ e
  subst e2
  have hl : i < ρ.length := (List.getElem?_eq_some_iff.mp e).1
  have g := R.grow.frz h4 h5 h3
  have sb : Same Hb (upd Hb p (.lst xs)) := fun a u q => by rw [upd_ne (ne_of_none q h5)]; exact q
  refine ⟨upd Hb p (.lst xs), ⟨g, by rw [List.length_set]; exact R.len, fun j s ej => ?_, fun a b t1 t2 u1 u2 x hab e1 e2 f1 f2 h7 h8 => ?_⟩, g, sb⟩
  · by_cases hj : j = i
    · subst hj
      rw [List.getElem?_set_self hl] at ej
      cases ej
      exact ⟨_, h1, DV.mk_lst upd_same (h6.mono sb)⟩
    · rw [List.getElem?_set_ne (Ne.symm hj)] at ej
      obtain ⟨u, k1, k2⟩ := R.slot j s ej
      refine ⟨u, k1, ?_⟩
      have ne : ∀ a, Has s u a → a ≠ p := fun a ha z => by
        rw [z] at ha
        exact R.sep i j _ s _ u p (Ne.symm hj) e ej h1 k1 rfl ha
      cases s with
      | ro d => exact DV.mono sb k2
      | own ds' =>
        obtain ⟨q, zs, z1, z2, z3, z4, z5⟩ := k2
        exact ⟨q, zs, z1, z2, z3, by rw [upd_ne (ne q z1)]; exact z4, z5.mono sb⟩
      | tab q ps rows =>
        obtain ⟨z1, K⟩ := k2
        refine ⟨z1, K.out, K.o0, by rw [upd_ne (ne q (.inl z1))]; exact K.ob, K.len, K.nd, K.np, fun n q' r e3 e4 => ?_⟩
        obtain ⟨xs', y1, y2, y3, y4⟩ := K.row n q' r e3 e4
        exact ⟨xs', y1, y2, by rw [upd_ne (ne q' (.inr (List.mem_of_getElem? e3)))]; exact y3, y4.mono sb⟩
  · have old : ∀ {c : Nat} {t : S} {u : V}, (ρ.set i (some (.ro (.lst ds))))[c]? = some (some t) → Has t u x → ρ[c]? = some (some t) := fun {c t u} hc hx => by
      by_cases hci : c = i
      · subst hci
        rw [List.getElem?_set_self hl] at hc
        cases hc
        exact hx.elim
      · rw [List.getElem?_set_ne (Ne.symm hci)] at hc
        exact hc
    exact R.sep a b t1 t2 u1 u2 x hab (old e1 h7) (old e2 h8) f1 f2 h7 h8
/-- forgetting slots -/
theorem Rep.weak {ρ' : Ro} (R : Rep H0 B0 ρ σ Hb H) (hl : ρ'.length = ρ.length) (w : ∀ (i : Nat) (s : S), ρ'[i]? = some (some s) → ρ[i]? = some (some s)) : Rep H0 B0 ρ' σ Hb H :=
  ⟨R.grow, by rw [hl]; exact R.len, fun i s e => R.slot i s (w i s e), fun a b s t u v x hab ha hb => R.sep a b s t u v x hab (w _ _ ha) (w _ _ hb)⟩
theorem SOk.base {H1 : Hp} {s : S} {v : V} (h : SOk H0 Hb H s v) (k : ∀ a, H0 a = none → Hb a = none → H1 a = none) : SOk H1 Hb H s v := by
  cases s with
  | ro d => exact h
  | own ds =>
    obtain ⟨p, xs, z1, z2, z3, z4, z5⟩ := h
    exact ⟨p, xs, z1, z2, k p z3 z4, z4, z5⟩
  | tab p ps rows =>
    obtain ⟨z1, K⟩ := h
    refine ⟨z1, K.out, k p K.o0 K.ob, K.ob, K.len, K.nd, K.np, fun n q r e1 e2 => ?_⟩
    obtain ⟨xs, y1, y2, y3, y4⟩ := K.row n q r e1 e2
    exact ⟨xs, y1, k q y2 y3, y3, y4⟩
/-- another look at the same: from the state that stands now -/
theorem Rep.shift (R : Rep H0 B0 ρ σ Hb H) : ∃ H1, Rep H1 Hb ρ σ Hb H ∧ (∀ H' Hb', Grow H1 Hb H' Hb' → Grow H0 B0 H' Hb') ∧ (∀ a, H1 a = none → H0 a = none) ∧ Same Hb H1 := by
  let H1 : Hp := fun a => match H0 a with
    | some o => some o
    | none => Hb a
  have e1 : ∀ a o, H0 a = some o → H1 a = some o := fun a o h => by show (match H0 a with | some o => some o | none => Hb a) = _; rw [h]
  have e2 : ∀ a, H0 a = none → H1 a = Hb a := fun a h => by show (match H0 a with | some o => some o | none => Hb a) = _; rw [h]
  have n1 : ∀ a, H1 a = none → H0 a = none := fun a h => by
    cases q : H0 a with
    | none => rfl
    | some o => rw [e1 a o q] at h; cases h
  have s0 : Same H0 H1 := e1
  have s1 : Same H1 H := fun a o h => by
    cases q : H0 a with
    | none => rw [e2 a q] at h; exact R.grow.sub a o h
    | some u => rw [e1 a u q] at h; rw [← h]; exact R.grow.top a u q
  have sb : Same Hb H1 := fun a o h => by
    cases q : H0 a with
    | none => rw [e2 a q]; exact h
    | some u =>
      have z1 := R.grow.top a u q
      have z2 := R.grow.sub a o h
      rw [z1] at z2
      cases z2
      exact e1 a _ q
  have g1 : Grow H1 Hb H Hb := ⟨s1, Same.refl _, R.grow.sub, fun a h k => absurd h k⟩
  refine ⟨H1, ⟨g1, R.len, fun i s e => ?_, R.sep⟩, fun H' Hb' g => ⟨s0.trans g.top, R.grow.bot.trans g.bot, g.sub, fun a h k => ?_⟩, n1, sb⟩
  · obtain ⟨v, h1, h2⟩ := R.slot i s e
    exact ⟨v, h1, h2.base fun a z1 z2 => (e2 a z1).trans z2⟩
  · cases q : Hb a with
    | none => exact n1 a (g.new a q k)
    | some o => exact R.grow.new a h (by rw [q]; exact fun z => nomatch z)
/-- back from the look -/
theorem Rep.unshift {H1 B1 : Hp} (R : Rep H1 B1 ρ σ Hb H) (g : ∀ H' Hb', Grow H1 B1 H' Hb' → Grow H0 B0 H' Hb') (n : ∀ a, H1 a = none → H0 a = none) : Rep H0 B0 ρ σ Hb H :=
  ⟨g _ _ R.grow, R.len, fun i s e => by
    obtain ⟨v, h1, h2⟩ := R.slot i s e
    exact ⟨v, h1, h2.base fun a z1 _ => n a z1⟩, R.sep⟩
theorem TabOk.base {H1 : Hp} {ps : List Addr} {rows : List (List D)} {p : Addr} (K : TabOk H0 Hb H ps rows p) (n : ∀ a, H0 a = none → H1 a = none) : TabOk H1 Hb H ps rows p :=
  ⟨K.out, n p K.o0, K.ob, K.len, K.nd, K.np, fun k q r e1 e2 => by
    obtain ⟨xs, y1, y2, y3, y4⟩ := K.row k q r e1 e2
    exact ⟨xs, y1, n q y2, y3, y4⟩⟩
theorem DVs.of_get : ∀ {ds : List D} {xs : List V}, ds.length = xs.length → (∀ (k : Nat) d x, ds[k]? = some d → xs[k]? = some x → DV H d x) → DVs H ds xs
  | [], [], _, _ => .nil
  | [], _ :: _, h, _ => by simp at h
  | _ :: _, [], h, _ => by simp at h
  | d :: ds, x :: xs, h, k => .cons (k 0 d x rfl rfl) (DVs.of_get (by simpa using h) fun n d' x' h1 h2 => k (n + 1) d' x' (by simpa using h1) (by simpa using h2))
open Classical in
/-- a table is only read from now on -/
theorem TabOk.frz {ps : List Addr} {rows : List (List D)} {p : Addr} (g : Grow H0 B0 H Hb) (K : TabOk H0 Hb H ps rows p) : ∃ Hb2, Grow H0 B0 H Hb2 ∧ DV Hb2 (.lst (rows.map D.lst)) (.ref p) ∧ Same Hb Hb2 ∧ ∀ a, a ≠ p → a ∉ ps → Hb2 a = Hb a := by
  have rowAt : ∀ q, q ∈ ps → ∃ (k : Nat) (r : List D), ps[k]? = some q ∧ rows[k]? = some r := fun q hq => by
    obtain ⟨k, hk⟩ := List.getElem?_of_mem hq
    have hl := (List.getElem?_eq_some_iff.mp hk).1
    rw [K.len] at hl
    exact ⟨k, _, hk, List.getElem?_eq_getElem hl⟩
  have own : ∀ a, (a = p ∨ a ∈ ps) → H0 a = none ∧ Hb a = none := fun a ha => by
    rcases ha with ha | ha
    · rw [ha]; exact ⟨K.o0, K.ob⟩
    · obtain ⟨k, r, h1, h2⟩ := rowAt a ha
      obtain ⟨xs, _, y2, y3, _⟩ := K.row k a r h1 h2
      exact ⟨y2, y3⟩
  let Hb2 : Hp := fun a => if a = p ∨ a ∈ ps then H a else Hb a
  have in_ : ∀ a, (a = p ∨ a ∈ ps) → Hb2 a = H a := fun a ha => if_pos ha
  have out_ : ∀ a, ¬ (a = p ∨ a ∈ ps) → Hb2 a = Hb a := fun a ha => if_neg ha
  have sb : Same Hb Hb2 := fun a o h => by
    rw [out_ a fun z => by rw [(own a z).2] at h; cases h]
    exact h
  refine ⟨Hb2, ⟨g.top, g.bot.trans sb, fun a o h => ?_, fun a h k => ?_⟩, DV.mk_lst ((in_ p (.inl rfl)).trans K.out) ?_, sb, fun a h1 h2 => out_ a fun z => z.elim h1 h2⟩
  · by_cases ha : a = p ∨ a ∈ ps
    · rw [in_ a ha] at h; exact h
    · rw [out_ a ha] at h; exact g.sub a o h
  · by_cases ha : a = p ∨ a ∈ ps
    · exact (own a ha).1
    · rw [out_ a ha] at k; exact g.new a h k
  · refine DVs.of_get (by rw [List.length_map, List.length_map]; exact K.len.symm) fun k d x h1 h2 => ?_
    rw [List.getElem?_map] at h1 h2
    cases e1 : rows[k]? with
    | none => rw [e1] at h1; cases h1
    | some r =>
      cases e2 : ps[k]? with
      | none => rw [e2] at h2; cases h2
      | some q =>
        rw [e1] at h1
        rw [e2] at h2
        cases h1
        cases h2
        obtain ⟨xs, y1, _, _, y4⟩ := K.row k q r e2 e1
        exact DV.mk_lst ((in_ q (.inr (List.mem_of_getElem? e2))).trans y1) (y4.mono sb)
end
end Pu
/-! Pu2: judgements with readings over plain data. -/
namespace Pu
open PySem PySem.Spec PyProof.Rows L2

structure Exn where
  C : Addr
  fld : Option (Str × D)
/-- what an expression gives: data that is only read, or a list of its own -/
inductive RV where
  | ro (d : D) | own (ds : List D) | tab (p : Addr) (ps : List Addr) (rows : List (List D))
def RV.d : RV → D
  | .ro d => d
  | .own ds => .lst ds
  | .tab _ _ rows => .lst (rows.map D.lst)
def RV.s : RV → S
  | .ro d => .ro d
  | .own ds => .own ds
  | .tab p ps rows => .tab p ps rows
abbrev KD := RV → Prop
abbrev KX := Exn → Prop
/-- an expression's reading over data -/
abbrev TEd := Ro → KD → KX → Prop
abbrev TTd := Ro → (Bool → Prop) → KX → Prop
abbrev TAd := Ro → (List D → Prop) → KX → Prop
structure EndsD where
  nx : Ro → Prop
  rt : RV → Prop
  ex : Exn → Prop
  bk : Ro → Prop := fun _ => False
  ct : Ro → Prop := fun _ => False
abbrev TSd := EndsD → Ro → Prop
abbrev TGd := D → Ro → (Ro → Prop) → Prop

def RetOk (H Hb : Hp) (Q : VK) : RV → Prop
  | .ro d => ∀ v Hb' H', Grow H Hb H' Hb' → DV Hb' d v → Q v H'
  | .own ds => ∀ p xs Hb' H', Grow H Hb H' Hb' → H' p = some (.lst xs) → H p = none → Hb' p = none → DVs Hb' ds xs → Q (.ref p) H'
  | .tab p ps rows => ∀ Hb' H', Grow H Hb H' Hb' → TabOk H Hb' H' ps rows p → Q (.ref p) H'
def ExOk (H Hb : Hp) (E : XK) (x : Exn) : Prop := ∀ Hb' H', Grow H Hb H' Hb' → match x.fld with
  | none => E (.ref x.C) none H'
  | some (f, d) => ∀ dx v, H' dx = some (.xd [(f, v)]) → DV Hb' d v → E (.ref x.C) (some dx) H'
theorem RetOk.back {H Hb H1 Hb1 : Hp} {Q : VK} {r : RV} (g : Grow H Hb H1 Hb1) (h : RetOk H Hb Q r) : RetOk H1 Hb1 Q r := by
  cases r with
  | ro d => exact fun v Hb' H' g' k => h v Hb' H' (g.trans g') k
  | own ds => exact fun p xs Hb' H' g' e n nb k => h p xs Hb' H' (g.trans g') e (same_none g.top n) nb k
  | tab p ps rows => exact fun Hb' H' g' K => h Hb' H' (g.trans g') (K.base fun a z => same_none g.top z)
theorem ExOk.back {H Hb H1 Hb1 : Hp} {E : XK} {x : Exn} (g : Grow H Hb H1 Hb1) (h : ExOk H Hb E x) : ExOk H1 Hb1 E x := fun Hb' H' g' => h Hb' H' (g.trans g')
/-- a list of its own, taken as data that is only read -/
theorem RetOk.data {H Hb : Hp} {Q : VK} {r : RV} (h : ∀ v Hb' H', Grow H Hb H' Hb' → DV Hb' r.d v → Q v H') : RetOk H Hb Q r := by
  cases r with
  | ro d => exact h
  | own ds => exact fun p xs Hb' H' g e n nb k => h (.ref p) (upd Hb' p (.lst xs)) H' (g.frz n nb e) (DV.mk_lst upd_same (k.mono (fun a u q => by rw [upd_ne (ne_of_none q nb)]; exact q)))
  | tab p ps rows =>
    intro Hb' H' g K
    obtain ⟨Hb2, g2, d, _⟩ := K.frz g
    exact h (.ref p) Hb2 H' g2 d

/-- two ways by a truth value; by a datum that is one -/
def bT (b : Bool) (A B : Prop) : Prop := match b with
  | true => A
  | false => B
def bD (d : D) (A B : Prop) : Prop := match d with
  | .bl true => A
  | .bl false => B
  | _ => False

structure PEd (X : Cx) (E : XK) (e : Expr) (p : TEd) : Prop where
  ex : ∃ te, PE X e te ∧ ∀ H0 B0 ρ σ Hb H (K : KD) (J : KX) (Q : VK), Rep H0 B0 ρ σ Hb H → p ρ K J → (∀ r, K r → RetOk H Hb Q r) → (∀ x, J x → ExOk H0 B0 E x) → te σ H Q
structure PTd (X : Cx) (E : XK) (e : Expr) (p : TTd) : Prop where
  ex : ∃ te, PT X e te ∧ ∀ H0 B0 ρ σ Hb H (K : Bool → Prop) (J : KX) (Q : Bool → Hp → Prop), Rep H0 B0 ρ σ Hb H → p ρ K J → (∀ b Hb' H', K b → Grow H Hb H' Hb' → Q b H') → (∀ x, J x → ExOk H0 B0 E x) → te σ H Q
structure PWd (X : Cx) (E : XK) (e : Expr) (p : TTd) : Prop where
  ex : ∃ te, PW X e te ∧ ∀ H0 B0 ρ σ Hb H (K : Bool → Prop) (J : KX) (Q : Bool → Hp → Prop), Rep H0 B0 ρ σ Hb H → p ρ K J → (∀ b Hb' H', K b → Grow H Hb H' Hb' → Q b H') → (∀ x, J x → ExOk H0 B0 E x) → te σ H Q
structure PAd (X : Cx) (E : XK) (es : List Expr) (p : TAd) : Prop where
  ex : ∃ te, PA X es te ∧ ∀ H0 B0 ρ σ Hb H (K : List D → Prop) (J : KX) (Q : List V → Hp → Prop), Rep H0 B0 ρ σ Hb H → p ρ K J → (∀ ds vs Hb' H', K ds → Grow H Hb H' Hb' → DVs Hb' ds vs → Q vs H') → (∀ x, J x → ExOk H0 B0 E x) → te σ H Q
/-- a borrowed sequence: what is read, or a list of its own that stands as it is -/
def DB (Hb H : Hp) (d : D) (v : V) : Prop := DV Hb d v ∨ ∃ ds p xs, d = .lst ds ∧ v = .ref p ∧ H p = some (.lst xs) ∧ DVs Hb ds xs
structure PBd (X : Cx) (E : XK) (e : Expr) (p : TEd) : Prop where
  ex : ∃ te, PE X e te ∧ ∀ H0 B0 ρ σ Hb H (K : KD) (J : KX) (Q : VK), Rep H0 B0 ρ σ Hb H → p ρ K J → (∀ r v Hb' H', K r → Grow H Hb H' Hb' → DB Hb' H' r.d v → Q v H') → (∀ x, J x → ExOk H0 B0 E x) → te σ H Q
structure SatZ (H0 B0 : Hp) (E : XK) (Z : EndsD) (Dn : Ends) : Prop where
  nx : ∀ ρ σ Hb H, Z.nx ρ → Rep H0 B0 ρ σ Hb H → Dn.nx σ H
  bk : ∀ ρ σ Hb H, Z.bk ρ → Rep H0 B0 ρ σ Hb H → Dn.bk σ H
  ct : ∀ ρ σ Hb H, Z.ct ρ → Rep H0 B0 ρ σ Hb H → Dn.ct σ H
  rt : ∀ r, Z.rt r → RetOk H0 B0 Dn.rt r
  ex : ∀ x, Z.ex x → ExOk H0 B0 E x
structure PSd (X : Cx) (E : XK) (st : Stmt) (p : TSd) : Prop where
  ex : ∃ t, PS X st t ∧ ∀ H0 B0 ρ σ Hb H (Z : EndsD) (Dn : Ends), Rep H0 B0 ρ σ Hb H → p Z ρ → SatZ H0 B0 E Z Dn → t Dn σ H
structure PSsd (X : Cx) (E : XK) (st : List Stmt) (p : TSd) : Prop where
  ex : ∃ t, PSs X st t ∧ ∀ H0 B0 ρ σ Hb H (Z : EndsD) (Dn : Ends), Rep H0 B0 ρ σ Hb H → p Z ρ → SatZ H0 B0 E Z Dn → t Dn σ H
structure PGd (X : Cx) (tg : Expr) (p : TGd) : Prop where
  ex : ∃ g, PG X tg g ∧ ∀ H0 B0 ρ σ Hb H d v (K : Ro → Prop) (Q : L2.St → Hp → Prop), Rep H0 B0 ρ σ Hb H → DV Hb d v → p d ρ K → (∀ ρ' σ' Hb' H', K ρ' → Rep H0 B0 ρ' σ' Hb' H' → Grow H Hb H' Hb' → Q σ' H') → g v σ H Q

section
variable {X : Cx} {E : XK}

/-! ### values -/
def pVar (i : Nat) : TEd := fun ρ K _ => match ρ[i]? with
  | some (some (.ro d)) => K (.ro d)
  | _ => False
theorem pVar_of {i : Nat} {ρ : Ro} {K : KD} {J : KX} (h : pVar i ρ K J) : ∃ d, ρ[i]? = some (some (.ro d)) ∧ K (.ro d) := by
  unfold pVar at h
  split at h
  · rename_i d e; exact ⟨d, e, h⟩
  · exact h.elim
theorem Rep.var {H0 B0 Hb H : Hp} {ρ : Ro} {σ : L2.St} {i : Nat} {d : D} (R : Rep H0 B0 ρ σ Hb H) (e : ρ[i]? = some (some (.ro d))) : ∃ v, σ[i]? = some (some v) ∧ DV Hb d v := R.slot i _ e
theorem dv_of {e : Expr} {i : Nat} (h : PE X e (tVar i)) : PEd X E e (pVar i) := ⟨_, h, fun H0 B0 ρ σ Hb H K J Q R p kq _ => by
  obtain ⟨d, e, k⟩ := pVar_of p
  obtain ⟨v, h1, h2⟩ := R.var e
  exact ⟨v, h1, kq _ k v Hb H (Grow.refl R.sub) h2⟩⟩
theorem dv (i : Nat) {x : Str} {pos : Pos} (hN : X.N[i]? = some x := by rfl) (hv : Vis X.env.scope x := by first | exact .inl rfl | exact .inr (.inl rfl) | exact .inr (.inr rfl)) (hd : (x == ("__debug__" : Str)) = false := by decide) (hcd : (x == ("__classdict__" : Str)) = false := by decide) :
    PEd X E (.Name x pos) (pVar i) := dv_of (pe_var hN hv hd hcd)
def pC (d : D) : TEd := fun _ K _ => K (.ro d)
theorem dc_of {e : Expr} {d : D} {v : V} (h : PE X e (tC v)) (k : ∀ Hb, DV Hb d v) : PEd X E e (pC d) := ⟨_, h, fun H0 B0 ρ σ Hb H K J Q R p kq _ => kq _ p v Hb H (Grow.refl R.sub) (k Hb)⟩
theorem de_int {i j pos} : PEd X E (.Constant (.int i) j pos) (pC (.int i)) := dc_of pe_int fun _ => DV.mk_int
theorem de_bl {b j pos} : PEd X E (.Constant (.bool b) j pos) (pC (.bl b)) := dc_of pe_bl fun _ => DV.mk_bl
theorem de_non {j pos} : PEd X E (.Constant .none j pos) (pC .non) := dc_of pe_non fun _ => DV.mk_non
theorem de_str {x j pos} : PEd X E (.Constant (.str x) j pos) (pC (.str x)) := dc_of pe_str fun _ => DV.mk_str
/-- a module's int -/
theorem de_gint {x : Str} {i : Int} {t : Tok} {pos : Pos} (hm : X.mg x = some (.int i t)) (hg : Gl X x := by rfl) (hd : (x == ("__debug__" : Str)) = false := by decide) : PEd X E (.Name x pos) (pC (.int i)) := dc_of (v := .int i) (pe_glob hg hm ⟨t, rfl⟩ hd) fun _ => DV.mk_int

/-! ### operators -/
/-- an operator upon data -/
def OpD (r : R2) (rd : D → D → KD → Prop) : Prop := ∀ Hb H (x y : D) (v u : V) (K : KD) (Q : VK), Same Hb H → DV Hb x v → DV Hb y u → rd x y K → (∀ r, K r → RetOk H Hb Q r) → r v u H Q
def pOp (rd : D → D → KD → Prop) (pa pb : TEd) : TEd := fun ρ K J => pa ρ (fun a => pb ρ (fun b => rd a.d b.d K) J) J
theorem de_op {a b : Expr} {op : Operator} {r : R2} {rd : D → D → KD → Prop} {pa pb : TEd} {pos : Pos} (ho : OpR X (binaryOp op) r) (hd : OpD r rd) (ha : PEd X E a pa) (hb : PEd X E b pb) : PEd X E (.BinOp a op b pos) (pOp rd pa pb) := by
  obtain ⟨ta, h1, k1⟩ := ha.ex
  obtain ⟨tb, h2, k2⟩ := hb.ex
  refine ⟨_, pe_op ho h1 h2, fun H0 B0 ρ σ Hb H K J Q R p kq kx => ?_⟩
  refine k1 _ _ _ _ _ _ _ J _ R p (fun a ka => RetOk.data fun v Hb1 H1 g1 d1 => ?_) kx
  refine k2 _ _ _ _ _ _ _ J _ (R.more g1) ka (fun b kb => RetOk.data fun u Hb2 H2 g2 d2 => ?_) kx
  exact hd Hb2 H2 _ _ v u K Q g2.sub (d1.mono g2.bot) d2 kb fun r kr => (kq r kr).back (g1.trans g2)
theorem de_cmp {a b : Expr} {op : CmpOp} {r : R2} {rd : D → D → KD → Prop} {pa pb : TEd} {pos : Pos} (ho : OpR X (compareOp op) r) (hd : OpD r rd) (ha : PEd X E a pa) (hb : PEd X E b pb) (hm : behindInMarks op b = false := by first | exact nomark _ | rfl) : PEd X E (.Compare a [op] [b] pos) (pOp rd pa pb) := by
  obtain ⟨ta, h1, k1⟩ := ha.ex
  obtain ⟨tb, h2, k2⟩ := hb.ex
  refine ⟨_, pe_cmpR ho h1 h2 hm, fun H0 B0 ρ σ Hb H K J Q R p kq kx => ?_⟩
  refine k1 _ _ _ _ _ _ _ J _ R p (fun a ka => RetOk.data fun v Hb1 H1 g1 d1 => ?_) kx
  refine k2 _ _ _ _ _ _ _ J _ (R.more g1) ka (fun b kb => RetOk.data fun u Hb2 H2 g2 d2 => ?_) kx
  exact hd Hb2 H2 _ _ v u K Q g2.sub (d1.mono g2.bot) d2 kb fun r kr => (kq r kr).back (g1.trans g2)
/-- two ints -/
def dI (C : Int → Int → Prop) (g : Int → Int → D) : D → D → KD → Prop := fun x y K => match x, y with
  | .int i, .int j => C i j ∧ K (.ro (g i j))
  | _, _ => False
def dI0 (g : Int → Int → D) : D → D → KD → Prop := fun x y K => match x, y with
  | .int i, .int j => K (.ro (g i j))
  | _, _ => False
theorem opd_I0 {g : Int → Int → V} {gd : Int → Int → D} (h : ∀ i j Hb, DV Hb (gd i j) (g i j)) : OpD (rI0 g) (dI0 gd) := by
  intro Hb H x y v u K Q s dx dy k kq
  unfold dI0 at k
  split at k
  · rename_i i j
    exact ⟨i, j, dx.int_, dy.int_, kq _ k _ Hb H (Grow.refl s) (h i j Hb)⟩
  · exact k.elim
theorem opd_I {C : Int → Int → Prop} {g : Int → Int → V} {gd : Int → Int → D} (h : ∀ i j Hb, DV Hb (gd i j) (g i j)) : OpD (rI C g) (dI C gd) := by
  intro Hb H x y v u K Q s dx dy k kq
  unfold dI at k
  split at k
  · rename_i i j
    exact ⟨i, j, dx.int_, dy.int_, k.1, kq _ k.2 _ Hb H (Grow.refl s) (h i j Hb)⟩
  · exact k.elim
theorem od_add : OpD (rI0 fun i j => .int (i + j)) (dI0 fun i j => .int (i + j)) := opd_I0 fun _ _ _ => DV.mk_int
theorem od_sub : OpD (rI0 fun i j => .int (i - j)) (dI0 fun i j => .int (i - j)) := opd_I0 fun _ _ _ => DV.mk_int
theorem od_lt : OpD (rI0 fun i j => .bl (decide (i < j))) (dI0 fun i j => .bl (decide (i < j))) := opd_I0 fun _ _ _ => DV.mk_bl
theorem od_le : OpD (rI0 fun i j => .bl (decide (i ≤ j))) (dI0 fun i j => .bl (decide (i ≤ j))) := opd_I0 fun _ _ _ => DV.mk_bl
theorem od_gt : OpD (rI0 fun i j => .bl (decide (j < i))) (dI0 fun i j => .bl (decide (j < i))) := opd_I0 fun _ _ _ => DV.mk_bl
theorem od_ge : OpD (rI0 fun i j => .bl (decide (j ≤ i))) (dI0 fun i j => .bl (decide (j ≤ i))) := opd_I0 fun _ _ _ => DV.mk_bl
theorem od_mul : OpD (rI CMul fun i j => .int (i * j)) (dI CMul fun i j => .int (i * j)) := opd_I fun _ _ _ => DV.mk_int
theorem od_mulW : OpD (rI CMulW fun i j => .int (i * j)) (dI CMulW fun i j => .int (i * j)) := opd_I fun _ _ _ => DV.mk_int
theorem od_fdiv : OpD (rI CDiv fun i j => .int (i / j)) (dI CDiv fun i j => .int (i / j)) := opd_I fun _ _ _ => DV.mk_int
theorem od_fdivW : OpD (rI CDivW fun i j => .int (i / j)) (dI CDivW fun i j => .int (i / j)) := opd_I fun _ _ _ => DV.mk_int
theorem od_mod : OpD (rI (fun _ j => 0 < j) fun i j => .int (i % j)) (dI (fun _ j => 0 < j) fun i j => .int (i % j)) := opd_I fun _ _ _ => DV.mk_int
theorem od_pow : OpD (rI CPow fun i j => .int (i ^ j.toNat)) (dI CPow fun i j => .int (i ^ j.toNat)) := opd_I fun _ _ _ => DV.mk_int
/-- == of two scalars of one kind, of None and a scalar, .. -/
def dEq (neg : Bool) : D → D → KD → Prop := fun x y K => match x, y with
  | .int i, .int j => K (.ro (.bl (if neg then !decide (i = j) else decide (i = j))))
  | .str i, .str j => K (.ro (.bl (if neg then !decide (i = j) else decide (i = j))))
  | .bl i, .bl j => K (.ro (.bl (if neg then !decide (i = j) else decide (i = j))))
  | .int _, .str _ => K (.ro (.bl neg))
  | .str _, .int _ => K (.ro (.bl neg))
  | .bl _, .str _ => K (.ro (.bl neg))
  | .str _, .bl _ => K (.ro (.bl neg))
  | .non, .int _ => K (.ro (.bl neg))
  | _, _ => False
theorem od_eq : OpD rEq (dEq false) := by
  intro Hb H x y v u K Q s dx dy k kq
  have fin : ∀ b c, K (.ro (.bl b)) → b = c → Q (.bl c) H := fun b c kb e => by
    subst e; exact kq _ kb _ Hb H (Grow.refl s) DV.mk_bl
  unfold dEq at k
  split at k
  · rename_i i j
    rw [dx.int_, dy.int_]
    exact ⟨rfl, fin _ _ k (by simp)⟩
  · rename_i i j
    rw [dx.str_, dy.str_]
    exact ⟨rfl, fin _ _ k (by simp)⟩
  · rename_i i j
    rw [dx.bl_, dy.bl_]
    exact ⟨rfl, fin _ _ k (by simp)⟩
  · rw [dx.int_, dy.str_]; exact ⟨rfl, fin _ _ k (by simp)⟩
  · rw [dx.str_, dy.int_]; exact ⟨rfl, fin _ _ k (by simp)⟩
  · rw [dx.bl_, dy.str_]; exact ⟨rfl, fin _ _ k (by simp)⟩
  · rw [dx.str_, dy.bl_]; exact ⟨rfl, fin _ _ k (by simp)⟩
  · rw [dx.non_, dy.int_]; exact ⟨rfl, fin _ _ k (by simp)⟩
  · exact k.elim
theorem od_ne : OpD rNe (dEq true) := by
  intro Hb H x y v u K Q s dx dy k kq
  have fin : ∀ b c, K (.ro (.bl b)) → b = c → Q (.bl c) H := fun b c kb e => by
    subst e; exact kq _ kb _ Hb H (Grow.refl s) DV.mk_bl
  unfold dEq at k
  split at k
  · rename_i i j
    rw [dx.int_, dy.int_]
    exact ⟨rfl, fin _ _ k (by simp)⟩
  · rename_i i j
    rw [dx.str_, dy.str_]
    exact ⟨rfl, fin _ _ k (by simp)⟩
  · rename_i i j
    rw [dx.bl_, dy.bl_]
    exact ⟨rfl, fin _ _ k (by simp)⟩
  · rw [dx.int_, dy.str_]; exact ⟨rfl, fin _ _ k (by simp)⟩
  · rw [dx.str_, dy.int_]; exact ⟨rfl, fin _ _ k (by simp)⟩
  · rw [dx.bl_, dy.str_]; exact ⟨rfl, fin _ _ k (by simp)⟩
  · rw [dx.str_, dy.bl_]; exact ⟨rfl, fin _ _ k (by simp)⟩
  · rw [dx.non_, dy.int_]; exact ⟨rfl, fin _ _ k (by simp)⟩
  · exact k.elim
def D.isNon : D → Bool
  | .non => true
  | _ => false
theorem DV.isNon {Hb : Hp} {d : D} {v : V} (h : DV Hb d v) : decide (v = V.non) = d.isNon := by
  cases d with
  | non => rw [h.non_]; rfl
  | bl b => rw [h.bl_]; rfl
  | int i => rw [h.int_]; rfl
  | str x => rw [h.str_]; rfl
  | adr a => rw [h.adr_]; rfl
  | scr ns => obtain ⟨a, o, e, _⟩ := h.scr_; rw [e]; rfl
  | tup ds => obtain ⟨a, xs, e, _⟩ := h.tup_; rw [e]; rfl
  | lst ds => obtain ⟨a, xs, e, _⟩ := h.lst_; rw [e]; rfl
  | ins C fs ds => obtain ⟨a, dx, xs, e, _⟩ := h.ins_; rw [e]; rfl
/-- x is None, x is not None -/
def dIsN (neg : Bool) : D → D → KD → Prop := fun x y K => match y with
  | .non => K (.ro (.bl (if neg then !x.isNon else x.isNon)))
  | _ => False
theorem od_isN : OpD (fun x y H Q => y = .non ∧ Q (.bl (decide (x = .non))) H) (dIsN false) := by
  intro Hb H x y v u K Q s dx dy k kq
  unfold dIsN at k
  split at k
  · refine ⟨dy.non_, ?_⟩
    rw [dx.isNon]
    exact kq _ k _ Hb H (Grow.refl s) DV.mk_bl
  · exact k.elim
theorem od_notN : OpD (fun x y H Q => y = .non ∧ Q (.bl (!decide (x = .non))) H) (dIsN true) := by
  intro Hb H x y v u K Q s dx dy k kq
  unfold dIsN at k
  split at k
  · refine ⟨dy.non_, ?_⟩
    rw [dx.isNon]
    exact kq _ k _ Hb H (Grow.refl s) DV.mk_bl
  · exact k.elim
/-- -x -/
def pNeg (pa : TEd) : TEd := fun ρ K J => pa ρ (fun a => match a.d with
  | .int i => K (.ro (.int (-i)))
  | _ => False) J
theorem de_neg {a : Expr} {pa : TEd} {pos : Pos} (ha : PEd X E a pa) : PEd X E (.UnaryOp .USub a pos) (pNeg pa) := by
  obtain ⟨ta, h1, k1⟩ := ha.ex
  refine ⟨_, pe_un un_neg h1, fun H0 B0 ρ σ Hb H K J Q R p kq kx => ?_⟩
  refine k1 _ _ _ _ _ _ _ J _ R p (fun a ka => RetOk.data fun v Hb1 H1 g1 d1 => ?_) kx
  split at ka
  · rename_i i e
    rw [e] at d1
    exact ⟨i, d1.int_, kq _ ka _ Hb1 H1 g1 DV.mk_int⟩
  · exact ka.elim
/-- a op b op' c -/
def pChain (rd rd' : D → D → KD → Prop) (pa pb pc : TEd) : TEd := fun ρ K J => pa ρ (fun a => pb ρ (fun b => rd a.d b.d fun z => bD z.d (pc ρ (fun c => rd' b.d c.d K) J) (K (.ro (.bl false)))) J) J
theorem de_chain {a b c : Expr} {op op' : CmpOp} {r r' : R2} {rd rd' : D → D → KD → Prop} {pa pb pc : TEd} {pos : Pos} (ho : OpR X (compareOp op) r) (hd : OpD r rd) (ho' : OpR X (compareOp op') r') (hd' : OpD r' rd') (ha : PEd X E a pa) (hb : PEd X E b pb) (hc : PEd X E c pc) (hm : lastMarks [op, op'] [b, c] = false := by rfl) :
    PEd X E (.Compare a [op, op'] [b, c] pos) (pChain rd rd' pa pb pc) := by
  obtain ⟨ta, h1, k1⟩ := ha.ex
  obtain ⟨tb, h2, k2⟩ := hb.ex
  obtain ⟨tc, h3, k3⟩ := hc.ex
  refine ⟨_, pe_chain ho ho' h1 h2 h3 hm, fun H0 B0 ρ σ Hb H K J Q R p kq kx => ?_⟩
  refine k1 _ _ _ _ _ _ _ J _ R p (fun a ka => RetOk.data fun v Hb1 H1 g1 d1 => ?_) kx
  refine k2 _ _ _ _ _ _ _ J _ (R.more g1) ka (fun b kb => RetOk.data fun u Hb2 H2 g2 d2 => ?_) kx
  refine hd Hb2 H2 _ _ v u _ _ g2.sub (d1.mono g2.bot) d2 kb fun r kr => RetOk.data fun z Hb3 H3 g3 d3 => ?_
  unfold bD at kr
  split at kr
  · rename_i e
    rw [e] at d3
    refine ⟨true, d3.bl_, ?_⟩
    rw [if_pos rfl]
    refine k3 _ _ _ _ _ _ _ J _ (((R.more g1).more g2).more g3) kr (fun c kc => RetOk.data fun y Hb4 H4 g4 d4 => ?_) kx
    exact hd' Hb4 H4 _ _ u y K Q g4.sub (d2.mono (g3.bot.trans g4.bot)) d4 kc fun r kr => (kq r kr).back (((g1.trans g2).trans g3).trans g4)
  · rename_i e
    rw [e] at d3
    refine ⟨false, d3.bl_, ?_⟩
    rw [if_neg Bool.false_ne_true]
    exact kq _ kr _ Hb3 H3 ((g1.trans g2).trans g3) DV.mk_bl
  · exact kr.elim

/-! ### tests -/
def pB (pa : TEd) : TTd := fun ρ K J => pa ρ (fun a => match a.d with
  | .bl b => K b
  | _ => False) J
theorem dt_of {a : Expr} {pa : TEd} (ha : PEd X E a pa) (hT : ∀ ta, PE X a ta → PT X a (tB ta)) : PTd X E a (pB pa) := by
  obtain ⟨ta, h1, k1⟩ := ha.ex
  refine ⟨_, hT ta h1, fun H0 B0 ρ σ Hb H K J Q R p kq kx => ?_⟩
  refine k1 _ _ _ _ _ _ _ J _ R p (fun a ka => RetOk.data fun v Hb1 H1 g1 d1 => ?_) kx
  split at ka
  · rename_i b e
    rw [e] at d1
    exact ⟨b, d1.bl_, kq b Hb1 H1 ka g1⟩
  · exact ka.elim
theorem dt_val {a : Expr} {pa : TEd} (ha : PEd X E a pa) (he : ∀ whole, isTrue a X.env whole = (do let v ← whole; standAt a.pos; holding [v] (truthy v)) := by intro _; rfl) : PTd X E a (pB pa) := dt_of ha fun _ h => pt_val h he
theorem dt_cmp {a b : Expr} {op : CmpOp} {r : R2} {rd : D → D → KD → Prop} {pa pb : TEd} {pos : Pos} (ho : OpR X (compareOp op) r) (hd : OpD r rd) (ha : PEd X E a pa) (hb : PEd X E b pb) (hm : behindInMarks op b = false := by first | exact nomark _ | rfl) : PTd X E (.Compare a [op] [b] pos) (pB (pOp rd pa pb)) := by
  obtain ⟨ta, h1, k1⟩ := ha.ex
  obtain ⟨tb, h2, k2⟩ := hb.ex
  refine ⟨_, pt_cmpR ho h1 h2 hm, fun H0 B0 ρ σ Hb H K J Q R p kq kx => ?_⟩
  refine k1 _ _ _ _ _ _ _ J _ R p (fun a ka => RetOk.data fun v Hb1 H1 g1 d1 => ?_) kx
  refine k2 _ _ _ _ _ _ _ J _ (R.more g1) ka (fun b kb => RetOk.data fun u Hb2 H2 g2 d2 => ?_) kx
  refine hd Hb2 H2 _ _ v u _ _ g2.sub (d1.mono g2.bot) d2 kb fun r kr => RetOk.data fun z Hb3 H3 g3 d3 => ?_
  split at kr
  · rename_i b e
    rw [e] at d3
    exact ⟨b, d3.bl_, kq b Hb3 H3 kr ((g1.trans g2).trans g3)⟩
  · exact kr.elim
theorem dt_chain {a b c : Expr} {op op' : CmpOp} {r r' : R2} {rd rd' : D → D → KD → Prop} {pa pb pc : TEd} {pos : Pos} (ho : OpR X (compareOp op) r) (hd : OpD r rd) (ho' : OpR X (compareOp op') r') (hd' : OpD r' rd') (ha : PEd X E a pa) (hb : PEd X E b pb) (hc : PEd X E c pc) (hm : lastMarks [op, op'] [b, c] = false := by rfl) :
    PTd X E (.Compare a [op, op'] [b, c] pos) (pB (pChain rd rd' pa pb pc)) := by
  obtain ⟨ta, h1, k1⟩ := ha.ex
  obtain ⟨tb, h2, k2⟩ := hb.ex
  obtain ⟨tc, h3, k3⟩ := hc.ex
  refine ⟨_, pt_chain ho ho' h1 h2 h3 hm, fun H0 B0 ρ σ Hb H K J Q R p kq kx => ?_⟩
  refine k1 _ _ _ _ _ _ _ J _ R p (fun a ka => RetOk.data fun v Hb1 H1 g1 d1 => ?_) kx
  refine k2 _ _ _ _ _ _ _ J _ (R.more g1) ka (fun b kb => RetOk.data fun u Hb2 H2 g2 d2 => ?_) kx
  refine hd Hb2 H2 _ _ v u _ _ g2.sub (d1.mono g2.bot) d2 kb fun r kr => RetOk.data fun z Hb3 H3 g3 d3 => ?_
  unfold bD at kr
  split at kr
  · rename_i e
    rw [e] at d3
    refine ⟨true, d3.bl_, ?_⟩
    rw [if_pos rfl]
    refine k3 _ _ _ _ _ _ _ J _ (((R.more g1).more g2).more g3) kr (fun c kc => RetOk.data fun y Hb4 H4 g4 d4 => ?_) kx
    refine hd' Hb4 H4 _ _ u y _ _ g4.sub (d2.mono (g3.bot.trans g4.bot)) d4 kc fun r kr => RetOk.data fun z Hb5 H5 g5 d5 => ?_
    split at kr
    · rename_i b e
      rw [e] at d5
      exact ⟨b, d5.bl_, kq b Hb5 H5 kr ((((g1.trans g2).trans g3).trans g4).trans g5)⟩
    · exact kr.elim
  · rename_i e
    rw [e] at d3
    refine ⟨false, d3.bl_, ?_⟩
    rw [if_neg Bool.false_ne_true]
    exact ⟨false, rfl, kq _ Hb3 H3 kr ((g1.trans g2).trans g3)⟩
  · exact kr.elim
def pNot (pa : TTd) : TTd := fun ρ K J => pa ρ (fun b => K (!b)) J
def pAnd (pa pb : TTd) : TTd := fun ρ K J => pa ρ (fun b => bT b (pb ρ K J) (K false)) J
def pOr (pa pb : TTd) : TTd := fun ρ K J => pa ρ (fun b => bT b (K true) (pb ρ K J)) J
theorem dt_not {a : Expr} {pa : TTd} {pos : Pos} (ha : PTd X E a pa) : PTd X E (.UnaryOp .Not a pos) (pNot pa) := by
  obtain ⟨ta, h1, k1⟩ := ha.ex
  exact ⟨_, pt_not h1, fun H0 B0 ρ σ Hb H K J Q R p kq kx => k1 _ _ _ _ _ _ _ J _ R p (fun b Hb1 H1 kb g1 => kq _ Hb1 H1 kb g1) kx⟩
theorem dw_and1 {a : Expr} {pa : TTd} {pos : Pos} (ha : PTd X E a pa) : PWd X E (.BoolOp .And [a] pos) pa := by
  obtain ⟨ta, h1, k1⟩ := ha.ex
  exact ⟨_, pw_and1 h1, k1⟩
theorem dw_or1 {a : Expr} {pa : TTd} {pos : Pos} (ha : PTd X E a pa) : PWd X E (.BoolOp .Or [a] pos) pa := by
  obtain ⟨ta, h1, k1⟩ := ha.ex
  exact ⟨_, pw_or1 h1, k1⟩
theorem dw_and {a b : Expr} {rest : List Expr} {pa pb : TTd} {pos : Pos} (ha : PTd X E a pa) (hb : PWd X E (.BoolOp .And (b :: rest) pos) pb) : PWd X E (.BoolOp .And (a :: b :: rest) pos) (pAnd pa pb) := by
  obtain ⟨ta, h1, k1⟩ := ha.ex
  obtain ⟨tb, h2, k2⟩ := hb.ex
  refine ⟨_, pw_and h1 h2, fun H0 B0 ρ σ Hb H K J Q R p kq kx => k1 _ _ _ _ _ _ _ J _ R p (fun b Hb1 H1 kb g1 => ?_) kx⟩
  cases b with
  | true =>
    show (if true = true then _ else _)
    rw [if_pos rfl]
    exact k2 _ _ _ _ _ _ _ J _ (R.more g1) kb (fun c Hb2 H2 kc g2 => kq c Hb2 H2 kc (g1.trans g2)) kx
  | false =>
    show (if false = true then _ else _)
    rw [if_neg Bool.false_ne_true]
    exact kq _ Hb1 H1 kb g1
theorem dw_or {a b : Expr} {rest : List Expr} {pa pb : TTd} {pos : Pos} (ha : PTd X E a pa) (hb : PWd X E (.BoolOp .Or (b :: rest) pos) pb) : PWd X E (.BoolOp .Or (a :: b :: rest) pos) (pOr pa pb) := by
  obtain ⟨ta, h1, k1⟩ := ha.ex
  obtain ⟨tb, h2, k2⟩ := hb.ex
  refine ⟨_, pw_or h1 h2, fun H0 B0 ρ σ Hb H K J Q R p kq kx => k1 _ _ _ _ _ _ _ J _ R p (fun b Hb1 H1 kb g1 => ?_) kx⟩
  cases b with
  | true =>
    show (if true = true then _ else _)
    rw [if_pos rfl]
    exact kq _ Hb1 H1 kb g1
  | false =>
    show (if false = true then _ else _)
    rw [if_neg Bool.false_ne_true]
    exact k2 _ _ _ _ _ _ _ J _ (R.more g1) kb (fun c Hb2 H2 kc g2 => kq c Hb2 H2 kc (g1.trans g2)) kx
theorem PWd.pt {e : Expr} {p : TTd} (h : PWd X E e p) : PTd X E e p := by
  obtain ⟨t, h1, k1⟩ := h.ex
  exact ⟨t, h1.pt, k1⟩
/-! ### and, or, not as values of bools -/
def pAndV (pa pb : TEd) : TEd := fun ρ K J => pa ρ (fun a => bD a.d (pb ρ K J) (K (.ro (.bl false)))) J
def pOrV (pa pb : TEd) : TEd := fun ρ K J => pa ρ (fun a => bD a.d (K (.ro (.bl true))) (pb ρ K J)) J
def pNotV (pa : TEd) : TEd := fun ρ K J => pa ρ (fun a => match a.d with
  | .bl b => K (.ro (.bl (!b)))
  | _ => False) J
theorem de_one {op : BoolOp} {a : Expr} {pa : TEd} {pos : Pos} (ha : PEd X E a pa) : PEd X E (.BoolOp op [a] pos) pa := by
  obtain ⟨ta, h1, k1⟩ := ha.ex
  exact ⟨_, pe_one h1, k1⟩
theorem de_and {a b : Expr} {rest : List Expr} {pa pb : TEd} {pos : Pos} (ha : PEd X E a pa) (hb : PEd X E (.BoolOp .And (b :: rest) pos) pb) : PEd X E (.BoolOp .And (a :: b :: rest) pos) (pAndV pa pb) := by
  obtain ⟨ta, h1, k1⟩ := ha.ex
  obtain ⟨tb, h2, k2⟩ := hb.ex
  refine ⟨_, pe_and h1 h2, fun H0 B0 ρ σ Hb H K J Q R p kq kx => ?_⟩
  refine k1 _ _ _ _ _ _ _ J _ R p (fun a ka => RetOk.data fun v Hb1 H1 g1 d1 => ?_) kx
  unfold bD at ka
  split at ka
  · rename_i e
    rw [e] at d1
    refine ⟨true, d1.bl_, ?_⟩
    rw [if_pos rfl]
    exact k2 _ _ _ _ _ _ _ J _ (R.more g1) ka (fun r kr => (kq r kr).back g1) kx
  · rename_i e
    rw [e] at d1
    refine ⟨false, d1.bl_, ?_⟩
    rw [if_neg Bool.false_ne_true]
    exact kq _ ka _ Hb1 H1 g1 DV.mk_bl
  · exact ka.elim
theorem de_or {a b : Expr} {rest : List Expr} {pa pb : TEd} {pos : Pos} (ha : PEd X E a pa) (hb : PEd X E (.BoolOp .Or (b :: rest) pos) pb) : PEd X E (.BoolOp .Or (a :: b :: rest) pos) (pOrV pa pb) := by
  obtain ⟨ta, h1, k1⟩ := ha.ex
  obtain ⟨tb, h2, k2⟩ := hb.ex
  refine ⟨_, pe_or h1 h2, fun H0 B0 ρ σ Hb H K J Q R p kq kx => ?_⟩
  refine k1 _ _ _ _ _ _ _ J _ R p (fun a ka => RetOk.data fun v Hb1 H1 g1 d1 => ?_) kx
  unfold bD at ka
  split at ka
  · rename_i e
    rw [e] at d1
    refine ⟨true, d1.bl_, ?_⟩
    rw [if_pos rfl]
    exact kq _ ka _ Hb1 H1 g1 DV.mk_bl
  · rename_i e
    rw [e] at d1
    refine ⟨false, d1.bl_, ?_⟩
    rw [if_neg Bool.false_ne_true]
    exact k2 _ _ _ _ _ _ _ J _ (R.more g1) ka (fun r kr => (kq r kr).back g1) kx
  · exact ka.elim
theorem de_not {a : Expr} {pa : TEd} {pos : Pos} (ha : PEd X E a pa) : PEd X E (.UnaryOp .Not a pos) (pNotV pa) := by
  obtain ⟨ta, h1, k1⟩ := ha.ex
  refine ⟨_, pe_not h1, fun H0 B0 ρ σ Hb H K J Q R p kq kx => ?_⟩
  refine k1 _ _ _ _ _ _ _ J _ R p (fun a ka => RetOk.data fun v Hb1 H1 g1 d1 => ?_) kx
  split at ka
  · rename_i b e
    rw [e] at d1
    exact ⟨b, d1.bl_, kq _ ka _ Hb1 H1 g1 DV.mk_bl⟩
  · exact ka.elim

/-! ### arguments, displays -/
def pNil : TAd := fun _ K _ => K []
def pCons (pa : TEd) (pr : TAd) : TAd := fun ρ K J => pa ρ (fun a => pr ρ (fun ds => K (a.d :: ds)) J) J
theorem da_nil : PAd X E [] pNil := ⟨_, pa_nil, fun H0 B0 ρ σ Hb H K J Q R p kq kx => kq [] [] Hb H p (Grow.refl R.sub) .nil⟩
theorem da_cons {e : Expr} {es : List Expr} {pa : TEd} {pr : TAd} (ha : PEd X E e pa) (hr : PAd X E es pr) (hs : starEach (e :: es) X.env = (false, eval e X.env) :: starEach es X.env := by rfl) : PAd X E (e :: es) (pCons pa pr) := by
  obtain ⟨ta, h1, k1⟩ := ha.ex
  obtain ⟨tr, h2, k2⟩ := hr.ex
  refine ⟨_, pa_cons h1 h2 hs, fun H0 B0 ρ σ Hb H K J Q R p kq kx => ?_⟩
  refine k1 _ _ _ _ _ _ _ J _ R p (fun a ka => RetOk.data fun v Hb1 H1 g1 d1 => ?_) kx
  refine k2 _ _ _ _ _ _ _ J _ (R.more g1) ka (fun ds vs Hb2 H2 kd g2 d2 => ?_) kx
  exact kq _ _ Hb2 H2 kd (g1.trans g2) (.cons (d1.mono g2.bot) d2)
def pTup (pa : TAd) : TEd := fun ρ K J => pa ρ (fun ds => ds.length ≤ 1000000 ∧ K (.ro (.tup ds))) J
def pLst (pa : TAd) : TEd := fun ρ K J => pa ρ (fun ds => ds.length ≤ 1000000 ∧ K (.own ds)) J
theorem mil : (1000000 : Nat) ≤ sizeLine := by rw [sizeLine_eq]; decide
end
end Pu
/-! Pu3: sequences, displays, calls, comprehensions. -/
namespace Pu
open PySem PySem.Spec PyProof.Rows L2
section
variable {X : Cx} {E : XK}

/-! ### displays -/
theorem de_tup {es : List Expr} {pa : TAd} {x1 : Nat} {pos : Pos} (ha : PAd X E es pa) : PEd X E (.Tuple es x1 pos) (pTup pa) := by
  obtain ⟨ta, h1, k1⟩ := ha.ex
  refine ⟨_, pe_tup h1, fun H0 B0 ρ σ Hb H K J Q R p kq kx => ?_⟩
  refine k1 _ _ _ _ _ _ _ J _ R p (fun ds vs Hb1 H1 kd g1 d1 => ?_) kx
  refine ⟨by rw [d1.length]; exact Nat.le_trans kd.1 mil, fun q hq => ?_⟩
  have g2 : Grow H1 Hb1 (upd H1 q (.tup vs)) (upd Hb1 q (.tup vs)) := Grow.ro g1.sub hq
  exact kq _ kd.2 _ _ _ (g1.trans g2) (DV.mk_tup upd_same (d1.mono g2.bot))
theorem de_lst {es : List Expr} {pa : TAd} {pos : Pos} (ha : PAd X E es pa) : PEd X E (.List es pos) (pLst pa) := by
  obtain ⟨ta, h1, k1⟩ := ha.ex
  refine ⟨_, pe_lst h1, fun H0 B0 ρ σ Hb H K J Q R p kq kx => ?_⟩
  refine k1 _ _ _ _ _ _ _ J _ R p (fun ds vs Hb1 H1 kd g1 d1 => ?_) kx
  refine ⟨by rw [d1.length]; exact Nat.le_trans kd.1 mil, fun q hq => ?_⟩
  have g2 : Grow H1 Hb1 (upd H1 q (.lst vs)) Hb1 := Grow.own g1.sub hq
  exact kq _ kd.2 _ _ _ _ (g1.trans g2) upd_same (same_none g1.top hq) (same_none g1.sub hq) d1

/-! ### borrowed -/
theorem DB.more {Hb H Hb' H' : Hp} {d : D} {v : V} (h : DB Hb H d v) (g : Grow H Hb H' Hb') : DB Hb' H' d v := by
  rcases h with h | ⟨ds, p, xs, e1, e2, e3, e4⟩
  · exact .inl (h.mono g.bot)
  · exact .inr ⟨ds, p, xs, e1, e2, g.top p _ e3, e4.mono g.bot⟩
theorem DB.list {Hb H : Hp} {ds : List D} {v : V} (s : Same Hb H) (h : DB Hb H (.lst ds) v) : ∃ p xs, v = .ref p ∧ H p = some (.lst xs) ∧ DVs Hb ds xs := by
  rcases h with h | ⟨ds', p, xs, e1, e2, e3, e4⟩
  · obtain ⟨a, xs, e, h1, h2⟩ := h.lst_
    exact ⟨a, xs, e, s a _ h1, h2⟩
  · cases e1
    exact ⟨p, xs, e2, e3, e4⟩
theorem DB.tuple {Hb H : Hp} {ds : List D} {v : V} (s : Same Hb H) (h : DB Hb H (.tup ds) v) : ∃ p xs, v = .ref p ∧ H p = some (.tup xs) ∧ DVs Hb ds xs := by
  rcases h with h | ⟨ds', p, xs, e1, e2, e3, e4⟩
  · obtain ⟨a, xs, e, h1, h2⟩ := h.tup_
    exact ⟨a, xs, e, s a _ h1, h2⟩
  · cases e1
theorem DB.scr {Hb H : Hp} {ns : List Int} {v : V} (s : Same Hb H) (h : DB Hb H (.scr ns) v) : ∃ p o, v = .ref p ∧ H p = some (.frz o (.lst (ns.map V.int))) := by
  rcases h with h | ⟨ds', p, xs, e1, e2, e3, e4⟩
  · obtain ⟨a, o, e, h1⟩ := h.scr_
    exact ⟨a, o, e, s a _ h1⟩
  · cases e1
theorem sqF {K0 : PySem.W.Frag} {H : Hp} {p : Addr} {o : Obj} {xs : List V} (h : H p = some (.frz o (.lst xs))) : SqL K0 H p xs := .inl (.inr ⟨o, h⟩)
theorem atI_mapV {α β : Type} {xs : List α} {f : α → β} {i : Int} {a : α} (e : atI xs i = some a) : atI (xs.map f) i = some (f a) := by
  unfold atI at e ⊢
  rw [List.length_map]
  cases q : ixN xs.length i with
  | none => rw [q] at e; cases e
  | some j =>
    rw [q] at e
    show (xs.map f)[j]? = _
    have e : xs[j]? = some a := e
    rw [List.getElem?_map, e]
    rfl
theorem db_of {e : Expr} {pa : TEd} (ha : PEd X E e pa) : PBd X E e pa := by
  obtain ⟨ta, h1, k1⟩ := ha.ex
  refine ⟨ta, h1, fun H0 B0 ρ σ Hb H K J Q R p kq kx => ?_⟩
  exact k1 _ _ _ _ _ _ K J _ R p (fun a ka => RetOk.data fun v Hb1 H1 g1 d1 => kq a v Hb1 H1 ka g1 (.inl d1)) kx
/-- a name that is borrowed: read-only data or an own list -/
def pVarB (i : Nat) : TEd := fun ρ K _ => match ρ[i]? with
  | some (some (.ro d)) => K (.ro d)
  | some (some (.own ds)) => K (.own ds)
  | some (some (.tab _ ps _)) => K (.ro (.lst (ps.map D.adr)))
  | _ => False
theorem adrs_ok {Hb : Hp} : ∀ ps : List Addr, DVs Hb (ps.map D.adr) (ps.map V.ref)
  | [] => .nil
  | p :: ps => .cons DV.mk_adr (adrs_ok ps)
theorem db (i : Nat) {x : Str} {pos : Pos} (hN : X.N[i]? = some x := by rfl) (hv : Vis X.env.scope x := by first | exact .inl rfl | exact .inr (.inl rfl) | exact .inr (.inr rfl)) (hd : (x == ("__debug__" : Str)) = false := by decide) (hcd : (x == ("__classdict__" : Str)) = false := by decide) :
    PBd X E (.Name x pos) (pVarB i) := by
  refine ⟨_, pe_var hN hv hd hcd, fun H0 B0 ρ σ Hb H K J Q R p kq kx => ?_⟩
  unfold pVarB at p
  split at p
  · rename_i d e
    obtain ⟨v, h1, h2⟩ := R.var e
    exact ⟨v, h1, kq _ v Hb H p (Grow.refl R.sub) (.inl h2)⟩
  · rename_i ds e
    obtain ⟨v, h1, q, xs, e2, h3, h4, h5, h6⟩ := R.slot i _ e
    exact ⟨v, h1, kq _ v Hb H p (Grow.refl R.sub) (.inr ⟨ds, q, xs, rfl, e2, h3, h6⟩)⟩
  · rename_i q ps rows e
    obtain ⟨v, h1, e2, K'⟩ := R.slot i _ e
    exact ⟨v, h1, kq _ v Hb H p (Grow.refl R.sub) (.inr ⟨_, q, _, rfl, e2, K'.out, adrs_ok ps⟩)⟩
  · exact p.elim

/-! ### subscripts -/
theorem at_len {α β : Type} {xs : List α} {ys : List β} (h : xs.length = ys.length) (i : Int) {y : β} (e : atI ys i = some y) : ∃ j, ixN xs.length i = some j ∧ ys[j]? = some y := by
  unfold atI at e
  rw [← h] at e
  cases q : ixN xs.length i with
  | none => rw [q] at e; cases e
  | some j => rw [q] at e; exact ⟨j, rfl, e⟩
theorem DVs.at {H : Hp} {ds : List D} {xs : List V} {i : Int} {d : D} (h : DVs H ds xs) (e : atI ds i = some d) : ∃ x, atI xs i = some x ∧ DV H d x := by
  obtain ⟨j, e1, e2⟩ := at_len h.length i e
  obtain ⟨x, e3, e4⟩ := h.get e2
  refine ⟨x, ?_, e4⟩
  unfold atI
  rw [e1]
  exact e3
def dIx (x y : D) (K : KD) : Prop := match x, y with
  | .lst ds, .int i => (match atI ds i with
    | some d => K (.ro d)
    | none => False)
  | .tup ds, .int i => (match atI ds i with
    | some d => K (.ro d)
    | none => False)
  | .scr ns, .int i => (match atI ns i with
    | some n => K (.ro (.int n))
    | none => False)
  | _, _ => False
def pIx (pa pb : TEd) : TEd := fun ρ K J => pa ρ (fun a => pb ρ (fun b => dIx a.d b.d K) J) J
theorem de_ix {a b : Expr} {pa pb : TEd} {pos : Pos} (ha : PBd X E a pa) (hb : PEd X E b pb) (hs : PlainIx b := by exact fun _ _ => rfl) : PEd X E (.Subscript a b pos) (pIx pa pb) := by
  obtain ⟨ta, h1, k1⟩ := ha.ex
  obtain ⟨tb, h2, k2⟩ := hb.ex
  refine ⟨_, pe_ix ix_seq h1 h2 hs, fun H0 B0 ρ σ Hb H K J Q R p kq kx => ?_⟩
  refine k1 _ _ _ _ _ _ _ J _ R p (fun a v Hb1 H1 ka g1 d1 => ?_) kx
  refine k2 _ _ _ _ _ _ _ J _ (R.more g1) ka (fun b kb => RetOk.data fun u Hb2 H2 g2 d2 => ?_) kx
  have d1' := d1.more g2
  unfold dIx at kb
  split at kb
  · rename_i ds i ea eb
    rw [ea] at d1'
    rw [eb] at d2
    split at kb
    · rename_i d e
      obtain ⟨q, xs, e1, e2, e3⟩ := d1'.list g2.sub
      obtain ⟨x, e4, e5⟩ := e3.at e
      exact .inl ⟨q, xs, i, x, e1, d2.int_, SqL.of e2, e4, kq _ kb x Hb2 H2 (g1.trans g2) e5⟩
    · exact kb.elim
  · rename_i ds i ea eb
    rw [ea] at d1'
    rw [eb] at d2
    split at kb
    · rename_i d e
      obtain ⟨q, xs, e1, e2, e3⟩ := d1'.tuple g2.sub
      obtain ⟨x, e4, e5⟩ := e3.at e
      exact .inr (.inl ⟨q, xs, i, x, e1, d2.int_, SqT.of e2, e4, kq _ kb x Hb2 H2 (g1.trans g2) e5⟩)
    · exact kb.elim
  · rename_i ns i ea eb
    rw [ea] at d1'
    rw [eb] at d2
    split at kb
    · rename_i n e
      obtain ⟨q, o, e1, e2⟩ := d1'.scr g2.sub
      exact .inl ⟨q, _, i, .int n, e1, d2.int_, sqF e2, atI_mapV e, kq _ kb _ Hb2 H2 (g1.trans g2) DV.mk_int⟩
    · exact kb.elim
  · exact kb.elim
/-! ### slices -/
def cutD (ds : List D) (lo hi : Option Int) : List D := (ds.drop (HT.sIx ds.length 0 lo)).take (HT.sIx ds.length ds.length hi - HT.sIx ds.length 0 lo)
theorem DVs.cut {H : Hp} {ds : List D} {xs : List V} (h : DVs H ds xs) (lo hi : Option Int) : DVs H (cutD ds lo hi) (cutV xs lo hi) := by
  unfold cutD cutV
  rw [h.length]
  exact (h.drop _).take _
abbrev TOd := Ro → (Option Int → Prop) → KX → Prop
structure POd (X : Cx) (E : XK) (e : Option Expr) (p : TOd) : Prop where
  ex : ∃ te, PO X e te ∧ ∀ H0 B0 ρ σ Hb H (K : Option Int → Prop) (J : KX) (Q : Option Int → Hp → Prop), Rep H0 B0 ρ σ Hb H → p ρ K J → (∀ o Hb' H', K o → Grow H Hb H' Hb' → Q o H') → (∀ x, J x → ExOk H0 B0 E x) → te σ H Q
def pON : TOd := fun _ K _ => K none
def pOS (pa : TEd) : TOd := fun ρ K J => pa ρ (fun a => match a.d with
  | .int i => K (some i)
  | _ => False) J
theorem do_none : POd X E none pON := ⟨_, po_none, fun H0 B0 ρ σ Hb H K J Q R p kq kx => kq _ Hb H p (Grow.refl R.sub)⟩
theorem do_some {e : Expr} {pa : TEd} (ha : PEd X E e pa) : POd X E (some e) (pOS pa) := by
  obtain ⟨ta, h1, k1⟩ := ha.ex
  refine ⟨_, po_some h1, fun H0 B0 ρ σ Hb H K J Q R p kq kx => ?_⟩
  refine k1 _ _ _ _ _ _ _ J _ R p (fun a ka => RetOk.data fun v Hb1 H1 g1 d1 => ?_) kx
  split at ka
  · rename_i i e
    rw [e] at d1
    exact ⟨i, d1.int_, kq _ Hb1 H1 ka g1⟩
  · exact ka.elim
def pSlL (pa : TEd) (pl ph : TOd) : TEd := fun ρ K J => pa ρ (fun a => pl ρ (fun lo => ph ρ (fun hi => match a.d with
  | .lst ds => K (.own (cutD ds lo hi))
  | _ => False) J) J) J
def pSlT (pa : TEd) (pl ph : TOd) : TEd := fun ρ K J => pa ρ (fun a => pl ρ (fun lo => ph ρ (fun hi => match a.d with
  | .tup ds => K (.ro (.tup (cutD ds lo hi)))
  | _ => False) J) J) J
theorem de_slL {e : Expr} {lo hi : Option Expr} {pa : TEd} {pl ph : TOd} {p2 pos : Pos} (ha : PBd X E e pa) (hl : POd X E lo pl) (hh : POd X E hi ph) : PEd X E (.Subscript e (.Slice lo hi none p2) pos) (pSlL pa pl ph) := by
  obtain ⟨ta, h1, k1⟩ := ha.ex
  obtain ⟨tl, h2, k2⟩ := hl.ex
  obtain ⟨th, h3, k3⟩ := hh.ex
  refine ⟨_, pe_slice sl_list h1 h2 h3, fun H0 B0 ρ σ Hb H K J Q R p kq kx => ?_⟩
  refine k1 _ _ _ _ _ _ _ J _ R p (fun a v Hb1 H1 ka g1 d1 => ?_) kx
  refine k2 _ _ _ _ _ _ _ J _ (R.more g1) ka (fun lo Hb2 H2 kb g2 => ?_) kx
  refine k3 _ _ _ _ _ _ _ J _ ((R.more g1).more g2) kb (fun hi Hb3 H3 kc g3 => ?_) kx
  split at kc
  · rename_i ds e
    rw [e] at d1
    obtain ⟨q, xs, e1, e2, e3⟩ := ((d1.more g2).more g3).list g3.sub
    have G := (g1.trans g2).trans g3
    exact ⟨q, xs, e1, SqL.of e2, fun l hl => kq _ kc l _ Hb3 _ (G.trans (Grow.own G.sub hl)) upd_same (same_none G.top hl) (same_none G.sub hl) (e3.cut lo hi)⟩
  · exact kc.elim
theorem de_slT {e : Expr} {lo hi : Option Expr} {pa : TEd} {pl ph : TOd} {p2 pos : Pos} (ha : PBd X E e pa) (hl : POd X E lo pl) (hh : POd X E hi ph) : PEd X E (.Subscript e (.Slice lo hi none p2) pos) (pSlT pa pl ph) := by
  obtain ⟨ta, h1, k1⟩ := ha.ex
  obtain ⟨tl, h2, k2⟩ := hl.ex
  obtain ⟨th, h3, k3⟩ := hh.ex
  refine ⟨_, pe_slice sl_tupA h1 h2 h3, fun H0 B0 ρ σ Hb H K J Q R p kq kx => ?_⟩
  refine k1 _ _ _ _ _ _ _ J _ R p (fun a v Hb1 H1 ka g1 d1 => ?_) kx
  refine k2 _ _ _ _ _ _ _ J _ (R.more g1) ka (fun lo Hb2 H2 kb g2 => ?_) kx
  refine k3 _ _ _ _ _ _ _ J _ ((R.more g1).more g2) kb (fun hi Hb3 H3 kc g3 => ?_) kx
  split at kc
  · rename_i ds e
    rw [e] at d1
    obtain ⟨q, xs, e1, e2, e3⟩ := ((d1.more g2).more g3).tuple g3.sub
    have G := (g1.trans g2).trans g3
    refine ⟨q, xs, e1, SqT.of e2, fun w => ?_, fun _ l hl => ?_⟩
    · have ec : cutV xs lo hi = xs := by
        unfold cutV
        rw [w.1, w.2, List.drop_zero, Nat.sub_zero]
        exact List.take_length
      have e4 := e3.cut lo hi
      rw [ec] at e4
      subst e1
      rcases (d1.more g2).more g3 with z | ⟨_, _, _, z, _⟩
      · obtain ⟨a', xs', z1, z2, z3⟩ := z.tup_
        cases z1
        have z4 := g3.sub q _ z2
        rw [e2] at z4
        cases z4
        exact kq _ kc _ Hb3 H3 G (DV.mk_tup z2 e4)
      · cases z
    · have g4 : Grow H3 Hb3 _ _ := Grow.ro (o := .tup (cutV xs lo hi)) g3.sub hl
      exact kq _ kc _ _ _ (G.trans g4) (DV.mk_tup upd_same ((e3.cut lo hi).mono g4.bot))
  · exact kc.elim
/-- xs[::-1] -/
def pRev (pa : TEd) : TEd := fun ρ K J => pa ρ (fun a => match a.d with
  | .lst ds => K (.own ds.reverse)
  | _ => False) J
theorem de_rev {e : Expr} {pa : TEd} {k : Nat} {p1 p2 p3 pos : Pos} (ha : PBd X E e pa) : PEd X E (.Subscript e (.Slice none none (some (.UnaryOp .USub (.Constant (.int 1) k p1) p2)) p3) pos) (pRev pa) := by
  obtain ⟨ta, h1, k1⟩ := ha.ex
  refine ⟨_, pe_revL h1, fun H0 B0 ρ σ Hb H K J Q R p kq kx => ?_⟩
  refine k1 _ _ _ _ _ _ _ J _ R p (fun a v Hb1 H1 ka g1 d1 => ?_) kx
  split at ka
  · rename_i ds e
    rw [e] at d1
    obtain ⟨q, xs, e1, e2, e3⟩ := d1.list g1.sub
    exact ⟨q, xs, e1, SqL.of e2, fun l hl => kq _ ka l _ Hb1 _ (g1.trans (Grow.own g1.sub hl)) upd_same (same_none g1.top hl) (same_none g1.sub hl) e3.reverse⟩
  · exact ka.elim

/-! ### list + list, list * int, in, == [] -/
def dCat : D → D → KD → Prop := fun x y K => match x, y with
  | .lst a, .lst b => a.length + b.length ≤ 1000000 ∧ K (.own (a ++ b))
  | _, _ => False
theorem od_cat : OpD rCat dCat := by
  intro Hb H x y v u K Q s dx dy k kq
  unfold dCat at k
  split at k
  · rename_i a b
    obtain ⟨p, xs, e1, e2, e3⟩ := dx.lst_
    obtain ⟨q, ys, f1, f2, f3⟩ := dy.lst_
    refine ⟨p, q, xs, ys, e1, f1, s p _ e2, s q _ f2, by rw [e3.length, f3.length]; exact Nat.le_trans k.1 mil, fun l hl => ?_⟩
    exact kq _ k.2 l _ Hb _ (Grow.own s hl) upd_same hl (same_none s hl) (e3.append f3)
  · exact k.elim
def dRep : D → D → KD → Prop := fun x y K => match x, y with
  | .lst a, .int n => n < 100000 ∧ -100000 < n ∧ a.length * n.toNat ≤ 1000000 ∧ K (.own (List.replicate n.toNat a).flatten)
  | _, _ => False
theorem od_rep : OpD rRep dRep := by
  intro Hb H x y v u K Q s dx dy k kq
  unfold dRep at k
  split at k
  · rename_i a n
    obtain ⟨p, xs, e1, e2, e3⟩ := dx.lst_
    refine ⟨p, n, xs, e1, dy.int_, s p _ e2, by omega, by omega, by rw [e3.length]; exact Nat.le_trans k.2.2.1 mil, fun l hl => ?_⟩
    exact kq _ k.2.2.2 l _ Hb _ (Grow.own s hl) upd_same hl (same_none s hl) (e3.flat _)
  · exact k.elim
/-- an int in a list of ints -/
def dInI (neg : Bool) : D → D → KD → Prop := fun x y K => match x, y with
  | .int i, .lst ds => ∃ ns : List Int, ds = ns.map D.int ∧ K (.ro (.bl (if neg then !decide (i ∈ ns) else decide (i ∈ ns))))
  | _, _ => False
theorem inV_int (i : Int) : ∀ ns : List Int, inV (.int i) (ns.map V.int) = decide (i ∈ ns)
  | [] => rfl
  | n :: ns => by
    have ih := inV_int i ns
    unfold inV at ih ⊢
    rw [List.map_cons, List.any_cons, ih]
    show ((n == i) || _) = _
    by_cases h : n = i
    · subst h; simp
    · have h2 : ¬ i = n := fun e => h e.symm
      simp [h, h2]
theorem all_flat : ∀ ns : List Int, (ns.map V.int).all flatV = true
  | [] => rfl
  | n :: ns => by rw [List.map_cons, List.all_cons, all_flat ns]; rfl
theorem od_inI {neg : Bool} {K0 : PySem.W.Frag} : OpD (rIn K0 neg) (dInI neg) := by
  intro Hb H x y v u K Q s dx dy k kq
  unfold dInI at k
  split at k
  · rename_i i ds
    obtain ⟨ns, rfl, k⟩ := k
    obtain ⟨p, xs, e1, e2, e3⟩ := dy.lst_
    have ex := e3.ints
    subst ex
    rw [dx.int_]
    refine ⟨p, _, e1, .inl (SqL.of (s p _ e2)), rfl, all_flat ns, ?_⟩
    rw [inV_int]
    exact kq _ k _ Hb H (Grow.refl s) DV.mk_bl
  · exact k.elim
mutual
/-- data that == walks: n deep at most -/
def plain : Nat → D → Bool
  | _, .non => true
  | _, .bl _ => true
  | _, .int _ => true
  | _, .str x => PyData.canLay0 (.str x)
  | n + 1, .tup ds => plains n ds
  | n + 1, .lst ds => plains n ds
  | _, _ => false
def plains : Nat → List D → Bool
  | _, [] => true
  | n, d :: ds => plain n d && plains n ds
end
mutual
theorem plain_py {K0 : PySem.W.Frag} {Hb : Hp} : ∀ {n : Nat} {d : D} {v : V}, plain n d = true → DV Hb d v → ∃ y, Dp K0 Hb v y ∧ y.canLay0 = true ∧ y.depth ≤ n ∧ (∀ ds, d = .lst ds → ∃ ys, y = .list ys ∧ ys.length = ds.length)
  | _, .non, _, _, h => ⟨.none, by rw [h.non_]; exact .non, rfl, Nat.zero_le _, fun _ z => by cases z⟩
  | _, .bl b, _, _, h => ⟨.bool b, by rw [h.bl_]; exact .bl b, rfl, Nat.zero_le _, fun _ z => by cases z⟩
  | _, .int i, _, _, h => ⟨.int i, by rw [h.int_]; exact .int i, rfl, Nat.zero_le _, fun _ z => by cases z⟩
  | _, .str x, _, p, h => ⟨.str x, by rw [h.str_]; exact .str x, by simpa only [plain] using p, Nat.zero_le _, fun _ z => by cases z⟩
  | 0, .tup ds, _, p, _ => by simp [plain] at p
  | 0, .lst ds, _, p, _ => by simp [plain] at p
  | n + 1, .tup ds, _, p, h => by
    obtain ⟨a, xs, e, h1, h2⟩ := h.tup_
    obtain ⟨ys, k1, k2, k3, k4⟩ := plains_py (K0 := K0) (n := n) (ds := ds) (by simpa only [plain] using p) h2
    exact ⟨.tuple ys, by rw [e]; exact .tup (SqT.of h1) k1, by simpa only [PyData.canLay0] using k2, by simp only [PyData.depth]; omega, fun _ z => by cases z⟩
  | n + 1, .lst ds, _, p, h => by
    obtain ⟨a, xs, e, h1, h2⟩ := h.lst_
    obtain ⟨ys, k1, k2, k3, k4⟩ := plains_py (K0 := K0) (n := n) (ds := ds) (by simpa only [plain] using p) h2
    exact ⟨.list ys, by rw [e]; exact .lst (SqL.of h1) k1, by simpa only [PyData.canLay0] using k2, by simp only [PyData.depth]; omega, fun _ z => by cases z; exact ⟨ys, rfl, k4⟩⟩
  | _, .ins C fs ds, _, p, _ => by simp [plain] at p
  | _, .adr a, _, p, _ => by simp [plain] at p
  | _, .scr ns, _, p, _ => by simp [plain] at p
theorem plains_py {K0 : PySem.W.Frag} {Hb : Hp} : ∀ {n : Nat} {ds : List D} {xs : List V}, plains n ds = true → DVs Hb ds xs → ∃ ys, DpAll K0 Hb xs ys ∧ PyData.canLayAll0 ys = true ∧ PyData.depthAll ys ≤ n ∧ ys.length = ds.length
  | _, [], _, _, h => by rw [h.of_nil]; exact ⟨[], .nil, rfl, Nat.zero_le _, rfl⟩
  | n, d :: ds, _, p, h => by
    obtain ⟨x, r, rfl, h1, h2⟩ := h.of_cons
    simp only [plains, Bool.and_eq_true] at p
    obtain ⟨y, k1, k2, k3, _⟩ := plain_py (K0 := K0) p.1 h1
    obtain ⟨ys, j1, j2, j3, j4⟩ := plains_py (K0 := K0) p.2 h2
    exact ⟨y :: ys, .cons k1 j1, by simp only [PyData.canLayAll0, k2, j2, Bool.and_self], by simp only [PyData.depthAll]; omega, by rw [List.length_cons, List.length_cons, j4]⟩
end
/-- a list == [] -/
def dEqN (neg : Bool) : D → D → KD → Prop := fun x y K => match x, y with
  | .lst ds, .lst [] => plains 20 ds = true ∧ K (.ro (.bl (if neg then !ds.isEmpty else ds.isEmpty)))
  | _, _ => False
theorem eqv_nil : ∀ ys : List PyData, PyData.eqv (.list ys) (.list []) = ys.isEmpty
  | [] => by simp [PyData.eqv, PyData.eqvAll]
  | y :: ys => by simp [PyData.eqv, PyData.eqvAll]
theorem od_eqN {K0 : PySem.W.Frag} : OpD (rEqD K0) (dEqN false) := by
  intro Hb H x y v u K Q s dx dy k kq
  unfold dEqN at k
  split at k
  · rename_i ds
    obtain ⟨p, xs, e1, e2, e3⟩ := dx.lst_
    obtain ⟨ys, j1, j2, j3, j4⟩ := plains_py (K0 := K0) k.1 (e3.mono s)
    obtain ⟨q, zs, f1, f2, f3⟩ := dy.lst_
    have z0 := f3.of_nil
    subst z0
    refine ⟨.list ys, .list [], by rw [e1]; exact .lst (SqL.of (s p _ e2)) j1, by rw [f1]; exact .lst (SqL.of (s q _ f2)) .nil, ?_, rfl, ?_⟩
    · show (PyData.canLay0 (.list ys) && decide (PyData.depth (.list ys) ≤ 64)) = true
      simp only [PyData.canLay0, j2, Bool.true_and, PyData.depth]
      exact decide_eq_true (by omega)
    · rw [eqv_nil]
      have ee : ys.isEmpty = ds.isEmpty := by
        cases ys with
        | nil => cases ds with
          | nil => rfl
          | cons => simp at j4
        | cons => cases ds with
          | nil => simp at j4
          | cons => rfl
      rw [ee]
      exact kq _ k.2 _ Hb H (Grow.refl s) DV.mk_bl
  · exact k.elim
theorem od_neN {K0 : PySem.W.Frag} : OpD (rNeD K0) (dEqN true) := by
  intro Hb H x y v u K Q s dx dy k kq
  unfold dEqN at k
  split at k
  · rename_i ds
    obtain ⟨p, xs, e1, e2, e3⟩ := dx.lst_
    obtain ⟨ys, j1, j2, j3, j4⟩ := plains_py (K0 := K0) k.1 (e3.mono s)
    obtain ⟨q, zs, f1, f2, f3⟩ := dy.lst_
    have z0 := f3.of_nil
    subst z0
    refine ⟨.list ys, .list [], by rw [e1]; exact .lst (SqL.of (s p _ e2)) j1, by rw [f1]; exact .lst (SqL.of (s q _ f2)) .nil, ?_, rfl, ?_⟩
    · show (PyData.canLay0 (.list ys) && decide (PyData.depth (.list ys) ≤ 64)) = true
      simp only [PyData.canLay0, j2, Bool.true_and, PyData.depth]
      exact decide_eq_true (by omega)
    · rw [eqv_nil]
      have ee : ys.isEmpty = ds.isEmpty := by
        cases ys with
        | nil => cases ds with
          | nil => rfl
          | cons => simp at j4
        | cons => cases ds with
          | nil => simp at j4
          | cons => rfl
      rw [ee]
      exact kq _ k.2 _ Hb H (Grow.refl s) DV.mk_bl
  · exact k.elim

/-! ### promises over data -/
structure SpecD where
  α : Type
  args : α → List D
  pre : α → Prop
  post : α → Except Exn RV → Prop
def spD (S : SpecD) : Sp := fun vs H Q E => ∃ (x : S.α) (Hb : Hp), Same Hb H ∧ DVs Hb (S.args x) vs ∧ S.pre x ∧ (∀ r, S.post x (.ok r) → RetOk H Hb Q r) ∧ ∀ e, S.post x (.error e) → ExOk H Hb E e
def pCall (S : SpecD) (pa : TAd) : TEd := fun ρ K J => pa ρ (fun ds => ∃ x : S.α, ds = S.args x ∧ S.pre x ∧ (∀ r, S.post x (.ok r) → K r) ∧ ∀ e, S.post x (.error e) → J e) J
theorem de_call {S : SpecD} {CX : CXT} {k : Nat} {f : Addr} {fd : FuncData} {ps : List Str} {x : Str} {p pos : Pos} {e : Expr} {es : List Expr} {pa : TAd} (F : FnOk X.prog X.w X.K X.mg X.base CX k f fd ps (spD S)) (hr : Room k X.A) (hm : X.mg x = some (.ref f)) (hk : PySem.W.keepIn X.K (.ref f) = true)
    (hb : Binds X.K fd ps []) (hx : Passes CX X E) (ha : PAd X E (e :: es) pa) (hg : Gl X x := by rfl) (hdb : (x == ("__debug__" : Str)) = false := by decide) (he : starEach (e :: es) X.env = (false, eval e X.env) :: starEach es X.env := by rfl) (hpl : (backTo pos (starEach es X.env)).any (·.1) = false := by rfl) :
    PEd X E (.Call (.Name x p) (e :: es) [] pos) (pCall S pa) := by
  obtain ⟨ta, h1, k1⟩ := ha.ex
  refine ⟨_, pe_call (dvs := []) F hr hg hm hk hb .nil hx h1 hdb he hpl, fun H0 B0 ρ σ Hb H K J Q R p kq kx => ?_⟩
  refine k1 _ _ _ _ _ _ _ J _ R p (fun ds vs Hb1 H1 kd g1 d1 => ?_) kx
  obtain ⟨y, rfl, hp, h2, h3⟩ := kd
  rw [List.append_nil]
  exact ⟨y, Hb1, g1.sub, d1, hp, fun r hr => (kq r (h2 r hr)).back g1, fun e he => ((kx e (h3 e he)).back R.grow).back g1⟩
/-- a def keeps its promise: by a reading of its body over data -/
def startD (N : List Str) (ds : List D) : Ro := ds.map (fun d => some (.ro d)) ++ List.replicate (N.length - ds.length) none
theorem start_rep {N : List Str} {ds : List D} {vs : List V} {H Hb : Hp} (s : Same Hb H) (h : DVs Hb ds vs) : Rep H Hb (startD N ds) (L2.start N vs) Hb H where
  grow := Grow.refl s
  len := by
    unfold L2.start startD
    rw [List.length_append, List.length_append, List.length_map, List.length_map, List.length_replicate, List.length_replicate, h.length]
  slot := fun i t e => by
    unfold startD at e
    unfold L2.start
    by_cases hi : i < ds.length
    · rw [List.getElem?_append_left (by rw [List.length_map]; exact hi), List.getElem?_map] at e
      rw [List.getElem?_append_left (by rw [List.length_map, h.length]; exact hi), List.getElem?_map]
      cases q : ds[i]? with
      | none => rw [q] at e; cases e
      | some d =>
        rw [q] at e
        have e2 : S.ro d = t := Option.some.inj (Option.some.inj e)
        subst e2
        obtain ⟨v, h1, h2⟩ := h.get q
        exact ⟨v, by rw [h1]; rfl, h2⟩
    · rw [List.getElem?_append_right (by rw [List.length_map]; omega), List.getElem?_replicate] at e
      split at e <;> cases e
  sep := fun a b s t u v x hab ha hb hu hv hs ht => by
    unfold startD at ha
    by_cases hi : a < ds.length
    · rw [List.getElem?_append_left (by rw [List.length_map]; exact hi), List.getElem?_map] at ha
      cases q : ds[a]? with
      | none => rw [q] at ha; cases ha
      | some d =>
        rw [q] at ha
        cases ha
        exact hs.elim
    · rw [List.getElem?_append_right (by rw [List.length_map]; omega), List.getElem?_replicate] at ha
      split at ha <;> cases ha
theorem okD {P : Program} {w : World} {K : PySem.W.Frag} {mg : Str → Option Value} {base : Heap} {CX : CXT} {x qual : Str} {params : Arguments} {body : List Stmt} {scope : Scope} {f : Addr} {fd : FuncData} {N ps : List Str} {k : Nat} {S : SpecD} {p : XK → TSd}
    (F : FunD K x qual params body scope [] [] f fd) (Sc : FnScope N ps scope) (hl : ∀ x, (S.args x).length = ps.length)
    (hb : ∀ (cdv : Value) (A : Around) (outer : List Env) (s : Shared) (H : Hp) (E : XK), Room k (A.deeper (envOfC qual scope s.heap.objs.size f cdv)) → PSsd (cxOf CX P w K mg base N qual scope f cdv A outer s H E) E body (p E))
    (run : ∀ (x : S.α) (E : XK), S.pre x → p E { nx := fun _ => S.post x (.ok (.ro .non)), rt := fun r => S.post x (.ok r), ex := fun e => S.post x (.error e) } (startD N (S.args x))) : FnOk P w K mg base CX (k + 1) f fd ps (spD S) := by
  refine F.ok Sc (fun vs H Q E h => ?_) (fun cdv A outer s H vs Q E hr h => ?_)
  · obtain ⟨y, Hb, _, d, _⟩ := h
    rw [d.length]
    exact hl y
  · obtain ⟨y, Hb, sb, d, hp, h1, h2⟩ := h
    obtain ⟨t, ht, kt⟩ := (hb cdv A outer s H E hr).ex
    refine ⟨t, ht, kt H Hb _ _ Hb H _ _ (start_rep sb d) (run y E hp) ⟨fun ρ σ Hb' H' z R => ?_, fun _ _ _ _ z _ => z.elim, fun _ _ _ _ z _ => z.elim, h1, h2⟩⟩
    exact h1 _ z .non Hb' H' R.grow DV.mk_non

/-! ### built-in calls -/
abbrev RC := List V → Hp → VK → Prop
/-- a call upon data -/
def CalD (r : RC) (rd : List D → KD → Prop) : Prop := ∀ Hb H (ds : List D) (vs : List V) (K : KD) (Q : VK), Same Hb H → DVs Hb ds vs → rd ds K → (∀ r, K r → RetOk H Hb Q r) → r vs H Q
def pCB (rd : List D → KD → Prop) (pa : TAd) : TEd := fun ρ K J => pa ρ (fun ds => rd ds K) J
theorem de_callB {id : String} {r : RC} {rd : List D → KD → Prop} {x : Str} {p pos : Pos} {e : Expr} {es : List Expr} {pa : TAd} (hc : CallR X (.builtin id) r) (hd : CalD r rd) (hm : X.mg x = none) (hv : bootBuiltins x = some (.builtin id)) (ha : PAd X E (e :: es) pa) (hg : Gl X x := by rfl)
    (hn : x ≠ "__name__" := by decide) (hdb : (x == ("__debug__" : Str)) = false := by decide) (hst : starEach (e :: es) X.env = (false, eval e X.env) :: starEach es X.env := by rfl) (hpl : (backTo pos (starEach es X.env)).any (·.1) = false := by rfl) : PEd X E (.Call (.Name x p) (e :: es) [] pos) (pCB rd pa) := by
  obtain ⟨ta, h1, k1⟩ := ha.ex
  refine ⟨_, pe_callB hc hg hm hv h1 hn hdb hst hpl, fun H0 B0 ρ σ Hb H K J Q R p kq kx => ?_⟩
  refine k1 _ _ _ _ _ _ _ J _ R p (fun ds vs Hb1 H1 kd g1 d1 => ?_) kx
  exact hd Hb1 H1 ds vs K Q g1.sub d1 kd fun r kr => (kq r kr).back g1
theorem de_callTy {T : String} {r : RC} {rd : List D → KD → Prop} {x : Str} {p pos : Pos} {e : Expr} {es : List Expr} {pa : TAd} (hc : CallR X (.type T) r) (hd : CalD r rd) (hm : X.mg x = none) (hv : bootBuiltins x = some (.type T)) (ha : PAd X E (e :: es) pa) (hg : Gl X x := by rfl)
    (hn : x ≠ "__name__" := by decide) (hdb : (x == ("__debug__" : Str)) = false := by decide) (hst : starEach (e :: es) X.env = (false, eval e X.env) :: starEach es X.env := by rfl) (hpl : (backTo pos (starEach es X.env)).any (·.1) = false := by rfl) : PEd X E (.Call (.Name x p) (e :: es) [] pos) (pCB rd pa) := by
  obtain ⟨ta, h1, k1⟩ := ha.ex
  refine ⟨_, pe_callTy hc hg hm hv h1 hn hdb hst hpl, fun H0 B0 ρ σ Hb H K J Q R p kq kx => ?_⟩
  refine k1 _ _ _ _ _ _ _ J _ R p (fun ds vs Hb1 H1 kd g1 d1 => ?_) kx
  exact hd Hb1 H1 ds vs K Q g1.sub d1 kd fun r kr => (kq r kr).back g1
end
end Pu
/-! Pu4: built-ins, statements, loops, comprehensions. -/
namespace Pu
open PySem PySem.Spec PyProof.Rows L2
section
variable {X : Cx} {E : XK}

/-! ### built-ins of one borrowed argument -/
def CalB (r : RC) (rd : D → KD → Prop) : Prop := ∀ Hb H (d : D) (v : V) (K : KD) (Q : VK), Same Hb H → DB Hb H d v → rd d K → (∀ r, K r → RetOk H Hb Q r) → r [v] H Q
def pB1 (rd : D → KD → Prop) (pa : TEd) : TEd := fun ρ K J => pa ρ (fun a => rd a.d K) J
theorem de_b1 {id : String} {r : RC} {rd : D → KD → Prop} {x : Str} {p pos : Pos} {e : Expr} {pa : TEd} (hc : CallR X (.builtin id) r) (hd : CalB r rd) (hm : X.mg x = none) (hv : bootBuiltins x = some (.builtin id)) (ha : PBd X E e pa) (hg : Gl X x := by rfl)
    (hn : x ≠ "__name__" := by decide) (hdb : (x == ("__debug__" : Str)) = false := by decide) (hst : starEach (e :: []) X.env = (false, eval e X.env) :: starEach [] X.env := by rfl) (hpl : (backTo pos (starEach [] X.env)).any (·.1) = false := by rfl) : PEd X E (.Call (.Name x p) [e] [] pos) (pB1 rd pa) := by
  obtain ⟨ta, h1, k1⟩ := ha.ex
  refine ⟨_, pe_callB hc hg hm hv (pa_cons h1 pa_nil hst) hn hdb hst hpl, fun H0 B0 ρ σ Hb H K J Q R p kq kx => ?_⟩
  refine k1 _ _ _ _ _ _ _ J _ R p (fun a v Hb1 H1 ka g1 d1 => ?_) kx
  exact hd Hb1 H1 _ v K Q g1.sub d1 ka fun r kr => (kq r kr).back g1
theorem de_b1Ty {T : String} {r : RC} {rd : D → KD → Prop} {x : Str} {p pos : Pos} {e : Expr} {pa : TEd} (hc : CallR X (.type T) r) (hd : CalB r rd) (hm : X.mg x = none) (hv : bootBuiltins x = some (.type T)) (ha : PBd X E e pa) (hg : Gl X x := by rfl)
    (hn : x ≠ "__name__" := by decide) (hdb : (x == ("__debug__" : Str)) = false := by decide) (hst : starEach (e :: []) X.env = (false, eval e X.env) :: starEach [] X.env := by rfl) (hpl : (backTo pos (starEach [] X.env)).any (·.1) = false := by rfl) : PEd X E (.Call (.Name x p) [e] [] pos) (pB1 rd pa) := by
  obtain ⟨ta, h1, k1⟩ := ha.ex
  refine ⟨_, pe_callTy hc hg hm hv (pa_cons h1 pa_nil hst) hn hdb hst hpl, fun H0 B0 ρ σ Hb H K J Q R p kq kx => ?_⟩
  refine k1 _ _ _ _ _ _ _ J _ R p (fun a v Hb1 H1 ka g1 d1 => ?_) kx
  exact hd Hb1 H1 _ v K Q g1.sub d1 ka fun r kr => (kq r kr).back g1
def dLen : D → KD → Prop := fun x K => match x with
  | .lst ds => K (.ro (.int (ds.length : Nat)))
  | .tup ds => K (.ro (.int (ds.length : Nat)))
  | .scr ns => K (.ro (.int (ns.length : Nat)))
  | _ => False
theorem cb_len {K0 : PySem.W.Frag} : CalB (fun xs H Q => ∃ p ys, xs = [.ref p] ∧ (SqL K0 H p ys ∨ SqT K0 H p ys) ∧ Q (.int ys.length) H) dLen := by
  intro Hb H x v K Q s dx k kq
  unfold dLen at k
  split at k
  · obtain ⟨p, xs, e1, e2, e3⟩ := dx.list s
    refine ⟨p, xs, by rw [e1], .inl (SqL.of e2), ?_⟩
    rw [e3.length]
    exact kq _ k _ Hb H (Grow.refl s) DV.mk_int
  · obtain ⟨p, xs, e1, e2, e3⟩ := dx.tuple s
    refine ⟨p, xs, by rw [e1], .inr (SqT.of e2), ?_⟩
    rw [e3.length]
    exact kq _ k _ Hb H (Grow.refl s) DV.mk_int
  · obtain ⟨p, o, e1, e2⟩ := dx.scr s
    refine ⟨p, _, by rw [e1], .inl (sqF e2), ?_⟩
    rw [List.length_map]
    exact kq _ k _ Hb H (Grow.refl s) DV.mk_int
  · exact k.elim
/-- list(x) -/
def dList : D → KD → Prop := fun x K => match x with
  | .lst ds => K (.own ds)
  | .tup ds => K (.own ds)
  | _ => False
theorem cb_list {K0 : PySem.W.Frag} : CalB (fun xs H Q => ∃ p ys, xs = [.ref p] ∧ (SqL K0 H p ys ∨ SqT K0 H p ys) ∧ ∀ l, H l = none → Q (.ref l) (upd H l (.lst ys))) dList := by
  intro Hb H x v K Q s dx k kq
  unfold dList at k
  split at k
  · obtain ⟨p, xs, e1, e2, e3⟩ := dx.list s
    exact ⟨p, xs, by rw [e1], .inl (SqL.of e2), fun l hl => kq _ k l _ Hb _ (Grow.own s hl) upd_same hl (same_none s hl) e3⟩
  · obtain ⟨p, xs, e1, e2, e3⟩ := dx.tuple s
    exact ⟨p, xs, by rw [e1], .inr (SqT.of e2), fun l hl => kq _ k l _ Hb _ (Grow.own s hl) upd_same hl (same_none s hl) e3⟩
  · exact k.elim
/-- tuple(x), x a list -/
def dTuple : D → KD → Prop := fun x K => match x with
  | .lst ds => K (.ro (.tup ds))
  | _ => False
theorem cb_tuple {K0 : PySem.W.Frag} : CalB (fun xs H Q => ∃ p ys, xs = [.ref p] ∧ ((SqL K0 H p ys ∧ ∀ l, H l = none → Q (.ref l) (upd H l (.tup ys))) ∨ (SqT K0 H p ys ∧ Q (.ref p) H))) dTuple := by
  intro Hb H x v K Q s dx k kq
  unfold dTuple at k
  split at k
  · obtain ⟨p, xs, e1, e2, e3⟩ := dx.list s
    refine ⟨p, xs, by rw [e1], .inl ⟨SqL.of e2, fun l hl => ?_⟩⟩
    have g := Grow.ro (o := .tup xs) s hl
    exact kq _ k _ _ _ g (DV.mk_tup upd_same (e3.mono g.bot))
  · exact k.elim
def dSum : D → KD → Prop := fun x K => match x with
  | .lst ds => ∃ ns : List Int, ds = ns.map D.int ∧ K (.ro (.int ns.sum))
  | _ => False
theorem cb_sum {K0 : PySem.W.Frag} : CalB (rSum K0) dSum := by
  intro Hb H x v K Q s dx k kq
  unfold dSum at k
  split at k
  · obtain ⟨ns, rfl, k⟩ := k
    obtain ⟨p, xs, e1, e2, e3⟩ := dx.list s
    have ex := e3.ints
    subst ex
    exact ⟨p, ns, by rw [e1], SqL.of e2, kq _ k _ Hb H (Grow.refl s) DV.mk_int⟩
  · exact k.elim
def dMax : D → KD → Prop := fun x K => match x with
  | .lst ds => ∃ ns : List Int, ds = ns.map D.int ∧ 0 < ns.length ∧ ∀ m, m ∈ ns → (∀ y, y ∈ ns → y ≤ m) → K (.ro (.int m))
  | _ => False
theorem cb_max {K0 : PySem.W.Frag} : CalB (rMax K0) dMax := by
  intro Hb H x v K Q s dx k kq
  unfold dMax at k
  split at k
  · obtain ⟨ns, rfl, h0, k⟩ := k
    obtain ⟨p, xs, e1, e2, e3⟩ := dx.list s
    have ex := e3.ints
    subst ex
    exact ⟨p, ns, by rw [e1], SqL.of e2, h0, fun m h1 h2 => kq _ (k m h1 h2) _ Hb H (Grow.refl s) DV.mk_int⟩
  · exact k.elim
/-! ### built-ins of plain arguments -/
def dInt1 : List D → KD → Prop := fun ds K => match ds with
  | [.int i] => K (.ro (.int i))
  | _ => False
theorem vals1 {H : Hp} {d : D} {vs : List V} (h : DVs H [d] vs) : ∃ v, vs = [v] ∧ DV H d v := by
  obtain ⟨x, r, rfl, h1, h2⟩ := h.of_cons
  rw [h2.of_nil]
  exact ⟨x, rfl, h1⟩
theorem vals2' {H : Hp} {d e : D} {vs : List V} (h : DVs H [d, e] vs) : ∃ v u, vs = [v, u] ∧ DV H d v ∧ DV H e u := by
  obtain ⟨x, r, rfl, h1, h2⟩ := h.of_cons
  obtain ⟨u, rfl, h3⟩ := vals1 h2
  exact ⟨x, u, rfl, h1, h3⟩
theorem cd_int1 : CalD (fun xs H Q => (∃ i, xs = [.int i] ∧ Q (.int i) H) ∨ ∃ k, xs = [.bl k] ∧ Q (.int (if k then 1 else 0)) H) dInt1 := by
  intro Hb H ds vs K Q s h k kq
  unfold dInt1 at k
  split at k
  · obtain ⟨v, rfl, h1⟩ := vals1 h
    rw [h1.int_]
    exact .inl ⟨_, rfl, kq _ k _ Hb H (Grow.refl s) DV.mk_int⟩
  · exact k.elim
def dMin2 : List D → KD → Prop := fun ds K => match ds with
  | [.int i, .int j] => K (.ro (.int (if j < i then j else i)))
  | _ => False
theorem cd_min2 : CalD (fun xs H Q => ∃ i j, xs = [.int i, .int j] ∧ Q (.int (if j < i then j else i)) H) dMin2 := by
  intro Hb H ds vs K Q s h k kq
  unfold dMin2 at k
  split at k
  · obtain ⟨v, u, rfl, h1, h2⟩ := vals2' h
    rw [h1.int_, h2.int_]
    exact ⟨_, _, rfl, kq _ k _ Hb H (Grow.refl s) DV.mk_int⟩
  · exact k.elim
def dMax2 : List D → KD → Prop := fun ds K => match ds with
  | [.int i, .int j] => K (.ro (.int (if j > i then j else i)))
  | _ => False
theorem cd_max2 : CalD (fun xs H Q => ∃ i j, xs = [.int i, .int j] ∧ Q (.int (if j > i then j else i)) H) dMax2 := by
  intro Hb H ds vs K Q s h k kq
  unfold dMax2 at k
  split at k
  · obtain ⟨v, u, rfl, h1, h2⟩ := vals2' h
    rw [h1.int_, h2.int_]
    exact ⟨_, _, rfl, kq _ k _ Hb H (Grow.refl s) DV.mk_int⟩
  · exact k.elim

/-! ### isinstance -/
def D.tyN : D → Option String
  | .non => some "NoneType"
  | .bl _ => some "bool"
  | .int _ => some "int"
  | .str _ => some "str"
  | .tup _ => some "tuple"
  | .lst _ => some "list"
  | _ => none
theorem DV.ty {K0 : PySem.W.Frag} {Hb H : Hp} {d : D} {v : V} {a : String} (s : Same Hb H) (h : DV Hb d v) (e : d.tyN = some a) : TyX K0 H v (.type a) := by
  cases d with
  | non => cases e; rw [h.non_]; exact .base .non
  | bl b => cases e; rw [h.bl_]; exact .base (.bl b)
  | int i => cases e; rw [h.int_]; exact .base (.int i)
  | str x => cases e; rw [h.str_]; exact .base (.str x)
  | tup ds => cases e; obtain ⟨p, xs, e1, e2, _⟩ := h.tup_; rw [e1]; exact .base (.tup (s p _ e2))
  | lst ds => cases e; obtain ⟨p, xs, e1, e2, _⟩ := h.lst_; rw [e1]; exact .base (.lst (s p _ e2))
  | ins C fs ds => cases e
  | adr a => cases e
  | scr ns => cases e
def D.isInt : D → Bool
  | .int _ => true
  | .bl _ => true
  | _ => false
def D.isBool : D → Bool
  | .bl _ => true
  | _ => false
def D.isStr : D → Bool
  | .str _ => true
  | _ => false
def D.isList : D → Bool
  | .lst _ => true
  | _ => false
def D.isTup : D → Bool
  | .tup _ => true
  | _ => false
def IsT (T : String) (f : D → Bool) : Prop := ∀ d a, d.tyN = some a → kitB a T = some (f d)
theorem isT_int : IsT "int" D.isInt := fun d a e => by
  cases d <;> cases e <;> first | (show kitB _ _ = some true; decide +kernel) | (show kitB _ _ = some false; decide +kernel)
theorem isT_bool : IsT "bool" D.isBool := fun d a e => by
  cases d <;> cases e <;> first | (show kitB _ _ = some true; decide +kernel) | (show kitB _ _ = some false; decide +kernel)
theorem isT_str : IsT "str" D.isStr := fun d a e => by
  cases d <;> cases e <;> first | (show kitB _ _ = some true; decide +kernel) | (show kitB _ _ = some false; decide +kernel)
theorem isT_list : IsT "list" D.isList := fun d a e => by
  cases d <;> cases e <;> first | (show kitB _ _ = some true; decide +kernel) | (show kitB _ _ = some false; decide +kernel)
theorem isT_tuple : IsT "tuple" D.isTup := fun d a e => by
  cases d <;> cases e <;> first | (show kitB _ _ = some true; decide +kernel) | (show kitB _ _ = some false; decide +kernel)
def pIsi (f : D → Bool) (pa : TEd) : TEd := fun ρ K J => pa ρ (fun a => a.d.tyN.isSome = true ∧ K (.ro (.bl (f a.d)))) J
theorem de_isi {a : Expr} {T : String} {f : D → Bool} {x : Str} {p q pos : Pos} {pa : TEd} (hf : IsT T f) (hm : X.mg "isinstance" = none) (hmT : X.mg x = none) (hvT : bootBuiltins x = some (.type T)) (ha : PEd X E a pa) (hg : Gl X "isinstance" := by rfl) (hgT : Gl X x := by rfl)
    (hnT : x ≠ "__name__" := by decide) (hdT : (x == ("__debug__" : Str)) = false := by decide)
    (hst : starEach (a :: [.Name x q]) X.env = (false, eval a X.env) :: starEach [.Name x q] X.env := by rfl) (hst2 : starEach [.Name x q] X.env = (false, eval (.Name x q) X.env) :: starEach [] X.env := by rfl) (hpl : (backTo pos (starEach [.Name x q] X.env)).any (·.1) = false := by rfl) :
    PEd X E (.Call (.Name "isinstance" p) [a, .Name x q] [] pos) (pIsi f pa) := by
  obtain ⟨ta, h1, k1⟩ := ha.ex
  have hT : PE X (.Name x q) (tC (.ty T)) := pe_bltn hgT hmT hvT (show RelV (.ty T) (.type T) from rfl) hnT hdT
  refine ⟨_, pe_callB call_isi hg hm (by decide +kernel) (pa_cons h1 (pa_cons hT pa_nil hst2) hst) (by decide) (by decide) hst hpl, fun H0 B0 ρ σ Hb H K J Q R p kq kx => ?_⟩
  refine k1 _ _ _ _ _ _ _ J _ R p (fun a ka => RetOk.data fun v Hb1 H1 g1 d1 => ?_) kx
  obtain ⟨ka, kb⟩ := ka
  cases e : a.d.tyN with
  | none => rw [e] at ka; cases ka
  | some t => exact ⟨v, .ty T, .type t, .type T, f a.d, rfl, .ty T, d1.ty g1.sub e, kit_ty (hf _ _ e), kq _ kb _ Hb1 H1 g1 DV.mk_bl⟩
/-- isinstance(x, (T1, T2)) -/
theorem de_isi2 {a : Expr} {T1 T2 : String} {f1 f2 : D → Bool} {x1 x2 : Str} {n : Nat} {p q1 q2 tp pos : Pos} {pa : TEd} (hf1 : IsT T1 f1) (hf2 : IsT T2 f2) (hm : X.mg "isinstance" = none) (hm1 : X.mg x1 = none) (hv1 : bootBuiltins x1 = some (.type T1)) (hm2 : X.mg x2 = none) (hv2 : bootBuiltins x2 = some (.type T2))
    (ha : PEd X E a pa) (hg : Gl X "isinstance" := by rfl) (hg1 : Gl X x1 := by rfl) (hg2 : Gl X x2 := by rfl)
    (hn1 : x1 ≠ "__name__" := by decide) (hd1 : (x1 == ("__debug__" : Str)) = false := by decide) (hn2 : x2 ≠ "__name__" := by decide) (hd2 : (x2 == ("__debug__" : Str)) = false := by decide)
    (hs1 : starEach [.Name x1 q1, .Name x2 q2] X.env = (false, eval (.Name x1 q1) X.env) :: starEach [.Name x2 q2] X.env := by rfl) (hs2 : starEach [.Name x2 q2] X.env = (false, eval (.Name x2 q2) X.env) :: starEach [] X.env := by rfl)
    (hst : starEach (a :: [.Tuple [.Name x1 q1, .Name x2 q2] n tp]) X.env = (false, eval a X.env) :: starEach [.Tuple [.Name x1 q1, .Name x2 q2] n tp] X.env := by rfl)
    (hst2 : starEach [.Tuple [.Name x1 q1, .Name x2 q2] n tp] X.env = (false, eval (.Tuple [.Name x1 q1, .Name x2 q2] n tp) X.env) :: starEach [] X.env := by rfl) (hpl : (backTo pos (starEach [.Tuple [.Name x1 q1, .Name x2 q2] n tp] X.env)).any (·.1) = false := by rfl) :
    PEd X E (.Call (.Name "isinstance" p) [a, .Tuple [.Name x1 q1, .Name x2 q2] n tp] [] pos) (pIsi (fun d => f1 d || f2 d) pa) := by
  obtain ⟨ta, h1, k1⟩ := ha.ex
  have hT1 : PE X (.Name x1 q1) (tC (.ty T1)) := pe_bltn hg1 hm1 hv1 (show RelV (.ty T1) (.type T1) from rfl) hn1 hd1
  have hT2 : PE X (.Name x2 q2) (tC (.ty T2)) := pe_bltn hg2 hm2 hv2 (show RelV (.ty T2) (.type T2) from rfl) hn2 hd2
  refine ⟨_, pe_callB call_isiT hg hm (by decide +kernel) (pa_cons h1 (pa_cons (pe_tup (pa_cons hT1 (pa_cons hT2 pa_nil hs2) hs1)) pa_nil hst2) hst) (by decide) (by decide) hst hpl, fun H0 B0 ρ σ Hb H K J Q R p kq kx => ?_⟩
  refine k1 _ _ _ _ _ _ _ J _ R p (fun a ka => RetOk.data fun v Hb1 H1 g1 d1 => ?_) kx
  obtain ⟨ka, kb⟩ := ka
  refine ⟨by show 2 ≤ sizeLine; rw [sizeLine_eq]; decide, fun t ht => ?_⟩
  have g2 : Grow H1 Hb1 (upd H1 t (.tup [.ty T1, .ty T2])) Hb1 := Grow.own g1.sub ht
  cases e : a.d.tyN with
  | none => rw [e] at ka; cases ka
  | some b =>
    refine ⟨v, t, [.ty T1, .ty T2], .type b, [.type T1, .type T2], f1 a.d || f2 a.d, rfl, upd_same, .cons (.ty T1) (.cons (.ty T2) .nil), d1.ty g2.sub e, ?_, kq _ kb _ Hb1 _ (g1.trans g2) DV.mk_bl⟩
    refine kitAny_cons (kit_ty (hf1 _ _ e)) (fun z => ?_) fun z => by rw [z]; rfl
    rw [z, Bool.false_or]
    exact kitAny_cons (kit_ty (hf2 _ _ e)) (fun z2 => by rw [z2]; exact kitAny_nil) fun z2 => z2

/-! ### fields -/
def pFld (C : Addr) (f : Str) (pa : TEd) : TEd := fun ρ K J => pa ρ (fun a => match a.d with
  | .ins C' fs ds => C' = C ∧ (match (fs.zip ds).lookup f with
    | some d => K (.ro d)
    | none => False)
  | _ => False) J
theorem zip_look {H : Hp} : ∀ {fs : List Str} {ds : List D} {xs : List V} {f : Str} {d : D}, DVs H ds xs → (fs.zip ds).lookup f = some d → ∃ x, (fs.zip xs).lookup f = some x ∧ DV H d x
  | [], _, _, _, _, _, e => by simp at e
  | g :: fs, [], _, _, _, _, e => by simp at e
  | g :: fs, d :: ds, _, f, d', h, e => by
    obtain ⟨x, r, rfl, h1, h2⟩ := h.of_cons
    rw [List.zip_cons_cons, List.lookup_cons] at e ⊢
    cases q : (f == g) with
    | true =>
      rw [q] at e
      exact ⟨x, rfl, by rw [← Option.some.inj e]; exact h1⟩
    | false =>
      rw [q] at e
      exact zip_look h2 e
theorem de_fld {e : Expr} {f : Str} {C : Addr} {pos : Pos} {pa : TEd} (hC : Cls X.K C) (hn : NoAttr X.K C f) (ha : PEd X E e pa) (hb : attributeBase e f X.env (eval e X.env) = eval e X.env := by rfl) : PEd X E (.Attribute e f pos) (pFld C f pa) := by
  obtain ⟨ta, h1, k1⟩ := ha.ex
  refine ⟨_, pe_fld h1 hb, fun H0 B0 ρ σ Hb H K J Q R p kq kx => ?_⟩
  refine k1 _ _ _ _ _ _ _ J _ R p (fun a ka => RetOk.data fun v Hb1 H1 g1 d1 => ?_) kx
  split at ka
  · rename_i C' fs ds e
    rw [e] at d1
    obtain ⟨rfl, ka⟩ := ka
    split at ka
    · rename_i d e2
      obtain ⟨p, dx, xs, e3, e4, e5⟩ := d1.ins_
      obtain ⟨x, e6, e7⟩ := zip_look e5 e2
      exact ⟨p, C', dx, _, x, e3, g1.sub p _ e4, hC, hn, e6, kq _ ka x Hb1 H1 g1 e7⟩
    · exact ka.elim
  · exact ka.elim

/-! ### statements -/
theorem SatZ.nx_of {H0 B0 : Hp} {Z Z' : EndsD} {Dn : Ends} {nx : L2.St → Hp → Prop} (h : SatZ H0 B0 E Z Dn) (e1 : Z'.bk = Z.bk) (e2 : Z'.ct = Z.ct) (e3 : Z'.rt = Z.rt) (e4 : Z'.ex = Z.ex) (k : ∀ ρ σ Hb H, Z'.nx ρ → Rep H0 B0 ρ σ Hb H → nx σ H) : SatZ H0 B0 E Z' { Dn with nx := nx } :=
  ⟨k, by rw [e1]; exact h.bk, by rw [e2]; exact h.ct, by rw [e3]; exact h.rt, by rw [e4]; exact h.ex⟩
def pNext : TSd := fun Z ρ => Z.nx ρ
def pSeq (p q : TSd) : TSd := fun Z ρ => p { Z with nx := q Z } ρ
theorem dss_nil : PSsd X E [] pNext := ⟨_, pss_nil, fun H0 B0 ρ σ Hb H Z Dn R p z => z.nx ρ σ Hb H p R⟩
theorem dss_cons {st : Stmt} {rest : List Stmt} {p q : TSd} (h1 : PSd X E st p) (h2 : PSsd X E rest q) : PSsd X E (st :: rest) (pSeq p q) := by
  obtain ⟨t, a1, b1⟩ := h1.ex
  obtain ⟨u, a2, b2⟩ := h2.ex
  exact ⟨_, pss_cons a1 a2, fun H0 B0 ρ σ Hb H Z Dn R p z => b1 _ _ _ _ _ _ { Z with nx := q Z } { Dn with nx := u Dn } R p (z.nx_of rfl rfl rfl rfl fun ρ' σ' Hb' H' w R' => b2 _ _ _ _ _ _ Z Dn R' w z)⟩
theorem dss_one {st : Stmt} {p : TSd} (h1 : PSd X E st p) : PSsd X E [st] p := by
  obtain ⟨t, a1, b1⟩ := h1.ex
  exact ⟨_, pss_one a1, b1⟩
/-- an own list is only read from here on -/
def pFrz (i : Nat) (p : TSd) : TSd := fun Z ρ => match ρ[i]? with
  | some (some (.own ds)) => p Z (ρ.set i (some (.ro (.lst ds))))
  | _ => p Z ρ
theorem dss_frz (i : Nat) {sts : List Stmt} {p : TSd} (h : PSsd X E sts p) : PSsd X E sts (pFrz i p) := by
  obtain ⟨t, a1, b1⟩ := h.ex
  refine ⟨t, a1, fun H0 B0 ρ σ Hb H Z Dn R p z => ?_⟩
  unfold pFrz at p
  split at p
  · rename_i ds e
    obtain ⟨Hb', R', _⟩ := R.freeze e
    exact b1 _ _ _ _ _ _ Z Dn R' p z
  · exact b1 _ _ _ _ _ _ Z Dn R p z
def pAsg (i : Nat) (pe : TEd) : TSd := fun Z ρ => pe ρ (fun r => Z.nx (ρ.set i (some r.s))) Z.ex
theorem asg_run {te : TE} {pe : TEd} {i : Nat} (k1 : ∀ H0 B0 ρ σ Hb H (K : KD) (J : KX) (Q : VK), Rep H0 B0 ρ σ Hb H → pe ρ K J → (∀ r, K r → RetOk H Hb Q r) → (∀ x, J x → ExOk H0 B0 E x) → te σ H Q) :
    ∀ H0 B0 ρ σ Hb H (Z : EndsD) (Dn : Ends), Rep H0 B0 ρ σ Hb H → pAsg i pe Z ρ → SatZ H0 B0 E Z Dn → tAsg te (gName i) Dn σ H := by
  intro H0 B0 ρ σ Hb H Z Dn R p z
  refine k1 _ _ _ _ _ _ _ Z.ex _ R p (fun r kr => ?_) z.ex
  cases r with
  | ro d => exact fun v Hb' H' g dv => z.nx _ _ Hb' H' kr ((R.more g).put dv)
  | own ds => exact fun p xs Hb' H' g e n nb dv => z.nx _ _ Hb' H' kr ((R.more g).putOwn e (same_none R.grow.top n) nb dv fun j t u _ h1 h2 => R.fresh_own n j t u h1 h2)
  | tab p ps rows => exact fun Hb' H' g K => z.nx _ _ Hb' H' kr ((R.more g).putTab (K.base fun a z => same_none R.grow.top z) fun j t u a _ h1 h2 ha => K.fresh fun hx => R.fresh_own hx j t u h1 h2 ha)
theorem ds_set (i : Nat) {x : Str} {e : Expr} {pe : TEd} {pos pos' : Pos} (hN : X.N.Nodup) (he : PEd X E e pe) (hi : X.N[i]? = some x := by rfl) (hx : Loc X.env.scope x := by first | exact .inl rfl | exact .inr rfl) (hs : swapsWith e (some (.Name x pos')) pos.line X.env = pure false := by rfl)
    (hf : X.fn x = true ∨ X.env.scope.names.lookup x = some .local := by first | exact .inl rfl | exact .inr rfl) : PSd X E (.Assign [.Name x pos'] e pos) (pAsg i pe) := by
  obtain ⟨te, h1, k1⟩ := he.ex
  exact ⟨_, ps_set hN hi hx h1 hs hf, asg_run k1⟩
/-! targets -/
def gN (i : Nat) : TGd := fun d ρ K => K (ρ.set i (some (.ro d)))
theorem dg_name (i : Nat) {x : Str} {pos : Pos} (hN : X.N.Nodup) (hi : X.N[i]? = some x := by rfl) (hx : Loc X.env.scope x := by first | exact .inl rfl | exact .inr rfl) (hf : X.fn x = true ∨ X.env.scope.names.lookup x = some .local := by first | exact .inl rfl | exact .inr rfl) : PGd X (.Name x pos) (gN i) :=
  ⟨_, pg_name hN hi hx hf, fun H0 B0 ρ σ Hb H d v K Q R dv p kq => kq _ _ Hb H p (R.put dv) (Grow.refl R.sub)⟩
abbrev TGsd := List D → Ro → (Ro → Prop) → Prop
structure PGsd (X : Cx) (ts : List Expr) (p : TGsd) : Prop where
  ex : ∃ g, PGs X ts g ∧ ∀ H0 B0 ρ σ Hb H ds vs (K : Ro → Prop) (Q : L2.St → Hp → Prop), Rep H0 B0 ρ σ Hb H → DVs Hb ds vs → p ds ρ K → (∀ ρ' σ' Hb' H', K ρ' → Rep H0 B0 ρ' σ' Hb' H' → Grow H Hb H' Hb' → Q σ' H') → g vs σ H Q
def gsNil : TGsd := fun ds ρ K => match ds with
  | [] => K ρ
  | _ => False
def gsCons (p : TGd) (q : TGsd) : TGsd := fun ds ρ K => match ds with
  | d :: r => p d ρ fun ρ' => q r ρ' K
  | _ => False
theorem dgs_nil : PGsd X [] gsNil := ⟨_, pgs_nil, fun H0 B0 ρ σ Hb H ds vs K Q R dv p kq => by
  cases ds with
  | nil => exact ⟨dv.of_nil, kq _ _ Hb H p R (Grow.refl R.sub)⟩
  | cons d r => exact p.elim⟩
theorem dgs_cons {e : Expr} {es : List Expr} {p : TGd} {q : TGsd} (h1 : PGd X e p) (h2 : PGsd X es q) (hs : (assignEach (e :: es) X.env).map (·.2) = assign e X.env :: (assignEach es X.env).map (·.2) := by rfl) : PGsd X (e :: es) (gsCons p q) := by
  obtain ⟨g, a1, b1⟩ := h1.ex
  obtain ⟨u, a2, b2⟩ := h2.ex
  refine ⟨_, pgs_cons a1 a2 hs, fun H0 B0 ρ σ Hb H ds vs K Q R dv p kq => ?_⟩
  cases ds with
  | nil => exact p.elim
  | cons d r =>
    obtain ⟨x, xs, rfl, d1, d2⟩ := dv.of_cons
    refine ⟨x, xs, rfl, b1 _ _ _ _ _ _ d x _ _ R d1 p fun ρ' σ' Hb' H' k R' g' => ?_⟩
    exact b2 _ _ _ _ _ _ r xs K Q R' (d2.mono g'.bot) k fun ρ2 σ2 Hb2 H2 k2 R2 g2 => kq _ _ _ _ k2 R2 (g'.trans g2)
def gT (q : TGsd) : TGd := fun d ρ K => match d with
  | .tup ds => q ds ρ K
  | _ => False
theorem dg_tup {es : List Expr} {k n : Nat} {q : TGsd} {pos : Pos} (hc : X.calm = true) (h : PGsd X es q) (hl : ∀ ds ρ K, q ds ρ K → ds.length = n) (hn : (assignEach es X.env).length = n := by rfl) (hst : (assignEach es X.env).findIdx? (·.1) = none := by rfl) : PGd X (.Tuple es k pos) (gT q) := by
  obtain ⟨g, a1, b1⟩ := h.ex
  refine ⟨_, pg_tup hc a1 hn hst, fun H0 B0 ρ σ Hb H d v K Q R dv p kq => ?_⟩
  unfold gT at p
  split at p
  · rename_i ds
    obtain ⟨a, xs, e1, e2, e3⟩ := dv.tup_
    exact ⟨a, xs, e1, SqT.of (R.sub a _ e2), by rw [e3.length]; exact hl _ _ _ p, b1 _ _ _ _ _ _ ds xs K Q R e3 p kq⟩
  · exact p.elim
theorem gs_nil_len {ds : List D} {ρ : Ro} {K : Ro → Prop} (h : gsNil ds ρ K) : ds.length = 0 := by
  unfold gsNil at h
  cases ds with
  | nil => rfl
  | cons => exact h.elim
theorem gs_len {i n : Nat} {q : TGsd} (hq : ∀ ds ρ K, q ds ρ K → ds.length = n) : ∀ ds ρ K, gsCons (gN i) q ds ρ K → ds.length = n + 1 := fun ds ρ K h => by
  unfold gsCons at h
  cases ds with
  | nil => exact h.elim
  | cons d r => exact congrArg (· + 1) (hq _ _ _ h)
def pAsgG (pe : TEd) (pg : TGd) : TSd := fun Z ρ => pe ρ (fun r => pg r.d ρ Z.nx) Z.ex
theorem ds_asg {tg e : Expr} {pe : TEd} {pg : TGd} {pos : Pos} (he : PEd X E e pe) (hg : PGd X tg pg) (hs : swapsWithSole [tg] e pos.line X.env = pure false := by rfl) (hw : swappedStores [tg] e X.env = pure none := by rfl) (h1 : (assignEach [tg] X.env).map (·.2) = [assign tg X.env] := by rfl) : PSd X E (.Assign [tg] e pos) (pAsgG pe pg) := by
  obtain ⟨te, a1, k1⟩ := he.ex
  obtain ⟨g, a2, k2⟩ := hg.ex
  refine ⟨_, ps_asg a1 a2 hs hw h1, fun H0 B0 ρ σ Hb H Z Dn R p z => ?_⟩
  exact k1 _ _ _ _ _ _ _ Z.ex _ R p (fun r kr => RetOk.data fun v Hb' H' g' dv => k2 _ _ _ _ _ _ _ v _ _ (R.more g') dv kr fun ρ' σ' Hb2 H2 k R' _ => z.nx ρ' σ' Hb2 H2 k R') z.ex
/-- xs[i] = e, xs an own list in slot j -/
def pSetI (j : Nat) (pi pe : TEd) : TSd := fun Z ρ => match ρ[j]? with
  | some (some (.own ds)) => pe ρ (fun r => pi ρ (fun k => match k.d with
    | .int i => (match ixN ds.length i with
      | some n => Z.nx (ρ.set j (some (.own (ds.set n r.d))))
      | none => False)
    | _ => False) Z.ex) Z.ex
  | _ => False
theorem ds_setI (j : Nat) {x : Str} {i e : Expr} {pi pe : TEd} {p1 pos pos2 : Pos} (he : PEd X E e pe) (hi : PEd X E i pi) (hN : X.N[j]? = some x := by rfl) (hv : Vis X.env.scope x := by first | exact .inl rfl | exact .inr (.inl rfl) | exact .inr (.inr rfl)) (hd : (x == ("__debug__" : Str)) = false := by decide) (hcd : (x == ("__classdict__" : Str)) = false := by decide)
    (ha : ∀ v, assign (.Subscript (.Name x p1) i pos) X.env v = (do
      let ov ← holding [v] (eval (.Name x p1) X.env)
      let iv ← holding [v, ov] (eval i X.env)
      standAt pos
      holding [v, ov, iv] (setItem ov iv v)
      release [v, ov, iv] []) := by intro _; rfl)
    (hs : swapsWithSole [(.Subscript (.Name x p1) i pos : Expr)] e pos2.line X.env = pure false := by rfl) (hw : swappedStores [(.Subscript (.Name x p1) i pos : Expr)] e X.env = pure none := by rfl) (h1 : (assignEach [(.Subscript (.Name x p1) i pos : Expr)] X.env).map (·.2) = [assign (.Subscript (.Name x p1) i pos) X.env] := by rfl) :
    PSd X E (.Assign [.Subscript (.Name x p1) i pos] e pos2) (pSetI j pi pe) := by
  obtain ⟨te, a1, k1⟩ := he.ex
  obtain ⟨ti, a2, k2⟩ := hi.ex
  refine ⟨_, ps_asg a1 (pg_sub (pe_var hN hv hd hcd) a2 set_list ha) hs hw h1, fun H0 B0 ρ σ Hb H Z Dn R p z => ?_⟩
  unfold pSetI at p
  split at p
  · rename_i ds ej
    refine k1 _ _ _ _ _ _ _ Z.ex _ R p (fun r kr => RetOk.data fun v Hb1 H1 g1 dv => ?_) z.ex
    have R1 := R.more g1
    obtain ⟨u, s1, q, xs, e2, e3, _⟩ := R1.slot j _ ej
    subst e2
    refine ⟨_, s1, k2 _ _ _ _ _ _ _ Z.ex _ R1 kr (fun k kk => RetOk.data fun u Hb2 H2 g2 du => ?_) z.ex⟩
    have R2 := R1.more g2
    split at kk
    · rename_i n ek
      rw [ek] at du
      split at kk
      · rename_i m en
        obtain ⟨u2, t1, q2, ys, e2, e3, e4, e5, e6⟩ := R2.slot j _ ej
        rw [s1] at t1
        have e7 : V.ref q = u2 := Option.some.inj (Option.some.inj t1)
        rw [← e7] at e2
        have e8 : q = q2 := V.ref.inj e2
        subst e8
        exact ⟨q, ys, n, m, rfl, du.int_, e3, by rw [e6.length]; exact en, z.nx _ _ _ _ kk (R2.write ej s1 (e6.set (dv.mono g2.bot) m))⟩
      · exact kk.elim
    · exact kk.elim
  · exact p.elim
/-- xs.append(e), xs an own list in slot j -/
def pApp (j : Nat) (pe : TEd) : TSd := fun Z ρ => match ρ[j]? with
  | some (some (.own ds)) => pe ρ (fun r => ds.length < 1000000 ∧ Z.nx (ρ.set j (some (.own (ds ++ [r.d]))))) Z.ex
  | _ => False
theorem ds_app (j : Nat) {x : Str} {e : Expr} {pe : TEd} {p1 apos cpos pos : Pos} (he : PEd X E e pe) (hN : X.N[j]? = some x := by rfl) (hv : Vis X.env.scope x := by first | exact .inl rfl | exact .inr (.inl rfl) | exact .inr (.inr rfl)) (hd : (x == ("__debug__" : Str)) = false := by decide) (hcd : (x == ("__classdict__" : Str)) = false := by decide)
    (hm : ∀ te, PE X e te → PE X (.Call (.Attribute (.Name x p1) "append" apos) [e] [] cpos) (tBM X.K "list" rAppend (tVar j) (tCons te tNil))) (hs : swapsWith (.Call (.Attribute (.Name x p1) "append" apos) [e] [] cpos) none pos.line X.env = pure false := by rfl) : PSd X E (.Expr (.Call (.Attribute (.Name x p1) "append" apos) [e] [] cpos) pos) (pApp j pe) := by
  obtain ⟨te, a1, k1⟩ := he.ex
  refine ⟨_, ps_expr (hm te a1) hs, fun H0 B0 ρ σ Hb H Z Dn R p z => ?_⟩
  unfold pApp at p
  split at p
  · rename_i ds e
    obtain ⟨u, s1, q, xs, e2, e3, e4, e5, e6⟩ := R.slot j _ e
    subst e2
    refine ⟨_, s1, .inl ⟨rfl, _, SqL.of e3⟩, k1 _ _ _ _ _ _ _ Z.ex _ R p (fun r kr => RetOk.data fun v Hb1 H1 g1 dv => ?_) z.ex⟩
    have R1 := R.more g1
    have e3' := g1.top q _ e3
    refine ⟨q, xs, v, rfl, rfl, e3', Nat.lt_of_lt_of_le (by rw [e6.length]; exact kr.1) mil, ?_⟩
    exact z.nx _ _ _ _ kr.2 (R1.write e s1 ((e6.mono g1.bot).append (.one dv)))
  · exact p.elim
def pIf (pc : TTd) (p q : TSd) : TSd := fun Z ρ => pc ρ (fun b => bT b (p Z ρ) (q Z ρ)) Z.ex
theorem ds_if {c : Expr} {a b : List Stmt} {pc : TTd} {p q : TSd} {pos : Pos} (hc : PTd X E c pc) (ha : PSsd X E a p) (hb : PSsd X E b q) : PSd X E (.If c a b pos) (pIf pc p q) := by
  obtain ⟨tc, c1, c2⟩ := hc.ex
  obtain ⟨t, a1, a2⟩ := ha.ex
  obtain ⟨u, b1, b2⟩ := hb.ex
  refine ⟨_, ps_if c1 a1 b1, fun H0 B0 ρ σ Hb H Z Dn R p z => ?_⟩
  refine c2 _ _ _ _ _ _ _ Z.ex _ R p (fun b Hb1 H1 kb g1 => ?_) z.ex
  cases b with
  | true => exact (if_pos rfl).mpr (a2 _ _ _ _ _ _ Z Dn (R.more g1) kb z)
  | false => exact (if_neg Bool.false_ne_true).mpr (b2 _ _ _ _ _ _ Z Dn (R.more g1) kb z)
def pRet (pe : TEd) : TSd := fun Z ρ => pe ρ Z.rt Z.ex
theorem ds_ret {e : Expr} {pe : TEd} {pos : Pos} (he : PEd X E e pe) : PSd X E (.Return (some e) pos) (pRet pe) := by
  obtain ⟨te, a1, k1⟩ := he.ex
  exact ⟨_, ps_ret a1, fun H0 B0 ρ σ Hb H Z Dn R p z => k1 _ _ _ _ _ _ _ Z.ex _ R p (fun r kr => (z.rt r kr).back R.grow) z.ex⟩
/-- return xs, a name: an own list goes out as such -/
def pRetV (j : Nat) : TSd := fun Z ρ => match ρ[j]? with
  | some (some s) => Z.rt (match s with
    | .ro d => .ro d
    | .own ds => .own ds
    | .tab p ps rows => .tab p ps rows)
  | _ => False
theorem ds_retV (j : Nat) {x : Str} {p1 pos : Pos} (hN : X.N[j]? = some x := by rfl) (hv : Vis X.env.scope x := by first | exact .inl rfl | exact .inr (.inl rfl) | exact .inr (.inr rfl)) (hd : (x == ("__debug__" : Str)) = false := by decide) (hcd : (x == ("__classdict__" : Str)) = false := by decide) : PSd X E (.Return (some (.Name x p1)) pos) (pRetV j) := by
  refine ⟨_, ps_ret (pe_var hN hv hd hcd), fun H0 B0 ρ σ Hb H Z Dn R p z => ?_⟩
  unfold pRetV at p
  split at p
  · rename_i s e
    obtain ⟨v, s1, k⟩ := R.slot j s e
    refine ⟨v, s1, ?_⟩
    cases s with
    | ro d => exact z.rt _ p v Hb H R.grow k
    | own ds =>
      obtain ⟨q, xs, e2, e3, e4, e5, e6⟩ := k
      rw [e2]
      exact z.rt _ p q xs Hb H R.grow e3 e4 e5 e6
    | tab q ps rows =>
      obtain ⟨e2, K⟩ := k
      rw [e2]
      exact z.rt _ p Hb H R.grow K
  · exact p.elim
def pDrop (pe : TEd) : TSd := fun Z ρ => pe ρ (fun _ => Z.nx ρ) Z.ex
theorem ds_expr {e : Expr} {pe : TEd} {pos : Pos} (he : PEd X E e pe) (hs : swapsWith e none pos.line X.env = pure false := by rfl) : PSd X E (.Expr e pos) (pDrop pe) := by
  obtain ⟨te, a1, k1⟩ := he.ex
  exact ⟨_, ps_expr a1 hs, fun H0 B0 ρ σ Hb H Z Dn R p z => k1 _ _ _ _ _ _ _ Z.ex _ R p (fun r kr => RetOk.data fun v Hb1 H1 g1 dv => z.nx _ _ _ _ kr (R.more g1)) z.ex⟩
def pBrk : TSd := fun Z ρ => Z.bk ρ
def pCnt : TSd := fun Z ρ => Z.ct ρ
theorem ds_brk {pos : Pos} : PSd X E (.Break pos) pBrk := ⟨_, ps_break, fun H0 B0 ρ σ Hb H Z Dn R p z => z.bk _ _ _ _ p R⟩
theorem ds_cnt {pos : Pos} : PSd X E (.Continue pos) pCnt := ⟨_, ps_continue, fun H0 B0 ρ σ Hb H Z Dn R p z => z.ct _ _ _ _ p R⟩
theorem ds_pass {pos : Pos} : PSd X E (.Pass pos) pNext := ⟨_, ps_pass, fun H0 B0 ρ σ Hb H Z Dn R p z => z.nx _ _ _ _ p R⟩

/-! ### what is walked -/
abbrev TId := Ro → (List D → Prop) → KX → Prop
structure ItOk (Jt : It) (items : List D) (Hb1 : Hp) : Prop where
  go : ∀ n Hb' H', Same Hb1 Hb' → Same Hb' H' → n < items.length → Jt.go n H'
  yld : ∀ n Hb' H' x H2, Same Hb1 Hb' → Same Hb' H' → Jt.yld n H' x H2 → n < items.length → H2 = H' ∧ ∃ d, items[n]? = some d ∧ DV Hb1 d x
  stop : ∀ Hb' H', Same Hb1 Hb' → Same Hb' H' → Jt.stop items.length H'
structure PId (X : Cx) (E : XK) (tg iter : Expr) (q : TId) : Prop where
  ex : ∃ wi, PI X tg iter wi ∧ ∀ H0 B0 ρ σ Hb H (K : List D → Prop) (J : KX) (Rr : It → Hp → Prop), Rep H0 B0 ρ σ Hb H → q ρ K J → (∀ items Jt Hb1 H1, K items → Grow H Hb H1 Hb1 → ItOk Jt items Hb1 → Rr Jt H1) → (∀ x, J x → ExOk H0 B0 E x) → wi σ H Rr
def qList (pa : TEd) : TId := fun ρ K J => pa ρ (fun a => match a.d with
  | .lst ds => K ds
  | .scr ns => K (ns.map D.int)
  | _ => False) J
def qTup (pa : TEd) : TId := fun ρ K J => pa ρ (fun a => match a.d with
  | .tup ds => K ds
  | _ => False) J
theorem qList_run {pa : TEd} {ta : TE} (k1 : ∀ H0 B0 ρ σ Hb H (K : KD) (J : KX) (Q : VK), Rep H0 B0 ρ σ Hb H → pa ρ K J → (∀ r, K r → RetOk H Hb Q r) → (∀ x, J x → ExOk H0 B0 E x) → ta σ H Q) :
    ∀ H0 B0 ρ σ Hb H (K : List D → Prop) (J : KX) (Rr : It → Hp → Prop), Rep H0 B0 ρ σ Hb H → qList pa ρ K J → (∀ items Jt Hb1 H1, K items → Grow H Hb H1 Hb1 → ItOk Jt items Hb1 → Rr Jt H1) → (∀ x, J x → ExOk H0 B0 E x) → iList X.K ta σ H Rr := by
  intro H0 B0 ρ σ Hb H K J Rr R q kr kx
  refine k1 _ _ _ _ _ _ _ J _ R q (fun a ka => RetOk.data fun v Hb1 H1 g1 d1 => ?_) kx
  split at ka
  · rename_i ds e
    rw [e] at d1
    obtain ⟨p, xs, e1, e2, e3⟩ := d1.lst_
    have at_ : ∀ Hb' H', Same Hb1 Hb' → Same Hb' H' → SqL X.K H' p xs := fun Hb' H' s1 s2 => SqL.of (s2 p _ (s1 p _ e2))
    refine ⟨p, e1, ⟨xs, at_ _ _ (Same.refl _) g1.sub⟩, kr ds _ Hb1 H1 ka g1 ⟨fun n Hb' H' s1 s2 hn => ?_, fun n Hb' H' x H2 s1 s2 y hn => ?_, fun Hb' H' s1 s2 => ⟨xs, at_ _ _ s1 s2, Nat.le_of_eq e3.length⟩⟩⟩
    · have hn' : n < xs.length := by rw [e3.length]; exact hn
      exact ⟨xs, xs[n], at_ _ _ s1 s2, List.getElem?_eq_getElem hn'⟩
    · obtain ⟨eH, y⟩ := y
      obtain ⟨d, f1, f2⟩ := e3.gets (y xs (at_ _ _ s1 s2))
      exact ⟨eH, d, f1, f2⟩
  · rename_i ns e
    rw [e] at d1
    obtain ⟨p, o, e1, e2⟩ := d1.scr_
    have at_ : ∀ Hb' H', Same Hb1 Hb' → Same Hb' H' → SqL X.K H' p (ns.map V.int) := fun Hb' H' s1 s2 => sqF (s2 p _ (s1 p _ e2))
    have le : (ns.map V.int).length = (ns.map D.int).length := by rw [List.length_map, List.length_map]
    refine ⟨p, e1, ⟨_, at_ _ _ (Same.refl _) g1.sub⟩, kr _ _ Hb1 H1 ka g1 ⟨fun n Hb' H' s1 s2 hn => ?_, fun n Hb' H' x H2 s1 s2 y hn => ?_, fun Hb' H' s1 s2 => ⟨_, at_ _ _ s1 s2, Nat.le_of_eq le⟩⟩⟩
    · have hn' : n < (ns.map V.int).length := by rw [le]; exact hn
      exact ⟨_, (ns.map V.int)[n], at_ _ _ s1 s2, List.getElem?_eq_getElem hn'⟩
    · obtain ⟨eH, y⟩ := y
      obtain ⟨d, f1, f2⟩ := (DVs.of_ints (H := Hb1) ns).gets (y _ (at_ _ _ s1 s2))
      exact ⟨eH, d, f1, f2⟩
  · exact ka.elim
theorem di_list {tg e : Expr} {pa : TEd} (ha : PEd X E e pa) : PId X E tg e (qList pa) := by
  obtain ⟨ta, a1, k1⟩ := ha.ex
  exact ⟨_, pi_list a1, qList_run k1⟩
theorem di_tup {tg e : Expr} {pa : TEd} (ha : PEd X E e pa) : PId X E tg e (qTup pa) := by
  obtain ⟨ta, a1, k1⟩ := ha.ex
  refine ⟨_, pi_tup a1, fun H0 B0 ρ σ Hb H K J Rr R q kr kx => ?_⟩
  refine k1 _ _ _ _ _ _ _ J _ R q (fun a ka => RetOk.data fun v Hb1 H1 g1 d1 => ?_) kx
  split at ka
  · rename_i ds e
    rw [e] at d1
    obtain ⟨p, xs, e1, e2, e3⟩ := d1.tup_
    have at_ : ∀ Hb' H', Same Hb1 Hb' → Same Hb' H' → SqT X.K H' p xs := fun Hb' H' s1 s2 => SqT.of (s2 p _ (s1 p _ e2))
    refine ⟨p, e1, ⟨xs, at_ _ _ (Same.refl _) g1.sub⟩, kr ds _ Hb1 H1 ka g1 ⟨fun n Hb' H' s1 s2 hn => ?_, fun n Hb' H' x H2 s1 s2 y hn => ?_, fun Hb' H' s1 s2 => ⟨xs, at_ _ _ s1 s2, Nat.le_of_eq e3.length⟩⟩⟩
    · have hn' : n < xs.length := by rw [e3.length]; exact hn
      exact ⟨xs, xs[n], at_ _ _ s1 s2, List.getElem?_eq_getElem hn'⟩
    · obtain ⟨eH, y⟩ := y
      obtain ⟨d, f1, f2⟩ := e3.gets (y xs (at_ _ _ s1 s2))
      exact ⟨eH, d, f1, f2⟩
  · exact ka.elim
/-- lo, lo + 1, .. : n of them -/
def rngD (lo : Int) (n : Nat) : List D := (List.range n).map fun (k : Nat) => D.int (lo + (k : Int))
theorem rngD_len (lo : Int) (n : Nat) : (rngD lo n).length = n := by unfold rngD; rw [List.length_map, List.length_range]
theorem rngD_get {lo : Int} {n k : Nat} (h : k < n) : (rngD lo n)[k]? = some (.int (lo + (k : Int))) := by
  unfold rngD
  rw [List.getElem?_map, List.getElem?_range h]
  rfl
theorem it_rng {lo : Int} {n : Nat} {Hb1 : Hp} : ItOk (Itr lo n) (rngD lo n) Hb1 :=
  ⟨fun k _ _ _ _ h => by rw [rngD_len] at h; exact h, fun k Hb' H' x H2 _ _ y h => by
    rw [rngD_len] at h
    obtain ⟨e1, e2⟩ := y
    exact ⟨e1, _, rngD_get h, by rw [e2]; exact DV.mk_int⟩, fun _ _ _ _ => by rw [rngD_len]; exact Nat.le_refl n⟩
def qRng1 (pa : TAd) : TId := fun ρ K J => pa ρ (fun ds => match ds with
  | [.int j] => j < 1000000000 ∧ -1000000000 < j ∧ K (rngD 0 j.toNat)
  | _ => False) J
def qRng2 (pa : TAd) : TId := fun ρ K J => pa ρ (fun ds => match ds with
  | [.int i, .int j] => (i < 1000000000 ∧ -1000000000 < i) ∧ (j < 1000000000 ∧ -1000000000 < j) ∧ K (rngD i (j - i).toNat)
  | _ => False) J
theorem di_rng1 {tg a : Expr} {pa : TAd} {p pos : Pos} (hm : X.mg "range" = none) (ha : PAd X E [a] pa) (hg : Gl X "range" := by rfl) (hs : starEach [a] X.env = [(false, eval a X.env)] := by rfl) : PId X E tg (.Call (.Name "range" p) [a] [] pos) (qRng1 pa) := by
  obtain ⟨ta, a1, k1⟩ := ha.ex
  refine ⟨_, pi_range1 hg hm a1 hs, fun H0 B0 ρ σ Hb H K J Rr R q kr kx => ?_⟩
  refine k1 _ _ _ _ _ _ _ J _ R q (fun ds vs Hb1 H1 kd g1 d1 => ?_) kx
  split at kd
  · rename_i j
    obtain ⟨v, rfl, h1⟩ := vals1 d1
    rw [h1.int_]
    exact ⟨j, rfl, by omega, by omega, kr _ _ Hb1 H1 kd.2.2 g1 it_rng⟩
  · exact kd.elim
theorem di_rng2 {tg a b : Expr} {pa : TAd} {p pos : Pos} (hm : X.mg "range" = none) (ha : PAd X E [a, b] pa) (hg : Gl X "range" := by rfl) (hs : starEach [a, b] X.env = [(false, eval a X.env), (false, eval b X.env)] := by rfl) (hs2 : starEach [b] X.env = [(false, eval b X.env)] := by rfl) :
    PId X E tg (.Call (.Name "range" p) [a, b] [] pos) (qRng2 pa) := by
  obtain ⟨ta, a1, k1⟩ := ha.ex
  refine ⟨_, pi_range2 hg hm a1 hs hs2, fun H0 B0 ρ σ Hb H K J Rr R q kr kx => ?_⟩
  refine k1 _ _ _ _ _ _ _ J _ R q (fun ds vs Hb1 H1 kd g1 d1 => ?_) kx
  split at kd
  · rename_i i j
    obtain ⟨v, u, rfl, h1, h2⟩ := vals2' d1
    rw [h1.int_, h2.int_]
    exact ⟨i, j, rfl, by omega, kr _ _ Hb1 H1 kd.2.2 g1 it_rng⟩
  · exact kd.elim

/-! ### loops -/
theorem SatZ.shift {H0 B0 H1 B1 : Hp} {Z : EndsD} {Dn : Ends} {Zn : Ro → Prop} {Dx : L2.St → Hp → Prop} (h : SatZ H0 B0 E Z Dn) (g : Grow H0 B0 H1 B1) (gg : ∀ H' Hb', Grow H1 B1 H' Hb' → Grow H0 B0 H' Hb') (n : ∀ a, H1 a = none → H0 a = none) (k : ∀ ρ σ Hb H, Zn ρ → Rep H1 B1 ρ σ Hb H → Dx σ H) :
    SatZ H1 B1 E { Z with nx := Zn, ct := Zn, bk := Z.nx } { Dn with nx := Dx, ct := Dx, bk := Dn.nx } :=
  ⟨k, fun ρ σ Hb H z R => h.nx ρ σ Hb H z (R.unshift gg n), k, fun r z => (h.rt r z).back g, fun x z => (h.ex x z).back g⟩
def pFor (q : TId) (pg : TGd) (pb : TSd) : TSd := fun Z ρ => q ρ (fun items => ∃ Jv : Nat → Ro → Prop, Jv 0 ρ ∧ (∀ n d ρ', items[n]? = some d → Jv n ρ' → pg d ρ' (fun ρ2 => pb { Z with nx := Jv (n + 1), ct := Jv (n + 1), bk := Z.nx } ρ2)) ∧ ∀ ρ', Jv items.length ρ' → Z.nx ρ') Z.ex
theorem for_run {q : TId} {pg : TGd} {pb : TSd} {wi : TI} {g : TG} {tb : TS}
    (k1 : ∀ H0 B0 ρ σ Hb H (K : List D → Prop) (J : KX) (Rr : It → Hp → Prop), Rep H0 B0 ρ σ Hb H → q ρ K J → (∀ items Jt Hb1 H1, K items → Grow H Hb H1 Hb1 → ItOk Jt items Hb1 → Rr Jt H1) → (∀ x, J x → ExOk H0 B0 E x) → wi σ H Rr)
    (k2 : ∀ H0 B0 ρ σ Hb H d v (K : Ro → Prop) (Q : L2.St → Hp → Prop), Rep H0 B0 ρ σ Hb H → DV Hb d v → pg d ρ K → (∀ ρ' σ' Hb' H', K ρ' → Rep H0 B0 ρ' σ' Hb' H' → Grow H Hb H' Hb' → Q σ' H') → g v σ H Q)
    (k3 : ∀ H0 B0 ρ σ Hb H (Z : EndsD) (Dn : Ends), Rep H0 B0 ρ σ Hb H → pb Z ρ → SatZ H0 B0 E Z Dn → tb Dn σ H) :
    ∀ H0 B0 ρ σ Hb H (Z : EndsD) (Dn : Ends), Rep H0 B0 ρ σ Hb H → pFor q pg pb Z ρ → SatZ H0 B0 E Z Dn → tFor wi g tb Dn σ H := by
  intro H0 B0 ρ σ Hb H Z Dn R p z
  refine k1 _ _ _ _ _ _ _ Z.ex _ R p (fun items Jt Hb1 H1 ki g1 ok => ?_) z.ex
  obtain ⟨Jv, j0, js, jd⟩ := ki
  have R1 := R.more g1
  obtain ⟨H2, R2, gg, nn, sb⟩ := R1.shift
  have gz : Grow H0 B0 H2 Hb1 := gg H2 Hb1 (Grow.refl sb)
  refine ⟨fun n m σ' H' => m = items.length - n ∧ n ≤ items.length ∧ ∃ ρ' Hb', Jv n ρ' ∧ Rep H2 Hb1 ρ' σ' Hb' H', ⟨items.length, by simp, Nat.zero_le _, ρ, Hb1, j0, R2⟩, ?_⟩
  rintro n m σ' H' ⟨rfl, hn, ρ', Hb', jn, R'⟩
  by_cases hlt : n < items.length
  · refine .inr ⟨ok.go n Hb' H' R'.grow.bot R'.sub hlt, fun σ3 H3 => ∃ ρ3 Hb3, Jv (n + 1) ρ3 ∧ Rep H2 Hb1 ρ3 σ3 Hb3 H3, fun σ3 H3 ⟨ρ3, Hb3, j3, R3⟩ => ⟨items.length - (n + 1), by omega, rfl, hlt, ρ3, Hb3, j3, R3⟩, fun x H3 y => ?_⟩
    obtain ⟨rfl, d, e1, e2⟩ := ok.yld n Hb' H' x H3 R'.grow.bot R'.sub y hlt
    refine k2 _ _ _ _ _ _ d x _ _ R' (e2.mono R'.grow.bot) (js n d ρ' e1 jn) fun ρ4 σ4 Hb4 H4 k4 R4 _ => ?_
    exact k3 _ _ _ _ _ _ _ _ R4 k4 (z.shift gz gg nn fun ρ5 σ5 Hb5 H5 j5 R5 => ⟨ρ5, Hb5, j5, R5⟩)
  · have e : n = items.length := by omega
    subst e
    exact .inl ⟨ok.stop Hb' H' R'.grow.bot R'.sub, z.nx _ _ _ _ (jd ρ' jn) (R'.unshift gg nn)⟩
theorem ds_for {tg iter : Expr} {body : List Stmt} {q : TId} {pg : TGd} {pb : TSd} {pos : Pos} (hp : PassesOwn (model X.prog X.w) X.A X.env X.xe) (hc : X.calm = true) (hi : PId X E tg iter q) (hg : PGd X tg pg) (hb : PSsd X E body pb) (hs : ∀ x, foldedSetIterable iter X.env x = pure x := by intro _; rfl) : PSd X E (.For tg iter body [] pos) (pFor q pg pb) := by
  obtain ⟨wi, a1, k1⟩ := hi.ex
  obtain ⟨g, a2, k2⟩ := hg.ex
  obtain ⟨tb, a3, k3⟩ := hb.ex
  exact ⟨_, ps_for hp hc a1 a2 a3 hs, for_run k1 k2 k3⟩
def pWhile (pc : TTd) (pb : TSd) : TSd := fun Z ρ => ∃ Jv : Nat → Ro → Prop, (∃ m, Jv m ρ) ∧ ∀ m ρ', Jv m ρ' → pc ρ' (fun b => bT b (pb { Z with nx := fun ρ2 => ∃ m', m' < m ∧ Jv m' ρ2, ct := fun ρ2 => ∃ m', m' < m ∧ Jv m' ρ2, bk := Z.nx } ρ') (Z.nx ρ')) Z.ex
theorem ds_while {c : Expr} {body : List Stmt} {pc : TTd} {pb : TSd} {pos : Pos} (hp : PassesOwn (model X.prog X.w) X.A X.env X.xe) (hc : PTd X E c pc) (hb : PSsd X E body pb) : PSd X E (.While c body [] pos) (pWhile pc pb) := by
  obtain ⟨tc, a1, k1⟩ := hc.ex
  obtain ⟨tb, a2, k2⟩ := hb.ex
  refine ⟨_, ps_while hp a1 a2, fun H0 B0 ρ σ Hb H Z Dn R p z => ?_⟩
  obtain ⟨Jv, ⟨m0, j0⟩, js⟩ := p
  refine ⟨fun m σ' H' => ∃ ρ' Hb', Jv m ρ' ∧ Rep H0 B0 ρ' σ' Hb' H', ⟨m0, ρ, Hb, j0, R⟩, ?_⟩
  rintro m σ' H' ⟨ρ', Hb', jm, R'⟩
  refine k1 _ _ _ _ _ _ _ Z.ex _ R' (js m ρ' jm) (fun b Hb1 H1 kb g1 => ?_) z.ex
  cases b with
  | true =>
    refine (if_pos rfl).mpr ⟨fun σ3 H3 => ∃ m', m' < m ∧ ∃ ρ3 Hb3, Jv m' ρ3 ∧ Rep H0 B0 ρ3 σ3 Hb3 H3, fun _ _ h => h, ?_⟩
    exact k2 _ _ _ _ _ _ _ _ (R'.more g1) kb ⟨fun ρ3 σ3 Hb3 H3 ⟨m', h1, h2⟩ R3 => ⟨m', h1, ρ3, Hb3, h2, R3⟩, z.nx, fun ρ3 σ3 Hb3 H3 ⟨m', h1, h2⟩ R3 => ⟨m', h1, ρ3, Hb3, h2, R3⟩, z.rt, z.ex⟩
  | false => exact (if_neg Bool.false_ne_true).mpr (z.nx _ _ _ _ kb (R'.more g1))
end
end Pu
/-! Pu5: comprehensions, raise. -/
namespace Pu
open PySem PySem.Spec PyProof.Rows L2

/-! ### one reading for all contexts -/
def canE (E : XK) (p : TEd) : TE := fun σ H Q => ∃ H0 B0 ρ Hb, ∃ (K : KD) (J : KX), Rep H0 B0 ρ σ Hb H ∧ p ρ K J ∧ (∀ r, K r → RetOk H Hb Q r) ∧ ∀ x, J x → ExOk H0 B0 E x
def canT (E : XK) (p : TTd) : TT := fun σ H Q => ∃ H0 B0 ρ Hb, ∃ (K : Bool → Prop) (J : KX), Rep H0 B0 ρ σ Hb H ∧ p ρ K J ∧ (∀ b Hb' H', K b → Grow H Hb H' Hb' → Q b H') ∧ ∀ x, J x → ExOk H0 B0 E x
theorem PEd.can {X : Cx} {E : XK} {e : Expr} {p : TEd} (h : PEd X E e p) : PE X e (canE E p) := by
  obtain ⟨te, h1, k1⟩ := h.ex
  exact ⟨fun pins s σ H Q I ⟨H0, B0, ρ, Hb, K, J, R, q, kq, kx⟩ => h1.run pins s σ H Q I (k1 _ _ _ _ _ _ K J Q R q kq kx)⟩
theorem PTd.can {X : Cx} {E : XK} {e : Expr} {p : TTd} (h : PTd X E e p) : PT X e (canT E p) := by
  obtain ⟨te, h1, k1⟩ := h.ex
  exact ⟨fun pins s σ H Q I ⟨H0, B0, ρ, Hb, K, J, R, q, kq, kx⟩ => h1.run pins s σ H Q I (k1 _ _ _ _ _ _ K J Q R q kq kx)⟩

/-! ### wiping -/
def wipeR (ρ : Ro) : List Nat → Ro
  | [] => ρ
  | v :: vs => (wipeR ρ vs).set v none
theorem wipeR_len (ρ : Ro) : ∀ vs : List Nat, (wipeR ρ vs).length = ρ.length
  | [] => rfl
  | v :: vs => by unfold wipeR; rw [List.length_set, wipeR_len ρ vs]
theorem wipeR_some {ρ : Ro} {i : Nat} {x : S} : ∀ {vs : List Nat}, (wipeR ρ vs)[i]? = some (some x) → ρ[i]? = some (some x) ∧ i ∉ vs
  | [], h => ⟨h, by simp⟩
  | v :: vs, h => by
    unfold wipeR at h
    by_cases hi : v = i
    · subst hi
      by_cases hv : v < (wipeR ρ vs).length
      · rw [List.getElem?_set_self hv] at h; cases h
      · rw [List.set_eq_of_length_le (by omega), List.getElem?_eq_none (by omega)] at h; cases h
    · rw [List.getElem?_set_ne hi] at h
      obtain ⟨h1, h2⟩ := wipeR_some h
      exact ⟨h1, fun m => by
        rcases List.mem_cons.mp m with e | e
        · exact hi e.symm
        · exact h2 e⟩
theorem Rep.wipe {H0 B0 Hb H : Hp} {ρ : Ro} {σ : L2.St} (R : Rep H0 B0 ρ σ Hb H) (vs : List Nat) : Rep H0 B0 (wipeR ρ vs) (L2.wipe σ vs) Hb H where
  grow := R.grow
  len := by rw [wipe_length, wipeR_len]; exact R.len
  slot := fun i s e => by
    obtain ⟨e1, e2⟩ := wipeR_some e
    obtain ⟨v, h1, h2⟩ := R.slot i s e1
    exact ⟨v, by rw [wipe_out e2]; exact h1, h2⟩
  sep := fun a b s t u v x hab ha hb hu hv => by
    obtain ⟨a1, a2⟩ := wipeR_some ha
    obtain ⟨b1, b2⟩ := wipeR_some hb
    rw [wipe_out a2] at hu
    rw [wipe_out b2] at hv
    exact R.sep a b s t u v x hab a1 b1 hu hv
theorem wipe_set {σ : L2.St} {j : Nat} {o : Option V} : ∀ {vs : List Nat}, j ∈ vs → L2.wipe (σ.set j o) vs = L2.wipe σ vs
  | [], h => by cases h
  | v :: vs, h => by
    unfold L2.wipe
    by_cases hj : j ∈ vs
    · rw [wipe_set hj]
    · have e : j = v := by
        rcases List.mem_cons.mp h with e | e
        · exact e
        · exact absurd e hj
      subst e
      have : ∀ {us : List Nat}, j ∉ us → L2.wipe (σ.set j o) us = (L2.wipe σ us).set j o := by
        intro us
        induction us with
        | nil => intro _; rfl
        | cons u us ih =>
          intro hu
          have hne : j ≠ u := fun z => hu (by rw [z]; exact List.mem_cons_self)
          unfold L2.wipe
          rw [ih (fun m => hu (List.mem_cons_of_mem _ m)), List.set_comm _ _ hne]
      rw [this hj, List.set_set]
theorem wipe_idem {σ : L2.St} : ∀ (us vs : List Nat), (∀ u ∈ us, u ∈ vs) → L2.wipe (L2.wipe σ us) vs = L2.wipe σ vs
  | [], _, _ => rfl
  | u :: us, vs, h => by
    show L2.wipe ((L2.wipe σ us).set u none) vs = _
    rw [wipe_set (h u List.mem_cons_self)]
    exact wipe_idem us vs fun x hx => h x (List.mem_cons_of_mem _ hx)
theorem wipe_turn {σ : L2.St} {j : Nat} {o : Option V} {vs : List Nat} (h : j ∈ vs) : L2.wipe ((L2.wipe σ vs).set j o) vs = L2.wipe σ vs := by
  rw [wipe_set h, wipe_idem vs vs fun _ z => z]

section
variable {X : Cx} {E : XK}
/-! ### [elt for x in iter if ..] -/
def tY : TTd := fun _ K _ => K true
structure PTsd (X : Cx) (E : XK) (ifs : List Expr) (p : TTd) : Prop where
  ex : PTs X ifs (canT E p)
theorem dts_nil : PTsd X E [] tY := ⟨⟨fun pins s σ H Q I ⟨H0, B0, ρ, Hb, K, J, R, q, kq, kx⟩ => pts_nil.run pins s σ H Q I (kq _ Hb H q (Grow.refl R.sub))⟩⟩
theorem dts_one {c : Expr} {p : TTd} (h : PTd X E c p) : PTsd X E [c] p := ⟨pts_one h.can⟩
def pLc (q : TId) (j : Nat) (vs : List Nat) (pt : TTd) (pe : TEd) : TEd := fun ρ K J => q ρ (fun items => items.length ≤ 1000000 ∧ ∃ I : Nat → List D → Prop, I 0 [] ∧
  (∀ n d acc, items[n]? = some d → I n acc → pt ((wipeR ρ vs).set j (some (.ro d))) (fun b => bT b (pe ((wipeR ρ vs).set j (some (.ro d))) (fun r => I (n + 1) (acc ++ [r.d])) (fun _ => False)) (I (n + 1) acc)) (fun _ => False)) ∧ ∀ acc, I items.length acc → K (.own acc)) J
theorem lc_run {q : TId} {j : Nat} {vs : List Nat} {pt : TTd} {pe : TEd} {wi : TI} (hj : j ∈ vs)
    (k1 : ∀ H0 B0 ρ σ Hb H (K : List D → Prop) (J : KX) (Rr : It → Hp → Prop), Rep H0 B0 ρ σ Hb H → q ρ K J → (∀ items Jt Hb1 H1, K items → Grow H Hb H1 Hb1 → ItOk Jt items Hb1 → Rr Jt H1) → (∀ x, J x → ExOk H0 B0 E x) → wi σ H Rr) :
    ∀ H0 B0 ρ σ Hb H (K : KD) (J : KX) (Q : VK), Rep H0 B0 ρ σ Hb H → pLc q j vs pt pe ρ K J → (∀ r, K r → RetOk H Hb Q r) → (∀ x, J x → ExOk H0 B0 E x) → tLc wi (gName j) (canT E0 pt) (canE E0 pe) vs σ H Q := by
  intro H0 B0 ρ σ Hb H K J Q R p kq kx
  refine k1 _ _ _ _ _ _ _ J _ R p (fun items Jt Hb1 H1 ki g1 ok Dl hDl => ?_) kx
  obtain ⟨hz, I, i0, is, id⟩ := ki
  have R1 := R.more g1
  have hDb : Hb1 Dl = none := same_none g1.sub hDl
  refine ⟨fun n m H' => m = items.length - n ∧ n ≤ items.length ∧ ∃ acc ys Hb', I n acc ∧ acc.length ≤ n ∧ Grow H1 Hb1 H' Hb' ∧ H' Dl = some (.lst ys) ∧ Hb' Dl = none ∧ DVs Hb' acc ys,
    ⟨items.length, by simp, Nat.zero_le _, [], [], Hb1, i0, Nat.le_refl _, Grow.own g1.sub hDl, upd_same, hDb, .nil⟩, ?_⟩
  rintro n m H' ⟨rfl, hn, acc, ys, Hb', jn, hacc, g, hl, hb, dv⟩
  by_cases hlt : n < items.length
  · refine .inr ⟨ok.go n Hb' H' g.bot g.sub hlt, fun H3 => ∃ acc3 ys3 Hb3, I (n + 1) acc3 ∧ acc3.length ≤ n + 1 ∧ Grow H1 Hb1 H3 Hb3 ∧ H3 Dl = some (.lst ys3) ∧ Hb3 Dl = none ∧ DVs Hb3 acc3 ys3, fun H3 h3 => ⟨items.length - (n + 1), by omega, rfl, hlt, h3⟩, fun x H3 y => ?_⟩
    obtain ⟨rfl, d, e1, e2⟩ := ok.yld n Hb' H' x H3 g.bot g.sub y hlt
    have R' : Rep H0 B0 ((wipeR ρ vs).set j (some (.ro d))) ((L2.wipe σ vs).set j (some x)) Hb' H3 := ((R1.more g).wipe vs).put (e2.mono g.bot)
    refine ⟨wipe_turn hj, H0, B0, _, Hb', _, fun _ => False, R', is n d acc e1 jn, fun b Hb4 H4 kb g4 => ?_, fun _ z => z.elim⟩
    have keep : ∀ {Hb5 H5 : Hp}, Grow H3 Hb' H5 Hb5 → H5 Dl = some (.lst ys) ∧ Hb5 Dl = none := fun {Hb5 H5} g5 => ⟨g5.top _ _ hl, by
      cases z : Hb5 Dl with
      | none => rfl
      | some o =>
        have w := g5.new Dl hb (by rw [z]; exact fun y => nomatch y)
        rw [hl] at w
        cases w⟩
    cases b with
    | true =>
      refine (if_pos rfl).mpr ⟨H0, B0, _, Hb4, _, fun _ => False, R'.more g4, kb, fun r kr => RetOk.data fun v Hb5 H5 g5 d5 => ?_, fun _ z => z.elim⟩
      obtain ⟨w1, w2⟩ := keep (g4.trans g5)
      have z1 : ys.length ≤ n := by rw [dv.length]; exact hacc
      refine ⟨ys, w1, Nat.lt_of_lt_of_le (Nat.lt_of_le_of_lt z1 (Nat.lt_of_lt_of_le hlt hz)) mil, acc ++ [r.d], ys ++ [v], Hb5, kr, by rw [List.length_append]; exact Nat.succ_le_succ hacc, (g.trans (g4.trans g5)).mut hDl w2, upd_same, w2, (dv.mono (g4.bot.trans g5.bot)).append (.one d5)⟩
    | false =>
      obtain ⟨w1, w2⟩ := keep g4
      exact (if_neg Bool.false_ne_true).mpr ⟨acc, ys, Hb4, kb, Nat.le_succ_of_le hacc, g.trans g4, w1, w2, dv.mono g4.bot⟩
  · have e : n = items.length := by omega
    subst e
    exact .inl ⟨ok.stop Hb' H' g.bot g.sub, kq _ (id acc jn) Dl ys Hb' H' (g1.trans g) hl (same_none g1.top hDl) hb dv⟩
theorem de_lc {elt tg iter : Expr} {ifs : List Expr} {scope : Scope} (own : List (Str × Nat)) (j : Nat) {pos : Pos} {q : TId} {pt : TTd} {pe : TEd} (hc : X.calm = true) (hN : X.N.Nodup) (hi : PId X E tg iter q) (ok : blkC X.N X.env.scope scope own = true) (hj : j ∈ own.map (·.2))
    (hg : ∀ (s : Shared) (H : Hp) (C : Addr) (cl : List (Str × Addr)) (fp : List Addr), PG (X.blk s H scope (compEnvC scope cl C X.env) fp) tg (gName j)) (ht : ∀ (s : Shared) (H : Hp) (C : Addr) (cl : List (Str × Addr)) (fp : List Addr), PTsd (X.blk s H scope (compEnvC scope cl C X.env) fp) E0 ifs pt)
    (he : ∀ (s : Shared) (H : Hp) (C : Addr) (cl : List (Str × Addr)) (fp : List Addr), PEd (X.blk s H scope (compEnvC scope cl C X.env) fp) E0 elt pe) (hs : ∀ x, foldedSetIterable iter X.env x = pure x := by intro _; rfl) :
    PEd X E (.ListComp elt [⟨tg, iter, ifs, 0⟩] scope pos) (pLc q j (own.map (·.2)) pt pe) := by
  obtain ⟨wi, a1, k1⟩ := hi.ex
  exact ⟨_, pe_lc hc hN a1 (blkOk_by ok) hg (fun s H C cl fp => (ht s H C cl fp).ex) (fun s H C cl fp => (he s H C cl fp).can) hs, lc_run hj k1⟩
/-- y = [..] -/
theorem ds_setLc (i : Nat) {y : Str} {py : Pos} {elt tg iter : Expr} {ifs : List Expr} {scope : Scope} (own : List (Str × Nat)) (j : Nat) {pos spos : Pos} {q : TId} {pt : TTd} {pe : TEd} (hc : X.calm = true) (hN : X.N.Nodup) (hsw : swapsWith (.ListComp elt [⟨tg, iter, ifs, 0⟩] scope pos) (some (.Name y py)) spos.line X.env = pure true)
    (hi : PId X E tg iter q) (ok : blkC X.N X.env.scope scope own = true) (hj : j ∈ own.map (·.2))
    (hg : ∀ (s : Shared) (H : Hp) (C : Addr) (cl : List (Str × Addr)) (fp : List Addr), PG (X.blk s H scope (compEnvC scope cl C X.env) fp) tg (gName j)) (ht : ∀ (s : Shared) (H : Hp) (C : Addr) (cl : List (Str × Addr)) (fp : List Addr), PTsd (X.blk s H scope (compEnvC scope cl C X.env) fp) E0 ifs pt)
    (he : ∀ (s : Shared) (H : Hp) (C : Addr) (cl : List (Str × Addr)) (fp : List Addr), PEd (X.blk s H scope (compEnvC scope cl C X.env) fp) E0 elt pe) (hy : X.N[i]? = some y := by rfl) (hyl : X.env.scope.names.lookup y = some .local := by rfl) (hs : ∀ x, foldedSetIterable iter X.env x = pure x := by intro _; rfl) :
    PSd X E (.Assign [.Name y py] (.ListComp elt [⟨tg, iter, ifs, 0⟩] scope pos) spos) (pAsg i (pLc q j (own.map (·.2)) pt pe)) := by
  obtain ⟨wi, a1, k1⟩ := hi.ex
  exact ⟨_, ps_setLc hc hN hy hyl hsw a1 (blkOk_by ok) hg (fun s H C cl fp => (ht s H C cl fp).ex) (fun s H C cl fp => (he s H C cl fp).can) hs, asg_run (lc_run hj k1)⟩

/-! ### raise -/
abbrev WE0 (E : XK) : WX := fun cls d _ H => E cls d H
def pRaise0 (C : Addr) : TSd := fun Z _ => Z.ex ⟨C, none⟩
theorem ds_raise0 {e : Expr} {C : Addr} {pos : Pos} (hc : X.calm = true) (tk : L2N.Takes X (WE0 E)) (he : L2N.PMk X e (fun _ H Q => Q (.ref C) none H)) : PS X (.Raise (some e) none pos) (fun _ _ H => E (.ref C) none H) := L2N.ps_raise hc tk he
theorem ds_raise {e : Expr} {C : Addr} {pos : Pos} (hc : X.calm = true) (tk : L2N.Takes X (WE0 E)) (he : L2N.PMk X e (fun _ H Q => Q (.ref C) none H)) : PSd X E (.Raise (some e) none pos) (pRaise0 C) :=
  ⟨_, ds_raise0 hc tk he, fun H0 B0 ρ σ Hb H Z Dn R p z => z.ex _ p Hb H R.grow⟩
/-- __init__ of an own error of the class at C with one field f -/
def spInit (C : Addr) (f : Str) : Sp := fun vs H Q _ => ∃ (a : Addr) (v : V), vs = [.ref a, v] ∧ H a = some (exo a C none) ∧ ∀ d, H d = none → d ≠ a → Q .non (upd (upd H d (exd d [(f, v)])) a (exo a C (some d)))
def pRaiseF (C : Addr) (f : Str) (pa : TAd) : TSd := fun Z ρ => pa ρ (fun ds => match ds with
  | [d] => Z.ex ⟨C, some (f, d)⟩
  | _ => False) Z.ex
theorem made_heap {H1 : Hp} {a d C : Addr} {fs : List (Str × V)} (ha : H1 a = none) (hd : H1 d = none) (hne : d ≠ a) : upd (del (upd (upd (upd H1 a (exo a C none)) d (exd d fs)) a (exo a C (some d))) a) d (.xd fs) = upd H1 d (.xd fs) := by
  funext b
  by_cases hbd : b = d
  · rw [hbd, upd_same, upd_same]
  · rw [upd_ne hbd, upd_ne hbd]
    by_cases hba : b = a
    · rw [hba, del_same, ha]
    · rw [del_ne hba, upd_ne hba, upd_ne hbd, upd_ne hba]
/-- an own error with an own __init__ is made; its context is None -/
theorem pmk_oexN {x : Str} {C fI : Addr} {k : Nat} {fd : FuncData} {ps : List Str} {sp : Sp} {e : Expr} {es : List Expr} {ta : TA} {p pos : Pos} (T : OexC X.K C) (iC : PySem.W.findIn X.K (.ref C) "__init__" = some (some (.ref fI))) (tI : PySem.W.typeIn X.K (.ref fI) = some (.type "function"))
    (F1 : FnOk X.prog X.w X.K X.mg X.base CX0 k fI fd ps sp) (hr : Room (k + 1) X.A) (hb : Binds X.K fd ps []) (hg : Gl X x) (hm : X.mg x = some (.ref C)) (ha : PA X (e :: es) ta) (hdb : (x == ("__debug__" : Str)) = false) (he : starEach (e :: es) X.env = (false, eval e X.env) :: starEach es X.env) (hpl : (backTo pos (starEach es X.env)).any (·.1) = false) :
    L2N.PMk X (.Call (.Name x p) (e :: es) [] pos) (tMkO C sp [] ta) := by
  intro pins s0 σ H0 Q I h
  obtain ⟨nm, qn, nn, bs, bm, sn, sb, ab, col, dd, k0, k1, k2, k3, k5, hC, hbm⟩ := T.cls
  refine wpAny_Call_Name_kw (ld_glob I hg hm ?_ hdb)
  refine PySem.W.callWith_K (h₀ := X.base) I.ok.mod.kin T.kC (thn (ha.run pos pins s0 σ H0 _ I h) fun us s1 ⟨vs, H1, J, rv1, z1, q1⟩ => ⟨J.kIn, ?_⟩) he hpl
  show wpAny _ _ (call (.ref C) us) _ _ _
  obtain ⟨h1, g1, d1, t1, o1⟩ := s1
  have up : h1.objs.size ≤ h1.objs.size + 1 := Nat.le_succ _
  have q2 := q1 (h1.objs.size + 1) (J.hok.fresh up)
  have kp : ∀ b o, h1.get? b = some o → ((h1.push (PySem.W.kdv_tup us)).push (PySem.HandSPX.excO C h1.objs.size)).get? b = some o := fun _ _ z => Heap.get?_push_of_some _ (Heap.get?_push_of_some _ z)
  have at1 : ((h1.push (PySem.W.kdv_tup us)).push (PySem.HandSPX.excO C h1.objs.size)).get? (h1.objs.size + 1) = some (PySem.HandSPX.excO C h1.objs.size) := by heap_get
  have J2 := J.laid (t' := t1) (a := h1.objs.size + 1) (o := exo (h1.objs.size + 1) C none) (h' := (h1.push (PySem.W.kdv_tup us)).push (PySem.HandSPX.excO C h1.objs.size)) kp up (exo_ok at1)
  rw [List.append_nil] at q2
  have rv2 : Vals (V.ref (h1.objs.size + 1) :: vs) (Value.ref (h1.objs.size + 1) :: us) := Paired.cons rfl rv1
  have len2 : (Value.ref (h1.objs.size + 1) :: us ++ []).length = ps.length := by rw [List.append_nil, ← rv2.length]; exact F1.len _ _ _ _ q2
  have lus : us.length ≤ sizeLine := by rw [← Paired.length rv1, sizeLine_eq]; omega
  have bd := hb _ (Value.ref (h1.objs.size + 1) :: us) J2.kIn len2
  rw [List.append_nil] at bd
  refine wpAny_call (PySem.HandSPX.call_own F.excBase_ValueError (fun Y => PySem.HandSPX.refsVE_contains Y bm hbm) (J.kIn _ _ hC) (PySem.W.looks_findIn J.kIn iC) (fun v => PySem.W.bind_fn J.kIn v tI) lus
    (codeAny_mono (F1.run _ X.stack _ _ ⟨_, []⟩ _ _ _ (fun _ _ _ => False) (hr.make C us []) (J2.env0.make C us []) bd rv2 q2) fun r s' z => ?_))
  match r, z with
  | .error _, z => exact z.elim
  | .ok .next, z => exact False.elim z
  | .ok .brk, z => exact False.elim z
  | .ok .cont, z => exact False.elim z
  | .ok (.ret u), z =>
    obtain ⟨v, H2, os2, ag2, un2, hok2, rv, ev, d, fs, ea, ed, nd, q3⟩ := z
    subst ev
    obtain ⟨h2, g2, d2, t2, o2⟩ := s'
    obtain ⟨t0, G, JG, kG, ge, hoe, na⟩ := mk_end0 (d2 := d2) (t2 := t2) J up kp un2 hok2 os2 ag2 ea ed nd
    exact ⟨rv, h1.objs.size + 1, _, _, ⟨G, g2, d2, t2, o2⟩, _, .ref C, some d, rfl, JG, kG, ge, hoe, ⟨rfl, rfl, fun _ hv => by cases hv; rfl⟩, rfl, rfl, na, rfl, ag2, raises_own T.exC T.tyC, q3⟩
theorem ds_raiseF {x : Str} {C fI : Addr} {f : Str} {k : Nat} {fd : FuncData} {ps : List Str} {e : Expr} {pa : TAd} {p pos pos2 : Pos} (hc : X.calm = true) (tk : L2N.Takes X (WE0 E)) (T : OexC X.K C) (iC : PySem.W.findIn X.K (.ref C) "__init__" = some (some (.ref fI))) (tI : PySem.W.typeIn X.K (.ref fI) = some (.type "function"))
    (F1 : FnOk X.prog X.w X.K X.mg X.base CX0 k fI fd ps (spInit C f)) (hr : Room (k + 1) X.A) (hb : Binds X.K fd ps []) (hm : X.mg x = some (.ref C)) (ha : PAd X E [e] pa) (hg : Gl X x := by rfl) (hdb : (x == ("__debug__" : Str)) = false := by decide) (he : starEach (e :: []) X.env = (false, eval e X.env) :: starEach [] X.env := by rfl) (hpl : (backTo pos (starEach [] X.env)).any (·.1) = false := by rfl) :
    PSd X E (.Raise (some (.Call (.Name x p) [e] [] pos)) none pos2) (pRaiseF C f pa) := by
  obtain ⟨ta, a1, k1⟩ := ha.ex
  refine ⟨_, L2N.ps_raise hc tk (pmk_oexN T iC tI F1 hr hb hg hm a1 hdb he hpl), fun H0 B0 ρ σ Hb H Z Dn R q z => ?_⟩
  refine k1 _ _ _ _ _ _ _ Z.ex _ R q (fun ds vs Hb1 H1 kd g1 d1 => ?_) z.ex
  split at kd
  · rename_i d
    obtain ⟨v, rfl, h1⟩ := vals1 d1
    refine ⟨by show 1 ≤ 1000; decide, fun a ha => ?_⟩
    refine ⟨a, v, rfl, upd_same, fun dd hd hne => ?_⟩
    rw [upd_ne hne] at hd
    refine ⟨rfl, dd, [(f, v)], upd_same, by rw [upd_ne hne, upd_same], hd, ?_⟩
    rw [made_heap ha hd hne]
    have g2 : Grow H1 Hb1 (upd H1 dd (.xd [(f, v)])) Hb1 := Grow.own g1.sub hd
    exact z.ex _ kd Hb1 _ ((R.more g1).grow.trans g2) dd v upd_same h1
  · exact kd.elim
end
end Pu
/-! Pu6: short names, calls by bundles, a chain of three comparisons. -/
namespace Pu
open PySem PySem.Spec PyProof.Rows L2
abbrev dAdd := dI0 fun i j => .int (i + j)
abbrev dSub := dI0 fun i j => .int (i - j)
abbrev dLt := dI0 fun i j => .bl (decide (i < j))
abbrev dLe := dI0 fun i j => .bl (decide (i ≤ j))
abbrev dGt := dI0 fun i j => .bl (decide (j < i))
abbrev dGe := dI0 fun i j => .bl (decide (j ≤ i))
abbrev dMul := dI CMul fun i j => .int (i * j)
abbrev dMulW := dI CMulW fun i j => .int (i * j)
abbrev dFdiv := dI CDiv fun i j => .int (i / j)
abbrev dFdivW := dI CDivW fun i j => .int (i / j)
abbrev dMod := dI (fun _ j => 0 < j) fun i j => .int (i % j)
abbrev dPow := dI CPow fun i j => .int (i ^ j.toNat)
abbrev dEqq := dEq false
abbrev dNe := dEq true

section
variable {X : Cx} {E : XK}
/-! ### a op b op' c op'' d -/
def tChain3 (r r' r'' : R2) (ta tb tc td : TE) : TE := fun σ H Q => ta σ H fun x H1 => tb σ H1 fun y H2 => r x y H2 fun z H3 => ∃ k, z = .bl k ∧
  (if k = true then tc σ H3 fun y' H4 => r' y y' H4 fun z' H5 => ∃ k', z' = .bl k' ∧ (if k' = true then td σ H5 fun w H6 => r'' y' w H6 Q else Q (.bl false) H5) else Q (.bl false) H3)
theorem pe_chain3 {a b c d : Expr} {op op' op'' : CmpOp} {r r' r'' : R2} {ta tb tc td : TE} {pos : Pos} (ho : OpR X (compareOp op) r) (ho' : OpR X (compareOp op') r') (ho'' : OpR X (compareOp op'') r'') (ha : PE X a ta) (hb : PE X b tb) (hc : PE X c tc) (hd : PE X d td)
    (hm : lastMarks [op, op', op''] [b, c, d] = false := by with_unfolding_all rfl) : PE X (.Compare a [op, op', op''] [b, c, d] pos) (tChain3 r r' r'' ta tb tc td) := by
  refine ⟨fun pins s σ H Q I h => ?_⟩
  refine Compare_chain (thn (ha.run pins s σ H _ I h) fun v s1 ⟨x, H1, I1, r1, q1⟩ => chain_link (thn (hb.run pins s1 σ H1 _ I1 q1) fun u s2 ⟨y, H2, I2, r2, q2⟩ =>
    thn (ho pins s2 σ H2 x y v u _ I2 r1 r2 q2) fun e1 s3 ⟨z, H3, I3, r3, k, ez, q3⟩ => ?_)) hm
  subst ez
  cases r3
  refine wpAny_truthy_bool ?_
  cases k with
  | false => exact ite_ff ⟨.bl false, H3, I3, rfl, q3⟩
  | true =>
    refine ite_tt (chain_link (thn (hc.run pins s3 σ H3 _ I3 q3) fun u' s4 ⟨y', H4, I4, r4, q4⟩ => thn (ho' pins s4 σ H4 y y' u u' _ I4 r2 r4 q4) fun e2 s5 ⟨z', H5, I5, r5, k', ez', q5⟩ => ?_))
    subst ez'
    cases r5
    refine wpAny_truthy_bool ?_
    cases k' with
    | false => exact ite_ff ⟨.bl false, H5, I5, rfl, q5⟩
    | true => exact ite_tt (chain_last (thn (hd.run pins s5 σ H5 _ I5 q5) fun w' s6 ⟨w, H6, I6, r6, q6⟩ => ho'' pins s6 σ H6 y' w u' w' Q I6 r4 r6 q6))
def pChain3 (rd rd' rd'' : D → D → KD → Prop) (pa pb pc pd : TEd) : TEd := fun ρ K J => pa ρ (fun a => pb ρ (fun b => rd a.d b.d fun z => bD z.d (pc ρ (fun c => rd' b.d c.d fun z' => bD z'.d (pd ρ (fun d => rd'' c.d d.d K) J) (K (.ro (.bl false)))) J) (K (.ro (.bl false)))) J) J
theorem de_chain3 {a b c d : Expr} {op op' op'' : CmpOp} {r r' r'' : R2} {rd rd' rd'' : D → D → KD → Prop} {pa pb pc pd : TEd} {pos : Pos} (ho : OpR X (compareOp op) r) (hd : OpD r rd) (ho' : OpR X (compareOp op') r') (hd' : OpD r' rd') (ho'' : OpR X (compareOp op'') r'') (hd'' : OpD r'' rd'') (ha : PEd X E a pa) (hb : PEd X E b pb) (hc : PEd X E c pc) (hdd : PEd X E d pd)
    (hm : lastMarks [op, op', op''] [b, c, d] = false := by rfl) : PEd X E (.Compare a [op, op', op''] [b, c, d] pos) (pChain3 rd rd' rd'' pa pb pc pd) := by
  obtain ⟨ta, h1, k1⟩ := ha.ex
  obtain ⟨tb, h2, k2⟩ := hb.ex
  obtain ⟨tc, h3, k3⟩ := hc.ex
  obtain ⟨td, h4, k4⟩ := hdd.ex
  refine ⟨_, pe_chain3 ho ho' ho'' h1 h2 h3 h4 hm, fun H0 B0 ρ σ Hb H K J Q R p kq kx => ?_⟩
  refine k1 _ _ _ _ _ _ _ J _ R p (fun a ka => RetOk.data fun v Hb1 H1 g1 d1 => ?_) kx
  refine k2 _ _ _ _ _ _ _ J _ (R.more g1) ka (fun b kb => RetOk.data fun u Hb2 H2 g2 d2 => ?_) kx
  refine hd Hb2 H2 _ _ v u _ _ g2.sub (d1.mono g2.bot) d2 kb fun r kr => RetOk.data fun z Hb3 H3 g3 d3 => ?_
  unfold bD at kr
  split at kr
  · rename_i e
    rw [e] at d3
    refine ⟨true, d3.bl_, ?_⟩
    rw [if_pos rfl]
    refine k3 _ _ _ _ _ _ _ J _ (((R.more g1).more g2).more g3) kr (fun c kc => RetOk.data fun y Hb4 H4 g4 d4 => ?_) kx
    refine hd' Hb4 H4 _ _ u y _ _ g4.sub (d2.mono (g3.bot.trans g4.bot)) d4 kc fun r kr => RetOk.data fun z' Hb5 H5 g5 d5 => ?_
    unfold bD at kr
    split at kr
    · rename_i e'
      rw [e'] at d5
      refine ⟨true, d5.bl_, ?_⟩
      rw [if_pos rfl]
      refine k4 _ _ _ _ _ _ _ J _ (((((R.more g1).more g2).more g3).more g4).more g5) kr (fun dd kd => RetOk.data fun w Hb6 H6 g6 d6 => ?_) kx
      exact hd'' Hb6 H6 _ _ y w K Q g6.sub (d4.mono (g5.bot.trans g6.bot)) d6 kd fun r kr => (kq r kr).back (((((g1.trans g2).trans g3).trans g4).trans g5).trans g6)
    · rename_i e'
      rw [e'] at d5
      refine ⟨false, d5.bl_, ?_⟩
      rw [if_neg Bool.false_ne_true]
      exact kq _ kr _ Hb5 H5 ((((g1.trans g2).trans g3).trans g4).trans g5) DV.mk_bl
    · exact kr.elim
  · rename_i e
    rw [e] at d3
    refine ⟨false, d3.bl_, ?_⟩
    rw [if_neg Bool.false_ne_true]
    exact kq _ kr _ Hb3 H3 ((g1.trans g2).trans g3) DV.mk_bl
  · exact kr.elim
/-- as a test -/
theorem pt_chain3 {a b c d : Expr} {op op' op'' : CmpOp} {r r' r'' : R2} {ta tb tc td : TE} {pos : Pos} (ho : OpR X (compareOp op) r) (ho' : OpR X (compareOp op') r') (ho'' : OpR X (compareOp op'') r'') (ha : PE X a ta) (hb : PE X b tb) (hc : PE X c tc) (hd : PE X d td)
    (hm : lastMarks [op, op', op''] [b, c, d] = false := by with_unfolding_all rfl) : PT X (.Compare a [op, op', op''] [b, c, d] pos) (tTest (tChain3 r r' r'' ta tb tc td)) := by
  refine ⟨fun pins s σ H Q I h => ?_⟩
  refine isTrue_chain (thn (ha.run pins s σ H _ I h) fun v s1 ⟨x, H1, I1, r1, q1⟩ => test_link (thn (hb.run pins s1 σ H1 _ I1 q1) fun u s2 ⟨y, H2, I2, r2, q2⟩ =>
    thn (ho pins s2 σ H2 x y v u _ I2 r1 r2 q2) fun e1 s3 ⟨z, H3, I3, r3, k, ez, q3⟩ => ?_)) hm
  subst ez
  cases r3
  refine wpAny_truthy_bool ?_
  cases k with
  | false =>
    obtain ⟨kf, ef, qf⟩ := q3
    cases ef
    exact ite_ff ⟨H3, I3, qf⟩
  | true =>
    refine ite_tt (test_link (thn (hc.run pins s3 σ H3 _ I3 q3) fun u' s4 ⟨y', H4, I4, r4, q4⟩ => thn (ho' pins s4 σ H4 y y' u u' _ I4 r2 r4 q4) fun e2 s5 ⟨z', H5, I5, r5, k', ez', q5⟩ => ?_))
    subst ez'
    cases r5
    refine wpAny_truthy_bool ?_
    cases k' with
    | false =>
      obtain ⟨kf, ef, qf⟩ := q5
      cases ef
      exact ite_ff ⟨H5, I5, qf⟩
    | true =>
      refine ite_tt (test_last (thn (hd.run pins s5 σ H5 _ I5 q5) fun w' s6 ⟨w, H6, I6, r6, q6⟩ => thn (ho'' pins s6 σ H6 y' w u' w' _ I6 r4 r6 q6) fun e3 s7 ⟨z3, H7, I7, r7, k3, ez3, q7⟩ => ?_))
      subst ez3
      cases r7
      exact wpAny_truthy_bool ⟨H7, I7, q7⟩
theorem dt_chain3 {a b c d : Expr} {op op' op'' : CmpOp} {r r' r'' : R2} {rd rd' rd'' : D → D → KD → Prop} {pa pb pc pd : TEd} {pos : Pos} (ho : OpR X (compareOp op) r) (hd : OpD r rd) (ho' : OpR X (compareOp op') r') (hd' : OpD r' rd') (ho'' : OpR X (compareOp op'') r'') (hd'' : OpD r'' rd'') (ha : PEd X E a pa) (hb : PEd X E b pb) (hc : PEd X E c pc) (hdd : PEd X E d pd)
    (hm : lastMarks [op, op', op''] [b, c, d] = false := by rfl) : PTd X E (.Compare a [op, op', op''] [b, c, d] pos) (pB (pChain3 rd rd' rd'' pa pb pc pd)) := by
  obtain ⟨ta, h1, k1⟩ := ha.ex
  obtain ⟨tb, h2, k2⟩ := hb.ex
  obtain ⟨tc, h3, k3⟩ := hc.ex
  obtain ⟨td, h4, k4⟩ := hdd.ex
  refine ⟨_, pt_chain3 ho ho' ho'' h1 h2 h3 h4 hm, fun H0 B0 ρ σ Hb H K J Q R p kq kx => ?_⟩
  refine k1 _ _ _ _ _ _ _ J _ R p (fun a ka => RetOk.data fun v Hb1 H1 g1 d1 => ?_) kx
  refine k2 _ _ _ _ _ _ _ J _ (R.more g1) ka (fun b kb => RetOk.data fun u Hb2 H2 g2 d2 => ?_) kx
  refine hd Hb2 H2 _ _ v u _ _ g2.sub (d1.mono g2.bot) d2 kb fun r kr => RetOk.data fun z Hb3 H3 g3 d3 => ?_
  unfold bD at kr
  split at kr
  · rename_i e
    rw [e] at d3
    refine ⟨true, d3.bl_, ?_⟩
    rw [if_pos rfl]
    refine k3 _ _ _ _ _ _ _ J _ (((R.more g1).more g2).more g3) kr (fun c kc => RetOk.data fun y Hb4 H4 g4 d4 => ?_) kx
    refine hd' Hb4 H4 _ _ u y _ _ g4.sub (d2.mono (g3.bot.trans g4.bot)) d4 kc fun r kr => RetOk.data fun z' Hb5 H5 g5 d5 => ?_
    unfold bD at kr
    split at kr
    · rename_i e'
      rw [e'] at d5
      refine ⟨true, d5.bl_, ?_⟩
      rw [if_pos rfl]
      refine k4 _ _ _ _ _ _ _ J _ (((((R.more g1).more g2).more g3).more g4).more g5) kr (fun dd kd => RetOk.data fun w Hb6 H6 g6 d6 => ?_) kx
      refine hd'' Hb6 H6 _ _ y w _ _ g6.sub (d4.mono (g5.bot.trans g6.bot)) d6 kd fun r kr => RetOk.data fun z3 Hb7 H7 g7 d7 => ?_
      split at kr
      · rename_i b3 e3
        rw [e3] at d7
        exact ⟨b3, d7.bl_, kq b3 Hb7 H7 kr ((((((g1.trans g2).trans g3).trans g4).trans g5).trans g6).trans g7)⟩
      · exact kr.elim
    · rename_i e'
      rw [e'] at d5
      refine ⟨false, d5.bl_, ?_⟩
      rw [if_neg Bool.false_ne_true]
      exact ⟨false, rfl, kq _ Hb5 H5 kr ((((g1.trans g2).trans g3).trans g4).trans g5)⟩
    · exact kr.elim
  · rename_i e
    rw [e] at d3
    refine ⟨false, d3.bl_, ?_⟩
    rw [if_neg Bool.false_ne_true]
    exact ⟨false, rfl, kq _ Hb3 H3 kr ((g1.trans g2).trans g3)⟩
  · exact kr.elim
/-! ### x in a list that is only looked at -/
def OpDB (r : R2) (rd : D → D → KD → Prop) : Prop := ∀ Hb H (x y : D) (v u : V) (K : KD) (Q : VK), Same Hb H → DV Hb x v → DB Hb H y u → rd x y K → (∀ r, K r → RetOk H Hb Q r) → r v u H Q
theorem od_inIB {neg : Bool} {K0 : PySem.W.Frag} : OpDB (rIn K0 neg) (dInI neg) := by
  intro Hb H x y v u K Q s dx dy k kq
  unfold dInI at k
  split at k
  · rename_i i ds
    obtain ⟨ns, rfl, k⟩ := k
    obtain ⟨p, xs, e1, e2, e3⟩ := dy.list s
    have ex := e3.ints
    subst ex
    rw [dx.int_]
    refine ⟨p, _, e1, .inl (SqL.of e2), rfl, all_flat ns, ?_⟩
    rw [inV_int]
    exact kq _ k _ Hb H (Grow.refl s) DV.mk_bl
  · exact k.elim
theorem de_cmpB {a b : Expr} {op : CmpOp} {r : R2} {rd : D → D → KD → Prop} {pa pb : TEd} {pos : Pos} (ho : OpR X (compareOp op) r) (hd : OpDB r rd) (ha : PEd X E a pa) (hb : PBd X E b pb) (hm : behindInMarks op b = false := by first | exact nomark _ | rfl) : PEd X E (.Compare a [op] [b] pos) (pOp rd pa pb) := by
  obtain ⟨ta, h1, k1⟩ := ha.ex
  obtain ⟨tb, h2, k2⟩ := hb.ex
  refine ⟨_, pe_cmpR ho h1 h2 hm, fun H0 B0 ρ σ Hb H K J Q R p kq kx => ?_⟩
  refine k1 _ _ _ _ _ _ _ J _ R p (fun a ka => RetOk.data fun v Hb1 H1 g1 d1 => ?_) kx
  refine k2 _ _ _ _ _ _ _ J _ (R.more g1) ka (fun b u Hb2 H2 kb g2 d2 => ?_) kx
  exact hd Hb2 H2 _ _ v u K Q g2.sub (d1.mono g2.bot) d2 kb fun r kr => (kq r kr).back (g1.trans g2)
theorem dt_cmpB {a b : Expr} {op : CmpOp} {r : R2} {rd : D → D → KD → Prop} {pa pb : TEd} {pos : Pos} (ho : OpR X (compareOp op) r) (hd : OpDB r rd) (ha : PEd X E a pa) (hb : PBd X E b pb) (hm : behindInMarks op b = false := by first | exact nomark _ | rfl) : PTd X E (.Compare a [op] [b] pos) (pB (pOp rd pa pb)) := by
  obtain ⟨ta, h1, k1⟩ := ha.ex
  obtain ⟨tb, h2, k2⟩ := hb.ex
  refine ⟨_, pt_cmpR ho h1 h2 hm, fun H0 B0 ρ σ Hb H K J Q R p kq kx => ?_⟩
  refine k1 _ _ _ _ _ _ _ J _ R p (fun a ka => RetOk.data fun v Hb1 H1 g1 d1 => ?_) kx
  refine k2 _ _ _ _ _ _ _ J _ (R.more g1) ka (fun b u Hb2 H2 kb g2 d2 => ?_) kx
  refine hd Hb2 H2 _ _ v u _ _ g2.sub (d1.mono g2.bot) d2 kb fun r kr => RetOk.data fun z Hb3 H3 g3 d3 => ?_
  split at kr
  · rename_i b e
    rw [e] at d3
    exact ⟨b, d3.bl_, kq b Hb3 H3 kr ((g1.trans g2).trans g3)⟩
  · exact kr.elim
/-! ### calls by bundles -/
structure Cl (P : Program) (w : World) (K : PySem.W.Frag) (mg : Str → Option Value) (base : Heap) (CX : CXT) (k : Nat) (x : Str) (S : SpecD) : Prop where
  ex : ∃ f fd ps, FnOk P w K mg base CX k f fd ps (spD S) ∧ mg x = some (.ref f) ∧ PySem.W.keepIn K (.ref f) = true ∧ Binds K fd ps []
theorem de_callC {S : SpecD} {CX : CXT} {k : Nat} {x : Str} {p pos : Pos} {e : Expr} {es : List Expr} {pa : TAd} (C : Cl X.prog X.w X.K X.mg X.base CX k x S) (hr : Room k X.A) (hx : Passes CX X E) (ha : PAd X E (e :: es) pa) (hg : Gl X x := by rfl) (hdb : (x == ("__debug__" : Str)) = false := by decide)
    (he : starEach (e :: es) X.env = (false, eval e X.env) :: starEach es X.env := by rfl) (hpl : (backTo pos (starEach es X.env)).any (·.1) = false := by rfl) : PEd X E (.Call (.Name x p) (e :: es) [] pos) (pCall S pa) := by
  obtain ⟨f, fd, ps, F, hm, hk, hb⟩ := C.ex
  exact de_call F hr hm hk hb hx ha hg hdb he hpl
theorem px0 {X : Cx} {E : XK} : Passes CX0 X E := fun _ _ _ _ _ _ _ h => h.elim
theorem pxL {X : Cx} : Passes (L2N.CX X.prog X.w) X E0 := fun _ _ _ _ _ _ _ h => by
  obtain ⟨_, _, _, _, _, _, _, _, _, _, _, _, z⟩ := h
  exact z.elim
end
/-- an own error with one field: what a raise of it needs -/
structure RFb (P : Program) (w : World) (K : PySem.W.Frag) (mg : Str → Option Value) (base : Heap) (k : Nat) (C : Addr) (x f : Str) : Prop where
  ex : ∃ fI fd ps, OexC K C ∧ PySem.W.findIn K (.ref C) "__init__" = some (some (.ref fI)) ∧ PySem.W.typeIn K (.ref fI) = some (.type "function") ∧ FnOk P w K mg base CX0 k fI fd ps (spInit C f) ∧ Binds K fd ps [] ∧ mg x = some (.ref C)
theorem ds_raiseFC {X : Cx} {E : XK} {x : Str} {C : Addr} {f : Str} {k : Nat} {e : Expr} {pa : TAd} {p pos pos2 : Pos} (B : RFb X.prog X.w X.K X.mg X.base k C x f) (hc : X.calm = true) (tk : L2N.Takes X (WE0 E)) (hr : Room (k + 1) X.A) (ha : PAd X E [e] pa) (hg : Gl X x := by rfl) (hdb : (x == ("__debug__" : Str)) = false := by decide)
    (he : starEach (e :: []) X.env = (false, eval e X.env) :: starEach [] X.env := by rfl) (hpl : (backTo pos (starEach [] X.env)).any (·.1) = false := by rfl) : PSd X E (.Raise (some (.Call (.Name x p) [e] [] pos)) none pos2) (pRaiseF C f pa) := by
  obtain ⟨fI, fd, ps, T, iC, tI, F1, hb, hm⟩ := B.ex
  exact ds_raiseF hc tk T iC tI F1 hr hb hm ha hg hdb he hpl
section
variable {CX : CXT} {P : Program} {w : World} {K : PySem.W.Frag} {mg : Str → Option Value} {base : Heap} {N : List Str} {qual : Str} {scope : Scope} {f : Addr} {cd : Value} {A : Around} {outer : List Env} {s : Shared} {H : Hp} {E : XK}
/-- a def's own body: what a loop wants; what is raised; what a callee raises -/
theorem pxO : PassesOwn (model (cxOf CX P w K mg base N qual scope f cd A outer s H E).prog (cxOf CX P w K mg base N qual scope f cd A outer s H E).w) (cxOf CX P w K mg base N qual scope f cd A outer s H E).A (cxOf CX P w K mg base N qual scope f cd A outer s H E).env (cxOf CX P w K mg base N qual scope f cd A outer s H E).xe := PassesOwn.leaving
theorem pxT : L2N.Takes (cxOf (L2N.CX P w) P w K mg base N qual scope f cd A outer s H E) (WE0 E) := L2N.takes_of rfl rfl rfl rfl
theorem pxR_of : Passes (L2N.CX P w) (cxOf (L2N.CX P w) P w K mg base N qual scope f cd A outer s H E) E := L2N.passes_call pxT fun _ _ _ _ h => h
end
end Pu
set_option maxHeartbeats 200000
namespace Pu
open PySem PySem.Spec PyProof.Rows L2
/-- where the classes stand -/
structure Ads where
  Meter : Addr
  BadNet : Addr
  BadMeter : Addr
  NoHeights : Addr
end Pu
set_option maxHeartbeats 0
/-! the text's facts: printed by gen_d.py -/
namespace Pu
open PySem PySem.Spec PyProof.Rows L2
def top (i : Nat) : Stmt := PySem.Challenge.pw_surelyseen_k43_whole_overspent.main.body.getD i (.Pass ⟨0, 0, 0, 0⟩)
def inCls (s : Stmt) (j : Nat) : Stmt := match s with
  | .ClassDef (body := b) .. => b.getD j (.Pass ⟨0, 0, 0, 0⟩)
  | _ => .Pass ⟨0, 0, 0, 0⟩
def d_step_parts : He.DefD := ⟨("step_parts", none), "step_parts", "step_parts", defArgs (top 6), defBody (top 6), defScope (top 6), [], []⟩
def d_check_points : He.DefD := ⟨("check_points", none), "check_points", "check_points", defArgs (top 8), defBody (top 8), defScope (top 8), [], []⟩
def d_all_steps : He.DefD := ⟨("all_steps", none), "all_steps", "all_steps", defArgs (top 9), defBody (top 9), defScope (top 9), [], []⟩
def d_lowered : He.DefD := ⟨("lowered", none), "lowered", "lowered", defArgs (top 10), defBody (top 10), defScope (top 10), [], []⟩
def d_ring_through : He.DefD := ⟨("ring_through", none), "ring_through", "ring_through", defArgs (top 11), defBody (top 11), defScope (top 11), [], []⟩
def d_ring_among : He.DefD := ⟨("ring_among", none), "ring_among", "ring_among", defArgs (top 12), defBody (top 12), defScope (top 12), [], []⟩
def d_heights_or_ring : He.DefD := ⟨("heights_or_ring", none), "heights_or_ring", "heights_or_ring", defArgs (top 13), defBody (top 13), defScope (top 13), [], []⟩
def d_ways_from : He.DefD := ⟨("ways_from", none), "ways_from", "ways_from", defArgs (top 14), defBody (top 14), defScope (top 14), [], []⟩
def d_check_heights : He.DefD := ⟨("check_heights", none), "check_heights", "check_heights", defArgs (top 15), defBody (top 15), defScope (top 15), [], []⟩
def d_cheapest_way : He.DefD := ⟨("cheapest_way", none), "cheapest_way", "cheapest_way", defArgs (top 16), defBody (top 16), defScope (top 16), [], []⟩
def d_frozen : He.DefD := ⟨("frozen", none), "frozen", "frozen", defArgs (top 18), defBody (top 18), defScope (top 18), [], []⟩
def d_keep_lower : He.DefD := ⟨("keep_lower", none), "keep_lower", "keep_lower", defArgs (top 22), defBody (top 22), defScope (top 22), [], []⟩
def d_step_costs : He.DefD := ⟨("step_costs", none), "step_costs", "step_costs", defArgs (top 23), defBody (top 23), defScope (top 23), [], []⟩
def d_add_middles : He.DefD := ⟨("add_middles", none), "add_middles", "add_middles", defArgs (top 24), defBody (top 24), defScope (top 24), [], []⟩
def d_least_costs : He.DefD := ⟨("least_costs", none), "least_costs", "least_costs", defArgs (top 25), defBody (top 25), defScope (top 25), [], []⟩
def d_check_fact : He.DefD := ⟨("check_fact", none), "check_fact", "check_fact", defArgs (top 26), defBody (top 26), defScope (top 26), [], []⟩
def d_meter_facts : He.DefD := ⟨("meter_facts", none), "meter_facts", "meter_facts", defArgs (top 28), defBody (top 28), defScope (top 28), [], []⟩
def d_check_width : He.DefD := ⟨("check_width", none), "check_width", "check_width", defArgs (top 30), defBody (top 30), defScope (top 30), [], []⟩
def d_limit_facts : He.DefD := ⟨("limit_facts", none), "limit_facts", "limit_facts", defArgs (top 31), defBody (top 31), defScope (top 31), [], []⟩
def d_budget_states : He.DefD := ⟨("budget_states", none), "budget_states", "budget_states", defArgs (top 32), defBody (top 32), defScope (top 32), [], []⟩
def d_overspent : He.DefD := ⟨("overspent", none), "overspent", "overspent", defArgs (top 33), defBody (top 33), defScope (top 33), [], []⟩
def d__law_cell : He.DefD := ⟨("_law_cell", none), "_law_cell", "_law_cell", defArgs (top 35), defBody (top 35), defScope (top 35), [], []⟩
def d__law_draw : He.DefD := ⟨("_law_draw", none), "_law_draw", "_law_draw", defArgs (top 36), defBody (top 36), defScope (top 36), [], []⟩
def d__law_is_number : He.DefD := ⟨("_law_is_number", none), "_law_is_number", "_law_is_number", defArgs (top 37), defBody (top 37), defScope (top 37), [], []⟩
def d__law_same : He.DefD := ⟨("_law_same", none), "_law_same", "_law_same", defArgs (top 38), defBody (top 38), defScope (top 38), [], []⟩
def d__law_bounds : He.DefD := ⟨("_law_bounds", none), "_law_bounds", "_law_bounds", defArgs (top 39), defBody (top 39), defScope (top 39), [], []⟩
def d__law_truth : He.DefD := ⟨("_law_truth", none), "_law_truth", "_law_truth", defArgs (top 40), defBody (top 40), defScope (top 40), [], []⟩
def d__law_fact : He.DefD := ⟨("_law_fact", none), "_law_fact", "_law_fact", defArgs (top 41), defBody (top 41), defScope (top 41), [], []⟩
def d__law_wrong_fact : He.DefD := ⟨("_law_wrong_fact", none), "_law_wrong_fact", "_law_wrong_fact", defArgs (top 42), defBody (top 42), defScope (top 42), [], []⟩
def d__law_facts : He.DefD := ⟨("_law_facts", none), "_law_facts", "_law_facts", defArgs (top 43), defBody (top 43), defScope (top 43), [], []⟩
def d__law_rules : He.DefD := ⟨("_law_rules", none), "_law_rules", "_law_rules", defArgs (top 44), defBody (top 44), defScope (top 44), [], []⟩
def d__law_readings : He.DefD := ⟨("_law_readings", none), "_law_readings", "_law_readings", defArgs (top 45), defBody (top 45), defScope (top 45), [], []⟩
def d__law_relaxed : He.DefD := ⟨("_law_relaxed", none), "_law_relaxed", "_law_relaxed", defArgs (top 46), defBody (top 46), defScope (top 46), [], []⟩
def d__law_steps : He.DefD := ⟨("_law_steps", none), "_law_steps", "_law_steps", defArgs (top 47), defBody (top 47), defScope (top 47), [], []⟩
def d__law_is_low_ring : He.DefD := ⟨("_law_is_low_ring", none), "_law_is_low_ring", "_law_is_low_ring", defArgs (top 48), defBody (top 48), defScope (top 48), [], []⟩
def d__law_is_way : He.DefD := ⟨("_law_is_way", none), "_law_is_way", "_law_is_way", defArgs (top 49), defBody (top 49), defScope (top 49), [], []⟩
def d__law_budget : He.DefD := ⟨("_law_budget", none), "_law_budget", "_law_budget", defArgs (top 50), defBody (top 50), defScope (top 50), [], []⟩
def d__law_tied_budget : He.DefD := ⟨("_law_tied_budget", none), "_law_tied_budget", "_law_tied_budget", defArgs (top 51), defBody (top 51), defScope (top 51), [], []⟩
def d__law_over : He.DefD := ⟨("_law_over", none), "_law_over", "_law_over", defArgs (top 52), defBody (top 52), defScope (top 52), [], []⟩
def d__law_limits : He.DefD := ⟨("_law_limits", none), "_law_limits", "_law_limits", defArgs (top 53), defBody (top 53), defScope (top 53), [], []⟩
def d__law_is_run : He.DefD := ⟨("_law_is_run", none), "_law_is_run", "_law_is_run", defArgs (top 54), defBody (top 54), defScope (top 54), [], []⟩
def d__law_spoil : He.DefD := ⟨("_law_spoil", none), "_law_spoil", "_law_spoil", defArgs (top 55), defBody (top 55), defScope (top 55), [], []⟩
def d__law_word : He.DefD := ⟨("_law_word", none), "_law_word", "_law_word", defArgs (top 56), defBody (top 56), defScope (top 56), [], []⟩
def d__law_listed : He.DefD := ⟨("_law_listed", none), "_law_listed", "_law_listed", defArgs (top 57), defBody (top 57), defScope (top 57), [], []⟩
def d__law_table : He.DefD := ⟨("_law_table", none), "_law_table", "_law_table", defArgs (top 58), defBody (top 58), defScope (top 58), [], []⟩
def d__law_reckoned : He.DefD := ⟨("_law_reckoned", none), "_law_reckoned", "_law_reckoned", defArgs (top 59), defBody (top 59), defScope (top 59), [], []⟩
def d__law_shown : He.DefD := ⟨("_law_shown", none), "_law_shown", "_law_shown", defArgs (top 60), defBody (top 60), defScope (top 60), [], []⟩
def d__law_holds : He.DefD := ⟨("_law_holds", none), "_law_holds", "_law_holds", defArgs (top 61), defBody (top 61), defScope (top 61), [], []⟩
def d__law_states_clash : He.DefD := ⟨("_law_states_clash", none), "_law_states_clash", "_law_states_clash", defArgs (top 62), defBody (top 62), defScope (top 62), [], []⟩
def d__law_spent_clash : He.DefD := ⟨("_law_spent_clash", none), "_law_spent_clash", "_law_spent_clash", defArgs (top 63), defBody (top 63), defScope (top 63), [], []⟩
def d__law_states_refused : He.DefD := ⟨("_law_states_refused", none), "_law_states_refused", "_law_states_refused", defArgs (top 64), defBody (top 64), defScope (top 64), [], []⟩
def d__law_spent_refused : He.DefD := ⟨("_law_spent_refused", none), "_law_spent_refused", "_law_spent_refused", defArgs (top 65), defBody (top 65), defScope (top 65), [], []⟩
def d__law_answers : He.DefD := ⟨("_law_answers", none), "_law_answers", "_law_answers", defArgs (top 66), defBody (top 66), defScope (top 66), [], []⟩
def d__law_is_kept : He.DefD := ⟨("_law_is_kept", none), "_law_is_kept", "_law_is_kept", defArgs (top 67), defBody (top 67), defScope (top 67), [], []⟩
def d_law : He.DefD := ⟨("law", none), "law", "law", defArgs (top 68), defBody (top 68), defScope (top 68), [], []⟩
def d_Meter_init : He.DefD := ⟨("Meter", some "__init__"), "__init__", "Meter.__init__", defArgs (inCls (top 27) 0), defBody (inCls (top 27) 0), defScope (inCls (top 27) 0), [], []⟩
def fn0 : List He.DefD := [d_step_parts, d_check_points, d_all_steps, d_lowered, d_ring_through, d_ring_among, d_heights_or_ring, d_ways_from, d_check_heights, d_cheapest_way, d_frozen, d_keep_lower, d_step_costs, d_add_middles, d_least_costs, d_check_fact, d_meter_facts, d_check_width, d_limit_facts, d_budget_states, d_overspent, d__law_cell, d__law_draw, d__law_is_number, d__law_same]
def fn1 : List He.DefD := [d__law_bounds, d__law_truth, d__law_fact, d__law_wrong_fact, d__law_facts, d__law_rules, d__law_readings, d__law_relaxed, d__law_steps, d__law_is_low_ring, d__law_is_way, d__law_budget, d__law_tied_budget, d__law_over, d__law_limits, d__law_is_run, d__law_spoil, d__law_word, d__law_listed, d__law_table, d__law_reckoned, d__law_shown, d__law_holds, d__law_states_clash, d__law_spent_clash]
def fn2 : List He.DefD := [d__law_states_refused, d__law_spent_refused, d__law_answers, d__law_is_kept, d_law, d_Meter_init]
def fn : List He.DefD := fn0 ++ fn1 ++ fn2
def fa0 : List He.Fa := [.glo "step_parts", .glo "check_points", .glo "all_steps", .glo "lowered", .glo "ring_through", .glo "ring_among", .glo "heights_or_ring", .glo "ways_from", .glo "check_heights", .glo "cheapest_way", .glo "frozen", .glo "keep_lower", .glo "step_costs", .glo "add_middles", .glo "least_costs", .glo "check_fact", .glo "meter_facts", .glo "check_width", .glo "limit_facts", .glo "budget_states", .glo "overspent", .glo "_law_cell", .glo "_law_draw", .glo "_law_is_number", .glo "_law_same"]
def fa1 : List He.Fa := [.glo "_law_bounds", .glo "_law_truth", .glo "_law_fact", .glo "_law_wrong_fact", .glo "_law_facts", .glo "_law_rules", .glo "_law_readings", .glo "_law_relaxed", .glo "_law_steps", .glo "_law_is_low_ring", .glo "_law_is_way", .glo "_law_budget", .glo "_law_tied_budget", .glo "_law_over", .glo "_law_limits", .glo "_law_is_run", .glo "_law_spoil", .glo "_law_word", .glo "_law_listed", .glo "_law_table", .glo "_law_reckoned", .glo "_law_shown", .glo "_law_holds", .glo "_law_states_clash", .glo "_law_spent_clash"]
def fa2 : List He.Fa := [.glo "_law_states_refused", .glo "_law_spent_refused", .glo "_law_answers", .glo "_law_is_kept", .glo "law", .glo "WatchError", .glo "BadNet", .glo "NoHeights", .glo "BadMeter", .glo "Meter", .free "len", .free "range", .free "isinstance", .free "int", .free "list", .free "tuple", .free "min", .free "max", .free "sum", .free "bool", .free "str", .free "super", .free "ValueError", .int "MOST_TICKS" 24, .int "MOST_GROWTH" 1000000]
def fa3 : List He.Fa := [.exc "BadNet", .exc "BadMeter", .cls "Meter", .mkr "Meter", .noat "Meter" "facts", .noat "Meter" "high", .noat "Meter" "low", .noat "Meter" "ticks"]
def fa : List He.Fa := fa0 ++ fa1 ++ fa2 ++ fa3
def ads (K : PySem.W.Frag) : Ads := ⟨He.ga K "Meter", He.ga K "BadNet", He.ga K "BadMeter", He.ga K "NoHeights"⟩
def Tx (K : PySem.W.Frag) (mg : Str → Option Value) : Prop := He.SaysD fa fn K ∧ ∃ h : Heap, K.In h ∧ h.Ns mainGlobals mg
section
variable {K : PySem.W.Frag} {mg : Str → Option Value}
theorem Tx.glo (T : Tx K mg) (i : Nat) {x : Str} (h : fa[i]? = some (.glo x)) : mg x = some (.ref (He.ga K x)) := let ⟨c, _, X, G⟩ := T; He.glo_ok X G (c.fact i h)
theorem Tx.free (T : Tx K mg) (i : Nat) {x : Str} (h : fa[i]? = some (.free x)) : mg x = none := let ⟨c, _, X, G⟩ := T; He.free_ok X G (c.fact i h)
theorem Tx.int (T : Tx K mg) (i : Nat) {x : Str} {n : Int} (h : fa[i]? = some (.int x n)) : ∃ t, mg x = some (.int n t) := let ⟨c, _, X, G⟩ := T; He.int_ok X G (c.fact i h)
theorem Tx.cls (T : Tx K mg) (i : Nat) {x : Str} (h : fa[i]? = some (.cls x)) : Cls K (He.ga K x) := He.cls_ok (T.1.fact i h)
theorem Tx.noat (T : Tx K mg) (i : Nat) {x f : Str} (h : fa[i]? = some (.noat x f)) : NoAttr K (He.ga K x) f := He.noat_ok (T.1.fact i h)
theorem Tx.mkr (T : Tx K mg) (i : Nat) {x : Str} (h : fa[i]? = some (.mkr x)) : Mk K (He.ga K x) (He.ma K (He.ga K x) "__init__") := He.mkr_ok (T.1.fact i h)
theorem Tx.exc (T : Tx K mg) (i : Nat) {x : Str} (h : fa[i]? = some (.exc x)) : PySem.W.excIn K (He.ga K x) He.veBase "ValueError.__new__" = true ∧ PySem.W.keepIn K (.ref (He.ga K x)) = true ∧ PySem.W.subIn K (.ref (He.ga K x)) (.type "BaseException") = some true ∧ PySem.W.typeIn K (.ref (He.ga K x)) = some (.type "type") := He.exc_ok (T.1.fact i h)
theorem Tx.fn (T : Tx K mg) (i : Nat) {d : He.DefD} (h : fn[i]? = some d) : ∃ fd, FunD K d.name d.qual d.params d.body d.scope (d.dvs K) (d.kws K) (He.fAd K d.at_) fd := T.1.def_ i h
end
theorem pmk0 {X : Cx} {C : Addr} {x m : Str} {j : Nat} {p p2 pos : Pos} (e : PySem.W.excIn X.K C He.veBase "ValueError.__new__" = true ∧ PySem.W.keepIn X.K (.ref C) = true ∧ PySem.W.subIn X.K (.ref C) (.type "BaseException") = some true ∧ PySem.W.typeIn X.K (.ref C) = some (.type "type")) (g : X.mg x = some (.ref C)) (hg : Gl X x := by rfl) (hdb : (x == ("__debug__" : Str)) = false := by decide) :
    L2N.PMk X (.Call (.Name x p) [.Constant (.str m) j p2] [] pos) (fun _ H Q => Q (.ref C) none H) := L2N.pmk_own PySem.F.excBase_ValueError e.1 g e.2.1 (raises_own e.2.2.1 e.2.2.2) hg hdb
end Pu
namespace Pu
open PySem PySem.Spec PyProof.Rows L2
abbrev Rw : PySem.W.OpenRow := PySem.W.OpenLaw.row PySem.Challenge.rw_surelyseen_k43_whole_overspent
def ls0 : List PySem.Str := ["WatchError", "BadNet", "NoHeights", "BadMeter", "step_parts", "check_points", "all_steps", "lowered", "ring_through", "ring_among", "heights_or_ring", "ways_from", "check_heights", "cheapest_way", "frozen", "MOST_TICKS", "MOST_GROWTH", "keep_lower", "step_costs", "add_middles", "least_costs", "check_fact", "Meter", "meter_facts", "check_width"]
def ls1 : List PySem.Str := ["limit_facts", "budget_states", "overspent", "_law_cell", "_law_draw", "_law_is_number", "_law_same", "_law_bounds", "_law_truth", "_law_fact", "_law_wrong_fact", "_law_facts", "_law_rules", "_law_readings", "_law_relaxed", "_law_steps", "_law_is_low_ring", "_law_is_way", "_law_budget", "_law_tied_budget", "_law_over", "_law_limits", "_law_is_run", "_law_spoil", "_law_word"]
def ls2 : List PySem.Str := ["_law_listed", "_law_table", "_law_reckoned", "_law_shown", "_law_holds", "_law_states_clash", "_law_spent_clash", "_law_states_refused", "_law_spent_refused", "_law_answers", "_law_is_kept"]
def loose : List PySem.Str := ls0 ++ ls1 ++ ls2
end Pu
set_option maxHeartbeats 4000000
/-! Px1: __init__ of an own error that begins with super().__init__(text). -/
namespace Pu
open PySem PySem.Spec PyProof.Rows L2
open PySem.W (ksEnv ksFn)
/-- the context of such a def's body -/
def cxS (P : Program) (w : World) (K : PySem.W.Frag) (mg : Str → Option Value) (base : Heap) (N : List Str) (qual : Str) (scope : Scope) (f : Addr) (cd : Value) (cc : Addr) (A : Around) (outer : List Env) (s : Shared) (H : Hp) : Cx where
  prog := P
  w := w
  K := K
  mg := mg
  base := base
  A := A.deeper (ksEnv qual scope s.heap.objs.size f cd cc)
  N := N
  s_0 := s
  H_0 := H
  env := ksEnv qual scope s.heap.objs.size f cd cc
  outer := outer
  stack := ksEnv qual scope s.heap.objs.size f cd cc :: outer
  ex := []
  calm := true
  fn := fun _ => false
  pn := []
  xe := fun e s' => wpAny (model P w) (A.deeper (ksEnv qual scope s.heap.objs.size f cd cc)) (leaving (ksEnv qual scope s.heap.objs.size f cd cc) e) (fun _ _ => False) (fun _ _ => False) s'
/-- what the written part says of it -/
structure SupF (P : Program) (K : PySem.W.Frag) (C f : Addr) (name qual : Str) (params : Arguments) (body : List Stmt) (scope : Scope) (fd : FuncData) (cda cc : Addr) : Prop where
  fn : ∃ (kV doc pm : Value) (an : Option Addr) (ct oc : Value) (od : Option Addr) (osl : Array (Option Value)), fd = ksFn name qual params body scope .none kV doc pm an (.ref cda) ct cc ∧ K.lookup f = some ⟨oc, od, .func fd, osl⟩
  code : PySem.W.codeIn K (.ref cda) qual = true
  file : ∃ (cl : Value) (cdd : Option Addr) (vs : Array Value) (sl : Array (Option Value)) (file : Str) (tf : Tok), K.lookup cda = some ⟨cl, cdd, .fields vs, sl⟩ ∧ vs[2]? = some (.str file tf) ∧ ((P.main.file : Str) == file) = true
  cell : ∃ (cl : Value) (cld : Option Addr) (sl : Array (Option Value)), K.lookup cc = some ⟨cl, cld, .cell (some (.ref C)), sl⟩
  oex : OexC K C
  self : PySem.W.mroIn K C (.ref C) = some true
  sup : PySem.W.nsIn K mainGlobals "super" = some none
  opq : PySem.W.nsIn K cStatics "thirdparty.any" = some none
  meth : PySem.W.ks_superIn K C C "__init__" = some (some (.builtin "ValueError.__init__"))
  sub : PySem.W.subIn K (.ref C) (.type "ValueError") = some true
/-- how its scope is told -/
structure SupS (scope : Scope) (n1 : Str) : Prop where
  kind : scope.kind = .function
  co : scope.isCoroutine = false
  gen : scope.isGenerator = false
  nocell : ∀ x ∈ scope.names, x.2 ≠ .cell
  self : scope.names.lookup ("self" : Str) = some .local
  par : scope.names.lookup n1 = some .local
  sup : scope.names.lookup ("super" : Str) = some .globalImplicit
  cls : scope.names.lookup ("__class__" : Str) = some .free
  only : ∀ x ∈ scope.names, x.2 = .free → x.1 = ("__class__" : Str)
  ne : (n1 == ("self" : Str)) = false
theorem lookup_cls {cc c : Addr} {x : Str} (h : ([(("__class__" : Str), cc)] : List (Str × Addr)).lookup x = some c) : x = "__class__" ∧ c = cc := by
  rw [List.lookup_cons] at h
  split at h
  · rename_i e
    cases h
    exact ⟨beq_iff_eq.mp e, rfl⟩
  · cases h
section
variable {P : Program} {w : World} {K : PySem.W.Frag} {mg : Str → Option Value} {base : Heap} {C f cda cc : Addr} {name qual n1 : Str} {params : Arguments} {body : List Stmt} {scope : Scope} {fd : FuncData}
theorem inv_startS {A : Around} {outer : List Env} {s : Shared} {H : Hp} {u0 u1 : Value} {v0 v1 : V} {h1 : Heap} {tk : Nat} (Sc : SupS scope n1) (hd : A.handled = none) (e0 : Env0 P w K mg base A outer s H) (hc : ∃ (cl : Value) (cld : Option Addr) (sl : Array (Option Value)), K.lookup cc = some ⟨cl, cld, .cell (some (.ref C)), sl⟩)
    (r0 : RelV v0 u0) (r1 : RelV v1 u1) (hns : h1.Ns s.heap.objs.size (fun x => ([(("self" : Str), u0), (n1, u1)] : List (Str × Value)).reverse.lookup x)) (k : ∀ b o, s.heap.get? b = some o → h1.get? b = some o) :
    Inv (cxS P w K mg base ["self", n1] qual scope f (.ref cda) cc A outer s H) [] [some v0, some v1] H { s with heap := h1, toks := tk } := by
  obtain ⟨cl, cld, csl, hcl⟩ := hc
  have hb : base.get? cc = some ⟨cl, cld, .cell (some (.ref C)), csl⟩ := e0.mod.kin _ _ hcl
  have noA : ∀ b : Addr, b ∉ (cxS P w K mg base ["self", n1] qual scope f (.ref cda) cc A outer s H).ex := fun b z => absurd (show b ∈ ([] : List Addr) from z) (by simp)
  refine ⟨⟨e0.mod, Sc.kind, rfl, rfl, Nat.le_refl _, fun y z c q1 q2 => ?_, fun y hy => ?_, fun y c q => (Bool.noConfusion (show false = true from q)), fun _ => hd, Around.frames_deeper e0.frames, .inr ⟨rfl, rfl⟩, fun b z => absurd z (noA b), e0.bs, e0.bsz, fun b _ _ => noA b, fun b z => absurd z (noA b), e0.funs, e0.frf⟩,
    rfl, e0.bare, Un.kept k, ⟨_, hns, fun i y v q1 q2 q3 => ?_⟩, fun y c q => ?_, e0.hok.fresh (Nat.le_refl _), fun y c q => ?_, fun p hp => absurd (show p ∈ ([] : List (Addr × Obj)) from hp) (by simp), e0.hok.kept k, rfl⟩
  · rw [(lookup_cls q1).1, (lookup_cls q2).1]
  · have hy : scope.names.lookup y = some .cell ∨ scope.names.lookup y = some .free := hy
    rcases hy with hy | hy
    · exact absurd rfl (Sc.nocell _ (PySem.mem_of_lookup hy))
    · have e : y = "__class__" := Sc.only _ (PySem.mem_of_lookup hy) rfl
      subst e
      exact ⟨cc, rfl⟩
  · match i, q1, q2 with
    | 0, q1, q2 =>
      cases q1
      cases q2
      refine ⟨u0, r0, .inl ⟨Sc.self, ?_⟩⟩
      show ([(n1, u1), (("self" : Str), u0)] : List (Str × Value)).lookup ("self" : Str) = some u0
      rw [List.lookup_cons]
      have : (("self" : Str) == n1) = false := by
        have := Sc.ne
        rw [Bool.eq_false_iff] at this ⊢
        exact fun z => this (beq_iff_eq.mpr (beq_iff_eq.mp z).symm)
      rw [this]
      rfl
    | 1, q1, q2 =>
      cases q1
      cases q2
      refine ⟨u1, r1, .inl ⟨Sc.par, ?_⟩⟩
      show ([(n1, u1), (("self" : Str), u0)] : List (Str × Value)).lookup n1 = some u1
      rw [List.lookup_cons, beq_self_eq_true]
    | i + 2, q1, q2 => exact absurd q2 (by simp)
  · obtain ⟨_, rfl⟩ := lookup_cls q
    exact ⟨some (.ref C), _, k _ _ (e0.bs _ _ hb).1, rfl⟩
  · obtain ⟨_, rfl⟩ := lookup_cls q
    exact (e0.bs _ _ hb).2
/-- the method-wrapper is called: the args are laid anew -/
theorem wrapped_init {X : Cx} {pins : List (Addr × Obj)} {σ : L2.St} {H : Hp} {s : Shared} {A : Around} {E : Value → Shared → Prop} {a u C : Addr} {us : List Value} {Q : Value → Shared → Prop} (T : OexC X.K C) (I : Inv X pins σ H s) (e : H a = some (exo a C none)) (hu : s.heap.get? u = some (PySem.W.kxs_mw "ValueError.__init__" a)) (hl : us.length ≤ sizeLine)
    (h : ∀ s', Inv X pins σ H s' → Q .none s') : wpAny (model X.prog X.w) A (call (.ref u) us) Q E s := by
  obtain ⟨nm, q, N, bs, bm, sn, sub, ab, col, dd, k0, k1, k2, k3, k5, hC, hbm⟩ := T.cls
  obtain ⟨t1, ho⟩ := exo_at I.hok e
  have FB := PySem.F.excBase_ValueError
  have hC' := I.kIn _ _ hC
  obtain ⟨hp, g, d, t, os⟩ := s
  refine wpAny_call (codeAny_of_tree ?_)
  show wpAny _ A.in1 (callAny (.ref u) { pos := us, kw := [] }) _ _ _
  simp only [callAny]
  refine wpAny_bind (wpAny_load hu ?_)
  have w1 : (Value.type "method-wrapper" == Value.type "method" || Value.type "method-wrapper" == Value.type "builtin_function_or_method" || Value.type "method-wrapper" == Value.type "method-wrapper") = true := by decide
  simp only [PySem.W.kxs_mw, w1, if_true]
  refine PySem.W.KFB.if_so (by decide) ?_
  refine wpAny_bind (PySem.W.check_bound_init FB.toExcCallFacts hC' ho rfl ?_)
  refine wpAny_bind (wpAny_pure (wpAny_pure ?_))
  refine ⟨plainId_quiet FB.init.plain _, codeAny_builtin FB.initEntry ?_⟩
  refine PySem.W.exc_init_tree ho hl fun h' k hx _ => ?_
  have J := I.write (t' := t) (x := a) (e := a) (o := exo a C none) (by rw [e]; exact True.intro) (.inl rfl) k ⟨_, hx⟩ (exo_ok hx)
  have eu : upd H a (exo a C none) = H := by
    funext b
    by_cases hb : b = a
    · rw [hb, upd_same, e]
    · rw [upd_ne hb]
  rw [eu] at J
  exact h _ J
theorem supInit {p0 p1 ap p2 cp ep : Pos} {m : Str} {j : Nat} {st2 : Stmt} {ar : Arg} {pl : Sem Bool}
    (S : SupF P K C f name qual params [.Expr (.Call (.Attribute (.Call (.Name "super" p0) [] [] p1) "__init__" ap) [.Constant (.str m) j p2] [] cp) ep, st2] scope fd cda cc) (Sc : SupS scope n1)
    (har : (params.posonlyargs ++ params.args).head? = some ar) (hself : ar.arg = ("self" : Str)) (hno : PySem.W.findIn K (.ref C) n1 = some none) (htop : (P.main.scope.names.lookup ("super" : Str)).isSome = false)
    (he : ∀ env : Env, eval (.Call (.Attribute (.Call (.Name "super" p0) [] [] p1) "__init__" ap) [.Constant (.str m) j p2] [] cp) env = (do
      let ov ← attributeBase (.Call (.Name "super" p0) [] [] p1) "__init__" env (eval (.Call (.Name "super" p0) [] [] p1) env)
      standAt ap.atName
      let (g, first) ← holding [ov] (getMethod ov "__init__" pl)
      callWith cp g first (backTo cp (starEach [.Constant (.str m) j p2] env)) []))
    (hs1 : ∀ env : Env, swapsWith (.Call (.Attribute (.Call (.Name "super" p0) [] [] p1) "__init__" ap) [.Constant (.str m) j p2] [] cp) none ep.line env = pure false)
    (hs2 : ∀ (A : Around) (outer : List Env) (s : Shared) (H : Hp), PS (cxS P w K mg base ["self", n1] qual scope f (.ref cda) cc A outer s H) st2 (tOst K n1 (tVar 0) (tVar 1))) :
    FnOk P w K mg base CX0 1 f fd ["self", n1] (spInit C n1) := by
  obtain ⟨kV, doc, pm, an, ct, oc, od, osl, rfl, lk⟩ := S.fn
  refine ⟨fun vs H Q E h => by obtain ⟨a, v, rfl, _⟩ := h; rfl, fun A outer s H args us vs Q E hr e0 hb r hsp => ?_⟩
  obtain ⟨a, v, rfl, ha, hq⟩ := hsp
  cases r with
  | @cons _ u0 _ _ r0 rr =>
  cases rr with
  | @cons _ u1 _ _ r1 rr =>
  cases rr
  obtain rfl : u0 = Value.ref a := r0
  have KX : K.In s.heap := e0.mod.kin.keeps fun b o e => (e0.bs b o e).1
  have lim : s.heap.NoLimit := e0.mod.nolimit.keeps fun b o e => (e0.bs b o e).1
  have hloc : ∀ y ∈ ([(("self" : Str), Value.ref a), (n1, u1)] : List (Str × Value)), scope.names.lookup y.1 = some .local := fun y hy => by
    rcases List.mem_cons.mp hy with rfl | hy
    · exact Sc.self
    · rcases List.mem_cons.mp hy with rfl | hy
      · exact Sc.par
      · cases hy
  refine ks_codeAny_call_defAt (binds := [(("self" : Str), Value.ref a), (n1, u1)]) hr.depth (KX _ _ lk) rfl lim (PySem.W.codeRec_of KX S.code) rfl hb Sc.nocell hloc (fun h0 hns hk => ?_) Sc.co Sc.gen Sc.kind
  have I := inv_startS (P := P) (w := w) (tk := s.toks + 2) Sc hr.hd e0 S.cell (v0 := .ref a) (v1 := v) rfl r1 hns hk (qual := qual) (f := f) (cda := cda)
  refine ks_wpAt_execs_cons (ks_wpAt_Expr_any (env := ksEnv qual scope s.heap.objs.size f (.ref cda) cc) (ks_wpAt_MethodCall ?_ (he _)) (by unfold interactive; rw [show (ksEnv qual scope s.heap.objs.size f (.ref cda) cc).scope.kind = .function from Sc.kind]; rfl) (hs1 _))
  obtain ⟨cl, cdd, vs, sl, file, tf, hcode, hvs, hfile⟩ := S.file
  obtain ⟨cl2, cld, sl2, hcell⟩ := S.cell
  obtain ⟨nm, q, N, bs, bm, sn, sub, ab, col, dd, k0, k1, k2, k3, k5, hC, hbm⟩ := S.oex.cls
  have KI := I.kIn
  obtain ⟨mb, b1, b2⟩ := e0.mod.blt
  refine ks_wpAt_super_base (env := ksEnv qual scope s.heap.objs.size f (.ref cda) cc) Sc.sup Sc.cls (by decide) rfl (KI _ _ lk) rfl har rfl (KI _ _ hcode) rfl hvs hfile htop ?_
  refine PySem.W.ks_loadName_global Sc.kind Sc.sup (Calls.loadGlobal_builtin (env := ksEnv qual scope s.heap.objs.size f (.ref cda) cc) (e0.mod.glob.keeps I.bk) (PySem.W.mg_none_of e0.mod.kin e0.mod.glob S.sup) (b1.keeps I.bk) ((b2 _ (by decide)).trans PyProof.Rows.Boot.«super») ⟨rfl, ?_⟩)
  refine wpAny_loadName_free Sc.kind Sc.cls rfl ⟨_, KI _ _ hcell, rfl⟩ ?_
  obtain ⟨mL, hnL, look⟩ := I.loc
  obtain ⟨uS, rS, lS⟩ := look 0 "self" (.ref a) rfl rfl (.inl Sc.self)
  have eS : mL "self" = some (.ref a) := by
    rcases lS with ⟨_, lS⟩ | ⟨hk2, _⟩
    · rw [lS]; exact congrArg some rS
    · rcases hk2 with hk2 | hk2
      · exact absurd (show some NameKind.local = some NameKind.cell from Sc.self.symm.trans hk2) (by decide)
      · exact absurd (show some NameKind.local = some NameKind.free from Sc.self.symm.trans hk2) (by decide)
  rw [hself]
  refine wpAny_loadName_local (m := mL) Sc.kind Sc.self hnL eS ?_
  obtain ⟨t1, hx⟩ := exo_at I.hok ha
  refine ks_wpAny_isType_cls (KI _ _ hC) rfl ⟨rfl, ?_⟩
  refine ks_wpAny_call_super (KI _ _ hC) rfl hx rfl (fun c z => by cases z) (PySem.W.looks_mroIn KI S.self) (fun h2 hso k2 => ?_)
  have I2 := I.kept (t' := s.toks + 2) k2
  have KI2 := I2.kIn
  obtain ⟨t2, hx2⟩ := exo_at I2.hok ha
  have J2 : PySem.W.InstAt h2 a { cls := .ref C, dict := none, data := .fields #[.ref t2, .none, .none, .none, .bool false, .none] } C none := ⟨hx2, rfl, rfl, trivial⟩
  have hcl : PySem.W.clsIn K C = some { name := nm, bases := bs, mro := .ref C :: bm, ns := N, qualname := q, hasDict := true, slotNames := sn, subclasses := sub, abstract := ab, collection := col, hasDel := false } := by unfold PySem.W.clsIn; rw [hC] <;> rfl
  have hm := S.meth
  unfold PySem.W.ks_superIn at hm
  rw [hcl] at hm
  refine PySem.W.kxs_getMethod PySem.W.kxs_ValueError hso (PySem.W.looks_opaque KI2 S.opq) (l₀ := Value.ref C :: bm) (fun A Q E s k q => wpAny_bind ((PySem.W.looks_clsIn KI2 hcl) A _ E s k (wpAny_pure q))) rfl KI2 hm (J2.type.andThen (PySem.W.looks_subIn KI2 S.sub)) (PySem.W.ks_ne KI2 J2 hcl) (by decide) ?_
  have hmw : (h2.push (PySem.W.kxs_mw "ValueError.__init__" a)).get? h2.objs.size = some (PySem.W.kxs_mw "ValueError.__init__" a) := Heap.get?_push_at rfl rfl
  have I3 := I2.kept (h' := h2.push (PySem.W.kxs_mw "ValueError.__init__" a)) (t' := s.toks + 2 + 1) fun b o e => Heap.get?_push_of_some _ e
  have ha1 : PA (cxS P w K mg base ["self", n1] qual scope f (.ref cda) cc A outer s H) [.Constant (.str m) j p2] (tCons (tC (.str m)) tNil) := pa_cons pe_str pa_nil
  refine PySem.W.kxs_callWith (i := "ValueError.__init__") (x := a) rfl ?_
  refine Calls.evalArgs_plain (thn (ha1.run cp [(h2.objs.size, PySem.W.kxs_mw "ValueError.__init__" a)] _ _ H (fun vs H' => vs = [.str m] ∧ H' = H) (I3.pins_of (pins' := [(h2.objs.size, PySem.W.kxs_mw "ValueError.__init__" a)]) fun p hp => ?_) ⟨rfl, rfl⟩) fun us s4 ⟨vs4, H4, I4, r4, e4, e5⟩ => ?_)
  · have ep : p = (h2.objs.size, PySem.W.kxs_mw "ValueError.__init__" a) := by simpa using hp
    subst ep
    exact ⟨hmw, I2.hok.fresh (Nat.le_refl _), Nat.ne_of_gt I2.lt, I2.nofs (Nat.le_refl _), fun v z => by cases z⟩
  · have e5 := e5.symm
    subst e5
    subst e4
    have P4 := I4.pin (h2.objs.size, PySem.W.kxs_mw "ValueError.__init__" a) (by simp)
    refine ⟨P4.1, ?_⟩
    have l4 : us.length = 1 := by rw [← r4.length]; rfl
    refine wrapped_init S.oex (I4.pins_of (pins' := []) fun p hp => absurd hp (by simp)) ha P4.1 (by rw [List.nil_append, l4, sizeLine_eq]; decide) fun s5 I5 => ?_
    refine wpAt_of_wpAny ?_
    refine wpAny_mono ((pss_one (hs2 A outer s H)).run [] s5 _ H { nx := fun _ H' => Q .non H', rt := fun _ _ => False } I5 ?_) (fun fl s6 q6 => ?_) fun e s6 q6 => q6
    · refine ⟨v, rfl, .ref a, rfl, a, C, rfl, S.oex, hno, .inl ⟨ha, fun dx n ne => hq dx n ne⟩⟩
    · cases fl with
      | next =>
        obtain ⟨σ', H', J, q⟩ := q6
        exact ⟨.non, H', J.os, J.bare, J.base, J.hok, rfl, q⟩
      | ret u => obtain ⟨_, _, _, _, _, q⟩ := q6; exact q.elim
      | brk => obtain ⟨_, _, _, q⟩ := q6; exact False.elim q
      | cont => obtain ⟨_, _, _, q⟩ := q6; exact False.elim q
end
end Pu
/-! Px2: within an except suite: a list that is walked, a comprehension over it, sum. -/
namespace Pu
open PySem PySem.Spec PyProof.Rows L2
section
variable {prog : Program} {w : World} {A : Around} {E : Value → Shared → Prop} {s : Shared}
/-- a list iterator's end while an exception is handled -/
theorem list_end_hot {it l x1 : Addr} {i : Nat} {items : Array Value} {Q : Option Value → Shared → Prop} (hot : HotX.HotAt A x1 s.heap) (hit : s.heap.IsListIter it l i) (hl : s.heap.IsList l items) (hx : items[i]? = none)
    (hQ : ∀ h', (∀ b o, b ≠ it → s.heap.get? b = some o → h'.get? b = some o) → Q none { s with heap := h' }) : wpAny (model prog w) A (pyNext (.ref it)) Q E s := by
  obtain ⟨oi, hoi, hci, hdi⟩ := id hit
  obtain ⟨ol, hol, _, nl, hdl⟩ := hl
  obtain ⟨hh, o1, vs1, h1, d1, c1⟩ := hot
  have n1 : x1 ≠ it := fun z => by
    rw [z, hoi] at h1
    cases h1
    rw [hdi] at d1
    cases d1
    cases c1
  unfold pyNext
  refine wpAny_bind (wpAny_attempt (wpAny_callSpecial?_slot (name := Str.ofString "__next__") hit.typeIs slot_listiter_next (wpAny_call_entry slot_listiter_next hit.typeIs entry_listiter_next ?_ (args_listiter_next _))))
  show wpAny _ A.in1 (field (.ref it) 0 >>= _) _ _ s
  refine wpAny_bind (wpAny_field hoi hdi (x := .ref l) rfl ?_)
  show wpAny _ A.in1 (if (Value.ref l == Value.none) = true then _ else _) _ _ s
  rw [if_neg (show ¬ ((Value.ref l == Value.none) = true) from Bool.false_ne_true)]
  show wpAny _ A.in1 (field (.ref it) 1 >>= _) _ _ s
  refine wpAny_bind (wpAny_field hoi hdi (x := .int i 0) rfl ?_)
  show wpAny _ A.in1 (seqItems? (.ref l) >>= _) _ _ s
  refine wpAny_bind (wpAny_seqItems hol hdl ?_)
  simp only [Int.toNat_natCast, hx]
  refine wpAny_bind (wpAny_rule (wpAny_bind (wpAny_setField hoi hdi (by simp) ?_)))
  show wpAny _ A.in1 (newExc (.type "StopIteration") [] >>= _) _ _ _
  refine wpAny_bind ?_
  simp only [newExc, newTuple]
  refine wpAny_bind (wpAny_newObj_type ?_ (by size_fits))
  refine wpAny_bind (m := firstArgMember _ _) (wpAny_of_eq (a := Value.none) (by first | rfl | (simp only [firstArgMember]; rfl)) ?_)
  refine wpAny_newObj_type ?_ (by size_fits)
  have g1 : ∀ b o, b ≠ it → s.heap.get? b = some o → (s.heap.update it (Obj.mapFields (·.setIfInBounds 0 .none))).get? b = some o := fun b o hb e => by
    rw [Heap.get?_update_other _ _ (Ne.symm hb)]
    exact e
  refine HotX.raiseNew_hot ⟨hh, o1, vs1, Heap.get?_push_of_some _ (Heap.get?_push_of_some _ (g1 _ _ n1 h1)), d1, c1⟩ (Nat.ne_of_lt (Heap.lt_size (Heap.get?_push_of_some _ (g1 _ _ n1 h1)))) (Heap.get?_push_size _ rfl) rfl (by first | (simp; done) | (simp; omega) | (simp only [Array.size_append]; simp; omega)) ?_
  refine wpAny_bind (wpAny_isInstance (T := "StopIteration") (b := true) ⟨_, Heap.get?_update_self _ (Heap.get?_push_size _ rfl) rfl, rfl⟩ isSubtype_stop ?_)
  refine wpAny_pure (hQ _ fun b o hb e => ?_)
  rw [Heap.get?_update_other _ _ (Nat.ne_of_gt (Heap.lt_size (Heap.get?_push_of_some _ (g1 b o hb e))))]
  exact Heap.get?_push_of_some _ (Heap.get?_push_of_some _ (g1 b o hb e))
/-- .. its walk -/
theorem walks_hot (it l x1 : Addr) (hne : l ≠ it) (hh : A.handled = some (.ref x1)) (items : Array Value) :
    Walks prog w A it [it, l, x1] [it] items.size (fun i v => items[i]? = some v) (fun i h => h.IsListIter it l i ∧ h.IsList l items ∧ ∃ (o : Obj) (vs : Array Value), h.get? x1 = some o ∧ o.data = .fields vs ∧ vs[2]? = some .none) where
  sub := fun b hb => by
    have e : b = it := by simpa using hb
    simp [e]
  frame := fun _ _ _ st hk => ⟨st.1.at fun o e => hk it (by simp) o e, st.2.1.at fun o e => hk l (by simp) o e, by
    obtain ⟨o, vs, e1, e2, e3⟩ := st.2.2
    exact ⟨o, vs, hk x1 (by simp) o e1, e2, e3⟩⟩
  item := fun i s Q E hi st hQ => by
    have n1 : x1 ≠ it := fun z => by
      obtain ⟨o, vs, e1, e2, e3⟩ := st.2.2
      obtain ⟨oi, hoi, hci, hdi⟩ := st.1
      rw [z, hoi] at e1
      cases e1
      rw [hdi] at e2
      cases e2
      cases e3
    refine wpAny_pyNext_list_item st.1 st.2.1 (x := items[i]) (by simp [hi]) fun h' h1 h2 => ?_
    have keep : ∀ b o, b ≠ it → s.heap.get? b = some o → h'.get? b = some o := fun b o hb e => (h2.2 b hb).trans e
    refine hQ _ h' s.toks (by simp [hi]) ⟨h1, st.2.1.extBut h2.extBut hne, ?_⟩ fun b o hb e => keep b o (fun z => hb (by simp [z])) e
    obtain ⟨o, vs, e1, e2, e3⟩ := st.2.2
    exact ⟨o, vs, keep x1 o n1 e1, e2, e3⟩
  done := fun s Q E st hQ => by
    obtain ⟨o, vs, e1, e2, e3⟩ := st.2.2
    exact list_end_hot ⟨hh, o, vs, e1, e2, e3⟩ st.1 st.2.1 (by simp) fun h' k => hQ h' s.toks fun b o hb e => k b o (fun z => hb (by simp [z])) e
  self := fun _ _ _ _ st hQ => wpAny_pyIter_listiter st.1 hQ
theorem sum_hot {l x1 : Addr} {its : List Value} {ns : List Int} {Q : Value → Shared → Prop} (hot : HotX.HotAt A x1 s.heap) (hl : s.heap.IsList l its.toArray) (hi : IntsAre its ns)
    (h : ∀ h' tk t', (∀ b o, s.heap.get? b = some o → h'.get? b = some o) → Q (.int ns.sum t') { s with heap := h', toks := tk }) : wpAny (model prog w) A (call (.builtin "sum") [.ref l]) Q E s := by
  obtain ⟨xs, ex⟩ := hi.allInts.items
  have hn : numsOf (intItems xs).toList = ns := by rw [← ex]; exact hi.numsOf
  rw [nums_intItems] at hn
  rw [ex] at hl
  obtain ⟨hh, o1, vs1, h1, d1, c1⟩ := hot
  refine call_sum_walkG (iter_intList hl fun s2 e2 st hfp hlI => ?_)
  subst e2
  refine ⟨_, _, _, _, _, _, numAt xs, rfl, walks_hot _ l x1 hlI (show A.in1.handled = some (.ref x1) from hh) (intItems xs), ⟨st.1, st.2, o1, vs1, Heap.get?_push_of_some _ h1, d1, c1⟩, fun b hb => ?_, (fun _ _ => intItems_at), fun h' tk t' hk => ?_⟩
  · rcases List.mem_cons.mp hb with rfl | hb
    · exact hfp _ (by simp)
    · rcases List.mem_cons.mp hb with rfl | hb
      · exact hfp _ (by simp)
      · have e : b = x1 := by simpa using hb
        rw [e]
        exact Heap.lt_size (Heap.get?_push_of_some _ h1)
  · have z := h h' tk t' (old_kept hk)
    have e3 : preSum (numAt xs) (intItems xs).size = ns.sum := by
      rw [preSum_eq, List.take_of_length_le (by simp [intItems]), hn]
    rw [e3]
    exact z
end
/-- the handled exception stands among the pins -/
def HotI (X : Cx) (pins : List (Addr × Obj)) : Prop := ∃ p : Addr × Obj, L2H.Hot1 X.A p ∧ p ∈ X.pn ++ pins
theorem HotI.at {X : Cx} {pins : List (Addr × Obj)} {σ : L2.St} {H : Hp} {s : Shared} (c : HotI X pins) (I : Inv X pins σ H s) : ∃ x1, HotX.HotAt X.A x1 s.heap := by
  obtain ⟨p, ⟨hh, v1, e1, c1⟩, hp⟩ := c
  exact ⟨p.1, hh, p.2, v1, (I.pin p hp).1, e1, c1⟩
theorem hotC_I {X : Cx} {pins : List (Addr × Obj)} (h : L2H.HotC X) : HotI X pins := by
  obtain ⟨p, h1, h2⟩ := h
  exact ⟨p, h1, List.mem_append_left _ h2⟩
theorem cr_sumH {X : Cx} (hc : L2H.HotC X) : CallR X (.builtin "sum") (rSum X.K) := by
  intro pins s σ H vs us Q I r h
  obtain ⟨a, ns, rfl, hs, q⟩ := h
  obtain ⟨its, rv, hl, _⟩ := I.list hs
  obtain ⟨x1, hot⟩ := hc.at I
  rw [Vals.ref1 r]
  exact sum_hot hot hl.isList rv.ints fun h' tk t' hk => ⟨.int _, H, I.kept hk, ⟨_, rfl⟩, q⟩
/-- the list's end, from the state -/
theorem list_done {X : Cx} {pins : List (Addr × Obj)} {σ : L2.St} {H : Hp} {s : Shared} {E : Value → Shared → Prop} {a it : Addr} {i : Nat} (hc : HotI X pins) (I : Inv X pins σ H s) (hf : FpOk X pins H it) (st : s.heap.IsListIter it a i) (stop : (Itl X.K a).stop i H) :
    wpAny (model X.prog X.w) X.A (pyNext (.ref it)) (fun r s1 => r = none ∧ Inv X pins σ H s1) E s := by
  obtain ⟨xs, hq, hx⟩ := stop
  obtain ⟨its, rv, p, _⟩ := I.list hq
  obtain ⟨f0, f1, f2, f3, f4, f5⟩ := hf
  obtain ⟨x1, hot⟩ := hc.at I
  have hl := rv.length
  exact list_end_hot hot st p.isList (by simp; omega) fun h' k => ⟨rfl, I.turned (t' := s.toks) k f0 f1 f3 f4 f5⟩
theorem turn_listH {P : Program} {w : World} {K : PySem.W.Frag} {tg : Expr} (a it : Addr) : L2H.TurnH P w K tg (Itl K a) [it] it (fun i h => h.IsListIter it a i) where
  mem := List.mem_singleton_self _
  obj := fun i h st b hb => by
    obtain rfl : b = it := by simpa using hb
    obtain ⟨o, e, c, d⟩ := st
    exact ⟨o, e, fun v z => by rw [d] at z; cases z⟩
  keep := fun i h h' st k => st.at fun o e => k it (List.mem_singleton_self _) o e
  item := by
    rintro X rfl rfl rfl hc i pins s σ H E I hf st ⟨xs, x, hq, hx⟩
    obtain ⟨its, rv, p, hz⟩ := I.list hq
    obtain ⟨u, hu, ru⟩ := rv.get hx
    obtain ⟨f0, f1, f2, f3, f4, f5⟩ := hf it (List.mem_singleton_self _)
    refine wpAny_pyNext_list_item st p.isList (x := u) (by simpa using hu) fun h' st' sb => ?_
    have I1 : Inv X pins σ H { s with heap := h' } := I.turned (t' := s.toks) (fun b o hb e => (sb.2 b hb).trans e) f0 f1 f3 f4 f5
    obtain ⟨o, e, c, d⟩ := id st'
    exact ⟨u, rfl, go_of (s := { s with heap := h' }) e c d (by decide) ⟨x, H, I1, ru, ⟨rfl, fun ys hy => by rw [I.list_inj hy hq]; exact hx⟩, st', fun b hb => (hf b hb).1⟩⟩
  done := by
    rintro X rfl rfl rfl hc i pins s σ H E I hf st stop
    exact list_done (hotC_I hc) I (hf it (List.mem_singleton_self _)) st stop
  self := fun _ _ _ _ _ st h => wpAny_pyIter_listiter st h
theorem pi_listH {X : Cx} {tg l : Expr} {tl : TE} (hl : PE X l tl) : L2H.PIH X tg l (iList X.K tl) := by
  refine ⟨fun pins s σ H R I h => ?_⟩
  refine thn (hl.run pins s σ H _ I h) fun v s1 ⟨x, H1, I1, r1, a, e, ⟨xs, hq⟩, q⟩ => ?_
  subst e
  cases r1
  obtain ⟨its, rv, p, hz⟩ := I1.list hq
  refine wpAny_pyIter_list p.isList ⟨s1.heap.objs.size, [s1.heap.objs.size], _, _, H1, rfl, I1.kept (t' := s1.toks) fun b o e => Heap.get?_push_of_some _ e, turn_listH a _, ⟨_, Heap.get?_push_size _ rfl, rfl, rfl⟩, fun b hb => ?_, q⟩
  obtain rfl : b = s1.heap.objs.size := by simpa using hb
  exact I1.fpOk (Nat.le_refl _) (I1.hok.fresh (Nat.le_refl _))
/-! ### a comprehension over a list, there -/
section
variable {X : Cx}
theorem pe_lcH {elt tg l : Expr} {ifs : List Expr} {scope : Scope} {own : List (Str × Nat)} {pos : Pos} {tl : TE} {g : TG} {tt : TT} {te : TE} (hot : L2H.HotC X) (hN : X.N.Nodup) (hl : PE X l tl) (ok : BlkOk X.N X.env.scope scope own)
    (hg : ∀ (s : Shared) (H : Hp) (C : Addr) (cl : List (Str × Addr)) (fp : List Addr), PG (X.blk s H scope (compEnvC scope cl C X.env) fp) tg g)
    (ht : ∀ (s : Shared) (H : Hp) (C : Addr) (cl : List (Str × Addr)) (fp : List Addr), PTs (X.blk s H scope (compEnvC scope cl C X.env) fp) ifs tt)
    (he : ∀ (s : Shared) (H : Hp) (C : Addr) (cl : List (Str × Addr)) (fp : List Addr), PE (X.blk s H scope (compEnvC scope cl C X.env) fp) elt te) (hs : ∀ x, foldedSetIterable l X.env x = pure x := by intro _; rfl) :
    PE X (.ListComp elt [⟨tg, l, ifs, 0⟩] scope pos) (tLc (iList X.K tl) g tt te (own.map (·.2))) := by
  refine ⟨fun pins s0 σ H0 Q I h => ?_⟩
  rw [eval_ListComp]
  have fr : ∀ y ∈ scope.names, y.2 = .free → ∃ c, X.env.cells.lookup y.1 = some c := fun y hy e => I.ok.has _ ((ok.free y hy e).elim .inl .inr)
  refine wpAny_comprehension_free (use := none) rfl hs (closure_ok fr) ok.kind (fun y hy e => by rw [ok.uniq y hy, e]) (thn (hl.run pins s0 σ H0 _ I h) fun xv s1 ⟨x, H1, I1, r1, a, ex, ⟨xs0, hq0⟩, body⟩ => ?_)
  subst ex
  cases r1
  obtain ⟨its, rv, pl, hz⟩ := I1.list hq0
  refine wpAny_pyIter_list pl.isList ?_
  have I2 : Inv X pins σ H1 { s1 with heap := s1.heap.push { cls := .type "list_iterator", data := .fields #[.ref a, .int 0 0] } } := I1.kept (t' := s1.toks) fun b o e => Heap.get?_push_of_some _ e
  have it0 : (s1.heap.push { cls := .type "list_iterator", data := .fields #[.ref a, .int 0 0] }).IsListIter s1.heap.objs.size a 0 := ⟨_, Heap.get?_push_size _ rfl, rfl, rfl⟩
  have f2 : FpOk X pins H1 s1.heap.objs.size := I1.fpOk (Nat.le_refl _) (I1.hok.fresh (Nat.le_refl _))
  generalize hit : s1.heap.objs.size = it at it0 f2 ⊢
  have itlt : it < (s1.heap.push { cls := .type "list_iterator", data := .fields #[.ref a, .int 0 0] }).objs.size := by rw [Heap.size_push, hit]; exact Nat.lt_succ_self _
  generalize hs2 : ({ s1 with heap := s1.heap.push { cls := .type "list_iterator", data := .fields #[.ref a, .int 0 0] } } : Shared) = s2 at I2 ⊢
  have it2 : s2.heap.IsListIter it a 0 := by rw [← hs2]; exact it0
  have itlt2 : it < s2.heap.objs.size := by rw [← hs2]; exact itlt
  clear it0 itlt
  refine wpAny_newObj_type (newEnv_comp ?_) (by show 0 ≤ sizeLine; decide)
  have dn : H1 s2.heap.objs.size = none := I2.hok.fresh (Nat.le_refl _)
  generalize hD : s2.heap.objs.size = Dl at dn ⊢
  obtain ⟨W, ⟨m0, w0⟩, turn⟩ := body Dl dn
  generalize hs3 : ({ s2 with heap := s2.heap.push { cls := .type "list", data := .seq ([] : List Value).toArray } } : Shared) = s3
  have h3 : s3.heap = s2.heap.push { cls := .type "list", data := .seq ([] : List Value).toArray } := by rw [← hs3]
  have I3 : Inv X pins σ (upd H1 Dl (.lst [])) s3 := by
    rw [← hs3]
    refine I2.laid (t' := s2.toks) (fun b o e => Heap.get?_push_of_some _ e) (Nat.le_of_eq hD) ⟨Nat.zero_le _, [], 0, .nil, ?_⟩
    rw [← hD]
    exact Heap.get?_push_size _ rfl
  have dit : it ≠ Dl := by rw [← hD]; exact Nat.ne_of_lt itlt2
  have f3 : ∀ b ∈ [it], FpOk X pins (upd H1 Dl (.lst [])) b ∧ b < s3.heap.objs.size := fun b hb => by
    obtain rfl : b = it := by simpa using hb
    exact ⟨⟨by rw [upd_ne dit]; exact f2.1, f2.2⟩, by rw [h3, Heap.size_push]; exact Nat.lt_succ_of_lt itlt2⟩
  have it3 : s3.heap.IsListIter it a 0 := it2.at fun o e => by rw [h3]; exact Heap.get?_push_of_some _ e
  have I4 := block_start I3 ok hN f3
  have pg := hg s3 (upd H1 Dl (.lst [])) s3.heap.objs.size (cellsFrom (s3.heap.objs.size + 1) scope.names (cloFrom X.env.cells scope.names [])) [it]
  have pt := ht s3 (upd H1 Dl (.lst [])) s3.heap.objs.size (cellsFrom (s3.heap.objs.size + 1) scope.names (cloFrom X.env.cells scope.names [])) [it]
  have pe := he s3 (upd H1 Dl (.lst [])) s3.heap.objs.size (cellsFrom (s3.heap.objs.size + 1) scope.names (cloFrom X.env.cells scope.names [])) [it]
  show codeAny _ _ (.compStart (.ListComp elt [⟨tg, l, ifs, 0⟩] scope pos) 0 (.ref it) (.ref Dl) (compEnvC scope (cellsFrom (s3.heap.objs.size + 1) scope.names (cloFrom X.env.cells scope.names [])) s3.heap.objs.size X.env)) (compPost (model X.prog X.w) X.A X.xe none _ (.ref Dl) s3.heap.objs.size) { s3 with heap := pushCells (s3.heap.push { cls := .type "dict", data := .dict #[] }) scope.names }
  -- the pins go along, as the block's own
  have up4 : ∀ b o, s3.heap.get? b = some o → (pushCells (s3.heap.push { cls := .type "dict", data := .dict #[] }) scope.names).get? b = some o := fun b o e => pushCells_keeps _ _ _ _ (Heap.get?_push_of_some _ e)
  generalize hce : compEnvC scope (cellsFrom (s3.heap.objs.size + 1) scope.names (cloFrom X.env.cells scope.names [])) s3.heap.objs.size X.env = ce at I4 pg pt pe ⊢
  have cL : ce.locals = s3.heap.objs.size := by subst hce; rfl
  have I4p : Inv (X.blk s3 (upd H1 Dl (.lst [])) scope ce [it]) X.pn (wipe σ (own.map (·.2))) (upd H1 Dl (.lst [])) { s3 with heap := pushCells (s3.heap.push { cls := .type "dict", data := .dict #[] }) scope.names } := I4.pins_of fun p hp => by
    obtain ⟨p1, p2, p3, p4, p5⟩ := I3.pin p (List.mem_append_left _ hp)
    exact ⟨up4 _ _ p1, p2, by show p.1 ≠ ce.locals; rw [cL]; exact Nat.ne_of_lt (Heap.lt_size p1), fun hm => (List.mem_cons.mp (I3.stkSub p.1 hm)).elim p3 p4, p5⟩
  generalize hH3 : upd H1 Dl (.lst []) = H3 at I3 I4p pg pt pe w0 f3
  have it4 : (pushCells (s3.heap.push { cls := .type "dict", data := .dict #[] }) scope.names).IsListIter it a 0 := it3.at fun o e => up4 _ _ e
  generalize hs4 : ({ s3 with heap := pushCells (s3.heap.push { cls := .type "dict", data := .dict #[] }) scope.names } : Shared) = s4 at I4p ⊢
  have it4' : s4.heap.IsListIter it a 0 := by rw [← hs4]; exact it4
  have hotI : ∀ ps, HotI (X.blk s3 H3 scope ce [it]) (X.pn ++ ps) := fun ps => by
    obtain ⟨p, hp1, hp2⟩ := hot
    exact ⟨p, hp1, List.mem_append_right _ (List.mem_append_left _ hp2)⟩
  have npn : ∀ p ∈ X.pn, p.1 ≠ it := fun p hp => (f3 it (List.mem_singleton_self _)).1.2.2.2.2.2 p (List.mem_append_left _ hp)
  have stat : ∀ {σ' : L2.St} {H' : Hp} {s' : Shared}, Inv (X.blk s3 H3 scope ce [it]) X.pn σ' H' s' → H' it = none → FpOk (X.blk s3 H3 scope ce [it]) X.pn H' it := fun {σ' H' s'} J hn =>
    ⟨hn, (J.ok.exf it (List.mem_singleton_self _)).1, J.ok.exfs it (List.mem_singleton_self _), .inl (List.mem_singleton_self _), fun x c e => (J.ok.exf it (List.mem_singleton_self _)).2 x c e, fun p hp => npn p (by rw [List.nil_append] at hp; exact hp)⟩
  have loop : codeAny (model X.prog X.w) X.A (.compLoop (.ListComp elt [⟨tg, l, ifs, 0⟩] scope pos) 0 (.ref it) (.ref Dl) ce) (compPost (model X.prog X.w) X.A X.xe none (EP X pins σ Q) (.ref Dl) s3.heap.objs.size) s4 := by
    refine compLoop_any (fun n s' => ∃ i H', Inv (X.blk s3 H3 scope ce [it]) X.pn (wipe σ (own.map (·.2))) H' s' ∧ s'.heap.IsListIter it a i ∧ H' it = none ∧ W i n H') ?_ m0 ⟨0, H3, I4p, it4', (f3 it (List.mem_singleton_self _)).1.1, w0⟩
    rintro n s5 ⟨i, H5, I5, st5, n5, w5⟩
    rcases turn i n H5 w5 with ⟨stop, qq⟩ | ⟨go, Nx, hNx, step⟩
    · have hh := hotI []
      rw [List.append_nil] at hh
      refine thnF (list_done (X := X.blk s3 H3 scope ce [it]) (E := fun _ _ => False) hh I5 (stat I5 n5) st5 stop) fun r s6 ⟨hr, I6⟩ => ?_
      subst hr
      have I7 : Inv X pins σ H5 s6 := I3.call' (ch := [it]) I6.os I6.base I6.hok I6.bare fun b hb => ⟨(f3 b hb).1.2.2.2.1, (f3 b hb).1.2.1, (f3 b hb).1.2.2.2.2.1, (f3 b hb).1.2.2.2.2.2⟩
      have nC : H5 s3.heap.objs.size = none := by
        have z : H5 ce.locals = none := I6.free
        rw [cL] at z
        exact z
      obtain ⟨m, hn, _⟩ := I6.loc
      have hn : s6.heap.Ns ce.locals m := hn
      rw [cL] at hn
      obtain ⟨f0, f1, f2', f3', f4, f5⟩ := I3.fpOk (H' := H5) (Nat.le_refl s3.heap.objs.size) nC
      exact ⟨m, hn, fun h'' sb => ⟨.ref Dl, H5, I7.turned (t' := s6.toks) (fun b o hb e => (sb.2 b hb).trans e) f0 f1 f3' f4 f5, rfl, qq⟩⟩
    · obtain ⟨xs, x, hq, hx⟩ := go
      obtain ⟨its5, rv5, p5, hz5⟩ := I5.list hq
      obtain ⟨u, hu, ru⟩ := rv5.get hx
      obtain ⟨f0, f1, f2', f3', f4, f5⟩ := stat I5 n5
      refine wpAny_pyNext_list_item st5 p5.isList (x := u) (by simpa using hu) fun h' st' sb => ?_
      have I6 : Inv (X.blk s3 H3 scope ce [it]) X.pn (wipe σ (own.map (·.2))) H5 { s5 with heap := h' } := I5.turned (t' := s5.toks) (fun b o hb e => (sb.2 b hb).trans e) f0 f1 f3' f4 f5
      obtain ⟨oi, ei, ci, di⟩ := id st'
      refine go_of (s := { s5 with heap := h' }) ei ci di (by decide) ?_
      have yl : (Itl X.K a).yld i H5 x H5 := ⟨rfl, fun ys hy => by rw [I5.list_inj hy hq]; exact hx⟩
      have I7' : Inv (X.blk s3 H3 scope ce [it]) (X.pn ++ [(it, oi)]) (wipe σ (own.map (·.2))) H5 { s5 with heap := h' } := I6.pins_of fun p hp => by
        rcases List.mem_append.mp hp with hp | hp
        · exact I6.pin p (List.mem_append_right _ hp)
        · obtain rfl : p = (it, oi) := by simpa using hp
          exact ⟨ei, n5, f1, (stat I6 n5).2.2.1, fun v z => by rw [di] at z; cases z⟩
      refine thnF (pg.run _ _ _ H5 x u _ I7' ru (step x H5 yl)) fun _ s8 ⟨σ8, H8, I8, hw8, q8⟩ => ?_
      refine thnF (pt.run _ s8 σ8 H8 _ I8 q8) fun b s9 ⟨H9, I9, q9⟩ => ?_
      have fin : ∀ {s' : Shared} {H' : Hp}, Inv (X.blk s3 H3 scope ce [it]) (X.pn ++ [(it, oi)]) σ8 H' s' → Nx H' → ∃ m, m < n ∧ ∃ i H', Inv (X.blk s3 H3 scope ce [it]) X.pn (wipe σ (own.map (·.2))) H' s' ∧ s'.heap.IsListIter it a i ∧ H' it = none ∧ W i m H' := fun {s' H'} J nx => by
        obtain ⟨m', hm, w'⟩ := hNx H' nx
        have pin' := J.pin (it, oi) (List.mem_append_right _ (List.mem_append_right _ (List.mem_singleton_self _)))
        have hl8 : (wipe σ (own.map (·.2))).length = σ8.length := by rw [← hw8, wipe_length]
        have J2 : Inv (X.blk s3 H3 scope ce [it]) X.pn σ8 H' s' := J.pins_of fun p hp => J.pin p (List.mem_append_right _ (List.mem_append_left _ hp))
        refine ⟨m', hm, i + 1, H', J2.weak hl8 (fun j v e => ?_), st'.at fun o e => ?_, pin'.2.1, w'⟩
        · rw [← hw8] at e
          exact (wipe_some e).1
        · have z := ei.symm.trans e
          cases z
          exact pin'.1
      cases b with
      | false =>
        simp only [Bool.false_eq_true, if_false] at q9 ⊢
        exact fin I9 q9
      | true =>
        simp only [if_true] at q9 ⊢
        refine thnF (pe.run _ s9 σ8 H9 _ I9 q9) fun z s10 ⟨yv, H10, I10, r10, acc, hD10, hz10, nx⟩ => ?_
        exact app_ok (X := X.blk s3 H3 scope ce [it]) I10 hD10 hz10 r10 fun s11 I11 => fin I11 nx
  exact codeAny_compStart_list loop (wpAny_pyIter_listiter it4' loop)
end
end Pu
/-! Pu7: steps through readings over data: l_.. -/
namespace Pu
open PySem PySem.Spec PyProof.Rows L2
/-- what a reading is asked to give at a promise -/
abbrev endZ (S : SpecD) (x : S.α) : EndsD := { nx := fun _ => S.post x (.ok (.ro .non)), rt := fun r => S.post x (.ok r), ex := fun e => S.post x (.error e) }
inductive SetTo : Ro → Nat → Option S → Ro → Prop where
  | z {x s : Option S} {r : Ro} : SetTo (x :: r) 0 s (s :: r)
  | s {x s : Option S} {r r' : Ro} {i : Nat} : SetTo r i s r' → SetTo (x :: r) (i + 1) s (x :: r')
theorem SetTo.eq : ∀ {ρ ρ' : Ro} {i : Nat} {s : Option S}, SetTo ρ i s ρ' → ρ.set i s = ρ'
  | _, _, _, _, .z => rfl
  | _, _, _, _, .s h => by rw [List.set_cons_succ, SetTo.eq h]
section
variable {Z : EndsD} {ρ ρ' : Ro} {K : KD} {J : KX} {i j : Nat} {p q : TSd} {pa pb pc : TEd} {d : D} {ds : List D} {KB : Bool → Prop} {A B : Prop} {b : Bool} {ta tb : TTd} {pr : TAd} {KA : List D → Prop}
theorem l_seq (h : p { Z with nx := q Z } ρ) : pSeq p q Z ρ := h
theorem l_next (h : Z.nx ρ) : pNext Z ρ := h
def kSet (i : Nat) (ρ : Ro) (Z : EndsD) : KD := fun r => Z.nx (ρ.set i (some r.s))
theorem l_asg (h : pa ρ (kSet i ρ Z) Z.ex) : pAsg i pa Z ρ := h
theorem l_setR (e : SetTo ρ i (some (.ro d)) ρ') (h : Z.nx ρ') : kSet i ρ Z (.ro d) := by
  show Z.nx (ρ.set i (some (.ro d)))
  rw [e.eq]
  exact h
theorem l_setO (e : SetTo ρ i (some (.own ds)) ρ') (h : Z.nx ρ') : kSet i ρ Z (.own ds) := by
  show Z.nx (ρ.set i (some (.own ds)))
  rw [e.eq]
  exact h
def kG (pg : TGd) (ρ : Ro) (Z : EndsD) : KD := fun r => pg r.d ρ Z.nx
theorem l_asgG {pg : TGd} (h : pa ρ (kG pg ρ Z) Z.ex) : pAsgG pa pg Z ρ := h
theorem l_kG {pg : TGd} {r : RV} (h : pg r.d ρ Z.nx) : kG pg ρ Z r := h
theorem l_gN {K : Ro → Prop} (e : SetTo ρ i (some (.ro d)) ρ') (h : K ρ') : gN i d ρ K := by
  show K (ρ.set i (some (.ro d)))
  rw [e.eq]
  exact h
theorem l_gT {q : TGsd} {K : Ro → Prop} (h : q ds ρ K) : gT q (.tup ds) ρ K := h
theorem l_gsN {K : Ro → Prop} (h : K ρ) : gsNil [] ρ K := h
theorem l_gsC {p : TGd} {q : TGsd} {K : Ro → Prop} (h : p d ρ fun ρ' => q ds ρ' K) : gsCons p q (d :: ds) ρ K := h
theorem l_if (h : ta ρ (fun b => bT b (p Z ρ) (q Z ρ)) Z.ex) : pIf ta p q Z ρ := h
theorem l_ret (h : pa ρ Z.rt Z.ex) : pRet pa Z ρ := h
theorem l_retR (e : ρ[j]? = some (some (.ro d))) (h : Z.rt (.ro d)) : pRetV j Z ρ := by unfold pRetV; rw [e]; exact h
theorem l_retO (e : ρ[j]? = some (some (.own ds))) (h : Z.rt (.own ds)) : pRetV j Z ρ := by unfold pRetV; rw [e]; exact h
theorem l_drop (h : pa ρ (fun _ => Z.nx ρ) Z.ex) : pDrop pa Z ρ := h
theorem l_brk (h : Z.bk ρ) : pBrk Z ρ := h
theorem l_cnt (h : Z.ct ρ) : pCnt Z ρ := h
theorem l_frzO (e : ρ[i]? = some (some (.own ds))) (e2 : SetTo ρ i (some (.ro (.lst ds))) ρ') (h : p Z ρ') : pFrz i p Z ρ := by
  unfold pFrz
  rw [e]
  show p Z (ρ.set i (some (.ro (.lst ds))))
  rw [e2.eq]
  exact h
theorem l_frzR (e : ρ[i]? = some (some (.ro d))) (h : p Z ρ) : pFrz i p Z ρ := by unfold pFrz; rw [e]; exact h
theorem l_frzA {s : S} (e : ρ[i]? = some (some s)) (hs : s = .ro (.lst ds) ∨ s = .own ds) (e2 : SetTo ρ i (some (.ro (.lst ds))) ρ') (h : p Z ρ') : pFrz i p Z ρ := by
  rcases hs with rfl | rfl
  · refine l_frzR e ?_
    have : ρ.set i (some (S.ro (D.lst ds))) = ρ := by
      apply List.ext_getElem?
      intro k
      by_cases hk : i = k
      · subst hk
        have hl := (List.getElem?_eq_some_iff.mp e).1
        rw [List.getElem?_set_self hl, e]
      · rw [List.getElem?_set_ne hk]
    rw [← this, e2.eq]
    exact h
  · exact l_frzO e e2 h
theorem l_frzN (e : ρ[i]? = some none) (h : p Z ρ) : pFrz i p Z ρ := by unfold pFrz; rw [e]; exact h
theorem l_frzX {a : Option S} (e : ρ[i]? = some a) (ha : ∀ ds, a ≠ some (.own ds)) (h : p Z ρ) : pFrz i p Z ρ := by
  unfold pFrz
  rw [e]
  cases a with
  | none => exact h
  | some s =>
    cases s with
    | ro d => exact h
    | own ds => exact absurd rfl (ha ds)
    | tab _ ps rows => exact h
def kApp (j : Nat) (ds : List D) (ρ : Ro) (Z : EndsD) : KD := fun r => ds.length < 1000000 ∧ Z.nx (ρ.set j (some (.own (ds ++ [r.d]))))
theorem l_app (e : ρ[j]? = some (some (.own ds))) (h : pa ρ (kApp j ds ρ Z) Z.ex) : pApp j pa Z ρ := by unfold pApp; rw [e]; exact h
theorem l_kApp {r : RV} (e : SetTo ρ j (some (.own (ds ++ [r.d]))) ρ') (hl : ds.length < 1000000) (h : Z.nx ρ') : kApp j ds ρ Z r := by
  refine ⟨hl, ?_⟩
  rw [e.eq]
  exact h
def kSI2 (j : Nat) (ds : List D) (ρ : Ro) (Z : EndsD) (r : RV) : KD := fun k => match k.d with
  | .int i => (match ixN ds.length i with
    | some n => Z.nx (ρ.set j (some (.own (ds.set n r.d))))
    | none => False)
  | _ => False
def kSI (j : Nat) (pi : TEd) (ds : List D) (ρ : Ro) (Z : EndsD) : KD := fun r => pi ρ (kSI2 j ds ρ Z r) Z.ex
theorem l_setI {pi : TEd} (e : ρ[j]? = some (some (.own ds))) (h : pa ρ (kSI j pi ds ρ Z) Z.ex) : pSetI j pi pa Z ρ := by unfold pSetI; rw [e]; exact h
theorem l_kSI {pi : TEd} {r : RV} (h : pi ρ (kSI2 j ds ρ Z r) Z.ex) : kSI j pi ds ρ Z r := h
theorem l_kSI2 {r : RV} {k : Int} {n : Nat} (en : ixN ds.length k = some n) (e : SetTo ρ j (some (.own (ds.set n r.d))) ρ') (h : Z.nx ρ') : kSI2 j ds ρ Z r (.ro (.int k)) := by
  show (match ixN ds.length k with
    | some n => Z.nx (ρ.set j (some (.own (ds.set n r.d))))
    | none => False)
  rw [en]
  show Z.nx (ρ.set j (some (.own (ds.set n r.d))))
  rw [e.eq]
  exact h
theorem ixN_nat {n k : Nat} (h : k < n) : ixN n (k : Int) = some k := by
  unfold ixN
  rw [if_pos (Int.natCast_nonneg k), if_pos (by omega), Int.toNat_natCast]

/-! ### expressions -/
theorem l_var (e : ρ[i]? = some (some (.ro d))) (h : K (.ro d)) : pVar i ρ K J := by unfold pVar; rw [e]; exact h
theorem l_varBR (e : ρ[i]? = some (some (.ro d))) (h : K (.ro d)) : pVarB i ρ K J := by unfold pVarB; rw [e]; exact h
theorem l_varBO (e : ρ[i]? = some (some (.own ds))) (h : K (.own ds)) : pVarB i ρ K J := by unfold pVarB; rw [e]; exact h
theorem l_varBT {q : Addr} {ps : List Addr} {rows : List (List D)} (e : ρ[i]? = some (some (.tab q ps rows))) (h : K (.ro (.lst (ps.map D.adr)))) : pVarB i ρ K J := by unfold pVarB; rw [e]; exact h
theorem l_retT {q : Addr} {ps : List Addr} {rows : List (List D)} (e : ρ[j]? = some (some (.tab q ps rows))) (h : Z.rt (.tab q ps rows)) : pRetV j Z ρ := by unfold pRetV; rw [e]; exact h
theorem l_setT {q : Addr} {ps : List Addr} {rows : List (List D)} (e : SetTo ρ i (some (.tab q ps rows)) ρ') (h : Z.nx ρ') : kSet i ρ Z (.tab q ps rows) := by
  show Z.nx (ρ.set i (some (.tab q ps rows)))
  rw [e.eq]
  exact h
theorem l_c (h : K (.ro d)) : pC d ρ K J := h
theorem l_op {rd : D → D → KD → Prop} (h : pa ρ (fun a => pb ρ (fun b => rd a.d b.d K) J) J) : pOp rd pa pb ρ K J := h
theorem l_I0 {g : Int → Int → D} {x y : Int} (h : K (.ro (g x y))) : dI0 g (.int x) (.int y) K := h
theorem l_I {C : Int → Int → Prop} {g : Int → Int → D} {x y : Int} (c : C x y) (h : K (.ro (g x y))) : dI C g (.int x) (.int y) K := ⟨c, h⟩
theorem l_eqI {x y : Int} (h : K (.ro (.bl (decide (x = y))))) : dEq false (.int x) (.int y) K := h
theorem l_neI {x y : Int} (h : K (.ro (.bl (!decide (x = y))))) : dEq true (.int x) (.int y) K := h
theorem l_eqS {x y : Str} (h : K (.ro (.bl (decide (x = y))))) : dEq false (.str x) (.str y) K := h
theorem l_neS {x y : Str} (h : K (.ro (.bl (!decide (x = y))))) : dEq true (.str x) (.str y) K := h
theorem l_eqNI {x : Int} (h : K (.ro (.bl false))) : dEq false .non (.int x) K := h
theorem l_eqB {x y : Bool} (h : K (.ro (.bl (decide (x = y))))) : dEq false (.bl x) (.bl y) K := h
theorem l_neB {x y : Bool} (h : K (.ro (.bl (!decide (x = y))))) : dEq true (.bl x) (.bl y) K := h
theorem l_isN (h : K (.ro (.bl d.isNon))) : dIsN false d .non K := h
theorem l_notN (h : K (.ro (.bl (!d.isNon)))) : dIsN true d .non K := h
theorem l_eqN (hp : plains 20 ds = true) (h : K (.ro (.bl ds.isEmpty))) : dEqN false (.lst ds) (.lst []) K := ⟨hp, h⟩
theorem l_neN (hp : plains 20 ds = true) (h : K (.ro (.bl (!ds.isEmpty)))) : dEqN true (.lst ds) (.lst []) K := ⟨hp, h⟩
def kNeg (K : KD) : KD := fun a => match a.d with
  | .int i => K (.ro (.int (-i)))
  | _ => False
theorem l_neg (h : pa ρ (kNeg K) J) : pNeg pa ρ K J := h
theorem l_kNeg {x : Int} (h : K (.ro (.int (-x)))) : kNeg K (.ro (.int x)) := h
theorem l_chain {rd rd' : D → D → KD → Prop} (h : pa ρ (fun a => pb ρ (fun b => rd a.d b.d fun z => bD z.d (pc ρ (fun c => rd' b.d c.d K) J) (K (.ro (.bl false)))) J) J) : pChain rd rd' pa pb pc ρ K J := h
theorem l_chain3 {rd rd' rd'' : D → D → KD → Prop} {pd : TEd} (h : pa ρ (fun a => pb ρ (fun b => rd a.d b.d fun z => bD z.d (pc ρ (fun c => rd' b.d c.d fun z' => bD z'.d (pd ρ (fun d => rd'' c.d d.d K) J) (K (.ro (.bl false)))) J) (K (.ro (.bl false)))) J) J) : pChain3 rd rd' rd'' pa pb pc pd ρ K J := h
theorem l_bD (h : bT b A B) : bD (.bl b) A B := by cases b <;> exact h
theorem l_tt (h : A) : bT true A B := h
theorem l_ff (h : B) : bT false A B := h
theorem l_bT (h1 : b = true → A) (h2 : b = false → B) : bT b A B := by
  cases b with
  | true => exact h1 rfl
  | false => exact h2 rfl
theorem l_dec {c : Prop} [Decidable c] (h1 : c → A) (h2 : ¬ c → B) : bT (decide c) A B := l_bT (fun e => h1 (of_decide_eq_true e)) fun e => h2 (of_decide_eq_false e)
theorem l_decT {c : Prop} [Decidable c] (hc : c) (h : A) : bT (decide c) A B := by rw [decide_eq_true hc]; exact h
theorem l_decF {c : Prop} [Decidable c] (hc : ¬ c) (h : B) : bT (decide c) A B := by rw [decide_eq_false hc]; exact h
theorem l_bT1 (e : b = true) (h : A) : bT b A B := by rw [e]; exact h
theorem l_bT0 (e : b = false) (h : B) : bT b A B := by rw [e]; exact h
theorem l_notb (h : bT b B A) : bT (!b) A B := by cases b <;> exact h
def kB (K : Bool → Prop) : KD := fun a => match a.d with
  | .bl b => K b
  | _ => False
theorem l_pB (h : pa ρ (kB KB) J) : pB pa ρ KB J := h
theorem l_kB (h : KB b) : kB KB (.ro (.bl b)) := h
theorem l_not (h : ta ρ (fun b => KB (!b)) J) : pNot ta ρ KB J := h
theorem l_and (h : ta ρ (fun b => bT b (tb ρ KB J) (KB false)) J) : pAnd ta tb ρ KB J := h
theorem l_or (h : ta ρ (fun b => bT b (KB true) (tb ρ KB J)) J) : pOr ta tb ρ KB J := h
theorem l_andV (h : pa ρ (fun a => bD a.d (pb ρ K J) (K (.ro (.bl false)))) J) : pAndV pa pb ρ K J := h
theorem l_orV (h : pa ρ (fun a => bD a.d (K (.ro (.bl true))) (pb ρ K J)) J) : pOrV pa pb ρ K J := h
def kNotV (K : KD) : KD := fun a => match a.d with
  | .bl b => K (.ro (.bl (!b)))
  | _ => False
theorem l_notV (h : pa ρ (kNotV K) J) : pNotV pa ρ K J := h
theorem l_kNotV (h : K (.ro (.bl (!b)))) : kNotV K (.ro (.bl b)) := h
theorem l_nil (h : KA []) : pNil ρ KA J := h
theorem l_cons (h : pa ρ (fun a => pr ρ (fun ds => KA (a.d :: ds)) J) J) : pCons pa pr ρ KA J := h
def kTup (K : KD) : List D → Prop := fun ds => ds.length ≤ 1000000 ∧ K (.ro (.tup ds))
def kLst (K : KD) : List D → Prop := fun ds => ds.length ≤ 1000000 ∧ K (.own ds)
theorem l_tup (h : pr ρ (kTup K) J) : pTup pr ρ K J := h
theorem l_kTup (hl : ds.length ≤ 1000000) (h : K (.ro (.tup ds))) : kTup K ds := ⟨hl, h⟩
theorem l_lst (h : pr ρ (kLst K) J) : pLst pr ρ K J := h
theorem l_kLst (hl : ds.length ≤ 1000000) (h : K (.own ds)) : kLst K ds := ⟨hl, h⟩
theorem l_ix (h : pa ρ (fun a => pb ρ (fun b => dIx a.d b.d K) J) J) : pIx pa pb ρ K J := h
theorem l_ixL {x : Int} (e : atI ds x = some d) (h : K (.ro d)) : dIx (.lst ds) (.int x) K := by unfold dIx; simp only [e]; exact h
theorem l_ixS {x n : Int} {ns : List Int} (e : atI ns x = some n) (h : K (.ro (.int n))) : dIx (.scr ns) (.int x) K := by unfold dIx; simp only [e]; exact h
theorem l_ixT {x : Int} (e : atI ds x = some d) (h : K (.ro d)) : dIx (.tup ds) (.int x) K := by unfold dIx; simp only [e]; exact h
def kSlL (lo hi : Option Int) (K : KD) (a : D) : Prop := match a with
  | .lst ds => K (.own (cutD ds lo hi))
  | _ => False
def kSlT (lo hi : Option Int) (K : KD) (a : D) : Prop := match a with
  | .tup ds => K (.ro (.tup (cutD ds lo hi)))
  | _ => False
theorem l_slL {pl ph : TOd} (h : pa ρ (fun a => pl ρ (fun lo => ph ρ (fun hi => kSlL lo hi K a.d) J) J) J) : pSlL pa pl ph ρ K J := h
theorem l_slT {pl ph : TOd} (h : pa ρ (fun a => pl ρ (fun lo => ph ρ (fun hi => kSlT lo hi K a.d) J) J) J) : pSlT pa pl ph ρ K J := h
theorem l_kSlL {lo hi : Option Int} (h : K (.own (cutD ds lo hi))) : kSlL lo hi K (.lst ds) := h
theorem l_kSlT {lo hi : Option Int} (h : K (.ro (.tup (cutD ds lo hi)))) : kSlT lo hi K (.tup ds) := h
theorem l_oN {KO : Option Int → Prop} (h : KO none) : pON ρ KO J := h
def kO (KO : Option Int → Prop) : KD := fun a => match a.d with
  | .int i => KO (some i)
  | _ => False
theorem l_oS {KO : Option Int → Prop} (h : pa ρ (kO KO) J) : pOS pa ρ KO J := h
theorem l_kO {KO : Option Int → Prop} {x : Int} (h : KO (some x)) : kO KO (.ro (.int x)) := h
def kRev (K : KD) (a : D) : Prop := match a with
  | .lst ds => K (.own ds.reverse)
  | _ => False
theorem l_rev (h : pa ρ (fun a => kRev K a.d) J) : pRev pa ρ K J := h
theorem l_kRev (h : K (.own ds.reverse)) : kRev K (.lst ds) := h
theorem l_cat {es : List D} (hl : ds.length + es.length ≤ 1000000) (h : K (.own (ds ++ es))) : dCat (.lst ds) (.lst es) K := ⟨hl, h⟩
theorem rep_one (n : Nat) (d : D) : (List.replicate n [d]).flatten = List.replicate n d := by
  induction n with
  | zero => rfl
  | succ n ih => rw [List.replicate_succ, List.flatten_cons, ih, List.replicate_succ]; rfl
theorem l_rep1 {n : Nat} (hn : n < 100000) (h : K (.own (List.replicate n d))) : dRep (.lst [d]) (.int (n : Int)) K := by
  refine ⟨by omega, by omega, ?_, ?_⟩
  · rw [Int.toNat_natCast]; show 1 * n ≤ 1000000; omega
  · rw [Int.toNat_natCast, rep_one]; exact h
theorem l_inI {x : Int} {ns : List Int} (h : K (.ro (.bl (decide (x ∈ ns))))) : dInI false (.int x) (.lst (ns.map D.int)) K := ⟨ns, rfl, h⟩
theorem l_niI {x : Int} {ns : List Int} (h : K (.ro (.bl (!decide (x ∈ ns))))) : dInI true (.int x) (.lst (ns.map D.int)) K := ⟨ns, rfl, h⟩
theorem l_b1 {rd : D → KD → Prop} (h : pa ρ (fun a => rd a.d K) J) : pB1 rd pa ρ K J := h
theorem l_lenL (h : K (.ro (.int (ds.length : Nat)))) : dLen (.lst ds) K := h
theorem l_lenS {ns : List Int} (h : K (.ro (.int (ns.length : Nat)))) : dLen (.scr ns) K := h
theorem l_lenT (h : K (.ro (.int (ds.length : Nat)))) : dLen (.tup ds) K := h
theorem l_listL (h : K (.own ds)) : dList (.lst ds) K := h
theorem l_listT (h : K (.own ds)) : dList (.tup ds) K := h
theorem l_tuple (h : K (.ro (.tup ds))) : dTuple (.lst ds) K := h
theorem l_sum {ns : List Int} (h : K (.ro (.int ns.sum))) : dSum (.lst (ns.map D.int)) K := ⟨ns, rfl, h⟩
theorem l_max {ns : List Int} (h0 : 0 < ns.length) (h : ∀ m, m ∈ ns → (∀ y, y ∈ ns → y ≤ m) → K (.ro (.int m))) : dMax (.lst (ns.map D.int)) K := ⟨ns, rfl, h0, h⟩
theorem l_cb {rd : List D → KD → Prop} (h : pr ρ (fun ds => rd ds K) J) : pCB rd pr ρ K J := h
theorem l_int1 {x : Int} (h : K (.ro (.int x))) : dInt1 [.int x] K := h
theorem l_min2 {x y : Int} (h : K (.ro (.int (if y < x then y else x)))) : dMin2 [.int x, .int y] K := h
theorem l_max2 {x y : Int} (h : K (.ro (.int (if y > x then y else x)))) : dMax2 [.int x, .int y] K := h
def kIsi (f : D → Bool) (K : KD) (a : D) : Prop := a.tyN.isSome = true ∧ K (.ro (.bl (f a)))
theorem l_isi {f : D → Bool} (h : pa ρ (fun a => kIsi f K a.d) J) : pIsi f pa ρ K J := h
theorem l_kIsi {f : D → Bool} (h1 : d.tyN.isSome = true) (h : K (.ro (.bl (f d)))) : kIsi f K d := ⟨h1, h⟩
def kFld (C : Addr) (f : Str) (K : KD) (a : D) : Prop := match a with
  | .ins C' fs ds => C' = C ∧ (match (fs.zip ds).lookup f with
    | some d => K (.ro d)
    | none => False)
  | _ => False
theorem l_fld {C : Addr} {f : Str} (h : pa ρ (fun a => kFld C f K a.d) J) : pFld C f pa ρ K J := h
theorem l_kFld {C : Addr} {f : Str} {fs : List Str} (e : (fs.zip ds).lookup f = some d) (h : K (.ro d)) : kFld C f K (.ins C fs ds) := by
  refine ⟨rfl, ?_⟩
  rw [e]
  exact h
def kCall (S : SpecD) (K : KD) (J : KX) : List D → Prop := fun ds => ∃ x : S.α, ds = S.args x ∧ S.pre x ∧ (∀ r, S.post x (.ok r) → K r) ∧ ∀ e, S.post x (.error e) → J e
theorem l_call {S : SpecD} (h : pr ρ (kCall S K J) J) : pCall S pr ρ K J := h
theorem l_kCall {S : SpecD} (x : S.α) (e : ds = S.args x) (hp : S.pre x) (h1 : ∀ r, S.post x (.ok r) → K r) (h2 : ∀ e, S.post x (.error e) → J e) : kCall S K J ds := ⟨x, e, hp, h1, h2⟩
/-! ### loops -/
def kFor (pg : TGd) (pb : TSd) (Z : EndsD) (ρ : Ro) : List D → Prop := fun items => ∃ Jv : Nat → Ro → Prop, Jv 0 ρ ∧ (∀ n d ρ', items[n]? = some d → Jv n ρ' → pg d ρ' (fun ρ2 => pb { Z with nx := Jv (n + 1), ct := Jv (n + 1), bk := Z.nx } ρ2)) ∧ ∀ ρ', Jv items.length ρ' → Z.nx ρ'
theorem l_for {qi : TId} {pg : TGd} {pb : TSd} (h : qi ρ (kFor pg pb Z ρ) Z.ex) : pFor qi pg pb Z ρ := h
theorem l_kFor {pg : TGd} {pb : TSd} {items : List D} (Jv : Nat → Ro → Prop) (h0 : Jv 0 ρ) (hs : ∀ n d ρ', items[n]? = some d → Jv n ρ' → pg d ρ' (fun ρ2 => pb { Z with nx := Jv (n + 1), ct := Jv (n + 1), bk := Z.nx } ρ2)) (hd : ∀ ρ', Jv items.length ρ' → Z.nx ρ') : kFor pg pb Z ρ items := ⟨Jv, h0, hs, hd⟩
def kQL (KA : List D → Prop) (a : D) : Prop := match a with
  | .lst ds => KA ds
  | .scr ns => KA (ns.map D.int)
  | _ => False
def kQT (KA : List D → Prop) (a : D) : Prop := match a with
  | .tup ds => KA ds
  | _ => False
theorem l_qL (h : pa ρ (fun a => kQL KA a.d) J) : qList pa ρ KA J := h
theorem l_kQL (h : KA ds) : kQL KA (.lst ds) := h
theorem l_kQS {ns : List Int} (h : KA (ns.map D.int)) : kQL KA (.scr ns) := h
theorem l_qT (h : pa ρ (fun a => kQT KA a.d) J) : qTup pa ρ KA J := h
theorem l_kQT (h : KA ds) : kQT KA (.tup ds) := h
def kR1 (KA : List D → Prop) (ds : List D) : Prop := match ds with
  | [.int j] => j < 1000000000 ∧ -1000000000 < j ∧ KA (rngD 0 j.toNat)
  | _ => False
def kR2 (KA : List D → Prop) (ds : List D) : Prop := match ds with
  | [.int i, .int j] => (i < 1000000000 ∧ -1000000000 < i) ∧ (j < 1000000000 ∧ -1000000000 < j) ∧ KA (rngD i (j - i).toNat)
  | _ => False
theorem l_q1 (h : pr ρ (kR1 KA) J) : qRng1 pr ρ KA J := h
theorem l_q2 (h : pr ρ (kR2 KA) J) : qRng2 pr ρ KA J := h
theorem l_kR1 {x : Int} (hx : x < 1000000000 ∧ -1000000000 < x) (h : KA (rngD 0 x.toNat)) : kR1 KA [.int x] := ⟨hx.1, hx.2, h⟩
theorem l_kR2 {x y : Int} (hx : (x < 1000000000 ∧ -1000000000 < x) ∧ (y < 1000000000 ∧ -1000000000 < y)) (h : KA (rngD x (y - x).toNat)) : kR2 KA [.int x, .int y] := ⟨hx.1, hx.2, h⟩
def kLc (j : Nat) (vs : List Nat) (pt : TTd) (pe : TEd) (ρ : Ro) (K : KD) : List D → Prop := fun items => items.length ≤ 1000000 ∧ ∃ I : Nat → List D → Prop, I 0 [] ∧
  (∀ n d acc, items[n]? = some d → I n acc → pt ((wipeR ρ vs).set j (some (.ro d))) (fun b => bT b (pe ((wipeR ρ vs).set j (some (.ro d))) (fun r => I (n + 1) (acc ++ [r.d])) (fun _ => False)) (I (n + 1) acc)) (fun _ => False)) ∧ ∀ acc, I items.length acc → K (.own acc)
theorem l_lc {qi : TId} {vs : List Nat} {pt : TTd} {pe : TEd} (h : qi ρ (kLc j vs pt pe ρ K) J) : pLc qi j vs pt pe ρ K J := h
/-- a comprehension without a test: a map -/
theorem l_lcMap {vs : List Nat} {pe : TEd} {items : List D} (f : Nat → D) (hz : items.length ≤ 1000000) (e : wipeR ρ vs = ρ') (h : ∀ n d ρ2, items[n]? = some d → SetTo ρ' j (some (.ro d)) ρ2 → pe ρ2 (fun r => r.d = f n) (fun _ => False)) (k : K (.own ((List.range items.length).map f))) (hj : j < ρ'.length) : kLc j vs tY pe ρ K items := by
  have st : ∀ {ρ0 : Ro} {i : Nat} {s : Option S}, i < ρ0.length → SetTo ρ0 i s (ρ0.set i s) := by
    intro ρ0
    induction ρ0 with
    | nil => intro i s h; exact absurd h (Nat.not_lt_zero _)
    | cons x r ih =>
      intro i s h
      cases i with
      | zero => exact .z
      | succ i => exact .s (ih (Nat.lt_of_succ_lt_succ h))
  refine ⟨hz, fun n acc => acc = (List.range n).map f, rfl, fun n d acc hn ha => ?_, fun acc ha => by rw [ha]; exact k⟩
  show pe ((wipeR ρ vs).set j (some (.ro d))) (fun r => acc ++ [r.d] = (List.range (n + 1)).map f) (fun _ => False)
  rw [e]
  have q := h n d _ hn (st hj)
  have : (fun r : RV => acc ++ [r.d] = (List.range (n + 1)).map f) = fun r => acc ++ [r.d] = acc ++ [f n] := by
    funext r
    rw [List.range_succ, List.map_append, ha]
    rfl
  rw [this]
  have e3 : (fun r : RV => acc ++ [r.d] = acc ++ [f n]) = fun r => r.d = f n := by
    funext r
    simp
  rw [e3]
  exact q
theorem l_lcI {vs : List Nat} {pt : TTd} {pe : TEd} {items : List D} (hz : items.length ≤ 1000000) (e : wipeR ρ vs = ρ') (hj : j < ρ'.length) (I : Nat → List D → Prop) (h0 : I 0 []) (h : ∀ n d acc ρ2, items[n]? = some d → I n acc → SetTo ρ' j (some (.ro d)) ρ2 → pt ρ2 (fun b => bT b (pe ρ2 (fun r => I (n + 1) (acc ++ [r.d])) (fun _ => False)) (I (n + 1) acc)) (fun _ => False)) (k : ∀ acc, I items.length acc → K (.own acc)) : kLc j vs pt pe ρ K items := by
  have st : ∀ {ρ0 : Ro} {i : Nat} {s : Option S}, i < ρ0.length → SetTo ρ0 i s (ρ0.set i s) := by
    intro ρ0
    induction ρ0 with
    | nil => intro i s h; exact absurd h (Nat.not_lt_zero _)
    | cons x r ih =>
      intro i s h
      cases i with
      | zero => exact .z
      | succ i => exact .s (ih (Nat.lt_of_succ_lt_succ h))
  refine ⟨hz, I, h0, fun n d acc hn ha => ?_, k⟩
  rw [e]
  exact h n d acc _ hn ha (st hj)
def kWh (ta : TTd) (pb : TSd) (Z : EndsD) (ρ : Ro) : Prop := ∃ Jv : Nat → Ro → Prop, (∃ m, Jv m ρ) ∧ ∀ m ρ', Jv m ρ' → ta ρ' (fun b => bT b (pb { Z with nx := fun ρ2 => ∃ m', m' < m ∧ Jv m' ρ2, ct := fun ρ2 => ∃ m', m' < m ∧ Jv m' ρ2, bk := Z.nx } ρ') (Z.nx ρ')) Z.ex
theorem l_while {pb : TSd} (Jv : Nat → Ro → Prop) (m0 : Nat) (h0 : Jv m0 ρ) (h : ∀ m ρ', Jv m ρ' → ta ρ' (fun b => bT b (pb { Z with nx := fun ρ2 => ∃ m', m' < m ∧ Jv m' ρ2, ct := fun ρ2 => ∃ m', m' < m ∧ Jv m' ρ2, bk := Z.nx } ρ') (Z.nx ρ')) Z.ex) : pWhile ta pb Z ρ := ⟨Jv, ⟨m0, h0⟩, h⟩
theorem l_raise0 {C : Addr} (h : Z.ex ⟨C, none⟩) : pRaise0 C Z ρ := h
def kRF (C : Addr) (f : Str) (Z : EndsD) (ds : List D) : Prop := match ds with
  | [d] => Z.ex ⟨C, some (f, d)⟩
  | _ => False
theorem l_raiseF {C : Addr} {f : Str} (h : pr ρ (kRF C f Z) Z.ex) : pRaiseF C f pr Z ρ := h
theorem l_kRF {C : Addr} {f : Str} (h : Z.ex ⟨C, some (f, d)⟩) : kRF C f Z [d] := h
end
end Pu
/-! Pu8: tables: lists of lists of one's own; rows by their places; defs that write a table that is passed. -/
namespace Pu
open PySem PySem.Spec PyProof.Rows L2
section
variable {X : Cx} {E : XK}
/-- what gives a row's place, looked at as the row -/
def kAdr (j : Nat) (ρ : Ro) (K : KD) : KD := fun a => match a.d, ρ[j]? with
  | .adr q, some (some (.tab _ ps rows)) => ∃ (k : Nat) (r : List D), ps[k]? = some q ∧ rows[k]? = some r ∧ K (.ro (.lst r))
  | _, _ => False
def pAdr (j : Nat) (pa : TEd) : TEd := fun ρ K J => pa ρ (kAdr j ρ K) J
theorem db_adr (j : Nat) {e : Expr} {pa : TEd} (ha : PEd X E e pa) : PBd X E e (pAdr j pa) := by
  obtain ⟨ta, h1, k1⟩ := ha.ex
  refine ⟨ta, h1, fun H0 B0 ρ σ Hb H K J Q R p kq kx => ?_⟩
  refine k1 _ _ _ _ _ _ _ J _ R p (fun a ka => RetOk.data fun v Hb1 H1 g1 d1 => ?_) kx
  unfold kAdr at ka
  split at ka
  · rename_i q p' ps rows ea ej
    obtain ⟨k, r, e1, e2, kk⟩ := ka
    obtain ⟨w, _, _, K'⟩ := (R.more g1).slot j _ ej
    obtain ⟨xs, y1, _, _, y4⟩ := K'.row k q r e1 e2
    rw [ea] at d1
    rw [d1.adr_]
    exact kq _ _ Hb1 H1 kk g1 (.inr ⟨r, q, xs, rfl, rfl, y1, y4⟩)
  · exact ka.elim
/-! ### a cell of a row is stored -/
def kCell (j : Nat) (p : Addr) (ps : List Addr) (rows : List (List D)) (ρ : Ro) (Z : EndsD) (r : RV) (q : Addr) : KD := fun k => match k.d with
  | .int i => ∃ (n : Nat) (row : List D) (m : Nat), ps[n]? = some q ∧ rows[n]? = some row ∧ ixN row.length i = some m ∧ Z.nx (ρ.set j (some (.tab p ps (rows.set n (row.set m r.d)))))
  | _ => False
def kRowC (j : Nat) (pi : TEd) (p : Addr) (ps : List Addr) (rows : List (List D)) (ρ : Ro) (Z : EndsD) (r : RV) : KD := fun a => match a.d with
  | .adr q => pi ρ (kCell j p ps rows ρ Z r q) Z.ex
  | _ => False
def pSetA (j : Nat) (pb pi pe : TEd) : TSd := fun Z ρ => match ρ[j]? with
  | some (some (.tab p ps rows)) => pe ρ (fun r => pb ρ (kRowC j pi p ps rows ρ Z r) Z.ex) Z.ex
  | _ => False
theorem ds_setA (j : Nat) {b i e : Expr} {pb pi pe : TEd} {pos pos2 : Pos} (he : PEd X E e pe) (hb : PEd X E b pb) (hi : PEd X E i pi)
    (ha : ∀ v, assign (.Subscript b i pos) X.env v = (do
      let ov ← holding [v] (eval b X.env)
      let iv ← holding [v, ov] (eval i X.env)
      standAt pos
      holding [v, ov, iv] (setItem ov iv v)
      release [v, ov, iv] []) := by intro _; rfl)
    (hs : swapsWithSole [(.Subscript b i pos : Expr)] e pos2.line X.env = pure false := by rfl) (hw : swappedStores [(.Subscript b i pos : Expr)] e X.env = pure none := by rfl) (h1 : (assignEach [(.Subscript b i pos : Expr)] X.env).map (·.2) = [assign (.Subscript b i pos) X.env] := by rfl) :
    PSd X E (.Assign [.Subscript b i pos] e pos2) (pSetA j pb pi pe) := by
  obtain ⟨te, a1, k1⟩ := he.ex
  obtain ⟨tb, a2, k2⟩ := hb.ex
  obtain ⟨ti, a3, k3⟩ := hi.ex
  refine ⟨_, ps_asg a1 (pg_sub a2 a3 set_list ha) hs hw h1, fun H0 B0 ρ σ Hb H Z Dn R p z => ?_⟩
  unfold pSetA at p
  split at p
  · rename_i p0 ps rows ej
    refine k1 _ _ _ _ _ _ _ Z.ex _ R p (fun r kr => RetOk.data fun v Hb1 H1 g1 dv => ?_) z.ex
    have R1 := R.more g1
    refine k2 _ _ _ _ _ _ _ Z.ex _ R1 kr (fun a ka => RetOk.data fun o Hb2 H2 g2 da => ?_) z.ex
    have R2 := R1.more g2
    unfold kRowC at ka
    split at ka
    · rename_i q eq
      rw [eq] at da
      refine k3 _ _ _ _ _ _ _ Z.ex _ R2 ka (fun k kk => RetOk.data fun u Hb3 H3 g3 du => ?_) z.ex
      have R3 := R2.more g3
      unfold kCell at kk
      split at kk
      · rename_i n en
        rw [en] at du
        obtain ⟨c, row, m, e1, e2, e3, nx⟩ := kk
        obtain ⟨w, _, _, K'⟩ := R3.slot j _ ej
        obtain ⟨xs, y1, _, _, y4⟩ := K'.row c q row e1 e2
        exact ⟨q, xs, n, m, da.adr_, du.int_, y1, by rw [y4.length]; exact e3, z.nx _ _ _ _ nx (R3.writeT ej e1 (y4.set (dv.mono (g2.bot.trans g3.bot)) m))⟩
      · exact kk.elim
    · exact ka.elim
  · exact p.elim
/-! ### a table is made -/
def kTabE (I : Nat → List (List D) → Prop) (n : Nat) (acc : List (List D)) : KD := fun r => match r with
  | .own ds => I (n + 1) (acc ++ [ds])
  | _ => False
def pLcT (q : TId) (j : Nat) (vs : List Nat) (pe : TEd) : TEd := fun ρ K J => q ρ (fun items => items.length ≤ 1000000 ∧ ∃ I : Nat → List (List D) → Prop, I 0 [] ∧
  (∀ n d acc, items[n]? = some d → I n acc → pe ((wipeR ρ vs).set j (some (.ro d))) (kTabE I n acc) (fun _ => False)) ∧ ∀ acc p (qs : List Addr), qs.length = acc.length → I items.length acc → K (.tab p qs acc)) J
theorem lc_runT {q : TId} {j : Nat} {vs : List Nat} {pe : TEd} {wi : TI} (hj : j ∈ vs)
    (k1 : ∀ H0 B0 ρ σ Hb H (K : List D → Prop) (J : KX) (Rr : It → Hp → Prop), Rep H0 B0 ρ σ Hb H → q ρ K J → (∀ items Jt Hb1 H1, K items → Grow H Hb H1 Hb1 → ItOk Jt items Hb1 → Rr Jt H1) → (∀ x, J x → ExOk H0 B0 E x) → wi σ H Rr) :
    ∀ H0 B0 ρ σ Hb H (K : KD) (J : KX) (Q : VK), Rep H0 B0 ρ σ Hb H → pLcT q j vs pe ρ K J → (∀ r, K r → RetOk H Hb Q r) → (∀ x, J x → ExOk H0 B0 E x) → tLc wi (gName j) (canT E0 tY) (canE E0 pe) vs σ H Q := by
  intro H0 B0 ρ σ Hb H K J Q R p kq kx
  refine k1 _ _ _ _ _ _ _ J _ R p (fun items Jt Hb1 H1 ki g1 ok Dl hDl => ?_) kx
  obtain ⟨hz, I, i0, is, id⟩ := ki
  have R1 := R.more g1
  have hDb : Hb1 Dl = none := same_none g1.sub hDl
  refine ⟨fun n m H' => m = items.length - n ∧ n ≤ items.length ∧ ∃ acc qs Hb', I n acc ∧ acc.length ≤ n ∧ Grow H1 Hb1 H' Hb' ∧ TabOk H1 Hb' H' qs acc Dl,
    ⟨items.length, by simp, Nat.zero_le _, [], [], Hb1, i0, Nat.le_refl _, Grow.own g1.sub hDl, ⟨upd_same, hDl, hDb, rfl, List.nodup_nil, List.not_mem_nil, fun k q r e _ => by simp at e⟩⟩, ?_⟩
  rintro n m H' ⟨rfl, hn, acc, qs, Hb', jn, hacc, g, TK⟩
  by_cases hlt : n < items.length
  · refine .inr ⟨ok.go n Hb' H' g.bot g.sub hlt, fun H3 => ∃ acc3 qs3 Hb3, I (n + 1) acc3 ∧ acc3.length ≤ n + 1 ∧ Grow H1 Hb1 H3 Hb3 ∧ TabOk H1 Hb3 H3 qs3 acc3 Dl, fun H3 h3 => ⟨items.length - (n + 1), by omega, rfl, hlt, h3⟩, fun x H3 y => ?_⟩
    obtain ⟨rfl, d, e1, e2⟩ := ok.yld n Hb' H' x H3 g.bot g.sub y hlt
    have R' : Rep H0 B0 ((wipeR ρ vs).set j (some (.ro d))) ((L2.wipe σ vs).set j (some x)) Hb' H3 := ((R1.more g).wipe vs).put (e2.mono g.bot)
    refine ⟨wipe_turn hj, H0, B0, _, Hb', fun b => b = true, fun _ => False, R', rfl, fun b Hb4 H4 kb g4 => ?_, fun _ z => z.elim⟩
    subst kb
    refine (if_pos rfl).mpr ⟨H0, B0, _, Hb4, _, fun _ => False, R'.more g4, is n d acc e1 jn, fun r kr => ?_, fun _ z => z.elim⟩
    unfold kTabE at kr
    split at kr
    · rename_i ds
      intro q xs Hb5 H5 g5 hq nq nb dv
      have T5 := TK.grow (g4.trans g5)
      have z1 : (qs.map V.ref).length ≤ n := by rw [List.length_map, TK.len]; exact hacc
      have nq3 : H3 q = none := same_none g4.top nq
      have nDl : q ≠ Dl := fun z => by rw [z, TK.out] at nq3; cases nq3
      have nqs : q ∉ qs := fun z => by
        obtain ⟨k, hk⟩ := List.getElem?_of_mem z
        have hl := (List.getElem?_eq_some_iff.mp hk).1
        rw [TK.len] at hl
        obtain ⟨ys, w1, _⟩ := TK.row k q _ hk (List.getElem?_eq_getElem hl)
        rw [nq3] at w1
        cases w1
      refine ⟨qs.map V.ref, T5.out, Nat.lt_of_lt_of_le (Nat.lt_of_le_of_lt z1 (Nat.lt_of_lt_of_le hlt hz)) mil, acc ++ [ds], qs ++ [q], Hb5, kr, by rw [List.length_append]; exact Nat.succ_le_succ hacc, (g.trans (g4.trans g5)).mut T5.o0 T5.ob, ?_⟩
      refine ⟨by rw [upd_same, List.map_append]; rfl, T5.o0, T5.ob, by rw [List.length_append, List.length_append, TK.len]; rfl, ?_, ?_, fun k q' r h1 h2 => ?_⟩
      · rw [List.nodup_append]
        refine ⟨TK.nd, by simp, fun a ha b hb => ?_⟩
        have e : b = q := by simpa using hb
        rw [e]
        intro z
        rw [z] at ha
        exact nqs ha
      · intro z
        rcases List.mem_append.mp z with z | z
        · exact TK.np z
        · have e : Dl = q := by simpa using z
          exact nDl e.symm
      · by_cases hk : k < qs.length
        · rw [List.getElem?_append_left hk] at h1
          rw [List.getElem?_append_left (by rw [← TK.len]; exact hk)] at h2
          obtain ⟨ys, y1, y2, y3, y4⟩ := T5.row k q' r h1 h2
          refine ⟨ys, ?_, y2, y3, y4⟩
          rw [upd_ne (fun z => TK.np (by rw [← z]; exact List.mem_of_getElem? h1))]
          exact y1
        · rw [List.getElem?_append_right (by omega)] at h1
          rw [List.getElem?_append_right (by rw [← TK.len]; omega), ← TK.len] at h2
          have ek : k - qs.length = 0 := by
            have := (List.getElem?_eq_some_iff.mp h1).1
            rw [List.length_singleton] at this
            omega
          rw [ek] at h1 h2
          cases h1
          cases h2
          refine ⟨xs, ?_, same_none g.top nq3, nb, dv⟩
          rw [upd_ne nDl]
          exact hq
    · exact kr.elim
  · have e : n = items.length := by omega
    subst e
    exact .inl ⟨ok.stop Hb' H' g.bot g.sub, kq _ (id acc Dl qs TK.len jn) Hb' H' (g1.trans g) (TK.base fun a z => same_none g1.top z)⟩
theorem ds_setLcT (i : Nat) {y : Str} {py : Pos} {elt tg iter : Expr} {scope : Scope} (own : List (Str × Nat)) (j : Nat) {pos spos : Pos} {q : TId} {pe : TEd} (hc : X.calm = true) (hN : X.N.Nodup) (hsw : swapsWith (.ListComp elt [⟨tg, iter, [], 0⟩] scope pos) (some (.Name y py)) spos.line X.env = pure true)
    (hi : PId X E tg iter q) (ok : blkC X.N X.env.scope scope own = true) (hj : j ∈ own.map (·.2))
    (hg : ∀ (s : Shared) (H : Hp) (C : Addr) (cl : List (Str × Addr)) (fp : List Addr), PG (X.blk s H scope (compEnvC scope cl C X.env) fp) tg (gName j))
    (he : ∀ (s : Shared) (H : Hp) (C : Addr) (cl : List (Str × Addr)) (fp : List Addr), PEd (X.blk s H scope (compEnvC scope cl C X.env) fp) E0 elt pe) (hy : X.N[i]? = some y := by rfl) (hyl : X.env.scope.names.lookup y = some .local := by rfl) (hs : ∀ x, foldedSetIterable iter X.env x = pure x := by intro _; rfl) :
    PSd X E (.Assign [.Name y py] (.ListComp elt [⟨tg, iter, [], 0⟩] scope pos) spos) (pAsg i (pLcT q j (own.map (·.2)) pe)) := by
  obtain ⟨wi, a1, k1⟩ := hi.ex
  exact ⟨_, ps_setLc hc hN hy hyl hsw a1 (blkOk_by ok) hg (fun s H C cl fp => dts_nil.ex) (fun s H C cl fp => (he s H C cl fp).can) hs, asg_run (lc_runT hj k1)⟩
theorem de_lcT {elt tg iter : Expr} {scope : Scope} (own : List (Str × Nat)) (j : Nat) {pos : Pos} {q : TId} {pe : TEd} (hc : X.calm = true) (hN : X.N.Nodup) (hi : PId X E tg iter q) (ok : blkC X.N X.env.scope scope own = true) (hj : j ∈ own.map (·.2))
    (hg : ∀ (s : Shared) (H : Hp) (C : Addr) (cl : List (Str × Addr)) (fp : List Addr), PG (X.blk s H scope (compEnvC scope cl C X.env) fp) tg (gName j))
    (he : ∀ (s : Shared) (H : Hp) (C : Addr) (cl : List (Str × Addr)) (fp : List Addr), PEd (X.blk s H scope (compEnvC scope cl C X.env) fp) E0 elt pe) (hs : ∀ x, foldedSetIterable iter X.env x = pure x := by intro _; rfl) :
    PEd X E (.ListComp elt [⟨tg, iter, [], 0⟩] scope pos) (pLcT q j (own.map (·.2)) pe) := by
  obtain ⟨wi, a1, k1⟩ := hi.ex
  exact ⟨_, pe_lc hc hN a1 (blkOk_by ok) hg (fun s H C cl fp => dts_nil.ex) (fun s H C cl fp => (he s H C cl fp).can) hs, lc_runT hj k1⟩
/-- return name: the table is only read from here on -/
def pRetF (j : Nat) : TSd := fun Z ρ => match ρ[j]? with
  | some (some (.tab _ _ rows)) => Z.rt (.ro (.lst (rows.map D.lst)))
  | _ => False
theorem ds_retF (j : Nat) {x : Str} {p1 pos : Pos} (hN : X.N[j]? = some x := by rfl) (hv : Vis X.env.scope x := by first | exact .inl rfl | exact .inr (.inl rfl) | exact .inr (.inr rfl)) (hd : (x == ("__debug__" : Str)) = false := by decide) (hcd : (x == ("__classdict__" : Str)) = false := by decide) : PSd X E (.Return (some (.Name x p1)) pos) (pRetF j) := by
  refine ⟨_, ps_ret (pe_var hN hv hd hcd), fun H0 B0 ρ σ Hb H Z Dn R p z => ?_⟩
  unfold pRetF at p
  split at p
  · rename_i q ps rows e
    obtain ⟨v, s1, e2, K⟩ := R.slot j _ e
    obtain ⟨Hb2, g2, d, _⟩ := K.frz R.grow
    refine ⟨v, s1, ?_⟩
    rw [e2]
    exact z.rt _ p _ Hb2 H g2 d
  · exact p.elim
end
/-! ### defs that write a table that is passed -/
structure SpecT where
  α : Type
  rows : α → List (List D)
  args : α → List D
  pre : α → Prop
  post : α → List (List D) → Prop
/-- what changes but for the table -/
structure GrowT (H Hb H' Hb' : Hp) (p : Addr) (ps : List Addr) : Prop where
  top : ∀ a o, a ≠ p → a ∉ ps → H a = some o → H' a = some o
  bot : Same Hb Hb'
  sub : Same Hb' H'
  new : ∀ a, Hb a = none → Hb' a ≠ none → H a = none
def noH : Hp := fun _ => none
def spT (S : SpecT) : Sp := fun vs H Q _ => ∃ (x : S.α) (Hb : Hp) (ps : List Addr) (p : Addr) (us : List V), vs = .ref p :: us ∧ Same Hb H ∧ DVs Hb (S.args x) us ∧ TabOk noH Hb H ps (S.rows x) p ∧ S.pre x ∧
  ∀ rows' Hb' H', S.post x rows' → GrowT H Hb H' Hb' p ps → TabOk noH Hb' H' ps rows' p → Q .non H'
def startT (N : List Str) (q : Addr) (qs : List Addr) (rows : List (List D)) (ds : List D) : Ro := some (.tab q qs rows) :: (ds.map (fun d => some (.ro d)) ++ List.replicate (N.length - (ds.length + 1)) none)
open Classical in
theorem okTab {P : Program} {w : World} {K : PySem.W.Frag} {mg : Str → Option Value} {base : Heap} {CX : CXT} {x qual : Str} {params : Arguments} {body : List Stmt} {scope : Scope} {f : Addr} {fd : FuncData} {N ps : List Str} {k : Nat} {St : SpecT} {p : TSd}
    (F : FunD K x qual params body scope [] [] f fd) (Sc : FnScope N ps scope) (hl : ∀ x, (St.args x).length + 1 = ps.length)
    (hb : ∀ (cdv : Value) (A : Around) (outer : List Env) (s : Shared) (H : Hp) (E : XK), Room k (A.deeper (envOfC qual scope s.heap.objs.size f cdv)) → PSsd (cxOf CX P w K mg base N qual scope f cdv A outer s H E) E body p)
    (run : ∀ (x : St.α) (q : Addr) (qs : List Addr), St.pre x → qs.length = (St.rows x).length → p { nx := fun ρ => ∃ rows', ρ[0]? = some (some (.tab q qs rows')) ∧ St.post x rows', rt := fun _ => False, ex := fun _ => False } (startT N q qs (St.rows x) (St.args x))) : FnOk P w K mg base CX (k + 1) f fd ps (spT St) := by
  refine F.ok Sc (fun vs H Q E h => ?_) (fun cdv A outer s H vs Q E hr h => ?_)
  · obtain ⟨y, Hb, qs, q, us, rfl, _, d, _⟩ := h
    rw [List.length_cons, d.length]
    exact hl y
  · obtain ⟨y, Hb, qs, q, us, rfl, sb, d, TK, hp, h1⟩ := h
    obtain ⟨t, ht, kt⟩ := (hb cdv A outer s H E hr).ex
    let H0 : Hp := fun a => if a = q ∨ a ∈ qs then none else H a
    have in_ : ∀ a, (a = q ∨ a ∈ qs) → H0 a = none := fun a ha => if_pos ha
    have out_ : ∀ a, ¬ (a = q ∨ a ∈ qs) → H0 a = H a := fun a ha => if_neg ha
    have hbn : ∀ a, (a = q ∨ a ∈ qs) → Hb a = none := fun a ha => by
      rcases ha with ha | ha
      · rw [ha]; exact TK.ob
      · obtain ⟨k, hk⟩ := List.getElem?_of_mem ha
        have hl := (List.getElem?_eq_some_iff.mp hk).1
        rw [TK.len] at hl
        obtain ⟨xs, _, _, y3, _⟩ := TK.row k a _ hk (List.getElem?_eq_getElem hl)
        exact y3
    have T0 : TabOk H0 Hb H qs (St.rows y) q := ⟨TK.out, in_ q (.inl rfl), TK.ob, TK.len, TK.nd, TK.np, fun k a r e1 e2 => by
      obtain ⟨xs, y1, _, y3, y4⟩ := TK.row k a r e1 e2
      exact ⟨xs, y1, in_ a (.inr (List.mem_of_getElem? e1)), y3, y4⟩⟩
    have g0 : Grow H0 Hb H Hb := ⟨fun a o h => by
      by_cases ha : a = q ∨ a ∈ qs
      · rw [in_ a ha] at h; cases h
      · rw [out_ a ha] at h; exact h, Same.refl _, sb, fun a h k => absurd h k⟩
    have R : Rep H0 Hb (startT N q qs (St.rows y) (St.args y)) (L2.start N (.ref q :: us)) Hb H := by
      have base := start_rep (N := N.tail) sb d
      refine ⟨g0, ?_, fun i s e => ?_, fun i j s t u v a hij e1 e2 f1 f2 h3 h4 => ?_⟩
      · unfold L2.start startT
        rw [List.length_append, List.length_map, List.length_cons, List.length_cons, List.length_append, List.length_map, List.length_replicate, List.length_replicate, d.length]
        omega
      · cases i with
        | zero => cases e; exact ⟨_, rfl, rfl, T0⟩
        | succ i =>
          have e : ((St.args y).map (fun d => some (S.ro d)) ++ List.replicate (N.length - ((St.args y).length + 1)) none)[i]? = some (some s) := e
          by_cases hi : i < (St.args y).length
          · rw [List.getElem?_append_left (by rw [List.length_map]; exact hi), List.getElem?_map] at e
            cases z : (St.args y)[i]? with
            | none => rw [z] at e; cases e
            | some dd =>
              rw [z] at e
              cases e
              obtain ⟨v, h3, h4⟩ := d.get z
              refine ⟨v, ?_, h4⟩
              show ((V.ref q :: us).map some ++ List.replicate (N.length - (V.ref q :: us).length) none)[i + 1]? = _
              rw [List.map_cons, List.cons_append, List.getElem?_cons_succ, List.getElem?_append_left (by rw [List.length_map, d.length]; exact hi), List.getElem?_map, h3]
              rfl
          · rw [List.getElem?_append_right (by rw [List.length_map]; omega), List.getElem?_replicate] at e
            split at e <;> cases e
      · have only : ∀ {i : Nat} {s : S} {u : V}, (startT N q qs (St.rows y) (St.args y))[i]? = some (some s) → Has s u a → i = 0 := fun {i s u} e h => by
          cases i with
          | zero => rfl
          | succ i =>
            exfalso
            have e : ((St.args y).map (fun d => some (S.ro d)) ++ List.replicate (N.length - ((St.args y).length + 1)) none)[i]? = some (some s) := e
            by_cases hi : i < (St.args y).length
            · rw [List.getElem?_append_left (by rw [List.length_map]; exact hi), List.getElem?_map] at e
              cases z : (St.args y)[i]? with
              | none => rw [z] at e; cases e
              | some dd => rw [z] at e; cases e; exact h
            · rw [List.getElem?_append_right (by rw [List.length_map]; omega), List.getElem?_replicate] at e
              split at e <;> cases e
        exact hij ((only e1 h3).trans (only e2 h4).symm)
    refine ⟨t, ht, kt H0 Hb _ _ Hb H _ _ R (run y q qs hp TK.len) ⟨fun ρ σ Hb' H' z R' => ?_, fun _ _ _ _ z _ => z.elim, fun _ _ _ _ z _ => z.elim, fun _ z => z.elim, fun _ z => z.elim⟩⟩
    obtain ⟨rows', e, hq⟩ := z
    obtain ⟨v, _, _, T'⟩ := R'.slot 0 _ e
    refine h1 rows' Hb' H' hq ⟨fun a o h1 h2 h3 => R'.grow.top a o (by rw [out_ a fun z => z.elim h1 h2]; exact h3), R'.grow.bot, R'.grow.sub, fun a h k => ?_⟩ (T'.base fun _ _ => rfl)
    have z := R'.grow.new a h k
    by_cases ha : a = q ∨ a ∈ qs
    · exfalso
      have own : Hb' a = none := by
        rcases ha with ha | ha
        · rw [ha]; exact T'.ob
        · obtain ⟨k, hk⟩ := List.getElem?_of_mem ha
          have hl := (List.getElem?_eq_some_iff.mp hk).1
          rw [T'.len] at hl
          obtain ⟨xs, _, _, y3, _⟩ := T'.row k a _ hk (List.getElem?_eq_getElem hl)
          exact y3
      exact k own
    · rw [out_ a ha] at z
      exact z
/-- behind a call that wrote the slot's table -/
theorem Rep.callT {H0 B0 Hb H Hb' H' : Hp} {ρ : Ro} {σ : L2.St} {j : Nat} {p : Addr} {ps : List Addr} {rows rows' : List (List D)} (R : Rep H0 B0 ρ σ Hb H) (e : ρ[j]? = some (some (.tab p ps rows))) (G : GrowT H Hb H' Hb' p ps) (T : TabOk noH Hb' H' ps rows' p) :
    Rep H0 B0 (ρ.set j (some (.tab p ps rows'))) σ Hb' H' := by
  obtain ⟨v, hv, ev, K⟩ := R.slot j _ e
  have hl : j < ρ.length := (List.getElem?_eq_some_iff.mp e).1
  have own0 : ∀ a, (a = p ∨ a ∈ ps) → H0 a = none := fun a ha => by
    rcases ha with ha | ha
    · rw [ha]; exact K.o0
    · obtain ⟨k, hk⟩ := List.getElem?_of_mem ha
      have hl := (List.getElem?_eq_some_iff.mp hk).1
      rw [K.len] at hl
      obtain ⟨xs, _, y2, _⟩ := K.row k a _ hk (List.getElem?_eq_getElem hl)
      exact y2
  have T0 : TabOk H0 Hb' H' ps rows' p := ⟨T.out, own0 p (.inl rfl), T.ob, T.len, T.nd, T.np, fun k q r e1 e2 => by
    obtain ⟨xs, y1, _, y3, y4⟩ := T.row k q r e1 e2
    exact ⟨xs, y1, own0 q (.inr (List.mem_of_getElem? e1)), y3, y4⟩⟩
  have free : ∀ {a : Addr} {o : HO}, H a = some o → Hb a = none → Hb' a = none := fun {a o} h1 h2 => by
    cases z : Hb' a with
    | none => rfl
    | some o' =>
      have w := G.new a h2 (by rw [z]; exact fun y => nomatch y)
      rw [h1] at w
      cases w
  refine ⟨⟨fun a o h => ?_, R.grow.bot.trans G.bot, G.sub, fun a h k => ?_⟩, by rw [List.length_set]; exact R.len, fun i s ei => ?_, fun a b t1 t2 u1 u2 x hab e1 e2 f1 f2 h3 h4 => ?_⟩
  · have na : ¬ (a = p ∨ a ∈ ps) := fun z => by rw [own0 a z] at h; cases h
    exact G.top a o (fun z => na (.inl z)) (fun z => na (.inr z)) (R.grow.top a o h)
  · cases z : Hb a with
    | none => exact same_none R.grow.top (G.new a z k)
    | some o => exact R.grow.new a h (by rw [z]; exact fun y => nomatch y)
  · by_cases hi : i = j
    · subst hi
      rw [List.getElem?_set_self hl] at ei
      cases ei
      exact ⟨v, hv, ev, T0⟩
    · rw [List.getElem?_set_ne (Ne.symm hi)] at ei
      obtain ⟨u, k1, k2⟩ := R.slot i s ei
      refine ⟨u, k1, ?_⟩
      have ne : ∀ a, Has s u a → a ≠ p ∧ a ∉ ps := fun a ha => ⟨fun z => by
        subst z
        exact R.sep i j s _ u v a hi ei e k1 hv ha (.inl ev), fun z => R.sep i j s _ u v a hi ei e k1 hv ha (.inr z)⟩
      cases s with
      | ro d => exact DV.mono G.bot k2
      | own ds =>
        obtain ⟨q, xs, z1, z2, z3, z4, z5⟩ := k2
        exact ⟨q, xs, z1, G.top q _ (ne q z1).1 (ne q z1).2 z2, z3, free z2 z4, z5.mono G.bot⟩
      | tab q qs rs =>
        obtain ⟨z1, W⟩ := k2
        refine ⟨z1, G.top q _ (ne q (.inl z1)).1 (ne q (.inl z1)).2 W.out, W.o0, free W.out W.ob, W.len, W.nd, W.np, fun n q' r e3 e4 => ?_⟩
        obtain ⟨xs, y1, y2, y3, y4⟩ := W.row n q' r e3 e4
        have nn := ne q' (.inr (List.mem_of_getElem? e3))
        exact ⟨xs, G.top q' _ nn.1 nn.2 y1, y2, free y1 y3, y4.mono G.bot⟩
  · have old : ∀ {c : Nat} {t : S} {u : V}, (ρ.set j (some (.tab p ps rows')))[c]? = some (some t) → Has t u x → ∃ t', ρ[c]? = some (some t') ∧ Has t' u x := fun {c t u} hc hx => by
      by_cases hcj : c = j
      · subst hcj
        rw [List.getElem?_set_self hl] at hc
        cases hc
        exact ⟨_, e, hx⟩
      · rw [List.getElem?_set_ne (Ne.symm hcj)] at hc
        exact ⟨t, hc, hx⟩
    obtain ⟨t1', a1, a2⟩ := old e1 h3
    obtain ⟨t2', b1, b2⟩ := old e2 h4
    exact R.sep a b t1' t2' u1 u2 x hab a1 b1 f1 f2 a2 b2
structure ClT (P : Program) (w : World) (K : PySem.W.Frag) (mg : Str → Option Value) (base : Heap) (k : Nat) (x : Str) (St : SpecT) : Prop where
  ex : ∃ f fd ps, FnOk P w K mg base CX0 k f fd ps (spT St) ∧ mg x = some (.ref f) ∧ PySem.W.keepIn K (.ref f) = true ∧ Binds K fd ps []
def kCallT (j : Nat) (St : SpecT) (p : Addr) (ps : List Addr) (rows : List (List D)) (ρ : Ro) (Z : EndsD) : List D → Prop := fun ds => ∃ x : St.α, ds = St.args x ∧ rows = St.rows x ∧ St.pre x ∧ ∀ rows', St.post x rows' → Z.nx (ρ.set j (some (.tab p ps rows')))
def pCallT (j : Nat) (St : SpecT) (pa : TAd) : TSd := fun Z ρ => match ρ[j]? with
  | some (some (.tab p ps rows)) => pa ρ (kCallT j St p ps rows ρ Z) Z.ex
  | _ => False
theorem ds_callT {X : Cx} {E : XK} (j : Nat) {St : SpecT} {k : Nat} {x c : Str} {p1 p2 pos pos2 : Pos} {es : List Expr} {pa : TAd} (C : ClT X.prog X.w X.K X.mg X.base k x St) (hr : Room k X.A) (ha : PAd X E es pa) (hN : X.N[j]? = some c := by rfl) (hv : Vis X.env.scope c := by first | exact .inl rfl | exact .inr (.inl rfl) | exact .inr (.inr rfl))
    (hd : (c == ("__debug__" : Str)) = false := by decide) (hcd : (c == ("__classdict__" : Str)) = false := by decide) (hg : Gl X x := by rfl) (hdb : (x == ("__debug__" : Str)) = false := by decide)
    (he : starEach (.Name c p1 :: es) X.env = (false, eval (.Name c p1) X.env) :: starEach es X.env := by rfl) (hpl : (backTo pos (starEach es X.env)).any (·.1) = false := by rfl) (hs : swapsWith (.Call (.Name x p2) (.Name c p1 :: es) [] pos) none pos2.line X.env = pure false := by rfl) :
    PSd X E (.Expr (.Call (.Name x p2) (.Name c p1 :: es) [] pos) pos2) (pCallT j St pa) := by
  obtain ⟨f, fd, qs, F, hm, hk, hb⟩ := C.ex
  obtain ⟨ta, h1, k1⟩ := ha.ex
  refine ⟨_, ps_expr (pe_call (dvs := []) F hr hg hm hk hb .nil (E := E) px0 (pa_cons (pe_var hN hv hd hcd) h1 he) hdb he hpl) hs, fun H0 B0 ρ σ Hb H Z Dn R p z => ?_⟩
  unfold pCallT at p
  split at p
  · rename_i q ps rows ej
    obtain ⟨v, s1, e2, _⟩ := R.slot j _ ej
    refine ⟨v, s1, k1 _ _ _ _ _ _ _ Z.ex _ R p (fun ds vs Hb1 H1 kd g1 d1 => ?_) z.ex⟩
    have R1 := R.more g1
    obtain ⟨v', s1', e2', TK⟩ := R1.slot j _ ej
    obtain ⟨y, rfl, rfl, hp, hq⟩ := kd
    show spT St ((v :: vs) ++ []) H1 _ E
    rw [List.append_nil, e2]
    exact ⟨y, Hb1, ps, q, vs, rfl, g1.sub, d1, TK.base fun _ _ => rfl, hp, fun rows' Hb' H' hpost G T => z.nx _ _ _ _ (hq rows' hpost) (R1.callT ej G T)⟩
  · exact p.elim
/-! ### steps -/
section
variable {Z : EndsD} {ρ ρ' : Ro} {K : KD} {J : KX} {i j : Nat} {pa pb pi : TEd} {d : D} {ds : List D} {p q : Addr} {ps : List Addr} {rows : List (List D)}
theorem l_adr (h : pa ρ (kAdr j ρ K) J) : pAdr j pa ρ K J := h
theorem l_kAdr {k : Nat} {r : List D} (e : ρ[j]? = some (some (.tab p ps rows))) (e1 : ps[k]? = some q) (e2 : rows[k]? = some r) (h : K (.ro (.lst r))) : kAdr j ρ K (.ro (.adr q)) := by
  unfold kAdr
  rw [e]
  exact ⟨k, r, e1, e2, h⟩
theorem l_setA (e : ρ[j]? = some (some (.tab p ps rows))) (h : pa ρ (fun r => pb ρ (kRowC j pi p ps rows ρ Z r) Z.ex) Z.ex) : pSetA j pb pi pa Z ρ := by
  unfold pSetA
  rw [e]
  exact h
theorem l_kRowC {r : RV} (h : pi ρ (kCell j p ps rows ρ Z r q) Z.ex) : kRowC j pi p ps rows ρ Z r (.ro (.adr q)) := h
theorem l_kCell {r : RV} {x : Int} {n m : Nat} {row : List D} (e1 : ps[n]? = some q) (e2 : rows[n]? = some row) (e3 : ixN row.length x = some m) (e : SetTo ρ j (some (.tab p ps (rows.set n (row.set m r.d)))) ρ') (h : Z.nx ρ') : kCell j p ps rows ρ Z r q (.ro (.int x)) :=
  ⟨n, row, m, e1, e2, e3, by rw [e.eq]; exact h⟩
theorem l_callT {St : SpecT} {pa : TAd} (e : ρ[j]? = some (some (.tab p ps rows))) (h : pa ρ (kCallT j St p ps rows ρ Z) Z.ex) : pCallT j St pa Z ρ := by
  unfold pCallT
  rw [e]
  exact h
theorem l_kCallT {St : SpecT} (x : St.α) (e1 : ds = St.args x) (e2 : rows = St.rows x) (hp : St.pre x) (h : ∀ rows' ρ', St.post x rows' → SetTo ρ j (some (.tab p ps rows')) ρ' → Z.nx ρ') (hj : j < ρ.length) : kCallT j St p ps rows ρ Z ds := by
  have st : ∀ {ρ0 : Ro} {i : Nat} {s : Option S}, i < ρ0.length → SetTo ρ0 i s (ρ0.set i s) := by
    intro ρ0
    induction ρ0 with
    | nil => intro i s h; exact absurd h (Nat.not_lt_zero _)
    | cons x r ih =>
      intro i s h
      cases i with
      | zero => exact .z
      | succ i => exact .s (ih (Nat.lt_of_succ_lt_succ h))
  exact ⟨x, e1, e2, hp, fun rows' hq => h rows' _ hq (st hj)⟩
def kLcT (j : Nat) (vs : List Nat) (pe : TEd) (ρ : Ro) (K : KD) : List D → Prop := fun items => items.length ≤ 1000000 ∧ ∃ I : Nat → List (List D) → Prop, I 0 [] ∧
  (∀ n d acc, items[n]? = some d → I n acc → pe ((wipeR ρ vs).set j (some (.ro d))) (kTabE I n acc) (fun _ => False)) ∧ ∀ acc p (qs : List Addr), qs.length = acc.length → I items.length acc → K (.tab p qs acc)
theorem l_lcT {qi : TId} {vs : List Nat} {pe : TEd} (h : qi ρ (kLcT j vs pe ρ K) J) : pLcT qi j vs pe ρ K J := h
theorem l_kTabE {I : Nat → List (List D) → Prop} {n : Nat} {acc : List (List D)} (h : I (n + 1) (acc ++ [ds])) : kTabE I n acc (.own ds) := h
theorem l_lcTI {vs : List Nat} {pe : TEd} {items : List D} (hz : items.length ≤ 1000000) (e : wipeR ρ vs = ρ') (hj : j < ρ'.length) (I : Nat → List (List D) → Prop) (h0 : I 0 []) (h : ∀ n d acc ρ2, items[n]? = some d → I n acc → SetTo ρ' j (some (.ro d)) ρ2 → pe ρ2 (kTabE I n acc) (fun _ => False)) (k : ∀ acc p (qs : List Addr), qs.length = acc.length → I items.length acc → K (.tab p qs acc)) : kLcT j vs pe ρ K items := by
  have st : ∀ {ρ0 : Ro} {i : Nat} {s : Option S}, i < ρ0.length → SetTo ρ0 i s (ρ0.set i s) := by
    intro ρ0
    induction ρ0 with
    | nil => intro i s h; exact absurd h (Nat.not_lt_zero _)
    | cons x r ih =>
      intro i s h
      cases i with
      | zero => exact .z
      | succ i => exact .s (ih (Nat.lt_of_succ_lt_succ h))
  refine ⟨hz, I, h0, fun n d acc hn ha => ?_, k⟩
  rw [e]
  exact h n d acc _ hn ha (st hj)
theorem l_retF (e : ρ[j]? = some (some (.tab p ps rows))) (h : Z.rt (.ro (.lst (rows.map D.lst)))) : pRetF j Z ρ := by unfold pRetF; rw [e]; exact h
end
end Pu
/-! Pu9: statements that are never reached, a prefix over data ahead of raw statements, instances that are made. -/
namespace Pu
open PySem PySem.Spec PyProof.Rows L2
section
variable {X : Cx} {E : XK}
/-- what is never reached -/
theorem ds_never {st : Stmt} : PSd X E st (fun _ _ => False) := ⟨fun _ _ _ => False, ⟨fun _ _ _ _ _ _ h => h.elim⟩, fun _ _ _ _ _ _ _ _ _ p _ => p⟩
theorem dss_never {st : List Stmt} : PSsd X E st (fun _ _ => False) := ⟨fun _ _ _ => False, ⟨fun _ _ _ _ _ _ h => h.elim⟩, fun _ _ _ _ _ _ _ _ _ p _ => p⟩
/-- statements over data ahead of other statements -/
structure PPd (X : Cx) (E : XK) (pre : List Stmt) (p : TSd) : Prop where
  ex : ∀ rest t, PSs X rest t → ∃ t', PSs X (pre ++ rest) t' ∧ ∀ H0 B0 ρ σ Hb H (Z : EndsD) (Dn : Ends), Rep H0 B0 ρ σ Hb H → p Z ρ → SatZ H0 B0 E Z { Dn with nx := t Dn } → t' Dn σ H
theorem ppd_nil : PPd X E [] pNext := ⟨fun rest t h => ⟨t, h, fun H0 B0 ρ σ Hb H Z Dn R p z => z.nx ρ σ Hb H p R⟩⟩
theorem ppd_cons {st : Stmt} {pre : List Stmt} {p q : TSd} (h1 : PSd X E st p) (h2 : PPd X E pre q) : PPd X E (st :: pre) (pSeq p q) := by
  obtain ⟨t1, a1, k1⟩ := h1.ex
  refine ⟨fun rest t h => ?_⟩
  obtain ⟨t2, a2, k2⟩ := h2.ex rest t h
  refine ⟨_, pss_cons a1 a2, fun H0 B0 ρ σ Hb H Z Dn R p z => ?_⟩
  exact k1 H0 B0 ρ σ Hb H { Z with nx := q Z } { Dn with nx := t2 Dn } R p ⟨fun ρ' σ' Hb' H' p' R' => k2 _ _ _ _ _ _ Z Dn R' p' z, z.bk, z.ct, z.rt, z.ex⟩
end
/-! ### instances -/
structure SpecM where
  α : Type
  names : List Str
  args : α → List D
  flds : α → List D
  pre : α → Prop
structure GrowO (H Hb H' Hb' : Hp) (a : Addr) : Prop where
  top : ∀ b o, b ≠ a → H b = some o → H' b = some o
  bot : Same Hb Hb'
  sub : Same Hb' H'
  new : ∀ b, Hb b = none → Hb' b ≠ none → H b = none
def spM (C : Addr) (St : SpecM) : Sp := fun vs H Q _ => ∃ (x : St.α) (Hb : Hp) (a dx : Addr) (us : List V), vs = .ref a :: us ∧ H a = some (.ins C dx []) ∧ Hb a = none ∧ Same Hb H ∧ DVs Hb (St.args x) us ∧ St.pre x ∧
  ∀ Hb' H' xs, GrowO H Hb H' Hb' a → Hb' a = none → H' a = some (.ins C dx (St.names.zip xs)) → DVs Hb' (St.flds x) xs → Q .non H'
structure ClM (P : Program) (w : World) (K : PySem.W.Frag) (mg : Str → Option Value) (base : Heap) (CX : CXT) (k : Nat) (C : Addr) (x : Str) (St : SpecM) : Prop where
  ex : ∃ f fd ps, Mk K C f ∧ FnOk P w K mg base CX k f fd ps (spM C St) ∧ mg x = some (.ref C) ∧ Binds K fd ps []
def kMake (C : Addr) (St : SpecM) (K : KD) : List D → Prop := fun ds => ∃ x : St.α, ds = St.args x ∧ St.pre x ∧ K (.ro (.ins C St.names (St.flds x)))
def pMake (C : Addr) (St : SpecM) (pa : TAd) : TEd := fun ρ K J => pa ρ (kMake C St K) J
theorem de_make {X : Cx} {E : XK} {CX : CXT} {St : SpecM} {C : Addr} {k : Nat} {x : Str} {p pos : Pos} {e : Expr} {es : List Expr} {pa : TAd} (B : ClM X.prog X.w X.K X.mg X.base CX k C x St) (hr : Room (k + 1) X.A) (hx : Passes CX X E) (ha : PAd X E (e :: es) pa) (hg : Gl X x := by rfl) (hdb : (x == ("__debug__" : Str)) = false := by decide)
    (he : starEach (e :: es) X.env = (false, eval e X.env) :: starEach es X.env := by rfl) (hpl : (backTo pos (starEach es X.env)).any (·.1) = false := by rfl) : PEd X E (.Call (.Name x p) (e :: es) [] pos) (pMake C St pa) := by
  obtain ⟨f, fd, ps, M, F, hm, hb⟩ := B.ex
  obtain ⟨ta, h1, k1⟩ := ha.ex
  refine ⟨_, pe_make (dvs := []) M F hr hg hm hb .nil hx h1 hdb he hpl, fun H0 B0 ρ σ Hb H K J Q R p kq kx => ?_⟩
  refine k1 _ _ _ _ _ _ _ J _ R p (fun ds vs Hb1 H1 kd g1 d1 => ?_) kx
  intro a dx ha hdx hne
  obtain ⟨y, rfl, hp, kk⟩ := kd
  rw [List.append_nil]
  have sb : Same Hb1 (upd (upd H1 dx (.own a)) a (.ins C dx [])) := fun b o h => by
    have h2 := g1.sub b o h
    rw [upd_ne (ne_of_none h2 ha), upd_ne (ne_of_none h2 hdx)]
    exact h2
  refine ⟨y, Hb1, a, dx, vs, rfl, upd_same, same_none g1.sub ha, sb, d1, hp, fun Hb' H' xs G na hins dv => ⟨rfl, ?_⟩⟩
  have s2 : Same Hb' (upd Hb' a (.ins C dx (St.names.zip xs))) := fun b o h => by rw [upd_ne (ne_of_none h na)]; exact h
  refine kq _ kk (.ref a) (upd Hb' a (.ins C dx (St.names.zip xs))) H' (g1.trans ⟨fun b o h => ?_, G.bot.trans s2, fun b o h => ?_, fun b h k => ?_⟩) ?_
  · exact G.top b o (ne_of_none h ha) (by rw [upd_ne (ne_of_none h ha), upd_ne (ne_of_none h hdx)]; exact h)
  · by_cases hb : b = a
    · subst hb
      rw [upd_same] at h
      rw [← h]; exact hins
    · rw [upd_ne hb] at h
      exact G.sub b o h
  · by_cases hb : b = a
    · rw [hb]; exact ha
    · rw [upd_ne hb] at k
      have z := G.new b h k
      rw [upd_ne hb] at z
      by_cases hd : b = dx
      · rw [hd]; exact hdx
      · rw [upd_ne hd] at z; exact z
  · unfold DV
    exact ⟨a, dx, xs, rfl, upd_same, dv.mono s2⟩
theorem l_make {ρ : Ro} {K : KD} {J : KX} {C : Addr} {St : SpecM} {pa : TAd} (h : pa ρ (kMake C St K) J) : pMake C St pa ρ K J := h
theorem l_kMake {K : KD} {C : Addr} {St : SpecM} {ds : List D} (x : St.α) (e : ds = St.args x) (hp : St.pre x) (h : K (.ro (.ins C St.names (St.flds x)))) : kMake C St K ds := ⟨x, e, hp, h⟩
/-- three statements over data, four others -/
theorem pre34 {X : Cx} {E : XK} {s1 s2 s3 s4 s5 s6 s7 : Stmt} {p1 p2 p3 : TSd} {u1 u2 u3 u4 : TS} (h1 : PSd X E s1 p1) (h2 : PSd X E s2 p2) (h3 : PSd X E s3 p3) (k1 : PS X s4 u1) (k2 : PS X s5 u2) (k3 : PS X s6 u3) (k4 : PS X s7 u4)
    {H0 B0 : Hp} {ρ : Ro} {σ : L2.St} {Hb H : Hp} {Z : EndsD} {Dn : Ends} (R : Rep H0 B0 ρ σ Hb H) (p : pSeq p1 (pSeq p2 (pSeq p3 pNext)) Z ρ) (z : SatZ H0 B0 E Z { Dn with nx := tSeq u1 (tSeq u2 (tSeq u3 u4)) Dn }) : ∃ t, PSs X [s1, s2, s3, s4, s5, s6, s7] t ∧ t Dn σ H := by
  obtain ⟨t, ht, kt⟩ := (ppd_cons h1 (ppd_cons h2 (ppd_cons h3 ppd_nil))).ex _ _ (pss_cons k1 (pss_cons k2 (pss_cons k3 (pss_one k4))))
  exact ⟨t, ht, kt _ _ _ _ _ _ _ _ R p z⟩
/-- a look at the same heap, all slots read only -/
theorem Rep.look {H0 B0 Hb H H' : Hp} {ρ : Ro} {σ : L2.St} (R : Rep H0 B0 ρ σ Hb H) (ro : ∀ (i : Nat) (s : S), ρ[i]? = some (some s) → ∃ d, s = S.ro d) (sb : Same Hb H') : Rep H' Hb ρ σ Hb H' :=
  ⟨Grow.refl sb, R.len, fun i s e => by
    obtain ⟨v, h1, h2⟩ := R.slot i s e
    obtain ⟨d, rfl⟩ := ro i s e
    exact ⟨v, h1, h2⟩, fun i j s t u v a hij e1 e2 f1 f2 h3 h4 => by
    obtain ⟨d, rfl⟩ := ro i s e1
    exact h3⟩
end Pu
/-! Px3: rules over data within an except suite. -/
namespace Pu
open PySem PySem.Spec PyProof.Rows L2
structure ClH (P : Program) (w : World) (K : PySem.W.Frag) (mg : Str → Option Value) (base : Heap) (k : Nat) (x : Str) (S : SpecD) : Prop where
  ex : ∃ f fd ps, L2H.FnH P w K mg base CX0 k f fd ps (spD S) ∧ mg x = some (.ref f) ∧ PySem.W.keepIn K (.ref f) = true ∧ Binds K fd ps []
theorem unH {k : Nat} {A : Around} (r : L2H.RoomH k A) : A.units + 64 < cLine := by have := r.un; omega
section
variable {X : Cx} {E : XK}
theorem de_callCH {S : SpecD} {k : Nat} {x : Str} {p pos : Pos} {e : Expr} {es : List Expr} {pa : TAd} (C : ClH X.prog X.w X.K X.mg X.base k x S) (hr : L2H.RoomH k X.A) (hc : L2H.HotC X) (ha : PAd X E (e :: es) pa) (hg : Gl X x := by rfl) (hdb : (x == ("__debug__" : Str)) = false := by decide)
    (he : starEach (e :: es) X.env = (false, eval e X.env) :: starEach es X.env := by rfl) (hpl : (backTo pos (starEach es X.env)).any (·.1) = false := by rfl) : PEd X E (.Call (.Name x p) (e :: es) [] pos) (pCall S pa) := by
  obtain ⟨f, fd, ps, F, hm, hk, hb⟩ := C.ex
  obtain ⟨ta, h1, k1⟩ := ha.ex
  refine ⟨_, L2H.pe_callH (E := fun _ => E) F hr hc hg hm hk hb (fun _ _ _ _ _ _ _ z => z.elim) h1 hdb he hpl, fun H0 B0 ρ σ Hb H K J Q R p kq kx => ?_⟩
  refine k1 _ _ _ _ _ _ _ J _ R p (fun ds vs Hb1 H1 kd g1 d1 => ?_) kx
  obtain ⟨y, rfl, hp, h2, h3⟩ := kd
  exact ⟨y, Hb1, g1.sub, d1, hp, fun r hr => (kq r (h2 r hr)).back g1, fun e he => ((kx e (h3 e he)).back R.grow).back g1⟩
structure PIdH (X : Cx) (E : XK) (tg iter : Expr) (q : TId) : Prop where
  ex : ∃ wi, L2H.PIH X tg iter wi ∧ ∀ H0 B0 ρ σ Hb H (K : List D → Prop) (J : KX) (Rr : It → Hp → Prop), Rep H0 B0 ρ σ Hb H → q ρ K J → (∀ items Jt Hb1 H1, K items → Grow H Hb H1 Hb1 → ItOk Jt items Hb1 → Rr Jt H1) → (∀ x, J x → ExOk H0 B0 E x) → wi σ H Rr
theorem di_listH {tg e : Expr} {pa : TEd} (ha : PEd X E e pa) : PIdH X E tg e (qList pa) := by
  obtain ⟨ta, a1, k1⟩ := ha.ex
  exact ⟨_, pi_listH a1, qList_run k1⟩
theorem di_rng1H {tg a : Expr} {pa : TAd} {p pos : Pos} (hm : X.mg "range" = none) (ha : PAd X E [a] pa) (hg : Gl X "range" := by rfl) (hs : starEach [a] X.env = [(false, eval a X.env)] := by rfl) : PIdH X E tg (.Call (.Name "range" p) [a] [] pos) (qRng1 pa) := by
  obtain ⟨ta, a1, k1⟩ := ha.ex
  refine ⟨_, L2H.pi_range1H hg hm a1 hs, fun H0 B0 ρ σ Hb H K J Rr R q kr kx => ?_⟩
  refine k1 _ _ _ _ _ _ _ J _ R q (fun ds vs Hb1 H1 kd g1 d1 => ?_) kx
  split at kd
  · rename_i j
    obtain ⟨v, rfl, h1⟩ := vals1 d1
    rw [h1.int_]
    exact ⟨j, rfl, by omega, by omega, kr _ _ Hb1 H1 kd.2.2 g1 it_rng⟩
  · exact kd.elim
theorem ds_forH {tg iter : Expr} {body : List Stmt} {q : TId} {pg : TGd} {pb : TSd} {pos : Pos} (hp : PassesOwn (model X.prog X.w) X.A X.env X.xe) (hc : L2H.HotC X) (hi : PIdH X E tg iter q) (hg : PGd X tg pg) (hb : PSsd X E body pb) (hs : ∀ x, foldedSetIterable iter X.env x = pure x := by intro _; rfl) : PSd X E (.For tg iter body [] pos) (pFor q pg pb) := by
  obtain ⟨wi, a1, k1⟩ := hi.ex
  obtain ⟨g, a2, k2⟩ := hg.ex
  obtain ⟨tb, a3, k3⟩ := hb.ex
  exact ⟨_, L2H.ps_forH hp hc a1 a2 a3 hs, for_run k1 k2 k3⟩
theorem de_lcH {elt tg l : Expr} {ifs : List Expr} {scope : Scope} (own : List (Str × Nat)) (j : Nat) {pos : Pos} {pa : TEd} {pt : TTd} {pe : TEd} (hot : L2H.HotC X) (hN : X.N.Nodup) (ha : PEd X E l pa) (ok : blkC X.N X.env.scope scope own = true) (hj : j ∈ own.map (·.2))
    (hg : ∀ (s : Shared) (H : Hp) (C : Addr) (cl : List (Str × Addr)) (fp : List Addr), PG (X.blk s H scope (compEnvC scope cl C X.env) fp) tg (gName j)) (ht : ∀ (s : Shared) (H : Hp) (C : Addr) (cl : List (Str × Addr)) (fp : List Addr), PTsd (X.blk s H scope (compEnvC scope cl C X.env) fp) E0 ifs pt)
    (he : ∀ (s : Shared) (H : Hp) (C : Addr) (cl : List (Str × Addr)) (fp : List Addr), PEd (X.blk s H scope (compEnvC scope cl C X.env) fp) E0 elt pe) (hs : ∀ x, foldedSetIterable l X.env x = pure x := by intro _; rfl) :
    PEd X E (.ListComp elt [⟨tg, l, ifs, 0⟩] scope pos) (pLc (qList pa) j (own.map (·.2)) pt pe) := by
  obtain ⟨ta, a1, k1⟩ := ha.ex
  exact ⟨_, pe_lcH hot hN a1 (blkOk_by ok) hg (fun s H C cl fp => (ht s H C cl fp).ex) (fun s H C cl fp => (he s H C cl fp).can) hs, lc_run hj (qList_run (X := X) k1)⟩
end
section
variable {P : Program} {w : World} {K : PySem.W.Frag} {mg : Str → Option Value} {base : Heap} {CX : CXT} {x qual : Str} {params : Arguments} {body : List Stmt} {scope : Scope} {f : Addr} {fd : FuncData} {N ps : List Str} {k : Nat} {S : SpecD} {pr : XK → TSd}
theorem okDH (F : FunD K x qual params body scope [] [] f fd) (Sc : FnScope N ps scope) (hl : ∀ x, (S.args x).length = ps.length)
    (hb : ∀ (cdv : Value) (A : Around) (outer : List Env) (s : Shared) (H : Hp) (E : XK) (p : Addr × Obj), L2H.HotC (L2H.cxH CX P w K mg base N qual scope f cdv A outer s H E p) → L2H.RoomH k (A.deeper (envOfC qual scope s.heap.objs.size f cdv)) → PSsd (L2H.cxH CX P w K mg base N qual scope f cdv A outer s H E p) E body (pr E))
    (run : ∀ (x : S.α) (E : XK), S.pre x → pr E { nx := fun _ => S.post x (.ok (.ro .non)), rt := fun r => S.post x (.ok r), ex := fun e => S.post x (.error e) } (startD N (S.args x))) : L2H.FnH P w K mg base CX (k + 1) f fd ps (spD S) := by
  obtain ⟨oc, od, dV, kV, doc, pm, an, cdv, ct, osl, rfl, lk, hcd, _, _⟩ := F.ex
  refine L2H.fn_ofH lk hcd Sc (fun vs H Q E h => ?_) (fun A outer s H vs Q E p hot hr h => ?_)
  · obtain ⟨y, Hb, _, d, _⟩ := h
    rw [d.length]
    exact hl y
  · obtain ⟨y, Hb, sb, d, hp, h1, h2⟩ := h
    obtain ⟨t, ht, kt⟩ := (hb cdv A outer s H E p ⟨p, ⟨hot.1, hot.2⟩, List.mem_singleton_self _⟩ hr).ex
    refine ⟨t, ht, kt H Hb _ _ Hb H _ _ (start_rep sb d) (run y E hp) ⟨fun ρ σ Hb' H' z R => ?_, fun _ _ _ _ z _ => z.elim, fun _ _ _ _ z _ => z.elim, h1, h2⟩⟩
    exact h1 _ z .non Hb' H' R.grow DV.mk_non
theorem pxOH {cd : Value} {A : Around} {outer : List Env} {s : Shared} {H : Hp} {E : XK} {p : Addr × Obj} : PassesOwn (model (L2H.cxH CX P w K mg base N qual scope f cd A outer s H E p).prog (L2H.cxH CX P w K mg base N qual scope f cd A outer s H E p).w) (L2H.cxH CX P w K mg base N qual scope f cd A outer s H E p).A (L2H.cxH CX P w K mg base N qual scope f cd A outer s H E p).env (L2H.cxH CX P w K mg base N qual scope f cd A outer s H E p).xe := PassesOwn.leaving
end
end Pu
/-! Px4: what the text says of own errors; try .. except X as e; isinstance of e, a field of e there. -/
namespace Pu
open PySem PySem.Spec PyProof.Rows L2
/-! ### deciders -/
def oexB (K : PySem.W.Frag) (C : Addr) : Bool := (match K.lookup C with
  | some ⟨.type "type", _, .cls cd, sl⟩ => (match cd.mro, sl.toList with
    | .ref C' :: bm, [_, _, _, _, some (.builtin n), _] => decide (C' = C) && (decide (n = "ValueError.__new__") && (!cd.hasDel && (cd.hasDict && PySem.HandSPX.refsVE bm)))
    | _, _ => false)
  | _ => false) && (He.eqO (PySem.W.findIn K (.ref C) "__setattr__") (some (some (.builtin "object.__setattr__"))) && (decide (PySem.W.subIn K (.ref C) (.type "BaseException") = some true) && (decide (PySem.W.typeIn K (.ref C) = some (.type "type")) && PySem.W.keepIn K (.ref C))))
theorem and2 {a b : Bool} (h : (a && b) = true) : a = true ∧ b = true := Bool.and_eq_true_iff.mp h
theorem oexB_ok {K : PySem.W.Frag} {C : Addr} (h : oexB K C = true) : OexC K C := by
  obtain ⟨h0, h⟩ := and2 h
  obtain ⟨h1, h⟩ := and2 h
  obtain ⟨h2, h⟩ := and2 h
  obtain ⟨h3, h4⟩ := and2 h
  refine ⟨?_, He.eqO_ok h1, of_decide_eq_true h2, of_decide_eq_true h3, h4⟩
  split at h0
  · rename_i dd cd sl ho
    split at h0
    · rename_i C' bm k0 k1 k2 k3 n k5 hm hs
      obtain ⟨q1, h0⟩ := and2 h0
      obtain ⟨q2, h0⟩ := and2 h0
      obtain ⟨q3', h0⟩ := and2 h0
      obtain ⟨q4, q5⟩ := and2 h0
      replace q1 := of_decide_eq_true q1
      replace q2 := of_decide_eq_true q2
      have q3 : cd.hasDel = false := by simpa using q3'
      clear q3'
      obtain ⟨nm, bs, mro, ns, qn, hd, sn, sb, ab, col, del⟩ := cd
      dsimp only at hm q3 q4
      subst hm q1 q2 q3 q4
      have hsl : sl = #[k0, k1, k2, k3, some (.builtin "ValueError.__new__"), k5] := by
        obtain ⟨l⟩ := sl
        dsimp only at hs
        rw [hs]
      subst hsl
      exact ⟨nm, qn, ns, bs, bm, sn, sb, ab, col, dd, k0, k1, k2, k3, k5, ho, q5⟩
    · cases h0
  · cases h0
/-- what a def is, but for the addresses of its cells -/
abbrev FnI : Type := Option (Str × Str × Arguments × FuncBody × Scope × Addr × List Str × Addr)
def fnI (K : PySem.W.Frag) (p : Str × Option Str) : FnI := match K.lookup (He.fAd K p) with
  | some ⟨_, _, .func fd, _⟩ => some (fd.name, fd.qualname, fd.params, fd.body, fd.scope, fd.globals, fd.closure.map (·.1), fd.builtins)
  | _ => none
def valI (d : He.DefD) : FnI := some (d.name, d.qual, d.params, .stmts d.body, d.scope, mainGlobals, [("__class__" : Str)], builtinsNs)
def supCl (K : PySem.W.Frag) (C : Addr) (file q : Str) (cd : Value) (clo : List (Str × Addr)) : Bool := match cd, clo with
  | .ref cda, [(_, cc)] => PySem.W.codeIn K (.ref cda) q && ((match K.lookup cda with
    | some ⟨_, _, .fields vs, _⟩ => (match (vs[2]? : Option Value) with
      | some (.str fl _) => file == fl
      | _ => false)
    | _ => false) && (match K.lookup cc with
    | some ⟨_, _, .cell (some (.ref D)), _⟩ => decide (D = C)
    | _ => false))
  | _, _ => false
def supCodeB (K : PySem.W.Frag) (C f : Addr) (file : Str) : Bool := match K.lookup f with
  | some ⟨_, _, .func fd, _⟩ => decide (fd.defaults = .none) && supCl K C file fd.qualname fd.code fd.closure
  | _ => false
def supB (K : PySem.W.Frag) (C f : Addr) (file : Str) : Bool := supCodeB K C f file && (oexB K C && (decide (PySem.W.mroIn K C (.ref C) = some true) && (He.eqO (PySem.W.nsIn K mainGlobals "super") (some none) && (He.eqO (PySem.W.nsIn K cStatics "thirdparty.any") (some none) &&
  (He.eqO (PySem.W.ks_superIn K C C "__init__") (some (some (.builtin "ValueError.__init__"))) && decide (PySem.W.subIn K (.ref C) (.type "ValueError") = some true))))))
theorem supB_ok {P : Program} {K : PySem.W.Frag} {C : Addr} {d : He.DefD} (h : supB K C (He.fAd K d.at_) P.main.file = true) (e : fnI K d.at_ = valI d) : ∃ fd cda cc, SupF P K C (He.fAd K d.at_) d.name d.qual d.params d.body d.scope fd cda cc := by
  obtain ⟨h0, h⟩ := and2 h
  obtain ⟨h1, h⟩ := and2 h
  obtain ⟨h2, h⟩ := and2 h
  obtain ⟨h3, h⟩ := and2 h
  obtain ⟨h4, h⟩ := and2 h
  obtain ⟨h5, h6⟩ := and2 h
  unfold supCodeB at h0
  unfold fnI at e
  cases q : K.lookup (He.fAd K d.at_) with
  | none => rw [q] at h0; cases h0
  | some o =>
    obtain ⟨oc, od, dt, osl⟩ := o
    rw [q] at h0 e
    cases dt with
    | func fd =>
      obtain ⟨n1, n2, n3, n4, n5, n6, n7, n8, n9, n10, n11, n12, n13, n14, n15⟩ := fd
      have e2 : (some (n1, n2, n3, n4, n5, n6, n7.map (·.1), n15) : FnI) = some (d.name, d.qual, d.params, .stmts d.body, d.scope, mainGlobals, [("__class__" : Str)], builtinsNs) := e
      simp only [Option.some.injEq, Prod.mk.injEq] at e2
      obtain ⟨a1, a2, a3, a4, a5, a6, a7, a8⟩ := e2
      have hw : (decide (n8 = .none) && supCl K C P.main.file n2 n13 n7) = true := h0
      clear h0
      obtain ⟨hdv, hv2⟩ := and2 hw
      clear hw
      have hdv := of_decide_eq_true hdv
      subst hdv
      have key : ∃ cda x cc, n13 = .ref cda ∧ n7 = [(x, cc)] := by
        unfold supCl at hv2
        split at hv2
        · exact ⟨_, _, _, rfl, rfl⟩
        · cases hv2
      obtain ⟨cda, x, cc, rfl, rfl⟩ := key
      have a7 : x = ("__class__" : Str) := by simpa using a7
      subst a1 a2 a3 a4 a5 a6 a7 a8
      obtain ⟨g1, hv3⟩ := and2 hv2
      obtain ⟨g2, g3⟩ := and2 hv3
      refine ⟨_, cda, cc, ⟨⟨_, _, _, _, _, oc, od, osl, rfl, q⟩, g1, ?_, ?_, oexB_ok h1, of_decide_eq_true h2, He.eqO_ok h3, He.eqO_ok h4, He.eqO_ok h5, of_decide_eq_true h6⟩⟩
      · split at g2
        · rename_i cl cdd vs sl hv
          split at g2
          · rename_i fl tf hvs
            exact ⟨cl, cdd, vs, sl, fl, tf, hv, hvs, g2⟩
          · cases g2
        · cases g2
      · split at g3
        · rename_i cl cld D sl hv
          have := of_decide_eq_true g3
          subst this
          exact ⟨cl, cld, sl, hv⟩
        · cases g3
    | _ => cases h0
/-- what isinstance wants of the class of a caught error -/
def isB (K : PySem.W.Frag) (C : Addr) : Bool := (PySem.W.clsIn K C).isSome && (He.eqO (PySem.W.findIn K (.ref C) "__getattribute__") (some (some (.builtin "BaseException.__getattribute__"))) && (He.eqO (PySem.W.findIn K (.ref C) "__getattr__") (some none) && (decide (PySem.W.subIn K (.ref C) (.type "BaseException") = some true) &&
  (PySem.W.hasDictIn K C && (He.eqO (PySem.W.findIn K (.ref C) "__class__") (some (some (.builtin "object.__class__"))) && (He.eqO (PySem.W.specialIn K (.builtin "object.__class__") "__get__") (some (some (.builtin "getset_descriptor.__get__"))) && (decide (PySem.W.takesIn K (.builtin "object.__class__") = some true) && decide (PySem.W.mroIn K C (.type "object") = some true))))))))
theorem isB_ok {K : PySem.W.Frag} {C : Addr} (h : isB K C = true) : L2.ExcC K C ∧ XfC K C ∧ (PySem.W.clsIn K C).isSome = true := by
  obtain ⟨h0, h⟩ := and2 h
  obtain ⟨h1, h⟩ := and2 h
  obtain ⟨h2, h⟩ := and2 h
  obtain ⟨h3, h⟩ := and2 h
  obtain ⟨h4, h⟩ := and2 h
  obtain ⟨h5, h⟩ := and2 h
  obtain ⟨h6, h⟩ := and2 h
  obtain ⟨h7, h8⟩ := and2 h
  exact ⟨⟨He.eqO_ok h1, He.eqO_ok h2, of_decide_eq_true h3, h4, He.eqO_ok h5, He.eqO_ok h6, of_decide_eq_true h7, of_decide_eq_true h8⟩, ⟨He.eqO_ok h1, He.eqO_ok h2, of_decide_eq_true h3, h4⟩, h0⟩
/-! ### isinstance(e, C) -/
def XdAt (d : Option Addr) (H : Hp) : Prop := ∀ dd, d = some dd → ∃ fs, H dd = some (.xd fs)
def rIsX (K : PySem.W.Frag) (D a : Addr) (d : Option Addr) : List V → Hp → VK → Prop := fun xs H Q => ∃ (c : V) (cv : Value) (b : Bool), xs = [.ref a, c] ∧ (∀ u, RelV c u → u = cv) ∧ PySem.W.kitOne K (.ref D) cv = some b ∧ XdAt d H ∧ Q (.bl b) H
theorem call_isX {X : Cx} {a D : Addr} {oe : Obj} {d : Option Addr} {pn : List (Addr × Obj)} (C : L2.ExcC X.K D) (cl : (PySem.W.clsIn X.K D).isSome = true) (hz : Zc (.ref D) d oe) (hf : ∃ vs, oe.data = .fields vs) : CallR (X.suite a ((a, oe) :: pn)) (.builtin "isinstance") (rIsX X.K D a d) := by
  intro pins s σ H xs us Q I r h
  obtain ⟨c, cv, b, rfl, hcv, e, hd, q⟩ := h
  cases r with
  | cons rx rr =>
  cases rr with
  | cons rt rr =>
  cases rr
  cases rx
  have ec := hcv _ rt
  subst ec
  obtain ⟨hget, _⟩ := I.pin (a, oe) (List.mem_append_left _ List.mem_cons_self)
  obtain ⟨vs, hv⟩ := hf
  have nc : PySem.W.notCls oe = true := by unfold PySem.W.notCls; rw [hv] <;> rfl
  have J : ∃ od, PySem.W.InstAt s.heap a oe D od := by
    cases d with
    | none => exact ⟨none, hget, hz.1, nc, by rw [hz.2]; trivial⟩
    | some dd =>
      obtain ⟨fs, hfs⟩ := hd dd rfl
      obtain ⟨o, ho⟩ := objOk_get (I.hok dd _ hfs)
      exact ⟨some o, hget, hz.1, nc, by rw [hz.2]; exact ho⟩
  obtain ⟨od, J⟩ := J
  exact PySem.W.kia_one (PySem.W.kitx_exc cl C.hg C.hk C.hs C.ha C.hn C.ht C.hm) I.kIn J e (fun z => nomatch z) fun tk => ⟨.bl b, H, I.kept (t' := tk) fun _ _ z => z, rfl, q⟩
def tIsX (i : Nat) (a : Addr) (d : Option Addr) (b : Bool) : TE := fun σ H Q => σ[i]? = some (some (.ref a)) ∧ XdAt d H ∧ Q (.bl b) H
theorem pe_imp {X : Cx} {e : Expr} {t t' : TE} (h : PE X e t) (k : ∀ σ H Q, t' σ H Q → t σ H Q) : PE X e t' := ⟨fun pins s σ H Q I q => h.run pins s σ H Q I (k σ H Q q)⟩
theorem pss_imp {X : Cx} {e : List Stmt} {t t' : TS} (h : PSs X e t) (k : ∀ D σ H, t' D σ H → t D σ H) : PSs X e t' := ⟨fun pins s σ H D I q => h.run pins s σ H D I (k D σ H q)⟩
theorem pss_given {X : Cx} {e : List Stmt} {t : TS} {φ : Prop} (h : φ → PSs X e t) : PSs X e (fun D σ H => φ ∧ t D σ H) := ⟨fun pins s σ H D I q => (h q.1).run pins s σ H D I q.2⟩
theorem pe_isX {X : Cx} {a D : Addr} {oe : Obj} {d : Option Addr} {pn : List (Addr × Obj)} {i : Nat} {n : Str} {c : V} {cv : Value} {b : Bool} {ce : Expr} {p q pos : Pos} (C : L2.ExcC X.K D) (cl : (PySem.W.clsIn X.K D).isSome = true) (hz : Zc (.ref D) d oe) (hf : ∃ vs, oe.data = .fields vs) (hk : PySem.W.kitOne X.K (.ref D) cv = some b)
    (hc : PE (X.suite a ((a, oe) :: pn)) ce (tC c)) (hcv : ∀ u, RelV c u → u = cv) (hm : X.mg "isinstance" = none) (hN : X.N[i]? = some n := by rfl) (hv : Vis X.env.scope n := by first | exact .inl rfl | exact .inr (.inl rfl) | exact .inr (.inr rfl)) (hg : Gl X "isinstance" := by rfl)
    (hst : starEach (.Name n q :: [ce]) X.env = (false, eval (.Name n q) X.env) :: starEach [ce] X.env := by rfl) (hst2 : starEach [ce] X.env = (false, eval ce X.env) :: starEach [] X.env := by rfl) (hpl : (backTo pos (starEach [ce] X.env)).any (·.1) = false := by rfl) (hd1 : (n == ("__debug__" : Str)) = false := by decide) (hd2 : (n == ("__classdict__" : Str)) = false := by decide) :
    PE (X.suite a ((a, oe) :: pn)) (.Call (.Name "isinstance" p) [.Name n q, ce] [] pos) (tIsX i a d b) := by
  refine pe_imp (pe_callB (call_isX C cl hz hf) hg hm (by decide +kernel) (pa_cons (pe_var hN hv hd1 hd2) (pa_cons hc pa_nil hst2) hst) (by decide) (by decide) hst hpl) fun σ H Q ⟨h1, h2, h3⟩ => ?_
  exact ⟨.ref a, h1, c, cv, b, rfl, hcv, hk, h2, h3⟩
/-! ### try -/
/-- how an exception stands: its dict -/
def ExAt (e : Exn) (d : Option Addr) (Hb H : Hp) : Prop := match e.fld with
  | none => d = none
  | some (f, dt) => ∃ dx v, d = some dx ∧ H dx = some (.xd [(f, v)]) ∧ DV Hb dt v
structure PXd (X : Cx) (E : XK) (i : Nat) (sts : List Stmt) (p : Exn → TSd) : Prop where
  ex : ∃ ts : Addr → Value → Option Addr → TS, (∀ (a : Addr) (oe : Obj) (cls : Value) (d : Option Addr) (pn : List (Addr × Obj)), L2N.Zn cls d oe → (∃ vs, oe.data = .fields vs) → PSs (X.suite a ((a, oe) :: pn)) sts (ts a cls d)) ∧
    ∀ (a : Addr) (e : Exn) (d : Option Addr) H0 B0 ρ σ Hb H (Z : EndsD) (Dn : Ends), Rep H0 B0 ρ σ Hb H → ρ[i]? = some (some (.ro (.adr a))) → p e Z ρ → ExAt e d Hb H → SatZ H0 B0 E Z Dn → ts a (.ref e.C) d Dn σ H
def canA (E : XK) (p : TAd) : TA := fun σ H Q => ∃ H0 B0 ρ Hb, ∃ (K : List D → Prop) (J : KX), Rep H0 B0 ρ σ Hb H ∧ p ρ K J ∧ (∀ ds vs Hb' H', K ds → Grow H Hb H' Hb' → DVs Hb' ds vs → Q vs H') ∧ ∀ x, J x → ExOk H0 B0 E x
theorem PAd.can {X : Cx} {E : XK} {es : List Expr} {p : TAd} (h : PAd X E es p) : PA X es (canA E p) := by
  obtain ⟨te, h1, k1⟩ := h.ex
  exact ⟨fun pos pins s σ H Q I ⟨H0, B0, ρ, Hb, K, J, R, q, kq, kx⟩ => h1.run pos pins s σ H Q I (k1 _ _ _ _ _ _ K J Q R q kq kx)⟩
/-- try: f(..), except x as n: a suite that returns -/
def pTry (S : SpecD) (pa : TAd) (K : PySem.W.Frag) (c : Value) (i : Nat) (p : Exn → TSd) : TSd := fun Z ρ => i < ρ.length ∧ pa ρ (fun ds => ∃ y : S.α, ds = S.args y ∧ S.pre y ∧ (∀ r, S.post y (.ok r) → Z.nx ρ) ∧
  ∀ e, S.post y (.error e) → PySem.W.exmOne K (.ref e.C) c = some true ∧ ∀ a : Addr, p e { nx := fun _ => False, rt := Z.rt, ex := fun _ => False } (ρ.set i (some (.ro (.adr a))))) (fun _ => False)
theorem ds_try {X : Cx} {E : XK} {S : SpecD} {k : Nat} {f x n : Str} {c : Value} {i : Nat} {b0 : Stmt} {suite : List Stmt} {e : Expr} {es : List Expr} {pa : TAd} {p : Exn → TSd} {q1 cp ep np pos pos' : Pos} (C : Cl X.prog X.w X.K X.mg X.base (L2N.CX X.prog X.w) k f S) (hr : Room k X.A)
    (hs : X.stack = X.env :: X.outer) (hf : X.env.frame = some X.env.locals) (hN : X.N.Nodup) (hln : X.env.kindOf n = some .local) (hc : Names X x c) (ha : ∀ pn xe, PAd (X.tr pn xe) E0 (e :: es) pa) (hsu : PXd X E i (b0 :: suite) p) (hi : X.N[i]? = some n := by rfl) (hg : Gl X f := by rfl) (hdb : (f == ("__debug__" : Str)) = false := by decide)
    (he : starEach (e :: es) X.env = (false, eval e X.env) :: starEach es X.env := by rfl) (hpl : (backTo cp (starEach es X.env)).any (·.1) = false := by rfl) (hsw : swapsWith (.Call (.Name f q1) (e :: es) [] cp) none ep.line X.env = pure false := by rfl) :
    PSd X E (.Try [.Expr (.Call (.Name f q1) (e :: es) [] cp) ep] [.ExceptHandler (some (.Name x np)) (some n) (b0 :: suite) pos'] [] [] pos) (pTry S pa X.K c i p) := by
  obtain ⟨fa, fd, ps, F, hm, hk, hb⟩ := C.ex
  obtain ⟨ts, h1, k1⟩ := hsu.ex
  refine ⟨_, L2N.ps_try_as (tb := fun W => tDrop (tCallS (spD S) (WE W) (canA E0 pa))) (Wout := fun _ _ _ _ => False) hs hf hN hi hln hc (fun u s' z => ?_) (fun W pn xe tk _ => pss_one (ps_expr (pe_callS (E := WE W) (X := X.tr pn xe) F hr hg hm hk hb (fun σ => L2N.passAt tk σ) (ha pn xe).can hdb he hpl) hsw)) h1, fun H0 B0 ρ σ Hb H Z Dn R ⟨hl, p⟩ z => ?_⟩
  · obtain ⟨_, _, _, _, _, _, _, _, _, _, _, _, _, _, _, _, w⟩ := z
    exact w.elim
  · refine ⟨H0, B0, ρ, Hb, _, _, R, p, fun ds vs Hb1 H1 kd g1 d1 => ?_, fun _ w => w.elim⟩
    obtain ⟨y, rfl, hp, hok, herr⟩ := kd
    refine ⟨y, Hb1, g1.sub, d1, hp, fun r hr => RetOk.data fun v Hb2 H2 g2 d2 => z.nx _ _ _ _ (hok r hr) ((R.more g1).more g2), fun ex hex => ?_⟩
    obtain ⟨em, hsuite⟩ := herr ex hex
    intro Hb2 H2 g2
    have R2 := (R.more g1).more g2
    have fin : ∀ d, ExAt ex d Hb2 H2 → wAs X.K c i ts (fun _ _ _ _ => False) Dn (.ref ex.C) d σ H2 := fun d hd => ⟨true, em, fun _ a na => by
      exact k1 a ex d H0 B0 (ρ.set i (some (.ro (.adr a)))) _ Hb2 H2 _ _ (R2.put DV.mk_adr) (List.getElem?_set_self hl) (hsuite a) hd ⟨fun _ _ _ _ w _ => w.elim, fun _ _ _ _ w _ => w.elim, fun _ _ _ _ w _ => w.elim, z.rt, fun _ w => w.elim⟩, fun w => Bool.noConfusion w⟩
    cases hfl : ex.fld with
    | none =>
      show WE _ σ (.ref ex.C) none H2
      exact fin none (by unfold ExAt; rw [hfl])
    | some fd' =>
      obtain ⟨f', dt⟩ := fd'
      intro dx v hx hv
      show WE _ σ (.ref ex.C) (some dx) H2
      exact fin (some dx) (by unfold ExAt; rw [hfl]; exact ⟨dx, v, rfl, hx, hv⟩)
/-! ### suites -/
theorem adr_at {H0 B0 Hb H : Hp} {ρ : Ro} {σ : L2.St} {i : Nat} {a : Addr} (R : Rep H0 B0 ρ σ Hb H) (h : ρ[i]? = some (some (.ro (.adr a)))) : σ[i]? = some (some (.ref a)) := by
  obtain ⟨v, h1, h2⟩ := R.slot i _ h
  have e : v = .ref a := DV.adr_ (H := Hb) h2
  rw [h1, e]
/-- return isinstance(e, B) and isinstance(e, ..) and not isinstance(e, ..) -/
theorem dx_ref {X : Cx} {E : XK} {i : Nat} {B : Addr} {ex : Expr} {pos : Pos} (h : ∀ (a : Addr) (oe : Obj) (d : Option Addr) (pn : List (Addr × Obj)), Zc (.ref B) d oe → (∃ vs, oe.data = .fields vs) → PE (X.suite a ((a, oe) :: pn)) ex (tAndV (tIsX i a d true) (tAndV (tIsX i a d true) (tNotV (tIsX i a d false))))) :
    PXd X E i [.Return (some ex) pos] (fun e Z _ => e.C = B ∧ e.fld = none ∧ Z.rt (.ro (.bl true))) := by
  refine ⟨fun a cls d D σ H => cls = .ref B ∧ tRet (tAndV (tIsX i a d true) (tAndV (tIsX i a d true) (tNotV (tIsX i a d false)))) D σ H, fun a oe cls d pn hz hf => pss_given fun e => ?_, fun a e d H0 B0 ρ σ Hb H Z Dn R ha p hx z => ?_⟩
  · subst e
    exact pss_one (ps_ret (h a oe d pn hz.zc hf))
  · obtain ⟨e1, e2, e3⟩ := p
    have hd : d = none := by unfold ExAt at hx; rw [e2] at hx; exact hx
    subst hd
    have hs := adr_at R ha
    have xn : XdAt none H := fun _ w => by cases w
    refine ⟨by rw [e1], hs, xn, true, rfl, ?_⟩
    rw [if_pos rfl]
    refine ⟨hs, xn, true, rfl, ?_⟩
    rw [if_pos rfl]
    exact ⟨hs, xn, false, rfl, z.rt _ e3 (.bl true) Hb H R.grow DV.mk_bl⟩
/-- good = isinstance(e, N) and not isinstance(e, ..); return good and f(e.fl, due) -/
theorem dx_clash {X : Cx} {E : XK} {S : SpecD} {i g j k : Nat} {N : Addr} {fl f n gn dn : Str} {ex : Expr} {p1 p2 p3 p4 p5 p6 p7 p8 p9 p10 : Pos} (C : ClH X.prog X.w X.K X.mg X.base k f S) (hr : L2H.RoomH k X.A) (T : XfC X.K N) (hno : PySem.W.findIn X.K (.ref N) fl = some none) (hN : X.N.Nodup) (hig : g ≠ i) (hjg : g ≠ j)
    (h : ∀ (a : Addr) (oe : Obj) (d : Option Addr) (pn : List (Addr × Obj)), Zc (.ref N) d oe → (∃ vs, oe.data = .fields vs) → PE (X.suite a ((a, oe) :: pn)) ex (tAndV (tIsX i a d true) (tNotV (tIsX i a d false))))
    (hi : X.N[i]? = some n := by rfl) (hg : X.N[g]? = some gn := by rfl) (hj : X.N[j]? = some dn := by rfl) (hf : Gl X f := by rfl) (vi : Vis X.env.scope n := by first | exact .inl rfl | exact .inr (.inl rfl) | exact .inr (.inr rfl)) (vg : X.env.scope.names.lookup gn = some .local := by rfl) (vj : Vis X.env.scope dn := by first | exact .inl rfl | exact .inr (.inl rfl) | exact .inr (.inr rfl))
    (q1 : (n == ("__debug__" : Str)) = false := by decide) (q2 : (n == ("__classdict__" : Str)) = false := by decide) (q3 : (gn == ("__debug__" : Str)) = false := by decide) (q4 : (gn == ("__classdict__" : Str)) = false := by decide) (q5 : (dn == ("__debug__" : Str)) = false := by decide) (q6 : (dn == ("__classdict__" : Str)) = false := by decide) (q7 : (f == ("__debug__" : Str)) = false := by decide)
    (hs1 : swapsWith ex (some (.Name gn p1)) p2.line X.env = pure false := by rfl) (hb : attributeBase (.Name n p5) fl X.env (eval (.Name n p5) X.env) = eval (.Name n p5) X.env := by rfl)
    (st1 : starEach (.Attribute (.Name n p5) fl p6 :: [.Name dn p7]) X.env = (false, eval (.Attribute (.Name n p5) fl p6) X.env) :: starEach [.Name dn p7] X.env := by rfl) (st2 : starEach [.Name dn p7] X.env = (false, eval (.Name dn p7) X.env) :: starEach [] X.env := by rfl) (hpl : (backTo p8 (starEach [.Name dn p7] X.env)).any (·.1) = false := by rfl) :
    PXd X E i [.Assign [.Name gn p1] ex p2, .Return (some (.BoolOp .And [.Name gn p3, .Call (.Name f p4) [.Attribute (.Name n p5) fl p6, .Name dn p7] [] p8] p9)) p10]
      (fun e Z ρ => e.C = N ∧ g < ρ.length ∧ (∃ dr d2, e.fld = some (fl, dr) ∧ ρ[j]? = some (some (.ro d2)) ∧ ∃ y : S.α, S.args y = [dr, d2] ∧ S.pre y ∧ ∀ r, S.post y r → r = .ok (.ro (.bl true))) ∧ Z.rt (.ro (.bl true))) := by
  refine ⟨fun a cls d D σ H => cls = .ref N ∧ tSeq (tAsg (tAndV (tIsX i a d true) (tNotV (tIsX i a d false))) (gName g)) (tRet (tAndV (tVar g) (tCallS (spD S) (fun _ _ _ _ => False) (tCons (tXf a (.ref N) d N fl (tVar i)) (tCons (tVar j) tNil))))) D σ H, fun a oe cls d pn hz hf' => pss_given fun e => ?_, fun a e d H0 B0 ρ σ Hb H Z Dn R ha p hx z => ?_⟩
  · subst e
    obtain ⟨fa, fd, ps, F, hm, hk, hbd⟩ := C.ex
    have hot : L2H.HotC (X.suite a ((a, oe) :: pn)) := ⟨(a, oe), ⟨rfl, by
      obtain ⟨vs, hv⟩ := hf'
      exact ⟨vs, hv, hz.2.2 vs hv⟩⟩, List.mem_cons_self⟩
    refine pss_cons (ps_set (X := X.suite a ((a, oe) :: pn)) (i := g) hN hg (.inl vg) (h a oe d pn hz.zc hf') hs1 (.inr vg)) (pss_one (ps_ret (pe_and (pe_var (X := X.suite a ((a, oe) :: pn)) hg (.inl vg) q3 q4) (pe_one ?_))))
    exact L2H.pe_callH (X := X.suite a ((a, oe) :: pn)) (E := fun _ _ _ _ => False) F ⟨hr.dp, hr.un⟩ hot hf hm hk hbd (fun _ _ _ _ _ _ _ w => w.elim) (pa_cons (pe_xf T hno hz.zc hf' (pe_var (X := X.suite a ((a, oe) :: pn)) hi vi q1 q2) hb) (pa_cons (pe_var (X := X.suite a ((a, oe) :: pn)) hj vj q5 q6) pa_nil st2) st1) q7 st1 hpl
  · obtain ⟨e1, hgl, ⟨dr, d2, e2, e3, y, hy, hp, hpost⟩, e4⟩ := p
    unfold ExAt at hx
    rw [e2] at hx
    obtain ⟨dx, v, rfl, hdx, hv⟩ := hx
    have hs := adr_at R ha
    have xn : XdAt (some dx) H := fun dd w => by cases w; exact ⟨_, hdx⟩
    obtain ⟨v2, hv2, dv2⟩ := R.slot j _ e3
    have hl : g < σ.length := by rw [R.len]; exact hgl
    refine ⟨by rw [e1], hs, xn, true, rfl, ?_⟩
    rw [if_pos rfl]
    refine ⟨hs, xn, false, rfl, ?_⟩
    refine ⟨.bl true, List.getElem?_set_self hl, true, rfl, ?_⟩
    rw [if_pos rfl]
    refine ⟨.ref a, by rw [List.getElem?_set_ne hig]; exact hs, rfl, rfl, dx, _, v, rfl, hdx, by rw [List.lookup_cons, beq_self_eq_true], v2, by rw [List.getElem?_set_ne hjg]; exact hv2, ?_⟩
    refine ⟨y, Hb, R.sub, by rw [hy]; exact .cons hv (.cons dv2 .nil), hp, fun r hr => ?_, fun e he => ?_⟩
    · have er := hpost _ hr
      cases er
      exact (z.rt _ e4).back R.grow
    · have er := hpost _ he
      cases er
end Pu
/-! D43y: the text's facts about its errors. -/
namespace Pu
open PySem PySem.Spec PyProof.Rows L2
abbrev Pw : Program := PySem.Challenge.pw_surelyseen_k43_whole_overspent
def d_NoHeights_init : He.DefD := ⟨("NoHeights", some "__init__"), "__init__", "NoHeights.__init__", defArgs (inCls (top 3) 0), defBody (inCls (top 3) 0), defScope (inCls (top 3) 0), [], []⟩
def exmB (K : PySem.W.Frag) (x y : Str) : Bool := decide (PySem.W.exmOne K (.ref (He.ga K x)) (.ref (He.ga K y)) = some true)
def ktB (K : PySem.W.Frag) (x : Str) (c : Value) (b : Bool) : Bool := decide (PySem.W.kitOne K (.ref (He.ga K x)) c = some b)
def exB (K : PySem.W.Frag) : Bool :=
  supB K (He.ga K "NoHeights") (He.fAd K d_NoHeights_init.at_) Pw.main.file && (isB K (He.ga K "NoHeights") && (isB K (He.ga K "BadMeter") && (He.eqO (PySem.W.findIn K (.ref (He.ga K "NoHeights")) "ring") (some none) &&
  (He.eqO (PySem.W.findIn K (.ref (He.ga K "NoHeights")) "__init__") (some (some (.ref (He.fAd K d_NoHeights_init.at_)))) && (decide (PySem.W.typeIn K (.ref (He.fAd K d_NoHeights_init.at_)) = some (.type "function")) &&
  (exmB K "NoHeights" "WatchError" && (exmB K "BadMeter" "WatchError" && (ktB K "NoHeights" (.ref (He.ga K "NoHeights")) true && (ktB K "NoHeights" (.ref (He.ga K "BadMeter")) false &&
  (ktB K "BadMeter" (.ref (He.ga K "BadMeter")) true && (ktB K "BadMeter" (.type "ValueError") true && ktB K "BadMeter" (.ref (He.ga K "NoHeights")) false)))))))))))
/-- all that is told of the text -/
structure Ty (K : PySem.W.Frag) (mg : Str → Option Value) : Prop where
  x : Tx K mg
  ex : exB K = true
  ini : fnI K d_NoHeights_init.at_ = valI d_NoHeights_init
structure TyE (K : PySem.W.Frag) (mg : Str → Option Value) : Prop where
  sup : supB K (He.ga K "NoHeights") (He.fAd K d_NoHeights_init.at_) Pw.main.file = true
  isN : isB K (He.ga K "NoHeights") = true
  isM : isB K (He.ga K "BadMeter") = true
  noring : PySem.W.findIn K (.ref (He.ga K "NoHeights")) "ring" = some none
  init : PySem.W.findIn K (.ref (He.ga K "NoHeights")) "__init__" = some (some (.ref (He.fAd K d_NoHeights_init.at_)))
  tyI : PySem.W.typeIn K (.ref (He.fAd K d_NoHeights_init.at_)) = some (.type "function")
  exN : PySem.W.exmOne K (.ref (He.ga K "NoHeights")) (.ref (He.ga K "WatchError")) = some true
  exM : PySem.W.exmOne K (.ref (He.ga K "BadMeter")) (.ref (He.ga K "WatchError")) = some true
  nn : PySem.W.kitOne K (.ref (He.ga K "NoHeights")) (.ref (He.ga K "NoHeights")) = some true
  nm : PySem.W.kitOne K (.ref (He.ga K "NoHeights")) (.ref (He.ga K "BadMeter")) = some false
  mm : PySem.W.kitOne K (.ref (He.ga K "BadMeter")) (.ref (He.ga K "BadMeter")) = some true
  mv : PySem.W.kitOne K (.ref (He.ga K "BadMeter")) (.type "ValueError") = some true
  mn : PySem.W.kitOne K (.ref (He.ga K "BadMeter")) (.ref (He.ga K "NoHeights")) = some false
theorem Ty.e {K : PySem.W.Frag} {mg : Str → Option Value} (T : Ty K mg) : TyE K mg := by
  have h := T.ex
  unfold exB at h
  obtain ⟨h0, h⟩ := and2 h
  obtain ⟨h1, h⟩ := and2 h
  obtain ⟨h2, h⟩ := and2 h
  obtain ⟨h3, h⟩ := and2 h
  obtain ⟨h4, h⟩ := and2 h
  obtain ⟨h5, h⟩ := and2 h
  obtain ⟨h6, h⟩ := and2 h
  obtain ⟨h7, h⟩ := and2 h
  obtain ⟨h8, h⟩ := and2 h
  obtain ⟨h9, h⟩ := and2 h
  obtain ⟨ha, h⟩ := and2 h
  obtain ⟨hb, hc⟩ := and2 h
  exact ⟨h0, h1, h2, He.eqO_ok h3, He.eqO_ok h4, of_decide_eq_true h5, of_decide_eq_true h6, of_decide_eq_true h7, of_decide_eq_true h8, of_decide_eq_true h9, of_decide_eq_true ha, of_decide_eq_true hb, of_decide_eq_true hc⟩
theorem ss_NoHeights : SupS (defScope (inCls (top 3) 0)) "ring" := ⟨rfl, rfl, rfl, by decide +kernel, rfl, rfl, rfl, rfl, by decide +kernel, by decide⟩
theorem rf_NoHeights {w : World} {K : PySem.W.Frag} {mg : Str → Option Value} {base : Heap} (T : Ty K mg) : RFb Pw w K mg base 1 (ads K).NoHeights "NoHeights" "ring" := by
  have E := T.e
  obtain ⟨fd, cda, cc, S⟩ := supB_ok (P := Pw) (d := d_NoHeights_init) E.sup T.ini
  obtain ⟨kV, doc, pm, an, ct, oc, od, osl, rfl, lk⟩ := S.fn
  refine ⟨_, _, ["self", "ring"], S.oex, E.init, E.tyI, supInit (P := Pw) (w := w) (mg := mg) (base := base) (C := He.ga K "NoHeights") (n1 := "ring") (scope := defScope (inCls (top 3) 0)) S ss_NoHeights rfl rfl E.noring (by decide +kernel) (fun _ => rfl) (fun _ => rfl) (fun A outer s H => ps_ost (pe_var (i := 0) rfl (.inl rfl)) (pe_var (i := 1) rfl (.inl rfl))), Binds.all fun us hl => ?_, T.x.glo 57 (x := "NoHeights") rfl⟩
  match us, hl with
  | [_, _], _ => exact rfl
end Pu
set_option maxHeartbeats 0
/-! H43y: the head run with the errors' facts; no list object of the module in K. -/
namespace Pu
open PySem PySem.Spec PyProof.Rows L2
def notList (o : Obj) : Bool := match o.cls with
  | .type c => !decide (c = "list")
  | _ => true
def frY (g : Addr → Option Obj) : PySem.W.Frag := (He.frG g (He.asD g 5 ++ [cStatics])).filter fun q => notList q.2
theorem frY_at {g : Addr → Option Obj} {a : Addr} {o : Obj} (h : (frY g).lookup a = some o) : g a = some o ∧ notList o = true := by
  obtain ⟨h1, h2⟩ := List.mem_filter.mp (He.lookup_mem h)
  exact ⟨He.frG_mem h1, h2⟩
theorem frY_in {h : Heap} : (frY h.get?).In h := fun _ _ e => (frY_at e).1
def NoL (K : PySem.W.Frag) : Prop := ∀ a o, K.lookup a = some o → o.cls ≠ .type "list"
theorem frY_noL {g : Addr → Option Obj} : NoL (frY g) := fun a o e he => by
  have h := (frY_at e).2
  unfold notList at h
  rw [he] at h
  cases h
abbrev AlY : Type := (He.AlD × FnI) × Bool
def obsY (K : PySem.W.Frag) : AlY := ((He.obsD fa fn K, fnI K d_NoHeights_init.at_), exB K)
def valY : AlY := ((He.valD fn, valI d_NoHeights_init), true)
structure SaysY (K : PySem.W.Frag) : Prop where
  says : He.SaysD fa fn K
  ini : fnI K d_NoHeights_init.at_ = valI d_NoHeights_init
  ex : exB K = true
  noL : NoL K
theorem saysY_of {g : Addr → Option Obj} (e : obsY (frY g) = valY) : SaysY (frY g) :=
  ⟨congrArg (fun z : AlY => z.1.1) e, congrArg (fun z : AlY => z.1.2) e, congrArg (fun z : AlY => z.2) e, frY_noL⟩
def hY : PySem.W.Hook where
  α := AlY
  obs := fun s => obsY (frY s.heap.get?)
  val := fun _ => valY
  says := fun _ h => ∃ K : PySem.W.Frag, K.In h ∧ SaysY K
  of := fun _ _ e => ⟨_, frY_in, saysY_of e⟩
  keeps := fun _ _ _ ⟨K, hK, c⟩ k => ⟨K, PySem.W.Frag.In.keeps hK k, c⟩
def obY (s : PySem.W.SharedT) : AlY := obsY (frY (HandSHeadRun.getT s))
theorem obY_eq (s : PySem.W.SharedT) : obY s = hY.obs s.abs := by
  have e : HandSHeadRun.getT s = s.abs.heap.get? := funext fun a => HandSHeadRun.getT_eq s a
  show obsY (frY (HandSHeadRun.getT s)) = obsY (frY s.abs.heap.get?)
  rw [e]
theorem runY (w : World) : HandSHeadRun.RunEq Rw (PySem.W.view Rw.prog [68]) hY obY 6000 loose w := by
  intro os
  kernel_rfl
end Pu
set_option maxHeartbeats 4000000
/-! Z43h: the head's end: what is left is the law's walk. -/
open PySem PySem.W PySem.Calls PyProof.Rows
theorem Pu.law_head (walk : WalkO (view (OpenLaw.row PySem.Challenge.rw_surelyseen_k43_whole_overspent).prog [68]) Pu.loose (XL (view (OpenLaw.row PySem.Challenge.rw_surelyseen_k43_whole_overspent).prog [68]) []) Pu.hY.says (OpenLaw.row PySem.Challenge.rw_surelyseen_k43_whole_overspent).toRowW (HandSHeadRun.topDef (OpenLaw.row PySem.Challenge.rw_surelyseen_k43_whole_overspent).prog 68) [] fun f vs => PySem.call f vs) : PySem.Challenge.rw_surelyseen_k43_whole_overspent.Holds := by
  w_on; o_law
  refine HandSHeadRun.head_any (r := OpenLaw.row PySem.Challenge.rw_surelyseen_k43_whole_overspent) (q := view (OpenLaw.row PySem.Challenge.rw_surelyseen_k43_whole_overspent).prog [68]) (H := Pu.hY) (ob := Pu.obY) (M := 6000) (loose := Pu.loose) (d := HandSHeadRun.topDef (OpenLaw.row PySem.Challenge.rw_surelyseen_k43_whole_overspent).prog 68) (kwd := []) Pu.obY_eq
    (by kernel_rfl) (fun s => by kernel_rfl) Pu.runY (by kernel_rfl) (by kernel_rfl) (by kernel_rfl) (by rfl) (by first | assumption | decide +kernel) (by decide +kernel) ⟨rfl, rfl, rfl, rfl, rfl, by decide +kernel⟩ ?hw ?hc
  case hw => w_witness2
  case hc => exact walk
set_option maxHeartbeats 200000
/-! M43: mathematics of facts about heights: steps, rounds, rings. No program in sight. -/
namespace Pu
/-- a fact about heights -/
structure Fact where
  a : Nat
  b : Nat
  lo : Option Int
  hi : Option Int
abbrev St0 := Nat × Bool
/-- a step with its parts -/
structure Stp where
  st : St0
  s : Nat
  e : Nat
  c : Int
def partsOf (f : Fact) (h : Bool) : Option (Nat × Nat × Int) := if h then f.hi.map (fun g => (f.a, f.b, g)) else f.lo.map (fun l => (f.b, f.a, -l))
/-- the steps of the fact f, number k -/
def stepsAt (k : Nat) (f : Fact) (h : Bool) : List Stp := match partsOf f h with
  | none => []
  | some (s, e, c) => [⟨(k, h), s, e, c⟩]
def stepsFrom : Nat → List Fact → List Stp
  | _, [] => []
  | k, f :: r => stepsAt k f true ++ stepsAt k f false ++ stepsFrom (k + 1) r
def allSteps (fs : List Fact) : List Stp := stepsFrom 0 fs
theorem stepsFrom_snoc (f : Fact) : ∀ (fs : List Fact) (k : Nat), stepsFrom k (fs ++ [f]) = stepsFrom k fs ++ (stepsAt (k + fs.length) f true ++ stepsAt (k + fs.length) f false)
  | [], k => by simp [stepsFrom]
  | g :: r, k => by
    rw [List.cons_append, stepsFrom, stepsFrom, stepsFrom_snoc f r (k + 1), List.length_cons]
    have : k + 1 + r.length = k + (r.length + 1) := by omega
    rw [this]
    simp only [List.append_assoc]
theorem allSteps_take {fs : List Fact} {n : Nat} {f : Fact} (h : fs[n]? = some f) : allSteps (fs.take (n + 1)) = allSteps (fs.take n) ++ (stepsAt n f true ++ stepsAt n f false) := by
  unfold allSteps
  have hn : n < fs.length := (List.getElem?_eq_some_iff.mp h).1
  rw [List.take_add_one, h]
  show stepsFrom 0 (fs.take n ++ [f]) = _
  rw [stepsFrom_snoc, List.length_take, Nat.min_eq_left (Nat.le_of_lt hn), Nat.zero_add]
theorem stepsAt_len (k : Nat) (f : Fact) (h : Bool) : (stepsAt k f h).length ≤ 1 := by
  unfold stepsAt
  split <;> simp
theorem stepsFrom_len : ∀ (fs : List Fact) (k : Nat), (stepsFrom k fs).length ≤ 2 * fs.length
  | [], k => by simp [stepsFrom]
  | f :: r, k => by
    have h1 := stepsAt_len k f true
    have h2 := stepsAt_len k f false
    have h3 := stepsFrom_len r (k + 1)
    simp only [stepsFrom, List.length_append, List.length_cons]
    omega
theorem mem_stepsFrom {t : Stp} : ∀ {fs : List Fact} {k : Nat}, t ∈ stepsFrom k fs ↔ ∃ n f, fs[n]? = some f ∧ t.st.1 = k + n ∧ partsOf f t.st.2 = some (t.s, t.e, t.c)
  | [], k => by simp [stepsFrom]
  | g :: r, k => by
    have at_ : ∀ h, t ∈ stepsAt k g h ↔ t.st = (k, h) ∧ partsOf g h = some (t.s, t.e, t.c) := fun h => by
      obtain ⟨⟨k', h'⟩, s, e, c⟩ := t
      unfold stepsAt
      cases q : partsOf g h with
      | none => simp
      | some p =>
        obtain ⟨s', e', c'⟩ := p
        simp [eq_comm]
    rw [stepsFrom, List.mem_append, List.mem_append, at_ true, at_ false, mem_stepsFrom (fs := r) (k := k + 1)]
    constructor
    · rintro ((⟨h1, h2⟩ | ⟨h1, h2⟩) | ⟨n, f, h1, h2, h3⟩)
      · exact ⟨0, g, rfl, by rw [h1]; rfl, by rw [h1]; exact h2⟩
      · exact ⟨0, g, rfl, by rw [h1]; rfl, by rw [h1]; exact h2⟩
      · exact ⟨n + 1, f, h1, by omega, h3⟩
    · rintro ⟨n, f, h1, h2, h3⟩
      cases n with
      | zero =>
        have e : g = f := Option.some.inj h1
        subst e
        obtain ⟨⟨k', h'⟩, s, e, c⟩ := t
        have ek : k' = k := h2
        subst ek
        cases h' with
        | true => exact .inl (.inl ⟨rfl, h3⟩)
        | false => exact .inl (.inr ⟨rfl, h3⟩)
      | succ n => exact .inr ⟨n, f, h1, by omega, h3⟩
theorem mem_allSteps {t : Stp} {fs : List Fact} : t ∈ allSteps fs ↔ ∃ f, fs[t.st.1]? = some f ∧ partsOf f t.st.2 = some (t.s, t.e, t.c) := by
  unfold allSteps
  rw [mem_stepsFrom]
  constructor
  · rintro ⟨n, f, h1, h2, h3⟩
    have e : t.st.1 = n := by omega
    rw [e]
    exact ⟨f, h1, h3⟩
  · rintro ⟨f, h1, h3⟩
    exact ⟨t.st.1, f, h1, by omega, h3⟩
/-- facts that name points below n, two different ones -/
def FactsOk (n : Nat) (fs : List Fact) : Prop := ∀ f ∈ fs, f.a < n ∧ f.b < n ∧ f.a ≠ f.b
theorem parts_cases {f : Fact} {h : Bool} {s e : Nat} {c : Int} (q : partsOf f h = some (s, e, c)) : (h = true ∧ s = f.a ∧ e = f.b ∧ f.hi = some c) ∨ (h = false ∧ s = f.b ∧ e = f.a ∧ f.lo = some (-c)) := by
  unfold partsOf at q
  cases h with
  | true =>
    rw [if_pos rfl] at q
    cases z : f.hi with
    | none => rw [z] at q; cases q
    | some g => rw [z] at q; cases q; exact .inl ⟨rfl, rfl, rfl, rfl⟩
  | false =>
    rw [if_neg Bool.false_ne_true] at q
    cases z : f.lo with
    | none => rw [z] at q; cases q
    | some g => rw [z] at q; cases q; exact .inr ⟨rfl, rfl, rfl, by rw [Int.neg_neg]⟩
theorem steps_ok {n : Nat} {fs : List Fact} (h : FactsOk n fs) {t : Stp} (ht : t ∈ allSteps fs) : t.s < n ∧ t.e < n ∧ t.s ≠ t.e := by
  obtain ⟨f, h1, h2⟩ := mem_allSteps.mp ht
  have hf := h f (List.mem_of_getElem? h1)
  rcases parts_cases h2 with ⟨_, e1, e2, _⟩ | ⟨_, e1, e2, _⟩
  · rw [e1, e2]; exact hf
  · rw [e1, e2]; exact ⟨hf.2.1, hf.1, Ne.symm hf.2.2⟩
/-- heights fit: h a function on points -/
def Fits (fs : List Fact) (h : Nat → Int) : Prop := ∀ f ∈ fs, (∀ l, f.lo = some l → l ≤ h f.b - h f.a) ∧ ∀ g, f.hi = some g → h f.b - h f.a ≤ g
theorem fits_steps {fs : List Fact} {h : Nat → Int} : Fits fs h ↔ ∀ t ∈ allSteps fs, h t.e - h t.s ≤ t.c := by
  constructor
  · intro H t ht
    obtain ⟨f, h1, h2⟩ := mem_allSteps.mp ht
    have hf := H f (List.mem_of_getElem? h1)
    rcases parts_cases h2 with ⟨_, e1, e2, e3⟩ | ⟨_, e1, e2, e3⟩
    · rw [e1, e2]; exact hf.2 _ e3
    · have := hf.1 _ e3; rw [e1, e2]; omega
  · intro H f hf
    obtain ⟨k, hk⟩ := List.getElem?_of_mem hf
    constructor
    · intro l el
      have := H ⟨(k, false), f.b, f.a, -l⟩ (mem_allSteps.mpr ⟨f, hk, by simp [partsOf, el]⟩)
      simp at this
      omega
    · intro g eg
      exact H ⟨(k, true), f.a, f.b, g⟩ (mem_allSteps.mpr ⟨f, hk, by simp [partsOf, eg]⟩)
/-! ### rounds -/
structure Rd where
  costs : List (Option Int)
  last : List (Option St0)
  ch : Bool
def lowTo (r : Rd) (t : Stp) (x : Int) : Rd := ⟨r.costs.set t.e (some (x + t.c)), r.last.set t.e (some t.st), true⟩
def lower1 (r : Rd) (t : Stp) : Rd := match r.costs.getD t.s none with
  | none => r
  | some x => (match r.costs.getD t.e none with
    | none => lowTo r t x
    | some y => if x + t.c < y then lowTo r t x else r)
def lowered (steps : List Stp) (costs : List (Option Int)) (last : List (Option St0)) : Rd := steps.foldl lower1 ⟨costs, last, false⟩
theorem lower1_len (r : Rd) (t : Stp) : (lower1 r t).costs.length = r.costs.length ∧ (lower1 r t).last.length = r.last.length := by
  unfold lower1 lowTo
  split
  · exact ⟨rfl, rfl⟩
  · split
    · exact ⟨List.length_set, List.length_set⟩
    · split
      · exact ⟨List.length_set, List.length_set⟩
      · exact ⟨rfl, rfl⟩
theorem foldl_len (steps : List Stp) : ∀ r : Rd, (steps.foldl lower1 r).costs.length = r.costs.length ∧ (steps.foldl lower1 r).last.length = r.last.length := by
  induction steps with
  | nil => intro r; exact ⟨rfl, rfl⟩
  | cons t ts ih =>
    intro r
    rw [List.foldl_cons]
    exact ⟨(ih _).1.trans (lower1_len r t).1, (ih _).2.trans (lower1_len r t).2⟩
end Pu
/-! M43b: rings of last steps, rounds. -/
namespace Pu
/-! ### a number below n, once each -/
theorem nodup_len : ∀ (n : Nat) (xs : List Nat), xs.Nodup → (∀ x ∈ xs, x < n) → xs.length ≤ n
  | 0, xs, _, h => by
    cases xs with
    | nil => exact Nat.le_refl 0
    | cons x r => exact absurd (h x List.mem_cons_self) (Nat.not_lt_zero _)
  | n + 1, xs, hd, h => by
    have h1 : (xs.erase n).Nodup := hd.erase n
    have h2 : ∀ x ∈ xs.erase n, x < n := fun x hx => by
      have h3 := h x (List.mem_of_mem_erase hx)
      have h4 : x ≠ n := fun e => by
        rw [e] at hx
        exact (List.Nodup.not_mem_erase hd) hx
      omega
    have ih := nodup_len n _ h1 h2
    by_cases hn : n ∈ xs
    · rw [List.length_erase_of_mem hn] at ih
      omega
    · rw [List.erase_of_not_mem hn] at ih
      omega
theorem nodup_at {xs : List Nat} : xs.Nodup ↔ ∀ i j : Nat, i < j → j < xs.length → xs[i]? ≠ xs[j]? := by
  show xs.Pairwise (· ≠ ·) ↔ _
  rw [List.pairwise_iff_getElem]
  constructor
  · intro H i j hij hj he
    rw [List.getElem?_eq_getElem (by omega), List.getElem?_eq_getElem hj] at he
    exact H i j (by omega) hj hij (Option.some.inj he)
  · intro H i j hi hj hij he
    refine H i j hij hj ?_
    rw [List.getElem?_eq_getElem hi, List.getElem?_eq_getElem hj, he]
/-! ### going up by last steps -/
inductive Up (R : Nat → Stp → Prop) : Nat → List Stp → Nat → Prop
  | nil (v : Nat) : Up R v [] v
  | cons {v w : Nat} {t : Stp} {ts : List Stp} : R v t → Up R t.s ts w → Up R v (t :: ts) w
section
variable {R : Nat → Stp → Prop}
theorem Up.append {v w u : Nat} {ts us : List Stp} (h : Up R v ts w) (k : Up R w us u) : Up R v (ts ++ us) u := by
  induction h with
  | nil => exact k
  | cons r _ ih => exact .cons r (ih k)
theorem Up.snoc {v w : Nat} {t : Stp} {ts : List Stp} (h : Up R v ts w) (r : R w t) : Up R v (ts ++ [t]) t.s := h.append (.cons r (.nil _))
/-- R tells one step at each point, whose end is that point -/
structure Fun1 (R : Nat → Stp → Prop) : Prop where
  one : ∀ v t u, R v t → R v u → t = u
  end_ : ∀ v t, R v t → t.e = v
theorem Up.det (F : Fun1 R) {v w u : Nat} {ts us : List Stp} (h : Up R v ts w) (k : Up R v us u) (hl : ts.length = us.length) : ts = us ∧ w = u := by
  induction h generalizing us with
  | nil =>
    cases k with
    | nil => exact ⟨rfl, rfl⟩
    | cons => cases hl
  | cons r _ ih =>
    cases k with
    | nil => cases hl
    | cons r' k' =>
      have e := F.one _ _ _ r r'
      subst e
      obtain ⟨e1, e2⟩ := ih k' (by simpa using hl)
      exact ⟨by rw [e1], e2⟩
/-- the first part of a way -/
theorem Up.take {v w : Nat} {ts : List Stp} (h : Up R v ts w) : ∀ k, k ≤ ts.length → ∃ u, Up R v (ts.take k) u ∧ Up R u (ts.drop k) w := by
  induction h with
  | nil v => intro k hk; exact ⟨v, by simpa using Up.nil v, by simpa using Up.nil v⟩
  | @cons v w t ts r h ih =>
    intro k hk
    cases k with
    | zero => exact ⟨v, .nil v, .cons r h⟩
    | succ k =>
      obtain ⟨u, h1, h2⟩ := ih k (by simpa using hk)
      exact ⟨u, .cons r h1, h2⟩
/-- points: v and what is come to -/
def pts (v : Nat) (ts : List Stp) : List Nat := v :: ts.map (·.s)
theorem Up.ends (F : Fun1 R) {v w : Nat} {ts : List Stp} (h : Up R v ts w) : pts v ts = ts.map (·.e) ++ [w] := by
  induction h with
  | nil v => rfl
  | @cons v w t ts r h ih =>
    show v :: (t.s :: ts.map (·.s)) = (t.e :: ts.map (·.e)) ++ [w]
    rw [F.end_ _ _ r]
    have : t.s :: ts.map (·.s) = ts.map (·.e) ++ [w] := ih
    rw [this]
    rfl
theorem Up.at {v w : Nat} {ts : List Stp} (h : Up R v ts w) : ∀ k x, (pts v ts)[k]? = some x → Up R v (ts.take k) x ∧ k ≤ ts.length := by
  induction h with
  | nil v =>
    intro k x hx
    cases k with
    | zero => cases hx; exact ⟨.nil v, Nat.le_refl _⟩
    | succ k => simp [pts] at hx
  | @cons v w t ts r h ih =>
    intro k x hx
    cases k with
    | zero => cases hx; exact ⟨.nil v, Nat.zero_le _⟩
    | succ k =>
      obtain ⟨h1, h2⟩ := ih k x (by simpa [pts] using hx)
      exact ⟨.cons r h1, by simpa using h2⟩
/-- a way that is as long as there are points passes one twice: there is a ring -/
theorem Up.ring (F : Fun1 R) {n v w : Nat} {ts : List Stp} (h : Up R v ts w) (hn : ∀ x ∈ pts v ts, x < n) (hl : n ≤ ts.length) : ∃ u us, us ≠ [] ∧ Up R u us u := by
  by_cases hd : (pts v ts).Nodup
  · have := nodup_len n _ hd hn
    unfold pts at this
    rw [List.length_cons, List.length_map] at this
    omega
  · rw [nodup_at] at hd
    have ⟨i, hd1⟩ := Classical.not_forall.mp hd
    have ⟨j, hd2⟩ := Classical.not_forall.mp hd1
    have ⟨hij, hd3⟩ := Classical.not_imp.mp hd2
    have ⟨hj, hd4⟩ := Classical.not_imp.mp hd3
    have he := Classical.not_not.mp hd4
    have hx : (pts v ts)[j]? = some (pts v ts)[j] := List.getElem?_eq_getElem hj
    rw [hx] at he
    obtain ⟨a1, a2⟩ := h.at i _ he
    obtain ⟨b1, b2⟩ := h.at j _ hx
    obtain ⟨u, c1, c2⟩ := b1.take i (by rw [List.length_take]; omega)
    rw [List.take_take, Nat.min_eq_left (Nat.le_of_lt hij)] at c1
    have e := (c1.det F a1 rfl).2
    subst e
    refine ⟨_, _, ?_, c2⟩
    intro z
    have := congrArg List.length z
    rw [List.length_drop, List.length_take] at this
    simp at this
    omega
/-- a shortest ring from u passes no point twice -/
theorem ring_min (F : Fun1 R) {u : Nat} {us : List Stp} (h : Up R u us u) (hne : us ≠ []) : ∃ ts, ts ≠ [] ∧ Up R u ts u ∧ (∀ k us', 0 < k → k < ts.length → Up R u us' u → us'.length ≠ k) := by
  have key : ∀ m, ∀ us, us.length = m → us ≠ [] → Up R u us u → ∃ ts, ts ≠ [] ∧ Up R u ts u ∧ (∀ k us', 0 < k → k < ts.length → Up R u us' u → us'.length ≠ k) := by
    intro m
    induction m using Nat.strongRecOn with
    | ind m ih =>
      intro us hm hne h
      by_cases hc : ∃ us', us' ≠ [] ∧ Up R u us' u ∧ us'.length < m
      · obtain ⟨us', h1, h2, h3⟩ := hc
        exact ih _ h3 us' rfl h1 h2
      · refine ⟨us, hne, h, fun k us' hk hk2 hu e => hc ⟨us', ?_, hu, by omega⟩⟩
        intro z
        rw [z] at e
        simp at e
        omega
  exact key _ us rfl hne h
theorem ring_nodup (F : Fun1 R) {u : Nat} {ts : List Stp} (h : Up R u ts u) (mn : ∀ k us', 0 < k → k < ts.length → Up R u us' u → us'.length ≠ k) : (ts.map (·.e)).Nodup := by
  rw [nodup_at]
  intro i j hij hj he
  rw [List.length_map] at hj
  have pe : ∀ k, k < ts.length → (pts u ts)[k]? = (ts.map (·.e))[k]? := fun k hk => by
    rw [h.ends F, List.getElem?_append_left (by rw [List.length_map]; exact hk)]
  obtain ⟨x, hx⟩ : ∃ x, (ts.map (·.e))[j]? = some x := ⟨_, List.getElem?_eq_getElem (by rw [List.length_map]; exact hj)⟩
  rw [hx] at he
  obtain ⟨a1, _⟩ := h.at i x (by rw [pe i (by omega)]; exact he)
  obtain ⟨b1, _⟩ := h.at j x (by rw [pe j hj]; exact hx)
  -- from x by the rest behind j to u: shorter than the ring
  obtain ⟨y, c1, c2⟩ := h.take j (Nat.le_of_lt hj)
  have ey := (c1.det F b1 rfl).2
  subst ey
  have d := a1.append c2
  refine mn (i + (ts.length - j)) _ (by omega) (by omega) d ?_
  rw [List.length_append, List.length_take, List.length_drop]
  omega
/-- a ring never ends -/
theorem ring_long {u : Nat} {us : List Stp} (h : Up R u us u) (hne : us ≠ []) : ∀ m : Nat, ∃ ts, Up R u ts u ∧ m ≤ ts.length
  | 0 => ⟨[], .nil u, Nat.le_refl _⟩
  | m + 1 => by
    obtain ⟨ts, h1, h2⟩ := ring_long h hne m
    refine ⟨us ++ ts, h.append h1, ?_⟩
    have : 0 < us.length := List.length_pos_iff.mpr hne
    rw [List.length_append]
    omega
/-- v leads to a point without a last step -/
def Gnd (R : Nat → Stp → Prop) (v : Nat) : Prop := ∃ w ts, Up R v ts w ∧ ∀ t, ¬ R w t
theorem no_ring_of_gnd (F : Fun1 R) {v : Nat} {us : List Stp} (g : Gnd R v) (h : Up R v us v) : us = [] := by
  cases us with
  | nil => rfl
  | cons x r =>
    obtain ⟨w, ts, h1, h2⟩ := g
    obtain ⟨zs, h3, h4⟩ := ring_long h (by simp) (ts.length + 1)
    obtain ⟨u, c1, c2⟩ := h3.take ts.length (by omega)
    have e := (c1.det F h1 (by rw [List.length_take]; omega)).2
    subst e
    cases hd : zs.drop ts.length with
    | nil =>
      have := congrArg List.length hd
      rw [List.length_drop] at this
      simp at this
      omega
    | cons y ys =>
      rw [hd] at c2
      cases c2 with
      | cons r _ => exact absurd r (h2 _)
end
/-! ### low rings -/
def Linked : List Stp → Prop
  | [] => True
  | [_] => True
  | t :: u :: r => t.e = u.s ∧ Linked (u :: r)
def csum (ts : List Stp) : Int := (ts.map (·.c)).sum
/-- a low ring of the facts -/
structure LowRing (fs : List Fact) (rs : List Stp) : Prop where
  ne : rs ≠ []
  mem : ∀ t ∈ rs, t ∈ allSteps fs
  link : Linked rs
  close : ∀ t u, rs.head? = some t → rs.getLast? = some u → u.e = t.s
  nodup : (rs.map (·.s)).Nodup
  low : csum rs < 0
theorem csum_append (a b : List Stp) : csum (a ++ b) = csum a + csum b := by unfold csum; rw [List.map_append, List.sum_append]
theorem linked_sum {fs : List Fact} {h : Nat → Int} (F : Fits fs h) : ∀ {rs : List Stp}, (∀ t ∈ rs, t ∈ allSteps fs) → Linked rs → ∀ t u, rs.head? = some t → rs.getLast? = some u → h u.e - h t.s ≤ csum rs
  | [], _, _, _, _, e, _ => by cases e
  | [x], m, _, t, u, e1, e2 => by
    cases e1
    cases e2
    have := fits_steps.mp F x (m x List.mem_cons_self)
    simpa [csum] using this
  | x :: y :: r, m, l, t, u, e1, e2 => by
    cases e1
    have h1 := fits_steps.mp F x (m x List.mem_cons_self)
    have h2 := linked_sum F (rs := y :: r) (fun t ht => m t (List.mem_cons_of_mem _ ht)) l.2 y u rfl (by rw [List.getLast?_cons_cons] at e2; exact e2)
    have h3 : x.e = y.s := l.1
    have h4 : csum (x :: y :: r) = x.c + csum (y :: r) := by simp [csum]
    rw [h4]
    rw [h3] at h1
    omega
/-- where a low ring is, no heights fit -/
theorem LowRing.not_fits {fs : List Fact} {rs : List Stp} (L : LowRing fs rs) (h : Nat → Int) : ¬ Fits fs h := fun F => by
  obtain ⟨t, r, e⟩ : ∃ t r, rs = t :: r := by
    cases rs with
    | nil => exact absurd rfl L.ne
    | cons t r => exact ⟨t, r, rfl⟩
  have h1 : rs.head? = some t := by rw [e]; rfl
  obtain ⟨u, h2⟩ : ∃ u, rs.getLast? = some u := ⟨rs.getLast L.ne, List.getLast?_eq_some_getLast L.ne⟩
  have h3 := linked_sum F L.mem L.link t u h1 h2
  rw [L.close t u h1 h2] at h3
  have := L.low
  omega
/-- going up, turned about, is linked -/
theorem Up.linked {R : Nat → Stp → Prop} (F : Fun1 R) {v w : Nat} {ts : List Stp} (h : Up R v ts w) : Linked ts.reverse ∧ (∀ t, ts.reverse.head? = some t → t.s = w) ∧ (∀ u, ts.reverse.getLast? = some u → u.e = v) := by
  induction h with
  | nil v => exact ⟨trivial, fun t e => by simp at e, fun t e => by simp at e⟩
  | @cons v w t ts r h ih =>
    obtain ⟨i1, i2, i3⟩ := ih
    have link_snoc : ∀ {xs : List Stp}, Linked xs → (∀ u, xs.getLast? = some u → u.e = t.s) → Linked (xs ++ [t]) := by
      intro xs
      induction xs with
      | nil => intro _ _; trivial
      | cons x r ihx =>
        intro hl hg
        cases r with
        | nil => exact ⟨hg x rfl, trivial⟩
        | cons y r =>
          refine ⟨hl.1, ihx hl.2 fun u hu => hg u ?_⟩
          rw [List.getLast?_cons_cons]
          exact hu
    rw [List.reverse_cons]
    refine ⟨link_snoc i1 i3, fun x e => ?_, fun x e => ?_⟩
    · cases hr : ts.reverse with
      | nil =>
        rw [hr] at e
        cases e
        have : ts = [] := by simpa using hr
        subst this
        cases h
        rfl
      | cons y ys =>
        rw [hr] at e
        cases e
        exact i2 x (by rw [hr]; rfl)
    · rw [List.getLast?_append] at e
      simp at e
      rw [← e]
      exact F.end_ _ _ r
end Pu
/-! M43c: what the rounds keep; rings are low; enough rounds settle. -/
namespace Pu
/-- the last step at v -/
def LastR (fs : List Fact) (last : List (Option St0)) (v : Nat) (t : Stp) : Prop := t ∈ allSteps fs ∧ last[v]? = some (some t.st) ∧ t.e = v
theorem stp_ext {t u : Stp} (h1 : t.st = u.st) (h2 : t.s = u.s) (h3 : t.e = u.e) (h4 : t.c = u.c) : t = u := by
  cases t; cases u; cases h1; cases h2; cases h3; cases h4; rfl
theorem step_one {fs : List Fact} {t u : Stp} (ht : t ∈ allSteps fs) (hu : u ∈ allSteps fs) (e : t.st = u.st) : t = u := by
  obtain ⟨f, h1, h2⟩ := mem_allSteps.mp ht
  obtain ⟨g, h3, h4⟩ := mem_allSteps.mp hu
  rw [e] at h1 h2
  rw [h1] at h3
  have eg : f = g := Option.some.inj h3
  subst eg
  rw [h2] at h4
  have e5 := Option.some.inj h4
  simp at e5
  exact stp_ext e e5.1 e5.2.1 e5.2.2
theorem lastR_fun (fs : List Fact) (last : List (Option St0)) : Fun1 (LastR fs last) where
  one := fun v t u h k => step_one h.1 k.1 (by
    have := h.2.1.symm.trans k.2.1
    exact Option.some.inj (Option.some.inj this))
  end_ := fun v t h => h.2.2
/-- a step does not lower -/
def okT (cs : List (Option Int)) (t : Stp) : Prop := ∀ x, cs[t.s]? = some (some x) → ∃ y, cs[t.e]? = some (some y) ∧ y ≤ x + t.c
structure BF (fs : List Fact) (n : Nat) (c0 : List (Option Int)) (r : Rd) (tm rd : Nat → Nat) (clk k : Nat) (done todo : List Stp) : Prop where
  lc : r.costs.length = n
  ll : r.last.length = n
  non : ∀ v : Nat, r.last[v]? = some none → r.costs[v]? = c0[v]? ∧ rd v = 0
  prd : ∀ (v : Nat) st, r.last[v]? = some (some st) → ∃ t, t ∈ allSteps fs ∧ t.st = st ∧ t.e = v ∧ (∃ x y, r.costs[t.s]? = some (some x) ∧ r.costs[v]? = some (some y) ∧ x + t.c ≤ y ∧ (tm v < tm t.s → x + t.c < y)) ∧ rd v ≤ rd t.s + 1 ∧ 0 < tm v ∧ 0 < rd v
  clk : ∀ v, tm v ≤ clk
  inj : ∀ u v, 0 < tm u → tm u = tm v → u = v
  rdk : ∀ v, rd v ≤ k
  dn : ∀ t ∈ done, okT r.costs t ∨ rd t.s = k
  td : ∀ t ∈ todo, okT r.costs t ∨ k ≤ rd t.s + 1
  cht : r.ch = true → ∃ v, v < n ∧ rd v = k
  chf : r.ch = false → ∀ v, v < n → rd v < k
section
variable {fs : List Fact} {n : Nat} {c0 : List (Option Int)} {r : Rd} {tm rd : Nat → Nat} {clk k : Nat} {done todo : List Stp}
theorem getD_lt {α : Type} {xs : List (Option α)} {i : Nat} (h : i < xs.length) : xs[i]? = some (xs.getD i none) := by
  rw [List.getD_eq_getElem?_getD, List.getElem?_eq_getElem h]; rfl
theorem BF.lowTo {t : Stp} {x : Int} (B : BF fs n c0 r tm rd clk k done (t :: todo)) (ok : FactsOk n fs) (ht : t ∈ allSteps fs) (hx : r.costs[t.s]? = some (some x)) (hlow : ∀ y, r.costs[t.e]? = some (some y) → x + t.c < y) (hk : 0 < k) :
    BF fs n c0 (Pu.lowTo r t x) (fun v => if v = t.e then clk + 1 else tm v) (fun v => if v = t.e then k else rd v) (clk + 1) k (done ++ [t]) todo := by
  obtain ⟨h1, h2, h3⟩ := steps_ok ok ht
  have ce : t.e < r.costs.length := by rw [B.lc]; exact h2
  have le : t.e < r.last.length := by rw [B.ll]; exact h2
  have nok : ¬ okT r.costs t := fun z => by
    obtain ⟨y, hy, hy2⟩ := z x hx
    have := hlow y hy
    omega
  have gc : ∀ v : Nat, v ≠ t.e → (Pu.lowTo r t x).costs[v]? = r.costs[v]? := fun v hv => List.getElem?_set_ne (Ne.symm hv)
  have gl : ∀ v : Nat, v ≠ t.e → (Pu.lowTo r t x).last[v]? = r.last[v]? := fun v hv => List.getElem?_set_ne (Ne.symm hv)
  have gce : (Pu.lowTo r t x).costs[t.e]? = some (some (x + t.c)) := List.getElem?_set_self ce
  have gle : (Pu.lowTo r t x).last[t.e]? = some (some t.st) := List.getElem?_set_self le
  have rs : k ≤ rd t.s + 1 := by
    rcases B.td t List.mem_cons_self with z | z
    · exact absurd z nok
    · exact z
  -- a step that did not lower does not lower now, or starts at t.e
  have keep : ∀ u : Stp, okT r.costs u → okT (Pu.lowTo r t x).costs u ∨ u.s = t.e := fun u hu => by
    by_cases hs : u.s = t.e
    · exact .inr hs
    · refine .inl fun z hz => ?_
      rw [gc _ hs] at hz
      obtain ⟨y, hy, hy2⟩ := hu z hz
      by_cases he : u.e = t.e
      · refine ⟨x + t.c, by rw [he]; exact gce, ?_⟩
        rw [he] at hy
        have := hlow y hy
        omega
      · exact ⟨y, by rw [gc _ he]; exact hy, hy2⟩
  have rdle : ∀ v, (if v = t.e then k else rd v) ≤ k := fun v => by
    split
    · exact Nat.le_refl _
    · exact B.rdk v
  refine { lc := ?_, ll := ?_, non := ?_, prd := ?_, clk := ?_, inj := ?_, rdk := rdle, dn := ?_, td := ?_, cht := ?_, chf := ?_ }
  · show (r.costs.set _ _).length = n
    rw [List.length_set]; exact B.lc
  · show (r.last.set _ _).length = n
    rw [List.length_set]; exact B.ll
  · intro v hv
    by_cases he : v = t.e
    · rw [he, gle] at hv; cases hv
    · rw [gl v he] at hv
      have := B.non v hv
      rw [gc v he, if_neg he]
      exact this
  · intro v st hv
    by_cases he : v = t.e
    · subst he
      rw [gle] at hv
      cases hv
      refine ⟨t, ht, rfl, rfl, ⟨x, x + t.c, by rw [gc _ h3]; exact hx, gce, Int.le_refl _, fun z => ?_⟩, ?_, ?_, ?_⟩
      · rw [if_pos rfl, if_neg h3] at z
        have := B.clk t.s
        omega
      · rw [if_pos rfl, if_neg h3]; exact rs
      · rw [if_pos rfl]; omega
      · rw [if_pos rfl]; exact hk
    · rw [gl v he] at hv
      obtain ⟨u, u1, u2, u3, ⟨a, b, ha, hb, hab, hst⟩, u5, u6, u7⟩ := B.prd v st hv
      refine ⟨u, u1, u2, u3, ?_, ?_, by rw [if_neg he]; exact u6, by rw [if_neg he]; exact u7⟩
      · by_cases hs : u.s = t.e
        · rw [hs] at ha
          have := hlow a ha
          exact ⟨x + t.c, b, by rw [hs]; exact gce, by rw [gc v he]; exact hb, by omega, fun _ => by omega⟩
        · refine ⟨a, b, by rw [gc _ hs]; exact ha, by rw [gc v he]; exact hb, hab, fun z => ?_⟩
          rw [if_neg he, if_neg hs] at z
          exact hst z
      · rw [if_neg he]
        split
        · have := B.rdk v
          omega
        · exact u5
  · intro v
    split
    · exact Nat.le_refl _
    · exact Nat.le_succ_of_le (B.clk v)
  · intro u v hu huv
    by_cases e1 : u = t.e <;> by_cases e2 : v = t.e
    · rw [e1, e2]
    · rw [if_pos e1, if_neg e2] at huv
      have := B.clk v
      omega
    · rw [if_neg e1, if_pos e2] at huv
      have := B.clk u
      omega
    · rw [if_neg e1, if_neg e2] at huv
      rw [if_neg e1] at hu
      exact B.inj u v hu huv
  · intro u hu
    rcases List.mem_append.mp hu with hu | hu
    · rcases B.dn u hu with z | z
      · rcases keep u z with z | z
        · exact .inl z
        · rw [if_pos z]; exact .inr rfl
      · split
        · exact .inr rfl
        · exact .inr z
    · have e : u = t := by simpa using hu
      subst e
      refine .inl fun z hz => ?_
      rw [gc _ h3, hx] at hz
      cases hz
      exact ⟨_, gce, Int.le_refl _⟩
  · intro u hu
    rcases B.td u (List.mem_cons_of_mem _ hu) with z | z
    · rcases keep u z with z | z
      · exact .inl z
      · rw [if_pos z]; exact .inr (Nat.le_succ k)
    · split
      · exact .inr (Nat.le_succ k)
      · exact .inr z
  · intro _
    exact ⟨t.e, h2, if_pos rfl⟩
  · intro z
    cases z
theorem BF.skip {t : Stp} (B : BF fs n c0 r tm rd clk k done (t :: todo)) (h : okT r.costs t) : BF fs n c0 r tm rd clk k (done ++ [t]) todo :=
  { lc := B.lc, ll := B.ll, non := B.non, prd := B.prd, clk := B.clk, inj := B.inj, rdk := B.rdk, cht := B.cht, chf := B.chf
    dn := fun u hu => by
      rcases List.mem_append.mp hu with hu | hu
      · exact B.dn u hu
      · have e : u = t := by simpa using hu
        subst e
        exact .inl h
    td := fun u hu => B.td u (List.mem_cons_of_mem _ hu) }
theorem BF.turn {t : Stp} (B : BF fs n c0 r tm rd clk k done (t :: todo)) (ok : FactsOk n fs) (ht : t ∈ allSteps fs) (hk : 0 < k) : ∃ tm' rd' clk', BF fs n c0 (lower1 r t) tm' rd' clk' k (done ++ [t]) todo := by
  obtain ⟨h1, h2, h3⟩ := steps_ok ok ht
  have gs := getD_lt (xs := r.costs) (i := t.s) (by rw [B.lc]; exact h1)
  have ge := getD_lt (xs := r.costs) (i := t.e) (by rw [B.lc]; exact h2)
  unfold lower1
  cases es : r.costs.getD t.s none with
  | none =>
    rw [es] at gs
    exact ⟨tm, rd, clk, B.skip fun x hx => by rw [gs] at hx; cases hx⟩
  | some x =>
    rw [es] at gs
    cases ee : r.costs.getD t.e none with
    | none =>
      rw [ee] at ge
      exact ⟨_, _, _, B.lowTo ok ht gs (fun y hy => by rw [ge] at hy; cases hy) hk⟩
    | some y =>
      rw [ee] at ge
      show ∃ tm' rd' clk', BF fs n c0 (if x + t.c < y then Pu.lowTo r t x else r) tm' rd' clk' k (done ++ [t]) todo
      by_cases hc : x + t.c < y
      · rw [if_pos hc]
        exact ⟨_, _, _, B.lowTo ok ht gs (fun z hz => by rw [ge] at hz; cases hz; exact hc) hk⟩
      · rw [if_neg hc]
        refine ⟨tm, rd, clk, B.skip fun z hz => ?_⟩
        rw [gs] at hz
        cases hz
        exact ⟨y, ge, by omega⟩
theorem BF.turns (ok : FactsOk n fs) (hk : 0 < k) : ∀ (todo : List Stp) {r : Rd} {tm rd : Nat → Nat} {clk : Nat} {done : List Stp}, (∀ t ∈ todo, t ∈ allSteps fs) → BF fs n c0 r tm rd clk k done todo → ∃ tm' rd' clk', BF fs n c0 (todo.foldl lower1 r) tm' rd' clk' k (done ++ todo) []
  | [], r, tm, rd, clk, done, _, B => ⟨tm, rd, clk, by simpa using B⟩
  | t :: todo, r, tm, rd, clk, done, m, B => by
    obtain ⟨tm', rd', clk', B'⟩ := B.turn ok (m t List.mem_cons_self) hk
    obtain ⟨a, b, c, B2⟩ := BF.turns ok hk todo (fun u hu => m u (List.mem_cons_of_mem _ hu)) B'
    exact ⟨a, b, c, by rw [List.append_assoc] at B2; exact B2⟩
/-- a state between two rounds: k rounds are done -/
def BFk (fs : List Fact) (n : Nat) (c0 : List (Option Int)) (costs : List (Option Int)) (last : List (Option St0)) (k : Nat) (ch : Bool) : Prop := ∃ tm rd clk, BF fs n c0 ⟨costs, last, ch⟩ tm rd clk k (allSteps fs) []
theorem BFk.zero (hl : c0.length = n) (hn : 0 < n) : BFk fs n c0 c0 (List.replicate n none) 0 true := by
  refine ⟨fun _ => 0, fun _ => 0, 0, ?_⟩
  have no : ∀ (v : Nat) st, (List.replicate n (none : Option St0))[v]? ≠ some (some st) := fun v st hv => by
    rw [List.getElem?_replicate] at hv
    split at hv <;> cases hv
  exact { lc := hl, ll := List.length_replicate, non := fun v hv => ⟨rfl, rfl⟩, prd := fun v st hv => absurd hv (no v st), clk := fun _ => Nat.le_refl _, inj := fun u v h => absurd h (Nat.lt_irrefl _), rdk := fun _ => Nat.le_refl _, dn := fun t _ => .inr rfl, td := (fun t ht => absurd ht (List.not_mem_nil)), cht := fun _ => ⟨0, hn, rfl⟩, chf := (fun z => absurd z Bool.noConfusion) }
theorem BFk.step {costs : List (Option Int)} {last : List (Option St0)} {ch : Bool} (ok : FactsOk n fs) (B : BFk fs n c0 costs last k ch) : BFk fs n c0 (lowered (allSteps fs) costs last).costs (lowered (allSteps fs) costs last).last (k + 1) (lowered (allSteps fs) costs last).ch := by
  obtain ⟨tm, rd, clk, B⟩ := B
  have B0 : BF fs n c0 ⟨costs, last, false⟩ tm rd clk (k + 1) [] (allSteps fs) := {
    lc := B.lc, ll := B.ll, non := B.non, prd := B.prd, clk := B.clk, inj := B.inj, rdk := fun v => Nat.le_succ_of_le (B.rdk v)
    dn := fun t ht => absurd ht (List.not_mem_nil)
    td := fun t ht => by
      rcases B.dn t ht with z | z
      · exact .inl z
      · exact .inr (by omega)
    cht := fun z => absurd z Bool.noConfusion
    chf := fun _ v _ => Nat.lt_succ_of_le (B.rdk v) }
  obtain ⟨a, b, c, B1⟩ := BF.turns ok (Nat.succ_pos k) (allSteps fs) (fun _ h => h) B0
  exact ⟨a, b, c, B1⟩
theorem BFk.settled {costs : List (Option Int)} {last : List (Option St0)} (ok : FactsOk n fs) (B : BFk fs n c0 costs last k false) : ∀ t ∈ allSteps fs, okT costs t := by
  obtain ⟨tm, rd, clk, B⟩ := B
  intro t ht
  rcases B.dn t ht with z | z
  · exact z
  · have := B.chf rfl t.s (steps_ok ok ht).1
    omega
theorem BFk.some_ {costs : List (Option Int)} {last : List (Option St0)} {ch : Bool} (B : BFk fs n c0 costs last k ch) {v : Nat} {x : Int} (hv : v < n) (h : c0[v]? = some (some x)) : ∃ y, costs[v]? = some (some y) := by
  obtain ⟨tm, rd, clk, B⟩ := B
  have hl : v < last.length := by
    have := B.ll
    exact Nat.lt_of_lt_of_eq hv this.symm
  cases e : last.getD v none with
  | none =>
    have := getD_lt hl
    rw [e] at this
    exact ⟨x, by rw [(B.non v this).1]; exact h⟩
  | some st =>
    have := getD_lt hl
    rw [e] at this
    obtain ⟨t, _, _, _, ⟨x, y, _, hy, _⟩, _⟩ := B.prd v st this
    exact ⟨y, hy⟩
theorem BF.up (ok : FactsOk n fs) {costs : List (Option Int)} {last : List (Option St0)} {ch : Bool} (B : BF fs n c0 ⟨costs, last, ch⟩ tm rd clk k done todo) {v w : Nat} {ts : List Stp} (h : Up (LastR fs last) v ts w) (hne : ts ≠ []) :
    ∃ x y, costs[w]? = some (some x) ∧ costs[v]? = some (some y) ∧ (csum ts + x < y ∨ (csum ts + x ≤ y ∧ tm w < tm v)) := by
  induction h with
  | nil => exact absurd rfl hne
  | @cons v w t ts r h ih =>
    obtain ⟨t', t1, t2, t3, ⟨x, y, hx, hy, hxy, hst⟩, _, t6, _⟩ := B.prd v _ r.2.1
    have et : t' = t := step_one t1 r.1 t2
    subst et
    have hx : costs[t'.s]? = some (some x) := hx
    have hy : costs[v]? = some (some y) := hy
    have hcs : csum (t' :: ts) = t'.c + csum ts := by simp [csum]
    have hlt : tm v < tm t'.s ∨ tm t'.s < tm v := by
      rcases Nat.lt_trichotomy (tm v) (tm t'.s) with z | z | z
      · exact .inl z
      · have := B.inj v t'.s t6 z
        have h3 := (steps_ok ok r.1).2.2
        rw [t3] at h3
        exact absurd this.symm h3
      · exact .inr z
    cases ts with
    | nil =>
      cases h
      refine ⟨x, y, hx, hy, ?_⟩
      rw [hcs]
      have : csum ([] : List Stp) = 0 := rfl
      rcases hlt with z | z
      · have := hst z
        exact .inl (by omega)
      · exact .inr ⟨by omega, z⟩
    | cons u us =>
      obtain ⟨a, b, ha, hb, hab⟩ := ih (by simp)
      rw [hx] at hb
      cases hb
      refine ⟨a, y, ha, hy, ?_⟩
      rw [hcs]
      rcases hab with z | ⟨z, z2⟩
      · exact .inl (by omega)
      · rcases hlt with q | q
        · have := hst q
          exact .inl (by omega)
        · exact .inr ⟨by omega, by omega⟩
theorem up_mem {last : List (Option St0)} {v w : Nat} {ts : List Stp} (h : Up (LastR fs last) v ts w) : ∀ t ∈ ts, t ∈ allSteps fs := by
  induction h with
  | nil => intro t ht; cases ht
  | cons r _ ih =>
    intro t ht
    rcases List.mem_cons.mp ht with e | e
    · rw [e]; exact r.1
    · exact ih t e
theorem BFk.ring_low {costs : List (Option Int)} {last : List (Option St0)} {ch : Bool} (ok : FactsOk n fs) (B : BFk fs n c0 costs last k ch) {u : Nat} {ts : List Stp} (h : Up (LastR fs last) u ts u) (hne : ts ≠ []) : csum ts < 0 := by
  obtain ⟨tm, rd, clk, B⟩ := B
  obtain ⟨x, y, hx, hy, hxy⟩ := B.up ok h hne
  rw [hx] at hy
  cases hy
  rcases hxy with z | ⟨_, z⟩
  · omega
  · exact absurd z (Nat.lt_irrefl _)
/-- a ring of last steps, each point once, is a low ring of the facts -/
theorem BFk.lowRing {costs : List (Option Int)} {last : List (Option St0)} {ch : Bool} (ok : FactsOk n fs) (B : BFk fs n c0 costs last k ch) {u : Nat} {ts : List Stp} (h : Up (LastR fs last) u ts u) (hne : ts ≠ []) (nd : (ts.map (·.e)).Nodup) : LowRing fs ts.reverse := by
  have F := lastR_fun fs last
  obtain ⟨l1, l2, l3⟩ := h.linked F
  refine ⟨by simpa using hne, fun t ht => ?_, l1, fun t w h1 h2 => ?_, ?_, ?_⟩
  · exact up_mem h t (by simpa using ht)
  · rw [l3 w h2, l2 t h1]
  · have e := h.ends F
    cases ts with
    | nil => exact absurd rfl hne
    | cons t r =>
      have e2 : (t :: r).map (·.s) = r.map (·.e) ++ [u] := by
        have : u :: (t :: r).map (·.s) = t.e :: (r.map (·.e) ++ [u]) := e
        exact (List.cons.inj this).2
      have e3 : t.e = u := by
        cases h with
        | cons r _ => exact r.2.2
      rw [List.map_reverse]
      refine (List.reverse_perm _).nodup_iff.mpr ?_
      rw [e2]
      rw [List.map_cons, e3] at nd
      have nd' : ([u] ++ r.map (·.e)).Nodup := nd
      exact (List.perm_append_comm (l₁ := [u]) (l₂ := r.map (·.e))).nodup_iff.mp nd'
  · have : csum ts.reverse = csum ts := by
      unfold csum
      rw [List.map_reverse, List.sum_reverse]
    rw [this]
    exact B.ring_low ok h hne
/-- what is lowered in the round k has k last steps behind it -/
theorem BF.long (ok : FactsOk n fs) {costs : List (Option Int)} {last : List (Option St0)} {ch : Bool} (B : BF fs n c0 ⟨costs, last, ch⟩ tm rd clk k done todo) : ∀ (j v : Nat), v < n → j ≤ rd v → ∃ ts w, Up (LastR fs last) v ts w ∧ ts.length = j ∧ ∀ x ∈ pts v ts, x < n
  | 0, v, hv, _ => ⟨[], v, .nil v, rfl, fun x hx => by
      have : x = v := by simpa [pts] using hx
      rw [this]; exact hv⟩
  | j + 1, v, hv, hj => by
    have hl : v < last.length := Nat.lt_of_lt_of_eq hv (B.ll).symm
    cases e : last.getD v none with
    | none =>
      have z := getD_lt hl
      rw [e] at z
      have := (B.non v z).2
      omega
    | some st =>
      have z := getD_lt hl
      rw [e] at z
      obtain ⟨t, t1, t2, t3, _, t5, _⟩ := B.prd v st z
      have hs := (steps_ok ok t1).1
      obtain ⟨ts, w, h1, h2, h3⟩ := BF.long ok B j t.s hs (by omega)
      refine ⟨t :: ts, w, .cons ⟨t1, by rw [t2]; exact z, t3⟩ h1, by rw [List.length_cons, h2], fun x hx => ?_⟩
      rcases List.mem_cons.mp hx with e | e
      · rw [e]; exact hv
      · exact h3 x e
theorem BFk.ring_of {costs : List (Option Int)} {last : List (Option St0)} (ok : FactsOk n fs) (B : BFk fs n c0 costs last k true) (hk : n ≤ k) : ∃ u us, us ≠ [] ∧ Up (LastR fs last) u us u := by
  obtain ⟨tm, rd, clk, B⟩ := B
  obtain ⟨v, hv, e⟩ := B.cht rfl
  obtain ⟨ts, w, h1, h2, h3⟩ := B.long ok k v hv (by omega)
  exact h1.ring (lastR_fun fs last) h3 (by omega)
end
end Pu
/-! M43d: meters, budgets, what is asked of them: plain definitions. -/
namespace Pu
open PySem
abbrev Str0 := Str
/-- a fact of a meter -/
inductive MF where
  | rd (b : Nat) (v : Int)
  | gr (a b : Nat) (lo hi : Int)
def MF.fact : MF → Fact
  | .rd b v => ⟨0, b, some v, some v⟩
  | .gr a b lo hi => ⟨a, b, some lo, some hi⟩
def MF.ok (n : Nat) : MF → Prop
  | .rd b _ => 1 ≤ b ∧ b ≤ n
  | .gr a b _ _ => a < b ∧ b ≤ n
def tickFs (n : Nat) (lo hi : Int) : List Fact := (List.range n).map fun t => ⟨t, t + 1, some lo, some hi⟩
def rules (T : Nat) (lo hi : Int) (fs : List MF) : List Fact := tickFs T lo hi ++ fs.map MF.fact
structure Mtr where
  T : Nat
  lo : Int
  hi : Int
  fs : List MF
def Mtr.facts (m : Mtr) : List Fact := rules m.T m.lo m.hi m.fs
structure Mtr.Ok (m : Mtr) : Prop where
  t1 : 1 ≤ m.T
  t24 : m.T ≤ 24
  lo0 : 0 ≤ m.lo
  le : m.lo ≤ m.hi
  hi6 : m.hi ≤ 1000000
  fok : ∀ f ∈ m.fs, f.ok m.T
  len : m.fs.length ≤ 100
/-- a budget is overspent nowhere, in a copy raised by sh -/
def limitFs (sh T w : Nat) (most : Int) : List Fact := (List.range (T + 1 - w)).map fun k => ⟨sh + k, sh + k + w, none, some most⟩
def hD (hs : List Int) : Nat → Int := fun i => hs.getD i 0
/-- overspent somewhere -/
def OverP (T w : Nat) (most : Int) (h : Nat → Int) : Prop := ∃ k, k + w ≤ T ∧ most < h (k + w) - h k
open Classical in
noncomputable def stW (fs : List Fact) (most : Int) (a b : Nat) : Str0 := if ∀ h, Fits fs h → most < h b - h a then "yes" else if ∀ h, Fits fs h → h b - h a ≤ most then "no" else "open"
noncomputable def statesW (fs : List Fact) (T w : Nat) (most : Int) : List Str0 := (List.range (T + 1 - w)).map fun k => stW fs most k (k + w)
open Classical in
noncomputable def wordW (fs : List Fact) (T w : Nat) (most : Int) : Str0 := if ∀ h, Fits fs h → OverP T w most h then "yes" else if ∀ h, Fits fs h → ¬ OverP T w most h then "no" else "open"
/-- a way from a to b: steps that are linked, no point twice -/
structure Way (fs : List Fact) (a b : Nat) (rs : List Stp) : Prop where
  ne : rs ≠ []
  mem : ∀ t ∈ rs, t ∈ allSteps fs
  link : Linked rs
  head : ∀ t, rs.head? = some t → t.s = a
  last : ∀ t, rs.getLast? = some t → t.e = b
  nodup : (rs.map (·.s)).Nodup
  noend : b ∉ rs.map (·.s)
/-- a table of the least costs: each is the greatest difference, which some heights have -/
structure Tight (n : Nat) (fs : List Fact) (D : List (List Int)) : Prop where
  len : D.length = n
  row : ∀ r ∈ D, r.length = n
  ub : ∀ i j, i < n → j < n → ∀ h, Fits fs h → h j - h i ≤ (D.getD i []).getD j 0
  at_ : ∀ i j, i < n → j < n → ∃ h, Fits fs h ∧ h j - h i = (D.getD i []).getD j 0
/-- neighbours are joined both ways -/
def Joined (n : Nat) (fs : List Fact) : Prop := ∀ t, t + 1 < n → ∃ f ∈ fs, f.a = t ∧ f.b = t + 1 ∧ f.lo.isSome = true ∧ f.hi.isSome = true
/-- what overspent tells -/
inductive Told where
  | yes (rs : List Stp)
  | no (ws : List (List Stp))
  | opn (h1 h2 : List Int)
def Told.word : Told → Str0
  | .yes _ => "yes"
  | .no _ => "no"
  | .opn _ _ => "open"
/-- readings that fit, as a list -/
structure Run (fs : List Fact) (T : Nat) (hs : List Int) : Prop where
  len : hs.length = T + 1
  zero : hD hs 0 = 0
  fit : Fits fs (hD hs)
def Told.Ok (fs : List Fact) (T w : Nat) (most : Int) : Told → Prop
  | .yes rs => LowRing (fs ++ limitFs 0 T w most) rs
  | .no ws => ws.length = T + 1 - w ∧ ∀ k r, ws[k]? = some r → Way fs k (k + w) r ∧ csum r ≤ most
  | .opn h1 h2 => Run fs T h1 ∧ Run fs T h2 ∧ OverP T w most (hD h1) ∧ ¬ OverP T w most (hD h2)

theorem tickFs_len (n : Nat) (lo hi : Int) : (tickFs n lo hi).length = n := by unfold tickFs; rw [List.length_map, List.length_range]
theorem rules_len (T : Nat) (lo hi : Int) (fs : List MF) : (rules T lo hi fs).length = T + fs.length := by unfold rules; rw [List.length_append, List.length_map, tickFs_len]
theorem limitFs_len (sh T w : Nat) (m : Int) : (limitFs sh T w m).length = T + 1 - w := by unfold limitFs; rw [List.length_map, List.length_range]
theorem tick_mem {n : Nat} {lo hi : Int} {f : Fact} : f ∈ tickFs n lo hi ↔ ∃ t, t < n ∧ f = ⟨t, t + 1, some lo, some hi⟩ := by
  unfold tickFs
  simp [eq_comm]
theorem limit_mem {sh T w : Nat} {m : Int} {f : Fact} : f ∈ limitFs sh T w m ↔ ∃ k, k < T + 1 - w ∧ f = ⟨sh + k, sh + k + w, none, some m⟩ := by
  unfold limitFs
  simp [eq_comm]
theorem rules_ok {T : Nat} {lo hi : Int} {fs : List MF} (h : ∀ f ∈ fs, f.ok T) : FactsOk (T + 1) (rules T lo hi fs) := by
  intro f hf
  rcases List.mem_append.mp hf with hf | hf
  · obtain ⟨t, ht, rfl⟩ := tick_mem.mp hf
    exact ⟨by show t < T + 1; omega, by show t + 1 < T + 1; omega, by show t ≠ t + 1; omega⟩
  · obtain ⟨g, hg, rfl⟩ := List.mem_map.mp hf
    have := h g hg
    cases g with
    | rd b v => exact ⟨by show 0 < T + 1; omega, by show b < T + 1; exact Nat.lt_succ_of_le this.2, by show 0 ≠ b; have := this.1; omega⟩
    | gr a b l g =>
      have t1 : a < b := this.1
      have t2 : b ≤ T := this.2
      exact ⟨by show a < T + 1; omega, by show b < T + 1; omega, by show a ≠ b; omega⟩
theorem limit_ok {T w : Nat} {m : Int} (hw : 1 ≤ w) : FactsOk (T + 1) (limitFs 0 T w m) := by
  intro f hf
  obtain ⟨k, hk, rfl⟩ := limit_mem.mp hf
  exact ⟨by show 0 + k < T + 1; omega, by show 0 + k + w < T + 1; omega, by show 0 + k ≠ 0 + k + w; omega⟩
theorem factsOk_append {n : Nat} {fs gs : List Fact} (h : FactsOk n fs) (k : FactsOk n gs) : FactsOk n (fs ++ gs) := fun f hf => (List.mem_append.mp hf).elim (h f) (k f)
theorem rules_joined (T : Nat) (lo hi : Int) (fs : List MF) : Joined (T + 1) (rules T lo hi fs) := fun t ht => ⟨⟨t, t + 1, some lo, some hi⟩, List.mem_append_left _ (tick_mem.mpr ⟨t, by omega, rfl⟩), rfl, rfl, rfl, rfl⟩
theorem fits_append {fs gs : List Fact} {h : Nat → Int} : Fits (fs ++ gs) h ↔ Fits fs h ∧ Fits gs h := by
  unfold Fits
  constructor
  · intro H
    exact ⟨fun f hf => H f (List.mem_append_left _ hf), fun f hf => H f (List.mem_append_right _ hf)⟩
  · rintro ⟨H, K⟩ f hf
    exact (List.mem_append.mp hf).elim (H f) (K f)
theorem fits_limit {T w : Nat} {m : Int} (h : Nat → Int) (hw : w ≤ T) : Fits (limitFs 0 T w m) h ↔ ¬ OverP T w m h := by
  constructor
  · rintro F ⟨k, hk, ho⟩
    have := (F ⟨0 + k, 0 + k + w, none, some m⟩ (limit_mem.mpr ⟨k, by omega, rfl⟩)).2 m rfl
    have e : (0 + k + w) = k + w := by omega
    have e2 : 0 + k = k := by omega
    have t2 : h (0 + k + w) - h (0 + k) ≤ m := this
    rw [e, e2] at t2
    omega
  · intro H f hf
    obtain ⟨k, hk, rfl⟩ := limit_mem.mp hf
    refine ⟨fun l hl => (by cases hl), fun g hg => ?_⟩
    cases hg
    have : ¬ (m < h (k + w) - h k) := fun z => H ⟨k, by omega, z⟩
    show h (0 + k + w) - h (0 + k) ≤ m
    have e : (0 + k + w) = k + w := by omega
    have e2 : 0 + k = k := by omega
    rw [e, e2]
    omega
theorem fits_shift {fs : List Fact} {h : Nat → Int} (F : Fits fs h) (c : Int) : Fits fs fun i => h i - c := fun f hf => by
  have := F f hf
  refine ⟨fun l hl => ?_, fun g hg => ?_⟩
  · have := this.1 l hl
    show l ≤ h f.b - c - (h f.a - c)
    omega
  · have := this.2 g hg
    show h f.b - c - (h f.a - c) ≤ g
    omega
end Pu
/-! S43: data of k43, mirrors, promises. -/
namespace Pu
open PySem PySem.Spec PyProof.Rows L2

def oD : Option Int → D
  | none => .non
  | some i => .int i
def Fact.d (f : Fact) : D := .tup [.int f.a, .int f.b, oD f.lo, oD f.hi]
def sid (h : Bool) : Str := if h then "high" else "low"
def stD (s : St0) : D := .tup [.int s.1, .str (sid s.2)]
def Stp.d (t : Stp) : D := .tup [stD t.st, .int t.s, .int t.e, .int t.c]
def Stp.d3 (t : Stp) : D := .tup [.int t.s, .int t.e, .int t.c]
def Stp.ds (t : Stp) : D := stD t.st
def prD : Option (Nat × Nat × Int) → D
  | none => .non
  | some (s, e, c) => .tup [.int s, .int e, .int c]
def factsD (fs : List Fact) : D := .lst (fs.map Fact.d)
def intsD (ns : List Int) : D := .lst (ns.map D.int)
def strsD (ns : List Str) : D := .lst (ns.map D.str)
def ringD (rs : List Stp) : D := .lst (rs.map Stp.ds)
def MF.d : MF → D
  | .rd b v => .tup [.str "read", .int b, .int v]
  | .gr a b lo hi => .tup [.str "grew", .int a, .int b, .int lo, .int hi]
def Mtr.d (A : Ads) (m : Mtr) : D := .ins A.Meter ["ticks", "low", "high", "facts"] [.int m.T, .int m.lo, .int m.hi, .tup (m.fs.map MF.d)]
def Told.d : Told → D
  | .yes rs => .tup [.str "yes", ringD rs]
  | .no ws => .tup [.str "no", .lst (ws.map ringD)]
  | .opn a b => .tup [.str "open", intsD a, intsD b]
def okR (d : D) : Except Exn RV := .ok (.ro d)
def okO (ds : List D) : Except Exn RV := .ok (.own ds)

def S_step_parts (A : Ads) : SpecD where
  α := List Fact × St0
  args := fun x => [.lst (x.1.map Fact.d), stD x.2]
  pre := fun x => x.2.1 < x.1.length
  post := fun x r => ∃ f, x.1[x.2.1]? = some f ∧ r = .ok (.ro (prD (partsOf f x.2.2)))
def S_all_steps (A : Ads) : SpecD where
  α := List Fact
  args := fun x => [.lst (x.map Fact.d)]
  pre := fun x => x.length ≤ 1000
  post := fun x r => r = .ok (.own ((allSteps x).map Stp.d))
def lsD : Option St0 → D
  | none => .non
  | some s => stD s
def Rd.d (r : Rd) : D := .tup [.lst (r.costs.map oD), .lst (r.last.map lsD), .bl r.ch]
def S_lowered (A : Ads) : SpecD where
  α := List Stp × List (Option Int) × List (Option St0)
  args := fun x => [.lst (x.1.map Stp.d), .lst (x.2.1.map oD), .lst (x.2.2.map lsD)]
  pre := fun x => x.2.1.length = x.2.2.length ∧ ∀ t ∈ x.1, t.s < x.2.1.length ∧ t.e < x.2.1.length
  post := fun x r => r = .ok (.ro (lowered x.1 x.2.1 x.2.2).d)
def S_check_points (A : Ads) : SpecD where
  α := Nat × List Fact × List Nat
  args := fun x => [.int x.1, factsD x.2.1, .lst (x.2.2.map fun n : Nat => D.int n)]
  pre := fun x => FactsOk x.1 x.2.1 ∧ ∀ p ∈ x.2.2, p < x.1
  post := fun _ r => r = okR .non
structure LastOk (fs : List Fact) (n : Nat) (last : List (Option St0)) : Prop where
  len : last.length = n
  ok : ∀ (v : Nat) st, last[v]? = some (some st) → ∃ t, t ∈ allSteps fs ∧ t.st = st ∧ t.e = v
def NoRing (fs : List Fact) (last : List (Option St0)) : Prop := ∀ u us, Up (LastR fs last) u us u → us = []
def S_ring_through (A : Ads) : SpecD where
  α := Nat × List Fact × List (Option St0) × Nat
  args := fun x => [factsD x.2.1, .lst (x.2.2.1.map lsD), .int x.2.2.2]
  pre := fun x => FactsOk x.1 x.2.1 ∧ LastOk x.2.1 x.1 x.2.2.1 ∧ x.1 ≤ 1000 ∧ ∃ us, us ≠ [] ∧ Up (LastR x.2.1 x.2.2.1) x.2.2.2 us x.2.2.2
  post := fun x r => ∃ ts, ts ≠ [] ∧ Up (LastR x.2.1 x.2.2.1) x.2.2.2 ts x.2.2.2 ∧ (ts.map (·.e)).Nodup ∧ r = okO (ts.reverse.map Stp.ds)
def S_ring_among (A : Ads) : SpecD where
  α := Nat × List Fact × List (Option St0)
  args := fun x => [factsD x.2.1, .lst (x.2.2.map lsD)]
  pre := fun x => FactsOk x.1 x.2.1 ∧ LastOk x.2.1 x.1 x.2.2 ∧ x.1 ≤ 1000
  post := fun x r => (NoRing x.2.1 x.2.2 ∧ r = okR .non) ∨ ∃ u ts, ts ≠ [] ∧ Up (LastR x.2.1 x.2.2) u ts u ∧ (ts.map (·.e)).Nodup ∧ r = okO (ts.reverse.map Stp.ds)
structure NetOk (n : Nat) (fs : List Fact) : Prop where
  ok : FactsOk n fs
  pos : 0 < n
  small : n ≤ 100
  len : fs.length ≤ 1000
def S_heights_or_ring (A : Ads) : SpecD where
  α := Nat × List Fact
  args := fun x => [.int x.1, factsD x.2]
  pre := fun x => NetOk x.1 x.2
  post := fun x r => (∃ hs, hs.length = x.1 ∧ hD hs 0 = 0 ∧ Fits x.2 (hD hs) ∧ r = okR (.tup [.str "heights", intsD hs])) ∨ ∃ rs, LowRing x.2 rs ∧ r = okR (.tup [.str "ring", ringD rs])
def c0At (n a : Nat) : List (Option Int) := (List.replicate n none).set a (some 0)
def S_ways_from (A : Ads) : SpecD where
  α := Nat × List Fact × Nat
  args := fun x => [.int x.1, factsD x.2.1, .int x.2.2]
  pre := fun x => NetOk x.1 x.2.1 ∧ x.2.2 < x.1 ∧ ∃ h, Fits x.2.1 h
  post := fun x r => ∃ cs ls k, BFk x.2.1 x.1 (c0At x.1 x.2.2) cs ls k false ∧ r = okR (.tup [.lst (cs.map oD), .lst (ls.map lsD)])
def S_check_heights (A : Ads) : SpecD where
  α := Nat × List Fact × List Nat
  args := fun x => [.int x.1, factsD x.2.1, .lst (x.2.2.map fun n : Nat => D.int n)]
  pre := fun x => NetOk x.1 x.2.1 ∧ (∀ p ∈ x.2.2, p < x.1) ∧ ∃ h, Fits x.2.1 h
  post := fun _ r => r = okR .non
def S_cheapest_way (A : Ads) : SpecD where
  α := Nat × List Fact × Nat × Nat
  args := fun x => [.int x.1, factsD x.2.1, .int x.2.2.1, .int x.2.2.2]
  pre := fun x => NetOk x.1 x.2.1 ∧ Joined x.1 x.2.1 ∧ x.2.2.1 < x.1 ∧ x.2.2.2 < x.1 ∧ x.2.2.1 ≠ x.2.2.2 ∧ ∃ h, Fits x.2.1 h
  post := fun x r => ∃ rs h, Way x.2.1 x.2.2.1 x.2.2.2 rs ∧ Fits x.2.1 h ∧ csum rs ≤ h x.2.2.2 - h x.2.2.1 ∧ r = okO (rs.map Stp.ds)
def S_check_fact (A : Ads) : SpecD where
  α := Nat × MF
  args := fun x => [.int x.1, x.2.d]
  pre := fun x => x.2.ok x.1
  post := fun _ r => r = okR .non
def S_meter_facts (A : Ads) : SpecD where
  α := Mtr
  args := fun m => [m.d A]
  pre := fun m => m.Ok
  post := fun m r => r = okO (m.facts.map Fact.d)
def S_check_width (A : Ads) : SpecD where
  α := Mtr × Int
  args := fun x => [x.1.d A, .int x.2]
  pre := fun x => x.1.Ok
  post := fun x r => ((1 ≤ x.2 ∧ x.2 ≤ x.1.T) ∧ r = okR .non) ∨ (¬ (1 ≤ x.2 ∧ x.2 ≤ x.1.T) ∧ r = .error ⟨A.BadMeter, none⟩)
def S_limit_facts (A : Ads) : SpecD where
  α := Nat × Nat × Int × Nat
  args := fun x => [.int x.1, .int x.2.1, .int x.2.2.1, .int x.2.2.2]
  pre := fun x => x.1 ≤ 1000 ∧ x.2.1 ≤ x.1
  post := fun x r => r = okO ((limitFs x.2.2.2 x.1 x.2.1 x.2.2.1).map Fact.d)
def tabD (D0 : List (List Int)) : D := .lst (D0.map intsD)
def S_least_costs (A : Ads) : SpecD where
  α := Nat × List Fact
  args := fun x => [.int x.1, factsD x.2]
  pre := fun x => NetOk x.1 x.2 ∧ Joined x.1 x.2
  post := fun x r => (∃ D0, Tight x.1 x.2 D0 ∧ r = okR (tabD D0)) ∨ ∃ rs, LowRing x.2 rs ∧ r = .error ⟨A.NoHeights, some ("ring", ringD rs)⟩
def WidthOk (m : Mtr) (w : Int) : Prop := 1 ≤ w ∧ w ≤ m.T
def S_budget_states (A : Ads) : SpecD where
  α := Mtr × Int × Int
  args := fun x => [x.1.d A, .int x.2.1, .int x.2.2]
  pre := fun x => x.1.Ok
  post := fun x r => (¬ WidthOk x.1 x.2.1 ∧ r = .error ⟨A.BadMeter, none⟩) ∨ (WidthOk x.1 x.2.1 ∧ ∃ rs, LowRing x.1.facts rs ∧ r = .error ⟨A.NoHeights, some ("ring", ringD rs)⟩) ∨
    (WidthOk x.1 x.2.1 ∧ (∃ h, Fits x.1.facts h) ∧ r = okO ((statesW x.1.facts x.1.T x.2.1.toNat x.2.2).map D.str))
def S_overspent (A : Ads) : SpecD where
  α := Mtr × Int × Int
  args := fun x => [x.1.d A, .int x.2.1, .int x.2.2]
  pre := fun x => x.1.Ok
  post := fun x r => (¬ WidthOk x.1 x.2.1 ∧ r = .error ⟨A.BadMeter, none⟩) ∨ (WidthOk x.1 x.2.1 ∧ ∃ rs, LowRing x.1.facts rs ∧ r = .error ⟨A.NoHeights, some ("ring", ringD rs)⟩) ∨
    (WidthOk x.1 x.2.1 ∧ (∃ h, Fits x.1.facts h) ∧ ∃ t : Told, t.Ok x.1.facts x.1.T x.2.1.toNat x.2.2 ∧ t.word = wordW x.1.facts x.1.T x.2.1.toNat x.2.2 ∧ r = okR t.d)

/-! ### the law's own defs -/
structure CellOk (ns : List Int) (at_ : Int) : Prop where
  lo : 0 ≤ at_
  hi : at_ ≤ 1000
  len : ns.length ≤ 1000
def S__law_cell (A : Ads) : SpecD where
  α := List Int × Int
  args := fun x => [.scr x.1, .int x.2]
  pre := fun x => CellOk x.1 x.2
  post := fun _ r => ∃ v : Int, r = okR (.int v)
structure DrawIn where
  ns : List Int
  at_ : Int
  k : Int
  size : Int
def S__law_draw (A : Ads) : SpecD where
  α := DrawIn
  args := fun x => [.scr x.ns, .int x.at_, .int x.k, .int x.size]
  pre := fun x => CellOk x.ns x.at_ ∧ (0 ≤ x.k ∧ x.k ≤ 1000) ∧ 0 < x.size
  post := fun x r => ∃ v : Int, 0 ≤ v ∧ v < x.size ∧ r = okR (.int v)
def S__law_is_number (A : Ads) : SpecD where
  α := Int
  args := fun x => [.int x]
  pre := fun _ => True
  post := fun _ r => r = okR (.bl true)
def S__law_bounds (A : Ads) : SpecD where
  α := List Int × Int × Bool
  args := fun x => [.scr x.1, .int x.2.1, .bl x.2.2]
  pre := fun x => CellOk x.1 x.2.1
  post := fun x r => ∃ lo hi : Int, 0 ≤ lo ∧ lo ≤ hi ∧ hi ≤ 1000000 ∧ (x.2.2 = false → hi ≤ lo + 2) ∧ r = okR (.tup [.int lo, .int hi])
/-- drawn readings -/
structure TruthOk (T : Nat) (lo hi : Int) (hs : List Int) : Prop where
  len : hs.length = T + 1
  zero : hD hs 0 = 0
structure TruthIn where
  ns : List Int
  at_ : Int
  T : Nat
  lo : Int
  hi : Int
def S__law_truth (A : Ads) : SpecD where
  α := TruthIn
  args := fun x => [.scr x.ns, .int x.at_, .int x.T, .tup [.int x.lo, .int x.hi]]
  pre := fun x => CellOk x.ns x.at_ ∧ x.T ≤ 24 ∧ x.lo ≤ x.hi
  post := fun x r => ∃ hs, TruthOk x.T x.lo x.hi hs ∧ r = okO (hs.map D.int)
structure FactIn where
  ns : List Int
  at_ : Int
  k : Int
  hs : List Int
def S__law_fact (A : Ads) : SpecD where
  α := FactIn
  args := fun x => [.scr x.ns, .int x.at_, .int x.k, intsD x.hs]
  pre := fun x => CellOk x.ns x.at_ ∧ (0 ≤ x.k ∧ x.k ≤ 900) ∧ 2 ≤ x.hs.length
  post := fun x r => ∃ f : MF, f.ok (x.hs.length - 1) ∧ r = okR f.d
def S__law_wrong_fact (A : Ads) : SpecD where
  α := List Int × Int × List Int
  args := fun x => [.scr x.1, .int x.2.1, intsD x.2.2]
  pre := fun x => CellOk x.1 x.2.1 ∧ 2 ≤ x.2.2.length
  post := fun x r => ∃ f : MF, f.ok (x.2.2.length - 1) ∧ r = okR f.d
structure FactsIn where
  ns : List Int
  at_ : Int
  count : Nat
  wrong : Int
  hs : List Int
def S__law_facts (A : Ads) : SpecD where
  α := FactsIn
  args := fun x => [.scr x.ns, .int x.at_, .int x.count, .int x.wrong, intsD x.hs]
  pre := fun x => CellOk x.ns x.at_ ∧ x.at_ ≤ 900 ∧ x.count ≤ 99 ∧ 2 ≤ x.hs.length
  post := fun x r => ∃ fs : List MF, fs.length = x.count ∧ (∀ f ∈ fs, f.ok (x.hs.length - 1)) ∧ r = okO (fs.map MF.d)
structure RulesIn where
  T : Nat
  lo : Int
  hi : Int
  fs : List MF
def S__law_rules (A : Ads) : SpecD where
  α := RulesIn
  args := fun x => [.int x.T, .tup [.int x.lo, .int x.hi], .lst (x.fs.map MF.d)]
  pre := fun x => x.T ≤ 24 ∧ x.fs.length ≤ 100
  post := fun x r => r = okO ((rules x.T x.lo x.hi x.fs).map Fact.d)
/-- all readings that fit, listed -/
structure Rows (fs : List Fact) (T : Nat) (rows : List (List Int)) : Prop where
  sound : ∀ r ∈ rows, Run fs T r
  all : ∀ h, Fits fs h → h 0 = 0 → (List.range (T + 1)).map h ∈ rows
  len : rows.length ≤ 243
def rowsD (rows : List (List Int)) : List D := rows.map intsD
def S__law_readings (A : Ads) : SpecD where
  α := RulesIn
  args := fun x => [.int x.T, .tup [.int x.lo, .int x.hi], factsD (rules x.T x.lo x.hi x.fs)]
  pre := fun x => (1 ≤ x.T ∧ x.T ≤ 5) ∧ x.fs.length ≤ 100 ∧ x.lo ≤ x.hi ∧ x.hi ≤ x.lo + 2 ∧ (0 ≤ x.lo ∧ x.hi ≤ 1000000) ∧ ∀ f ∈ x.fs, f.ok x.T
  post := fun x r => ∃ rows, Rows (rules x.T x.lo x.hi x.fs) x.T rows ∧ r = okO (rowsD rows)
def S__law_relaxed (A : Ads) : SpecD where
  α := Nat × List Fact
  args := fun x => [.lst (List.replicate x.1 (.int 0)), factsD x.2]
  pre := fun x => NetOk x.1 x.2
  post := fun x r => ((∀ h, ¬ Fits x.2 h) ∧ r = okR .non) ∨ ((∃ h, Fits x.2 h) ∧ ∃ ds, r = okO ds)
structure StepsOk (fs : List Fact) (rs : List Stp) : Prop where
  mem : ∀ t ∈ rs, t ∈ allSteps fs
  link : Linked rs
  nodup : (rs.map (·.s)).Nodup
  len : rs.length ≤ 1000
def S__law_steps (A : Ads) : SpecD where
  α := List Fact × List Stp
  args := fun x => [ringD x.2, factsD x.1]
  pre := fun x => StepsOk x.1 x.2
  post := fun x r => r = okO (x.2.map Stp.d3)
def S__law_is_low_ring (A : Ads) : SpecD where
  α := List Fact × List Stp
  args := fun x => [ringD x.2, factsD x.1]
  pre := fun x => LowRing x.1 x.2 ∧ x.2.length ≤ 1000
  post := fun _ r => r = okR (.bl true)
structure WayIn where
  fs : List Fact
  rs : List Stp
  a : Nat
  b : Nat
  most : Int
def S__law_is_way (A : Ads) : SpecD where
  α := WayIn
  args := fun x => [ringD x.rs, factsD x.fs, .int x.a, .int x.b, .int x.most]
  pre := fun x => Way x.fs x.a x.b x.rs ∧ csum x.rs ≤ x.most ∧ x.rs.length ≤ 1000
  post := fun _ r => r = okR (.bl true)
structure BudIn where
  ns : List Int
  at_ : Int
  hs : List Int
  lo : Int
  hi : Int
def S__law_budget (A : Ads) : SpecD where
  α := BudIn
  args := fun x => [.scr x.ns, .int x.at_, intsD x.hs, .tup [.int x.lo, .int x.hi]]
  pre := fun x => CellOk x.ns x.at_ ∧ 2 ≤ x.hs.length ∧ x.hs.length ≤ 25 ∧ (0 ≤ x.lo ∧ x.lo ≤ 1000000) ∧ 0 ≤ x.hi ∧ x.hi ≤ 1000000
  post := fun x r => ∃ (w : Nat) (m : Int), 1 ≤ w ∧ w ≤ x.hs.length - 1 ∧ r = okR (.tup [.int w, .int m])
def S__law_tied_budget (A : Ads) : SpecD where
  α := List Int × Int × List Int
  args := fun x => [.scr x.1, .int x.2.1, intsD x.2.2]
  pre := fun x => CellOk x.1 x.2.1 ∧ 2 ≤ x.2.2.length ∧ x.2.2.length ≤ 25
  post := fun x r => ∃ (w : Nat) (m : Int), 1 ≤ w ∧ w ≤ x.2.2.length - 1 ∧ r = okR (.tup [.int w, .int m])
open Classical in
def S__law_over (A : Ads) : SpecD where
  α := Nat × Nat × Int × List Int
  args := fun x => [intsD x.2.2.2, .int x.2.1, .int x.2.2.1]
  pre := fun x => x.2.2.2.length = x.1 + 1 ∧ 1 ≤ x.2.1 ∧ x.2.1 ≤ x.1 ∧ x.1 ≤ 1000
  post := fun x r => r = okR (.bl (decide (OverP x.1 x.2.1 x.2.2.1 (hD x.2.2.2))))
def S__law_limits (A : Ads) : SpecD where
  α := Nat × Nat × Nat × Int
  args := fun x => [.int x.1, .int x.2.1, .int x.2.2.1, .int x.2.2.2]
  pre := fun x => x.2.1 ≤ 1000 ∧ x.2.2.1 ≤ x.2.1
  post := fun x r => r = okO ((limitFs x.1 x.2.1 x.2.2.1 x.2.2.2).map Fact.d)
/-- facts with both bounds -/
def Full (fs : List Fact) : Prop := ∀ f ∈ fs, f.lo.isSome = true ∧ f.hi.isSome = true
def S__law_is_run (A : Ads) : SpecD where
  α := List Fact × Nat × List Int
  args := fun x => [intsD x.2.2, factsD x.1, .int x.2.1]
  pre := fun x => Run x.1 x.2.1 x.2.2 ∧ FactsOk (x.2.1 + 1) x.1 ∧ Full x.1 ∧ x.2.1 ≤ 1000
  post := fun _ r => r = okR (.bl true)
def S__law_word (A : Ads) : SpecD where
  α := Nat × Nat
  args := fun x => [.int x.1, .int x.2]
  pre := fun _ => True
  post := fun x r => r = okR (.str (if x.1 = x.2 then "yes" else if x.1 = 0 then "no" else "open"))
structure ListedIn where
  fs : List Fact
  T : Nat
  rows : List (List Int)
  w : Nat
  most : Int
noncomputable def ansD (fs : List Fact) (T w : Nat) (most : Int) : D := .tup [strsD (statesW fs T w most), .str (wordW fs T w most)]
noncomputable def S__law_listed (A : Ads) : SpecD where
  α := ListedIn
  args := fun x => [.lst (rowsD x.rows), .int x.w, .int x.most]
  pre := fun x => Rows x.fs x.T x.rows ∧ x.rows ≠ [] ∧ 1 ≤ x.w ∧ x.w ≤ x.T ∧ x.T ≤ 1000
  post := fun x r => r = okR (ansD x.fs x.T x.w x.most)
def S__law_table (A : Ads) : SpecD where
  α := RulesIn
  args := fun x => [.int x.T, factsD (rules x.T x.lo x.hi x.fs)]
  pre := fun x => (1 ≤ x.T ∧ x.T ≤ 24) ∧ x.fs.length ≤ 100 ∧ (0 ≤ x.lo ∧ x.lo ≤ x.hi ∧ x.hi ≤ 1000000) ∧ (∀ f ∈ x.fs, f.ok x.T) ∧ ∃ h, Fits (rules x.T x.lo x.hi x.fs) h
  post := fun x r => ∃ D0, Tight (x.T + 1) (rules x.T x.lo x.hi x.fs) D0 ∧ r = okR (tabD D0)
structure ReckIn where
  fs : List Fact
  T : Nat
  D0 : List (List Int)
  w : Nat
  most : Int
noncomputable def S__law_reckoned (A : Ads) : SpecD where
  α := ReckIn
  args := fun x => [tabD x.D0, factsD x.fs, .int x.w, .int x.most]
  pre := fun x => Tight (x.T + 1) x.fs x.D0 ∧ NetOk (x.T + 1) x.fs ∧ x.fs.length ≤ 500 ∧ 1 ≤ x.w ∧ x.w ≤ x.T
  post := fun x r => r = okR (ansD x.fs x.T x.w x.most)
structure ShownIn where
  t : Told
  fs : List Fact
  T : Nat
  w : Nat
  most : Int
def S__law_shown (A : Ads) : SpecD where
  α := ShownIn
  args := fun x => [x.t.d, .str x.t.word, factsD x.fs, .int x.T, .int x.w, .int x.most]
  pre := fun x => x.t.Ok x.fs x.T x.w x.most ∧ FactsOk (x.T + 1) x.fs ∧ Full x.fs ∧ x.T ≤ 24 ∧ x.fs.length ≤ 500 ∧ 1 ≤ x.w ∧ x.w ≤ x.T
  post := fun _ r => r = okR (.bl true)
structure AnsIn where
  T : Nat
  lo : Int
  hi : Int
  fs : List MF
  bs : List (Nat × Int)
  large : Bool
def budD (b : Nat × Int) : D := .tup [.int b.1, .int b.2]
structure AnsIn.Ok (x : AnsIn) : Prop where
  t1 : 1 ≤ x.T
  t24 : x.T ≤ 24
  t5 : x.large = false → x.T ≤ 5 ∧ x.hi ≤ x.lo + 2
  lo0 : 0 ≤ x.lo
  le : x.lo ≤ x.hi
  hi6 : x.hi ≤ 1000000
  fok : ∀ f ∈ x.fs, f.ok x.T
  len : x.fs.length ≤ 100
  bs : ∀ b ∈ x.bs, 1 ≤ b.1 ∧ b.1 ≤ x.T
  bl : x.bs.length ≤ 2
def AnsIn.facts (x : AnsIn) : List Fact := rules x.T x.lo x.hi x.fs
noncomputable def S__law_answers (A : Ads) : SpecD where
  α := AnsIn
  args := fun x => [.int x.T, .tup [.int x.lo, .int x.hi], factsD x.facts, .lst (x.bs.map budD), .bl x.large]
  pre := fun x => x.Ok
  post := fun x r => ((∀ h, ¬ Fits x.facts h) ∧ r = okO []) ∨ ((∃ h, Fits x.facts h) ∧ r = okO (x.bs.map fun b => ansD x.facts x.T b.1 b.2))
end Pu
namespace Pu
open PySem PySem.Spec PyProof.Rows L2
/-- step_parts(facts 0, step 1, place 2, side 3, a 4, b 5, least 6, greatest 7) -/
def p_step_parts (A : Ads) : TSd :=
  (pSeq (pAsgG (pVar 1) (gT (gsCons (gN 2) (gsCons (gN 3) gsNil))))
  (pSeq (pIf (pNot (pB (pChain dLe dLt (pC (.int 0)) (pVar 2) (pB1 dLen (pVarB 0)))))
  (pRet (pC .non))
  pNext)
  (pSeq (pAsgG (pIx (pVarB 0) (pVar 2)) (gT (gsCons (gN 4) (gsCons (gN 5) (gsCons (gN 6) (gsCons (gN 7) gsNil))))))
  (pSeq (pIf (pAnd (pB (pOp dEqq (pVar 3) (pC (.str "high")))) (pB (pOp (dIsN true) (pVar 7) (pC .non))))
  (pRet (pTup (pCons (pVar 4) (pCons (pVar 5) (pCons (pVar 7) pNil)))))
  pNext)
  (pSeq (pIf (pAnd (pB (pOp dEqq (pVar 3) (pC (.str "low")))) (pB (pOp (dIsN true) (pVar 6) (pC .non))))
  (pRet (pTup (pCons (pVar 5) (pCons (pVar 4) (pCons (pNeg (pVar 6)) pNil)))))
  pNext)
  (pRet (pC .non)))))))

/-- all_steps(facts 0, steps 1, place 2, side 3, parts 4) -/
def p_all_steps (A : Ads) : TSd :=
  (pSeq (pAsg 1 (pLst pNil))
  (pSeq (pFor (qRng1 (pCons (pB1 dLen (pVarB 0)) pNil)) (gN 2)
  (pFor (qTup (pTup (pCons (pC (.str "high")) (pCons (pC (.str "low")) pNil)))) (gN 3)
  (pSeq (pAsg 4 (pCall (S_step_parts A) (pCons (pVar 0) (pCons (pTup (pCons (pVar 2) (pCons (pVar 3) pNil))) pNil))))
  (pIf (pB (pOp (dIsN true) (pVar 4) (pC .non)))
  (pApp 1 (pTup (pCons (pTup (pCons (pVar 2) (pCons (pVar 3) pNil))) (pCons (pIx (pVarB 4) (pC (.int 0))) (pCons (pIx (pVarB 4) (pC (.int 1))) (pCons (pIx (pVarB 4) (pC (.int 2))) pNil))))))
  pNext))))
  (pRetV 1)))

/-- lowered(steps 0, costs 1, last 2, changed 3, step 4, start 5, end 6, cost 7, reached 8) -/
def p_lowered (A : Ads) : TSd :=
  (pSeq (pAsg 1 (pB1 dList (pVarB 1)))
  (pSeq (pAsg 2 (pB1 dList (pVarB 2)))
  (pSeq (pAsg 3 (pC (.bl false)))
  (pSeq (pFor (qList (pVar 0)) (gT (gsCons (gN 4) (gsCons (gN 5) (gsCons (gN 6) (gsCons (gN 7) gsNil)))))
  (pIf (pB (pOp (dIsN true) (pIx (pVarB 1) (pVar 5)) (pC .non)))
  (pSeq (pAsg 8 (pOp dAdd (pIx (pVarB 1) (pVar 5)) (pVar 7)))
  (pIf (pOr (pB (pOp (dIsN false) (pIx (pVarB 1) (pVar 6)) (pC .non))) (pB (pOp dLt (pVar 8) (pIx (pVarB 1) (pVar 6)))))
  (pSeq (pSetI 1 (pVar 6) (pVar 8))
  (pSeq (pSetI 2 (pVar 6) (pVar 4))
  (pAsg 3 (pC (.bl true)))))
  pNext))
  pNext))
  (pFrz 2 (pFrz 1 (pRet (pTup (pCons (pVar 1) (pCons (pVar 2) (pCons (pVar 3) pNil)))))))))))

/-- check_points(points 0, facts 1, asked 2, fact 3, point 4, a 5, b 6) -/
def p_check_points (A : Ads) : TSd :=
  (pSeq (pFor (qList (pVar 1)) (gN 3)
  (pSeq (pAsgG (pSlT (pVarB 3) pON (pOS (pC (.int 2)))) (gT (gsCons (gN 5) (gsCons (gN 6) gsNil))))
  (pSeq (pIf (pOr (pNot (pB (pChain dLe dLt (pC (.int 0)) (pVar 5) (pVar 0)))) (pNot (pB (pChain dLe dLt (pC (.int 0)) (pVar 6) (pVar 0)))))
  (pRaise0 A.BadNet)
  pNext)
  (pIf (pB (pOp dEqq (pVar 5) (pVar 6)))
  (pRaise0 A.BadNet)
  pNext))))
  (pFor (qList (pVar 2)) (gN 4)
  (pIf (pNot (pB (pChain dLe dLt (pC (.int 0)) (pVar 4) (pVar 0))))
  (pRaise0 A.BadNet)
  pNext)))

/-- ring_through(facts 0, last 1, point 2, ring 3, at 4) -/
def p_ring_through (A : Ads) : TSd :=
  (pSeq (pAsg 3 (pLst (pCons (pIx (pVarB 1) (pVar 2)) pNil)))
  (pSeq (pAsg 4 (pIx (pCall (S_step_parts A) (pCons (pVar 0) (pCons (pIx (pVarB 1) (pVar 2)) pNil))) (pC (.int 0))))
  (pSeq (pWhile (pB (pOp dNe (pVar 4) (pVar 2)))
  (pSeq (pApp 3 (pIx (pVarB 1) (pVar 4)))
  (pAsg 4 (pIx (pCall (S_step_parts A) (pCons (pVar 0) (pCons (pIx (pVarB 1) (pVar 4)) pNil))) (pC (.int 0))))))
  (pRet (pRev (pVarB 3))))))

/-- ring_among(facts 0, last 1, walk 2, first 3, at 4) -/
def p_ring_among (A : Ads) : TSd :=
  (pSeq (pAsg 2 (pOp dRep (pLst (pCons (pC .non) pNil)) (pB1 dLen (pVarB 1))))
  (pSeq (pFor (qRng1 (pCons (pB1 dLen (pVarB 1)) pNil)) (gN 3)
  (pSeq (pAsg 4 (pVar 3))
  (pSeq (pWhile (pAnd (pB (pOp (dIsN true) (pIx (pVarB 1) (pVar 4)) (pC .non))) (pB (pOp (dIsN false) (pIx (pVarB 2) (pVar 4)) (pC .non))))
  (pSeq (pSetI 2 (pVar 4) (pVar 3))
  (pAsg 4 (pIx (pCall (S_step_parts A) (pCons (pVar 0) (pCons (pIx (pVarB 1) (pVar 4)) pNil))) (pC (.int 0))))))
  (pIf (pB (pOp dEqq (pIx (pVarB 2) (pVar 4)) (pVar 3)))
  (pRet (pCall (S_ring_through A) (pCons (pVar 0) (pCons (pVar 1) (pCons (pVar 4) pNil)))))
  pNext))))
  (pRet (pC .non))))

/-- heights_or_ring(points 0, facts 1, steps 2, costs 3, last 4, turn 5, ring 6, changed 7, cost 8) -/
def p_heights_or_ring (A : Ads) : TSd :=
  (pSeq (pDrop (pCall (S_check_points A) (pCons (pVar 0) (pCons (pVar 1) (pCons (pLst pNil) pNil)))))
  (pSeq (pAsg 2 (pCall (S_all_steps A) (pCons (pVar 1) pNil)))
  (pSeq (pAsg 3 (pOp dRep (pLst (pCons (pC (.int 0)) pNil)) (pVar 0)))
  (pSeq (pAsg 4 (pOp dRep (pLst (pCons (pC .non) pNil)) (pVar 0)))
  (pFrz 2 (pFrz 6 (pFrz 4 (pFrz 3 (pSeq (pFor (qRng1 (pCons (pVar 0) pNil)) (gN 5)
  (pFrz 2 (pFrz 4 (pFrz 3 (pSeq (pAsgG (pCall (S_lowered A) (pCons (pVar 2) (pCons (pVar 3) (pCons (pVar 4) pNil)))) (gT (gsCons (gN 3) (gsCons (gN 4) (gsCons (gN 7) gsNil)))))
  (pSeq (pIf (pNot (pB (pVar 7)))
  pBrk
  pNext)
  (pFrz 4 (pSeq (pAsg 6 (pCall (S_ring_among A) (pCons (pVar 1) (pCons (pVar 4) pNil))))
  (pFrz 6 (pIf (pB (pOp (dIsN true) (pVar 6) (pC .non)))
  (pFrz 6 (pRet (pTup (pCons (pC (.str "ring")) (pCons (pVar 6) pNil)))))
  pNext))))))))))
  (pFrz 3 (pRet (pTup (pCons (pC (.str "heights")) (pCons (pLc (qList (pVar 3)) 8 [8] tY (pOp dSub (pVar 8) (pIx (pVarB 3) (pC (.int 0))))) pNil))))))))))))))

/-- ways_from(points 0, facts 1, a 2, steps 3, costs 4, last 5, turn 6, changed 7) -/
def p_ways_from (A : Ads) : TSd :=
  (pSeq (pAsg 3 (pCall (S_all_steps A) (pCons (pVar 1) pNil)))
  (pSeq (pAsg 4 (pOp dRep (pLst (pCons (pC .non) pNil)) (pVar 0)))
  (pSeq (pSetI 4 (pVar 2) (pC (.int 0)))
  (pSeq (pAsg 5 (pOp dRep (pLst (pCons (pC .non) pNil)) (pVar 0)))
  (pFrz 3 (pFrz 5 (pFrz 4 (pSeq (pFor (qRng1 (pCons (pVar 0) pNil)) (gN 6)
  (pFrz 3 (pFrz 5 (pFrz 4 (pSeq (pAsgG (pCall (S_lowered A) (pCons (pVar 3) (pCons (pVar 4) (pCons (pVar 5) pNil)))) (gT (gsCons (gN 4) (gsCons (gN 5) (gsCons (gN 7) gsNil)))))
  (pIf (pNot (pB (pVar 7)))
  pBrk
  pNext))))))
  (pFrz 5 (pFrz 4 (pRet (pTup (pCons (pVar 4) (pCons (pVar 5) pNil))))))))))))))

/-- check_heights(points 0, facts 1, asked 2, word 3, told 4) -/
def p_check_heights (A : Ads) : TSd :=
  (pSeq (pDrop (pCall (S_check_points A) (pCons (pVar 0) (pCons (pVar 1) (pCons (pVar 2) pNil)))))
  (pSeq (pAsgG (pCall (S_heights_or_ring A) (pCons (pVar 0) (pCons (pVar 1) pNil))) (gT (gsCons (gN 3) (gsCons (gN 4) gsNil))))
  (pIf (pB (pOp dEqq (pVar 3) (pC (.str "ring"))))
  (pRaiseF A.NoHeights "ring" (pCons (pVar 4) pNil))
  pNext)))

/-- cheapest_way(points 0, facts 1, a 2, b 3, last 4, way 5, at 6) -/
def p_cheapest_way (A : Ads) : TSd :=
  (pSeq (pDrop (pCall (S_check_heights A) (pCons (pVar 0) (pCons (pVar 1) (pCons (pLst (pCons (pVar 2) (pCons (pVar 3) pNil))) pNil)))))
  (pSeq (pAsg 4 (pIx (pCall (S_ways_from A) (pCons (pVar 0) (pCons (pVar 1) (pCons (pVar 2) pNil)))) (pC (.int 1))))
  (pSeq (pIf (pAnd (pB (pOp dNe (pVar 2) (pVar 3))) (pB (pOp (dIsN false) (pIx (pVarB 4) (pVar 3)) (pC .non))))
  (pRet (pC .non))
  pNext)
  (pSeq (pAsg 5 (pLst pNil))
  (pSeq (pAsg 6 (pVar 3))
  (pSeq (pWhile (pB (pOp dNe (pVar 6) (pVar 2)))
  (pSeq (pApp 5 (pIx (pVarB 4) (pVar 6)))
  (pAsg 6 (pIx (pCall (S_step_parts A) (pCons (pVar 1) (pCons (pIx (pVarB 4) (pVar 6)) pNil))) (pC (.int 0))))))
  (pRet (pRev (pVarB 5)))))))))

/-- check_fact(ticks 0, fact 1, good 2) -/
def p_check_fact (A : Ads) : TSd :=
  (pSeq (pIf (pB (pOp dEqq (pIx (pVarB 1) (pC (.int 0))) (pC (.str "read"))))
  (pAsg 2 (pChain dLe dLe (pC (.int 1)) (pIx (pVarB 1) (pC (.int 1))) (pVar 0)))
  (pAsg 2 (pChain3 dLe dLt dLe (pC (.int 0)) (pIx (pVarB 1) (pC (.int 1))) (pIx (pVarB 1) (pC (.int 2))) (pVar 0))))
  (pIf (pNot (pB (pVar 2)))
  (pRaise0 A.BadMeter)
  pNext))

/-- meter_facts(meter 0, facts 1, fact 2, tick 3) -/
def p_meter_facts (A : Ads) : TSd :=
  (pSeq (pAsg 1 (pLc (qRng1 (pCons (pFld A.Meter "ticks" (pVar 0)) pNil)) 3 [3] tY (pTup (pCons (pVar 3) (pCons (pOp dAdd (pVar 3) (pC (.int 1))) (pCons (pFld A.Meter "low" (pVar 0)) (pCons (pFld A.Meter "high" (pVar 0)) pNil)))))))
  (pSeq (pFor (qTup (pFld A.Meter "facts" (pVar 0))) (gN 2)
  (pIf (pB (pOp dEqq (pIx (pVarB 2) (pC (.int 0))) (pC (.str "read"))))
  (pApp 1 (pTup (pCons (pC (.int 0)) (pCons (pIx (pVarB 2) (pC (.int 1))) (pCons (pIx (pVarB 2) (pC (.int 2))) (pCons (pIx (pVarB 2) (pC (.int 2))) pNil))))))
  (pApp 1 (pTup (pCons (pIx (pVarB 2) (pC (.int 1))) (pCons (pIx (pVarB 2) (pC (.int 2))) (pCons (pIx (pVarB 2) (pC (.int 3))) (pCons (pIx (pVarB 2) (pC (.int 4))) pNil))))))))
  (pRetV 1)))

/-- check_width(meter 0, width 1) -/
def p_check_width (A : Ads) : TSd :=
  (pIf (pNot (pB (pChain dLe dLe (pC (.int 1)) (pVar 1) (pFld A.Meter "ticks" (pVar 0)))))
  (pRaise0 A.BadMeter)
  pNext)

/-- limit_facts(ticks 0, width 1, most 2, shift 3, facts 4, point 5) -/
def p_limit_facts (A : Ads) : TSd :=
  (pSeq (pAsg 4 (pLst pNil))
  (pSeq (pFor (qRng2 (pCons (pVar 1) (pCons (pOp dAdd (pVar 0) (pC (.int 1))) pNil))) (gN 5)
  (pApp 4 (pTup (pCons (pOp dSub (pOp dAdd (pVar 3) (pVar 5)) (pVar 1)) (pCons (pOp dAdd (pVar 3) (pVar 5)) (pCons (pC .non) (pCons (pVar 2) pNil)))))))
  (pRetV 4)))

end Pu
set_option maxHeartbeats 4000000
namespace Pu
open PySem PySem.Spec PyProof.Rows L2
section
variable {P : Program} {w : World} {K : PySem.W.Frag} {mg : Str → Option Value} {base : Heap}
theorem sc_step_parts : FnScope ["facts", "step", "place", "side", "a", "b", "least", "greatest"] ["facts", "step"] (defScope (top 6)) := ⟨rfl, rfl, rfl, by decide +kernel, rfl, by decide +kernel, by decide +kernel⟩
set_option maxHeartbeats 8000000 in
theorem cl_step_parts (T : Tx K mg) (run : ∀ (x : (S_step_parts (ads K)).α), (S_step_parts (ads K)).pre x → p_step_parts (ads K) { nx := fun _ => (S_step_parts (ads K)).post x (.ok (.ro .non)), rt := fun r => (S_step_parts (ads K)).post x (.ok r), ex := fun e => (S_step_parts (ads K)).post x (.error e) } (startD ["facts", "step", "place", "side", "a", "b", "least", "greatest"] ((S_step_parts (ads K)).args x))) : Cl P w K mg base CX0 1 "step_parts" (S_step_parts (ads K)) := by
  obtain ⟨fd, F⟩ := T.fn 0 (d := d_step_parts) rfl
  have mf := T.glo 0 (x := "step_parts") rfl
  have m_len := T.free 60 (x := "len") rfl
  have nd := sc_step_parts.nd
  have b := F.bindsN (ps := ["facts", "step"]) fun _ _ _ _ _ _ us hl => match us, hl with | [_, _], _ => rfl
  refine ⟨⟨_, fd, ["facts", "step"], okD (N := ["facts", "step", "place", "side", "a", "b", "least", "greatest"]) (p := fun _ => p_step_parts (ads K)) F sc_step_parts (fun _ => rfl) (fun cdv Ar outer s0 H0 E hr => ?_) (fun x _ hx => run x hx), mf, F.kp, b⟩⟩
  unfold p_step_parts
  exact (dss_cons (ds_asg (dv 1) (dg_tup rfl (dgs_cons (dg_name 2 nd) (dgs_cons (dg_name 3 nd) dgs_nil)) (gs_len (gs_len (fun _ _ _ => gs_nil_len)))))
  (dss_cons (ds_if (dt_not (dt_chain op_le od_le op_lt od_lt de_int (dv 2) (de_b1 call_len_seq cb_len m_len (by decide +kernel) (db 0))))
  (dss_one (ds_ret de_non))
  dss_nil)
  (dss_cons (ds_asg (de_ix (db 0) (dv 2)) (dg_tup rfl (dgs_cons (dg_name 4 nd) (dgs_cons (dg_name 5 nd) (dgs_cons (dg_name 6 nd) (dgs_cons (dg_name 7 nd) dgs_nil)))) (gs_len (gs_len (gs_len (gs_len (fun _ _ _ => gs_nil_len)))))))
  (dss_cons (ds_if (PWd.pt (dw_and (dt_cmp op_eq od_eq (dv 3) de_str) (dw_and1 (dt_cmp op_notN od_notN (dv 7) de_non))))
  (dss_one (ds_ret (de_tup (da_cons (dv 4) (da_cons (dv 5) (da_cons (dv 7) da_nil))))))
  dss_nil)
  (dss_cons (ds_if (PWd.pt (dw_and (dt_cmp op_eq od_eq (dv 3) de_str) (dw_and1 (dt_cmp op_notN od_notN (dv 6) de_non))))
  (dss_one (ds_ret (de_tup (da_cons (dv 5) (da_cons (dv 4) (da_cons (de_neg (dv 6)) da_nil))))))
  dss_nil)
  (dss_one (ds_ret de_non)))))))

theorem sc_all_steps : FnScope ["facts", "steps", "place", "side", "parts"] ["facts"] (defScope (top 9)) := ⟨rfl, rfl, rfl, by decide +kernel, rfl, by decide +kernel, by decide +kernel⟩
set_option maxHeartbeats 8000000 in
theorem cl_all_steps (T : Tx K mg) (C_step_parts : Cl P w K mg base CX0 1 "step_parts" (S_step_parts (ads K))) (run : ∀ (x : (S_all_steps (ads K)).α), (S_all_steps (ads K)).pre x → p_all_steps (ads K) { nx := fun _ => (S_all_steps (ads K)).post x (.ok (.ro .non)), rt := fun r => (S_all_steps (ads K)).post x (.ok r), ex := fun e => (S_all_steps (ads K)).post x (.error e) } (startD ["facts", "steps", "place", "side", "parts"] ((S_all_steps (ads K)).args x))) : Cl P w K mg base CX0 2 "all_steps" (S_all_steps (ads K)) := by
  obtain ⟨fd, F⟩ := T.fn 2 (d := d_all_steps) rfl
  have mf := T.glo 2 (x := "all_steps") rfl
  have m_len := T.free 60 (x := "len") rfl
  have m_range := T.free 61 (x := "range") rfl
  have nd := sc_all_steps.nd
  have b := F.bindsN (ps := ["facts"]) fun _ _ _ _ _ _ us hl => match us, hl with | [_], _ => rfl
  refine ⟨⟨_, fd, ["facts"], okD (N := ["facts", "steps", "place", "side", "parts"]) (p := fun _ => p_all_steps (ads K)) F sc_all_steps (fun _ => rfl) (fun cdv Ar outer s0 H0 E hr => ?_) (fun x _ hx => run x hx), mf, F.kp, b⟩⟩
  unfold p_all_steps
  exact (dss_cons (ds_set 1 nd (de_lst da_nil))
  (dss_cons (ds_for pxO rfl (di_rng1 m_range (da_cons (de_b1 call_len_seq cb_len m_len (by decide +kernel) (db 0)) da_nil)) (dg_name 2 nd)
  (dss_one (ds_for pxO rfl (di_tup (de_tup (da_cons de_str (da_cons de_str da_nil)))) (dg_name 3 nd)
  (dss_cons (ds_set 4 nd (de_callC C_step_parts (hr.mono (by decide)) px0 (da_cons (dv 0) (da_cons (de_tup (da_cons (dv 2) (da_cons (dv 3) da_nil))) da_nil))))
  (dss_one (ds_if (dt_cmp op_notN od_notN (dv 4) de_non)
  (dss_one (ds_app 1 (de_tup (da_cons (de_tup (da_cons (dv 2) (da_cons (dv 3) da_nil))) (da_cons (de_ix (db 4) de_int) (da_cons (de_ix (db 4) de_int) (da_cons (de_ix (db 4) de_int) da_nil))))) (hm := fun _ h => pe_bm PySem.F.plainAttrs_list PySem.F.slot_list_append PySem.F.type_list_append mt_append (pv 1) (pa_cons h pa_nil))))
  dss_nil))))))
  (dss_one (ds_retV 1))))

theorem sc_lowered : FnScope ["steps", "costs", "last", "changed", "step", "start", "end", "cost", "reached"] ["steps", "costs", "last"] (defScope (top 10)) := ⟨rfl, rfl, rfl, by decide +kernel, rfl, by decide +kernel, by decide +kernel⟩
set_option maxHeartbeats 8000000 in
theorem cl_lowered (T : Tx K mg) (run : ∀ (x : (S_lowered (ads K)).α), (S_lowered (ads K)).pre x → p_lowered (ads K) { nx := fun _ => (S_lowered (ads K)).post x (.ok (.ro .non)), rt := fun r => (S_lowered (ads K)).post x (.ok r), ex := fun e => (S_lowered (ads K)).post x (.error e) } (startD ["steps", "costs", "last", "changed", "step", "start", "end", "cost", "reached"] ((S_lowered (ads K)).args x))) : Cl P w K mg base CX0 1 "lowered" (S_lowered (ads K)) := by
  obtain ⟨fd, F⟩ := T.fn 3 (d := d_lowered) rfl
  have mf := T.glo 3 (x := "lowered") rfl
  have m_list := T.free 64 (x := "list") rfl
  have nd := sc_lowered.nd
  have b := F.bindsN (ps := ["steps", "costs", "last"]) fun _ _ _ _ _ _ us hl => match us, hl with | [_, _, _], _ => rfl
  refine ⟨⟨_, fd, ["steps", "costs", "last"], okD (N := ["steps", "costs", "last", "changed", "step", "start", "end", "cost", "reached"]) (p := fun _ => p_lowered (ads K)) F sc_lowered (fun _ => rfl) (fun cdv Ar outer s0 H0 E hr => ?_) (fun x _ hx => run x hx), mf, F.kp, b⟩⟩
  unfold p_lowered
  exact (dss_cons (ds_set 1 nd (de_b1Ty call_list_of cb_list m_list (by decide +kernel) (db 1)))
  (dss_cons (ds_set 2 nd (de_b1Ty call_list_of cb_list m_list (by decide +kernel) (db 2)))
  (dss_cons (ds_set 3 nd de_bl)
  (dss_cons (ds_for pxO rfl (di_list (dv 0)) (dg_tup rfl (dgs_cons (dg_name 4 nd) (dgs_cons (dg_name 5 nd) (dgs_cons (dg_name 6 nd) (dgs_cons (dg_name 7 nd) dgs_nil)))) (gs_len (gs_len (gs_len (gs_len (fun _ _ _ => gs_nil_len))))))
  (dss_one (ds_if (dt_cmp op_notN od_notN (de_ix (db 1) (dv 5)) de_non)
  (dss_cons (ds_set 8 nd (de_op op_add od_add (de_ix (db 1) (dv 5)) (dv 7)))
  (dss_one (ds_if (PWd.pt (dw_or (dt_cmp op_isN od_isN (de_ix (db 1) (dv 6)) de_non) (dw_or1 (dt_cmp op_lt od_lt (dv 8) (de_ix (db 1) (dv 6))))))
  (dss_cons (ds_setI 1 (dv 8) (dv 6))
  (dss_cons (ds_setI 2 (dv 4) (dv 6))
  (dss_one (ds_set 3 nd de_bl))))
  dss_nil)))
  dss_nil)))
  (dss_frz 2 (dss_frz 1 (dss_one (ds_ret (de_tup (da_cons (dv 1) (da_cons (dv 2) (da_cons (dv 3) da_nil))))))))))))

theorem sc_check_points : FnScope ["points", "facts", "asked", "fact", "point", "a", "b"] ["points", "facts", "asked"] (defScope (top 8)) := ⟨rfl, rfl, rfl, by decide +kernel, rfl, by decide +kernel, by decide +kernel⟩
set_option maxHeartbeats 8000000 in
theorem cl_check_points (T : Tx K mg) (run : ∀ (x : (S_check_points (ads K)).α), (S_check_points (ads K)).pre x → p_check_points (ads K) { nx := fun _ => (S_check_points (ads K)).post x (.ok (.ro .non)), rt := fun r => (S_check_points (ads K)).post x (.ok r), ex := fun e => (S_check_points (ads K)).post x (.error e) } (startD ["points", "facts", "asked", "fact", "point", "a", "b"] ((S_check_points (ads K)).args x))) : Cl P w K mg base (L2N.CX P w) 1 "check_points" (S_check_points (ads K)) := by
  obtain ⟨fd, F⟩ := T.fn 1 (d := d_check_points) rfl
  have mf := T.glo 1 (x := "check_points") rfl
  have e_BadNet := T.exc 75 (x := "BadNet") rfl
  have g_BadNet := T.glo 56 (x := "BadNet") rfl
  have nd := sc_check_points.nd
  have b := F.bindsN (ps := ["points", "facts", "asked"]) fun _ _ _ _ _ _ us hl => match us, hl with | [_, _, _], _ => rfl
  refine ⟨⟨_, fd, ["points", "facts", "asked"], okD (N := ["points", "facts", "asked", "fact", "point", "a", "b"]) (p := fun _ => p_check_points (ads K)) F sc_check_points (fun _ => rfl) (fun cdv Ar outer s0 H0 E hr => ?_) (fun x _ hx => run x hx), mf, F.kp, b⟩⟩
  have pxR := pxR_of (P := P) (w := w) (K := K) (mg := mg) (base := base) (N := ["points", "facts", "asked", "fact", "point", "a", "b"]) (qual := d_check_points.qual) (scope := d_check_points.scope) (f := He.fAd K d_check_points.at_) (cd := cdv) (A := Ar) (outer := outer) (s := s0) (H := H0) (E := E)
  unfold p_check_points
  exact (dss_cons (ds_for pxO rfl (di_list (dv 1)) (dg_name 3 nd)
  (dss_cons (ds_asg (de_slT (db 3) do_none (do_some de_int)) (dg_tup rfl (dgs_cons (dg_name 5 nd) (dgs_cons (dg_name 6 nd) dgs_nil)) (gs_len (gs_len (fun _ _ _ => gs_nil_len)))))
  (dss_cons (ds_if (PWd.pt (dw_or (dt_not (dt_chain op_le od_le op_lt od_lt de_int (dv 5) (dv 0))) (dw_or1 (dt_not (dt_chain op_le od_le op_lt od_lt de_int (dv 6) (dv 0))))))
  (dss_one (ds_raise rfl pxT (pmk0 e_BadNet g_BadNet)))
  dss_nil)
  (dss_one (ds_if (dt_cmp op_eq od_eq (dv 5) (dv 6))
  (dss_one (ds_raise rfl pxT (pmk0 e_BadNet g_BadNet)))
  dss_nil)))))
  (dss_one (ds_for pxO rfl (di_list (dv 2)) (dg_name 4 nd)
  (dss_one (ds_if (dt_not (dt_chain op_le od_le op_lt od_lt de_int (dv 4) (dv 0)))
  (dss_one (ds_raise rfl pxT (pmk0 e_BadNet g_BadNet)))
  dss_nil)))))

theorem sc_ring_through : FnScope ["facts", "last", "point", "ring", "at"] ["facts", "last", "point"] (defScope (top 11)) := ⟨rfl, rfl, rfl, by decide +kernel, rfl, by decide +kernel, by decide +kernel⟩
set_option maxHeartbeats 8000000 in
theorem cl_ring_through (T : Tx K mg) (C_step_parts : Cl P w K mg base CX0 1 "step_parts" (S_step_parts (ads K))) (run : ∀ (x : (S_ring_through (ads K)).α), (S_ring_through (ads K)).pre x → p_ring_through (ads K) { nx := fun _ => (S_ring_through (ads K)).post x (.ok (.ro .non)), rt := fun r => (S_ring_through (ads K)).post x (.ok r), ex := fun e => (S_ring_through (ads K)).post x (.error e) } (startD ["facts", "last", "point", "ring", "at"] ((S_ring_through (ads K)).args x))) : Cl P w K mg base CX0 2 "ring_through" (S_ring_through (ads K)) := by
  obtain ⟨fd, F⟩ := T.fn 4 (d := d_ring_through) rfl
  have mf := T.glo 4 (x := "ring_through") rfl
  have nd := sc_ring_through.nd
  have b := F.bindsN (ps := ["facts", "last", "point"]) fun _ _ _ _ _ _ us hl => match us, hl with | [_, _, _], _ => rfl
  refine ⟨⟨_, fd, ["facts", "last", "point"], okD (N := ["facts", "last", "point", "ring", "at"]) (p := fun _ => p_ring_through (ads K)) F sc_ring_through (fun _ => rfl) (fun cdv Ar outer s0 H0 E hr => ?_) (fun x _ hx => run x hx), mf, F.kp, b⟩⟩
  unfold p_ring_through
  exact (dss_cons (ds_set 3 nd (de_lst (da_cons (de_ix (db 1) (dv 2)) da_nil)))
  (dss_cons (ds_set 4 nd (de_ix (db_of (de_callC C_step_parts (hr.mono (by decide)) px0 (da_cons (dv 0) (da_cons (de_ix (db 1) (dv 2)) da_nil)))) de_int))
  (dss_cons (ds_while pxO (dt_cmp op_ne od_ne (dv 4) (dv 2))
  (dss_cons (ds_app 3 (de_ix (db 1) (dv 4)) (hm := fun _ h => pe_bm PySem.F.plainAttrs_list PySem.F.slot_list_append PySem.F.type_list_append mt_append (pv 3) (pa_cons h pa_nil)))
  (dss_one (ds_set 4 nd (de_ix (db_of (de_callC C_step_parts (hr.mono (by decide)) px0 (da_cons (dv 0) (da_cons (de_ix (db 1) (dv 4)) da_nil)))) de_int)))))
  (dss_one (ds_ret (de_rev (db 3)))))))

theorem sc_ring_among : FnScope ["facts", "last", "walk", "first", "at"] ["facts", "last"] (defScope (top 12)) := ⟨rfl, rfl, rfl, by decide +kernel, rfl, by decide +kernel, by decide +kernel⟩
set_option maxHeartbeats 8000000 in
theorem cl_ring_among (T : Tx K mg) (C_ring_through : Cl P w K mg base CX0 2 "ring_through" (S_ring_through (ads K))) (C_step_parts : Cl P w K mg base CX0 1 "step_parts" (S_step_parts (ads K))) (run : ∀ (x : (S_ring_among (ads K)).α), (S_ring_among (ads K)).pre x → p_ring_among (ads K) { nx := fun _ => (S_ring_among (ads K)).post x (.ok (.ro .non)), rt := fun r => (S_ring_among (ads K)).post x (.ok r), ex := fun e => (S_ring_among (ads K)).post x (.error e) } (startD ["facts", "last", "walk", "first", "at"] ((S_ring_among (ads K)).args x))) : Cl P w K mg base CX0 3 "ring_among" (S_ring_among (ads K)) := by
  obtain ⟨fd, F⟩ := T.fn 5 (d := d_ring_among) rfl
  have mf := T.glo 5 (x := "ring_among") rfl
  have m_len := T.free 60 (x := "len") rfl
  have m_range := T.free 61 (x := "range") rfl
  have nd := sc_ring_among.nd
  have b := F.bindsN (ps := ["facts", "last"]) fun _ _ _ _ _ _ us hl => match us, hl with | [_, _], _ => rfl
  refine ⟨⟨_, fd, ["facts", "last"], okD (N := ["facts", "last", "walk", "first", "at"]) (p := fun _ => p_ring_among (ads K)) F sc_ring_among (fun _ => rfl) (fun cdv Ar outer s0 H0 E hr => ?_) (fun x _ hx => run x hx), mf, F.kp, b⟩⟩
  unfold p_ring_among
  exact (dss_cons (ds_set 2 nd (de_op op_rep od_rep (de_lst (da_cons de_non da_nil)) (de_b1 call_len_seq cb_len m_len (by decide +kernel) (db 1))))
  (dss_cons (ds_for pxO rfl (di_rng1 m_range (da_cons (de_b1 call_len_seq cb_len m_len (by decide +kernel) (db 1)) da_nil)) (dg_name 3 nd)
  (dss_cons (ds_set 4 nd (dv 3))
  (dss_cons (ds_while pxO (PWd.pt (dw_and (dt_cmp op_notN od_notN (de_ix (db 1) (dv 4)) de_non) (dw_and1 (dt_cmp op_isN od_isN (de_ix (db 2) (dv 4)) de_non))))
  (dss_cons (ds_setI 2 (dv 3) (dv 4))
  (dss_one (ds_set 4 nd (de_ix (db_of (de_callC C_step_parts (hr.mono (by decide)) px0 (da_cons (dv 0) (da_cons (de_ix (db 1) (dv 4)) da_nil)))) de_int)))))
  (dss_one (ds_if (dt_cmp op_eq od_eq (de_ix (db 2) (dv 4)) (dv 3))
  (dss_one (ds_ret (de_callC C_ring_through (hr.mono (by decide)) px0 (da_cons (dv 0) (da_cons (dv 1) (da_cons (dv 4) da_nil))))))
  dss_nil)))))
  (dss_one (ds_ret de_non))))

theorem sc_heights_or_ring : FnScope ["points", "facts", "steps", "costs", "last", "turn", "ring", "changed", "cost"] ["points", "facts"] (defScope (top 13)) := ⟨rfl, rfl, rfl, by decide +kernel, rfl, by decide +kernel, by decide +kernel⟩
set_option maxHeartbeats 8000000 in
theorem cl_heights_or_ring (T : Tx K mg) (C_all_steps : Cl P w K mg base CX0 2 "all_steps" (S_all_steps (ads K))) (C_check_points : Cl P w K mg base (L2N.CX P w) 1 "check_points" (S_check_points (ads K))) (C_lowered : Cl P w K mg base CX0 1 "lowered" (S_lowered (ads K))) (C_ring_among : Cl P w K mg base CX0 3 "ring_among" (S_ring_among (ads K))) (run : ∀ (x : (S_heights_or_ring (ads K)).α), (S_heights_or_ring (ads K)).pre x → p_heights_or_ring (ads K) { nx := fun _ => (S_heights_or_ring (ads K)).post x (.ok (.ro .non)), rt := fun r => (S_heights_or_ring (ads K)).post x (.ok r), ex := fun e => (S_heights_or_ring (ads K)).post x (.error e) } (startD ["points", "facts", "steps", "costs", "last", "turn", "ring", "changed", "cost"] ((S_heights_or_ring (ads K)).args x))) : Cl P w K mg base (L2N.CX P w) 4 "heights_or_ring" (S_heights_or_ring (ads K)) := by
  obtain ⟨fd, F⟩ := T.fn 6 (d := d_heights_or_ring) rfl
  have mf := T.glo 6 (x := "heights_or_ring") rfl
  have m_range := T.free 61 (x := "range") rfl
  have nd := sc_heights_or_ring.nd
  have b := F.bindsN (ps := ["points", "facts"]) fun _ _ _ _ _ _ us hl => match us, hl with | [_, _], _ => rfl
  refine ⟨⟨_, fd, ["points", "facts"], okD (N := ["points", "facts", "steps", "costs", "last", "turn", "ring", "changed", "cost"]) (p := fun _ => p_heights_or_ring (ads K)) F sc_heights_or_ring (fun _ => rfl) (fun cdv Ar outer s0 H0 E hr => ?_) (fun x _ hx => run x hx), mf, F.kp, b⟩⟩
  have pxR := pxR_of (P := P) (w := w) (K := K) (mg := mg) (base := base) (N := ["points", "facts", "steps", "costs", "last", "turn", "ring", "changed", "cost"]) (qual := d_heights_or_ring.qual) (scope := d_heights_or_ring.scope) (f := He.fAd K d_heights_or_ring.at_) (cd := cdv) (A := Ar) (outer := outer) (s := s0) (H := H0) (E := E)
  unfold p_heights_or_ring
  exact (dss_cons (ds_expr (de_callC C_check_points (hr.mono (by decide)) pxR (da_cons (dv 0) (da_cons (dv 1) (da_cons (de_lst da_nil) da_nil)))))
  (dss_cons (ds_set 2 nd (de_callC C_all_steps (hr.mono (by decide)) px0 (da_cons (dv 1) da_nil)))
  (dss_cons (ds_set 3 nd (de_op op_rep od_rep (de_lst (da_cons de_int da_nil)) (dv 0)))
  (dss_cons (ds_set 4 nd (de_op op_rep od_rep (de_lst (da_cons de_non da_nil)) (dv 0)))
  (dss_frz 2 (dss_frz 6 (dss_frz 4 (dss_frz 3 (dss_cons (ds_for pxO rfl (di_rng1 m_range (da_cons (dv 0) da_nil)) (dg_name 5 nd)
  (dss_frz 2 (dss_frz 4 (dss_frz 3 (dss_cons (ds_asg (de_callC C_lowered (hr.mono (by decide)) px0 (da_cons (dv 2) (da_cons (dv 3) (da_cons (dv 4) da_nil)))) (dg_tup rfl (dgs_cons (dg_name 3 nd) (dgs_cons (dg_name 4 nd) (dgs_cons (dg_name 7 nd) dgs_nil))) (gs_len (gs_len (gs_len (fun _ _ _ => gs_nil_len))))))
  (dss_cons (ds_if (dt_not (dt_val (dv 7)))
  (dss_one ds_brk)
  dss_nil)
  (dss_frz 4 (dss_cons (ds_set 6 nd (de_callC C_ring_among (hr.mono (by decide)) px0 (da_cons (dv 1) (da_cons (dv 4) da_nil))))
  (dss_frz 6 (dss_one (ds_if (dt_cmp op_notN od_notN (dv 6) de_non)
  (dss_frz 6 (dss_one (ds_ret (de_tup (da_cons de_str (da_cons (dv 6) da_nil))))))
  dss_nil)))))))))))
  (dss_frz 3 (dss_one (ds_ret (de_tup (da_cons de_str (da_cons (de_lc [("cost", 8)] 8 rfl nd (di_list (dv 3)) (by kernel_rfl) (by decide) (fun _ _ _ _ _ => pg_name (i := 8) nd rfl (Or.inl rfl)) (fun _ _ _ _ _ => dts_nil) (fun _ _ _ _ _ => (de_op op_sub od_sub (dv 8) (de_ix (db 3) de_int)))) da_nil)))))))))))))))

theorem sc_ways_from : FnScope ["points", "facts", "a", "steps", "costs", "last", "turn", "changed"] ["points", "facts", "a"] (defScope (top 14)) := ⟨rfl, rfl, rfl, by decide +kernel, rfl, by decide +kernel, by decide +kernel⟩
set_option maxHeartbeats 8000000 in
theorem cl_ways_from (T : Tx K mg) (C_all_steps : Cl P w K mg base CX0 2 "all_steps" (S_all_steps (ads K))) (C_lowered : Cl P w K mg base CX0 1 "lowered" (S_lowered (ads K))) (run : ∀ (x : (S_ways_from (ads K)).α), (S_ways_from (ads K)).pre x → p_ways_from (ads K) { nx := fun _ => (S_ways_from (ads K)).post x (.ok (.ro .non)), rt := fun r => (S_ways_from (ads K)).post x (.ok r), ex := fun e => (S_ways_from (ads K)).post x (.error e) } (startD ["points", "facts", "a", "steps", "costs", "last", "turn", "changed"] ((S_ways_from (ads K)).args x))) : Cl P w K mg base CX0 3 "ways_from" (S_ways_from (ads K)) := by
  obtain ⟨fd, F⟩ := T.fn 7 (d := d_ways_from) rfl
  have mf := T.glo 7 (x := "ways_from") rfl
  have m_range := T.free 61 (x := "range") rfl
  have nd := sc_ways_from.nd
  have b := F.bindsN (ps := ["points", "facts", "a"]) fun _ _ _ _ _ _ us hl => match us, hl with | [_, _, _], _ => rfl
  refine ⟨⟨_, fd, ["points", "facts", "a"], okD (N := ["points", "facts", "a", "steps", "costs", "last", "turn", "changed"]) (p := fun _ => p_ways_from (ads K)) F sc_ways_from (fun _ => rfl) (fun cdv Ar outer s0 H0 E hr => ?_) (fun x _ hx => run x hx), mf, F.kp, b⟩⟩
  unfold p_ways_from
  exact (dss_cons (ds_set 3 nd (de_callC C_all_steps (hr.mono (by decide)) px0 (da_cons (dv 1) da_nil)))
  (dss_cons (ds_set 4 nd (de_op op_rep od_rep (de_lst (da_cons de_non da_nil)) (dv 0)))
  (dss_cons (ds_setI 4 de_int (dv 2))
  (dss_cons (ds_set 5 nd (de_op op_rep od_rep (de_lst (da_cons de_non da_nil)) (dv 0)))
  (dss_frz 3 (dss_frz 5 (dss_frz 4 (dss_cons (ds_for pxO rfl (di_rng1 m_range (da_cons (dv 0) da_nil)) (dg_name 6 nd)
  (dss_frz 3 (dss_frz 5 (dss_frz 4 (dss_cons (ds_asg (de_callC C_lowered (hr.mono (by decide)) px0 (da_cons (dv 3) (da_cons (dv 4) (da_cons (dv 5) da_nil)))) (dg_tup rfl (dgs_cons (dg_name 4 nd) (dgs_cons (dg_name 5 nd) (dgs_cons (dg_name 7 nd) dgs_nil))) (gs_len (gs_len (gs_len (fun _ _ _ => gs_nil_len))))))
  (dss_one (ds_if (dt_not (dt_val (dv 7)))
  (dss_one ds_brk)
  dss_nil)))))))
  (dss_frz 5 (dss_frz 4 (dss_one (ds_ret (de_tup (da_cons (dv 4) (da_cons (dv 5) da_nil)))))))))))))))

theorem sc_check_heights : FnScope ["points", "facts", "asked", "word", "told"] ["points", "facts", "asked"] (defScope (top 15)) := ⟨rfl, rfl, rfl, by decide +kernel, rfl, by decide +kernel, by decide +kernel⟩
set_option maxHeartbeats 8000000 in
theorem cl_check_heights (T : Tx K mg) (C_check_points : Cl P w K mg base (L2N.CX P w) 1 "check_points" (S_check_points (ads K))) (C_heights_or_ring : Cl P w K mg base (L2N.CX P w) 4 "heights_or_ring" (S_heights_or_ring (ads K))) (X_NoHeights : RFb P w K mg base 1 (ads K).NoHeights "NoHeights" "ring") (run : ∀ (x : (S_check_heights (ads K)).α), (S_check_heights (ads K)).pre x → p_check_heights (ads K) { nx := fun _ => (S_check_heights (ads K)).post x (.ok (.ro .non)), rt := fun r => (S_check_heights (ads K)).post x (.ok r), ex := fun e => (S_check_heights (ads K)).post x (.error e) } (startD ["points", "facts", "asked", "word", "told"] ((S_check_heights (ads K)).args x))) : Cl P w K mg base (L2N.CX P w) 5 "check_heights" (S_check_heights (ads K)) := by
  obtain ⟨fd, F⟩ := T.fn 8 (d := d_check_heights) rfl
  have mf := T.glo 8 (x := "check_heights") rfl
  have nd := sc_check_heights.nd
  have b := F.bindsN (ps := ["points", "facts", "asked"]) fun _ _ _ _ _ _ us hl => match us, hl with | [_, _, _], _ => rfl
  refine ⟨⟨_, fd, ["points", "facts", "asked"], okD (N := ["points", "facts", "asked", "word", "told"]) (p := fun _ => p_check_heights (ads K)) F sc_check_heights (fun _ => rfl) (fun cdv Ar outer s0 H0 E hr => ?_) (fun x _ hx => run x hx), mf, F.kp, b⟩⟩
  have pxR := pxR_of (P := P) (w := w) (K := K) (mg := mg) (base := base) (N := ["points", "facts", "asked", "word", "told"]) (qual := d_check_heights.qual) (scope := d_check_heights.scope) (f := He.fAd K d_check_heights.at_) (cd := cdv) (A := Ar) (outer := outer) (s := s0) (H := H0) (E := E)
  unfold p_check_heights
  exact (dss_cons (ds_expr (de_callC C_check_points (hr.mono (by decide)) pxR (da_cons (dv 0) (da_cons (dv 1) (da_cons (dv 2) da_nil)))))
  (dss_cons (ds_asg (de_callC C_heights_or_ring (hr.mono (by decide)) pxR (da_cons (dv 0) (da_cons (dv 1) da_nil))) (dg_tup rfl (dgs_cons (dg_name 3 nd) (dgs_cons (dg_name 4 nd) dgs_nil)) (gs_len (gs_len (fun _ _ _ => gs_nil_len)))))
  (dss_one (ds_if (dt_cmp op_eq od_eq (dv 3) de_str)
  (dss_one (ds_raiseFC X_NoHeights rfl pxT (hr.mono (by decide)) (da_cons (dv 4) da_nil)))
  dss_nil))))

theorem sc_cheapest_way : FnScope ["points", "facts", "a", "b", "last", "way", "at"] ["points", "facts", "a", "b"] (defScope (top 16)) := ⟨rfl, rfl, rfl, by decide +kernel, rfl, by decide +kernel, by decide +kernel⟩
set_option maxHeartbeats 8000000 in
theorem cl_cheapest_way (T : Tx K mg) (C_check_heights : Cl P w K mg base (L2N.CX P w) 5 "check_heights" (S_check_heights (ads K))) (C_step_parts : Cl P w K mg base CX0 1 "step_parts" (S_step_parts (ads K))) (C_ways_from : Cl P w K mg base CX0 3 "ways_from" (S_ways_from (ads K))) (run : ∀ (x : (S_cheapest_way (ads K)).α), (S_cheapest_way (ads K)).pre x → p_cheapest_way (ads K) { nx := fun _ => (S_cheapest_way (ads K)).post x (.ok (.ro .non)), rt := fun r => (S_cheapest_way (ads K)).post x (.ok r), ex := fun e => (S_cheapest_way (ads K)).post x (.error e) } (startD ["points", "facts", "a", "b", "last", "way", "at"] ((S_cheapest_way (ads K)).args x))) : Cl P w K mg base (L2N.CX P w) 6 "cheapest_way" (S_cheapest_way (ads K)) := by
  obtain ⟨fd, F⟩ := T.fn 9 (d := d_cheapest_way) rfl
  have mf := T.glo 9 (x := "cheapest_way") rfl
  have nd := sc_cheapest_way.nd
  have b := F.bindsN (ps := ["points", "facts", "a", "b"]) fun _ _ _ _ _ _ us hl => match us, hl with | [_, _, _, _], _ => rfl
  refine ⟨⟨_, fd, ["points", "facts", "a", "b"], okD (N := ["points", "facts", "a", "b", "last", "way", "at"]) (p := fun _ => p_cheapest_way (ads K)) F sc_cheapest_way (fun _ => rfl) (fun cdv Ar outer s0 H0 E hr => ?_) (fun x _ hx => run x hx), mf, F.kp, b⟩⟩
  have pxR := pxR_of (P := P) (w := w) (K := K) (mg := mg) (base := base) (N := ["points", "facts", "a", "b", "last", "way", "at"]) (qual := d_cheapest_way.qual) (scope := d_cheapest_way.scope) (f := He.fAd K d_cheapest_way.at_) (cd := cdv) (A := Ar) (outer := outer) (s := s0) (H := H0) (E := E)
  unfold p_cheapest_way
  exact (dss_cons (ds_expr (de_callC C_check_heights (hr.mono (by decide)) pxR (da_cons (dv 0) (da_cons (dv 1) (da_cons (de_lst (da_cons (dv 2) (da_cons (dv 3) da_nil))) da_nil)))))
  (dss_cons (ds_set 4 nd (de_ix (db_of (de_callC C_ways_from (hr.mono (by decide)) px0 (da_cons (dv 0) (da_cons (dv 1) (da_cons (dv 2) da_nil))))) de_int))
  (dss_cons (ds_if (PWd.pt (dw_and (dt_cmp op_ne od_ne (dv 2) (dv 3)) (dw_and1 (dt_cmp op_isN od_isN (de_ix (db 4) (dv 3)) de_non))))
  (dss_one (ds_ret de_non))
  dss_nil)
  (dss_cons (ds_set 5 nd (de_lst da_nil))
  (dss_cons (ds_set 6 nd (dv 3))
  (dss_cons (ds_while pxO (dt_cmp op_ne od_ne (dv 6) (dv 2))
  (dss_cons (ds_app 5 (de_ix (db 4) (dv 6)) (hm := fun _ h => pe_bm PySem.F.plainAttrs_list PySem.F.slot_list_append PySem.F.type_list_append mt_append (pv 5) (pa_cons h pa_nil)))
  (dss_one (ds_set 6 nd (de_ix (db_of (de_callC C_step_parts (hr.mono (by decide)) px0 (da_cons (dv 1) (da_cons (de_ix (db 4) (dv 6)) da_nil)))) de_int)))))
  (dss_one (ds_ret (de_rev (db 5))))))))))

theorem sc_check_fact : FnScope ["ticks", "fact", "good"] ["ticks", "fact"] (defScope (top 26)) := ⟨rfl, rfl, rfl, by decide +kernel, rfl, by decide +kernel, by decide +kernel⟩
set_option maxHeartbeats 8000000 in
theorem cl_check_fact (T : Tx K mg) (run : ∀ (x : (S_check_fact (ads K)).α), (S_check_fact (ads K)).pre x → p_check_fact (ads K) { nx := fun _ => (S_check_fact (ads K)).post x (.ok (.ro .non)), rt := fun r => (S_check_fact (ads K)).post x (.ok r), ex := fun e => (S_check_fact (ads K)).post x (.error e) } (startD ["ticks", "fact", "good"] ((S_check_fact (ads K)).args x))) : Cl P w K mg base (L2N.CX P w) 1 "check_fact" (S_check_fact (ads K)) := by
  obtain ⟨fd, F⟩ := T.fn 15 (d := d_check_fact) rfl
  have mf := T.glo 15 (x := "check_fact") rfl
  have e_BadMeter := T.exc 76 (x := "BadMeter") rfl
  have g_BadMeter := T.glo 58 (x := "BadMeter") rfl
  have nd := sc_check_fact.nd
  have b := F.bindsN (ps := ["ticks", "fact"]) fun _ _ _ _ _ _ us hl => match us, hl with | [_, _], _ => rfl
  refine ⟨⟨_, fd, ["ticks", "fact"], okD (N := ["ticks", "fact", "good"]) (p := fun _ => p_check_fact (ads K)) F sc_check_fact (fun _ => rfl) (fun cdv Ar outer s0 H0 E hr => ?_) (fun x _ hx => run x hx), mf, F.kp, b⟩⟩
  have pxR := pxR_of (P := P) (w := w) (K := K) (mg := mg) (base := base) (N := ["ticks", "fact", "good"]) (qual := d_check_fact.qual) (scope := d_check_fact.scope) (f := He.fAd K d_check_fact.at_) (cd := cdv) (A := Ar) (outer := outer) (s := s0) (H := H0) (E := E)
  unfold p_check_fact
  exact (dss_cons (ds_if (dt_cmp op_eq od_eq (de_ix (db 1) de_int) de_str)
  (dss_one (ds_set 2 nd (de_chain op_le od_le op_le od_le de_int (de_ix (db 1) de_int) (dv 0))))
  (dss_one (ds_set 2 nd (de_chain3 op_le od_le op_lt od_lt op_le od_le de_int (de_ix (db 1) de_int) (de_ix (db 1) de_int) (dv 0)))))
  (dss_one (ds_if (dt_not (dt_val (dv 2)))
  (dss_one (ds_raise rfl pxT (pmk0 e_BadMeter g_BadMeter)))
  dss_nil)))

theorem sc_meter_facts : FnScope ["meter", "facts", "fact", "tick"] ["meter"] (defScope (top 28)) := ⟨rfl, rfl, rfl, by decide +kernel, rfl, by decide +kernel, by decide +kernel⟩
set_option maxHeartbeats 8000000 in
theorem cl_meter_facts (T : Tx K mg) (run : ∀ (x : (S_meter_facts (ads K)).α), (S_meter_facts (ads K)).pre x → p_meter_facts (ads K) { nx := fun _ => (S_meter_facts (ads K)).post x (.ok (.ro .non)), rt := fun r => (S_meter_facts (ads K)).post x (.ok r), ex := fun e => (S_meter_facts (ads K)).post x (.error e) } (startD ["meter", "facts", "fact", "tick"] ((S_meter_facts (ads K)).args x))) : Cl P w K mg base CX0 1 "meter_facts" (S_meter_facts (ads K)) := by
  obtain ⟨fd, F⟩ := T.fn 16 (d := d_meter_facts) rfl
  have mf := T.glo 16 (x := "meter_facts") rfl
  have c_Meter := T.cls 77 (x := "Meter") rfl
  have m_range := T.free 61 (x := "range") rfl
  have n_Meter_facts := T.noat 79 (x := "Meter") (f := "facts") rfl
  have n_Meter_high := T.noat 80 (x := "Meter") (f := "high") rfl
  have n_Meter_low := T.noat 81 (x := "Meter") (f := "low") rfl
  have n_Meter_ticks := T.noat 82 (x := "Meter") (f := "ticks") rfl
  have nd := sc_meter_facts.nd
  have b := F.bindsN (ps := ["meter"]) fun _ _ _ _ _ _ us hl => match us, hl with | [_], _ => rfl
  refine ⟨⟨_, fd, ["meter"], okD (N := ["meter", "facts", "fact", "tick"]) (p := fun _ => p_meter_facts (ads K)) F sc_meter_facts (fun _ => rfl) (fun cdv Ar outer s0 H0 E hr => ?_) (fun x _ hx => run x hx), mf, F.kp, b⟩⟩
  unfold p_meter_facts
  exact (dss_cons (ds_setLc 1 [("tick", 3)] 3 rfl nd (sw_true rfl rfl rfl (by decide +kernel)) (di_rng1 m_range (da_cons (de_fld c_Meter n_Meter_ticks (dv 0)) da_nil)) (by kernel_rfl) (by decide) (fun _ _ _ _ _ => pg_name (i := 3) nd rfl (Or.inl rfl)) (fun _ _ _ _ _ => dts_nil) (fun _ _ _ _ _ => (de_tup (da_cons (dv 3) (da_cons (de_op op_add od_add (dv 3) de_int) (da_cons (de_fld c_Meter n_Meter_low (dv 0)) (da_cons (de_fld c_Meter n_Meter_high (dv 0)) da_nil)))))))
  (dss_cons (ds_for pxO rfl (di_tup (de_fld c_Meter n_Meter_facts (dv 0))) (dg_name 2 nd)
  (dss_one (ds_if (dt_cmp op_eq od_eq (de_ix (db 2) de_int) de_str)
  (dss_one (ds_app 1 (de_tup (da_cons de_int (da_cons (de_ix (db 2) de_int) (da_cons (de_ix (db 2) de_int) (da_cons (de_ix (db 2) de_int) da_nil))))) (hm := fun _ h => pe_bm PySem.F.plainAttrs_list PySem.F.slot_list_append PySem.F.type_list_append mt_append (pv 1) (pa_cons h pa_nil))))
  (dss_one (ds_app 1 (de_tup (da_cons (de_ix (db 2) de_int) (da_cons (de_ix (db 2) de_int) (da_cons (de_ix (db 2) de_int) (da_cons (de_ix (db 2) de_int) da_nil))))) (hm := fun _ h => pe_bm PySem.F.plainAttrs_list PySem.F.slot_list_append PySem.F.type_list_append mt_append (pv 1) (pa_cons h pa_nil)))))))
  (dss_one (ds_retV 1))))

theorem sc_check_width : FnScope ["meter", "width"] ["meter", "width"] (defScope (top 30)) := ⟨rfl, rfl, rfl, by decide +kernel, rfl, by decide +kernel, by decide +kernel⟩
set_option maxHeartbeats 8000000 in
theorem cl_check_width (T : Tx K mg) (run : ∀ (x : (S_check_width (ads K)).α), (S_check_width (ads K)).pre x → p_check_width (ads K) { nx := fun _ => (S_check_width (ads K)).post x (.ok (.ro .non)), rt := fun r => (S_check_width (ads K)).post x (.ok r), ex := fun e => (S_check_width (ads K)).post x (.error e) } (startD ["meter", "width"] ((S_check_width (ads K)).args x))) : Cl P w K mg base (L2N.CX P w) 1 "check_width" (S_check_width (ads K)) := by
  obtain ⟨fd, F⟩ := T.fn 17 (d := d_check_width) rfl
  have mf := T.glo 17 (x := "check_width") rfl
  have c_Meter := T.cls 77 (x := "Meter") rfl
  have e_BadMeter := T.exc 76 (x := "BadMeter") rfl
  have g_BadMeter := T.glo 58 (x := "BadMeter") rfl
  have n_Meter_ticks := T.noat 82 (x := "Meter") (f := "ticks") rfl
  have nd := sc_check_width.nd
  have b := F.bindsN (ps := ["meter", "width"]) fun _ _ _ _ _ _ us hl => match us, hl with | [_, _], _ => rfl
  refine ⟨⟨_, fd, ["meter", "width"], okD (N := ["meter", "width"]) (p := fun _ => p_check_width (ads K)) F sc_check_width (fun _ => rfl) (fun cdv Ar outer s0 H0 E hr => ?_) (fun x _ hx => run x hx), mf, F.kp, b⟩⟩
  have pxR := pxR_of (P := P) (w := w) (K := K) (mg := mg) (base := base) (N := ["meter", "width"]) (qual := d_check_width.qual) (scope := d_check_width.scope) (f := He.fAd K d_check_width.at_) (cd := cdv) (A := Ar) (outer := outer) (s := s0) (H := H0) (E := E)
  unfold p_check_width
  exact (dss_one (ds_if (dt_not (dt_chain op_le od_le op_le od_le de_int (dv 1) (de_fld c_Meter n_Meter_ticks (dv 0))))
  (dss_one (ds_raise rfl pxT (pmk0 e_BadMeter g_BadMeter)))
  dss_nil))

theorem sc_limit_facts : FnScope ["ticks", "width", "most", "shift", "facts", "point"] ["ticks", "width", "most", "shift"] (defScope (top 31)) := ⟨rfl, rfl, rfl, by decide +kernel, rfl, by decide +kernel, by decide +kernel⟩
set_option maxHeartbeats 8000000 in
theorem cl_limit_facts (T : Tx K mg) (run : ∀ (x : (S_limit_facts (ads K)).α), (S_limit_facts (ads K)).pre x → p_limit_facts (ads K) { nx := fun _ => (S_limit_facts (ads K)).post x (.ok (.ro .non)), rt := fun r => (S_limit_facts (ads K)).post x (.ok r), ex := fun e => (S_limit_facts (ads K)).post x (.error e) } (startD ["ticks", "width", "most", "shift", "facts", "point"] ((S_limit_facts (ads K)).args x))) : Cl P w K mg base CX0 1 "limit_facts" (S_limit_facts (ads K)) := by
  obtain ⟨fd, F⟩ := T.fn 18 (d := d_limit_facts) rfl
  have mf := T.glo 18 (x := "limit_facts") rfl
  have m_range := T.free 61 (x := "range") rfl
  have nd := sc_limit_facts.nd
  have b := F.bindsN (ps := ["ticks", "width", "most", "shift"]) fun _ _ _ _ _ _ us hl => match us, hl with | [_, _, _, _], _ => rfl
  refine ⟨⟨_, fd, ["ticks", "width", "most", "shift"], okD (N := ["ticks", "width", "most", "shift", "facts", "point"]) (p := fun _ => p_limit_facts (ads K)) F sc_limit_facts (fun _ => rfl) (fun cdv Ar outer s0 H0 E hr => ?_) (fun x _ hx => run x hx), mf, F.kp, b⟩⟩
  unfold p_limit_facts
  exact (dss_cons (ds_set 4 nd (de_lst da_nil))
  (dss_cons (ds_for pxO rfl (di_rng2 m_range (da_cons (dv 1) (da_cons (de_op op_add od_add (dv 0) de_int) da_nil))) (dg_name 5 nd)
  (dss_one (ds_app 4 (de_tup (da_cons (de_op op_sub od_sub (de_op op_add od_add (dv 3) (dv 5)) (dv 1)) (da_cons (de_op op_add od_add (dv 3) (dv 5)) (da_cons de_non (da_cons (dv 2) da_nil))))) (hm := fun _ h => pe_bm PySem.F.plainAttrs_list PySem.F.slot_list_append PySem.F.type_list_append mt_append (pv 4) (pa_cons h pa_nil)))))
  (dss_one (ds_retV 4))))

end
end Pu
set_option maxHeartbeats 200000
namespace Pu
open PySem PySem.Spec PyProof.Rows L2
/-- _law_cell(script 0, at 1, mixed 2, cell 3) -/
def p__law_cell (A : Ads) : TSd :=
  (pSeq (pIf (pB (pOp dLt (pVar 1) (pB1 dLen (pVarB 0))))
  (pRet (pCB dInt1 (pCons (pIx (pVarB 0) (pVar 1)) pNil)))
  pNext)
  (pSeq (pAsg 2 (pOp dAdd (pC (.int 11)) (pOp dMul (pC (.int 101)) (pVar 1))))
  (pSeq (pFor (qList (pVar 0)) (gN 3)
  (pAsg 2 (pOp dMod (pCB dInt1 (pCons (pOp dAdd (pOp dMul (pVar 2) (pC (.int 31))) (pVar 3)) pNil)) (pC (.int 1000000007)))))
  (pRetV 2))))

/-- _law_draw(script 0, at 1, k 2, size 3, cell 4, mixed 5, rest 6, turn 7) -/
def p__law_draw (A : Ads) : TSd :=
  (pSeq (pAsg 4 (pCall (S__law_cell A) (pCons (pVar 0) (pCons (pVar 1) pNil))))
  (pSeq (pIf (pB (pOp dGe (pVar 4) (pOp dPow (pC (.int 10)) (pC (.int 18)))))
  (pSeq (pAsg 6 (pVar 4))
  (pSeq (pFor (qRng1 (pCons (pVar 2) pNil)) (gN 7)
  (pAsg 6 (pOp dFdiv (pVar 6) (pC (.int 1000003)))))
  (pIf (pB (pOp dGt (pVar 6) (pC (.int 0))))
  (pRet (pOp dMod (pOp dMod (pCB dInt1 (pCons (pVar 6) pNil)) (pC (.int 1000003))) (pVar 3)))
  pNext)))
  pNext)
  (pSeq (pAsg 5 (pOp dMod (pCB dInt1 (pCons (pOp dAdd (pOp dAdd (pVar 4) (pOp dMul (pC (.int 7919)) (pVar 2))) (pC (.int 13))) pNil)) (pC (.int 2147483647))))
  (pSeq (pAsg 5 (pOp dMod (pCB dInt1 (pCons (pOp dMul (pVar 5) (pOp dAdd (pVar 5) (pC (.int 48271)))) pNil)) (pC (.int 2147483629))))
  (pSeq (pAsg 5 (pOp dMod (pCB dInt1 (pCons (pOp dAdd (pOp dMul (pVar 5) (pOp dAdd (pVar 5) (pC (.int 69621)))) (pOp dMul (pC (.int 31)) (pVar 2))) pNil)) (pC (.int 2147483647))))
  (pRet (pOp dMod (pCB dInt1 (pCons (pOp dFdiv (pVar 5) (pC (.int 9))) pNil)) (pVar 3))))))))

/-- _law_is_number(value 0) -/
def p__law_is_number (A : Ads) : TSd :=
  (pRet (pAndV (pIsi D.isInt (pVar 0)) (pNotV (pIsi D.isBool (pVar 0)))))

/-- _law_bounds(script 0, at 1, large 2, bottom 3, choice 4, top 5) -/
def p__law_bounds (A : Ads) : TSd :=
  (pSeq (pAsg 3 (pCall (S__law_draw A) (pCons (pVar 0) (pCons (pVar 1) (pCons (pC (.int 1)) (pCons (pC (.int 1000001)) pNil))))))
  (pSeq (pAsg 4 (pCall (S__law_draw A) (pCons (pVar 0) (pCons (pVar 1) (pCons (pC (.int 2)) (pCons (pC (.int 5)) pNil))))))
  (pSeq (pIf (pB (pVar 2))
  (pSeq (pIf (pB (pOp dLt (pVar 4) (pC (.int 2))))
  (pAsg 3 (pC (.int 0)))
  pNext)
  (pSeq (pAsg 5 (pOp dAdd (pVar 3) (pCall (S__law_draw A) (pCons (pVar 0) (pCons (pVar 1) (pCons (pC (.int 3)) (pCons (pOp dSub (pC (.int 1000001)) (pVar 3)) pNil)))))))
  (pSeq (pIf (pB (pOp dEqq (pVar 4) (pC (.int 2))))
  (pAsg 5 (pC (.int 1000000)))
  pNext)
  (pRet (pTup (pCons (pVar 3) (pCons (pVar 5) pNil)))))))
  pNext)
  (pSeq (pIf (pB (pOp dLt (pVar 4) (pC (.int 2))))
  (pAsg 3 (pC (.int 0)))
  pNext)
  (pSeq (pIf (pB (pOp dEqq (pVar 4) (pC (.int 2))))
  (pAsg 3 (pCall (S__law_draw A) (pCons (pVar 0) (pCons (pVar 1) (pCons (pC (.int 3)) (pCons (pC (.int 4)) pNil))))))
  pNext)
  (pSeq (pAsg 3 (pCB dMin2 (pCons (pVar 3) (pCons (pC (.int 999998)) pNil))))
  (pSeq (pIf (pB (pOp dEqq (pVar 4) (pC (.int 4))))
  (pAsg 3 (pC (.int 999998)))
  pNext)
  (pRet (pTup (pCons (pVar 3) (pCons (pOp dAdd (pVar 3) (pIx (pLst (pCons (pC (.int 0)) (pCons (pC (.int 1)) (pCons (pC (.int 1)) (pCons (pC (.int 2)) (pCons (pC (.int 2)) (pCons (pC (.int 2)) pNil))))))) (pCall (S__law_draw A) (pCons (pVar 0) (pCons (pVar 1) (pCons (pC (.int 4)) (pCons (pC (.int 6)) pNil))))))) pNil)))))))))))

/-- _law_truth(script 0, at 1, length 2, bounds 3, readings 4, t 5) -/
def p__law_truth (A : Ads) : TSd :=
  (pSeq (pAsg 4 (pLst (pCons (pC (.int 0)) pNil)))
  (pSeq (pFor (qRng1 (pCons (pVar 2) pNil)) (gN 5)
  (pApp 4 (pOp dAdd (pOp dAdd (pIx (pVarB 4) (pNeg (pC (.int 1)))) (pIx (pVarB 3) (pC (.int 0)))) (pCall (S__law_draw A) (pCons (pVar 0) (pCons (pVar 1) (pCons (pVar 5) (pCons (pOp dAdd (pOp dSub (pIx (pVarB 3) (pC (.int 1))) (pIx (pVarB 3) (pC (.int 0)))) (pC (.int 1))) pNil))))))))
  (pRetV 4)))

/-- _law_fact(script 0, at 1, k 2, truth 3, last 4, a 5, b 6, kind 7, low 8, high 9) -/
def p__law_fact (A : Ads) : TSd :=
  (pSeq (pAsg 4 (pOp dSub (pB1 dLen (pVarB 3)) (pC (.int 1))))
  (pSeq (pAsg 5 (pCall (S__law_draw A) (pCons (pVar 0) (pCons (pVar 1) (pCons (pVar 2) (pCons (pVar 4) pNil))))))
  (pSeq (pAsg 6 (pOp dAdd (pOp dAdd (pVar 5) (pC (.int 1))) (pCall (S__law_draw A) (pCons (pVar 0) (pCons (pVar 1) (pCons (pOp dAdd (pVar 2) (pC (.int 1))) (pCons (pOp dSub (pVar 4) (pVar 5)) pNil)))))))
  (pSeq (pAsg 7 (pCall (S__law_draw A) (pCons (pVar 0) (pCons (pVar 1) (pCons (pOp dAdd (pVar 2) (pC (.int 2))) (pCons (pC (.int 6)) pNil))))))
  (pSeq (pIf (pB (pOp dLt (pVar 7) (pC (.int 2))))
  (pRet (pTup (pCons (pC (.str "read")) (pCons (pVar 6) (pCons (pIx (pVarB 3) (pVar 6)) pNil)))))
  pNext)
  (pSeq (pAsg 8 (pOp dSub (pOp dSub (pIx (pVarB 3) (pVar 6)) (pIx (pVarB 3) (pVar 5))) (pCall (S__law_draw A) (pCons (pVar 0) (pCons (pVar 1) (pCons (pOp dAdd (pVar 2) (pC (.int 3))) (pCons (pC (.int 3)) pNil)))))))
  (pSeq (pAsg 9 (pOp dAdd (pOp dSub (pIx (pVarB 3) (pVar 6)) (pIx (pVarB 3) (pVar 5))) (pCall (S__law_draw A) (pCons (pVar 0) (pCons (pVar 1) (pCons (pOp dAdd (pVar 2) (pC (.int 4))) (pCons (pC (.int 3)) pNil)))))))
  (pSeq (pIf (pB (pOp dEqq (pVar 7) (pC (.int 2))))
  (pAsg 8 (pNeg (pC (.int 999999999999))))
  pNext)
  (pSeq (pIf (pB (pOp dEqq (pVar 7) (pC (.int 3))))
  (pAsg 9 (pC (.int 999999999999)))
  pNext)
  (pRet (pTup (pCons (pC (.str "grew")) (pCons (pVar 5) (pCons (pVar 6) (pCons (pVar 8) (pCons (pVar 9) pNil))))))))))))))))

/-- _law_wrong_fact(script 0, at 1, truth 2, last 3, a 4, b 5, value 6, kind 7, move 8) -/
def p__law_wrong_fact (A : Ads) : TSd :=
  (pSeq (pAsg 3 (pOp dSub (pB1 dLen (pVarB 2)) (pC (.int 1))))
  (pSeq (pAsg 4 (pCall (S__law_draw A) (pCons (pVar 0) (pCons (pVar 1) (pCons (pC (.int 1)) (pCons (pVar 3) pNil))))))
  (pSeq (pAsg 5 (pOp dAdd (pOp dAdd (pVar 4) (pC (.int 1))) (pCall (S__law_draw A) (pCons (pVar 0) (pCons (pVar 1) (pCons (pC (.int 2)) (pCons (pOp dSub (pVar 3) (pVar 4)) pNil)))))))
  (pSeq (pAsg 6 (pOp dSub (pIx (pVarB 2) (pVar 5)) (pIx (pVarB 2) (pVar 4))))
  (pSeq (pAsg 7 (pCall (S__law_draw A) (pCons (pVar 0) (pCons (pVar 1) (pCons (pC (.int 3)) (pCons (pC (.int 8)) pNil))))))
  (pSeq (pAsg 8 (pOp dAdd (pC (.int 1)) (pCall (S__law_draw A) (pCons (pVar 0) (pCons (pVar 1) (pCons (pC (.int 4)) (pCons (pC (.int 2)) pNil)))))))
  (pSeq (pIf (pB (pOp dEqq (pVar 7) (pC (.int 0))))
  (pRet (pTup (pCons (pC (.str "grew")) (pCons (pVar 4) (pCons (pVar 5) (pCons (pOp dAdd (pVar 6) (pC (.int 1))) (pCons (pVar 6) pNil)))))))
  pNext)
  (pSeq (pIf (pB (pOp dEqq (pVar 7) (pC (.int 1))))
  (pRet (pTup (pCons (pC (.str "read")) (pCons (pVar 5) (pCons (pNeg (pVar 8)) pNil)))))
  pNext)
  (pSeq (pIf (pB (pOp dEqq (pVar 7) (pC (.int 2))))
  (pRet (pTup (pCons (pC (.str "read")) (pCons (pVar 5) (pCons (pC (.int 999999999999)) pNil)))))
  pNext)
  (pSeq (pIf (pB (pOp dEqq (pVar 7) (pC (.int 3))))
  (pRet (pTup (pCons (pC (.str "grew")) (pCons (pVar 4) (pCons (pVar 5) (pCons (pNeg (pC (.int 999999999999))) (pCons (pNeg (pC (.int 999999999998))) pNil)))))))
  pNext)
  (pSeq (pIf (pB (pOp dEqq (pVar 7) (pC (.int 4))))
  (pRet (pTup (pCons (pC (.str "read")) (pCons (pVar 5) (pCons (pOp dAdd (pIx (pVarB 2) (pVar 5)) (pVar 8)) pNil)))))
  pNext)
  (pSeq (pIf (pB (pOp dEqq (pVar 7) (pC (.int 5))))
  (pRet (pTup (pCons (pC (.str "read")) (pCons (pVar 5) (pCons (pOp dSub (pIx (pVarB 2) (pVar 5)) (pVar 8)) pNil)))))
  pNext)
  (pSeq (pIf (pB (pOp dEqq (pVar 7) (pC (.int 6))))
  (pRet (pTup (pCons (pC (.str "grew")) (pCons (pVar 4) (pCons (pVar 5) (pCons (pOp dAdd (pVar 6) (pVar 8)) (pCons (pOp dAdd (pOp dAdd (pVar 6) (pVar 8)) (pC (.int 1))) pNil)))))))
  pNext)
  (pRet (pTup (pCons (pC (.str "grew")) (pCons (pVar 4) (pCons (pVar 5) (pCons (pOp dSub (pOp dSub (pVar 6) (pVar 8)) (pC (.int 1))) (pCons (pOp dSub (pVar 6) (pVar 8)) pNil))))))))))))))))))))

/-- _law_facts(script 0, at 1, count 2, wrong 3, truth 4, facts 5, k 6) -/
def p__law_facts (A : Ads) : TSd :=
  (pSeq (pAsg 5 (pLst pNil))
  (pSeq (pFor (qRng1 (pCons (pVar 2) pNil)) (gN 6)
  (pIf (pB (pOp dEqq (pVar 6) (pVar 3)))
  (pApp 5 (pCall (S__law_wrong_fact A) (pCons (pVar 0) (pCons (pVar 1) (pCons (pVar 4) pNil)))))
  (pApp 5 (pCall (S__law_fact A) (pCons (pVar 0) (pCons (pOp dAdd (pOp dAdd (pVar 1) (pC (.int 1))) (pOp dMod (pCB dInt1 (pCons (pVar 6) pNil)) (pC (.int 20)))) (pCons (pOp dMul (pC (.int 8)) (pOp dFdiv (pVar 6) (pC (.int 20)))) (pCons (pVar 4) pNil))))))))
  (pRetV 5)))

/-- _law_rules(length 0, bounds 1, facts 2, rules 3, fact 4, t 5) -/
def p__law_rules (A : Ads) : TSd :=
  (pSeq (pAsg 3 (pLc (qRng1 (pCons (pVar 0) pNil)) 5 [5] tY (pTup (pCons (pVar 5) (pCons (pOp dAdd (pVar 5) (pC (.int 1))) (pCons (pIx (pVarB 1) (pC (.int 0))) (pCons (pIx (pVarB 1) (pC (.int 1))) pNil)))))))
  (pSeq (pFor (qList (pVar 2)) (gN 4)
  (pIf (pB (pOp dEqq (pIx (pVarB 4) (pC (.int 0))) (pC (.str "read"))))
  (pApp 3 (pTup (pCons (pC (.int 0)) (pCons (pIx (pVarB 4) (pC (.int 1))) (pCons (pIx (pVarB 4) (pC (.int 2))) (pCons (pIx (pVarB 4) (pC (.int 2))) pNil))))))
  (pApp 3 (pTup (pCons (pIx (pVarB 4) (pC (.int 1))) (pCons (pIx (pVarB 4) (pC (.int 2))) (pCons (pIx (pVarB 4) (pC (.int 3))) (pCons (pIx (pVarB 4) (pC (.int 4))) pNil))))))))
  (pRetV 3)))

/-- _law_readings(length 0, bounds 1, due 2, rows 3, t 4, asked 5, grown 6, row 7, step 8, rule 9, longer 10, good 11) -/
def p__law_readings (A : Ads) : TSd :=
  (pSeq (pAsg 3 (pLst (pCons (pLst (pCons (pC (.int 0)) pNil)) pNil)))
  (pFrz 3 (pFrz 10 (pFrz 5 (pSeq (pFor (qRng2 (pCons (pC (.int 1)) (pCons (pOp dAdd (pVar 0) (pC (.int 1))) pNil))) (gN 4)
  (pSeq (pAsg 5 (pLc (qList (pSlL (pVarB 2) (pOS (pVar 0)) pON)) 9 [9] (pB (pOp dEqq (pIx (pVarB 9) (pC (.int 1))) (pVar 4))) (pVar 9)))
  (pSeq (pAsg 6 (pLst pNil))
  (pFrz 3 (pFrz 10 (pFrz 5 (pSeq (pFor (qList (pVar 3)) (gN 7)
  (pFrz 10 (pFrz 5 (pFor (qRng2 (pCons (pIx (pVarB 1) (pC (.int 0))) (pCons (pOp dAdd (pIx (pVarB 1) (pC (.int 1))) (pC (.int 1))) pNil))) (gN 8)
  (pSeq (pAsg 10 (pOp dCat (pVar 7) (pLst (pCons (pOp dAdd (pIx (pVarB 7) (pNeg (pC (.int 1)))) (pVar 8)) pNil))))
  (pSeq (pAsg 11 (pC (.bl true)))
  (pFrz 5 (pSeq (pFor (qList (pVar 5)) (gN 9)
  (pIf (pAnd (pB (pVar 11)) (pNot (pB (pChain dLe dLe (pIx (pVarB 9) (pC (.int 2))) (pOp dSub (pIx (pVarB 10) (pVar 4)) (pIx (pVarB 10) (pIx (pVarB 9) (pC (.int 0))))) (pIx (pVarB 9) (pC (.int 3)))))))
  (pAsg 11 (pC (.bl false)))
  pNext))
  (pFrz 10 (pIf (pB (pVar 11))
  (pFrz 10 (pApp 6 (pVar 10)))
  pNext))))))))))
  (pAsg 3 (pB1 dList (pVarB 6))))))))))
  (pRetV 3))))))

/-- _law_relaxed(costs 0, rules 1, turn 2, changed 3, rule 4, a 5, b 6) -/
def p__law_relaxed (A : Ads) : TSd :=
  (pSeq (pAsg 0 (pB1 dList (pVarB 0)))
  (pSeq (pFor (qRng1 (pCons (pOp dAdd (pB1 dLen (pVarB 0)) (pC (.int 1))) pNil)) (gN 2)
  (pSeq (pAsg 3 (pC (.bl false)))
  (pSeq (pFor (qList (pVar 1)) (gN 4)
  (pSeq (pAsg 5 (pIx (pVarB 4) (pC (.int 0))))
  (pSeq (pAsg 6 (pIx (pVarB 4) (pC (.int 1))))
  (pSeq (pIf (pAnd (pB (pOp (dIsN true) (pIx (pVarB 4) (pC (.int 3))) (pC .non))) (pB (pOp (dIsN true) (pIx (pVarB 0) (pVar 5)) (pC .non))))
  (pIf (pOr (pB (pOp (dIsN false) (pIx (pVarB 0) (pVar 6)) (pC .non))) (pB (pOp dLt (pOp dAdd (pIx (pVarB 0) (pVar 5)) (pIx (pVarB 4) (pC (.int 3)))) (pIx (pVarB 0) (pVar 6)))))
  (pSeq (pSetI 0 (pVar 6) (pOp dAdd (pIx (pVarB 0) (pVar 5)) (pIx (pVarB 4) (pC (.int 3)))))
  (pAsg 3 (pC (.bl true))))
  pNext)
  pNext)
  (pIf (pAnd (pB (pOp (dIsN true) (pIx (pVarB 4) (pC (.int 2))) (pC .non))) (pB (pOp (dIsN true) (pIx (pVarB 0) (pVar 6)) (pC .non))))
  (pIf (pOr (pB (pOp (dIsN false) (pIx (pVarB 0) (pVar 5)) (pC .non))) (pB (pOp dLt (pOp dSub (pIx (pVarB 0) (pVar 6)) (pIx (pVarB 4) (pC (.int 2)))) (pIx (pVarB 0) (pVar 5)))))
  (pSeq (pSetI 0 (pVar 5) (pOp dSub (pIx (pVarB 0) (pVar 6)) (pIx (pVarB 4) (pC (.int 2)))))
  (pAsg 3 (pC (.bl true))))
  pNext)
  pNext)))))
  (pIf (pNot (pB (pVar 3)))
  (pRetV 0)
  pNext))))
  (pRet (pC .non))))

/-- _law_steps(told 0, rules 1, steps 2, step 3, starts 4, k 5, rule 6) -/
def p__law_steps (A : Ads) : TSd :=
  (pSeq (pIf (pNot (pB (pIsi D.isList (pVar 0))))
  (pRet (pC .non))
  pNext)
  (pSeq (pAsg 2 (pLst pNil))
  (pSeq (pFor (qList (pVar 0)) (gN 3)
  (pSeq (pIf (pOr (pNot (pB (pIsi D.isTup (pVar 3)))) (pOr (pB (pOp dNe (pB1 dLen (pVarB 3)) (pC (.int 2)))) (pNot (pB (pIsi D.isStr (pIx (pVarB 3) (pC (.int 1))))))))
  (pRet (pC .non))
  pNext)
  (pSeq (pIf (pOr (pNot (pB (pCall (S__law_is_number A) (pCons (pIx (pVarB 3) (pC (.int 0))) pNil)))) (pNot (pB (pChain dLe dLt (pC (.int 0)) (pIx (pVarB 3) (pC (.int 0))) (pB1 dLen (pVarB 1))))))
  (pRet (pC .non))
  pNext)
  (pSeq (pAsg 6 (pIx (pVarB 1) (pIx (pVarB 3) (pC (.int 0)))))
  (pIf (pAnd (pB (pOp dEqq (pIx (pVarB 3) (pC (.int 1))) (pC (.str "high")))) (pB (pOp (dIsN true) (pIx (pVarB 6) (pC (.int 3))) (pC .non))))
  (pApp 2 (pTup (pCons (pIx (pVarB 6) (pC (.int 0))) (pCons (pIx (pVarB 6) (pC (.int 1))) (pCons (pIx (pVarB 6) (pC (.int 3))) pNil)))))
  (pIf (pAnd (pB (pOp dEqq (pIx (pVarB 3) (pC (.int 1))) (pC (.str "low")))) (pB (pOp (dIsN true) (pIx (pVarB 6) (pC (.int 2))) (pC .non))))
  (pApp 2 (pTup (pCons (pIx (pVarB 6) (pC (.int 1))) (pCons (pIx (pVarB 6) (pC (.int 0))) (pCons (pNeg (pIx (pVarB 6) (pC (.int 2)))) pNil)))))
  (pRet (pC .non))))))))
  (pSeq (pAsg 4 (pLst pNil))
  (pSeq (pFor (qRng1 (pCons (pB1 dLen (pVarB 2)) pNil)) (gN 5)
  (pSeq (pIf (pOr (pB (pOp (dInI false) (pIx (pIx (pVarB 2) (pVar 5)) (pC (.int 0))) (pVarB 4))) (pAnd (pB (pOp dGt (pVar 5) (pC (.int 0)))) (pB (pOp dNe (pIx (pIx (pVarB 2) (pVar 5)) (pC (.int 0))) (pIx (pIx (pVarB 2) (pOp dSub (pVar 5) (pC (.int 1)))) (pC (.int 1)))))))
  (pRet (pC .non))
  pNext)
  (pApp 4 (pIx (pIx (pVarB 2) (pVar 5)) (pC (.int 0))))))
  (pRetV 2))))))

/-- _law_is_low_ring(told 0, rules 1, steps 2, step 3) -/
def p__law_is_low_ring (A : Ads) : TSd :=
  (pSeq (pAsg 2 (pCall (S__law_steps A) (pCons (pVar 0) (pCons (pVar 1) pNil))))
  (pFrz 2 (pSeq (pIf (pOr (pB (pOp (dIsN false) (pVar 2) (pC .non))) (pB (pOp (dEqN false) (pVar 2) (pLst pNil))))
  (pRet (pC (.bl false)))
  pNext)
  (pFrz 2 (pRet (pAndV (pOp dEqq (pIx (pIx (pVarB 2) (pNeg (pC (.int 1)))) (pC (.int 1))) (pIx (pIx (pVarB 2) (pC (.int 0))) (pC (.int 0)))) (pOp dLt (pB1 dSum (pLc (qList (pVar 2)) 3 [3] tY (pIx (pVarB 3) (pC (.int 2))))) (pC (.int 0)))))))))

/-- _law_is_way(told 0, rules 1, a 2, b 3, most 4, steps 5, step 6) -/
def p__law_is_way (A : Ads) : TSd :=
  (pSeq (pAsg 5 (pCall (S__law_steps A) (pCons (pVar 0) (pCons (pVar 1) pNil))))
  (pFrz 5 (pSeq (pIf (pOr (pB (pOp (dIsN false) (pVar 5) (pC .non))) (pB (pOp (dEqN false) (pVar 5) (pLst pNil))))
  (pRet (pC (.bl false)))
  pNext)
  (pFrz 5 (pSeq (pIf (pOr (pB (pOp dNe (pIx (pIx (pVarB 5) (pC (.int 0))) (pC (.int 0))) (pVar 2))) (pOr (pB (pOp dNe (pIx (pIx (pVarB 5) (pNeg (pC (.int 1)))) (pC (.int 1))) (pVar 3))) (pB (pOp (dInI false) (pVar 3) (pLc (qList (pVar 5)) 6 [6] tY (pIx (pVarB 6) (pC (.int 0))))))))
  (pRet (pC (.bl false)))
  pNext)
  (pFrz 5 (pRet (pOp dLe (pB1 dSum (pLc (qList (pVar 5)) 6 [6] tY (pIx (pVarB 6) (pC (.int 2))))) (pVar 4)))))))))

/-- _law_budget(script 0, at 1, truth 2, bounds 3, last 4, width 5, most 6, kind 7, t 8) -/
def p__law_budget (A : Ads) : TSd :=
  (pSeq (pAsg 4 (pOp dSub (pB1 dLen (pVarB 2)) (pC (.int 1))))
  (pSeq (pAsg 5 (pOp dAdd (pC (.int 1)) (pCall (S__law_draw A) (pCons (pVar 0) (pCons (pVar 1) (pCons (pC (.int 0)) (pCons (pVar 4) pNil)))))))
  (pSeq (pAsg 6 (pOp dSub (pOp dAdd (pB1 dMax (pLc (qRng2 (pCons (pVar 5) (pCons (pOp dAdd (pVar 4) (pC (.int 1))) pNil))) 8 [8] tY (pCB dInt1 (pCons (pOp dSub (pIx (pVarB 2) (pVar 8)) (pIx (pVarB 2) (pOp dSub (pVar 8) (pVar 5)))) pNil)))) (pCall (S__law_draw A) (pCons (pVar 0) (pCons (pVar 1) (pCons (pC (.int 2)) (pCons (pC (.int 3)) pNil)))))) (pC (.int 1))))
  (pSeq (pAsg 7 (pCall (S__law_draw A) (pCons (pVar 0) (pCons (pVar 1) (pCons (pC (.int 3)) (pCons (pC (.int 8)) pNil))))))
  (pSeq (pIf (pB (pOp dEqq (pVar 7) (pC (.int 0))))
  (pAsg 6 (pOp dSub (pOp dMul (pIx (pVarB 3) (pC (.int 0))) (pVar 5)) (pCall (S__law_draw A) (pCons (pVar 0) (pCons (pVar 1) (pCons (pC (.int 2)) (pCons (pC (.int 2)) pNil)))))))
  pNext)
  (pSeq (pIf (pB (pOp dEqq (pVar 7) (pC (.int 1))))
  (pAsg 6 (pOp dSub (pOp dMul (pIx (pVarB 3) (pC (.int 1))) (pVar 5)) (pCall (S__law_draw A) (pCons (pVar 0) (pCons (pVar 1) (pCons (pC (.int 2)) (pCons (pC (.int 2)) pNil)))))))
  pNext)
  (pSeq (pIf (pB (pOp dEqq (pVar 7) (pC (.int 2))))
  (pAsg 6 (pIx (pLst (pCons (pNeg (pC (.int 1))) (pCons (pNeg (pC (.int 999999999999))) (pCons (pC (.int 999999999999)) pNil)))) (pCall (S__law_draw A) (pCons (pVar 0) (pCons (pVar 1) (pCons (pC (.int 2)) (pCons (pC (.int 3)) pNil)))))))
  pNext)
  (pRet (pTup (pCons (pVar 5) (pCons (pVar 6) pNil)))))))))))

/-- _law_tied_budget(script 0, at 1, truth 2, last 3, width 4) -/
def p__law_tied_budget (A : Ads) : TSd :=
  (pSeq (pAsg 3 (pOp dSub (pB1 dLen (pVarB 2)) (pC (.int 1))))
  (pSeq (pAsg 4 (pC (.int 1)))
  (pSeq (pIf (pAnd (pB (pOp dEqq (pVar 3) (pOp dMul (pC (.int 2)) (pOp dFdiv (pVar 3) (pC (.int 2)))))) (pB (pOp dEqq (pCall (S__law_draw A) (pCons (pVar 0) (pCons (pVar 1) (pCons (pC (.int 4)) (pCons (pC (.int 2)) pNil))))) (pC (.int 0)))))
  (pAsg 4 (pOp dFdiv (pVar 3) (pC (.int 2))))
  pNext)
  (pRet (pTup (pCons (pVar 4) (pCons (pOp dFdiv (pOp dSub (pIx (pVarB 2) (pVar 3)) (pC (.int 1))) (pOp dFdiv (pVar 3) (pVar 4))) pNil)))))))

/-- _law_over(row 0, width 1, most 2, t 3) -/
def p__law_over (A : Ads) : TSd :=
  (pRet (pOp dGt (pB1 dLen (pLc (qRng2 (pCons (pVar 1) (pCons (pB1 dLen (pVarB 0)) pNil))) 3 [3] (pB (pOp dGt (pOp dSub (pIx (pVarB 0) (pVar 3)) (pIx (pVarB 0) (pOp dSub (pVar 3) (pVar 1)))) (pVar 2))) (pVar 3))) (pC (.int 0))))

/-- _law_limits(shift 0, last 1, width 2, most 3, t 4) -/
def p__law_limits (A : Ads) : TSd :=
  (pRet (pLc (qRng2 (pCons (pVar 2) (pCons (pOp dAdd (pVar 1) (pC (.int 1))) pNil))) 4 [4] tY (pTup (pCons (pOp dSub (pOp dAdd (pVar 0) (pVar 4)) (pVar 2)) (pCons (pOp dAdd (pVar 0) (pVar 4)) (pCons (pC .non) (pCons (pVar 3) pNil)))))))

/-- _law_is_run(told 0, due 1, last 2, rule 3, value 4) -/
def p__law_is_run (A : Ads) : TSd :=
  (pSeq (pIf (pOr (pNot (pB (pIsi D.isList (pVar 0)))) (pB (pOp dNe (pB1 dLen (pVarB 0)) (pOp dAdd (pVar 2) (pC (.int 1))))))
  (pRet (pC (.bl false)))
  pNext)
  (pSeq (pIf (pOr (pB (pOp dGt (pB1 dLen (pLc (qList (pVar 0)) 4 [4] (pNot (pB (pCall (S__law_is_number A) (pCons (pVar 4) pNil)))) (pVar 4))) (pC (.int 0)))) (pB (pOp dNe (pIx (pVarB 0) (pC (.int 0))) (pC (.int 0)))))
  (pRet (pC (.bl false)))
  pNext)
  (pSeq (pFor (qList (pVar 1)) (gN 3)
  (pIf (pNot (pB (pChain dLe dLe (pIx (pVarB 3) (pC (.int 2))) (pOp dSub (pIx (pVarB 0) (pIx (pVarB 3) (pC (.int 1)))) (pIx (pVarB 0) (pIx (pVarB 3) (pC (.int 0))))) (pIx (pVarB 3) (pC (.int 3))))))
  (pRet (pC (.bl false)))
  pNext))
  (pRet (pC (.bl true))))))

/-- _law_word(over 0, many 1) -/
def p__law_word (A : Ads) : TSd :=
  (pSeq (pIf (pB (pOp dEqq (pVar 0) (pVar 1)))
  (pRet (pC (.str "yes")))
  pNext)
  (pSeq (pIf (pB (pOp dEqq (pVar 0) (pC (.int 0))))
  (pRet (pC (.str "no")))
  pNext)
  (pRet (pC (.str "open")))))

/-- _law_listed(rows 0, width 1, most 2, states 3, t 4, row 5) -/
def p__law_listed (A : Ads) : TSd :=
  (pSeq (pAsg 3 (pLst pNil))
  (pSeq (pFor (qRng2 (pCons (pVar 1) (pCons (pB1 dLen (pIx (pVarB 0) (pC (.int 0)))) pNil))) (gN 4)
  (pApp 3 (pCall (S__law_word A) (pCons (pB1 dLen (pLc (qList (pVar 0)) 5 [5] (pB (pOp dGt (pOp dSub (pIx (pVarB 5) (pVar 4)) (pIx (pVarB 5) (pOp dSub (pVar 4) (pVar 1)))) (pVar 2))) (pVar 5))) (pCons (pB1 dLen (pVarB 0)) pNil)))))
  (pFrz 3 (pRet (pTup (pCons (pVar 3) (pCons (pCall (S__law_word A) (pCons (pB1 dLen (pLc (qList (pVar 0)) 5 [5] (pB (pCall (S__law_over A) (pCons (pVar 5) (pCons (pVar 1) (pCons (pVar 2) pNil))))) (pVar 5))) (pCons (pB1 dLen (pVarB 0)) pNil))) pNil)))))))

/-- _law_reckoned(table 0, due 1, width 2, most 3, last 4, states 5, t 6) -/
def p__law_reckoned (A : Ads) : TSd :=
  (pSeq (pAsg 4 (pOp dSub (pB1 dLen (pVarB 0)) (pC (.int 1))))
  (pSeq (pAsg 5 (pLst pNil))
  (pSeq (pFor (qRng2 (pCons (pVar 2) (pCons (pOp dAdd (pVar 4) (pC (.int 1))) pNil))) (gN 6)
  (pIf (pB (pOp dGt (pNeg (pIx (pIx (pVarB 0) (pVar 6)) (pOp dSub (pVar 6) (pVar 2)))) (pVar 3)))
  (pApp 5 (pC (.str "yes")))
  (pIf (pB (pOp dLe (pIx (pIx (pVarB 0) (pOp dSub (pVar 6) (pVar 2))) (pVar 6)) (pVar 3)))
  (pApp 5 (pC (.str "no")))
  (pApp 5 (pC (.str "open"))))))
  (pFrz 5 (pSeq (pIf (pB (pOp (dIsN false) (pCall (S__law_relaxed A) (pCons (pOp dRep (pLst (pCons (pC (.int 0)) pNil)) (pOp dAdd (pVar 4) (pC (.int 1)))) (pCons (pOp dCat (pVar 1) (pCall (S__law_limits A) (pCons (pC (.int 0)) (pCons (pVar 4) (pCons (pVar 2) (pCons (pVar 3) pNil)))))) pNil))) (pC .non)))
  (pFrz 5 (pRet (pTup (pCons (pVar 5) (pCons (pC (.str "yes")) pNil)))))
  pNext)
  (pFrz 5 (pSeq (pIf (pB (pOp dEqq (pB1 dLen (pLc (qRng2 (pCons (pVar 2) (pCons (pOp dAdd (pVar 4) (pC (.int 1))) pNil))) 6 [6] (pB (pOp dGt (pIx (pIx (pVarB 0) (pOp dSub (pVar 6) (pVar 2))) (pVar 6)) (pVar 3))) (pVar 6))) (pC (.int 0))))
  (pFrz 5 (pRet (pTup (pCons (pVar 5) (pCons (pC (.str "no")) pNil)))))
  pNext)
  (pFrz 5 (pRet (pTup (pCons (pVar 5) (pCons (pC (.str "open")) pNil))))))))))))

/-- _law_shown(told 0, word 1, due 2, last 3, width 4, most 5, k 6) -/
def p__law_shown (A : Ads) : TSd :=
  (pSeq (pIf (pOr (pNot (pB (pIsi D.isTup (pVar 0)))) (pOr (pB (pOp dLt (pB1 dLen (pVarB 0)) (pC (.int 2)))) (pOr (pNot (pB (pIsi D.isStr (pIx (pVarB 0) (pC (.int 0)))))) (pB (pOp dNe (pIx (pVarB 0) (pC (.int 0))) (pVar 1))))))
  (pRet (pC (.bl false)))
  pNext)
  (pSeq (pIf (pB (pOp dEqq (pVar 1) (pC (.str "yes"))))
  (pRet (pAndV (pOp dEqq (pB1 dLen (pVarB 0)) (pC (.int 2))) (pCall (S__law_is_low_ring A) (pCons (pIx (pVarB 0) (pC (.int 1))) (pCons (pOp dCat (pVar 2) (pCall (S__law_limits A) (pCons (pC (.int 0)) (pCons (pVar 3) (pCons (pVar 4) (pCons (pVar 5) pNil)))))) pNil)))))
  pNext)
  (pSeq (pIf (pB (pOp dEqq (pVar 1) (pC (.str "no"))))
  (pSeq (pIf (pOr (pB (pOp dNe (pB1 dLen (pVarB 0)) (pC (.int 2)))) (pOr (pNot (pB (pIsi D.isList (pIx (pVarB 0) (pC (.int 1)))))) (pB (pOp dNe (pB1 dLen (pIx (pVarB 0) (pC (.int 1)))) (pOp dAdd (pOp dSub (pVar 3) (pVar 4)) (pC (.int 1)))))))
  (pRet (pC (.bl false)))
  pNext)
  (pSeq (pFor (qRng1 (pCons (pB1 dLen (pIx (pVarB 0) (pC (.int 1)))) pNil)) (gN 6)
  (pIf (pNot (pB (pCall (S__law_is_way A) (pCons (pIx (pIx (pVarB 0) (pC (.int 1))) (pVar 6)) (pCons (pVar 2) (pCons (pVar 6) (pCons (pOp dAdd (pVar 6) (pVar 4)) (pCons (pVar 5) pNil))))))))
  (pRet (pC (.bl false)))
  pNext))
  (pRet (pC (.bl true)))))
  pNext)
  (pSeq (pIf (pOr (pB (pOp dNe (pB1 dLen (pVarB 0)) (pC (.int 3)))) (pOr (pNot (pB (pCall (S__law_is_run A) (pCons (pIx (pVarB 0) (pC (.int 1))) (pCons (pVar 2) (pCons (pVar 3) pNil)))))) (pNot (pB (pCall (S__law_is_run A) (pCons (pIx (pVarB 0) (pC (.int 2))) (pCons (pVar 2) (pCons (pVar 3) pNil))))))))
  (pRet (pC (.bl false)))
  pNext)
  (pRet (pAndV (pCall (S__law_over A) (pCons (pIx (pVarB 0) (pC (.int 1))) (pCons (pVar 4) (pCons (pVar 5) pNil)))) (pNotV (pCall (S__law_over A) (pCons (pIx (pVarB 0) (pC (.int 2))) (pCons (pVar 4) (pCons (pVar 5) pNil)))))))))))

end Pu
set_option maxHeartbeats 4000000
namespace Pu
open PySem PySem.Spec PyProof.Rows L2
section
variable {P : Program} {w : World} {K : PySem.W.Frag} {mg : Str → Option Value} {base : Heap}
theorem sc__law_cell : FnScope ["script", "at", "mixed", "cell"] ["script", "at"] (defScope (top 35)) := ⟨rfl, rfl, rfl, by decide +kernel, rfl, by decide +kernel, by decide +kernel⟩
set_option maxHeartbeats 8000000 in
theorem cl__law_cell (T : Tx K mg) (run : ∀ (x : (S__law_cell (ads K)).α), (S__law_cell (ads K)).pre x → p__law_cell (ads K) { nx := fun _ => (S__law_cell (ads K)).post x (.ok (.ro .non)), rt := fun r => (S__law_cell (ads K)).post x (.ok r), ex := fun e => (S__law_cell (ads K)).post x (.error e) } (startD ["script", "at", "mixed", "cell"] ((S__law_cell (ads K)).args x))) : Cl P w K mg base CX0 1 "_law_cell" (S__law_cell (ads K)) := by
  obtain ⟨fd, F⟩ := T.fn 21 (d := d__law_cell) rfl
  have mf := T.glo 21 (x := "_law_cell") rfl
  have m_int := T.free 63 (x := "int") rfl
  have m_len := T.free 60 (x := "len") rfl
  have nd := sc__law_cell.nd
  have b := F.bindsN (ps := ["script", "at"]) fun _ _ _ _ _ _ us hl => match us, hl with | [_, _], _ => rfl
  refine ⟨⟨_, fd, ["script", "at"], okD (N := ["script", "at", "mixed", "cell"]) (p := fun _ => p__law_cell (ads K)) F sc__law_cell (fun _ => rfl) (fun cdv Ar outer s0 H0 E hr => ?_) (fun x _ hx => run x hx), mf, F.kp, b⟩⟩
  unfold p__law_cell
  exact (dss_cons (ds_if (dt_cmp op_lt od_lt (dv 1) (de_b1 call_len_seq cb_len m_len (by decide +kernel) (db 0)))
  (dss_one (ds_ret (de_callTy call_int1 cd_int1 m_int (by decide +kernel) (da_cons (de_ix (db 0) (dv 1)) da_nil))))
  dss_nil)
  (dss_cons (ds_set 2 nd (de_op op_add od_add de_int (de_op op_mul od_mul de_int (dv 1))))
  (dss_cons (ds_for pxO rfl (di_list (dv 0)) (dg_name 3 nd)
  (dss_one (ds_set 2 nd (de_op op_mod od_mod (de_callTy call_int1 cd_int1 m_int (by decide +kernel) (da_cons (de_op op_add od_add (de_op op_mul od_mul (dv 2) de_int) (dv 3)) da_nil)) de_int))))
  (dss_one (ds_retV 2)))))

theorem sc__law_draw : FnScope ["script", "at", "k", "size", "cell", "mixed", "rest", "turn"] ["script", "at", "k", "size"] (defScope (top 36)) := ⟨rfl, rfl, rfl, by decide +kernel, rfl, by decide +kernel, by decide +kernel⟩
set_option maxHeartbeats 8000000 in
theorem cl__law_draw (T : Tx K mg) (C__law_cell : Cl P w K mg base CX0 1 "_law_cell" (S__law_cell (ads K))) (run : ∀ (x : (S__law_draw (ads K)).α), (S__law_draw (ads K)).pre x → p__law_draw (ads K) { nx := fun _ => (S__law_draw (ads K)).post x (.ok (.ro .non)), rt := fun r => (S__law_draw (ads K)).post x (.ok r), ex := fun e => (S__law_draw (ads K)).post x (.error e) } (startD ["script", "at", "k", "size", "cell", "mixed", "rest", "turn"] ((S__law_draw (ads K)).args x))) : Cl P w K mg base CX0 2 "_law_draw" (S__law_draw (ads K)) := by
  obtain ⟨fd, F⟩ := T.fn 22 (d := d__law_draw) rfl
  have mf := T.glo 22 (x := "_law_draw") rfl
  have m_int := T.free 63 (x := "int") rfl
  have m_range := T.free 61 (x := "range") rfl
  have nd := sc__law_draw.nd
  have b := F.bindsN (ps := ["script", "at", "k", "size"]) fun _ _ _ _ _ _ us hl => match us, hl with | [_, _, _, _], _ => rfl
  refine ⟨⟨_, fd, ["script", "at", "k", "size"], okD (N := ["script", "at", "k", "size", "cell", "mixed", "rest", "turn"]) (p := fun _ => p__law_draw (ads K)) F sc__law_draw (fun _ => rfl) (fun cdv Ar outer s0 H0 E hr => ?_) (fun x _ hx => run x hx), mf, F.kp, b⟩⟩
  unfold p__law_draw
  exact (dss_cons (ds_set 4 nd (de_callC C__law_cell (hr.mono (by decide)) px0 (da_cons (dv 0) (da_cons (dv 1) da_nil))))
  (dss_cons (ds_if (dt_cmp op_ge od_ge (dv 4) (de_op op_pow od_pow de_int de_int))
  (dss_cons (ds_set 6 nd (dv 4))
  (dss_cons (ds_for pxO rfl (di_rng1 m_range (da_cons (dv 2) da_nil)) (dg_name 7 nd)
  (dss_one (ds_set 6 nd (de_op op_fdiv od_fdiv (dv 6) de_int))))
  (dss_one (ds_if (dt_cmp op_gt od_gt (dv 6) de_int)
  (dss_one (ds_ret (de_op op_mod od_mod (de_op op_mod od_mod (de_callTy call_int1 cd_int1 m_int (by decide +kernel) (da_cons (dv 6) da_nil)) de_int) (dv 3))))
  dss_nil))))
  dss_nil)
  (dss_cons (ds_set 5 nd (de_op op_mod od_mod (de_callTy call_int1 cd_int1 m_int (by decide +kernel) (da_cons (de_op op_add od_add (de_op op_add od_add (dv 4) (de_op op_mul od_mul de_int (dv 2))) de_int) da_nil)) de_int))
  (dss_cons (ds_set 5 nd (de_op op_mod od_mod (de_callTy call_int1 cd_int1 m_int (by decide +kernel) (da_cons (de_op op_mul od_mul (dv 5) (de_op op_add od_add (dv 5) de_int)) da_nil)) de_int))
  (dss_cons (ds_set 5 nd (de_op op_mod od_mod (de_callTy call_int1 cd_int1 m_int (by decide +kernel) (da_cons (de_op op_add od_add (de_op op_mul od_mul (dv 5) (de_op op_add od_add (dv 5) de_int)) (de_op op_mul od_mul de_int (dv 2))) da_nil)) de_int))
  (dss_one (ds_ret (de_op op_mod od_mod (de_callTy call_int1 cd_int1 m_int (by decide +kernel) (da_cons (de_op op_fdiv od_fdiv (dv 5) de_int) da_nil)) (dv 3)))))))))

theorem sc__law_is_number : FnScope ["value"] ["value"] (defScope (top 37)) := ⟨rfl, rfl, rfl, by decide +kernel, rfl, by decide +kernel, by decide +kernel⟩
set_option maxHeartbeats 8000000 in
theorem cl__law_is_number (T : Tx K mg) (run : ∀ (x : (S__law_is_number (ads K)).α), (S__law_is_number (ads K)).pre x → p__law_is_number (ads K) { nx := fun _ => (S__law_is_number (ads K)).post x (.ok (.ro .non)), rt := fun r => (S__law_is_number (ads K)).post x (.ok r), ex := fun e => (S__law_is_number (ads K)).post x (.error e) } (startD ["value"] ((S__law_is_number (ads K)).args x))) : Cl P w K mg base CX0 1 "_law_is_number" (S__law_is_number (ads K)) := by
  obtain ⟨fd, F⟩ := T.fn 23 (d := d__law_is_number) rfl
  have mf := T.glo 23 (x := "_law_is_number") rfl
  have m_bool := T.free 69 (x := "bool") rfl
  have m_int := T.free 63 (x := "int") rfl
  have m_isinstance := T.free 62 (x := "isinstance") rfl
  have nd := sc__law_is_number.nd
  have b := F.bindsN (ps := ["value"]) fun _ _ _ _ _ _ us hl => match us, hl with | [_], _ => rfl
  refine ⟨⟨_, fd, ["value"], okD (N := ["value"]) (p := fun _ => p__law_is_number (ads K)) F sc__law_is_number (fun _ => rfl) (fun cdv Ar outer s0 H0 E hr => ?_) (fun x _ hx => run x hx), mf, F.kp, b⟩⟩
  unfold p__law_is_number
  exact (dss_one (ds_ret (de_and (de_isi isT_int m_isinstance m_int (by decide +kernel) (dv 0)) (de_one (de_not (de_isi isT_bool m_isinstance m_bool (by decide +kernel) (dv 0)))))))

theorem sc__law_bounds : FnScope ["script", "at", "large", "bottom", "choice", "top"] ["script", "at", "large"] (defScope (top 39)) := ⟨rfl, rfl, rfl, by decide +kernel, rfl, by decide +kernel, by decide +kernel⟩
set_option maxHeartbeats 8000000 in
theorem cl__law_bounds (T : Tx K mg) (C__law_draw : Cl P w K mg base CX0 2 "_law_draw" (S__law_draw (ads K))) (run : ∀ (x : (S__law_bounds (ads K)).α), (S__law_bounds (ads K)).pre x → p__law_bounds (ads K) { nx := fun _ => (S__law_bounds (ads K)).post x (.ok (.ro .non)), rt := fun r => (S__law_bounds (ads K)).post x (.ok r), ex := fun e => (S__law_bounds (ads K)).post x (.error e) } (startD ["script", "at", "large", "bottom", "choice", "top"] ((S__law_bounds (ads K)).args x))) : Cl P w K mg base CX0 3 "_law_bounds" (S__law_bounds (ads K)) := by
  obtain ⟨fd, F⟩ := T.fn 25 (d := d__law_bounds) rfl
  have mf := T.glo 25 (x := "_law_bounds") rfl
  have m_min := T.free 66 (x := "min") rfl
  have nd := sc__law_bounds.nd
  have b := F.bindsN (ps := ["script", "at", "large"]) fun _ _ _ _ _ _ us hl => match us, hl with | [_, _, _], _ => rfl
  refine ⟨⟨_, fd, ["script", "at", "large"], okD (N := ["script", "at", "large", "bottom", "choice", "top"]) (p := fun _ => p__law_bounds (ads K)) F sc__law_bounds (fun _ => rfl) (fun cdv Ar outer s0 H0 E hr => ?_) (fun x _ hx => run x hx), mf, F.kp, b⟩⟩
  unfold p__law_bounds
  exact (dss_cons (ds_set 3 nd (de_callC C__law_draw (hr.mono (by decide)) px0 (da_cons (dv 0) (da_cons (dv 1) (da_cons de_int (da_cons de_int da_nil))))))
  (dss_cons (ds_set 4 nd (de_callC C__law_draw (hr.mono (by decide)) px0 (da_cons (dv 0) (da_cons (dv 1) (da_cons de_int (da_cons de_int da_nil))))))
  (dss_cons (ds_if (dt_val (dv 2))
  (dss_cons (ds_if (dt_cmp op_lt od_lt (dv 4) de_int)
  (dss_one (ds_set 3 nd de_int))
  dss_nil)
  (dss_cons (ds_set 5 nd (de_op op_add od_add (dv 3) (de_callC C__law_draw (hr.mono (by decide)) px0 (da_cons (dv 0) (da_cons (dv 1) (da_cons de_int (da_cons (de_op op_sub od_sub de_int (dv 3)) da_nil)))))))
  (dss_cons (ds_if (dt_cmp op_eq od_eq (dv 4) de_int)
  (dss_one (ds_set 5 nd de_int))
  dss_nil)
  (dss_one (ds_ret (de_tup (da_cons (dv 3) (da_cons (dv 5) da_nil))))))))
  dss_nil)
  (dss_cons (ds_if (dt_cmp op_lt od_lt (dv 4) de_int)
  (dss_one (ds_set 3 nd de_int))
  dss_nil)
  (dss_cons (ds_if (dt_cmp op_eq od_eq (dv 4) de_int)
  (dss_one (ds_set 3 nd (de_callC C__law_draw (hr.mono (by decide)) px0 (da_cons (dv 0) (da_cons (dv 1) (da_cons de_int (da_cons de_int da_nil)))))))
  dss_nil)
  (dss_cons (ds_set 3 nd (de_callB (call_min2 rfl) cd_min2 m_min (by decide +kernel) (da_cons (dv 3) (da_cons de_int da_nil))))
  (dss_cons (ds_if (dt_cmp op_eq od_eq (dv 4) de_int)
  (dss_one (ds_set 3 nd de_int))
  dss_nil)
  (dss_one (ds_ret (de_tup (da_cons (dv 3) (da_cons (de_op op_add od_add (dv 3) (de_ix (db_of (de_lst (da_cons de_int (da_cons de_int (da_cons de_int (da_cons de_int (da_cons de_int (da_cons de_int da_nil)))))))) (de_callC C__law_draw (hr.mono (by decide)) px0 (da_cons (dv 0) (da_cons (dv 1) (da_cons de_int (da_cons de_int da_nil))))))) da_nil))))))))))))

theorem sc__law_truth : FnScope ["script", "at", "length", "bounds", "readings", "t"] ["script", "at", "length", "bounds"] (defScope (top 40)) := ⟨rfl, rfl, rfl, by decide +kernel, rfl, by decide +kernel, by decide +kernel⟩
set_option maxHeartbeats 8000000 in
theorem cl__law_truth (T : Tx K mg) (C__law_draw : Cl P w K mg base CX0 2 "_law_draw" (S__law_draw (ads K))) (run : ∀ (x : (S__law_truth (ads K)).α), (S__law_truth (ads K)).pre x → p__law_truth (ads K) { nx := fun _ => (S__law_truth (ads K)).post x (.ok (.ro .non)), rt := fun r => (S__law_truth (ads K)).post x (.ok r), ex := fun e => (S__law_truth (ads K)).post x (.error e) } (startD ["script", "at", "length", "bounds", "readings", "t"] ((S__law_truth (ads K)).args x))) : Cl P w K mg base CX0 3 "_law_truth" (S__law_truth (ads K)) := by
  obtain ⟨fd, F⟩ := T.fn 26 (d := d__law_truth) rfl
  have mf := T.glo 26 (x := "_law_truth") rfl
  have m_range := T.free 61 (x := "range") rfl
  have nd := sc__law_truth.nd
  have b := F.bindsN (ps := ["script", "at", "length", "bounds"]) fun _ _ _ _ _ _ us hl => match us, hl with | [_, _, _, _], _ => rfl
  refine ⟨⟨_, fd, ["script", "at", "length", "bounds"], okD (N := ["script", "at", "length", "bounds", "readings", "t"]) (p := fun _ => p__law_truth (ads K)) F sc__law_truth (fun _ => rfl) (fun cdv Ar outer s0 H0 E hr => ?_) (fun x _ hx => run x hx), mf, F.kp, b⟩⟩
  unfold p__law_truth
  exact (dss_cons (ds_set 4 nd (de_lst (da_cons de_int da_nil)))
  (dss_cons (ds_for pxO rfl (di_rng1 m_range (da_cons (dv 2) da_nil)) (dg_name 5 nd)
  (dss_one (ds_app 4 (de_op op_add od_add (de_op op_add od_add (de_ix (db 4) (de_neg de_int)) (de_ix (db 3) de_int)) (de_callC C__law_draw (hr.mono (by decide)) px0 (da_cons (dv 0) (da_cons (dv 1) (da_cons (dv 5) (da_cons (de_op op_add od_add (de_op op_sub od_sub (de_ix (db 3) de_int) (de_ix (db 3) de_int)) de_int) da_nil)))))) (hm := fun _ h => pe_bm PySem.F.plainAttrs_list PySem.F.slot_list_append PySem.F.type_list_append mt_append (pv 4) (pa_cons h pa_nil)))))
  (dss_one (ds_retV 4))))

theorem sc__law_fact : FnScope ["script", "at", "k", "truth", "last", "a", "b", "kind", "low", "high"] ["script", "at", "k", "truth"] (defScope (top 41)) := ⟨rfl, rfl, rfl, by decide +kernel, rfl, by decide +kernel, by decide +kernel⟩
set_option maxHeartbeats 8000000 in
theorem cl__law_fact (T : Tx K mg) (C__law_draw : Cl P w K mg base CX0 2 "_law_draw" (S__law_draw (ads K))) (run : ∀ (x : (S__law_fact (ads K)).α), (S__law_fact (ads K)).pre x → p__law_fact (ads K) { nx := fun _ => (S__law_fact (ads K)).post x (.ok (.ro .non)), rt := fun r => (S__law_fact (ads K)).post x (.ok r), ex := fun e => (S__law_fact (ads K)).post x (.error e) } (startD ["script", "at", "k", "truth", "last", "a", "b", "kind", "low", "high"] ((S__law_fact (ads K)).args x))) : Cl P w K mg base CX0 3 "_law_fact" (S__law_fact (ads K)) := by
  obtain ⟨fd, F⟩ := T.fn 27 (d := d__law_fact) rfl
  have mf := T.glo 27 (x := "_law_fact") rfl
  have m_len := T.free 60 (x := "len") rfl
  have nd := sc__law_fact.nd
  have b := F.bindsN (ps := ["script", "at", "k", "truth"]) fun _ _ _ _ _ _ us hl => match us, hl with | [_, _, _, _], _ => rfl
  refine ⟨⟨_, fd, ["script", "at", "k", "truth"], okD (N := ["script", "at", "k", "truth", "last", "a", "b", "kind", "low", "high"]) (p := fun _ => p__law_fact (ads K)) F sc__law_fact (fun _ => rfl) (fun cdv Ar outer s0 H0 E hr => ?_) (fun x _ hx => run x hx), mf, F.kp, b⟩⟩
  unfold p__law_fact
  exact (dss_cons (ds_set 4 nd (de_op op_sub od_sub (de_b1 call_len_seq cb_len m_len (by decide +kernel) (db 3)) de_int))
  (dss_cons (ds_set 5 nd (de_callC C__law_draw (hr.mono (by decide)) px0 (da_cons (dv 0) (da_cons (dv 1) (da_cons (dv 2) (da_cons (dv 4) da_nil))))))
  (dss_cons (ds_set 6 nd (de_op op_add od_add (de_op op_add od_add (dv 5) de_int) (de_callC C__law_draw (hr.mono (by decide)) px0 (da_cons (dv 0) (da_cons (dv 1) (da_cons (de_op op_add od_add (dv 2) de_int) (da_cons (de_op op_sub od_sub (dv 4) (dv 5)) da_nil)))))))
  (dss_cons (ds_set 7 nd (de_callC C__law_draw (hr.mono (by decide)) px0 (da_cons (dv 0) (da_cons (dv 1) (da_cons (de_op op_add od_add (dv 2) de_int) (da_cons de_int da_nil))))))
  (dss_cons (ds_if (dt_cmp op_lt od_lt (dv 7) de_int)
  (dss_one (ds_ret (de_tup (da_cons de_str (da_cons (dv 6) (da_cons (de_ix (db 3) (dv 6)) da_nil))))))
  dss_nil)
  (dss_cons (ds_set 8 nd (de_op op_sub od_sub (de_op op_sub od_sub (de_ix (db 3) (dv 6)) (de_ix (db 3) (dv 5))) (de_callC C__law_draw (hr.mono (by decide)) px0 (da_cons (dv 0) (da_cons (dv 1) (da_cons (de_op op_add od_add (dv 2) de_int) (da_cons de_int da_nil)))))))
  (dss_cons (ds_set 9 nd (de_op op_add od_add (de_op op_sub od_sub (de_ix (db 3) (dv 6)) (de_ix (db 3) (dv 5))) (de_callC C__law_draw (hr.mono (by decide)) px0 (da_cons (dv 0) (da_cons (dv 1) (da_cons (de_op op_add od_add (dv 2) de_int) (da_cons de_int da_nil)))))))
  (dss_cons (ds_if (dt_cmp op_eq od_eq (dv 7) de_int)
  (dss_one (ds_set 8 nd (de_neg de_int)))
  dss_nil)
  (dss_cons (ds_if (dt_cmp op_eq od_eq (dv 7) de_int)
  (dss_one (ds_set 9 nd de_int))
  dss_nil)
  (dss_one (ds_ret (de_tup (da_cons de_str (da_cons (dv 5) (da_cons (dv 6) (da_cons (dv 8) (da_cons (dv 9) da_nil)))))))))))))))))

theorem sc__law_wrong_fact : FnScope ["script", "at", "truth", "last", "a", "b", "value", "kind", "move"] ["script", "at", "truth"] (defScope (top 42)) := ⟨rfl, rfl, rfl, by decide +kernel, rfl, by decide +kernel, by decide +kernel⟩
set_option maxHeartbeats 8000000 in
theorem cl__law_wrong_fact (T : Tx K mg) (C__law_draw : Cl P w K mg base CX0 2 "_law_draw" (S__law_draw (ads K))) (run : ∀ (x : (S__law_wrong_fact (ads K)).α), (S__law_wrong_fact (ads K)).pre x → p__law_wrong_fact (ads K) { nx := fun _ => (S__law_wrong_fact (ads K)).post x (.ok (.ro .non)), rt := fun r => (S__law_wrong_fact (ads K)).post x (.ok r), ex := fun e => (S__law_wrong_fact (ads K)).post x (.error e) } (startD ["script", "at", "truth", "last", "a", "b", "value", "kind", "move"] ((S__law_wrong_fact (ads K)).args x))) : Cl P w K mg base CX0 3 "_law_wrong_fact" (S__law_wrong_fact (ads K)) := by
  obtain ⟨fd, F⟩ := T.fn 28 (d := d__law_wrong_fact) rfl
  have mf := T.glo 28 (x := "_law_wrong_fact") rfl
  have m_len := T.free 60 (x := "len") rfl
  have nd := sc__law_wrong_fact.nd
  have b := F.bindsN (ps := ["script", "at", "truth"]) fun _ _ _ _ _ _ us hl => match us, hl with | [_, _, _], _ => rfl
  refine ⟨⟨_, fd, ["script", "at", "truth"], okD (N := ["script", "at", "truth", "last", "a", "b", "value", "kind", "move"]) (p := fun _ => p__law_wrong_fact (ads K)) F sc__law_wrong_fact (fun _ => rfl) (fun cdv Ar outer s0 H0 E hr => ?_) (fun x _ hx => run x hx), mf, F.kp, b⟩⟩
  unfold p__law_wrong_fact
  exact (dss_cons (ds_set 3 nd (de_op op_sub od_sub (de_b1 call_len_seq cb_len m_len (by decide +kernel) (db 2)) de_int))
  (dss_cons (ds_set 4 nd (de_callC C__law_draw (hr.mono (by decide)) px0 (da_cons (dv 0) (da_cons (dv 1) (da_cons de_int (da_cons (dv 3) da_nil))))))
  (dss_cons (ds_set 5 nd (de_op op_add od_add (de_op op_add od_add (dv 4) de_int) (de_callC C__law_draw (hr.mono (by decide)) px0 (da_cons (dv 0) (da_cons (dv 1) (da_cons de_int (da_cons (de_op op_sub od_sub (dv 3) (dv 4)) da_nil)))))))
  (dss_cons (ds_set 6 nd (de_op op_sub od_sub (de_ix (db 2) (dv 5)) (de_ix (db 2) (dv 4))))
  (dss_cons (ds_set 7 nd (de_callC C__law_draw (hr.mono (by decide)) px0 (da_cons (dv 0) (da_cons (dv 1) (da_cons de_int (da_cons de_int da_nil))))))
  (dss_cons (ds_set 8 nd (de_op op_add od_add de_int (de_callC C__law_draw (hr.mono (by decide)) px0 (da_cons (dv 0) (da_cons (dv 1) (da_cons de_int (da_cons de_int da_nil)))))))
  (dss_cons (ds_if (dt_cmp op_eq od_eq (dv 7) de_int)
  (dss_one (ds_ret (de_tup (da_cons de_str (da_cons (dv 4) (da_cons (dv 5) (da_cons (de_op op_add od_add (dv 6) de_int) (da_cons (dv 6) da_nil))))))))
  dss_nil)
  (dss_cons (ds_if (dt_cmp op_eq od_eq (dv 7) de_int)
  (dss_one (ds_ret (de_tup (da_cons de_str (da_cons (dv 5) (da_cons (de_neg (dv 8)) da_nil))))))
  dss_nil)
  (dss_cons (ds_if (dt_cmp op_eq od_eq (dv 7) de_int)
  (dss_one (ds_ret (de_tup (da_cons de_str (da_cons (dv 5) (da_cons de_int da_nil))))))
  dss_nil)
  (dss_cons (ds_if (dt_cmp op_eq od_eq (dv 7) de_int)
  (dss_one (ds_ret (de_tup (da_cons de_str (da_cons (dv 4) (da_cons (dv 5) (da_cons (de_neg de_int) (da_cons (de_neg de_int) da_nil))))))))
  dss_nil)
  (dss_cons (ds_if (dt_cmp op_eq od_eq (dv 7) de_int)
  (dss_one (ds_ret (de_tup (da_cons de_str (da_cons (dv 5) (da_cons (de_op op_add od_add (de_ix (db 2) (dv 5)) (dv 8)) da_nil))))))
  dss_nil)
  (dss_cons (ds_if (dt_cmp op_eq od_eq (dv 7) de_int)
  (dss_one (ds_ret (de_tup (da_cons de_str (da_cons (dv 5) (da_cons (de_op op_sub od_sub (de_ix (db 2) (dv 5)) (dv 8)) da_nil))))))
  dss_nil)
  (dss_cons (ds_if (dt_cmp op_eq od_eq (dv 7) de_int)
  (dss_one (ds_ret (de_tup (da_cons de_str (da_cons (dv 4) (da_cons (dv 5) (da_cons (de_op op_add od_add (dv 6) (dv 8)) (da_cons (de_op op_add od_add (de_op op_add od_add (dv 6) (dv 8)) de_int) da_nil))))))))
  dss_nil)
  (dss_one (ds_ret (de_tup (da_cons de_str (da_cons (dv 4) (da_cons (dv 5) (da_cons (de_op op_sub od_sub (de_op op_sub od_sub (dv 6) (dv 8)) de_int) (da_cons (de_op op_sub od_sub (dv 6) (dv 8)) da_nil)))))))))))))))))))))

theorem sc__law_facts : FnScope ["script", "at", "count", "wrong", "truth", "facts", "k"] ["script", "at", "count", "wrong", "truth"] (defScope (top 43)) := ⟨rfl, rfl, rfl, by decide +kernel, rfl, by decide +kernel, by decide +kernel⟩
set_option maxHeartbeats 8000000 in
theorem cl__law_facts (T : Tx K mg) (C__law_fact : Cl P w K mg base CX0 3 "_law_fact" (S__law_fact (ads K))) (C__law_wrong_fact : Cl P w K mg base CX0 3 "_law_wrong_fact" (S__law_wrong_fact (ads K))) (run : ∀ (x : (S__law_facts (ads K)).α), (S__law_facts (ads K)).pre x → p__law_facts (ads K) { nx := fun _ => (S__law_facts (ads K)).post x (.ok (.ro .non)), rt := fun r => (S__law_facts (ads K)).post x (.ok r), ex := fun e => (S__law_facts (ads K)).post x (.error e) } (startD ["script", "at", "count", "wrong", "truth", "facts", "k"] ((S__law_facts (ads K)).args x))) : Cl P w K mg base CX0 4 "_law_facts" (S__law_facts (ads K)) := by
  obtain ⟨fd, F⟩ := T.fn 29 (d := d__law_facts) rfl
  have mf := T.glo 29 (x := "_law_facts") rfl
  have m_int := T.free 63 (x := "int") rfl
  have m_range := T.free 61 (x := "range") rfl
  have nd := sc__law_facts.nd
  have b := F.bindsN (ps := ["script", "at", "count", "wrong", "truth"]) fun _ _ _ _ _ _ us hl => match us, hl with | [_, _, _, _, _], _ => rfl
  refine ⟨⟨_, fd, ["script", "at", "count", "wrong", "truth"], okD (N := ["script", "at", "count", "wrong", "truth", "facts", "k"]) (p := fun _ => p__law_facts (ads K)) F sc__law_facts (fun _ => rfl) (fun cdv Ar outer s0 H0 E hr => ?_) (fun x _ hx => run x hx), mf, F.kp, b⟩⟩
  unfold p__law_facts
  exact (dss_cons (ds_set 5 nd (de_lst da_nil))
  (dss_cons (ds_for pxO rfl (di_rng1 m_range (da_cons (dv 2) da_nil)) (dg_name 6 nd)
  (dss_one (ds_if (dt_cmp op_eq od_eq (dv 6) (dv 3))
  (dss_one (ds_app 5 (de_callC C__law_wrong_fact (hr.mono (by decide)) px0 (da_cons (dv 0) (da_cons (dv 1) (da_cons (dv 4) da_nil)))) (hm := fun _ h => pe_bm PySem.F.plainAttrs_list PySem.F.slot_list_append PySem.F.type_list_append mt_append (pv 5) (pa_cons h pa_nil))))
  (dss_one (ds_app 5 (de_callC C__law_fact (hr.mono (by decide)) px0 (da_cons (dv 0) (da_cons (de_op op_add od_add (de_op op_add od_add (dv 1) de_int) (de_op op_mod od_mod (de_callTy call_int1 cd_int1 m_int (by decide +kernel) (da_cons (dv 6) da_nil)) de_int)) (da_cons (de_op op_mul od_mul de_int (de_op op_fdiv od_fdiv (dv 6) de_int)) (da_cons (dv 4) da_nil))))) (hm := fun _ h => pe_bm PySem.F.plainAttrs_list PySem.F.slot_list_append PySem.F.type_list_append mt_append (pv 5) (pa_cons h pa_nil)))))))
  (dss_one (ds_retV 5))))

theorem sc__law_rules : FnScope ["length", "bounds", "facts", "rules", "fact", "t"] ["length", "bounds", "facts"] (defScope (top 44)) := ⟨rfl, rfl, rfl, by decide +kernel, rfl, by decide +kernel, by decide +kernel⟩
set_option maxHeartbeats 8000000 in
theorem cl__law_rules (T : Tx K mg) (run : ∀ (x : (S__law_rules (ads K)).α), (S__law_rules (ads K)).pre x → p__law_rules (ads K) { nx := fun _ => (S__law_rules (ads K)).post x (.ok (.ro .non)), rt := fun r => (S__law_rules (ads K)).post x (.ok r), ex := fun e => (S__law_rules (ads K)).post x (.error e) } (startD ["length", "bounds", "facts", "rules", "fact", "t"] ((S__law_rules (ads K)).args x))) : Cl P w K mg base CX0 1 "_law_rules" (S__law_rules (ads K)) := by
  obtain ⟨fd, F⟩ := T.fn 30 (d := d__law_rules) rfl
  have mf := T.glo 30 (x := "_law_rules") rfl
  have m_range := T.free 61 (x := "range") rfl
  have nd := sc__law_rules.nd
  have b := F.bindsN (ps := ["length", "bounds", "facts"]) fun _ _ _ _ _ _ us hl => match us, hl with | [_, _, _], _ => rfl
  refine ⟨⟨_, fd, ["length", "bounds", "facts"], okD (N := ["length", "bounds", "facts", "rules", "fact", "t"]) (p := fun _ => p__law_rules (ads K)) F sc__law_rules (fun _ => rfl) (fun cdv Ar outer s0 H0 E hr => ?_) (fun x _ hx => run x hx), mf, F.kp, b⟩⟩
  unfold p__law_rules
  exact (dss_cons (ds_setLc 3 [("t", 5)] 5 rfl nd (sw_true rfl rfl rfl (by decide +kernel)) (di_rng1 m_range (da_cons (dv 0) da_nil)) (by kernel_rfl) (by decide) (fun _ _ _ _ _ => pg_name (i := 5) nd rfl (Or.inl rfl)) (fun _ _ _ _ _ => dts_nil) (fun _ _ _ _ _ => (de_tup (da_cons (dv 5) (da_cons (de_op op_add od_add (dv 5) de_int) (da_cons (de_ix (db 1) de_int) (da_cons (de_ix (db 1) de_int) da_nil)))))))
  (dss_cons (ds_for pxO rfl (di_list (dv 2)) (dg_name 4 nd)
  (dss_one (ds_if (dt_cmp op_eq od_eq (de_ix (db 4) de_int) de_str)
  (dss_one (ds_app 3 (de_tup (da_cons de_int (da_cons (de_ix (db 4) de_int) (da_cons (de_ix (db 4) de_int) (da_cons (de_ix (db 4) de_int) da_nil))))) (hm := fun _ h => pe_bm PySem.F.plainAttrs_list PySem.F.slot_list_append PySem.F.type_list_append mt_append (pv 3) (pa_cons h pa_nil))))
  (dss_one (ds_app 3 (de_tup (da_cons (de_ix (db 4) de_int) (da_cons (de_ix (db 4) de_int) (da_cons (de_ix (db 4) de_int) (da_cons (de_ix (db 4) de_int) da_nil))))) (hm := fun _ h => pe_bm PySem.F.plainAttrs_list PySem.F.slot_list_append PySem.F.type_list_append mt_append (pv 3) (pa_cons h pa_nil)))))))
  (dss_one (ds_retV 3))))

theorem sc__law_readings : FnScope ["length", "bounds", "due", "rows", "t", "asked", "grown", "row", "step", "rule", "longer", "good"] ["length", "bounds", "due"] (defScope (top 45)) := ⟨rfl, rfl, rfl, by decide +kernel, rfl, by decide +kernel, by decide +kernel⟩
set_option maxHeartbeats 8000000 in
theorem cl__law_readings (T : Tx K mg) (run : ∀ (x : (S__law_readings (ads K)).α), (S__law_readings (ads K)).pre x → p__law_readings (ads K) { nx := fun _ => (S__law_readings (ads K)).post x (.ok (.ro .non)), rt := fun r => (S__law_readings (ads K)).post x (.ok r), ex := fun e => (S__law_readings (ads K)).post x (.error e) } (startD ["length", "bounds", "due", "rows", "t", "asked", "grown", "row", "step", "rule", "longer", "good"] ((S__law_readings (ads K)).args x))) : Cl P w K mg base CX0 1 "_law_readings" (S__law_readings (ads K)) := by
  obtain ⟨fd, F⟩ := T.fn 31 (d := d__law_readings) rfl
  have mf := T.glo 31 (x := "_law_readings") rfl
  have m_list := T.free 64 (x := "list") rfl
  have m_range := T.free 61 (x := "range") rfl
  have nd := sc__law_readings.nd
  have b := F.bindsN (ps := ["length", "bounds", "due"]) fun _ _ _ _ _ _ us hl => match us, hl with | [_, _, _], _ => rfl
  refine ⟨⟨_, fd, ["length", "bounds", "due"], okD (N := ["length", "bounds", "due", "rows", "t", "asked", "grown", "row", "step", "rule", "longer", "good"]) (p := fun _ => p__law_readings (ads K)) F sc__law_readings (fun _ => rfl) (fun cdv Ar outer s0 H0 E hr => ?_) (fun x _ hx => run x hx), mf, F.kp, b⟩⟩
  unfold p__law_readings
  exact (dss_cons (ds_set 3 nd (de_lst (da_cons (de_lst (da_cons de_int da_nil)) da_nil)))
  (dss_frz 3 (dss_frz 10 (dss_frz 5 (dss_cons (ds_for pxO rfl (di_rng2 m_range (da_cons de_int (da_cons (de_op op_add od_add (dv 0) de_int) da_nil))) (dg_name 4 nd)
  (dss_cons (ds_setLc 5 [("rule", 9)] 9 rfl nd (sw_true rfl rfl rfl (by decide +kernel)) (di_list (de_slL (db 2) (do_some (dv 0)) do_none)) (by kernel_rfl) (by decide) (fun _ _ _ _ _ => pg_name (i := 9) nd rfl (Or.inl rfl)) (fun _ _ _ _ _ => (dts_one (dt_cmp op_eq od_eq (de_ix (db 9) de_int) (dv 4)))) (fun _ _ _ _ _ => (dv 9)))
  (dss_cons (ds_set 6 nd (de_lst da_nil))
  (dss_frz 3 (dss_frz 10 (dss_frz 5 (dss_cons (ds_for pxO rfl (di_list (dv 3)) (dg_name 7 nd)
  (dss_frz 10 (dss_frz 5 (dss_one (ds_for pxO rfl (di_rng2 m_range (da_cons (de_ix (db 1) de_int) (da_cons (de_op op_add od_add (de_ix (db 1) de_int) de_int) da_nil))) (dg_name 8 nd)
  (dss_cons (ds_set 10 nd (de_op op_cat od_cat (dv 7) (de_lst (da_cons (de_op op_add od_add (de_ix (db 7) (de_neg de_int)) (dv 8)) da_nil))))
  (dss_cons (ds_set 11 nd de_bl)
  (dss_frz 5 (dss_cons (ds_for pxO rfl (di_list (dv 5)) (dg_name 9 nd)
  (dss_one (ds_if (PWd.pt (dw_and (dt_val (dv 11)) (dw_and1 (dt_not (dt_chain op_le od_le op_le od_le (de_ix (db 9) de_int) (de_op op_sub od_sub (de_ix (db 10) (dv 4)) (de_ix (db 10) (de_ix (db 9) de_int))) (de_ix (db 9) de_int))))))
  (dss_one (ds_set 11 nd de_bl))
  dss_nil)))
  (dss_frz 10 (dss_one (ds_if (dt_val (dv 11))
  (dss_frz 10 (dss_one (ds_app 6 (dv 10) (hm := fun _ h => pe_bm PySem.F.plainAttrs_list PySem.F.slot_list_append PySem.F.type_list_append mt_append (pv 6) (pa_cons h pa_nil)))))
  dss_nil))))))))))))
  (dss_one (ds_set 3 nd (de_b1Ty call_list_of cb_list m_list (by decide +kernel) (db 6)))))))))))
  (dss_one (ds_retV 3)))))))

theorem sc__law_relaxed : FnScope ["costs", "rules", "turn", "changed", "rule", "a", "b"] ["costs", "rules"] (defScope (top 46)) := ⟨rfl, rfl, rfl, by decide +kernel, rfl, by decide +kernel, by decide +kernel⟩
set_option maxHeartbeats 8000000 in
theorem cl__law_relaxed (T : Tx K mg) (run : ∀ (x : (S__law_relaxed (ads K)).α), (S__law_relaxed (ads K)).pre x → p__law_relaxed (ads K) { nx := fun _ => (S__law_relaxed (ads K)).post x (.ok (.ro .non)), rt := fun r => (S__law_relaxed (ads K)).post x (.ok r), ex := fun e => (S__law_relaxed (ads K)).post x (.error e) } (startD ["costs", "rules", "turn", "changed", "rule", "a", "b"] ((S__law_relaxed (ads K)).args x))) : Cl P w K mg base CX0 1 "_law_relaxed" (S__law_relaxed (ads K)) := by
  obtain ⟨fd, F⟩ := T.fn 32 (d := d__law_relaxed) rfl
  have mf := T.glo 32 (x := "_law_relaxed") rfl
  have m_len := T.free 60 (x := "len") rfl
  have m_list := T.free 64 (x := "list") rfl
  have m_range := T.free 61 (x := "range") rfl
  have nd := sc__law_relaxed.nd
  have b := F.bindsN (ps := ["costs", "rules"]) fun _ _ _ _ _ _ us hl => match us, hl with | [_, _], _ => rfl
  refine ⟨⟨_, fd, ["costs", "rules"], okD (N := ["costs", "rules", "turn", "changed", "rule", "a", "b"]) (p := fun _ => p__law_relaxed (ads K)) F sc__law_relaxed (fun _ => rfl) (fun cdv Ar outer s0 H0 E hr => ?_) (fun x _ hx => run x hx), mf, F.kp, b⟩⟩
  unfold p__law_relaxed
  exact (dss_cons (ds_set 0 nd (de_b1Ty call_list_of cb_list m_list (by decide +kernel) (db 0)))
  (dss_cons (ds_for pxO rfl (di_rng1 m_range (da_cons (de_op op_add od_add (de_b1 call_len_seq cb_len m_len (by decide +kernel) (db 0)) de_int) da_nil)) (dg_name 2 nd)
  (dss_cons (ds_set 3 nd de_bl)
  (dss_cons (ds_for pxO rfl (di_list (dv 1)) (dg_name 4 nd)
  (dss_cons (ds_set 5 nd (de_ix (db 4) de_int))
  (dss_cons (ds_set 6 nd (de_ix (db 4) de_int))
  (dss_cons (ds_if (PWd.pt (dw_and (dt_cmp op_notN od_notN (de_ix (db 4) de_int) de_non) (dw_and1 (dt_cmp op_notN od_notN (de_ix (db 0) (dv 5)) de_non))))
  (dss_one (ds_if (PWd.pt (dw_or (dt_cmp op_isN od_isN (de_ix (db 0) (dv 6)) de_non) (dw_or1 (dt_cmp op_lt od_lt (de_op op_add od_add (de_ix (db 0) (dv 5)) (de_ix (db 4) de_int)) (de_ix (db 0) (dv 6))))))
  (dss_cons (ds_setI 0 (de_op op_add od_add (de_ix (db 0) (dv 5)) (de_ix (db 4) de_int)) (dv 6))
  (dss_one (ds_set 3 nd de_bl)))
  dss_nil))
  dss_nil)
  (dss_one (ds_if (PWd.pt (dw_and (dt_cmp op_notN od_notN (de_ix (db 4) de_int) de_non) (dw_and1 (dt_cmp op_notN od_notN (de_ix (db 0) (dv 6)) de_non))))
  (dss_one (ds_if (PWd.pt (dw_or (dt_cmp op_isN od_isN (de_ix (db 0) (dv 5)) de_non) (dw_or1 (dt_cmp op_lt od_lt (de_op op_sub od_sub (de_ix (db 0) (dv 6)) (de_ix (db 4) de_int)) (de_ix (db 0) (dv 5))))))
  (dss_cons (ds_setI 0 (de_op op_sub od_sub (de_ix (db 0) (dv 6)) (de_ix (db 4) de_int)) (dv 5))
  (dss_one (ds_set 3 nd de_bl)))
  dss_nil))
  dss_nil))))))
  (dss_one (ds_if (dt_not (dt_val (dv 3)))
  (dss_one (ds_retV 0))
  dss_nil)))))
  (dss_one (ds_ret de_non))))

theorem sc__law_steps : FnScope ["told", "rules", "steps", "step", "starts", "k", "rule"] ["told", "rules"] (defScope (top 47)) := ⟨rfl, rfl, rfl, by decide +kernel, rfl, by decide +kernel, by decide +kernel⟩
set_option maxHeartbeats 8000000 in
theorem cl__law_steps (T : Tx K mg) (C__law_is_number : Cl P w K mg base CX0 1 "_law_is_number" (S__law_is_number (ads K))) (run : ∀ (x : (S__law_steps (ads K)).α), (S__law_steps (ads K)).pre x → p__law_steps (ads K) { nx := fun _ => (S__law_steps (ads K)).post x (.ok (.ro .non)), rt := fun r => (S__law_steps (ads K)).post x (.ok r), ex := fun e => (S__law_steps (ads K)).post x (.error e) } (startD ["told", "rules", "steps", "step", "starts", "k", "rule"] ((S__law_steps (ads K)).args x))) : Cl P w K mg base CX0 2 "_law_steps" (S__law_steps (ads K)) := by
  obtain ⟨fd, F⟩ := T.fn 33 (d := d__law_steps) rfl
  have mf := T.glo 33 (x := "_law_steps") rfl
  have m_isinstance := T.free 62 (x := "isinstance") rfl
  have m_len := T.free 60 (x := "len") rfl
  have m_list := T.free 64 (x := "list") rfl
  have m_range := T.free 61 (x := "range") rfl
  have m_str := T.free 70 (x := "str") rfl
  have m_tuple := T.free 65 (x := "tuple") rfl
  have nd := sc__law_steps.nd
  have b := F.bindsN (ps := ["told", "rules"]) fun _ _ _ _ _ _ us hl => match us, hl with | [_, _], _ => rfl
  refine ⟨⟨_, fd, ["told", "rules"], okD (N := ["told", "rules", "steps", "step", "starts", "k", "rule"]) (p := fun _ => p__law_steps (ads K)) F sc__law_steps (fun _ => rfl) (fun cdv Ar outer s0 H0 E hr => ?_) (fun x _ hx => run x hx), mf, F.kp, b⟩⟩
  unfold p__law_steps
  exact (dss_cons (ds_if (dt_not (dt_val (de_isi isT_list m_isinstance m_list (by decide +kernel) (dv 0))))
  (dss_one (ds_ret de_non))
  dss_nil)
  (dss_cons (ds_set 2 nd (de_lst da_nil))
  (dss_cons (ds_for pxO rfl (di_list (dv 0)) (dg_name 3 nd)
  (dss_cons (ds_if (PWd.pt (dw_or (dt_not (dt_val (de_isi isT_tuple m_isinstance m_tuple (by decide +kernel) (dv 3)))) (dw_or (dt_cmp op_ne od_ne (de_b1 call_len_seq cb_len m_len (by decide +kernel) (db 3)) de_int) (dw_or1 (dt_not (dt_val (de_isi isT_str m_isinstance m_str (by decide +kernel) (de_ix (db 3) de_int))))))))
  (dss_one (ds_ret de_non))
  dss_nil)
  (dss_cons (ds_if (PWd.pt (dw_or (dt_not (dt_val (de_callC C__law_is_number (hr.mono (by decide)) px0 (da_cons (de_ix (db 3) de_int) da_nil)))) (dw_or1 (dt_not (dt_chain op_le od_le op_lt od_lt de_int (de_ix (db 3) de_int) (de_b1 call_len_seq cb_len m_len (by decide +kernel) (db 1)))))))
  (dss_one (ds_ret de_non))
  dss_nil)
  (dss_cons (ds_set 6 nd (de_ix (db 1) (de_ix (db 3) de_int)))
  (dss_one (ds_if (PWd.pt (dw_and (dt_cmp op_eq od_eq (de_ix (db 3) de_int) de_str) (dw_and1 (dt_cmp op_notN od_notN (de_ix (db 6) de_int) de_non))))
  (dss_one (ds_app 2 (de_tup (da_cons (de_ix (db 6) de_int) (da_cons (de_ix (db 6) de_int) (da_cons (de_ix (db 6) de_int) da_nil)))) (hm := fun _ h => pe_bm PySem.F.plainAttrs_list PySem.F.slot_list_append PySem.F.type_list_append mt_append (pv 2) (pa_cons h pa_nil))))
  (dss_one (ds_if (PWd.pt (dw_and (dt_cmp op_eq od_eq (de_ix (db 3) de_int) de_str) (dw_and1 (dt_cmp op_notN od_notN (de_ix (db 6) de_int) de_non))))
  (dss_one (ds_app 2 (de_tup (da_cons (de_ix (db 6) de_int) (da_cons (de_ix (db 6) de_int) (da_cons (de_neg (de_ix (db 6) de_int)) da_nil)))) (hm := fun _ h => pe_bm PySem.F.plainAttrs_list PySem.F.slot_list_append PySem.F.type_list_append mt_append (pv 2) (pa_cons h pa_nil))))
  (dss_one (ds_ret de_non))))))))))
  (dss_cons (ds_set 4 nd (de_lst da_nil))
  (dss_cons (ds_for pxO rfl (di_rng1 m_range (da_cons (de_b1 call_len_seq cb_len m_len (by decide +kernel) (db 2)) da_nil)) (dg_name 5 nd)
  (dss_cons (ds_if (PWd.pt (dw_or (dt_cmpB op_in_seq od_inIB (de_ix (db_of (de_ix (db 2) (dv 5))) de_int) (db 4)) (dw_or1 (PWd.pt (dw_and (dt_cmp op_gt od_gt (dv 5) de_int) (dw_and1 (dt_cmp op_ne od_ne (de_ix (db_of (de_ix (db 2) (dv 5))) de_int) (de_ix (db_of (de_ix (db 2) (de_op op_sub od_sub (dv 5) de_int))) de_int))))))))
  (dss_one (ds_ret de_non))
  dss_nil)
  (dss_one (ds_app 4 (de_ix (db_of (de_ix (db 2) (dv 5))) de_int) (hm := fun _ h => pe_bm PySem.F.plainAttrs_list PySem.F.slot_list_append PySem.F.type_list_append mt_append (pv 4) (pa_cons h pa_nil))))))
  (dss_one (ds_retV 2)))))))

theorem sc__law_is_low_ring : FnScope ["told", "rules", "steps", "step"] ["told", "rules"] (defScope (top 48)) := ⟨rfl, rfl, rfl, by decide +kernel, rfl, by decide +kernel, by decide +kernel⟩
set_option maxHeartbeats 8000000 in
theorem cl__law_is_low_ring (T : Tx K mg) (C__law_steps : Cl P w K mg base CX0 2 "_law_steps" (S__law_steps (ads K))) (run : ∀ (x : (S__law_is_low_ring (ads K)).α), (S__law_is_low_ring (ads K)).pre x → p__law_is_low_ring (ads K) { nx := fun _ => (S__law_is_low_ring (ads K)).post x (.ok (.ro .non)), rt := fun r => (S__law_is_low_ring (ads K)).post x (.ok r), ex := fun e => (S__law_is_low_ring (ads K)).post x (.error e) } (startD ["told", "rules", "steps", "step"] ((S__law_is_low_ring (ads K)).args x))) : Cl P w K mg base CX0 3 "_law_is_low_ring" (S__law_is_low_ring (ads K)) := by
  obtain ⟨fd, F⟩ := T.fn 34 (d := d__law_is_low_ring) rfl
  have mf := T.glo 34 (x := "_law_is_low_ring") rfl
  have m_sum := T.free 68 (x := "sum") rfl
  have nd := sc__law_is_low_ring.nd
  have b := F.bindsN (ps := ["told", "rules"]) fun _ _ _ _ _ _ us hl => match us, hl with | [_, _], _ => rfl
  refine ⟨⟨_, fd, ["told", "rules"], okD (N := ["told", "rules", "steps", "step"]) (p := fun _ => p__law_is_low_ring (ads K)) F sc__law_is_low_ring (fun _ => rfl) (fun cdv Ar outer s0 H0 E hr => ?_) (fun x _ hx => run x hx), mf, F.kp, b⟩⟩
  unfold p__law_is_low_ring
  exact (dss_cons (ds_set 2 nd (de_callC C__law_steps (hr.mono (by decide)) px0 (da_cons (dv 0) (da_cons (dv 1) da_nil))))
  (dss_frz 2 (dss_cons (ds_if (PWd.pt (dw_or (dt_cmp op_isN od_isN (dv 2) de_non) (dw_or1 (dt_cmp (op_eqD hr.units) od_eqN (dv 2) (de_lst da_nil)))))
  (dss_one (ds_ret de_bl))
  dss_nil)
  (dss_frz 2 (dss_one (ds_ret (de_and (de_cmp op_eq od_eq (de_ix (db_of (de_ix (db 2) (de_neg de_int))) de_int) (de_ix (db_of (de_ix (db 2) de_int)) de_int)) (de_one (de_cmp op_lt od_lt (de_b1 (cr_sum rfl) cb_sum m_sum (by decide +kernel) (db_of (de_lc [("step", 3)] 3 rfl nd (di_list (dv 2)) (by kernel_rfl) (by decide) (fun _ _ _ _ _ => pg_name (i := 3) nd rfl (Or.inl rfl)) (fun _ _ _ _ _ => dts_nil) (fun _ _ _ _ _ => (de_ix (db 3) de_int))))) de_int)))))))))

theorem sc__law_is_way : FnScope ["told", "rules", "a", "b", "most", "steps", "step"] ["told", "rules", "a", "b", "most"] (defScope (top 49)) := ⟨rfl, rfl, rfl, by decide +kernel, rfl, by decide +kernel, by decide +kernel⟩
set_option maxHeartbeats 8000000 in
theorem cl__law_is_way (T : Tx K mg) (C__law_steps : Cl P w K mg base CX0 2 "_law_steps" (S__law_steps (ads K))) (run : ∀ (x : (S__law_is_way (ads K)).α), (S__law_is_way (ads K)).pre x → p__law_is_way (ads K) { nx := fun _ => (S__law_is_way (ads K)).post x (.ok (.ro .non)), rt := fun r => (S__law_is_way (ads K)).post x (.ok r), ex := fun e => (S__law_is_way (ads K)).post x (.error e) } (startD ["told", "rules", "a", "b", "most", "steps", "step"] ((S__law_is_way (ads K)).args x))) : Cl P w K mg base CX0 3 "_law_is_way" (S__law_is_way (ads K)) := by
  obtain ⟨fd, F⟩ := T.fn 35 (d := d__law_is_way) rfl
  have mf := T.glo 35 (x := "_law_is_way") rfl
  have m_sum := T.free 68 (x := "sum") rfl
  have nd := sc__law_is_way.nd
  have b := F.bindsN (ps := ["told", "rules", "a", "b", "most"]) fun _ _ _ _ _ _ us hl => match us, hl with | [_, _, _, _, _], _ => rfl
  refine ⟨⟨_, fd, ["told", "rules", "a", "b", "most"], okD (N := ["told", "rules", "a", "b", "most", "steps", "step"]) (p := fun _ => p__law_is_way (ads K)) F sc__law_is_way (fun _ => rfl) (fun cdv Ar outer s0 H0 E hr => ?_) (fun x _ hx => run x hx), mf, F.kp, b⟩⟩
  unfold p__law_is_way
  exact (dss_cons (ds_set 5 nd (de_callC C__law_steps (hr.mono (by decide)) px0 (da_cons (dv 0) (da_cons (dv 1) da_nil))))
  (dss_frz 5 (dss_cons (ds_if (PWd.pt (dw_or (dt_cmp op_isN od_isN (dv 5) de_non) (dw_or1 (dt_cmp (op_eqD hr.units) od_eqN (dv 5) (de_lst da_nil)))))
  (dss_one (ds_ret de_bl))
  dss_nil)
  (dss_frz 5 (dss_cons (ds_if (PWd.pt (dw_or (dt_cmp op_ne od_ne (de_ix (db_of (de_ix (db 5) de_int)) de_int) (dv 2)) (dw_or (dt_cmp op_ne od_ne (de_ix (db_of (de_ix (db 5) (de_neg de_int))) de_int) (dv 3)) (dw_or1 (dt_cmpB op_in_seq od_inIB (dv 3) (db_of (de_lc [("step", 6)] 6 rfl nd (di_list (dv 5)) (by kernel_rfl) (by decide) (fun _ _ _ _ _ => pg_name (i := 6) nd rfl (Or.inl rfl)) (fun _ _ _ _ _ => dts_nil) (fun _ _ _ _ _ => (de_ix (db 6) de_int)))))))))
  (dss_one (ds_ret de_bl))
  dss_nil)
  (dss_frz 5 (dss_one (ds_ret (de_cmp op_le od_le (de_b1 (cr_sum rfl) cb_sum m_sum (by decide +kernel) (db_of (de_lc [("step", 6)] 6 rfl nd (di_list (dv 5)) (by kernel_rfl) (by decide) (fun _ _ _ _ _ => pg_name (i := 6) nd rfl (Or.inl rfl)) (fun _ _ _ _ _ => dts_nil) (fun _ _ _ _ _ => (de_ix (db 6) de_int))))) (dv 4))))))))))

theorem sc__law_budget : FnScope ["script", "at", "truth", "bounds", "last", "width", "most", "kind", "t"] ["script", "at", "truth", "bounds"] (defScope (top 50)) := ⟨rfl, rfl, rfl, by decide +kernel, rfl, by decide +kernel, by decide +kernel⟩
set_option maxHeartbeats 8000000 in
theorem cl__law_budget (T : Tx K mg) (C__law_draw : Cl P w K mg base CX0 2 "_law_draw" (S__law_draw (ads K))) (run : ∀ (x : (S__law_budget (ads K)).α), (S__law_budget (ads K)).pre x → p__law_budget (ads K) { nx := fun _ => (S__law_budget (ads K)).post x (.ok (.ro .non)), rt := fun r => (S__law_budget (ads K)).post x (.ok r), ex := fun e => (S__law_budget (ads K)).post x (.error e) } (startD ["script", "at", "truth", "bounds", "last", "width", "most", "kind", "t"] ((S__law_budget (ads K)).args x))) : Cl P w K mg base CX0 3 "_law_budget" (S__law_budget (ads K)) := by
  obtain ⟨fd, F⟩ := T.fn 36 (d := d__law_budget) rfl
  have mf := T.glo 36 (x := "_law_budget") rfl
  have m_int := T.free 63 (x := "int") rfl
  have m_len := T.free 60 (x := "len") rfl
  have m_max := T.free 67 (x := "max") rfl
  have m_range := T.free 61 (x := "range") rfl
  have nd := sc__law_budget.nd
  have b := F.bindsN (ps := ["script", "at", "truth", "bounds"]) fun _ _ _ _ _ _ us hl => match us, hl with | [_, _, _, _], _ => rfl
  refine ⟨⟨_, fd, ["script", "at", "truth", "bounds"], okD (N := ["script", "at", "truth", "bounds", "last", "width", "most", "kind", "t"]) (p := fun _ => p__law_budget (ads K)) F sc__law_budget (fun _ => rfl) (fun cdv Ar outer s0 H0 E hr => ?_) (fun x _ hx => run x hx), mf, F.kp, b⟩⟩
  unfold p__law_budget
  exact (dss_cons (ds_set 4 nd (de_op op_sub od_sub (de_b1 call_len_seq cb_len m_len (by decide +kernel) (db 2)) de_int))
  (dss_cons (ds_set 5 nd (de_op op_add od_add de_int (de_callC C__law_draw (hr.mono (by decide)) px0 (da_cons (dv 0) (da_cons (dv 1) (da_cons de_int (da_cons (dv 4) da_nil)))))))
  (dss_cons (ds_set 6 nd (de_op op_sub od_sub (de_op op_add od_add (de_b1 (cr_max rfl) cb_max m_max (by decide +kernel) (db_of (de_lc [("t", 8)] 8 rfl nd (di_rng2 m_range (da_cons (dv 5) (da_cons (de_op op_add od_add (dv 4) de_int) da_nil))) (by kernel_rfl) (by decide) (fun _ _ _ _ _ => pg_name (i := 8) nd rfl (Or.inl rfl)) (fun _ _ _ _ _ => dts_nil) (fun _ _ _ _ _ => (de_callTy call_int1 cd_int1 m_int (by decide +kernel) (da_cons (de_op op_sub od_sub (de_ix (db 2) (dv 8)) (de_ix (db 2) (de_op op_sub od_sub (dv 8) (dv 5)))) da_nil)))))) (de_callC C__law_draw (hr.mono (by decide)) px0 (da_cons (dv 0) (da_cons (dv 1) (da_cons de_int (da_cons de_int da_nil)))))) de_int))
  (dss_cons (ds_set 7 nd (de_callC C__law_draw (hr.mono (by decide)) px0 (da_cons (dv 0) (da_cons (dv 1) (da_cons de_int (da_cons de_int da_nil))))))
  (dss_cons (ds_if (dt_cmp op_eq od_eq (dv 7) de_int)
  (dss_one (ds_set 6 nd (de_op op_sub od_sub (de_op op_mul od_mul (de_ix (db 3) de_int) (dv 5)) (de_callC C__law_draw (hr.mono (by decide)) px0 (da_cons (dv 0) (da_cons (dv 1) (da_cons de_int (da_cons de_int da_nil))))))))
  dss_nil)
  (dss_cons (ds_if (dt_cmp op_eq od_eq (dv 7) de_int)
  (dss_one (ds_set 6 nd (de_op op_sub od_sub (de_op op_mul od_mul (de_ix (db 3) de_int) (dv 5)) (de_callC C__law_draw (hr.mono (by decide)) px0 (da_cons (dv 0) (da_cons (dv 1) (da_cons de_int (da_cons de_int da_nil))))))))
  dss_nil)
  (dss_cons (ds_if (dt_cmp op_eq od_eq (dv 7) de_int)
  (dss_one (ds_set 6 nd (de_ix (db_of (de_lst (da_cons (de_neg de_int) (da_cons (de_neg de_int) (da_cons de_int da_nil))))) (de_callC C__law_draw (hr.mono (by decide)) px0 (da_cons (dv 0) (da_cons (dv 1) (da_cons de_int (da_cons de_int da_nil))))))))
  dss_nil)
  (dss_one (ds_ret (de_tup (da_cons (dv 5) (da_cons (dv 6) da_nil))))))))))))

theorem sc__law_tied_budget : FnScope ["script", "at", "truth", "last", "width"] ["script", "at", "truth"] (defScope (top 51)) := ⟨rfl, rfl, rfl, by decide +kernel, rfl, by decide +kernel, by decide +kernel⟩
set_option maxHeartbeats 8000000 in
theorem cl__law_tied_budget (T : Tx K mg) (C__law_draw : Cl P w K mg base CX0 2 "_law_draw" (S__law_draw (ads K))) (run : ∀ (x : (S__law_tied_budget (ads K)).α), (S__law_tied_budget (ads K)).pre x → p__law_tied_budget (ads K) { nx := fun _ => (S__law_tied_budget (ads K)).post x (.ok (.ro .non)), rt := fun r => (S__law_tied_budget (ads K)).post x (.ok r), ex := fun e => (S__law_tied_budget (ads K)).post x (.error e) } (startD ["script", "at", "truth", "last", "width"] ((S__law_tied_budget (ads K)).args x))) : Cl P w K mg base CX0 3 "_law_tied_budget" (S__law_tied_budget (ads K)) := by
  obtain ⟨fd, F⟩ := T.fn 37 (d := d__law_tied_budget) rfl
  have mf := T.glo 37 (x := "_law_tied_budget") rfl
  have m_len := T.free 60 (x := "len") rfl
  have nd := sc__law_tied_budget.nd
  have b := F.bindsN (ps := ["script", "at", "truth"]) fun _ _ _ _ _ _ us hl => match us, hl with | [_, _, _], _ => rfl
  refine ⟨⟨_, fd, ["script", "at", "truth"], okD (N := ["script", "at", "truth", "last", "width"]) (p := fun _ => p__law_tied_budget (ads K)) F sc__law_tied_budget (fun _ => rfl) (fun cdv Ar outer s0 H0 E hr => ?_) (fun x _ hx => run x hx), mf, F.kp, b⟩⟩
  unfold p__law_tied_budget
  exact (dss_cons (ds_set 3 nd (de_op op_sub od_sub (de_b1 call_len_seq cb_len m_len (by decide +kernel) (db 2)) de_int))
  (dss_cons (ds_set 4 nd de_int)
  (dss_cons (ds_if (PWd.pt (dw_and (dt_cmp op_eq od_eq (dv 3) (de_op op_mul od_mul de_int (de_op op_fdiv od_fdiv (dv 3) de_int))) (dw_and1 (dt_cmp op_eq od_eq (de_callC C__law_draw (hr.mono (by decide)) px0 (da_cons (dv 0) (da_cons (dv 1) (da_cons de_int (da_cons de_int da_nil))))) de_int))))
  (dss_one (ds_set 4 nd (de_op op_fdiv od_fdiv (dv 3) de_int)))
  dss_nil)
  (dss_one (ds_ret (de_tup (da_cons (dv 4) (da_cons (de_op op_fdiv od_fdiv (de_op op_sub od_sub (de_ix (db 2) (dv 3)) de_int) (de_op op_fdiv od_fdiv (dv 3) (dv 4))) da_nil))))))))

theorem sc__law_over : FnScope ["row", "width", "most", "t"] ["row", "width", "most"] (defScope (top 52)) := ⟨rfl, rfl, rfl, by decide +kernel, rfl, by decide +kernel, by decide +kernel⟩
set_option maxHeartbeats 8000000 in
theorem cl__law_over (T : Tx K mg) (run : ∀ (x : (S__law_over (ads K)).α), (S__law_over (ads K)).pre x → p__law_over (ads K) { nx := fun _ => (S__law_over (ads K)).post x (.ok (.ro .non)), rt := fun r => (S__law_over (ads K)).post x (.ok r), ex := fun e => (S__law_over (ads K)).post x (.error e) } (startD ["row", "width", "most", "t"] ((S__law_over (ads K)).args x))) : Cl P w K mg base CX0 1 "_law_over" (S__law_over (ads K)) := by
  obtain ⟨fd, F⟩ := T.fn 38 (d := d__law_over) rfl
  have mf := T.glo 38 (x := "_law_over") rfl
  have m_len := T.free 60 (x := "len") rfl
  have m_range := T.free 61 (x := "range") rfl
  have nd := sc__law_over.nd
  have b := F.bindsN (ps := ["row", "width", "most"]) fun _ _ _ _ _ _ us hl => match us, hl with | [_, _, _], _ => rfl
  refine ⟨⟨_, fd, ["row", "width", "most"], okD (N := ["row", "width", "most", "t"]) (p := fun _ => p__law_over (ads K)) F sc__law_over (fun _ => rfl) (fun cdv Ar outer s0 H0 E hr => ?_) (fun x _ hx => run x hx), mf, F.kp, b⟩⟩
  unfold p__law_over
  exact (dss_one (ds_ret (de_cmp op_gt od_gt (de_b1 call_len_seq cb_len m_len (by decide +kernel) (db_of (de_lc [("t", 3)] 3 rfl nd (di_rng2 m_range (da_cons (dv 1) (da_cons (de_b1 call_len_seq cb_len m_len (by decide +kernel) (db 0)) da_nil))) (by kernel_rfl) (by decide) (fun _ _ _ _ _ => pg_name (i := 3) nd rfl (Or.inl rfl)) (fun _ _ _ _ _ => (dts_one (dt_cmp op_gt od_gt (de_op op_sub od_sub (de_ix (db 0) (dv 3)) (de_ix (db 0) (de_op op_sub od_sub (dv 3) (dv 1)))) (dv 2)))) (fun _ _ _ _ _ => (dv 3))))) de_int)))

theorem sc__law_limits : FnScope ["shift", "last", "width", "most", "t"] ["shift", "last", "width", "most"] (defScope (top 53)) := ⟨rfl, rfl, rfl, by decide +kernel, rfl, by decide +kernel, by decide +kernel⟩
set_option maxHeartbeats 8000000 in
theorem cl__law_limits (T : Tx K mg) (run : ∀ (x : (S__law_limits (ads K)).α), (S__law_limits (ads K)).pre x → p__law_limits (ads K) { nx := fun _ => (S__law_limits (ads K)).post x (.ok (.ro .non)), rt := fun r => (S__law_limits (ads K)).post x (.ok r), ex := fun e => (S__law_limits (ads K)).post x (.error e) } (startD ["shift", "last", "width", "most", "t"] ((S__law_limits (ads K)).args x))) : Cl P w K mg base CX0 1 "_law_limits" (S__law_limits (ads K)) := by
  obtain ⟨fd, F⟩ := T.fn 39 (d := d__law_limits) rfl
  have mf := T.glo 39 (x := "_law_limits") rfl
  have m_range := T.free 61 (x := "range") rfl
  have nd := sc__law_limits.nd
  have b := F.bindsN (ps := ["shift", "last", "width", "most"]) fun _ _ _ _ _ _ us hl => match us, hl with | [_, _, _, _], _ => rfl
  refine ⟨⟨_, fd, ["shift", "last", "width", "most"], okD (N := ["shift", "last", "width", "most", "t"]) (p := fun _ => p__law_limits (ads K)) F sc__law_limits (fun _ => rfl) (fun cdv Ar outer s0 H0 E hr => ?_) (fun x _ hx => run x hx), mf, F.kp, b⟩⟩
  unfold p__law_limits
  exact (dss_one (ds_ret (de_lc [("t", 4)] 4 rfl nd (di_rng2 m_range (da_cons (dv 2) (da_cons (de_op op_add od_add (dv 1) de_int) da_nil))) (by kernel_rfl) (by decide) (fun _ _ _ _ _ => pg_name (i := 4) nd rfl (Or.inl rfl)) (fun _ _ _ _ _ => dts_nil) (fun _ _ _ _ _ => (de_tup (da_cons (de_op op_sub od_sub (de_op op_add od_add (dv 0) (dv 4)) (dv 2)) (da_cons (de_op op_add od_add (dv 0) (dv 4)) (da_cons de_non (da_cons (dv 3) da_nil)))))))))

theorem sc__law_is_run : FnScope ["told", "due", "last", "rule", "value"] ["told", "due", "last"] (defScope (top 54)) := ⟨rfl, rfl, rfl, by decide +kernel, rfl, by decide +kernel, by decide +kernel⟩
set_option maxHeartbeats 8000000 in
theorem cl__law_is_run (T : Tx K mg) (C__law_is_number : Cl P w K mg base CX0 1 "_law_is_number" (S__law_is_number (ads K))) (run : ∀ (x : (S__law_is_run (ads K)).α), (S__law_is_run (ads K)).pre x → p__law_is_run (ads K) { nx := fun _ => (S__law_is_run (ads K)).post x (.ok (.ro .non)), rt := fun r => (S__law_is_run (ads K)).post x (.ok r), ex := fun e => (S__law_is_run (ads K)).post x (.error e) } (startD ["told", "due", "last", "rule", "value"] ((S__law_is_run (ads K)).args x))) : Cl P w K mg base CX0 2 "_law_is_run" (S__law_is_run (ads K)) := by
  obtain ⟨fd, F⟩ := T.fn 40 (d := d__law_is_run) rfl
  have mf := T.glo 40 (x := "_law_is_run") rfl
  have m_isinstance := T.free 62 (x := "isinstance") rfl
  have m_len := T.free 60 (x := "len") rfl
  have m_list := T.free 64 (x := "list") rfl
  have nd := sc__law_is_run.nd
  have b := F.bindsN (ps := ["told", "due", "last"]) fun _ _ _ _ _ _ us hl => match us, hl with | [_, _, _], _ => rfl
  refine ⟨⟨_, fd, ["told", "due", "last"], okD (N := ["told", "due", "last", "rule", "value"]) (p := fun _ => p__law_is_run (ads K)) F sc__law_is_run (fun _ => rfl) (fun cdv Ar outer s0 H0 E hr => ?_) (fun x _ hx => run x hx), mf, F.kp, b⟩⟩
  unfold p__law_is_run
  exact (dss_cons (ds_if (PWd.pt (dw_or (dt_not (dt_val (de_isi isT_list m_isinstance m_list (by decide +kernel) (dv 0)))) (dw_or1 (dt_cmp op_ne od_ne (de_b1 call_len_seq cb_len m_len (by decide +kernel) (db 0)) (de_op op_add od_add (dv 2) de_int)))))
  (dss_one (ds_ret de_bl))
  dss_nil)
  (dss_cons (ds_if (PWd.pt (dw_or (dt_cmp op_gt od_gt (de_b1 call_len_seq cb_len m_len (by decide +kernel) (db_of (de_lc [("value", 4)] 4 rfl nd (di_list (dv 0)) (by kernel_rfl) (by decide) (fun _ _ _ _ _ => pg_name (i := 4) nd rfl (Or.inl rfl)) (fun _ _ _ _ _ => (dts_one (dt_not (dt_val (de_callC C__law_is_number (hr.mono (by decide)) px0 (da_cons (dv 4) da_nil)))))) (fun _ _ _ _ _ => (dv 4))))) de_int) (dw_or1 (dt_cmp op_ne od_ne (de_ix (db 0) de_int) de_int))))
  (dss_one (ds_ret de_bl))
  dss_nil)
  (dss_cons (ds_for pxO rfl (di_list (dv 1)) (dg_name 3 nd)
  (dss_one (ds_if (dt_not (dt_chain op_le od_le op_le od_le (de_ix (db 3) de_int) (de_op op_sub od_sub (de_ix (db 0) (de_ix (db 3) de_int)) (de_ix (db 0) (de_ix (db 3) de_int))) (de_ix (db 3) de_int)))
  (dss_one (ds_ret de_bl))
  dss_nil)))
  (dss_one (ds_ret de_bl)))))

theorem sc__law_word : FnScope ["over", "many"] ["over", "many"] (defScope (top 56)) := ⟨rfl, rfl, rfl, by decide +kernel, rfl, by decide +kernel, by decide +kernel⟩
set_option maxHeartbeats 8000000 in
theorem cl__law_word (T : Tx K mg) (run : ∀ (x : (S__law_word (ads K)).α), (S__law_word (ads K)).pre x → p__law_word (ads K) { nx := fun _ => (S__law_word (ads K)).post x (.ok (.ro .non)), rt := fun r => (S__law_word (ads K)).post x (.ok r), ex := fun e => (S__law_word (ads K)).post x (.error e) } (startD ["over", "many"] ((S__law_word (ads K)).args x))) : Cl P w K mg base CX0 1 "_law_word" (S__law_word (ads K)) := by
  obtain ⟨fd, F⟩ := T.fn 42 (d := d__law_word) rfl
  have mf := T.glo 42 (x := "_law_word") rfl
  have nd := sc__law_word.nd
  have b := F.bindsN (ps := ["over", "many"]) fun _ _ _ _ _ _ us hl => match us, hl with | [_, _], _ => rfl
  refine ⟨⟨_, fd, ["over", "many"], okD (N := ["over", "many"]) (p := fun _ => p__law_word (ads K)) F sc__law_word (fun _ => rfl) (fun cdv Ar outer s0 H0 E hr => ?_) (fun x _ hx => run x hx), mf, F.kp, b⟩⟩
  unfold p__law_word
  exact (dss_cons (ds_if (dt_cmp op_eq od_eq (dv 0) (dv 1))
  (dss_one (ds_ret de_str))
  dss_nil)
  (dss_cons (ds_if (dt_cmp op_eq od_eq (dv 0) de_int)
  (dss_one (ds_ret de_str))
  dss_nil)
  (dss_one (ds_ret de_str))))

theorem sc__law_listed : FnScope ["rows", "width", "most", "states", "t", "row"] ["rows", "width", "most"] (defScope (top 57)) := ⟨rfl, rfl, rfl, by decide +kernel, rfl, by decide +kernel, by decide +kernel⟩
set_option maxHeartbeats 8000000 in
theorem cl__law_listed (T : Tx K mg) (C__law_over : Cl P w K mg base CX0 1 "_law_over" (S__law_over (ads K))) (C__law_word : Cl P w K mg base CX0 1 "_law_word" (S__law_word (ads K))) (run : ∀ (x : (S__law_listed (ads K)).α), (S__law_listed (ads K)).pre x → p__law_listed (ads K) { nx := fun _ => (S__law_listed (ads K)).post x (.ok (.ro .non)), rt := fun r => (S__law_listed (ads K)).post x (.ok r), ex := fun e => (S__law_listed (ads K)).post x (.error e) } (startD ["rows", "width", "most", "states", "t", "row"] ((S__law_listed (ads K)).args x))) : Cl P w K mg base CX0 2 "_law_listed" (S__law_listed (ads K)) := by
  obtain ⟨fd, F⟩ := T.fn 43 (d := d__law_listed) rfl
  have mf := T.glo 43 (x := "_law_listed") rfl
  have m_len := T.free 60 (x := "len") rfl
  have m_range := T.free 61 (x := "range") rfl
  have nd := sc__law_listed.nd
  have b := F.bindsN (ps := ["rows", "width", "most"]) fun _ _ _ _ _ _ us hl => match us, hl with | [_, _, _], _ => rfl
  refine ⟨⟨_, fd, ["rows", "width", "most"], okD (N := ["rows", "width", "most", "states", "t", "row"]) (p := fun _ => p__law_listed (ads K)) F sc__law_listed (fun _ => rfl) (fun cdv Ar outer s0 H0 E hr => ?_) (fun x _ hx => run x hx), mf, F.kp, b⟩⟩
  unfold p__law_listed
  exact (dss_cons (ds_set 3 nd (de_lst da_nil))
  (dss_cons (ds_for pxO rfl (di_rng2 m_range (da_cons (dv 1) (da_cons (de_b1 call_len_seq cb_len m_len (by decide +kernel) (db_of (de_ix (db 0) de_int))) da_nil))) (dg_name 4 nd)
  (dss_one (ds_app 3 (de_callC C__law_word (hr.mono (by decide)) px0 (da_cons (de_b1 call_len_seq cb_len m_len (by decide +kernel) (db_of (de_lc [("row", 5)] 5 rfl nd (di_list (dv 0)) (by kernel_rfl) (by decide) (fun _ _ _ _ _ => pg_name (i := 5) nd rfl (Or.inl rfl)) (fun _ _ _ _ _ => (dts_one (dt_cmp op_gt od_gt (de_op op_sub od_sub (de_ix (db 5) (dv 4)) (de_ix (db 5) (de_op op_sub od_sub (dv 4) (dv 1)))) (dv 2)))) (fun _ _ _ _ _ => (dv 5))))) (da_cons (de_b1 call_len_seq cb_len m_len (by decide +kernel) (db 0)) da_nil))) (hm := fun _ h => pe_bm PySem.F.plainAttrs_list PySem.F.slot_list_append PySem.F.type_list_append mt_append (pv 3) (pa_cons h pa_nil)))))
  (dss_frz 3 (dss_one (ds_ret (de_tup (da_cons (dv 3) (da_cons (de_callC C__law_word (hr.mono (by decide)) px0 (da_cons (de_b1 call_len_seq cb_len m_len (by decide +kernel) (db_of (de_lc [("row", 5)] 5 rfl nd (di_list (dv 0)) (by kernel_rfl) (by decide) (fun _ _ _ _ _ => pg_name (i := 5) nd rfl (Or.inl rfl)) (fun _ _ _ _ _ => (dts_one (dt_val (de_callC C__law_over (hr.mono (by decide)) px0 (da_cons (dv 5) (da_cons (dv 1) (da_cons (dv 2) da_nil))))))) (fun _ _ _ _ _ => (dv 5))))) (da_cons (de_b1 call_len_seq cb_len m_len (by decide +kernel) (db 0)) da_nil))) da_nil))))))))

theorem sc__law_reckoned : FnScope ["table", "due", "width", "most", "last", "states", "t"] ["table", "due", "width", "most"] (defScope (top 59)) := ⟨rfl, rfl, rfl, by decide +kernel, rfl, by decide +kernel, by decide +kernel⟩
set_option maxHeartbeats 8000000 in
theorem cl__law_reckoned (T : Tx K mg) (C__law_limits : Cl P w K mg base CX0 1 "_law_limits" (S__law_limits (ads K))) (C__law_relaxed : Cl P w K mg base CX0 1 "_law_relaxed" (S__law_relaxed (ads K))) (run : ∀ (x : (S__law_reckoned (ads K)).α), (S__law_reckoned (ads K)).pre x → p__law_reckoned (ads K) { nx := fun _ => (S__law_reckoned (ads K)).post x (.ok (.ro .non)), rt := fun r => (S__law_reckoned (ads K)).post x (.ok r), ex := fun e => (S__law_reckoned (ads K)).post x (.error e) } (startD ["table", "due", "width", "most", "last", "states", "t"] ((S__law_reckoned (ads K)).args x))) : Cl P w K mg base CX0 2 "_law_reckoned" (S__law_reckoned (ads K)) := by
  obtain ⟨fd, F⟩ := T.fn 45 (d := d__law_reckoned) rfl
  have mf := T.glo 45 (x := "_law_reckoned") rfl
  have m_len := T.free 60 (x := "len") rfl
  have m_range := T.free 61 (x := "range") rfl
  have nd := sc__law_reckoned.nd
  have b := F.bindsN (ps := ["table", "due", "width", "most"]) fun _ _ _ _ _ _ us hl => match us, hl with | [_, _, _, _], _ => rfl
  refine ⟨⟨_, fd, ["table", "due", "width", "most"], okD (N := ["table", "due", "width", "most", "last", "states", "t"]) (p := fun _ => p__law_reckoned (ads K)) F sc__law_reckoned (fun _ => rfl) (fun cdv Ar outer s0 H0 E hr => ?_) (fun x _ hx => run x hx), mf, F.kp, b⟩⟩
  unfold p__law_reckoned
  exact (dss_cons (ds_set 4 nd (de_op op_sub od_sub (de_b1 call_len_seq cb_len m_len (by decide +kernel) (db 0)) de_int))
  (dss_cons (ds_set 5 nd (de_lst da_nil))
  (dss_cons (ds_for pxO rfl (di_rng2 m_range (da_cons (dv 2) (da_cons (de_op op_add od_add (dv 4) de_int) da_nil))) (dg_name 6 nd)
  (dss_one (ds_if (dt_cmp op_gt od_gt (de_neg (de_ix (db_of (de_ix (db 0) (dv 6))) (de_op op_sub od_sub (dv 6) (dv 2)))) (dv 3))
  (dss_one (ds_app 5 de_str (hm := fun _ h => pe_bm PySem.F.plainAttrs_list PySem.F.slot_list_append PySem.F.type_list_append mt_append (pv 5) (pa_cons h pa_nil))))
  (dss_one (ds_if (dt_cmp op_le od_le (de_ix (db_of (de_ix (db 0) (de_op op_sub od_sub (dv 6) (dv 2)))) (dv 6)) (dv 3))
  (dss_one (ds_app 5 de_str (hm := fun _ h => pe_bm PySem.F.plainAttrs_list PySem.F.slot_list_append PySem.F.type_list_append mt_append (pv 5) (pa_cons h pa_nil))))
  (dss_one (ds_app 5 de_str (hm := fun _ h => pe_bm PySem.F.plainAttrs_list PySem.F.slot_list_append PySem.F.type_list_append mt_append (pv 5) (pa_cons h pa_nil)))))))))
  (dss_frz 5 (dss_cons (ds_if (dt_cmp op_isN od_isN (de_callC C__law_relaxed (hr.mono (by decide)) px0 (da_cons (de_op op_rep od_rep (de_lst (da_cons de_int da_nil)) (de_op op_add od_add (dv 4) de_int)) (da_cons (de_op op_cat od_cat (dv 1) (de_callC C__law_limits (hr.mono (by decide)) px0 (da_cons de_int (da_cons (dv 4) (da_cons (dv 2) (da_cons (dv 3) da_nil)))))) da_nil))) de_non)
  (dss_frz 5 (dss_one (ds_ret (de_tup (da_cons (dv 5) (da_cons de_str da_nil))))))
  dss_nil)
  (dss_frz 5 (dss_cons (ds_if (dt_cmp op_eq od_eq (de_b1 call_len_seq cb_len m_len (by decide +kernel) (db_of (de_lc [("t", 6)] 6 rfl nd (di_rng2 m_range (da_cons (dv 2) (da_cons (de_op op_add od_add (dv 4) de_int) da_nil))) (by kernel_rfl) (by decide) (fun _ _ _ _ _ => pg_name (i := 6) nd rfl (Or.inl rfl)) (fun _ _ _ _ _ => (dts_one (dt_cmp op_gt od_gt (de_ix (db_of (de_ix (db 0) (de_op op_sub od_sub (dv 6) (dv 2)))) (dv 6)) (dv 3)))) (fun _ _ _ _ _ => (dv 6))))) de_int)
  (dss_frz 5 (dss_one (ds_ret (de_tup (da_cons (dv 5) (da_cons de_str da_nil))))))
  dss_nil)
  (dss_frz 5 (dss_one (ds_ret (de_tup (da_cons (dv 5) (da_cons de_str da_nil)))))))))))))

theorem sc__law_shown : FnScope ["told", "word", "due", "last", "width", "most", "k"] ["told", "word", "due", "last", "width", "most"] (defScope (top 60)) := ⟨rfl, rfl, rfl, by decide +kernel, rfl, by decide +kernel, by decide +kernel⟩
set_option maxHeartbeats 8000000 in
theorem cl__law_shown (T : Tx K mg) (C__law_is_low_ring : Cl P w K mg base CX0 3 "_law_is_low_ring" (S__law_is_low_ring (ads K))) (C__law_is_run : Cl P w K mg base CX0 2 "_law_is_run" (S__law_is_run (ads K))) (C__law_is_way : Cl P w K mg base CX0 3 "_law_is_way" (S__law_is_way (ads K))) (C__law_limits : Cl P w K mg base CX0 1 "_law_limits" (S__law_limits (ads K))) (C__law_over : Cl P w K mg base CX0 1 "_law_over" (S__law_over (ads K))) (run : ∀ (x : (S__law_shown (ads K)).α), (S__law_shown (ads K)).pre x → p__law_shown (ads K) { nx := fun _ => (S__law_shown (ads K)).post x (.ok (.ro .non)), rt := fun r => (S__law_shown (ads K)).post x (.ok r), ex := fun e => (S__law_shown (ads K)).post x (.error e) } (startD ["told", "word", "due", "last", "width", "most", "k"] ((S__law_shown (ads K)).args x))) : Cl P w K mg base CX0 4 "_law_shown" (S__law_shown (ads K)) := by
  obtain ⟨fd, F⟩ := T.fn 46 (d := d__law_shown) rfl
  have mf := T.glo 46 (x := "_law_shown") rfl
  have m_isinstance := T.free 62 (x := "isinstance") rfl
  have m_len := T.free 60 (x := "len") rfl
  have m_list := T.free 64 (x := "list") rfl
  have m_range := T.free 61 (x := "range") rfl
  have m_str := T.free 70 (x := "str") rfl
  have m_tuple := T.free 65 (x := "tuple") rfl
  have nd := sc__law_shown.nd
  have b := F.bindsN (ps := ["told", "word", "due", "last", "width", "most"]) fun _ _ _ _ _ _ us hl => match us, hl with | [_, _, _, _, _, _], _ => rfl
  refine ⟨⟨_, fd, ["told", "word", "due", "last", "width", "most"], okD (N := ["told", "word", "due", "last", "width", "most", "k"]) (p := fun _ => p__law_shown (ads K)) F sc__law_shown (fun _ => rfl) (fun cdv Ar outer s0 H0 E hr => ?_) (fun x _ hx => run x hx), mf, F.kp, b⟩⟩
  unfold p__law_shown
  exact (dss_cons (ds_if (PWd.pt (dw_or (dt_not (dt_val (de_isi isT_tuple m_isinstance m_tuple (by decide +kernel) (dv 0)))) (dw_or (dt_cmp op_lt od_lt (de_b1 call_len_seq cb_len m_len (by decide +kernel) (db 0)) de_int) (dw_or (dt_not (dt_val (de_isi isT_str m_isinstance m_str (by decide +kernel) (de_ix (db 0) de_int)))) (dw_or1 (dt_cmp op_ne od_ne (de_ix (db 0) de_int) (dv 1)))))))
  (dss_one (ds_ret de_bl))
  dss_nil)
  (dss_cons (ds_if (dt_cmp op_eq od_eq (dv 1) de_str)
  (dss_one (ds_ret (de_and (de_cmp op_eq od_eq (de_b1 call_len_seq cb_len m_len (by decide +kernel) (db 0)) de_int) (de_one (de_callC C__law_is_low_ring (hr.mono (by decide)) px0 (da_cons (de_ix (db 0) de_int) (da_cons (de_op op_cat od_cat (dv 2) (de_callC C__law_limits (hr.mono (by decide)) px0 (da_cons de_int (da_cons (dv 3) (da_cons (dv 4) (da_cons (dv 5) da_nil)))))) da_nil)))))))
  dss_nil)
  (dss_cons (ds_if (dt_cmp op_eq od_eq (dv 1) de_str)
  (dss_cons (ds_if (PWd.pt (dw_or (dt_cmp op_ne od_ne (de_b1 call_len_seq cb_len m_len (by decide +kernel) (db 0)) de_int) (dw_or (dt_not (dt_val (de_isi isT_list m_isinstance m_list (by decide +kernel) (de_ix (db 0) de_int)))) (dw_or1 (dt_cmp op_ne od_ne (de_b1 call_len_seq cb_len m_len (by decide +kernel) (db_of (de_ix (db 0) de_int))) (de_op op_add od_add (de_op op_sub od_sub (dv 3) (dv 4)) de_int))))))
  (dss_one (ds_ret de_bl))
  dss_nil)
  (dss_cons (ds_for pxO rfl (di_rng1 m_range (da_cons (de_b1 call_len_seq cb_len m_len (by decide +kernel) (db_of (de_ix (db 0) de_int))) da_nil)) (dg_name 6 nd)
  (dss_one (ds_if (dt_not (dt_val (de_callC C__law_is_way (hr.mono (by decide)) px0 (da_cons (de_ix (db_of (de_ix (db 0) de_int)) (dv 6)) (da_cons (dv 2) (da_cons (dv 6) (da_cons (de_op op_add od_add (dv 6) (dv 4)) (da_cons (dv 5) da_nil))))))))
  (dss_one (ds_ret de_bl))
  dss_nil)))
  (dss_one (ds_ret de_bl))))
  dss_nil)
  (dss_cons (ds_if (PWd.pt (dw_or (dt_cmp op_ne od_ne (de_b1 call_len_seq cb_len m_len (by decide +kernel) (db 0)) de_int) (dw_or (dt_not (dt_val (de_callC C__law_is_run (hr.mono (by decide)) px0 (da_cons (de_ix (db 0) de_int) (da_cons (dv 2) (da_cons (dv 3) da_nil)))))) (dw_or1 (dt_not (dt_val (de_callC C__law_is_run (hr.mono (by decide)) px0 (da_cons (de_ix (db 0) de_int) (da_cons (dv 2) (da_cons (dv 3) da_nil))))))))))
  (dss_one (ds_ret de_bl))
  dss_nil)
  (dss_one (ds_ret (de_and (de_callC C__law_over (hr.mono (by decide)) px0 (da_cons (de_ix (db 0) de_int) (da_cons (dv 4) (da_cons (dv 5) da_nil)))) (de_one (de_not (de_callC C__law_over (hr.mono (by decide)) px0 (da_cons (de_ix (db 0) de_int) (da_cons (dv 4) (da_cons (dv 5) da_nil)))))))))))))

end
end Pu
set_option maxHeartbeats 200000
/-! S43t: tables of costs, promises of what writes them. -/
namespace Pu
open PySem PySem.Spec PyProof.Rows L2
abbrev Tab := List (List (Option Int))
def cell (T : Tab) (i j : Nat) : Option Int := (T.getD i []).getD j none
def setC (T : Tab) (i j : Nat) (v : Option Int) : Tab := T.set i ((T.getD i []).set j v)
def lowC (T : Tab) (i j : Nat) (c : Int) : Tab := match cell T i j with
  | none => setC T i j (some c)
  | some y => if c < y then setC T i j (some c) else T
def midE (m i : Nat) (f : Int) (T : Tab) (e : Nat) : Tab := match cell T m e with
  | none => T
  | some s => lowC T i e (f + s)
def midS (n m : Nat) (T : Tab) (i : Nat) : Tab := match cell T i m with
  | none => T
  | some f => (List.range n).foldl (midE m i f) T
def midM (n : Nat) (T : Tab) (m : Nat) : Tab := (List.range n).foldl (midS n m) T
def midsC (n : Nat) (T : Tab) : Tab := (List.range n).foldl (midM n) T
def optLow (T : Tab) (i j : Nat) : Option Int → Tab
  | none => T
  | some c => lowC T i j c
def factC (T : Tab) (f : Fact) : Tab := optLow (optLow T f.a f.b f.hi) f.b f.a (f.lo.map fun l => -l)
def diagC (n : Nat) : Tab := (List.range n).foldl (fun T k => setC T k k (some 0)) (List.replicate n (List.replicate n none))
def stepC (n : Nat) (fs : List Fact) : Tab := fs.foldl factC (diagC n)
structure Sq (n : Nat) (T : Tab) : Prop where
  len : T.length = n
  row : ∀ r ∈ T, r.length = n
def tD (T : Tab) : List (List D) := T.map fun r => r.map oD
def S_keep_lower (A : Ads) : SpecT where
  α := Nat × Tab × Nat × Nat × Int
  rows := fun x => tD x.2.1
  args := fun x => [.int x.2.2.1, .int x.2.2.2.1, .int x.2.2.2.2]
  pre := fun x => Sq x.1 x.2.1 ∧ x.2.2.1 < x.1 ∧ x.2.2.2.1 < x.1
  post := fun x rows' => rows' = tD (lowC x.2.1 x.2.2.1 x.2.2.2.1 x.2.2.2.2)
def S_add_middles (A : Ads) : SpecT where
  α := Nat × Tab
  rows := fun x => tD x.2
  args := fun _ => []
  pre := fun x => Sq x.1 x.2 ∧ x.1 ≤ 1000
  post := fun x rows' => rows' = tD (midsC x.1 x.2)
def S_step_costs (A : Ads) : SpecD where
  α := Nat × List Fact
  args := fun x => [.int x.1, factsD x.2]
  pre := fun x => FactsOk x.1 x.2 ∧ x.1 ≤ 1000
  post := fun x r => ∃ q qs, qs.length = x.1 ∧ r = .ok (.tab q qs (tD (stepC x.1 x.2)))
end Pu
namespace Pu
open PySem PySem.Spec PyProof.Rows L2
/-- keep_lower(costs 0, start 1, end 2, cost 3, stored 4) -/
def p_keep_lower (A : Ads) : TSd :=
  (pSeq (pAsg 4 (pIx (pAdr 0 (pIx (pVarB 0) (pVar 1))) (pVar 2)))
  (pIf (pOr (pB (pOp (dIsN false) (pVar 4) (pC .non))) (pB (pOp dLt (pVar 3) (pVar 4))))
  (pSetA 0 (pIx (pVarB 0) (pVar 1)) (pVar 2) (pVar 3))
  pNext))

/-- add_middles(costs 0, points 1, middle 2, start 3, first 4, end 5, second 6) -/
def p_add_middles (A : Ads) : TSd :=
  (pSeq (pAsg 1 (pB1 dLen (pVarB 0)))
  (pFor (qRng1 (pCons (pVar 1) pNil)) (gN 2)
  (pFor (qRng1 (pCons (pVar 1) pNil)) (gN 3)
  (pSeq (pAsg 4 (pIx (pAdr 0 (pIx (pVarB 0) (pVar 3))) (pVar 2)))
  (pIf (pB (pOp (dIsN true) (pVar 4) (pC .non)))
  (pFor (qRng1 (pCons (pVar 1) pNil)) (gN 5)
  (pSeq (pAsg 6 (pIx (pAdr 0 (pIx (pVarB 0) (pVar 2))) (pVar 5)))
  (pIf (pB (pOp (dIsN true) (pVar 6) (pC .non)))
  (pCallT 0 (S_keep_lower A) (pCons (pVar 3) (pCons (pVar 5) (pCons (pOp dAdd (pVar 4) (pVar 6)) pNil))))
  pNext)))
  pNext)))))

/-- step_costs(points 0, facts 1, costs 2, point 3, a 4, b 5, least 6, greatest 7, start 8) -/
def p_step_costs (A : Ads) : TSd :=
  (pSeq (pAsg 2 (pLcT (qRng1 (pCons (pVar 0) pNil)) 8 [8] (pOp dRep (pLst (pCons (pC .non) pNil)) (pVar 0))))
  (pSeq (pFor (qRng1 (pCons (pVar 0) pNil)) (gN 3)
  (pSetA 2 (pIx (pVarB 2) (pVar 3)) (pVar 3) (pC (.int 0))))
  (pSeq (pFor (qList (pVar 1)) (gT (gsCons (gN 4) (gsCons (gN 5) (gsCons (gN 6) (gsCons (gN 7) gsNil)))))
  (pSeq (pIf (pB (pOp (dIsN true) (pVar 7) (pC .non)))
  (pCallT 2 (S_keep_lower A) (pCons (pVar 4) (pCons (pVar 5) (pCons (pVar 7) pNil))))
  pNext)
  (pIf (pB (pOp (dIsN true) (pVar 6) (pC .non)))
  (pCallT 2 (S_keep_lower A) (pCons (pVar 5) (pCons (pVar 4) (pCons (pNeg (pVar 6)) pNil))))
  pNext)))
  (pRetV 2))))

/-- least_costs(points 0, facts 1, costs 2, word 3, found 4) -/
def p_least_costs (A : Ads) : TSd :=
  (pSeq (pAsgG (pCall (S_heights_or_ring A) (pCons (pVar 0) (pCons (pVar 1) pNil))) (gT (gsCons (gN 3) (gsCons (gN 4) gsNil))))
  (pSeq (pIf (pB (pOp dEqq (pVar 3) (pC (.str "ring"))))
  (pRaiseF A.NoHeights "ring" (pCons (pVar 4) pNil))
  pNext)
  (pSeq (pAsg 2 (pCall (S_step_costs A) (pCons (pVar 0) (pCons (pVar 1) pNil))))
  (pSeq (pCallT 2 (S_add_middles A) pNil)
  (pRetF 2)))))

/-- _law_table(last 0, due 1, table 2, rule 3, middle 4, through 5, line 6, a 7, first 8, b 9) -/
def p__law_table (A : Ads) : TSd :=
  (pSeq (pAsg 2 (pLcT (qRng1 (pCons (pOp dAdd (pVar 0) (pC (.int 1))) pNil)) 7 [7] (pOp dRep (pLst (pCons (pOp dPow (pC (.int 10)) (pC (.int 15))) pNil)) (pOp dAdd (pVar 0) (pC (.int 1))))))
  (pSeq (pFor (qList (pVar 1)) (gN 3)
  (pSeq (pSetA 2 (pIx (pVarB 2) (pIx (pVarB 3) (pC (.int 0)))) (pIx (pVarB 3) (pC (.int 1))) (pCB dMin2 (pCons (pCB dInt1 (pCons (pIx (pAdr 2 (pIx (pVarB 2) (pIx (pVarB 3) (pC (.int 0))))) (pIx (pVarB 3) (pC (.int 1)))) pNil)) (pCons (pIx (pVarB 3) (pC (.int 3))) pNil))))
  (pSetA 2 (pIx (pVarB 2) (pIx (pVarB 3) (pC (.int 1)))) (pIx (pVarB 3) (pC (.int 0))) (pCB dMin2 (pCons (pCB dInt1 (pCons (pIx (pAdr 2 (pIx (pVarB 2) (pIx (pVarB 3) (pC (.int 1))))) (pIx (pVarB 3) (pC (.int 0)))) pNil)) (pCons (pNeg (pIx (pVarB 3) (pC (.int 2)))) pNil))))))
  (pSeq (pFor (qRng1 (pCons (pOp dAdd (pVar 0) (pC (.int 1))) pNil)) (gN 4)
  (pSetA 2 (pIx (pVarB 2) (pVar 4)) (pVar 4) (pC (.int 0))))
  (pSeq (pFor (qRng1 (pCons (pOp dAdd (pVar 0) (pC (.int 1))) pNil)) (gN 4)
  (pSeq (pAsg 5 (pIx (pVarB 2) (pVar 4)))
  (pFor (qList (pB1 dList (pVarB 2))) (gN 6)
  (pSeq (pAsg 8 (pIx (pAdr 2 (pVar 6)) (pVar 4)))
  (pFor (qRng1 (pCons (pOp dAdd (pVar 0) (pC (.int 1))) pNil)) (gN 9)
  (pIf (pB (pOp dLt (pOp dAdd (pVar 8) (pIx (pAdr 2 (pVar 5)) (pVar 9))) (pIx (pAdr 2 (pVar 6)) (pVar 9))))
  (pSetA 2 (pVar 6) (pVar 9) (pOp dAdd (pVar 8) (pIx (pAdr 2 (pVar 5)) (pVar 9))))
  pNext))))))
  (pRetF 2)))))

/-- budget_states(meter 0, width 1, most 2, costs 3, states 4, point 5, start 6) -/
def p_budget_states (A : Ads) : TSd :=
  (pSeq (pDrop (pCall (S_check_width A) (pCons (pVar 0) (pCons (pVar 1) pNil))))
  (pSeq (pAsg 3 (pCall (S_least_costs A) (pCons (pOp dAdd (pFld A.Meter "ticks" (pVar 0)) (pC (.int 1))) (pCons (pCall (S_meter_facts A) (pCons (pVar 0) pNil)) pNil))))
  (pSeq (pAsg 4 (pLst pNil))
  (pSeq (pFor (qRng2 (pCons (pVar 1) (pCons (pOp dAdd (pFld A.Meter "ticks" (pVar 0)) (pC (.int 1))) pNil))) (gN 5)
  (pSeq (pAsg 6 (pOp dSub (pVar 5) (pVar 1)))
  (pIf (pB (pOp dGt (pNeg (pIx (pIx (pVarB 3) (pVar 5)) (pVar 6))) (pVar 2)))
  (pApp 4 (pC (.str "yes")))
  (pIf (pB (pOp dLe (pIx (pIx (pVarB 3) (pVar 6)) (pVar 5)) (pVar 2)))
  (pApp 4 (pC (.str "no")))
  (pApp 4 (pC (.str "open")))))))
  (pRetV 4)))))

/-- overspent(meter 0, width 1, most 2, points 3, facts 4, costs 5, limits 6, point 7, word 8, found 9, start 10, over 11, end 12) -/
def p_overspent (A : Ads) : TSd :=
  (pSeq (pDrop (pCall (S_check_width A) (pCons (pVar 0) (pCons (pVar 1) pNil))))
  (pSeq (pAsg 3 (pOp dAdd (pFld A.Meter "ticks" (pVar 0)) (pC (.int 1))))
  (pSeq (pAsg 4 (pCall (S_meter_facts A) (pCons (pVar 0) pNil)))
  (pFrz 4 (pSeq (pAsg 5 (pCall (S_least_costs A) (pCons (pVar 3) (pCons (pVar 4) pNil))))
  (pSeq (pAsg 6 (pCall (S_limit_facts A) (pCons (pFld A.Meter "ticks" (pVar 0)) (pCons (pVar 1) (pCons (pVar 2) (pCons (pC (.int 0)) pNil))))))
  (pFrz 6 (pFrz 4 (pSeq (pAsgG (pCall (S_heights_or_ring A) (pCons (pVar 3) (pCons (pOp dCat (pVar 4) (pVar 6)) pNil))) (gT (gsCons (gN 8) (gsCons (gN 9) gsNil))))
  (pSeq (pIf (pB (pOp dEqq (pVar 8) (pC (.str "ring"))))
  (pRet (pTup (pCons (pC (.str "yes")) (pCons (pVar 9) pNil))))
  pNext)
  (pFrz 4 (pSeq (pFor (qRng2 (pCons (pVar 1) (pCons (pVar 3) pNil))) (gN 7)
  (pSeq (pAsg 10 (pOp dSub (pVar 7) (pVar 1)))
  (pFrz 4 (pIf (pB (pOp dGt (pIx (pIx (pVarB 5) (pVar 10)) (pVar 7)) (pVar 2)))
  (pFrz 4 (pSeq (pAsg 11 (pCall (S_heights_or_ring A) (pCons (pVar 3) (pCons (pOp dCat (pVar 4) (pLst (pCons (pTup (pCons (pVar 10) (pCons (pVar 7) (pCons (pOp dAdd (pVar 2) (pC (.int 1))) (pCons (pC .non) pNil))))) pNil))) pNil))))
  (pRet (pTup (pCons (pC (.str "open")) (pCons (pIx (pVarB 11) (pC (.int 1))) (pCons (pVar 9) pNil)))))))
  pNext))))
  (pFrz 4 (pRet (pTup (pCons (pC (.str "no")) (pCons (pLc (qRng2 (pCons (pVar 1) (pCons (pVar 3) pNil))) 12 [12] tY (pCall (S_cheapest_way A) (pCons (pVar 3) (pCons (pVar 4) (pCons (pOp dSub (pVar 12) (pVar 1)) (pCons (pVar 12) pNil)))))) pNil)))))))))))))))))

end Pu
set_option maxHeartbeats 4000000
namespace Pu
open PySem PySem.Spec PyProof.Rows L2
section
variable {P : Program} {w : World} {K : PySem.W.Frag} {mg : Str → Option Value} {base : Heap}
theorem sc_keep_lower : FnScope ["costs", "start", "end", "cost", "stored"] ["costs", "start", "end", "cost"] (defScope (top 22)) := ⟨rfl, rfl, rfl, by decide +kernel, rfl, by decide +kernel, by decide +kernel⟩
set_option maxHeartbeats 8000000 in
theorem cl_keep_lower (T : Tx K mg) (run : ∀ (x : (S_keep_lower (ads K)).α) (q : Addr) (qs : List Addr), (S_keep_lower (ads K)).pre x → qs.length = ((S_keep_lower (ads K)).rows x).length → p_keep_lower (ads K) { nx := fun ρ => ∃ rows', ρ[0]? = some (some (.tab q qs rows')) ∧ (S_keep_lower (ads K)).post x rows', rt := fun _ => False, ex := fun _ => False } (startT ["costs", "start", "end", "cost", "stored"] q qs ((S_keep_lower (ads K)).rows x) ((S_keep_lower (ads K)).args x))) : ClT P w K mg base 1 "keep_lower" (S_keep_lower (ads K)) := by
  obtain ⟨fd, F⟩ := T.fn 11 (d := d_keep_lower) rfl
  have mf := T.glo 11 (x := "keep_lower") rfl
  have nd := sc_keep_lower.nd
  have b := F.bindsN (ps := ["costs", "start", "end", "cost"]) fun _ _ _ _ _ _ us hl => match us, hl with | [_, _, _, _], _ => rfl
  refine ⟨⟨_, fd, ["costs", "start", "end", "cost"], okTab (N := ["costs", "start", "end", "cost", "stored"]) (p := p_keep_lower (ads K)) F sc_keep_lower (fun _ => rfl) (fun cdv Ar outer s0 H0 E hr => ?_) run, mf, F.kp, b⟩⟩
  unfold p_keep_lower
  exact (dss_cons (ds_set 4 nd (de_ix (db_adr 0 (de_ix (db 0) (dv 1))) (dv 2)))
  (dss_one (ds_if (PWd.pt (dw_or (dt_cmp op_isN od_isN (dv 4) de_non) (dw_or1 (dt_cmp op_lt od_lt (dv 3) (dv 4)))))
  (dss_one (ds_setA 0 (dv 3) (de_ix (db 0) (dv 1)) (dv 2)))
  dss_nil)))

theorem sc_add_middles : FnScope ["costs", "points", "middle", "start", "first", "end", "second"] ["costs"] (defScope (top 24)) := ⟨rfl, rfl, rfl, by decide +kernel, rfl, by decide +kernel, by decide +kernel⟩
set_option maxHeartbeats 8000000 in
theorem cl_add_middles (T : Tx K mg) (C_keep_lower : ClT P w K mg base 1 "keep_lower" (S_keep_lower (ads K))) (run : ∀ (x : (S_add_middles (ads K)).α) (q : Addr) (qs : List Addr), (S_add_middles (ads K)).pre x → qs.length = ((S_add_middles (ads K)).rows x).length → p_add_middles (ads K) { nx := fun ρ => ∃ rows', ρ[0]? = some (some (.tab q qs rows')) ∧ (S_add_middles (ads K)).post x rows', rt := fun _ => False, ex := fun _ => False } (startT ["costs", "points", "middle", "start", "first", "end", "second"] q qs ((S_add_middles (ads K)).rows x) ((S_add_middles (ads K)).args x))) : ClT P w K mg base 2 "add_middles" (S_add_middles (ads K)) := by
  obtain ⟨fd, F⟩ := T.fn 13 (d := d_add_middles) rfl
  have mf := T.glo 13 (x := "add_middles") rfl
  have m_len := T.free 60 (x := "len") rfl
  have m_range := T.free 61 (x := "range") rfl
  have nd := sc_add_middles.nd
  have b := F.bindsN (ps := ["costs"]) fun _ _ _ _ _ _ us hl => match us, hl with | [_], _ => rfl
  refine ⟨⟨_, fd, ["costs"], okTab (N := ["costs", "points", "middle", "start", "first", "end", "second"]) (p := p_add_middles (ads K)) F sc_add_middles (fun _ => rfl) (fun cdv Ar outer s0 H0 E hr => ?_) run, mf, F.kp, b⟩⟩
  unfold p_add_middles
  exact (dss_cons (ds_set 1 nd (de_b1 call_len_seq cb_len m_len (by decide +kernel) (db 0)))
  (dss_one (ds_for pxO rfl (di_rng1 m_range (da_cons (dv 1) da_nil)) (dg_name 2 nd)
  (dss_one (ds_for pxO rfl (di_rng1 m_range (da_cons (dv 1) da_nil)) (dg_name 3 nd)
  (dss_cons (ds_set 4 nd (de_ix (db_adr 0 (de_ix (db 0) (dv 3))) (dv 2)))
  (dss_one (ds_if (dt_cmp op_notN od_notN (dv 4) de_non)
  (dss_one (ds_for pxO rfl (di_rng1 m_range (da_cons (dv 1) da_nil)) (dg_name 5 nd)
  (dss_cons (ds_set 6 nd (de_ix (db_adr 0 (de_ix (db 0) (dv 2))) (dv 5)))
  (dss_one (ds_if (dt_cmp op_notN od_notN (dv 6) de_non)
  (dss_one (ds_callT 0 C_keep_lower (hr.mono (by decide)) (da_cons (dv 3) (da_cons (dv 5) (da_cons (de_op op_add od_add (dv 4) (dv 6)) da_nil)))))
  dss_nil)))))
  dss_nil))))))))

theorem sc_step_costs : FnScope ["points", "facts", "costs", "point", "a", "b", "least", "greatest", "start"] ["points", "facts"] (defScope (top 23)) := ⟨rfl, rfl, rfl, by decide +kernel, rfl, by decide +kernel, by decide +kernel⟩
set_option maxHeartbeats 8000000 in
theorem cl_step_costs (T : Tx K mg) (C_keep_lower : ClT P w K mg base 1 "keep_lower" (S_keep_lower (ads K))) (run : ∀ (x : (S_step_costs (ads K)).α), (S_step_costs (ads K)).pre x → p_step_costs (ads K) { nx := fun _ => (S_step_costs (ads K)).post x (.ok (.ro .non)), rt := fun r => (S_step_costs (ads K)).post x (.ok r), ex := fun e => (S_step_costs (ads K)).post x (.error e) } (startD ["points", "facts", "costs", "point", "a", "b", "least", "greatest", "start"] ((S_step_costs (ads K)).args x))) : Cl P w K mg base CX0 2 "step_costs" (S_step_costs (ads K)) := by
  obtain ⟨fd, F⟩ := T.fn 12 (d := d_step_costs) rfl
  have mf := T.glo 12 (x := "step_costs") rfl
  have m_range := T.free 61 (x := "range") rfl
  have nd := sc_step_costs.nd
  have b := F.bindsN (ps := ["points", "facts"]) fun _ _ _ _ _ _ us hl => match us, hl with | [_, _], _ => rfl
  refine ⟨⟨_, fd, ["points", "facts"], okD (N := ["points", "facts", "costs", "point", "a", "b", "least", "greatest", "start"]) (p := fun _ => p_step_costs (ads K)) F sc_step_costs (fun _ => rfl) (fun cdv Ar outer s0 H0 E hr => ?_) (fun x _ hx => run x hx), mf, F.kp, b⟩⟩
  unfold p_step_costs
  exact (dss_cons (ds_setLcT 2 [("start", 8)] 8 rfl nd (sw_true rfl rfl rfl (by decide +kernel)) (di_rng1 m_range (da_cons (dv 0) da_nil)) (by kernel_rfl) (by decide) (fun _ _ _ _ _ => pg_name (i := 8) nd rfl (Or.inl rfl)) (fun _ _ _ _ _ => (de_op op_rep od_rep (de_lst (da_cons de_non da_nil)) (dv 0))))
  (dss_cons (ds_for pxO rfl (di_rng1 m_range (da_cons (dv 0) da_nil)) (dg_name 3 nd)
  (dss_one (ds_setA 2 de_int (de_ix (db 2) (dv 3)) (dv 3))))
  (dss_cons (ds_for pxO rfl (di_list (dv 1)) (dg_tup rfl (dgs_cons (dg_name 4 nd) (dgs_cons (dg_name 5 nd) (dgs_cons (dg_name 6 nd) (dgs_cons (dg_name 7 nd) dgs_nil)))) (gs_len (gs_len (gs_len (gs_len (fun _ _ _ => gs_nil_len))))))
  (dss_cons (ds_if (dt_cmp op_notN od_notN (dv 7) de_non)
  (dss_one (ds_callT 2 C_keep_lower (hr.mono (by decide)) (da_cons (dv 4) (da_cons (dv 5) (da_cons (dv 7) da_nil)))))
  dss_nil)
  (dss_one (ds_if (dt_cmp op_notN od_notN (dv 6) de_non)
  (dss_one (ds_callT 2 C_keep_lower (hr.mono (by decide)) (da_cons (dv 5) (da_cons (dv 4) (da_cons (de_neg (dv 6)) da_nil)))))
  dss_nil))))
  (dss_one (ds_retV 2)))))

theorem sc_least_costs : FnScope ["points", "facts", "costs", "word", "found"] ["points", "facts"] (defScope (top 25)) := ⟨rfl, rfl, rfl, by decide +kernel, rfl, by decide +kernel, by decide +kernel⟩
set_option maxHeartbeats 8000000 in
theorem cl_least_costs (T : Tx K mg) (C_add_middles : ClT P w K mg base 2 "add_middles" (S_add_middles (ads K))) (C_heights_or_ring : Cl P w K mg base (L2N.CX P w) 4 "heights_or_ring" (S_heights_or_ring (ads K))) (C_step_costs : Cl P w K mg base CX0 2 "step_costs" (S_step_costs (ads K))) (X_NoHeights : RFb P w K mg base 1 (ads K).NoHeights "NoHeights" "ring") (run : ∀ (x : (S_least_costs (ads K)).α), (S_least_costs (ads K)).pre x → p_least_costs (ads K) { nx := fun _ => (S_least_costs (ads K)).post x (.ok (.ro .non)), rt := fun r => (S_least_costs (ads K)).post x (.ok r), ex := fun e => (S_least_costs (ads K)).post x (.error e) } (startD ["points", "facts", "costs", "word", "found"] ((S_least_costs (ads K)).args x))) : Cl P w K mg base (L2N.CX P w) 5 "least_costs" (S_least_costs (ads K)) := by
  obtain ⟨fd, F⟩ := T.fn 14 (d := d_least_costs) rfl
  have mf := T.glo 14 (x := "least_costs") rfl
  have nd := sc_least_costs.nd
  have b := F.bindsN (ps := ["points", "facts"]) fun _ _ _ _ _ _ us hl => match us, hl with | [_, _], _ => rfl
  refine ⟨⟨_, fd, ["points", "facts"], okD (N := ["points", "facts", "costs", "word", "found"]) (p := fun _ => p_least_costs (ads K)) F sc_least_costs (fun _ => rfl) (fun cdv Ar outer s0 H0 E hr => ?_) (fun x _ hx => run x hx), mf, F.kp, b⟩⟩
  have pxR := pxR_of (P := P) (w := w) (K := K) (mg := mg) (base := base) (N := ["points", "facts", "costs", "word", "found"]) (qual := d_least_costs.qual) (scope := d_least_costs.scope) (f := He.fAd K d_least_costs.at_) (cd := cdv) (A := Ar) (outer := outer) (s := s0) (H := H0) (E := E)
  unfold p_least_costs
  exact (dss_cons (ds_asg (de_callC C_heights_or_ring (hr.mono (by decide)) pxR (da_cons (dv 0) (da_cons (dv 1) da_nil))) (dg_tup rfl (dgs_cons (dg_name 3 nd) (dgs_cons (dg_name 4 nd) dgs_nil)) (gs_len (gs_len (fun _ _ _ => gs_nil_len)))))
  (dss_cons (ds_if (dt_cmp op_eq od_eq (dv 3) de_str)
  (dss_one (ds_raiseFC X_NoHeights rfl pxT (hr.mono (by decide)) (da_cons (dv 4) da_nil)))
  dss_nil)
  (dss_cons (ds_set 2 nd (de_callC C_step_costs (hr.mono (by decide)) px0 (da_cons (dv 0) (da_cons (dv 1) da_nil))))
  (dss_cons (ds_callT 2 C_add_middles (hr.mono (by decide)) da_nil)
  (dss_one (ds_retF 2))))))

theorem sc__law_table : FnScope ["last", "due", "table", "rule", "middle", "through", "line", "a", "first", "b"] ["last", "due"] (defScope (top 58)) := ⟨rfl, rfl, rfl, by decide +kernel, rfl, by decide +kernel, by decide +kernel⟩
set_option maxHeartbeats 8000000 in
theorem cl__law_table (T : Tx K mg) (run : ∀ (x : (S__law_table (ads K)).α), (S__law_table (ads K)).pre x → p__law_table (ads K) { nx := fun _ => (S__law_table (ads K)).post x (.ok (.ro .non)), rt := fun r => (S__law_table (ads K)).post x (.ok r), ex := fun e => (S__law_table (ads K)).post x (.error e) } (startD ["last", "due", "table", "rule", "middle", "through", "line", "a", "first", "b"] ((S__law_table (ads K)).args x))) : Cl P w K mg base CX0 1 "_law_table" (S__law_table (ads K)) := by
  obtain ⟨fd, F⟩ := T.fn 44 (d := d__law_table) rfl
  have mf := T.glo 44 (x := "_law_table") rfl
  have m_int := T.free 63 (x := "int") rfl
  have m_list := T.free 64 (x := "list") rfl
  have m_min := T.free 66 (x := "min") rfl
  have m_range := T.free 61 (x := "range") rfl
  have nd := sc__law_table.nd
  have b := F.bindsN (ps := ["last", "due"]) fun _ _ _ _ _ _ us hl => match us, hl with | [_, _], _ => rfl
  refine ⟨⟨_, fd, ["last", "due"], okD (N := ["last", "due", "table", "rule", "middle", "through", "line", "a", "first", "b"]) (p := fun _ => p__law_table (ads K)) F sc__law_table (fun _ => rfl) (fun cdv Ar outer s0 H0 E hr => ?_) (fun x _ hx => run x hx), mf, F.kp, b⟩⟩
  unfold p__law_table
  exact (dss_cons (ds_setLcT 2 [("a", 7)] 7 rfl nd (sw_true rfl rfl rfl (by decide +kernel)) (di_rng1 m_range (da_cons (de_op op_add od_add (dv 0) de_int) da_nil)) (by kernel_rfl) (by decide) (fun _ _ _ _ _ => pg_name (i := 7) nd rfl (Or.inl rfl)) (fun _ _ _ _ _ => (de_op op_rep od_rep (de_lst (da_cons (de_op op_pow od_pow de_int de_int) da_nil)) (de_op op_add od_add (dv 0) de_int))))
  (dss_cons (ds_for pxO rfl (di_list (dv 1)) (dg_name 3 nd)
  (dss_cons (ds_setA 2 (de_callB (call_min2 rfl) cd_min2 m_min (by decide +kernel) (da_cons (de_callTy call_int1 cd_int1 m_int (by decide +kernel) (da_cons (de_ix (db_adr 2 (de_ix (db 2) (de_ix (db 3) de_int))) (de_ix (db 3) de_int)) da_nil)) (da_cons (de_ix (db 3) de_int) da_nil))) (de_ix (db 2) (de_ix (db 3) de_int)) (de_ix (db 3) de_int))
  (dss_one (ds_setA 2 (de_callB (call_min2 rfl) cd_min2 m_min (by decide +kernel) (da_cons (de_callTy call_int1 cd_int1 m_int (by decide +kernel) (da_cons (de_ix (db_adr 2 (de_ix (db 2) (de_ix (db 3) de_int))) (de_ix (db 3) de_int)) da_nil)) (da_cons (de_neg (de_ix (db 3) de_int)) da_nil))) (de_ix (db 2) (de_ix (db 3) de_int)) (de_ix (db 3) de_int)))))
  (dss_cons (ds_for pxO rfl (di_rng1 m_range (da_cons (de_op op_add od_add (dv 0) de_int) da_nil)) (dg_name 4 nd)
  (dss_one (ds_setA 2 de_int (de_ix (db 2) (dv 4)) (dv 4))))
  (dss_cons (ds_for pxO rfl (di_rng1 m_range (da_cons (de_op op_add od_add (dv 0) de_int) da_nil)) (dg_name 4 nd)
  (dss_cons (ds_set 5 nd (de_ix (db 2) (dv 4)))
  (dss_one (ds_for pxO rfl (di_list (de_b1Ty call_list_of cb_list m_list (by decide +kernel) (db 2))) (dg_name 6 nd)
  (dss_cons (ds_set 8 nd (de_ix (db_adr 2 (dv 6)) (dv 4)))
  (dss_one (ds_for pxO rfl (di_rng1 m_range (da_cons (de_op op_add od_add (dv 0) de_int) da_nil)) (dg_name 9 nd)
  (dss_one (ds_if (dt_cmp op_lt od_lt (de_op op_add od_add (dv 8) (de_ix (db_adr 2 (dv 5)) (dv 9))) (de_ix (db_adr 2 (dv 6)) (dv 9)))
  (dss_one (ds_setA 2 (de_op op_add od_add (dv 8) (de_ix (db_adr 2 (dv 5)) (dv 9))) (dv 6) (dv 9)))
  dss_nil)))))))))
  (dss_one (ds_retF 2))))))

theorem sc_budget_states : FnScope ["meter", "width", "most", "costs", "states", "point", "start"] ["meter", "width", "most"] (defScope (top 32)) := ⟨rfl, rfl, rfl, by decide +kernel, rfl, by decide +kernel, by decide +kernel⟩
set_option maxHeartbeats 8000000 in
theorem cl_budget_states (T : Tx K mg) (C_check_width : Cl P w K mg base (L2N.CX P w) 1 "check_width" (S_check_width (ads K))) (C_least_costs : Cl P w K mg base (L2N.CX P w) 5 "least_costs" (S_least_costs (ads K))) (C_meter_facts : Cl P w K mg base CX0 1 "meter_facts" (S_meter_facts (ads K))) (run : ∀ (x : (S_budget_states (ads K)).α), (S_budget_states (ads K)).pre x → p_budget_states (ads K) { nx := fun _ => (S_budget_states (ads K)).post x (.ok (.ro .non)), rt := fun r => (S_budget_states (ads K)).post x (.ok r), ex := fun e => (S_budget_states (ads K)).post x (.error e) } (startD ["meter", "width", "most", "costs", "states", "point", "start"] ((S_budget_states (ads K)).args x))) : Cl P w K mg base (L2N.CX P w) 6 "budget_states" (S_budget_states (ads K)) := by
  obtain ⟨fd, F⟩ := T.fn 19 (d := d_budget_states) rfl
  have mf := T.glo 19 (x := "budget_states") rfl
  have c_Meter := T.cls 77 (x := "Meter") rfl
  have m_range := T.free 61 (x := "range") rfl
  have n_Meter_ticks := T.noat 82 (x := "Meter") (f := "ticks") rfl
  have nd := sc_budget_states.nd
  have b := F.bindsN (ps := ["meter", "width", "most"]) fun _ _ _ _ _ _ us hl => match us, hl with | [_, _, _], _ => rfl
  refine ⟨⟨_, fd, ["meter", "width", "most"], okD (N := ["meter", "width", "most", "costs", "states", "point", "start"]) (p := fun _ => p_budget_states (ads K)) F sc_budget_states (fun _ => rfl) (fun cdv Ar outer s0 H0 E hr => ?_) (fun x _ hx => run x hx), mf, F.kp, b⟩⟩
  have pxR := pxR_of (P := P) (w := w) (K := K) (mg := mg) (base := base) (N := ["meter", "width", "most", "costs", "states", "point", "start"]) (qual := d_budget_states.qual) (scope := d_budget_states.scope) (f := He.fAd K d_budget_states.at_) (cd := cdv) (A := Ar) (outer := outer) (s := s0) (H := H0) (E := E)
  unfold p_budget_states
  exact (dss_cons (ds_expr (de_callC C_check_width (hr.mono (by decide)) pxR (da_cons (dv 0) (da_cons (dv 1) da_nil))))
  (dss_cons (ds_set 3 nd (de_callC C_least_costs (hr.mono (by decide)) pxR (da_cons (de_op op_add od_add (de_fld c_Meter n_Meter_ticks (dv 0)) de_int) (da_cons (de_callC C_meter_facts (hr.mono (by decide)) px0 (da_cons (dv 0) da_nil)) da_nil))))
  (dss_cons (ds_set 4 nd (de_lst da_nil))
  (dss_cons (ds_for pxO rfl (di_rng2 m_range (da_cons (dv 1) (da_cons (de_op op_add od_add (de_fld c_Meter n_Meter_ticks (dv 0)) de_int) da_nil))) (dg_name 5 nd)
  (dss_cons (ds_set 6 nd (de_op op_sub od_sub (dv 5) (dv 1)))
  (dss_one (ds_if (dt_cmp op_gt od_gt (de_neg (de_ix (db_of (de_ix (db 3) (dv 5))) (dv 6))) (dv 2))
  (dss_one (ds_app 4 de_str (hm := fun _ h => pe_bm PySem.F.plainAttrs_list PySem.F.slot_list_append PySem.F.type_list_append mt_append (pv 4) (pa_cons h pa_nil))))
  (dss_one (ds_if (dt_cmp op_le od_le (de_ix (db_of (de_ix (db 3) (dv 6))) (dv 5)) (dv 2))
  (dss_one (ds_app 4 de_str (hm := fun _ h => pe_bm PySem.F.plainAttrs_list PySem.F.slot_list_append PySem.F.type_list_append mt_append (pv 4) (pa_cons h pa_nil))))
  (dss_one (ds_app 4 de_str (hm := fun _ h => pe_bm PySem.F.plainAttrs_list PySem.F.slot_list_append PySem.F.type_list_append mt_append (pv 4) (pa_cons h pa_nil))))))))))
  (dss_one (ds_retV 4))))))

theorem sc_overspent : FnScope ["meter", "width", "most", "points", "facts", "costs", "limits", "point", "word", "found", "start", "over", "end"] ["meter", "width", "most"] (defScope (top 33)) := ⟨rfl, rfl, rfl, by decide +kernel, rfl, by decide +kernel, by decide +kernel⟩
set_option maxHeartbeats 8000000 in
theorem cl_overspent (T : Tx K mg) (C_cheapest_way : Cl P w K mg base (L2N.CX P w) 6 "cheapest_way" (S_cheapest_way (ads K))) (C_check_width : Cl P w K mg base (L2N.CX P w) 1 "check_width" (S_check_width (ads K))) (C_heights_or_ring : Cl P w K mg base (L2N.CX P w) 4 "heights_or_ring" (S_heights_or_ring (ads K))) (C_least_costs : Cl P w K mg base (L2N.CX P w) 5 "least_costs" (S_least_costs (ads K))) (C_limit_facts : Cl P w K mg base CX0 1 "limit_facts" (S_limit_facts (ads K))) (C_meter_facts : Cl P w K mg base CX0 1 "meter_facts" (S_meter_facts (ads K))) (run : ∀ (x : (S_overspent (ads K)).α), (S_overspent (ads K)).pre x → p_overspent (ads K) { nx := fun _ => (S_overspent (ads K)).post x (.ok (.ro .non)), rt := fun r => (S_overspent (ads K)).post x (.ok r), ex := fun e => (S_overspent (ads K)).post x (.error e) } (startD ["meter", "width", "most", "points", "facts", "costs", "limits", "point", "word", "found", "start", "over", "end"] ((S_overspent (ads K)).args x))) : Cl P w K mg base (L2N.CX P w) 7 "overspent" (S_overspent (ads K)) := by
  obtain ⟨fd, F⟩ := T.fn 20 (d := d_overspent) rfl
  have mf := T.glo 20 (x := "overspent") rfl
  have c_Meter := T.cls 77 (x := "Meter") rfl
  have m_range := T.free 61 (x := "range") rfl
  have n_Meter_ticks := T.noat 82 (x := "Meter") (f := "ticks") rfl
  have nd := sc_overspent.nd
  have b := F.bindsN (ps := ["meter", "width", "most"]) fun _ _ _ _ _ _ us hl => match us, hl with | [_, _, _], _ => rfl
  refine ⟨⟨_, fd, ["meter", "width", "most"], okD (N := ["meter", "width", "most", "points", "facts", "costs", "limits", "point", "word", "found", "start", "over", "end"]) (p := fun _ => p_overspent (ads K)) F sc_overspent (fun _ => rfl) (fun cdv Ar outer s0 H0 E hr => ?_) (fun x _ hx => run x hx), mf, F.kp, b⟩⟩
  have pxR := pxR_of (P := P) (w := w) (K := K) (mg := mg) (base := base) (N := ["meter", "width", "most", "points", "facts", "costs", "limits", "point", "word", "found", "start", "over", "end"]) (qual := d_overspent.qual) (scope := d_overspent.scope) (f := He.fAd K d_overspent.at_) (cd := cdv) (A := Ar) (outer := outer) (s := s0) (H := H0) (E := E)
  unfold p_overspent
  exact (dss_cons (ds_expr (de_callC C_check_width (hr.mono (by decide)) pxR (da_cons (dv 0) (da_cons (dv 1) da_nil))))
  (dss_cons (ds_set 3 nd (de_op op_add od_add (de_fld c_Meter n_Meter_ticks (dv 0)) de_int))
  (dss_cons (ds_set 4 nd (de_callC C_meter_facts (hr.mono (by decide)) px0 (da_cons (dv 0) da_nil)))
  (dss_frz 4 (dss_cons (ds_set 5 nd (de_callC C_least_costs (hr.mono (by decide)) pxR (da_cons (dv 3) (da_cons (dv 4) da_nil))))
  (dss_cons (ds_set 6 nd (de_callC C_limit_facts (hr.mono (by decide)) px0 (da_cons (de_fld c_Meter n_Meter_ticks (dv 0)) (da_cons (dv 1) (da_cons (dv 2) (da_cons de_int da_nil))))))
  (dss_frz 6 (dss_frz 4 (dss_cons (ds_asg (de_callC C_heights_or_ring (hr.mono (by decide)) pxR (da_cons (dv 3) (da_cons (de_op op_cat od_cat (dv 4) (dv 6)) da_nil))) (dg_tup rfl (dgs_cons (dg_name 8 nd) (dgs_cons (dg_name 9 nd) dgs_nil)) (gs_len (gs_len (fun _ _ _ => gs_nil_len)))))
  (dss_cons (ds_if (dt_cmp op_eq od_eq (dv 8) de_str)
  (dss_one (ds_ret (de_tup (da_cons de_str (da_cons (dv 9) da_nil)))))
  dss_nil)
  (dss_frz 4 (dss_cons (ds_for pxO rfl (di_rng2 m_range (da_cons (dv 1) (da_cons (dv 3) da_nil))) (dg_name 7 nd)
  (dss_cons (ds_set 10 nd (de_op op_sub od_sub (dv 7) (dv 1)))
  (dss_frz 4 (dss_one (ds_if (dt_cmp op_gt od_gt (de_ix (db_of (de_ix (db 5) (dv 10))) (dv 7)) (dv 2))
  (dss_frz 4 (dss_cons (ds_set 11 nd (de_callC C_heights_or_ring (hr.mono (by decide)) pxR (da_cons (dv 3) (da_cons (de_op op_cat od_cat (dv 4) (de_lst (da_cons (de_tup (da_cons (dv 10) (da_cons (dv 7) (da_cons (de_op op_add od_add (dv 2) de_int) (da_cons de_non da_nil))))) da_nil))) da_nil))))
  (dss_one (ds_ret (de_tup (da_cons de_str (da_cons (de_ix (db 11) de_int) (da_cons (dv 9) da_nil))))))))
  dss_nil)))))
  (dss_frz 4 (dss_one (ds_ret (de_tup (da_cons de_str (da_cons (de_lc [("end", 12)] 12 rfl nd (di_rng2 m_range (da_cons (dv 1) (da_cons (dv 3) da_nil))) (by kernel_rfl) (by decide) (fun _ _ _ _ _ => pg_name (i := 12) nd rfl (Or.inl rfl)) (fun _ _ _ _ _ => dts_nil) (fun _ _ _ _ _ => (de_callC C_cheapest_way (hr.mono (by decide)) pxL (da_cons (dv 3) (da_cons (dv 4) (da_cons (de_op op_sub od_sub (dv 12) (dv 1)) (da_cons (dv 12) da_nil))))))) da_nil))))))))))))))))))

end
end Pu
set_option maxHeartbeats 200000
namespace Pu
open PySem PySem.Spec PyProof.Rows L2
/-- _law_answers(last 0, bounds 1, due 2, budgets 3, large 4, table 5, rows 6, budget 7) -/
def p__law_answers (A : Ads) : TSd :=
  (pFrz 6 (pSeq (pIf (pNot (pB (pVar 4)))
  (pSeq (pAsg 6 (pCall (S__law_readings A) (pCons (pVar 0) (pCons (pVar 1) (pCons (pVar 2) pNil)))))
  (pFrz 6 (pSeq (pIf (pB (pOp (dEqN false) (pVar 6) (pLst pNil)))
  (pRet (pLst pNil))
  pNext)
  (pFrz 6 (pRet (pLc (qList (pVar 3)) 7 [7] tY (pCall (S__law_listed A) (pCons (pVar 6) (pCons (pIx (pVarB 7) (pC (.int 0))) (pCons (pIx (pVarB 7) (pC (.int 1))) pNil))))))))))
  pNext)
  (pSeq (pIf (pB (pOp (dIsN false) (pCall (S__law_relaxed A) (pCons (pOp dRep (pLst (pCons (pC (.int 0)) pNil)) (pOp dAdd (pVar 0) (pC (.int 1)))) (pCons (pVar 2) pNil))) (pC .non)))
  (pRet (pLst pNil))
  pNext)
  (pSeq (pAsg 5 (pCall (S__law_table A) (pCons (pVar 0) (pCons (pVar 2) pNil))))
  (pRet (pLc (qList (pVar 3)) 7 [7] tY (pCall (S__law_reckoned A) (pCons (pVar 5) (pCons (pVar 2) (pCons (pIx (pVarB 7) (pC (.int 0))) (pCons (pIx (pVarB 7) (pC (.int 1))) pNil)))))))))))

end Pu
set_option maxHeartbeats 4000000
namespace Pu
open PySem PySem.Spec PyProof.Rows L2
section
variable {P : Program} {w : World} {K : PySem.W.Frag} {mg : Str → Option Value} {base : Heap}
theorem sc__law_answers : FnScope ["last", "bounds", "due", "budgets", "large", "table", "rows", "budget"] ["last", "bounds", "due", "budgets", "large"] (defScope (top 66)) := ⟨rfl, rfl, rfl, by decide +kernel, rfl, by decide +kernel, by decide +kernel⟩
set_option maxHeartbeats 8000000 in
theorem cl__law_answers (T : Tx K mg) (C__law_listed : Cl P w K mg base CX0 2 "_law_listed" (S__law_listed (ads K))) (C__law_readings : Cl P w K mg base CX0 1 "_law_readings" (S__law_readings (ads K))) (C__law_reckoned : Cl P w K mg base CX0 2 "_law_reckoned" (S__law_reckoned (ads K))) (C__law_relaxed : Cl P w K mg base CX0 1 "_law_relaxed" (S__law_relaxed (ads K))) (C__law_table : Cl P w K mg base CX0 1 "_law_table" (S__law_table (ads K))) (run : ∀ (x : (S__law_answers (ads K)).α), (S__law_answers (ads K)).pre x → p__law_answers (ads K) { nx := fun _ => (S__law_answers (ads K)).post x (.ok (.ro .non)), rt := fun r => (S__law_answers (ads K)).post x (.ok r), ex := fun e => (S__law_answers (ads K)).post x (.error e) } (startD ["last", "bounds", "due", "budgets", "large", "table", "rows", "budget"] ((S__law_answers (ads K)).args x))) : Cl P w K mg base CX0 3 "_law_answers" (S__law_answers (ads K)) := by
  obtain ⟨fd, F⟩ := T.fn 52 (d := d__law_answers) rfl
  have mf := T.glo 52 (x := "_law_answers") rfl
  have nd := sc__law_answers.nd
  have b := F.bindsN (ps := ["last", "bounds", "due", "budgets", "large"]) fun _ _ _ _ _ _ us hl => match us, hl with | [_, _, _, _, _], _ => rfl
  refine ⟨⟨_, fd, ["last", "bounds", "due", "budgets", "large"], okD (N := ["last", "bounds", "due", "budgets", "large", "table", "rows", "budget"]) (p := fun _ => p__law_answers (ads K)) F sc__law_answers (fun _ => rfl) (fun cdv Ar outer s0 H0 E hr => ?_) (fun x _ hx => run x hx), mf, F.kp, b⟩⟩
  unfold p__law_answers
  exact (dss_frz 6 (dss_cons (ds_if (dt_not (dt_val (dv 4)))
  (dss_cons (ds_set 6 nd (de_callC C__law_readings (hr.mono (by decide)) px0 (da_cons (dv 0) (da_cons (dv 1) (da_cons (dv 2) da_nil)))))
  (dss_frz 6 (dss_cons (ds_if (dt_cmp (op_eqD hr.units) od_eqN (dv 6) (de_lst da_nil))
  (dss_one (ds_ret (de_lst da_nil)))
  dss_nil)
  (dss_frz 6 (dss_one (ds_ret (de_lc [("budget", 7)] 7 rfl nd (di_list (dv 3)) (by kernel_rfl) (by decide) (fun _ _ _ _ _ => pg_name (i := 7) nd rfl (Or.inl rfl)) (fun _ _ _ _ _ => dts_nil) (fun _ _ _ _ _ => (de_callC C__law_listed (hr.mono (by decide)) px0 (da_cons (dv 6) (da_cons (de_ix (db 7) de_int) (da_cons (de_ix (db 7) de_int) da_nil))))))))))))
  dss_nil)
  (dss_cons (ds_if (dt_cmp op_isN od_isN (de_callC C__law_relaxed (hr.mono (by decide)) px0 (da_cons (de_op op_rep od_rep (de_lst (da_cons de_int da_nil)) (de_op op_add od_add (dv 0) de_int)) (da_cons (dv 2) da_nil))) de_non)
  (dss_one (ds_ret (de_lst da_nil)))
  dss_nil)
  (dss_cons (ds_set 5 nd (de_callC C__law_table (hr.mono (by decide)) px0 (da_cons (dv 0) (da_cons (dv 2) da_nil))))
  (dss_one (ds_ret (de_lc [("budget", 7)] 7 rfl nd (di_list (dv 3)) (by kernel_rfl) (by decide) (fun _ _ _ _ _ => pg_name (i := 7) nd rfl (Or.inl rfl)) (fun _ _ _ _ _ => dts_nil) (fun _ _ _ _ _ => (de_callC C__law_reckoned (hr.mono (by decide)) px0 (da_cons (dv 5) (da_cons (dv 2) (da_cons (de_ix (db 7) de_int) (da_cons (de_ix (db 7) de_int) da_nil)))))))))))))

end
end Pu
set_option maxHeartbeats 200000
/-! S43v: promises of frozen, _law_same, Meter. -/
namespace Pu
open PySem PySem.Spec PyProof.Rows L2
def Scal (d : D) : Prop := (∃ i, d = .int i) ∨ ∃ s, d = .str s
def S_frz0 : SpecD where
  α := D
  args := fun d => [d]
  pre := Scal
  post := fun d r => r = okR d
def S_frz1 : SpecD where
  α := List D
  args := fun ds => [.tup ds]
  pre := fun ds => ds.length ≤ 1000 ∧ ∀ e ∈ ds, Scal e
  post := fun ds r => r = okR (.tup ds)
def S_frz2 : SpecD where
  α := List (List D)
  args := fun dss => [.lst (dss.map D.tup)]
  pre := fun dss => dss.length ≤ 1000 ∧ ∀ ds ∈ dss, ds.length ≤ 1000 ∧ ∀ e ∈ ds, Scal e
  post := fun dss r => r = okR (.tup (dss.map D.tup))
def Simp : Nat → D → Prop
  | 0, d => Scal d
  | n + 1, d => Scal d ∨ ∃ ds, (d = .tup ds ∨ d = .lst ds) ∧ ds.length ≤ 1000 ∧ ∀ e ∈ ds, Simp n e
def S_same (n : Nat) : SpecD where
  α := D
  args := fun d => [d, d]
  pre := Simp n
  post := fun _ r => r = okR (.bl true)
def S_Meter : SpecM where
  α := Mtr
  names := ["ticks", "low", "high", "facts"]
  args := fun m => [.int m.T, .int m.lo, .int m.hi, .lst (m.fs.map MF.d)]
  flds := fun m => [.int m.T, .int m.lo, .int m.hi, .tup (m.fs.map MF.d)]
  pre := fun m => m.Ok
def p_frz0 : TSd :=
  (pSeq (pIf (pB (pIsi (fun d => D.isList d || D.isTup d) (pVar 0)))
  (fun _ _ => False)
  pNext)
  (pRetV 0))
def p_frzT (SR : SpecD) : TSd :=
  (pSeq (pIf (pB (pIsi (fun d => D.isList d || D.isTup d) (pVar 0)))
  (pRet (pB1 dTuple (pLc (qTup (pVar 0)) 1 [1] tY (pCall SR (pCons (pVar 1) pNil)))))
  pNext)
  (pRetV 0))
def p_frzL (SR : SpecD) : TSd :=
  (pSeq (pIf (pB (pIsi (fun d => D.isList d || D.isTup d) (pVar 0)))
  (pRet (pB1 dTuple (pLc (qList (pVar 0)) 1 [1] tY (pCall SR (pCons (pVar 1) pNil)))))
  pNext)
  (pRetV 0))
def p_same (A : Ads) (inner : TSd) : TSd :=
  (pSeq (pIf (pB (pIsi (fun d => D.isList d || D.isTup d) (pVar 1)))
  inner
  pNext)
  (pSeq (pIf (pB (pOp (dIsN false) (pVar 1) (pC .non)))
  (pRet (pOp (dIsN false) (pVar 0) (pC .non)))
  pNext)
  (pSeq (pIf (pB (pIsi D.isStr (pVar 1)))
  (pRet (pAndV (pIsi D.isStr (pVar 0)) (pOp dEqq (pVar 0) (pVar 1))))
  pNext)
  (pRet (pAndV (pCall (S__law_is_number A) (pCons (pVar 0) pNil)) (pOp dEqq (pVar 0) (pVar 1)))))))
def p_same_in (SR : SpecD) : TSd :=
  (pSeq (pIf (pOr (pB (pOp dNe (pIsi D.isList (pVar 1)) (pIsi D.isList (pVar 0)))) (pB (pOp dNe (pIsi D.isTup (pVar 1)) (pIsi D.isTup (pVar 0)))))
  (pRet (pC (.bl false)))
  pNext)
  (pSeq (pIf (pB (pOp dNe (pB1 dLen (pVarB 0)) (pB1 dLen (pVarB 1))))
  (pRet (pC (.bl false)))
  pNext)
  (pSeq (pFor (qRng1 (pCons (pB1 dLen (pVarB 1)) pNil)) (gN 2)
  (pIf (pNot (pB (pCall SR (pCons (pIx (pVarB 0) (pVar 2)) (pCons (pIx (pVarB 1) (pVar 2)) pNil)))))
  (pRet (pC (.bl false)))
  pNext))
  (pRet (pC (.bl true))))))
end Pu
set_option maxHeartbeats 8000000
namespace Pu
open PySem PySem.Spec PyProof.Rows L2
section
variable {P : Program} {w : World} {K : PySem.W.Frag} {mg : Str → Option Value} {base : Heap}
theorem sc_frozen : FnScope ["value", "entry"] ["value"] (defScope (top 18)) := ⟨rfl, rfl, rfl, by decide +kernel, rfl, by decide +kernel, by decide +kernel⟩
theorem cl_frz0 (T : Tx K mg) (run : ∀ (x : S_frz0.α), S_frz0.pre x → p_frz0 (endZ S_frz0 x) (startD ["value", "entry"] (S_frz0.args x))) : Cl P w K mg base CX0 1 "frozen" S_frz0 := by
  obtain ⟨fd, F⟩ := T.fn 10 (d := d_frozen) rfl
  have mf := T.glo 10 (x := "frozen") rfl
  have m_isinstance := T.free 62 (x := "isinstance") rfl
  have m_list := T.free 64 (x := "list") rfl
  have m_tuple := T.free 65 (x := "tuple") rfl
  have nd := sc_frozen.nd
  have b := F.bindsN (ps := ["value"]) fun _ _ _ _ _ _ us hl => match us, hl with | [_], _ => rfl
  refine ⟨⟨_, fd, ["value"], okD (N := ["value", "entry"]) (p := fun _ => p_frz0) F sc_frozen (fun _ => rfl) (fun cdv Ar outer s0 H0 E hr => ?_) (fun x _ hx => run x hx), mf, F.kp, b⟩⟩
  unfold p_frz0
  exact (dss_cons (ds_if (dt_val (de_isi2 isT_list isT_tuple m_isinstance m_list (by decide +kernel) m_tuple (by decide +kernel) (dv 0)))
    dss_never
    dss_nil)
    (dss_one (ds_retV 0)))
theorem cl_frzT {SR S : SpecD} {k : Nat} (T : Tx K mg) (C_rec : Cl P w K mg base CX0 k "frozen" SR) (hl : ∀ x, (S.args x).length = 1) (run : ∀ (x : S.α), S.pre x → p_frzT SR (endZ S x) (startD ["value", "entry"] (S.args x))) : Cl P w K mg base CX0 (k + 1) "frozen" S := by
  obtain ⟨fd, F⟩ := T.fn 10 (d := d_frozen) rfl
  have mf := T.glo 10 (x := "frozen") rfl
  have m_isinstance := T.free 62 (x := "isinstance") rfl
  have m_list := T.free 64 (x := "list") rfl
  have m_tuple := T.free 65 (x := "tuple") rfl
  have nd := sc_frozen.nd
  have b := F.bindsN (ps := ["value"]) fun _ _ _ _ _ _ us hl => match us, hl with | [_], _ => rfl
  refine ⟨⟨_, fd, ["value"], okD (N := ["value", "entry"]) (p := fun _ => p_frzT SR) F sc_frozen hl (fun cdv Ar outer s0 H0 E hr => ?_) (fun x _ hx => run x hx), mf, F.kp, b⟩⟩
  unfold p_frzT
  exact (dss_cons (ds_if (dt_val (de_isi2 isT_list isT_tuple m_isinstance m_list (by decide +kernel) m_tuple (by decide +kernel) (dv 0)))
    (dss_one (ds_ret (de_b1Ty call_tuple_of cb_tuple m_tuple (by decide +kernel) (db_of (de_lc [("entry", 1)] 1 rfl nd (di_tup (dv 0)) (by kernel_rfl) (by decide) (fun _ _ _ _ _ => pg_name (i := 1) nd rfl (Or.inl rfl)) (fun _ _ _ _ _ => dts_nil) (fun _ _ _ _ _ => (de_callC C_rec hr px0 (da_cons (dv 1) da_nil))))))))
    dss_nil)
    (dss_one (ds_retV 0)))
theorem cl_frzL {SR S : SpecD} {k : Nat} (T : Tx K mg) (C_rec : Cl P w K mg base CX0 k "frozen" SR) (hl : ∀ x, (S.args x).length = 1) (run : ∀ (x : S.α), S.pre x → p_frzL SR (endZ S x) (startD ["value", "entry"] (S.args x))) : Cl P w K mg base CX0 (k + 1) "frozen" S := by
  obtain ⟨fd, F⟩ := T.fn 10 (d := d_frozen) rfl
  have mf := T.glo 10 (x := "frozen") rfl
  have m_isinstance := T.free 62 (x := "isinstance") rfl
  have m_list := T.free 64 (x := "list") rfl
  have m_tuple := T.free 65 (x := "tuple") rfl
  have nd := sc_frozen.nd
  have b := F.bindsN (ps := ["value"]) fun _ _ _ _ _ _ us hl => match us, hl with | [_], _ => rfl
  refine ⟨⟨_, fd, ["value"], okD (N := ["value", "entry"]) (p := fun _ => p_frzL SR) F sc_frozen hl (fun cdv Ar outer s0 H0 E hr => ?_) (fun x _ hx => run x hx), mf, F.kp, b⟩⟩
  unfold p_frzL
  exact (dss_cons (ds_if (dt_val (de_isi2 isT_list isT_tuple m_isinstance m_list (by decide +kernel) m_tuple (by decide +kernel) (dv 0)))
    (dss_one (ds_ret (de_b1Ty call_tuple_of cb_tuple m_tuple (by decide +kernel) (db_of (de_lc [("entry", 1)] 1 rfl nd (di_list (dv 0)) (by kernel_rfl) (by decide) (fun _ _ _ _ _ => pg_name (i := 1) nd rfl (Or.inl rfl)) (fun _ _ _ _ _ => dts_nil) (fun _ _ _ _ _ => (de_callC C_rec hr px0 (da_cons (dv 1) da_nil))))))))
    dss_nil)
    (dss_one (ds_retV 0)))
theorem sc__law_same : FnScope ["told", "due", "k"] ["told", "due"] (defScope (top 38)) := ⟨rfl, rfl, rfl, by decide +kernel, rfl, by decide +kernel, by decide +kernel⟩
theorem cl_same0 (T : Tx K mg) (C__law_is_number : Cl P w K mg base CX0 1 "_law_is_number" (S__law_is_number (ads K))) (run : ∀ (x : (S_same 0).α), (S_same 0).pre x → p_same (ads K) (fun _ _ => False) (endZ (S_same 0) x) (startD ["told", "due", "k"] ((S_same 0).args x))) : Cl P w K mg base CX0 2 "_law_same" (S_same 0) := by
  obtain ⟨fd, F⟩ := T.fn 24 (d := d__law_same) rfl
  have mf := T.glo 24 (x := "_law_same") rfl
  have m_len := T.free 60 (x := "len") rfl
  have m_range := T.free 61 (x := "range") rfl
  have m_isinstance := T.free 62 (x := "isinstance") rfl
  have m_list := T.free 64 (x := "list") rfl
  have m_tuple := T.free 65 (x := "tuple") rfl
  have m_str := T.free 70 (x := "str") rfl
  have nd := sc__law_same.nd
  have b := F.bindsN (ps := ["told", "due"]) fun _ _ _ _ _ _ us hl => match us, hl with | [_, _], _ => rfl
  have HN : 1 ≤ 1 := Nat.le_refl 1
  refine ⟨⟨_, fd, ["told", "due"], okD (N := ["told", "due", "k"]) (p := fun _ => p_same (ads K) (fun _ _ => False)) F sc__law_same (fun _ => rfl) (fun cdv Ar outer s0 H0 E hr => ?_) (fun x _ hx => run x hx), mf, F.kp, b⟩⟩
  unfold p_same
  exact (dss_cons (ds_if (dt_val (de_isi2 isT_list isT_tuple m_isinstance m_list (by decide +kernel) m_tuple (by decide +kernel) (dv 1)))
    dss_never
    dss_nil)
    (dss_cons (ds_if (dt_cmp op_isN od_isN (dv 1) de_non)
    (dss_one (ds_ret (de_cmp op_isN od_isN (dv 0) de_non)))
    dss_nil)
    (dss_cons (ds_if (dt_val (de_isi isT_str m_isinstance m_str (by decide +kernel) (dv 1)))
    (dss_one (ds_ret (de_and (de_isi isT_str m_isinstance m_str (by decide +kernel) (dv 0)) (de_one (de_cmp op_eq od_eq (dv 0) (dv 1))))))
    dss_nil)
    (dss_one (ds_ret (de_and (de_callC C__law_is_number (hr.mono HN) px0 (da_cons (dv 0) da_nil)) (de_one (de_cmp op_eq od_eq (dv 0) (dv 1)))))))))
theorem cl_sameS {n k : Nat} (hk : 1 ≤ k) (T : Tx K mg) (C__law_is_number : Cl P w K mg base CX0 1 "_law_is_number" (S__law_is_number (ads K))) (C_rec : Cl P w K mg base CX0 k "_law_same" (S_same n)) (run : ∀ (x : (S_same (n + 1)).α), (S_same (n + 1)).pre x → p_same (ads K) (p_same_in (S_same n)) (endZ (S_same (n + 1)) x) (startD ["told", "due", "k"] ((S_same (n + 1)).args x))) : Cl P w K mg base CX0 (k + 1) "_law_same" (S_same (n + 1)) := by
  obtain ⟨fd, F⟩ := T.fn 24 (d := d__law_same) rfl
  have mf := T.glo 24 (x := "_law_same") rfl
  have m_len := T.free 60 (x := "len") rfl
  have m_range := T.free 61 (x := "range") rfl
  have m_isinstance := T.free 62 (x := "isinstance") rfl
  have m_list := T.free 64 (x := "list") rfl
  have m_tuple := T.free 65 (x := "tuple") rfl
  have m_str := T.free 70 (x := "str") rfl
  have nd := sc__law_same.nd
  have b := F.bindsN (ps := ["told", "due"]) fun _ _ _ _ _ _ us hl => match us, hl with | [_, _], _ => rfl
  have HN : 1 ≤ k := hk
  refine ⟨⟨_, fd, ["told", "due"], okD (N := ["told", "due", "k"]) (p := fun _ => p_same (ads K) (p_same_in (S_same n))) F sc__law_same (fun _ => rfl) (fun cdv Ar outer s0 H0 E hr => ?_) (fun x _ hx => run x hx), mf, F.kp, b⟩⟩
  unfold p_same p_same_in
  exact (dss_cons (ds_if (dt_val (de_isi2 isT_list isT_tuple m_isinstance m_list (by decide +kernel) m_tuple (by decide +kernel) (dv 1)))
    (dss_cons (ds_if (PWd.pt (dw_or (dt_cmp op_ne od_ne (de_isi isT_list m_isinstance m_list (by decide +kernel) (dv 1)) (de_isi isT_list m_isinstance m_list (by decide +kernel) (dv 0))) (dw_or1 (dt_cmp op_ne od_ne (de_isi isT_tuple m_isinstance m_tuple (by decide +kernel) (dv 1)) (de_isi isT_tuple m_isinstance m_tuple (by decide +kernel) (dv 0))))))
    (dss_one (ds_ret de_bl))
    dss_nil)
    (dss_cons (ds_if (dt_cmp op_ne od_ne (de_b1 call_len_seq cb_len m_len (by decide +kernel) (db 0)) (de_b1 call_len_seq cb_len m_len (by decide +kernel) (db 1)))
    (dss_one (ds_ret de_bl))
    dss_nil)
    (dss_cons (ds_for pxO rfl (di_rng1 m_range (da_cons (de_b1 call_len_seq cb_len m_len (by decide +kernel) (db 1)) da_nil)) (dg_name 2 nd)
    (dss_one (ds_if (dt_not (dt_val (de_callC C_rec hr px0 (da_cons (de_ix (db 0) (dv 2)) (da_cons (de_ix (db 1) (dv 2)) da_nil)))))
    (dss_one (ds_ret de_bl))
    dss_nil)))
    (dss_one (ds_ret de_bl)))))
    dss_nil)
    (dss_cons (ds_if (dt_cmp op_isN od_isN (dv 1) de_non)
    (dss_one (ds_ret (de_cmp op_isN od_isN (dv 0) de_non)))
    dss_nil)
    (dss_cons (ds_if (dt_val (de_isi isT_str m_isinstance m_str (by decide +kernel) (dv 1)))
    (dss_one (ds_ret (de_and (de_isi isT_str m_isinstance m_str (by decide +kernel) (dv 0)) (de_one (de_cmp op_eq od_eq (dv 0) (dv 1))))))
    dss_nil)
    (dss_one (ds_ret (de_and (de_callC C__law_is_number (hr.mono HN) px0 (da_cons (dv 0) da_nil)) (de_one (de_cmp op_eq od_eq (dv 0) (dv 1)))))))))
end
end Pu
namespace Pu
open PySem PySem.Spec PyProof.Rows L2
section
variable {P : Program} {w : World} {K : PySem.W.Frag} {mg : Str → Option Value} {base : Heap}
def MF.ds : MF → List D
  | .rd b v => [.str "read", .int b, .int v]
  | .gr a b lo hi => [.str "grew", .int a, .int b, .int lo, .int hi]
theorem MF.d_map (fs : List MF) : (fs.map MF.ds).map D.tup = fs.map MF.d := by
  rw [List.map_map]
  exact List.map_congr_left fun f _ => by cases f <;> rfl
theorem MF.ds_len (f : MF) : f.ds.length ≤ 1000 := by
  cases f
  · show 3 ≤ 1000; decide
  · show 5 ≤ 1000; decide
theorem MF.ds_scal (f : MF) : ∀ e ∈ f.ds, Scal e := by
  cases f with
  | rd b v =>
    intro e he
    have : e = .str "read" ∨ e = .int b ∨ e = .int v := by simpa [MF.ds] using he
    rcases this with rfl | rfl | rfl
    · exact .inr ⟨_, rfl⟩
    · exact .inl ⟨_, rfl⟩
    · exact .inl ⟨_, rfl⟩
  | gr a b lo hi =>
    intro e he
    have : e = .str "grew" ∨ e = .int a ∨ e = .int b ∨ e = .int lo ∨ e = .int hi := by simpa [MF.ds] using he
    rcases this with rfl | rfl | rfl | rfl | rfl
    · exact .inr ⟨_, rfl⟩
    · exact .inl ⟨_, rfl⟩
    · exact .inl ⟨_, rfl⟩
    · exact .inl ⟨_, rfl⟩
    · exact .inl ⟨_, rfl⟩
def p_Meter_pre (A : Ads) : TSd :=
  (pSeq (pIf (pNot (pB (pChain dLe dLe (pC (.int 1)) (pVar 1) (pC (.int 24)))))
  (pRaise0 A.BadMeter)
  pNext)
  (pSeq (pIf (pNot (pB (pChain3 dLe dLe dLe (pC (.int 0)) (pVar 2) (pVar 3) (pC (.int 1000000)))))
  (pRaise0 A.BadMeter)
  pNext)
  (pSeq (pFor (qList (pVar 4)) (gN 5)
  (pDrop (pCall (S_check_fact A) (pCons (pVar 1) (pCons (pVar 5) pNil)))))
  pNext)))
theorem sc_Meter : FnScope ["self", "ticks", "low", "high", "facts", "fact"] ["self", "ticks", "low", "high", "facts"] (defScope (inCls (top 27) 0)) := ⟨rfl, rfl, rfl, by decide +kernel, rfl, by decide +kernel, by decide +kernel⟩
theorem cl_Meter (T : Tx K mg) (C_check_fact : Cl P w K mg base (L2N.CX P w) 1 "check_fact" (S_check_fact (ads K))) (C_frozen : Cl P w K mg base CX0 3 "frozen" S_frz2)
    (run : ∀ (m : Mtr) (a : Addr) (J : Ro → Prop), m.Ok → (∀ o : Option D, J [some (.ro (.adr a)), some (.ro (.int m.T)), some (.ro (.int m.lo)), some (.ro (.int m.hi)), some (.ro (.lst (m.fs.map MF.d))), o.map S.ro]) → p_Meter_pre (ads K) { nx := J, rt := fun _ => False, ex := fun _ => False } [some (.ro (.adr a)), some (.ro (.int m.T)), some (.ro (.int m.lo)), some (.ro (.int m.hi)), some (.ro (.lst (m.fs.map MF.d))), none]) :
    ClM P w K mg base (L2N.CX P w) 4 (ads K).Meter "Meter" S_Meter := by
  obtain ⟨fd, F⟩ := T.fn 55 (d := d_Meter_init) rfl
  have mf := T.glo 59 (x := "Meter") rfl
  obtain ⟨_, m_MOST_TICKS⟩ := T.int 73 (x := "MOST_TICKS") (n := 24) rfl
  obtain ⟨_, m_MOST_GROWTH⟩ := T.int 74 (x := "MOST_GROWTH") (n := 1000000) rfl
  have e_BadMeter := T.exc 76 (x := "BadMeter") rfl
  have g_BadMeter := T.glo 58 (x := "BadMeter") rfl
  have c_Meter := T.cls 77 (x := "Meter") rfl
  have n1 := T.noat 82 (x := "Meter") (f := "ticks") rfl
  have n2 := T.noat 81 (x := "Meter") (f := "low") rfl
  have n3 := T.noat 80 (x := "Meter") (f := "high") rfl
  have n4 := T.noat 79 (x := "Meter") (f := "facts") rfl
  have nd := sc_Meter.nd
  have b := F.bindsN (ps := ["self", "ticks", "low", "high", "facts"]) fun _ _ _ _ _ _ us hl => match us, hl with | [_, _, _, _, _], _ => rfl
  refine ⟨⟨_, fd, ["self", "ticks", "low", "high", "facts"], T.mkr 78 (x := "Meter") rfl, F.ok sc_Meter (fun vs H Q E h => ?_) (fun cdv Ar outer s0 H0 vs Q E hr h => ?_), mf, b⟩⟩
  · obtain ⟨m, Hb, a, dx, us, rfl, _, _, _, d, _⟩ := h
    rw [List.length_cons, d.length]; rfl
  · have pxR := pxR_of (P := P) (w := w) (K := K) (mg := mg) (base := base) (N := ["self", "ticks", "low", "high", "facts", "fact"]) (qual := d_Meter_init.qual) (scope := d_Meter_init.scope) (f := He.fAd K d_Meter_init.at_) (cd := cdv) (A := Ar) (outer := outer) (s := s0) (H := H0) (E := E)
    obtain ⟨m, Hb, a, dx, us, rfl, ha, hba, sb, d, hp, hq⟩ := h
    have hp : m.Ok := hp
    have d2 : DVs Hb (.adr a :: S_Meter.args m) (.ref a :: us) := .cons DV.mk_adr d
    have R := start_rep (N := ["self", "ticks", "low", "high", "facts", "fact"]) sb d2
    refine pre34 (E := E)
      (ds_if (dt_not (dt_chain op_le od_le op_le od_le de_int (dv 1) (de_gint m_MOST_TICKS)))
        (dss_one (ds_raise rfl pxT (pmk0 e_BadMeter g_BadMeter)))
        dss_nil)
      (ds_if (dt_not (dt_chain3 op_le od_le op_le od_le op_le od_le de_int (dv 2) (dv 3) (de_gint m_MOST_GROWTH)))
        (dss_one (ds_raise rfl pxT (pmk0 e_BadMeter g_BadMeter)))
        dss_nil)
      (ds_for pxO rfl (di_list (dv 4)) (dg_name 5 nd)
        (dss_one (ds_expr (de_callC C_check_fact (hr.mono (by decide)) pxR (da_cons (dv 1) (da_cons (dv 5) da_nil))))))
      (ps_fld (pe_var (i := 0) rfl (.inl rfl)) (pe_var (i := 1) rfl (.inl rfl)) rfl) (ps_fld (pe_var (i := 0) rfl (.inl rfl)) (pe_var (i := 2) rfl (.inl rfl)) rfl) (ps_fld (pe_var (i := 0) rfl (.inl rfl)) (pe_var (i := 3) rfl (.inl rfl)) rfl)
      (ps_fld (pe_var (i := 0) rfl (.inl rfl)) (de_callC (E := E) C_frozen (hr.mono (by decide)) px0 (da_cons (dv 4) da_nil)).can rfl) R (run m a (fun ρ => ∃ o : Option D, ρ = [some (.ro (.adr a)), some (.ro (.int m.T)), some (.ro (.int m.lo)), some (.ro (.int m.hi)), some (.ro (.lst (m.fs.map MF.d))), o.map S.ro]) hp fun o => ⟨o, rfl⟩) ⟨fun ρ σ Hb' H' z R' => ?_, fun _ _ _ _ z _ => z.elim, fun _ _ _ _ z _ => z.elim, fun _ z => z.elim, fun _ z => z.elim⟩
    obtain ⟨o, rfl⟩ := z
    have ha' : H' a = some (.ins (ads K).Meter dx []) := R'.grow.top a _ ha
    have hba' : Hb' a = none := grow_free R'.grow ha hba
    obtain ⟨v0, f0, g0⟩ := R'.slot 0 _ rfl
    obtain ⟨v1, f1, g1⟩ := R'.slot 1 _ rfl
    obtain ⟨v2, f2, g2⟩ := R'.slot 2 _ rfl
    obtain ⟨v3, f3, g3⟩ := R'.slot 3 _ rfl
    have g0 : v0 = .ref a := DV.adr_ (H := Hb') g0
    subst g0
    have sub1 : ∀ o, Same Hb' (upd H' a o) := fun o b u h => by rw [upd_ne (ne_of_none h hba')]; exact R'.sub b u h
    refine ⟨v1, f1, _, f0, a, _, dx, [], rfl, ha', c_Meter, n1, by decide, ?_⟩
    refine ⟨v2, f2, _, f0, a, _, dx, _, rfl, upd_same, c_Meter, n2, by show 1 < 1000; decide, ?_⟩
    refine ⟨v3, f3, _, f0, a, _, dx, _, rfl, upd_same, c_Meter, n3, by show 2 < 1000; decide, ?_⟩
    have sub3 : Same Hb' (upd (upd (upd H' a (.ins (ads K).Meter dx (putF "ticks" v1 []))) a (.ins (ads K).Meter dx (putF "low" v2 (putF "ticks" v1 [])))) a (.ins (ads K).Meter dx (putF "high" v3 (putF "low" v2 (putF "ticks" v1 []))))) := fun b u h => by
      have nb := ne_of_none h hba'
      rw [upd_ne nb, upd_ne nb, upd_ne nb]
      exact R'.sub b u h
    refine ⟨_, Hb', _, Hb', fun r => r = .ro (.tup (m.fs.map MF.d)), fun _ => False, R'.look (fun i s e => ?_) sub3, ?_, fun r hr => ?_, fun _ z => z.elim⟩
    · match i, e with
      | 0, e => cases e; exact ⟨_, rfl⟩
      | 1, e => cases e; exact ⟨_, rfl⟩
      | 2, e => cases e; exact ⟨_, rfl⟩
      | 3, e => cases e; exact ⟨_, rfl⟩
      | 4, e => cases e; exact ⟨_, rfl⟩
      | 5, e =>
        cases o with
        | none => cases e
        | some d => cases e; exact ⟨_, rfl⟩
      | i + 6, e => cases e
    · refine l_call (l_cons (l_var rfl (l_nil (l_kCall (S := S_frz2) (m.fs.map MF.ds) ?_ ⟨by rw [List.length_map]; have := hp.len; omega, fun ds hds => ?_⟩ (fun r hr => ?_) fun e he => by cases he))))
      · show [D.lst (m.fs.map MF.d)] = [D.lst ((m.fs.map MF.ds).map D.tup)]
        rw [MF.d_map]
      · obtain ⟨f, _, rfl⟩ := List.mem_map.mp hds
        exact ⟨f.ds_len, f.ds_scal⟩
      · cases hr
        rw [MF.d_map]
    · subst hr
      intro v4 Hb4 H4 g4 d4
      have h4a := g4.top a _ upd_same
      have hb4 : Hb4 a = none := grow_free g4 (o := _) upd_same hba'
      refine ⟨_, f0, a, _, dx, _, rfl, h4a, c_Meter, n4, by show 3 < 1000; decide, ?_⟩
      refine hq Hb4 _ [v1, v2, v3, v4] ⟨fun b o hb h => ?_, R'.grow.bot.trans g4.bot, fun b o h => ?_, fun b h k => ?_⟩ hb4 upd_same ?_
      · rw [upd_ne hb]
        refine g4.top b o ?_
        rw [upd_ne hb, upd_ne hb, upd_ne hb]
        exact R'.grow.top b o h
      · rw [upd_ne (ne_of_none h hb4)]
        exact g4.sub b o h
      · cases z : Hb' b with
        | some u => exact R'.grow.new b h (by rw [z]; exact fun y => nomatch y)
        | none =>
          have q := g4.new b z k
          by_cases hb : b = a
          · rw [hb, hb4] at k; exact absurd rfl k
          · rw [upd_ne hb, upd_ne hb, upd_ne hb] at q
            exact same_none R'.grow.top q
      · exact .cons (DV.mono g4.bot g1) (.cons (DV.mono g4.bot g2) (.cons (DV.mono g4.bot g3) (.cons d4 .nil)))
end
end Pu
set_option maxHeartbeats 4000000
namespace Pu
open PySem PySem.Spec PyProof.Rows L2
section
variable {P : Program} {w : World} {K : PySem.W.Frag} {mg : Str → Option Value} {base : Heap}
theorem sch__law_is_number : FnScope ["value"] ["value"] (defScope (top 37)) := ⟨rfl, rfl, rfl, by decide +kernel, rfl, by decide +kernel, by decide +kernel⟩
set_option maxHeartbeats 8000000 in
theorem ch__law_is_number (T : Tx K mg) (run : ∀ (x : (S__law_is_number (ads K)).α), (S__law_is_number (ads K)).pre x → p__law_is_number (ads K) { nx := fun _ => (S__law_is_number (ads K)).post x (.ok (.ro .non)), rt := fun r => (S__law_is_number (ads K)).post x (.ok r), ex := fun e => (S__law_is_number (ads K)).post x (.error e) } (startD ["value"] ((S__law_is_number (ads K)).args x))) : ClH P w K mg base 1 "_law_is_number" (S__law_is_number (ads K)) := by
  obtain ⟨fd, F⟩ := T.fn 23 (d := d__law_is_number) rfl
  have mf := T.glo 23 (x := "_law_is_number") rfl
  have m_bool := T.free 69 (x := "bool") rfl
  have m_int := T.free 63 (x := "int") rfl
  have m_isinstance := T.free 62 (x := "isinstance") rfl
  have nd := sch__law_is_number.nd
  have b := F.bindsN (ps := ["value"]) fun _ _ _ _ _ _ us hl => match us, hl with | [_], _ => rfl
  refine ⟨⟨_, fd, ["value"], okDH (CX := CX0) (N := ["value"]) (pr := fun _ => p__law_is_number (ads K)) F sch__law_is_number (fun _ => rfl) (fun cdv Ar outer s0 H0 E pin hot hr => ?_) (fun x _ hx => run x hx), mf, F.kp, b⟩⟩
  unfold p__law_is_number
  exact (dss_one (ds_ret (de_and (de_isi isT_int m_isinstance m_int (by decide +kernel) (dv 0)) (de_one (de_not (de_isi isT_bool m_isinstance m_bool (by decide +kernel) (dv 0)))))))

theorem sch__law_steps : FnScope ["told", "rules", "steps", "step", "starts", "k", "rule"] ["told", "rules"] (defScope (top 47)) := ⟨rfl, rfl, rfl, by decide +kernel, rfl, by decide +kernel, by decide +kernel⟩
set_option maxHeartbeats 8000000 in
theorem ch__law_steps (T : Tx K mg) (C__law_is_number : ClH P w K mg base 1 "_law_is_number" (S__law_is_number (ads K))) (run : ∀ (x : (S__law_steps (ads K)).α), (S__law_steps (ads K)).pre x → p__law_steps (ads K) { nx := fun _ => (S__law_steps (ads K)).post x (.ok (.ro .non)), rt := fun r => (S__law_steps (ads K)).post x (.ok r), ex := fun e => (S__law_steps (ads K)).post x (.error e) } (startD ["told", "rules", "steps", "step", "starts", "k", "rule"] ((S__law_steps (ads K)).args x))) : ClH P w K mg base 2 "_law_steps" (S__law_steps (ads K)) := by
  obtain ⟨fd, F⟩ := T.fn 33 (d := d__law_steps) rfl
  have mf := T.glo 33 (x := "_law_steps") rfl
  have m_isinstance := T.free 62 (x := "isinstance") rfl
  have m_len := T.free 60 (x := "len") rfl
  have m_list := T.free 64 (x := "list") rfl
  have m_range := T.free 61 (x := "range") rfl
  have m_str := T.free 70 (x := "str") rfl
  have m_tuple := T.free 65 (x := "tuple") rfl
  have nd := sch__law_steps.nd
  have b := F.bindsN (ps := ["told", "rules"]) fun _ _ _ _ _ _ us hl => match us, hl with | [_, _], _ => rfl
  refine ⟨⟨_, fd, ["told", "rules"], okDH (CX := CX0) (N := ["told", "rules", "steps", "step", "starts", "k", "rule"]) (pr := fun _ => p__law_steps (ads K)) F sch__law_steps (fun _ => rfl) (fun cdv Ar outer s0 H0 E pin hot hr => ?_) (fun x _ hx => run x hx), mf, F.kp, b⟩⟩
  unfold p__law_steps
  exact (dss_cons (ds_if (dt_not (dt_val (de_isi isT_list m_isinstance m_list (by decide +kernel) (dv 0))))
  (dss_one (ds_ret de_non))
  dss_nil)
  (dss_cons (ds_set 2 nd (de_lst da_nil))
  (dss_cons (ds_forH pxOH hot (di_listH (dv 0)) (dg_name 3 nd)
  (dss_cons (ds_if (PWd.pt (dw_or (dt_not (dt_val (de_isi isT_tuple m_isinstance m_tuple (by decide +kernel) (dv 3)))) (dw_or (dt_cmp op_ne od_ne (de_b1 call_len_seq cb_len m_len (by decide +kernel) (db 3)) de_int) (dw_or1 (dt_not (dt_val (de_isi isT_str m_isinstance m_str (by decide +kernel) (de_ix (db 3) de_int))))))))
  (dss_one (ds_ret de_non))
  dss_nil)
  (dss_cons (ds_if (PWd.pt (dw_or (dt_not (dt_val (de_callCH C__law_is_number (hr.mono (by decide)) hot (da_cons (de_ix (db 3) de_int) da_nil)))) (dw_or1 (dt_not (dt_chain op_le od_le op_lt od_lt de_int (de_ix (db 3) de_int) (de_b1 call_len_seq cb_len m_len (by decide +kernel) (db 1)))))))
  (dss_one (ds_ret de_non))
  dss_nil)
  (dss_cons (ds_set 6 nd (de_ix (db 1) (de_ix (db 3) de_int)))
  (dss_one (ds_if (PWd.pt (dw_and (dt_cmp op_eq od_eq (de_ix (db 3) de_int) de_str) (dw_and1 (dt_cmp op_notN od_notN (de_ix (db 6) de_int) de_non))))
  (dss_one (ds_app 2 (de_tup (da_cons (de_ix (db 6) de_int) (da_cons (de_ix (db 6) de_int) (da_cons (de_ix (db 6) de_int) da_nil)))) (hm := fun _ h => pe_bm PySem.F.plainAttrs_list PySem.F.slot_list_append PySem.F.type_list_append mt_append (pv 2) (pa_cons h pa_nil))))
  (dss_one (ds_if (PWd.pt (dw_and (dt_cmp op_eq od_eq (de_ix (db 3) de_int) de_str) (dw_and1 (dt_cmp op_notN od_notN (de_ix (db 6) de_int) de_non))))
  (dss_one (ds_app 2 (de_tup (da_cons (de_ix (db 6) de_int) (da_cons (de_ix (db 6) de_int) (da_cons (de_neg (de_ix (db 6) de_int)) da_nil)))) (hm := fun _ h => pe_bm PySem.F.plainAttrs_list PySem.F.slot_list_append PySem.F.type_list_append mt_append (pv 2) (pa_cons h pa_nil))))
  (dss_one (ds_ret de_non))))))))))
  (dss_cons (ds_set 4 nd (de_lst da_nil))
  (dss_cons (ds_forH pxOH hot (di_rng1H m_range (da_cons (de_b1 call_len_seq cb_len m_len (by decide +kernel) (db 2)) da_nil)) (dg_name 5 nd)
  (dss_cons (ds_if (PWd.pt (dw_or (dt_cmpB op_in_seq od_inIB (de_ix (db_of (de_ix (db 2) (dv 5))) de_int) (db 4)) (dw_or1 (PWd.pt (dw_and (dt_cmp op_gt od_gt (dv 5) de_int) (dw_and1 (dt_cmp op_ne od_ne (de_ix (db_of (de_ix (db 2) (dv 5))) de_int) (de_ix (db_of (de_ix (db 2) (de_op op_sub od_sub (dv 5) de_int))) de_int))))))))
  (dss_one (ds_ret de_non))
  dss_nil)
  (dss_one (ds_app 4 (de_ix (db_of (de_ix (db 2) (dv 5))) de_int) (hm := fun _ h => pe_bm PySem.F.plainAttrs_list PySem.F.slot_list_append PySem.F.type_list_append mt_append (pv 4) (pa_cons h pa_nil))))))
  (dss_one (ds_retV 2)))))))

theorem sch__law_is_low_ring : FnScope ["told", "rules", "steps", "step"] ["told", "rules"] (defScope (top 48)) := ⟨rfl, rfl, rfl, by decide +kernel, rfl, by decide +kernel, by decide +kernel⟩
set_option maxHeartbeats 8000000 in
theorem ch__law_is_low_ring (T : Tx K mg) (C__law_steps : ClH P w K mg base 2 "_law_steps" (S__law_steps (ads K))) (run : ∀ (x : (S__law_is_low_ring (ads K)).α), (S__law_is_low_ring (ads K)).pre x → p__law_is_low_ring (ads K) { nx := fun _ => (S__law_is_low_ring (ads K)).post x (.ok (.ro .non)), rt := fun r => (S__law_is_low_ring (ads K)).post x (.ok r), ex := fun e => (S__law_is_low_ring (ads K)).post x (.error e) } (startD ["told", "rules", "steps", "step"] ((S__law_is_low_ring (ads K)).args x))) : ClH P w K mg base 3 "_law_is_low_ring" (S__law_is_low_ring (ads K)) := by
  obtain ⟨fd, F⟩ := T.fn 34 (d := d__law_is_low_ring) rfl
  have mf := T.glo 34 (x := "_law_is_low_ring") rfl
  have m_sum := T.free 68 (x := "sum") rfl
  have nd := sch__law_is_low_ring.nd
  have b := F.bindsN (ps := ["told", "rules"]) fun _ _ _ _ _ _ us hl => match us, hl with | [_, _], _ => rfl
  refine ⟨⟨_, fd, ["told", "rules"], okDH (CX := CX0) (N := ["told", "rules", "steps", "step"]) (pr := fun _ => p__law_is_low_ring (ads K)) F sch__law_is_low_ring (fun _ => rfl) (fun cdv Ar outer s0 H0 E pin hot hr => ?_) (fun x _ hx => run x hx), mf, F.kp, b⟩⟩
  unfold p__law_is_low_ring
  exact (dss_cons (ds_set 2 nd (de_callCH C__law_steps (hr.mono (by decide)) hot (da_cons (dv 0) (da_cons (dv 1) da_nil))))
  (dss_frz 2 (dss_cons (ds_if (PWd.pt (dw_or (dt_cmp op_isN od_isN (dv 2) de_non) (dw_or1 (dt_cmp (op_eqD (unH hr)) od_eqN (dv 2) (de_lst da_nil)))))
  (dss_one (ds_ret de_bl))
  dss_nil)
  (dss_frz 2 (dss_one (ds_ret (de_and (de_cmp op_eq od_eq (de_ix (db_of (de_ix (db 2) (de_neg de_int))) de_int) (de_ix (db_of (de_ix (db 2) de_int)) de_int)) (de_one (de_cmp op_lt od_lt (de_b1 (cr_sumH hot) cb_sum m_sum (by decide +kernel) (db_of (de_lcH [("step", 3)] 3 hot nd (dv 2) (by kernel_rfl) (by decide) (fun _ _ _ _ _ => pg_name (i := 3) nd rfl (Or.inl rfl)) (fun _ _ _ _ _ => dts_nil) (fun _ _ _ _ _ => (de_ix (db 3) de_int))))) de_int)))))))))


end
end Pu
set_option maxHeartbeats 200000
/-! S43x: promises of the law's defs with try. -/
namespace Pu
open PySem PySem.Spec PyProof.Rows L2
def S_refused (A : Ads) : SpecD where
  α := Mtr × Int × Int
  args := fun x => [x.1.d A, .int x.2.1, .int x.2.2]
  pre := fun x => x.1.Ok ∧ ¬ WidthOk x.1 x.2.1
  post := fun _ r => r = okR (.bl true)
def S_clash (A : Ads) : SpecD where
  α := Mtr × (Nat × Int)
  args := fun x => [x.1.d A, budD x.2, factsD x.1.facts]
  pre := fun x => x.1.Ok ∧ (1 ≤ x.2.1 ∧ x.2.1 ≤ x.1.T) ∧ ∀ h, ¬ Fits x.1.facts h
  post := fun _ r => r = okR (.bl true)
def q_ref (A : Ads) : Exn → TSd := fun e Z _ => e.C = A.BadMeter ∧ e.fld = none ∧ Z.rt (.ro (.bl true))
def q_clash (A : Ads) : Exn → TSd := fun e Z ρ => e.C = A.NoHeights ∧ 4 < ρ.length ∧ (∃ dr d2, e.fld = some (("ring" : Str), dr) ∧ ρ[2]? = some (some (.ro d2)) ∧ ∃ y : (S__law_is_low_ring A).α, (S__law_is_low_ring A).args y = [dr, d2] ∧ (S__law_is_low_ring A).pre y ∧ ∀ r, (S__law_is_low_ring A).post y r → r = .ok (.ro (.bl true))) ∧ Z.rt (.ro (.bl true))
def p_refused (K : PySem.W.Frag) (c : Value) (A : Ads) (S : SpecD) : TSd :=
  (pSeq (pTry S (pCons (pVar 0) (pCons (pVar 1) (pCons (pVar 2) pNil))) K c 3 (q_ref A))
  (pRet (pC (.bl false))))
def p_clash (K : PySem.W.Frag) (c : Value) (A : Ads) (S : SpecD) : TSd :=
  (pSeq (pTry S (pCons (pVar 0) (pCons (pIx (pVarB 1) (pC (.int 0))) (pCons (pIx (pVarB 1) (pC (.int 1))) pNil))) K c 3 (q_clash A))
  (pRet (pC (.bl false))))
end Pu
set_option maxHeartbeats 8000000
namespace Pu
open PySem PySem.Spec PyProof.Rows L2
section
variable {P : Program} {w : World} {K : PySem.W.Frag} {mg : Str → Option Value} {base : Heap}

theorem sc__law_states_refused : FnScope ["meter", "width", "most", "e"] ["meter", "width", "most"] (defScope (top 64)) := ⟨rfl, rfl, rfl, by decide +kernel, rfl, by decide +kernel, by decide +kernel⟩
theorem cl__law_states_refused (T : Ty K mg) (C_f : Cl P w K mg base (L2N.CX P w) 6 "budget_states" (S_budget_states (ads K))) (run : ∀ x : (S_refused (ads K)).α, (S_refused (ads K)).pre x → p_refused K (.ref (He.ga K "WatchError")) (ads K) (S_budget_states (ads K)) { nx := fun _ => (S_refused (ads K)).post x (.ok (.ro .non)), rt := fun r => (S_refused (ads K)).post x (.ok r), ex := fun e => (S_refused (ads K)).post x (.error e) } (startD ["meter", "width", "most", "e"] ((S_refused (ads K)).args x))) : Cl P w K mg base CX0 7 "_law_states_refused" (S_refused (ads K)) := by
  obtain ⟨fd, F⟩ := T.x.fn 50 (d := d__law_states_refused) rfl
  have mf := T.x.glo 50 (x := "_law_states_refused") rfl
  have TE := T.e
  obtain ⟨cN, xN, lN⟩ := isB_ok TE.isN
  obtain ⟨cM, xM, lM⟩ := isB_ok TE.isM
  have m_isi := T.x.free 62 (x := "isinstance") rfl
  have m_ve := T.x.free 72 (x := "ValueError") rfl
  have gW := T.x.glo 55 (x := "WatchError") rfl
  have gN := T.x.glo 57 (x := "NoHeights") rfl
  have gM := T.x.glo 58 (x := "BadMeter") rfl
  have nd := sc__law_states_refused.nd
  have b := F.bindsN (ps := ["meter", "width", "most"]) fun _ _ _ _ _ _ us hl => match us, hl with | [_, _, _], _ => rfl
  refine ⟨⟨_, fd, ["meter", "width", "most"], okD (N := ["meter", "width", "most", "e"]) (p := fun _ => p_refused K (.ref (He.ga K "WatchError")) (ads K) (S_budget_states (ads K))) F sc__law_states_refused (fun _ => rfl) (fun cdv Ar outer s0 H0 E hr => ?_) (fun x _ hx => run x hx), mf, F.kp, b⟩⟩
  unfold p_refused
  exact (dss_cons (ds_try C_f (hr.mono (by decide)) rfl rfl nd rfl ⟨rfl, by decide, .inl gW⟩ (fun pn xe => da_cons (dv 0) (da_cons (dv 1) (da_cons (dv 2) da_nil)))
    (dx_ref fun a oe d pn hz hf => pe_and (pe_isX cM lM hz hf TE.mm (pe_glob (v := .ref (He.ga K "BadMeter")) rfl gM rfl) (fun u h => h) m_isi) (pe_and (pe_isX cM lM hz hf TE.mv (pe_bltn (v := .ty "ValueError") rfl m_ve PyProof.Rows.Boot.«ValueError» rfl) (fun u h => h) m_isi) (pe_one (pe_not (pe_isX cM lM hz hf TE.mn (pe_glob (v := .ref (He.ga K "NoHeights")) rfl gN rfl) (fun u h => h) m_isi))))))
    (dss_one (ds_ret de_bl)))

theorem sc__law_spent_refused : FnScope ["meter", "width", "most", "e"] ["meter", "width", "most"] (defScope (top 65)) := ⟨rfl, rfl, rfl, by decide +kernel, rfl, by decide +kernel, by decide +kernel⟩
theorem cl__law_spent_refused (T : Ty K mg) (C_f : Cl P w K mg base (L2N.CX P w) 7 "overspent" (S_overspent (ads K))) (run : ∀ x : (S_refused (ads K)).α, (S_refused (ads K)).pre x → p_refused K (.ref (He.ga K "WatchError")) (ads K) (S_overspent (ads K)) { nx := fun _ => (S_refused (ads K)).post x (.ok (.ro .non)), rt := fun r => (S_refused (ads K)).post x (.ok r), ex := fun e => (S_refused (ads K)).post x (.error e) } (startD ["meter", "width", "most", "e"] ((S_refused (ads K)).args x))) : Cl P w K mg base CX0 8 "_law_spent_refused" (S_refused (ads K)) := by
  obtain ⟨fd, F⟩ := T.x.fn 51 (d := d__law_spent_refused) rfl
  have mf := T.x.glo 51 (x := "_law_spent_refused") rfl
  have TE := T.e
  obtain ⟨cN, xN, lN⟩ := isB_ok TE.isN
  obtain ⟨cM, xM, lM⟩ := isB_ok TE.isM
  have m_isi := T.x.free 62 (x := "isinstance") rfl
  have m_ve := T.x.free 72 (x := "ValueError") rfl
  have gW := T.x.glo 55 (x := "WatchError") rfl
  have gN := T.x.glo 57 (x := "NoHeights") rfl
  have gM := T.x.glo 58 (x := "BadMeter") rfl
  have nd := sc__law_spent_refused.nd
  have b := F.bindsN (ps := ["meter", "width", "most"]) fun _ _ _ _ _ _ us hl => match us, hl with | [_, _, _], _ => rfl
  refine ⟨⟨_, fd, ["meter", "width", "most"], okD (N := ["meter", "width", "most", "e"]) (p := fun _ => p_refused K (.ref (He.ga K "WatchError")) (ads K) (S_overspent (ads K))) F sc__law_spent_refused (fun _ => rfl) (fun cdv Ar outer s0 H0 E hr => ?_) (fun x _ hx => run x hx), mf, F.kp, b⟩⟩
  unfold p_refused
  exact (dss_cons (ds_try C_f (hr.mono (by decide)) rfl rfl nd rfl ⟨rfl, by decide, .inl gW⟩ (fun pn xe => da_cons (dv 0) (da_cons (dv 1) (da_cons (dv 2) da_nil)))
    (dx_ref fun a oe d pn hz hf => pe_and (pe_isX cM lM hz hf TE.mm (pe_glob (v := .ref (He.ga K "BadMeter")) rfl gM rfl) (fun u h => h) m_isi) (pe_and (pe_isX cM lM hz hf TE.mv (pe_bltn (v := .ty "ValueError") rfl m_ve PyProof.Rows.Boot.«ValueError» rfl) (fun u h => h) m_isi) (pe_one (pe_not (pe_isX cM lM hz hf TE.mn (pe_glob (v := .ref (He.ga K "NoHeights")) rfl gN rfl) (fun u h => h) m_isi))))))
    (dss_one (ds_ret de_bl)))

theorem sc__law_states_clash : FnScope ["meter", "asked", "due", "e", "good"] ["meter", "asked", "due"] (defScope (top 62)) := ⟨rfl, rfl, rfl, by decide +kernel, rfl, by decide +kernel, by decide +kernel⟩
theorem cl__law_states_clash (T : Ty K mg) (C_f : Cl P w K mg base (L2N.CX P w) 6 "budget_states" (S_budget_states (ads K))) (C_r : ClH P w K mg base 3 "_law_is_low_ring" (S__law_is_low_ring (ads K))) (run : ∀ x : (S_clash (ads K)).α, (S_clash (ads K)).pre x → p_clash K (.ref (He.ga K "WatchError")) (ads K) (S_budget_states (ads K)) { nx := fun _ => (S_clash (ads K)).post x (.ok (.ro .non)), rt := fun r => (S_clash (ads K)).post x (.ok r), ex := fun e => (S_clash (ads K)).post x (.error e) } (startD ["meter", "asked", "due", "e", "good"] ((S_clash (ads K)).args x))) : Cl P w K mg base CX0 7 "_law_states_clash" (S_clash (ads K)) := by
  obtain ⟨fd, F⟩ := T.x.fn 48 (d := d__law_states_clash) rfl
  have mf := T.x.glo 48 (x := "_law_states_clash") rfl
  have TE := T.e
  obtain ⟨cN, xN, lN⟩ := isB_ok TE.isN
  obtain ⟨cM, xM, lM⟩ := isB_ok TE.isM
  have m_isi := T.x.free 62 (x := "isinstance") rfl
  have m_ve := T.x.free 72 (x := "ValueError") rfl
  have gW := T.x.glo 55 (x := "WatchError") rfl
  have gN := T.x.glo 57 (x := "NoHeights") rfl
  have gM := T.x.glo 58 (x := "BadMeter") rfl
  have nd := sc__law_states_clash.nd
  have b := F.bindsN (ps := ["meter", "asked", "due"]) fun _ _ _ _ _ _ us hl => match us, hl with | [_, _, _], _ => rfl
  refine ⟨⟨_, fd, ["meter", "asked", "due"], okD (N := ["meter", "asked", "due", "e", "good"]) (p := fun _ => p_clash K (.ref (He.ga K "WatchError")) (ads K) (S_budget_states (ads K))) F sc__law_states_clash (fun _ => rfl) (fun cdv Ar outer s0 H0 E hr => ?_) (fun x _ hx => run x hx), mf, F.kp, b⟩⟩
  unfold p_clash
  exact (dss_cons (ds_try C_f (hr.mono (by decide)) rfl rfl nd rfl ⟨rfl, by decide, .inl gW⟩ (fun pn xe => da_cons (dv 0) (da_cons (de_ix (db 1) de_int) (da_cons (de_ix (db 1) de_int) da_nil)))
    (dx_clash C_r (L2H.roomH_of (hr.mono (by decide))) xN TE.noring nd (by decide) (by decide) fun a oe d pn hz hf => pe_and (pe_isX cN lN hz hf TE.nn (pe_glob (v := .ref (He.ga K "NoHeights")) rfl gN rfl) (fun u h => h) m_isi) (pe_one (pe_not (pe_isX cN lN hz hf TE.nm (pe_glob (v := .ref (He.ga K "BadMeter")) rfl gM rfl) (fun u h => h) m_isi)))))
    (dss_one (ds_ret de_bl)))

theorem sc__law_spent_clash : FnScope ["meter", "asked", "due", "e", "good"] ["meter", "asked", "due"] (defScope (top 63)) := ⟨rfl, rfl, rfl, by decide +kernel, rfl, by decide +kernel, by decide +kernel⟩
theorem cl__law_spent_clash (T : Ty K mg) (C_f : Cl P w K mg base (L2N.CX P w) 7 "overspent" (S_overspent (ads K))) (C_r : ClH P w K mg base 3 "_law_is_low_ring" (S__law_is_low_ring (ads K))) (run : ∀ x : (S_clash (ads K)).α, (S_clash (ads K)).pre x → p_clash K (.ref (He.ga K "WatchError")) (ads K) (S_overspent (ads K)) { nx := fun _ => (S_clash (ads K)).post x (.ok (.ro .non)), rt := fun r => (S_clash (ads K)).post x (.ok r), ex := fun e => (S_clash (ads K)).post x (.error e) } (startD ["meter", "asked", "due", "e", "good"] ((S_clash (ads K)).args x))) : Cl P w K mg base CX0 8 "_law_spent_clash" (S_clash (ads K)) := by
  obtain ⟨fd, F⟩ := T.x.fn 49 (d := d__law_spent_clash) rfl
  have mf := T.x.glo 49 (x := "_law_spent_clash") rfl
  have TE := T.e
  obtain ⟨cN, xN, lN⟩ := isB_ok TE.isN
  obtain ⟨cM, xM, lM⟩ := isB_ok TE.isM
  have m_isi := T.x.free 62 (x := "isinstance") rfl
  have m_ve := T.x.free 72 (x := "ValueError") rfl
  have gW := T.x.glo 55 (x := "WatchError") rfl
  have gN := T.x.glo 57 (x := "NoHeights") rfl
  have gM := T.x.glo 58 (x := "BadMeter") rfl
  have nd := sc__law_spent_clash.nd
  have b := F.bindsN (ps := ["meter", "asked", "due"]) fun _ _ _ _ _ _ us hl => match us, hl with | [_, _, _], _ => rfl
  refine ⟨⟨_, fd, ["meter", "asked", "due"], okD (N := ["meter", "asked", "due", "e", "good"]) (p := fun _ => p_clash K (.ref (He.ga K "WatchError")) (ads K) (S_overspent (ads K))) F sc__law_spent_clash (fun _ => rfl) (fun cdv Ar outer s0 H0 E hr => ?_) (fun x _ hx => run x hx), mf, F.kp, b⟩⟩
  unfold p_clash
  exact (dss_cons (ds_try C_f (hr.mono (by decide)) rfl rfl nd rfl ⟨rfl, by decide, .inl gW⟩ (fun pn xe => da_cons (dv 0) (da_cons (de_ix (db 1) de_int) (da_cons (de_ix (db 1) de_int) da_nil)))
    (dx_clash C_r (L2H.roomH_of (hr.mono (by decide))) xN TE.noring nd (by decide) (by decide) fun a oe d pn hz hf => pe_and (pe_isX cN lN hz hf TE.nn (pe_glob (v := .ref (He.ga K "NoHeights")) rfl gN rfl) (fun u h => h) m_isi) (pe_one (pe_not (pe_isX cN lN hz hf TE.nm (pe_glob (v := .ref (He.ga K "BadMeter")) rfl gM rfl) (fun u h => h) m_isi)))))
    (dss_one (ds_ret de_bl)))

end
end Pu
set_option maxHeartbeats 4000000
/-! Px5: lists that are spoilt: what stays. -/
namespace Pu
open PySem PySem.Spec PyProof.Rows L2
/-- v stands for simple data in Hb -/
def GV (Hb : Hp) (v : V) : Prop := ∃ n d, Simp n d ∧ DV Hb d v
theorem GV.int {Hb : Hp} (i : Int) : GV Hb (.int i) := ⟨0, .int i, .inl ⟨i, rfl⟩, DV.mk_int⟩
theorem DVs.all {Hb : Hp} {n : Nat} : ∀ {ds : List D} {xs : List V}, DVs Hb ds xs → (∀ e ∈ ds, Simp n e) → ∀ x ∈ xs, GV Hb x
  | [], _, h, _, x, hx => by rw [h.of_nil] at hx; cases hx
  | d :: ds, _, h, k, x, hx => by
    obtain ⟨y, r, rfl, h1, h2⟩ := h.of_cons
    rcases List.mem_cons.mp hx with rfl | hx
    · exact ⟨n, d, k d List.mem_cons_self, h1⟩
    · exact DVs.all h2 (fun e he => k e (List.mem_cons_of_mem _ he)) x hx
/-- a scalar, a tuple, a list -/
theorem GV.cases {Hb : Hp} {v : V} (h : GV Hb v) : (∃ i, v = .int i) ∨ (∃ s, v = .str s) ∨ (∃ a xs, v = .ref a ∧ Hb a = some (.tup xs)) ∨ ∃ a xs, v = .ref a ∧ Hb a = some (.lst xs) ∧ xs.length ≤ 1000 ∧ ∀ x ∈ xs, GV Hb x := by
  obtain ⟨n, d, hs, hd⟩ := h
  have sc : Scal d → (∃ i, v = .int i) ∨ (∃ s, v = .str s) := fun z => by
    rcases z with ⟨i, rfl⟩ | ⟨s, rfl⟩
    · exact .inl ⟨i, hd.int_⟩
    · exact .inr ⟨s, hd.str_⟩
  cases n with
  | zero => exact (sc hs).imp id .inl
  | succ n =>
    rcases hs with hs | ⟨ds, hds, hl, he⟩
    · exact (sc hs).imp id .inl
    · rcases hds with rfl | rfl
      · obtain ⟨a, xs, e1, e2, _⟩ := hd.tup_
        exact .inr (.inr (.inl ⟨a, xs, e1, e2⟩))
      · obtain ⟨a, xs, e1, e2, e3⟩ := hd.lst_
        exact .inr (.inr (.inr ⟨a, xs, e1, e2, by rw [e3.length]; exact hl, e3.all he⟩))
/-- H1 is the heap H whose lists of Hb may be spoilt: k elements more at most -/
structure Spoilt (Hb H H1 : Hp) (k : Nat) : Prop where
  keep : ∀ a o, H a = some o → (∀ xs, Hb a ≠ some (.lst xs)) → H1 a = some o
  list : ∀ a xs, Hb a = some (.lst xs) → xs.length ≤ 1000 → (∀ x ∈ xs, GV Hb x) → ∃ ys, H1 a = some (.lst ys) ∧ ys.length ≤ 1000 + k ∧ ∀ x ∈ ys, GV Hb x
theorem Spoilt.refl {Hb H : Hp} (s : Same Hb H) : Spoilt Hb H H 0 := ⟨fun a o h _ => h, fun a xs h hl g => ⟨xs, s a _ h, hl, g⟩⟩
theorem Spoilt.more {Hb H H1 : Hp} {k j : Nat} (h : Spoilt Hb H H1 k) (hj : k ≤ j) : Spoilt Hb H H1 j := ⟨h.keep, fun a xs h1 h2 h3 => by
  obtain ⟨ys, e1, e2, e3⟩ := h.list a xs h1 h2 h3
  exact ⟨ys, e1, by omega, e3⟩⟩
theorem Spoilt.put {Hb H H1 : Hp} {k j : Nat} {a : Addr} {xs ys : List V} (h : Spoilt Hb H H1 k) (hj : k ≤ j) (hb : Hb a = some (.lst xs)) (hy : ys.length ≤ 1000 + j) (g : ∀ x ∈ ys, GV Hb x) : Spoilt Hb H (upd H1 a (.lst ys)) j :=
  ⟨fun b o e n => by
    have : b ≠ a := fun z => n xs (by rw [z]; exact hb)
    rw [upd_ne this]
    exact h.keep b o e n, fun b zs e1 e2 e3 => by
    by_cases hba : b = a
    · subst hba
      exact ⟨ys, upd_same, hy, g⟩
    · rw [upd_ne hba]
      exact (h.more hj).list b zs e1 e2 e3⟩
def spSpoil : Sp := fun vs H Q _ => ∃ (Hb : Hp) (ds : List D) (v : V), vs = [v] ∧ Same Hb H ∧ DV Hb (.tup ds) v ∧ ds.length ≤ 1000 ∧ (∀ e ∈ ds, Simp 5 e) ∧ ∀ H' k, Spoilt Hb H H' k → Q .non H'
/-- isinstance(x, list), x in slot i -/
def tIsL (K : PySem.W.Frag) (i : Nat) : TE := tCB (rIsi K) (tCons (tVar i) (tCons (tC (.ty "list")) tNil))
theorem isL_run {K : PySem.W.Frag} {σ : L2.St} {i : Nat} {v : V} {Hb H H1 : Hp} {k : Nat} {Q : Bool → Hp → Prop} (s : Same Hb H) (hs : Spoilt Hb H H1 k) (e : σ[i]? = some (some v)) (g : GV Hb v) (h0 : (∀ a xs, v = .ref a → Hb a ≠ some (.lst xs)) → Q false H1) (h1 : ∀ a xs, v = .ref a → Hb a = some (.lst xs) → xs.length ≤ 1000 → (∀ x ∈ xs, GV Hb x) → Q true H1) : tB (tIsL K i) σ H1 Q := by
  have base : ∀ (t : String) (b : Bool), TyX K H1 v (.type t) → kitB t "list" = some b → Q b H1 → tB (tIsL K i) σ H1 Q := fun t b ty kt q => ⟨v, e, v, .ty "list", .type t, .type "list", b, rfl, .ty "list", ty, kit_ty kt, b, rfl, q⟩
  rcases g.cases with ⟨j, rfl⟩ | ⟨z, rfl⟩ | ⟨a, xs, rfl, ha⟩ | ⟨a, xs, rfl, ha, hl, hg⟩
  · exact base "int" false (.base (.int j)) (isT_list (.int 0) _ rfl) (h0 fun a xs z => by cases z)
  · exact base "str" false (.base (.str z)) (isT_list (.str z) _ rfl) (h0 fun a xs z => by cases z)
  · have ht := hs.keep a _ (s a _ ha) fun xs z => by rw [ha] at z; cases z
    exact base "tuple" false (.base (.tup ht)) (isT_list (.tup []) _ rfl) (h0 fun b ys z => by cases z; rw [ha]; exact fun w => by cases w)
  · obtain ⟨ys, h2, _, _⟩ := hs.list a xs ha hl hg
    exact base "list" true (.base (.lst h2)) (isT_list (.lst []) _ rfl) (h1 a xs rfl ha hl hg)
def t_spoil (K : PySem.W.Frag) : TS := tFor (iTup K (tVar 0)) (gName 1) (tIfS (tB (tIsL K 1))
  (tSeq (tFor (iList K (tVar 1)) (gName 2) (tIfS (tB (tIsL K 2)) (tDrop (tBM0 K "list" rClear (tVar 2))) tNext))
    (tSeq (tDrop (tBM K "list" rAppend (tVar 1) (tCons (tC (.int 7)) tNil))) (tDrop (tBM0 K "list" rReverse (tVar 1))))) tNext)
theorem spoil_run {K : PySem.W.Frag} (vs : List V) (H : Hp) (Q : VK) (E : XK) (h : spSpoil vs H Q E) : t_spoil K { nx := fun _ H' => Q .non H', rt := Q } (L2.start ["told", "part", "inner"] vs) H := by
  obtain ⟨Hb, ds, v, rfl, s, d, hl, hsim, hQ⟩ := h
  obtain ⟨a, xs, rfl, ha, dv⟩ := d.tup_
  have gx := dv.all hsim
  have lx : xs.length ≤ 1000 := by rw [dv.length]; exact hl
  show t_spoil K _ [some (.ref a), none, none] H
  have at0 : ∀ {H1 : Hp} {k : Nat}, Spoilt Hb H H1 k → H1 a = some (.tup xs) := fun {H1 k} hs => hs.keep a _ (s a _ ha) fun ys z => by rw [ha] at z; cases z
  refine ⟨.ref a, rfl, a, rfl, ⟨xs, SqT.of (s a _ ha)⟩, fun i m σ H1 => m = xs.length - i ∧ i ≤ xs.length ∧ (∃ p q, σ = [some (.ref a), p, q]) ∧ Spoilt Hb H H1 i, ⟨xs.length, by simp, Nat.zero_le _, ⟨_, _, rfl⟩, .refl s⟩, ?_⟩
  rintro i m σ H1 ⟨rfl, hi, ⟨p, q, rfl⟩, hs⟩
  by_cases hlt : i < xs.length
  · refine .inr ⟨⟨xs, xs[i], SqT.of (at0 hs), List.getElem?_eq_getElem hlt⟩, fun σ' H' => (∃ p q, σ' = [some (.ref a), p, q]) ∧ Spoilt Hb H H' (i + 1), fun σ' H' ⟨h1, h2⟩ => ⟨xs.length - (i + 1), by omega, rfl, hlt, h1, h2⟩, fun x H' y => ?_⟩
    obtain ⟨rfl, y⟩ := y
    have ex := y xs (SqT.of (at0 hs))
    have gv : GV Hb x := gx x (List.mem_of_getElem? ex)
    show tIfS _ _ _ _ [some (.ref a), some x, q] H'
    refine isL_run s hs rfl gv (fun _ => ?_) fun l zs el hlz lz gz => ?_
    · rw [if_neg Bool.false_ne_true]
      exact ⟨⟨_, _, rfl⟩, hs.more (Nat.le_succ _)⟩
    · rw [if_pos rfl]
      subst el
      have inl : ∀ {H2 : Hp} {k : Nat}, Spoilt Hb H H2 k → ∃ ys, H2 l = some (.lst ys) ∧ ys.length ≤ 1000 + k ∧ ∀ x ∈ ys, GV Hb x := fun hh => hh.list l zs hlz lz gz
      obtain ⟨y0, hy0, _, _⟩ := inl hs
      refine ⟨.ref l, rfl, l, rfl, ⟨y0, SqL.of hy0⟩, fun j m σ H2 => m = 1000 + i - j ∧ j ≤ 1000 + i ∧ (∃ q, σ = [some (.ref a), some (.ref l), q]) ∧ Spoilt Hb H H2 i, ⟨1000 + i, by simp, Nat.zero_le _, ⟨_, rfl⟩, hs⟩, ?_⟩
      rintro j m σ2 H2 ⟨rfl, hj, ⟨q2, rfl⟩, hs2⟩
      obtain ⟨ys, hy, ly, gy⟩ := inl hs2
      by_cases hjl : j < ys.length
      · refine .inr ⟨⟨ys, ys[j], SqL.of hy, List.getElem?_eq_getElem hjl⟩, fun σ' H' => (∃ q, σ' = [some (.ref a), some (.ref l), q]) ∧ Spoilt Hb H H' i, fun σ' H' ⟨h1, h2⟩ => ⟨1000 + i - (j + 1), by omega, rfl, by omega, h1, h2⟩, fun x2 H3 y2 => ?_⟩
        obtain ⟨rfl, y2⟩ := y2
        have ex2 := y2 ys (SqL.of hy)
        show tIfS _ _ _ _ [some (.ref a), some (.ref l), some x2] H3
        refine isL_run s hs2 rfl (gy x2 (List.mem_of_getElem? ex2)) (fun _ => ?_) fun l2 zs2 el2 hlz2 lz2 gz2 => ?_
        · rw [if_neg Bool.false_ne_true]
          exact ⟨⟨_, rfl⟩, hs2⟩
        · rw [if_pos rfl]
          subst el2
          obtain ⟨ws, hw, _, _⟩ := hs2.list l2 zs2 hlz2 lz2 gz2
          exact ⟨.ref l2, rfl, .inl ⟨rfl, ws, SqL.of hw⟩, l2, ws, rfl, rfl, hw, ⟨_, rfl⟩, hs2.put (Nat.le_refl _) hlz2 (Nat.zero_le _) fun x hx => by cases hx⟩
      · refine .inl ⟨⟨ys, SqL.of hy, by omega⟩, ?_⟩
        refine ⟨.ref l, rfl, .inl ⟨rfl, ys, SqL.of hy⟩, l, ys, .int 7, rfl, rfl, hy, Nat.lt_of_lt_of_le (by omega : ys.length < 1000000) mil, ?_⟩
        have g7 : ∀ x ∈ ys ++ [V.int 7], GV Hb x := fun x hx => by
          rcases List.mem_append.mp hx with hx | hx
          · exact gy x hx
          · have : x = .int 7 := by simpa using hx
            rw [this]
            exact GV.int 7
        refine ⟨.ref l, rfl, .inl ⟨rfl, _, SqL.of upd_same⟩, l, _, rfl, rfl, upd_same, ⟨_, _, rfl⟩, ?_⟩
        rw [show upd (upd H2 l (.lst (ys ++ [V.int 7]))) l (.lst (ys ++ [V.int 7]).reverse) = upd H2 l (.lst (ys ++ [V.int 7]).reverse) from by
          funext b
          by_cases hb : b = l
          · rw [hb, upd_same, upd_same]
          · rw [upd_ne hb, upd_ne hb, upd_ne hb]]
        exact hs2.put (Nat.le_succ _) hlz (by rw [List.length_reverse, List.length_append, List.length_singleton]; omega) fun x hx => g7 x (List.mem_reverse.mp hx)
  · refine .inl ⟨⟨xs, SqT.of (at0 hs), by omega⟩, hQ _ _ hs⟩
end Pu
/-! Px6: a list that is lent, cleared; what is told is looked at, then spoilt. -/
namespace Pu
open PySem PySem.Spec PyProof.Rows L2
section
variable {X : Cx} {E : XK}
/-- a truth value -/
def isBl : RV → Prop
  | .ro (.bl _) => True
  | _ => False
/-- an own list is lent to a call that gives a truth value -/
def pLend (j : Nat) (p : TEd) : TEd := fun ρ K J => match ρ[j]? with
  | some (some (.own ds)) => p (ρ.set j (some (.ro (.lst ds)))) (fun r => isBl r ∧ K r) J
  | _ => False
theorem de_lend (j : Nat) {e : Expr} {p : TEd} (h : PEd X E e p) : PEd X E e (pLend j p) := by
  obtain ⟨te, h1, k1⟩ := h.ex
  refine ⟨te, h1, fun H0 B0 ρ σ Hb H K J Q R p kq kx => ?_⟩
  unfold pLend at p
  split at p
  · rename_i ds e
    obtain ⟨Hb', R', g', sb⟩ := R.freeze e
    refine k1 H0 B0 _ σ Hb' H _ J Q R' p (fun r ⟨hb, kr⟩ => ?_) kx
    unfold isBl at hb
    split at hb
    · rename_i b
      intro v Hb2 H2 g2 d2
      exact kq _ kr v Hb H2 ⟨g2.top, Same.refl _, fun a u q => g2.sub a u (g2.bot a u (sb a u q)), fun a h k => absurd h k⟩ (by rw [d2.bl_]; exact DV.mk_bl)
    · exact hb.elim
  · exact p.elim
/-- xs.clear() -/
def pClr (j : Nat) : TSd := fun Z ρ => match ρ[j]? with
  | some (some (.own _)) => Z.nx (ρ.set j (some (.own [])))
  | _ => False
theorem ds_clr (j : Nat) {x : Str} {p1 apos cpos pos : Pos} (hm : PE X (.Call (.Attribute (.Name x p1) "clear" apos) [] [] cpos) (tBM0 X.K "list" rClear (tVar j))) (hs : swapsWith (.Call (.Attribute (.Name x p1) "clear" apos) [] [] cpos) none pos.line X.env = pure false := by rfl) : PSd X E (.Expr (.Call (.Attribute (.Name x p1) "clear" apos) [] [] cpos) pos) (pClr j) := by
  refine ⟨_, ps_expr hm hs, fun H0 B0 ρ σ Hb H Z Dn R p z => ?_⟩
  unfold pClr at p
  split at p
  · rename_i ds e
    obtain ⟨u, s1, q, xs, e2, e3, e4, e5, e6⟩ := R.slot j _ e
    subst e2
    exact ⟨_, s1, .inl ⟨rfl, _, SqL.of e3⟩, q, xs, rfl, rfl, e3, z.nx _ _ _ _ p (R.write e s1 .nil)⟩
  · exact p.elim
theorem l_lend {ρ ρ' : Ro} {K : KD} {J : KX} {j : Nat} {ds : List D} {p : TEd} (e : ρ[j]? = some (some (.own ds))) (e2 : SetTo ρ j (some (.ro (.lst ds))) ρ') (h : p ρ' (fun r => isBl r ∧ K r) J) : pLend j p ρ K J := by
  unfold pLend
  rw [e]
  show p (ρ.set j _) _ _
  rw [e2.eq]
  exact h
theorem l_clr {ρ ρ' : Ro} {Z : EndsD} {j : Nat} {ds : List D} (e : ρ[j]? = some (some (.own ds))) (e2 : SetTo ρ j (some (.own [])) ρ') (h : Z.nx ρ') : pClr j Z ρ := by
  unfold pClr
  rw [e]
  show Z.nx (ρ.set j _)
  rw [e2.eq]
  exact h
end
/-! ### data without lists -/
mutual
def nl : D → Bool
  | .lst _ => false
  | .tup ds => nls ds
  | .ins _ _ ds => nls ds
  | _ => true
def nls : List D → Bool
  | [] => true
  | d :: ds => nl d && nls ds
end
def noL (H : Hp) : Hp := fun a => match H a with
  | some (.lst _) => none
  | o => o
theorem noL_of {H : Hp} {a : Addr} {o : HO} (h : H a = some o) (n : ∀ xs, o ≠ .lst xs) : noL H a = some o := by
  unfold noL
  rw [h]
  cases o <;> first | rfl | exact absurd rfl (n _)
theorem noL_sub (H : Hp) : Same (noL H) H := fun a o h => by
  unfold noL at h
  split at h
  · cases h
  · exact h
theorem noL_lst {H : Hp} {a : Addr} {xs : List V} : noL H a ≠ some (.lst xs) := fun h => by
  unfold noL at h
  split at h
  · cases h
  · rename_i n
    exact n xs h
mutual
theorem DV.noL {H : Hp} : ∀ {d : D} {v : V}, nl d = true → DV H d v → DV (noL H) d v
  | .non, _, _, h => by simpa only [DV] using h
  | .bl b, _, _, h => by simpa only [DV] using h
  | .int i, _, _, h => by simpa only [DV] using h
  | .str x, _, _, h => by simpa only [DV] using h
  | .adr a, _, _, h => by simpa only [DV] using h
  | .scr ns, _, _, h => by
    simp only [DV] at h ⊢
    obtain ⟨a, o, e, h1⟩ := h
    exact ⟨a, o, e, noL_of h1 fun _ z => HO.noConfusion z⟩
  | .tup ds, _, n, h => by
    obtain ⟨a, xs, e, h1, h2⟩ := h.tup_
    rw [e]
    exact DV.mk_tup (noL_of h1 fun _ z => by cases z) (DVs.noL (by simpa only [nl] using n) h2)
  | .lst ds, _, n, _ => by simp [nl] at n
  | .ins C fs ds, _, n, h => by
    obtain ⟨a, dx, xs, e, h1, h2⟩ := h.ins_
    simp only [DV]
    exact ⟨a, dx, xs, e, noL_of h1 (fun _ z => HO.noConfusion z), DVs.noL (by simpa only [nl] using n) h2⟩
theorem DVs.noL {H : Hp} : ∀ {ds : List D} {xs : List V}, nls ds = true → DVs H ds xs → DVs (noL H) ds xs
  | [], _, _, h => by rw [h.of_nil]; exact .nil
  | d :: ds, _, n, h => by
    obtain ⟨x, r, rfl, h1, h2⟩ := h.of_cons
    simp only [nls, Bool.and_eq_true] at n
    exact .cons (DV.noL n.1 h1) (DVs.noL n.2 h2)
end
structure ClS (P : Program) (w : World) (K : PySem.W.Frag) (mg : Str → Option Value) (base : Heap) (k : Nat) (x : Str) : Prop where
  ex : ∃ f fd ps, FnOk P w K mg base CX0 k f fd ps spSpoil ∧ mg x = some (.ref f) ∧ PySem.W.keepIn K (.ref f) = true ∧ Binds K fd ps []
/-- told = f(..); if not ..: return False; spoil(told); return True -/
def pTold (S : SpecD) (i : Nat) (pa : TAd) (pc : TTd) : TSd := fun Z ρ => i < ρ.length ∧ pa ρ (fun ds => nls ds = true ∧ ∃ y : S.α, ds = S.args y ∧ S.pre y ∧ (∀ r, S.post y r → ∃ ts : List D, r = .ok (.ro (.tup ts)) ∧ ts.length ≤ 1000 ∧ (∀ e ∈ ts, Simp 5 e) ∧ pc (ρ.set i (some (.ro (.tup ts)))) (fun b => b = false) (fun _ => False)) ∧ Z.rt (.ro (.bl true))) Z.ex
theorem dss_told {X : Cx} {E : XK} {S : SpecD} {CX : CXT} {i k k2 : Nat} {f x sp : Str} {e : Expr} {es : List Expr} {c : Expr} {b1 : Stmt} {pa : TAd} {pc : TTd} {p : TSd} {q1 q2 q3 cp sp1 ip rp rp2 q4 q5 q6 : Pos} {j : Nat} (C : Cl X.prog X.w X.K X.mg X.base CX k f S) (CS : ClS X.prog X.w X.K X.mg X.base k2 sp) (hr : Room k X.A) (hr2 : Room k2 X.A) (hx : Passes CX X E) (hN : X.N.Nodup)
    (ha : PAd X E (e :: es) pa) (hc : PTd X E c pc) (hb1 : PSd X E b1 p) (hi : X.N[i]? = some x := by rfl) (hl : X.env.scope.names.lookup x = some .local := by rfl) (hg : Gl X f := by rfl) (hg2 : Gl X sp := by rfl) (hdb : (f == ("__debug__" : Str)) = false := by decide) (hdb2 : (sp == ("__debug__" : Str)) = false := by decide) (hd1 : (x == ("__debug__" : Str)) = false := by decide) (hd2 : (x == ("__classdict__" : Str)) = false := by decide)
    (he : starEach (e :: es) X.env = (false, eval e X.env) :: starEach es X.env := by rfl) (hpl : (backTo cp (starEach es X.env)).any (·.1) = false := by rfl) (hs : swapsWith (.Call (.Name f q1) (e :: es) [] cp) (some (.Name x q2)) q3.line X.env = pure false := by rfl)
    (he2 : starEach (.Name x q4 :: []) X.env = (false, eval (.Name x q4) X.env) :: starEach [] X.env := by rfl) (hpl2 : (backTo q5 (starEach [] X.env)).any (·.1) = false := by rfl) (hs2 : swapsWith (.Call (.Name sp sp1) [.Name x q4] [] q5) none q6.line X.env = pure false := by rfl) :
    PSsd X E [.Assign [.Name x q2] (.Call (.Name f q1) (e :: es) [] cp) q3, .If c [b1] [] ip, .Expr (.Call (.Name sp sp1) [.Name x q4] [] q5) q6, .Return (some (.Constant (.bool true) j rp)) rp2] (pTold S i pa pc) := by
  obtain ⟨f1, fd1, ps1, F, hm, hk, hb⟩ := C.ex
  obtain ⟨f2, fd2, ps2, F2, hm2, hk2, hb2⟩ := CS.ex
  obtain ⟨ta, a1, k1⟩ := ha.ex
  obtain ⟨tc, a2, k2'⟩ := hc.ex
  obtain ⟨tb, a3, k3⟩ := hb1.ex
  have s5 := ps_set hN hi (.inl hl) (pe_call (dvs := []) F hr hg hm hk hb .nil hx a1 hdb he hpl) hs (.inr hl)
  have s6 := ps_if (pos := ip) a2 (pss_one a3) pss_nil
  have s7 := ps_expr (pe_call (dvs := []) F2 hr2 hg2 hm2 hk2 hb2 .nil (E := E) px0 (pa_cons (pe_var hi (.inl hl) hd1 hd2) pa_nil he2) hdb2 he2 hpl2) hs2
  refine ⟨_, pss_cons s5 (pss_cons s6 (pss_cons s7 (pss_one (ps_ret pe_bl)))), fun H0 B0 ρ σ Hb H Z Dn R ⟨hil, p⟩ z => ?_⟩
  refine k1 _ _ _ _ _ _ _ Z.ex _ R p (fun ds vs Hb1 H1 kd g1 d1 => ?_) z.ex
  obtain ⟨hnl, y, rfl, hp, hpost, hrt⟩ := kd
  have R1 := R.more g1
  rw [List.append_nil]
  have sn : Same (noL Hb1) H1 := (noL_sub Hb1).trans g1.sub
  refine ⟨y, noL Hb1, sn, DVs.noL hnl d1, hp, fun r hr => ?_, fun ex hex => ?_⟩
  · obtain ⟨ts, er, lts, sts, hpc⟩ := hpost _ hr
    cases er
    intro v Hb2 H2 g2 d2
    -- the told lists are new
    have fresh : ∀ a, noL Hb1 a = none → Hb2 a ≠ none → H1 a = none := g2.new
    have newL : ∀ a xs, Hb2 a = some (.lst xs) → H1 a = none := fun a xs h => by
      cases q : noL Hb1 a with
      | none => exact g2.new a q (by rw [h]; exact fun w => nomatch w)
      | some o =>
        have w := g2.bot a o q
        rw [h] at w
        cases w
        exact absurd q noL_lst
    let HbU : Hp := fun a => match Hb1 a with
      | some o => some o
      | none => Hb2 a
    have u1 : ∀ a o, Hb1 a = some o → HbU a = some o := fun a o h => by show (match Hb1 a with | some o => some o | none => Hb2 a) = _; rw [h]
    have u2 : ∀ a, Hb1 a = none → HbU a = Hb2 a := fun a h => by show (match Hb1 a with | some o => some o | none => Hb2 a) = _; rw [h]
    have su : Same HbU H2 := fun a o h => by
      cases q : Hb1 a with
      | none => rw [u2 a q] at h; exact g2.sub a o h
      | some o' => rw [u1 a o' q] at h; cases h; exact g2.top a _ (g1.sub a _ q)
    have s2U : Same Hb2 HbU := fun a o h => by
      cases q : Hb1 a with
      | none => rw [u2 a q]; exact h
      | some o' =>
        have w1 := g2.sub a o h
        have w2 := g2.top a _ (g1.sub a _ q)
        rw [w1] at w2
        cases w2
        exact u1 a _ q
    have gU : Grow H1 Hb1 H2 HbU := ⟨g2.top, u1, su, fun a h k => g2.new a (by unfold noL; rw [h]) (by rw [u2 a h] at k; exact k)⟩
    have R2 := (R1.more gU).put (i := i) (d := .tup ts) (v := v) (DV.mono s2U d2)
    refine k2' _ _ _ _ _ _ _ (fun _ => False) _ R2 hpc (fun b Hb3 H3 kb g3 => ?_) fun _ w => w.elim
    subst kb
    rw [if_neg Bool.false_ne_true]
    -- it is spoilt
    have hlσ : i < σ.length := by rw [R.len]; exact hil
    refine ⟨v, List.getElem?_set_self hlσ, ?_⟩
    show spSpoil [v] H3 (fun _ H5 => tRet (tC (V.bl true)) Dn (σ.set i (some v)) H5) E
    refine ⟨Hb2, ts, v, rfl, fun a o h => g3.top a o (g2.sub a o h), d2, lts, sts, fun H4 k sp => ?_⟩
    have keep : ∀ a o, H1 a = some o → H4 a = some o := fun a o h => sp.keep a o (g3.top a o (g2.top a o h)) fun xs w => by
      rw [newL a xs w] at h
      cases h
    exact z.rt _ hrt (.bl true) B0 H4 ⟨fun a o h => keep a o (g1.top a o (R.grow.top a o h)), Same.refl _, fun a o h => keep a o (g1.sub a o (g1.bot a o (R.grow.bot a o h))), fun a h k => absurd h k⟩ DV.mk_bl
  · obtain ⟨ts, er, _⟩ := hpost _ hex
    cases er
end Pu
set_option maxHeartbeats 200000
/-! S43y: promises of _law_is_kept, _law_holds. -/
namespace Pu
open PySem PySem.Spec PyProof.Rows L2
def S_kept (A : Ads) : SpecD where
  α := Mtr
  args := fun m => [m.d A, .int m.T, .tup [.int m.lo, .int m.hi], .lst (m.fs.map MF.d)]
  pre := fun m => m.Ok
  post := fun _ r => r = okR (.bl true)
noncomputable def S_holds (A : Ads) : SpecD where
  α := Mtr × (Nat × Int)
  args := fun x => [x.1.d A, budD x.2, ansD x.1.facts x.1.T x.2.1 x.2.2, factsD x.1.facts, .int x.1.T]
  pre := fun x => x.1.Ok ∧ (1 ≤ x.2.1 ∧ x.2.1 ≤ x.1.T) ∧ ∃ h, Fits x.1.facts h
  post := fun _ r => r = okR (.bl true)
def p_kept (A : Ads) : TSd := (pRet (pCall (S_same 3) (pCons (pTup (pCons (pFld A.Meter "ticks" (pVar 0)) (pCons (pFld A.Meter "low" (pVar 0)) (pCons (pFld A.Meter "high" (pVar 0)) (pCons (pFld A.Meter "facts" (pVar 0)) pNil)))))
  (pCons (pTup (pCons (pVar 1) (pCons (pIx (pVarB 2) (pC (.int 0))) (pCons (pIx (pVarB 2) (pC (.int 1))) (pCons (pB1 dTuple (pVarB 3)) pNil))))) pNil))))
def a3 : TAd := pCons (pVar 0) (pCons (pIx (pVarB 1) (pC (.int 0))) (pCons (pIx (pVarB 1) (pC (.int 1))) pNil))
def p_holds (A : Ads) : TSd :=
  (pSeq (pAsg 5 (pCall (S_budget_states A) a3))
  (pSeq (pIf (pNot (pB (pLend 5 (pCall (S_same 1) (pCons (pVar 5) (pCons (pIx (pVarB 2) (pC (.int 0))) pNil))))))
  (pRet (pC (.bl false)))
  pNext)
  (pSeq (pClr 5)
  (pSeq (pApp 5 (pC (.str "open")))
  (pTold (S_overspent A) 6 a3 (pNot (pB (pCall (S__law_shown A) (pCons (pVar 6) (pCons (pIx (pVarB 2) (pC (.int 1))) (pCons (pVar 3) (pCons (pVar 4) (pCons (pIx (pVarB 1) (pC (.int 0))) (pCons (pIx (pVarB 1) (pC (.int 1))) pNil))))))))))))))
end Pu
set_option maxHeartbeats 8000000
namespace Pu
open PySem PySem.Spec PyProof.Rows L2
section
variable {P : Program} {w : World} {K : PySem.W.Frag} {mg : Str → Option Value} {base : Heap}
theorem sc__law_is_kept : FnScope ["meter", "last", "bounds", "facts"] ["meter", "last", "bounds", "facts"] (defScope (top 67)) := ⟨rfl, rfl, rfl, by decide +kernel, rfl, by decide +kernel, by decide +kernel⟩
theorem cl__law_is_kept (T : Tx K mg) (C_s : Cl P w K mg base CX0 5 "_law_same" (S_same 3)) (run : ∀ x : (S_kept (ads K)).α, (S_kept (ads K)).pre x → p_kept (ads K) { nx := fun _ => (S_kept (ads K)).post x (.ok (.ro .non)), rt := fun r => (S_kept (ads K)).post x (.ok r), ex := fun e => (S_kept (ads K)).post x (.error e) } (startD ["meter", "last", "bounds", "facts"] ((S_kept (ads K)).args x))) : Cl P w K mg base CX0 6 "_law_is_kept" (S_kept (ads K)) := by
  obtain ⟨fd, F⟩ := T.fn 53 (d := d__law_is_kept) rfl
  have mf := T.glo 53 (x := "_law_is_kept") rfl
  have c_Meter := T.cls 77 (x := "Meter") rfl
  have n_facts := T.noat 79 (x := "Meter") (f := "facts") rfl
  have n_high := T.noat 80 (x := "Meter") (f := "high") rfl
  have n_low := T.noat 81 (x := "Meter") (f := "low") rfl
  have n_ticks := T.noat 82 (x := "Meter") (f := "ticks") rfl
  have m_tuple := T.free 65 (x := "tuple") rfl
  have b := F.bindsN (ps := ["meter", "last", "bounds", "facts"]) fun _ _ _ _ _ _ us hl => match us, hl with | [_, _, _, _], _ => rfl
  refine ⟨⟨_, fd, ["meter", "last", "bounds", "facts"], okD (N := ["meter", "last", "bounds", "facts"]) (p := fun _ => p_kept (ads K)) F sc__law_is_kept (fun _ => rfl) (fun cdv Ar outer s0 H0 E hr => ?_) (fun x _ hx => run x hx), mf, F.kp, b⟩⟩
  unfold p_kept
  exact dss_one (ds_ret (de_callC C_s (hr.mono (by decide)) px0 (da_cons (de_tup (da_cons (de_fld c_Meter n_ticks (dv 0)) (da_cons (de_fld c_Meter n_low (dv 0)) (da_cons (de_fld c_Meter n_high (dv 0)) (da_cons (de_fld c_Meter n_facts (dv 0)) da_nil)))))
    (da_cons (de_tup (da_cons (dv 1) (da_cons (de_ix (db 2) de_int) (da_cons (de_ix (db 2) de_int) (da_cons (de_b1Ty call_tuple_of cb_tuple m_tuple (by decide +kernel) (db 3)) da_nil))))) da_nil))))
theorem sc__law_spoil : FnScope ["told", "part", "inner"] ["told"] (defScope (top 55)) := ⟨rfl, rfl, rfl, by decide +kernel, rfl, by decide +kernel, by decide +kernel⟩
theorem cl__law_spoil (T : Tx K mg) : ClS P w K mg base 1 "_law_spoil" := by
  obtain ⟨fd, F⟩ := T.fn 41 (d := d__law_spoil) rfl
  have mf := T.glo 41 (x := "_law_spoil") rfl
  have m_isi := T.free 62 (x := "isinstance") rfl
  have m_list := T.free 64 (x := "list") rfl
  have nd := sc__law_spoil.nd
  have b := F.bindsN (ps := ["told"]) fun _ _ _ _ _ _ us hl => match us, hl with | [_], _ => rfl
  refine ⟨⟨_, fd, ["told"], F.ok sc__law_spoil (fun vs H Q E h => ?_) (fun cdv A outer s H vs Q E hr h => ⟨t_spoil K, ?_, spoil_run vs H Q E h⟩), mf, F.kp, b⟩⟩
  · obtain ⟨Hb, ds, v, rfl, _⟩ := h
    rfl
  · exact pss_one (ps_for pxO rfl (pi_tup (pe_var (i := 0) rfl (.inl rfl))) (pg_name (i := 1) nd rfl (.inl rfl)) (pss_one (ps_if (pt_val (pe_callB call_isi rfl m_isi (by decide +kernel) (pa_cons (pe_var (i := 1) rfl (.inl rfl)) (pa_cons (pe_bltn (v := .ty "list") rfl m_list (by decide +kernel) rfl) pa_nil))))
      (pss_cons (ps_for pxO rfl (pi_list (pe_var (i := 1) rfl (.inl rfl))) (pg_name (i := 2) nd rfl (.inl rfl)) (pss_one (ps_if (pt_val (pe_callB call_isi rfl m_isi (by decide +kernel) (pa_cons (pe_var (i := 2) rfl (.inl rfl)) (pa_cons (pe_bltn (v := .ty "list") rfl m_list (by decide +kernel) rfl) pa_nil))))
        (pss_one (ps_expr (pe_bm0 PySem.F.plainAttrs_list PySem.F.slot_list_clear PySem.F.type_list_clear mt_clear (pe_var (i := 2) rfl (.inl rfl))))) pss_nil)))
      (pss_cons (ps_expr (pe_bm PySem.F.plainAttrs_list PySem.F.slot_list_append PySem.F.type_list_append mt_append (pe_var (i := 1) rfl (.inl rfl)) (pa_cons pe_int pa_nil)))
      (pss_one (ps_expr (pe_bm0 PySem.F.plainAttrs_list PySem.F.slot_list_reverse PySem.F.type_list_reverse mt_reverse (pe_var (i := 1) rfl (.inl rfl))))))) pss_nil)))
theorem sc__law_holds : FnScope ["meter", "asked", "answer", "due", "last", "states", "told"] ["meter", "asked", "answer", "due", "last"] (defScope (top 61)) := ⟨rfl, rfl, rfl, by decide +kernel, rfl, by decide +kernel, by decide +kernel⟩
theorem cl__law_holds (T : Tx K mg) (C_b : Cl P w K mg base (L2N.CX P w) 6 "budget_states" (S_budget_states (ads K))) (C_o : Cl P w K mg base (L2N.CX P w) 7 "overspent" (S_overspent (ads K))) (C_s : Cl P w K mg base CX0 3 "_law_same" (S_same 1)) (C_sh : Cl P w K mg base CX0 4 "_law_shown" (S__law_shown (ads K))) (CS : ClS P w K mg base 1 "_law_spoil")
    (run : ∀ x : (S_holds (ads K)).α, (S_holds (ads K)).pre x → p_holds (ads K) { nx := fun _ => (S_holds (ads K)).post x (.ok (.ro .non)), rt := fun r => (S_holds (ads K)).post x (.ok r), ex := fun e => (S_holds (ads K)).post x (.error e) } (startD ["meter", "asked", "answer", "due", "last", "states", "told"] ((S_holds (ads K)).args x))) : Cl P w K mg base (L2N.CX P w) 8 "_law_holds" (S_holds (ads K)) := by
  obtain ⟨fd, F⟩ := T.fn 47 (d := d__law_holds) rfl
  have mf := T.glo 47 (x := "_law_holds") rfl
  have nd := sc__law_holds.nd
  have b := F.bindsN (ps := ["meter", "asked", "answer", "due", "last"]) fun _ _ _ _ _ _ us hl => match us, hl with | [_, _, _, _, _], _ => rfl
  refine ⟨⟨_, fd, ["meter", "asked", "answer", "due", "last"], okD (N := ["meter", "asked", "answer", "due", "last", "states", "told"]) (p := fun _ => p_holds (ads K)) F sc__law_holds (fun _ => rfl) (fun cdv Ar outer s0 H0 E hr => ?_) (fun x _ hx => run x hx), mf, F.kp, b⟩⟩
  have pxR := pxR_of (P := P) (w := w) (K := K) (mg := mg) (base := base) (N := ["meter", "asked", "answer", "due", "last", "states", "told"]) (qual := d__law_holds.qual) (scope := d__law_holds.scope) (f := He.fAd K d__law_holds.at_) (cd := cdv) (A := Ar) (outer := outer) (s := s0) (H := H0) (E := E)
  unfold p_holds a3
  exact dss_cons (ds_set 5 nd (de_callC C_b (hr.mono (by decide)) pxR (da_cons (dv 0) (da_cons (de_ix (db 1) de_int) (da_cons (de_ix (db 1) de_int) da_nil)))))
    (dss_cons (ds_if (dt_not (dt_val (de_lend 5 (de_callC C_s (hr.mono (by decide)) px0 (da_cons (dv 5) (da_cons (de_ix (db 2) de_int) da_nil))))))
      (dss_one (ds_ret de_bl))
      dss_nil)
    (dss_cons (ds_clr 5 (pe_bm0 PySem.F.plainAttrs_list PySem.F.slot_list_clear PySem.F.type_list_clear mt_clear (pe_var (i := 5) rfl (.inl rfl))))
    (dss_cons (ds_app 5 de_str (hm := fun _ h => pe_bm PySem.F.plainAttrs_list PySem.F.slot_list_append PySem.F.type_list_append mt_append (pv 5) (pa_cons h pa_nil)))
    (dss_told (i := 6) (x := "told") C_o CS (hr.mono (by decide)) (hr.mono (by decide)) pxR nd (da_cons (dv 0) (da_cons (de_ix (db 1) de_int) (da_cons (de_ix (db 1) de_int) da_nil)))
      (dt_not (dt_val (de_callC C_sh (hr.mono (by decide)) px0 (da_cons (dv 6) (da_cons (de_ix (db 2) de_int) (da_cons (dv 3) (da_cons (dv 4) (da_cons (de_ix (db 1) de_int) (da_cons (de_ix (db 1) de_int) da_nil)))))))))
      (ds_ret de_bl)))))
end
end Pu
set_option maxHeartbeats 200000
namespace Pu
open PySem PySem.Spec PyProof.Rows L2
abbrev S__law_states_refused := S_refused
abbrev S__law_spent_refused := S_refused
abbrev S__law_states_clash := S_clash
abbrev S__law_spent_clash := S_clash
abbrev S__law_is_kept := S_kept
noncomputable abbrev S__law_holds := S_holds
/-- the law: True for every script of ints -/
def S_law (A : Ads) : SpecD where
  α := List Int
  args := fun ns => [.scr ns]
  pre := fun ns => ns.length ≤ 63
  post := fun _ r => r = okR (.bl true)
/-- law(script 0, large 1, last 2, bounds 3, truth 4, count 5, facts 6, budgets 7, due 8, meter 9, answers 10, width 11, turn 12, budget 13, k 14) -/
noncomputable def p_law (A : Ads) : TSd :=
  (pSeq (pAsg 1 (pOp dEqq (pCall (S__law_draw A) (pCons (pVar 0) (pCons (pC (.int 0)) (pCons (pC (.int 0)) (pCons (pC (.int 16)) pNil))))) (pC (.int 0))))
  (pSeq (pAsg 2 (pIx (pLst (pCons (pC (.int 1)) (pCons (pC (.int 2)) (pCons (pC (.int 3)) (pCons (pC (.int 3)) (pCons (pC (.int 4)) (pCons (pC (.int 4)) (pCons (pC (.int 5)) (pCons (pC (.int 5)) pNil))))))))) (pCall (S__law_draw A) (pCons (pVar 0) (pCons (pC (.int 1)) (pCons (pC (.int 0)) (pCons (pC (.int 8)) pNil)))))))
  (pSeq (pIf (pB (pVar 1))
  (pAsg 2 (pIx (pLst (pCons (pC (.int 24)) (pCons (pOp dAdd (pC (.int 6)) (pCall (S__law_draw A) (pCons (pVar 0) (pCons (pC (.int 1)) (pCons (pC (.int 6)) (pCons (pC (.int 19)) pNil)))))) pNil))) (pCall (S__law_draw A) (pCons (pVar 0) (pCons (pC (.int 1)) (pCons (pC (.int 5)) (pCons (pC (.int 2)) pNil)))))))
  pNext)
  (pSeq (pAsg 3 (pCall (S__law_bounds A) (pCons (pVar 0) (pCons (pC (.int 1)) (pCons (pVar 1) pNil)))))
  (pSeq (pAsg 4 (pCall (S__law_truth A) (pCons (pVar 0) (pCons (pC (.int 2)) (pCons (pVar 2) (pCons (pVar 3) pNil))))))
  (pSeq (pAsg 5 (pCall (S__law_draw A) (pCons (pVar 0) (pCons (pC (.int 3)) (pCons (pC (.int 0)) (pCons (pC (.int 5)) pNil))))))
  (pSeq (pIf (pAnd (pB (pVar 1)) (pB (pOp dEqq (pCall (S__law_draw A) (pCons (pVar 0) (pCons (pC (.int 3)) (pCons (pC (.int 1)) (pCons (pC (.int 2)) pNil))))) (pC (.int 0)))))
  (pAsg 5 (pC (.int 99)))
  pNext)
  (pFrz 4 (pSeq (pAsg 6 (pCall (S__law_facts A) (pCons (pVar 0) (pCons (pC (.int 4)) (pCons (pVar 5) (pCons (pCall (S__law_draw A) (pCons (pVar 0) (pCons (pC (.int 4)) (pCons (pC (.int 0)) (pCons (pOp dAdd (pOp dMul (pC (.int 4)) (pVar 5)) (pC (.int 1))) pNil))))) (pCons (pVar 4) pNil)))))))
  (pFrz 4 (pSeq (pAsg 7 (pLst (pCons (pCall (S__law_budget A) (pCons (pVar 0) (pCons (pC (.int 25)) (pCons (pVar 4) (pCons (pVar 3) pNil))))) (pCons (pCall (S__law_budget A) (pCons (pVar 0) (pCons (pC (.int 26)) (pCons (pVar 4) (pCons (pVar 3) pNil))))) pNil))))
  (pFrz 4 (pSeq (pIf (pB (pOp dEqq (pCall (S__law_draw A) (pCons (pVar 0) (pCons (pC (.int 3)) (pCons (pC (.int 3)) (pCons (pC (.int 3)) pNil))))) (pC (.int 0))))
  (pSeq (pApp 6 (pTup (pCons (pC (.str "read")) (pCons (pVar 2) (pCons (pIx (pVarB 4) (pVar 2)) pNil)))))
  (pFrz 4 (pSetI 7 (pC (.int 1)) (pCall (S__law_tied_budget A) (pCons (pVar 0) (pCons (pC (.int 26)) (pCons (pVar 4) pNil)))))))
  pNext)
  (pFrz 6 (pSeq (pAsg 8 (pCall (S__law_rules A) (pCons (pVar 2) (pCons (pVar 3) (pCons (pVar 6) pNil)))))
  (pSeq (pAsg 9 (pMake A.Meter S_Meter (pCons (pVar 2) (pCons (pIx (pVarB 3) (pC (.int 0))) (pCons (pIx (pVarB 3) (pC (.int 1))) (pCons (pB1 dList (pVarB 6)) pNil))))))
  (pFrz 8 (pFrz 7 (pSeq (pAsg 10 (pCall (S__law_answers A) (pCons (pVar 2) (pCons (pVar 3) (pCons (pVar 8) (pCons (pVar 7) (pCons (pVar 1) pNil)))))))
  (pSeq (pFor (qList (pLst (pCons (pC (.int 0)) (pCons (pNeg (pC (.int 1))) (pCons (pOp dAdd (pVar 2) (pC (.int 1))) pNil))))) (gN 11)
  (pIf (pOr (pNot (pB (pCall (S__law_states_refused A) (pCons (pVar 9) (pCons (pVar 11) (pCons (pIx (pIx (pVarB 7) (pC (.int 0))) (pC (.int 1))) pNil)))))) (pNot (pB (pCall (S__law_spent_refused A) (pCons (pVar 9) (pCons (pVar 11) (pCons (pIx (pIx (pVarB 7) (pC (.int 0))) (pC (.int 1))) pNil)))))))
  (pRet (pC (.bl false)))
  pNext))
  (pFrz 6 (pFrz 8 (pFrz 7 (pFrz 10 (pSeq (pIf (pB (pOp (dEqN false) (pVar 10) (pLst pNil)))
  (pFrz 8 (pFrz 7 (pSeq (pFor (qList (pVar 7)) (gN 13)
  (pFrz 8 (pIf (pOr (pNot (pB (pCall (S__law_states_clash A) (pCons (pVar 9) (pCons (pVar 13) (pCons (pVar 8) pNil)))))) (pNot (pB (pCall (S__law_spent_clash A) (pCons (pVar 9) (pCons (pVar 13) (pCons (pVar 8) pNil)))))))
  (pRet (pC (.bl false)))
  pNext)))
  (pFrz 6 (pRet (pCall (S__law_is_kept A) (pCons (pVar 9) (pCons (pVar 2) (pCons (pVar 3) (pCons (pVar 6) pNil))))))))))
  pNext)
  (pFrz 8 (pSeq (pFor (qRng1 (pCons (pC (.int 2)) pNil)) (gN 12)
  (pFrz 8 (pFor (qRng1 (pCons (pC (.int 2)) pNil)) (gN 14)
  (pFrz 8 (pIf (pNot (pB (pCall (S__law_holds A) (pCons (pVar 9) (pCons (pIx (pVarB 7) (pVar 14)) (pCons (pIx (pVarB 10) (pVar 14)) (pCons (pVar 8) (pCons (pVar 2) pNil))))))))
  (pRet (pC (.bl false)))
  pNext)))))
  (pFrz 6 (pRet (pCall (S__law_is_kept A) (pCons (pVar 9) (pCons (pVar 2) (pCons (pVar 3) (pCons (pVar 6) pNil))))))))))))))))))))))))))))))))))

end Pu
set_option maxHeartbeats 4000000
namespace Pu
open PySem PySem.Spec PyProof.Rows L2
section
variable {P : Program} {w : World} {K : PySem.W.Frag} {mg : Str → Option Value} {base : Heap}
theorem sc_law : FnScope ["script", "large", "last", "bounds", "truth", "count", "facts", "budgets", "due", "meter", "answers", "width", "turn", "budget", "k"] ["script"] (defScope (top 68)) := ⟨rfl, rfl, rfl, by decide +kernel, rfl, by decide +kernel, by decide +kernel⟩
set_option maxHeartbeats 8000000 in
theorem fn_law (T : Tx K mg) {fd : FuncData} (F : FunD K d_law.name d_law.qual d_law.params d_law.body d_law.scope (d_law.dvs K) (d_law.kws K) (He.fAd K d_law.at_) fd) (C__law_answers : Cl P w K mg base CX0 3 "_law_answers" (S__law_answers (ads K))) (C__law_bounds : Cl P w K mg base CX0 3 "_law_bounds" (S__law_bounds (ads K))) (C__law_budget : Cl P w K mg base CX0 3 "_law_budget" (S__law_budget (ads K))) (C__law_draw : Cl P w K mg base CX0 2 "_law_draw" (S__law_draw (ads K))) (C__law_facts : Cl P w K mg base CX0 4 "_law_facts" (S__law_facts (ads K))) (C__law_holds : Cl P w K mg base (L2N.CX P w) 8 "_law_holds" (S__law_holds (ads K))) (C__law_is_kept : Cl P w K mg base CX0 6 "_law_is_kept" (S__law_is_kept (ads K))) (C__law_rules : Cl P w K mg base CX0 1 "_law_rules" (S__law_rules (ads K))) (C__law_spent_clash : Cl P w K mg base CX0 8 "_law_spent_clash" (S__law_spent_clash (ads K))) (C__law_spent_refused : Cl P w K mg base CX0 8 "_law_spent_refused" (S__law_spent_refused (ads K))) (C__law_states_clash : Cl P w K mg base CX0 7 "_law_states_clash" (S__law_states_clash (ads K))) (C__law_states_refused : Cl P w K mg base CX0 7 "_law_states_refused" (S__law_states_refused (ads K))) (C__law_tied_budget : Cl P w K mg base CX0 3 "_law_tied_budget" (S__law_tied_budget (ads K))) (C__law_truth : Cl P w K mg base CX0 3 "_law_truth" (S__law_truth (ads K))) (M_Meter : ClM P w K mg base (L2N.CX P w) 4 (ads K).Meter "Meter" S_Meter) (run : ∀ (x : (S_law (ads K)).α), (S_law (ads K)).pre x → p_law (ads K) { nx := fun _ => (S_law (ads K)).post x (.ok (.ro .non)), rt := fun r => (S_law (ads K)).post x (.ok r), ex := fun e => (S_law (ads K)).post x (.error e) } (startD ["script", "large", "last", "bounds", "truth", "count", "facts", "budgets", "due", "meter", "answers", "width", "turn", "budget", "k"] ((S_law (ads K)).args x))) : FnOk P w K mg base (L2N.CX P w) 10 (He.fAd K d_law.at_) fd ["script"] (spD (S_law (ads K))) := by
  have m_list := T.free 64 (x := "list") rfl
  have m_range := T.free 61 (x := "range") rfl
  have nd := sc_law.nd
  refine okD (N := ["script", "large", "last", "bounds", "truth", "count", "facts", "budgets", "due", "meter", "answers", "width", "turn", "budget", "k"]) (p := fun _ => p_law (ads K)) F sc_law (fun _ => rfl) (fun cdv Ar outer s0 H0 E hr => ?_) (fun x _ hx => run x hx)
  have pxR := pxR_of (P := P) (w := w) (K := K) (mg := mg) (base := base) (N := ["script", "large", "last", "bounds", "truth", "count", "facts", "budgets", "due", "meter", "answers", "width", "turn", "budget", "k"]) (qual := d_law.qual) (scope := d_law.scope) (f := He.fAd K d_law.at_) (cd := cdv) (A := Ar) (outer := outer) (s := s0) (H := H0) (E := E)
  unfold p_law
  exact (dss_cons (ds_set 1 nd (de_cmp op_eq od_eq (de_callC C__law_draw (hr.mono (by decide)) px0 (da_cons (dv 0) (da_cons de_int (da_cons de_int (da_cons de_int da_nil))))) de_int))
  (dss_cons (ds_set 2 nd (de_ix (db_of (de_lst (da_cons de_int (da_cons de_int (da_cons de_int (da_cons de_int (da_cons de_int (da_cons de_int (da_cons de_int (da_cons de_int da_nil)))))))))) (de_callC C__law_draw (hr.mono (by decide)) px0 (da_cons (dv 0) (da_cons de_int (da_cons de_int (da_cons de_int da_nil)))))))
  (dss_cons (ds_if (dt_val (dv 1))
  (dss_one (ds_set 2 nd (de_ix (db_of (de_lst (da_cons de_int (da_cons (de_op op_add od_add de_int (de_callC C__law_draw (hr.mono (by decide)) px0 (da_cons (dv 0) (da_cons de_int (da_cons de_int (da_cons de_int da_nil)))))) da_nil)))) (de_callC C__law_draw (hr.mono (by decide)) px0 (da_cons (dv 0) (da_cons de_int (da_cons de_int (da_cons de_int da_nil))))))))
  dss_nil)
  (dss_cons (ds_set 3 nd (de_callC C__law_bounds (hr.mono (by decide)) px0 (da_cons (dv 0) (da_cons de_int (da_cons (dv 1) da_nil)))))
  (dss_cons (ds_set 4 nd (de_callC C__law_truth (hr.mono (by decide)) px0 (da_cons (dv 0) (da_cons de_int (da_cons (dv 2) (da_cons (dv 3) da_nil))))))
  (dss_cons (ds_set 5 nd (de_callC C__law_draw (hr.mono (by decide)) px0 (da_cons (dv 0) (da_cons de_int (da_cons de_int (da_cons de_int da_nil))))))
  (dss_cons (ds_if (PWd.pt (dw_and (dt_val (dv 1)) (dw_and1 (dt_cmp op_eq od_eq (de_callC C__law_draw (hr.mono (by decide)) px0 (da_cons (dv 0) (da_cons de_int (da_cons de_int (da_cons de_int da_nil))))) de_int))))
  (dss_one (ds_set 5 nd de_int))
  dss_nil)
  (dss_frz 4 (dss_cons (ds_set 6 nd (de_callC C__law_facts (hr.mono (by decide)) px0 (da_cons (dv 0) (da_cons de_int (da_cons (dv 5) (da_cons (de_callC C__law_draw (hr.mono (by decide)) px0 (da_cons (dv 0) (da_cons de_int (da_cons de_int (da_cons (de_op op_add od_add (de_op op_mul od_mul de_int (dv 5)) de_int) da_nil))))) (da_cons (dv 4) da_nil)))))))
  (dss_frz 4 (dss_cons (ds_set 7 nd (de_lst (da_cons (de_callC C__law_budget (hr.mono (by decide)) px0 (da_cons (dv 0) (da_cons de_int (da_cons (dv 4) (da_cons (dv 3) da_nil))))) (da_cons (de_callC C__law_budget (hr.mono (by decide)) px0 (da_cons (dv 0) (da_cons de_int (da_cons (dv 4) (da_cons (dv 3) da_nil))))) da_nil))))
  (dss_frz 4 (dss_cons (ds_if (dt_cmp op_eq od_eq (de_callC C__law_draw (hr.mono (by decide)) px0 (da_cons (dv 0) (da_cons de_int (da_cons de_int (da_cons de_int da_nil))))) de_int)
  (dss_cons (ds_app 6 (de_tup (da_cons de_str (da_cons (dv 2) (da_cons (de_ix (db 4) (dv 2)) da_nil)))) (hm := fun _ h => pe_bm PySem.F.plainAttrs_list PySem.F.slot_list_append PySem.F.type_list_append mt_append (pv 6) (pa_cons h pa_nil)))
  (dss_frz 4 (dss_one (ds_setI 7 (de_callC C__law_tied_budget (hr.mono (by decide)) px0 (da_cons (dv 0) (da_cons de_int (da_cons (dv 4) da_nil)))) de_int))))
  dss_nil)
  (dss_frz 6 (dss_cons (ds_set 8 nd (de_callC C__law_rules (hr.mono (by decide)) px0 (da_cons (dv 2) (da_cons (dv 3) (da_cons (dv 6) da_nil)))))
  (dss_cons (ds_set 9 nd (de_make M_Meter (hr.mono (by decide)) pxR (da_cons (dv 2) (da_cons (de_ix (db 3) de_int) (da_cons (de_ix (db 3) de_int) (da_cons (de_b1Ty call_list_of cb_list m_list (by decide +kernel) (db 6)) da_nil))))))
  (dss_frz 8 (dss_frz 7 (dss_cons (ds_set 10 nd (de_callC C__law_answers (hr.mono (by decide)) px0 (da_cons (dv 2) (da_cons (dv 3) (da_cons (dv 8) (da_cons (dv 7) (da_cons (dv 1) da_nil)))))))
  (dss_cons (ds_for pxO rfl (di_list (de_lst (da_cons de_int (da_cons (de_neg de_int) (da_cons (de_op op_add od_add (dv 2) de_int) da_nil))))) (dg_name 11 nd)
  (dss_one (ds_if (PWd.pt (dw_or (dt_not (dt_val (de_callC C__law_states_refused (hr.mono (by decide)) px0 (da_cons (dv 9) (da_cons (dv 11) (da_cons (de_ix (db_of (de_ix (db 7) de_int)) de_int) da_nil)))))) (dw_or1 (dt_not (dt_val (de_callC C__law_spent_refused (hr.mono (by decide)) px0 (da_cons (dv 9) (da_cons (dv 11) (da_cons (de_ix (db_of (de_ix (db 7) de_int)) de_int) da_nil)))))))))
  (dss_one (ds_ret de_bl))
  dss_nil)))
  (dss_frz 6 (dss_frz 8 (dss_frz 7 (dss_frz 10 (dss_cons (ds_if (dt_cmp (op_eqD hr.units) od_eqN (dv 10) (de_lst da_nil))
  (dss_frz 8 (dss_frz 7 (dss_cons (ds_for pxO rfl (di_list (dv 7)) (dg_name 13 nd)
  (dss_frz 8 (dss_one (ds_if (PWd.pt (dw_or (dt_not (dt_val (de_callC C__law_states_clash (hr.mono (by decide)) px0 (da_cons (dv 9) (da_cons (dv 13) (da_cons (dv 8) da_nil)))))) (dw_or1 (dt_not (dt_val (de_callC C__law_spent_clash (hr.mono (by decide)) px0 (da_cons (dv 9) (da_cons (dv 13) (da_cons (dv 8) da_nil)))))))))
  (dss_one (ds_ret de_bl))
  dss_nil))))
  (dss_frz 6 (dss_one (ds_ret (de_callC C__law_is_kept (hr.mono (by decide)) px0 (da_cons (dv 9) (da_cons (dv 2) (da_cons (dv 3) (da_cons (dv 6) da_nil)))))))))))
  dss_nil)
  (dss_frz 8 (dss_cons (ds_for pxO rfl (di_rng1 m_range (da_cons de_int da_nil)) (dg_name 12 nd)
  (dss_frz 8 (dss_one (ds_for pxO rfl (di_rng1 m_range (da_cons de_int da_nil)) (dg_name 14 nd)
  (dss_frz 8 (dss_one (ds_if (dt_not (dt_val (de_callC C__law_holds (hr.mono (by decide)) pxR (da_cons (dv 9) (da_cons (de_ix (db 7) (dv 14)) (da_cons (de_ix (db 10) (dv 14)) (da_cons (dv 8) (da_cons (dv 2) da_nil))))))))
  (dss_one (ds_ret de_bl))
  dss_nil)))))))
  (dss_frz 6 (dss_one (ds_ret (de_callC C__law_is_kept (hr.mono (by decide)) px0 (da_cons (dv 9) (da_cons (dv 2) (da_cons (dv 3) (da_cons (dv 6) da_nil)))))))))))))))))))))))))))))))))))

end
end Pu
set_option maxHeartbeats 200000
/-! M43e: small laws of lists, heights, rings, ways. -/
namespace Pu
open PySem PySem.Spec PyProof.Rows L2
theorem map_get {α β : Type} {f : α → β} {xs : List α} {n : Nat} {d : β} (h : (xs.map f)[n]? = some d) : ∃ a, xs[n]? = some a ∧ d = f a := by
  rw [List.getElem?_map] at h
  cases e : xs[n]? with
  | none => rw [e] at h; cases h
  | some a => rw [e] at h; cases h; exact ⟨a, rfl, rfl⟩
theorem atI_map {α : Type} {xs : List α} {f : α → D} {n : Nat} {a : α} (h : xs[n]? = some a) : atI (xs.map f) (n : Int) = some (f a) := atI_nat (by rw [List.getElem?_map, h]; rfl)
theorem getD_some {α : Type} {xs : List (Option α)} {n : Nat} {a : Option α} (h : xs[n]? = some a) : xs.getD n none = a := by
  rw [List.getD_eq_getElem?_getD, h]; rfl
theorem hD_get {hs : List Int} {i : Nat} {x : Int} (h : hs[i]? = some x) : hD hs i = x := by
  unfold hD
  rw [List.getD_eq_getElem?_getD, h]; rfl
theorem get_hD {hs : List Int} {i : Nat} (h : i < hs.length) : hs[i]? = some (hD hs i) := by
  unfold hD
  rw [List.getD_eq_getElem?_getD, List.getElem?_eq_getElem h]; rfl
theorem hD_range {n : Nat} {g : Nat → Int} {i : Nat} (h : i < n) : hD ((List.range n).map g) i = g i := hD_get (by rw [List.getElem?_map, List.getElem?_range h]; rfl)
theorem fits_congr {n : Nat} {fs : List Fact} (ok : FactsOk n fs) {h g : Nat → Int} (e : ∀ i, i < n → h i = g i) (F : Fits fs h) : Fits fs g := fun f hf => by
  obtain ⟨o1, o2, _⟩ := ok f hf
  have := F f hf
  rw [← e _ o1, ← e _ o2]
  exact this
theorem all_some : ∀ {cs : List (Option Int)}, (∀ v : Nat, v < cs.length → ∃ y, cs[v]? = some (some y)) → ∃ xs : List Int, cs = xs.map some
  | [], _ => ⟨[], rfl⟩
  | c :: cs, h => by
    obtain ⟨y, hy⟩ := h 0 (by simp)
    have ey : c = some y := by simpa using hy
    obtain ⟨xs, hx⟩ := all_some (cs := cs) fun v hv => by
      obtain ⟨z, hz⟩ := h (v + 1) (by simpa using hv)
      exact ⟨z, by simpa using hz⟩
    exact ⟨y :: xs, by rw [ey, hx]; rfl⟩
theorem BFk.len {fs : List Fact} {n : Nat} {c0 cs : List (Option Int)} {ls : List (Option St0)} {k : Nat} {ch : Bool} (B : BFk fs n c0 cs ls k ch) : cs.length = n ∧ ls.length = n := by
  obtain ⟨_, _, _, B⟩ := B
  exact ⟨B.lc, B.ll⟩
theorem BFk.lastOk {fs : List Fact} {n : Nat} {c0 cs : List (Option Int)} {ls : List (Option St0)} {k : Nat} {ch : Bool} (B : BFk fs n c0 cs ls k ch) : LastOk fs n ls := by
  obtain ⟨_, _, _, B⟩ := B
  refine ⟨B.ll, fun v st h => ?_⟩
  obtain ⟨t, h1, h2, h3, _⟩ := B.prd v st h
  exact ⟨t, h1, h2, h3⟩
/-- a ring of last steps: a shortest one is a low ring -/
theorem BFk.low_of_ring {fs : List Fact} {n : Nat} {c0 cs : List (Option Int)} {ls : List (Option St0)} {k : Nat} {ch : Bool} (ok : FactsOk n fs) (B : BFk fs n c0 cs ls k ch) {u : Nat} {us : List Stp} (h : Up (LastR fs ls) u us u) (hne : us ≠ []) : ∃ rs, LowRing fs rs := by
  obtain ⟨ts, h1, h2, h3⟩ := ring_min (lastR_fun fs ls) h hne
  exact ⟨_, B.lowRing ok h2 h1 (ring_nodup (lastR_fun fs ls) h2 h3)⟩
theorem BFk.noRing {fs : List Fact} {n : Nat} {c0 cs : List (Option Int)} {ls : List (Option St0)} {k : Nat} {ch : Bool} (ok : FactsOk n fs) (B : BFk fs n c0 cs ls k ch) {h : Nat → Int} (F : Fits fs h) : NoRing fs ls := fun u us hu => by
  by_cases hne : us = []
  · exact hne
  · obtain ⟨rs, L⟩ := B.low_of_ring ok hu hne
    exact absurd F (L.not_fits h)
theorem BFk.not_long {fs : List Fact} {n : Nat} {c0 cs : List (Option Int)} {ls : List (Option St0)} {k : Nat} (ok : FactsOk n fs) (B : BFk fs n c0 cs ls k true) (hk : n ≤ k) (N : NoRing fs ls) : False := by
  obtain ⟨u, us, h1, h2⟩ := B.ring_of ok hk
  exact h1 (N u us h2)
/-- settled costs are heights that fit -/
theorem BFk.fits {fs : List Fact} {n : Nat} {c0 : List (Option Int)} {xs : List Int} {ls : List (Option St0)} {k : Nat} (ok : FactsOk n fs) (B : BFk fs n c0 (xs.map some) ls k false) : Fits fs (hD xs) := by
  have hl : xs.length = n := by have := B.len.1; rwa [List.length_map] at this
  refine fits_steps.mpr fun t ht => ?_
  obtain ⟨o1, o2, _⟩ := steps_ok ok ht
  obtain ⟨y, hy, hle⟩ := B.settled ok t ht (hD xs t.s) (by rw [List.getElem?_map, get_hD (by omega)]; rfl)
  rw [List.getElem?_map, get_hD (by omega)] at hy
  have e : hD xs t.e = y := by simpa using hy
  omega
/-- where a way up passes, it passes once -/
theorem up_nodup {fs : List Fact} {ls : List (Option St0)} (N : NoRing fs ls) {v w : Nat} {ts : List Stp} (h : Up (LastR fs ls) v ts w) : (pts v ts).Nodup := by
  rw [nodup_at]
  intro i j hij hj he
  have hx : (pts v ts)[j]? = some (pts v ts)[j] := List.getElem?_eq_getElem hj
  rw [hx] at he
  obtain ⟨a1, a2⟩ := h.at i _ he
  obtain ⟨b1, b2⟩ := h.at j _ hx
  obtain ⟨u, c1, c2⟩ := b1.take i (by rw [List.length_take]; omega)
  rw [List.take_take, Nat.min_eq_left (Nat.le_of_lt hij)] at c1
  have e := (c1.det (lastR_fun fs ls) a1 rfl).2
  subst e
  have z := N _ _ c2
  have := congrArg List.length z
  rw [List.length_drop, List.length_take] at this
  simp at this
  omega
theorem up_lt {fs : List Fact} {n : Nat} {ls : List (Option St0)} (ok : FactsOk n fs) {v w : Nat} {ts : List Stp} (h : Up (LastR fs ls) v ts w) (hv : v < n) : ∀ x ∈ pts v ts, x < n := by
  intro x hx
  rcases List.mem_cons.mp hx with e | e
  · rw [e]; exact hv
  · obtain ⟨t, ht, rfl⟩ := List.mem_map.mp e
    exact (steps_ok ok (up_mem h t ht)).1
/-- going up as far as one can -/
theorem up_end {fs : List Fact} {n : Nat} {ls : List (Option St0)} (ok : FactsOk n fs) (L : LastOk fs n ls) (N : NoRing fs ls) {v : Nat} (hv : v < n) : ∃ ts w, Up (LastR fs ls) v ts w ∧ w < n ∧ ls[w]? = some none := by
  have key : ∀ m : Nat, ∀ (ts : List Stp) (w : Nat), Up (LastR fs ls) v ts w → n - ts.length ≤ m → ∃ ts w, Up (LastR fs ls) v ts w ∧ w < n ∧ ls[w]? = some none := by
    intro m
    induction m with
    | zero =>
      intro ts w h hm
      have := nodup_len n _ (up_nodup N h) (up_lt ok h hv)
      unfold pts at this
      rw [List.length_cons, List.length_map] at this
      omega
    | succ m ih =>
      intro ts w h hm
      have hw : w < n := by
        have hm2 : w ∈ pts v ts := by
          rw [h.ends (lastR_fun fs ls)]
          simp
        exact up_lt ok h hv w hm2
      have hl := getD_lt (xs := ls) (i := w) (by rw [L.len]; exact hw)
      cases e : ls.getD w none with
      | none => rw [e] at hl; exact ⟨ts, w, h, hw, hl⟩
      | some st =>
        rw [e] at hl
        obtain ⟨t, h1, h2, h3⟩ := L.ok w st hl
        refine ih (ts ++ [t]) t.s (h.snoc ⟨h1, by rw [h2]; exact hl, h3⟩) ?_
        have := nodup_len n _ (up_nodup N h) (up_lt ok h hv)
        unfold pts at this
        rw [List.length_cons, List.length_map] at this
        rw [List.length_append, List.length_singleton]
        omega
  exact key n [] v (.nil v) (by simp)
theorem c0At_get {n a v : Nat} {x : Int} (h : (c0At n a)[v]? = some (some x)) : v = a ∧ x = 0 := by
  unfold c0At at h
  by_cases hv : v = a
  · subst hv
    by_cases hl : v < n
    · rw [List.getElem?_set_self (by rw [List.length_replicate]; exact hl)] at h
      cases h
      exact ⟨rfl, rfl⟩
    · rw [List.getElem?_eq_none (by rw [List.length_set, List.length_replicate]; omega)] at h
      cases h
  · rw [List.getElem?_set_ne (Ne.symm hv), List.getElem?_replicate] at h
    split at h <;> cases h
/-- each point that has a cost leads up to a -/
theorem BFk.way {fs : List Fact} {n a : Nat} {cs : List (Option Int)} {ls : List (Option St0)} {k : Nat} {ch : Bool} (ok : FactsOk n fs) (B : BFk fs n (c0At n a) cs ls k ch) (N : NoRing fs ls) {v : Nat} {y : Int} (hv : v < n) (hy : cs[v]? = some (some y)) : ∃ ts, Up (LastR fs ls) v ts a ∧ ∃ x, cs[a]? = some (some x) ∧ (ts ≠ [] → csum ts + x ≤ y) ∧ x = 0 ∧ ls[a]? = some none := by
  obtain ⟨ts, w, h, hw, hn⟩ := up_end ok B.lastOk N hv
  obtain ⟨tm, rd, clk, B⟩ := B
  have hc := (B.non w hn).1
  by_cases hne : ts = []
  · subst hne
    cases h
    have hc : cs[v]? = (c0At n a)[v]? := hc
    rw [hy] at hc
    obtain ⟨e1, e2⟩ := c0At_get hc.symm
    subst e1
    exact ⟨[], .nil v, y, hy, (fun z => absurd rfl z), e2, hn⟩
  · obtain ⟨x, y', hx, hy', hxy⟩ := B.up ok h hne
    rw [hy] at hy'
    cases hy'
    have hc : cs[w]? = (c0At n a)[w]? := hc
    rw [hx] at hc
    obtain ⟨e1, e2⟩ := c0At_get hc.symm
    subst e1
    exact ⟨ts, h, x, hx, (fun _ => by rcases hxy with z | z <;> omega), e2, hn⟩
/-- with neighbours joined, all are reached -/
theorem BFk.reach {fs : List Fact} {n a : Nat} {cs : List (Option Int)} {ls : List (Option St0)} {k : Nat} (ok : FactsOk n fs) (J : Joined n fs) (B : BFk fs n (c0At n a) cs ls k false) (ha : a < n) : ∀ v : Nat, v < n → ∃ y, cs[v]? = some (some y) := by
  have st : ∀ t ∈ allSteps fs, (∃ x, cs[t.s]? = some (some x)) → ∃ y, cs[t.e]? = some (some y) := fun t ht ⟨x, hx⟩ => by
    obtain ⟨y, hy, _⟩ := B.settled ok t ht x hx
    exact ⟨y, hy⟩
  have both : ∀ t, t + 1 < n → ((∃ x, cs[t]? = some (some x)) ↔ ∃ x, cs[t + 1]? = some (some x)) := fun t ht => by
    obtain ⟨f, hf, e1, e2, h1, h2⟩ := J t ht
    obtain ⟨i, hi⟩ := List.getElem?_of_mem hf
    obtain ⟨l, hl⟩ := Option.isSome_iff_exists.mp h1
    obtain ⟨g, hg⟩ := Option.isSome_iff_exists.mp h2
    constructor
    · intro h
      have := st ⟨(i, true), f.a, f.b, g⟩ (mem_allSteps.mpr ⟨f, hi, by simp [partsOf, hg]⟩)
      rw [e1, e2] at this
      exact this h
    · intro h
      have := st ⟨(i, false), f.b, f.a, -l⟩ (mem_allSteps.mpr ⟨f, hi, by simp [partsOf, hl]⟩)
      rw [e1, e2] at this
      exact this h
  have h0 : ∃ x, cs[a]? = some (some x) := B.some_ ha (by unfold c0At; rw [List.getElem?_set_self (by rw [List.length_replicate]; exact ha)])
  have down : ∀ d : Nat, d ≤ a → ∃ x, cs[a - d]? = some (some x) := by
    intro d
    induction d with
    | zero => intro _; exact h0
    | succ d ih =>
      intro hd
      have := ih (by omega)
      have e : a - d = (a - (d + 1)) + 1 := by omega
      rw [e] at this
      exact (both _ (by omega)).mpr this
  have up : ∀ d : Nat, a + d < n → ∃ x, cs[a + d]? = some (some x) := by
    intro d
    induction d with
    | zero => intro _; exact h0
    | succ d ih => intro hd; exact (both _ (by omega)).mp (ih (by omega))
  intro v hv
  by_cases h : v ≤ a
  · have := down (a - v) (by omega)
    have e : a - (a - v) = v := by omega
    rwa [e] at this
  · have := up (v - a) (by omega)
    have e : a + (v - a) = v := by omega
    rwa [e] at this
/-- a way up, turned about, is a way -/
theorem Up.way {fs : List Fact} {ls : List (Option St0)} (N : NoRing fs ls) {a b : Nat} {ts : List Stp} (h : Up (LastR fs ls) b ts a) (hne : ts ≠ []) : Way fs a b ts.reverse := by
  have F := lastR_fun fs ls
  obtain ⟨l1, l2, l3⟩ := h.linked F
  have nd : (b :: ts.map (·.s)).Nodup := up_nodup N h
  refine ⟨by simpa using hne, fun t ht => up_mem h t (by simpa using ht), l1, l2, l3, ?_, ?_⟩
  · rw [List.map_reverse]
    exact (List.reverse_perm _).nodup_iff.mpr (List.nodup_cons.mp nd).2
  · rw [List.map_reverse, List.mem_reverse]
    exact (List.nodup_cons.mp nd).1
theorem csum_reverse (ts : List Stp) : csum ts.reverse = csum ts := by
  unfold csum
  rw [List.map_reverse, List.sum_reverse]
end Pu
/-! M43f: rounds over facts, listings, tight tables: plain laws. -/
namespace Pu
open PySem PySem.Spec PyProof.Rows L2
theorem lower1_some {xs : List Int} {ls : List (Option St0)} {ch : Bool} {t : Stp} (hs : t.s < xs.length) (he : t.e < xs.length) : lower1 ⟨xs.map some, ls, ch⟩ t = if hD xs t.s + t.c < hD xs t.e then ⟨(xs.set t.e (hD xs t.s + t.c)).map some, ls.set t.e (some t.st), true⟩ else ⟨xs.map some, ls, ch⟩ := by
  have e1 : (xs.map some).getD t.s none = some (hD xs t.s) := by
    rw [List.getD_eq_getElem?_getD, List.getElem?_map, get_hD hs]; rfl
  have e2 : (xs.map some).getD t.e none = some (hD xs t.e) := by
    rw [List.getD_eq_getElem?_getD, List.getElem?_map, get_hD he]; rfl
  unfold lower1
  dsimp only
  rw [e1, e2]
  dsimp only
  by_cases h : hD xs t.s + t.c < hD xs t.e
  · rw [if_pos h, if_pos h]
    unfold lowTo
    dsimp only
    rw [List.map_set]
  · rw [if_neg h, if_neg h]
theorem lowered_take {fs : List Fact} {i : Nat} {f : Fact} (h : fs[i]? = some f) (cs : List (Option Int)) (ls : List (Option St0)) : lowered (allSteps (fs.take (i + 1))) cs ls = (stepsAt i f false).foldl lower1 ((stepsAt i f true).foldl lower1 (lowered (allSteps (fs.take i)) cs ls)) := by
  unfold lowered
  rw [allSteps_take h, List.foldl_append, List.foldl_append]
/-- what is so of all rows is so of all heights that fit -/
theorem rows_all {fs : List Fact} {T : Nat} {rows : List (List Int)} (R : Rows fs T rows) {P : (Nat → Int) → Prop} (inv : ∀ h c, P h → P (fun i => h i - c)) (cg : ∀ h g, (∀ i, i ≤ T → h i = g i) → P h → P g) : (∀ r ∈ rows, P (hD r)) ↔ ∀ h, Fits fs h → P h := by
  constructor
  · intro H h F
    have F' := fits_shift F (h 0)
    have m := R.all (fun i => h i - h 0) F' (by show h 0 - h 0 = 0; omega)
    have p := H _ m
    have p2 : P (fun i => h i - h 0) := cg _ _ (fun i hi => hD_range (g := fun i => h i - h 0) (by omega)) p
    refine cg _ _ (fun i _ => ?_) (inv _ (-(h 0)) p2)
    show h i - h 0 - -(h 0) = h i
    omega
  · intro H r hr
    exact H _ (R.sound r hr).fit
open Classical in
/-- the word by counting -/
theorem word_count {fs : List Fact} {T : Nat} {rows : List (List Int)} (R : Rows fs T rows) {P : (Nat → Int) → Prop} (inv : ∀ h c, P h → P (fun i => h i - c)) (cg : ∀ h g, (∀ i, i ≤ T → h i = g i) → P h → P g) (c : List Int → Bool) (hc : ∀ r ∈ rows, (c r = true ↔ P (hD r))) :
    (if rows.countP c = rows.length then ("yes" : Str) else if rows.countP c = 0 then "no" else "open") = (if ∀ h, Fits fs h → P h then ("yes" : Str) else if ∀ h, Fits fs h → ¬ P h then "no" else "open") := by
  have a1 : rows.countP c = rows.length ↔ ∀ h, Fits fs h → P h := by
    rw [List.countP_eq_length, ← rows_all R inv cg]
    exact ⟨fun H r hr => (hc r hr).mp (H r hr), fun H r hr => (hc r hr).mpr (H r hr)⟩
  have a2 : rows.countP c = 0 ↔ ∀ h, Fits fs h → ¬ P h := by
    rw [List.countP_eq_zero, ← rows_all R (P := fun h => ¬ P h) (fun h c H z => H (cg _ _ (fun i _ => by show h i - c - -c = h i; omega) (inv _ (-c) z))) (fun h g e H z => H (cg _ _ (fun i hi => (e i hi).symm) z))]
    exact ⟨fun H r hr z => H r hr ((hc r hr).mpr z), fun H r hr z => H r hr ((hc r hr).mp z)⟩
  by_cases h1 : rows.countP c = rows.length
  · rw [if_pos h1, if_pos (a1.mp h1)]
  · rw [if_neg h1, if_neg (fun z => h1 (a1.mpr z))]
    by_cases h2 : rows.countP c = 0
    · rw [if_pos h2, if_pos (a2.mp h2)]
    · rw [if_neg h2, if_neg (fun z => h2 (a2.mpr z))]
theorem over_inv {T w : Nat} {m : Int} (h : Nat → Int) (c : Int) (H : OverP T w m h) : OverP T w m (fun i => h i - c) := by
  obtain ⟨k, hk, hm⟩ := H
  exact ⟨k, hk, by show m < h (k + w) - c - (h k - c); omega⟩
theorem over_cg {T w : Nat} {m : Int} (h g : Nat → Int) (e : ∀ i, i ≤ T → h i = g i) (H : OverP T w m h) : OverP T w m g := by
  obtain ⟨k, hk, hm⟩ := H
  exact ⟨k, hk, by rw [← e (k + w) hk, ← e k (by omega)]; exact hm⟩
open Classical in
theorem stW_eq (fs : List Fact) (most : Int) (a b : Nat) : stW fs most a b = if ∀ h, Fits fs h → most < h b - h a then ("yes" : Str) else if ∀ h, Fits fs h → ¬ most < h b - h a then "no" else "open" := by
  unfold stW
  have e : (∀ h, Fits fs h → h b - h a ≤ most) ↔ ∀ h, Fits fs h → ¬ most < h b - h a := ⟨fun H h F => by have := H h F; omega, fun H h F => by have := H h F; omega⟩
  by_cases h1 : ∀ h, Fits fs h → most < h b - h a
  · rw [if_pos h1, if_pos h1]
  · rw [if_neg h1, if_neg h1]
    by_cases h2 : ∀ h, Fits fs h → h b - h a ≤ most
    · rw [if_pos h2, if_pos (e.mp h2)]
    · rw [if_neg h2, if_neg (fun z => h2 (e.mpr z))]
theorem tight_min {n : Nat} {fs : List Fact} {D0 : List (List Int)} (H : Tight n fs D0) {i j : Nat} (hi : i < n) (hj : j < n) {most : Int} : most < -((D0.getD j []).getD i 0) ↔ ∀ h, Fits fs h → most < h j - h i := by
  constructor
  · intro z h F
    have := H.ub j i hj hi h F
    omega
  · intro z
    obtain ⟨h, F, e⟩ := H.at_ j i hj hi
    have := z h F
    omega
theorem tight_max {n : Nat} {fs : List Fact} {D0 : List (List Int)} (H : Tight n fs D0) {i j : Nat} (hi : i < n) (hj : j < n) {most : Int} : (D0.getD i []).getD j 0 ≤ most ↔ ∀ h, Fits fs h → h j - h i ≤ most := by
  constructor
  · intro z h F
    have := H.ub i j hi hj h F
    omega
  · intro z
    obtain ⟨h, F, e⟩ := H.at_ i j hi hj
    have := z h F
    omega
open Classical in
theorem stW_tight {n : Nat} {fs : List Fact} {D0 : List (List Int)} (H : Tight n fs D0) {i j : Nat} (hi : i < n) (hj : j < n) (most : Int) : stW fs most i j = if most < -((D0.getD j []).getD i 0) then ("yes" : Str) else if (D0.getD i []).getD j 0 ≤ most then "no" else "open" := by
  unfold stW
  by_cases h1 : most < -((D0.getD j []).getD i 0)
  · rw [if_pos h1, if_pos ((tight_min H hi hj).mp h1)]
  · rw [if_neg h1, if_neg (fun z => h1 ((tight_min H hi hj).mpr z))]
    by_cases h2 : (D0.getD i []).getD j 0 ≤ most
    · rw [if_pos h2, if_pos ((tight_max H hi hj).mp h2)]
    · rw [if_neg h2, if_neg (fun z => h2 ((tight_max H hi hj).mpr z))]
theorem word_yes {fs : List Fact} {T w : Nat} {most : Int} (hw : w ≤ T) (h : ∀ h, ¬ Fits (fs ++ limitFs 0 T w most) h) : wordW fs T w most = "yes" := by
  unfold wordW
  rw [if_pos]
  intro h' F
  by_cases z : OverP T w most h'
  · exact z
  · exact absurd (fits_append.mpr ⟨F, (fits_limit h' hw).mpr z⟩) (h h')
theorem not_yes {fs : List Fact} {T w : Nat} {most : Int} (hw : w ≤ T) {h : Nat → Int} (F : Fits (fs ++ limitFs 0 T w most) h) : ¬ ∀ h, Fits fs h → OverP T w most h := fun z => by
  obtain ⟨F1, F2⟩ := fits_append.mp F
  exact (fits_limit h hw).mp F2 (z h F1)
theorem word_no {fs : List Fact} {T w : Nat} {most : Int} (hw : w ≤ T) {h : Nat → Int} (F : Fits (fs ++ limitFs 0 T w most) h) (z : ∀ k, k + w ≤ T → ∀ h, Fits fs h → h (k + w) - h k ≤ most) : wordW fs T w most = "no" := by
  unfold wordW
  rw [if_neg (not_yes hw F), if_pos]
  rintro h' F' ⟨k, hk, hm⟩
  have := z k hk h' F'
  omega
theorem word_open {fs : List Fact} {T w : Nat} {most : Int} (hw : w ≤ T) {h g : Nat → Int} (F : Fits (fs ++ limitFs 0 T w most) h) (G : Fits fs g) (o : OverP T w most g) : wordW fs T w most = "open" := by
  unfold wordW
  rw [if_neg (not_yes hw F), if_neg]
  intro z
  exact z g G o
end Pu
/-! M43g: tables of least costs: closing by middle points. -/
namespace Pu
open PySem PySem.Spec PyProof.Rows L2
theorem Sq.at {n : Nat} {T : Tab} (S : Sq n T) {i : Nat} (h : i < n) : T[i]? = some (T.getD i []) ∧ (T.getD i []).length = n := by
  have g : T[i]? = some (T.getD i []) := by rw [List.getD_eq_getElem?_getD, List.getElem?_eq_getElem (by rw [S.len]; exact h)]; rfl
  exact ⟨g, S.row _ (List.mem_of_getElem? g)⟩
theorem Sq.set {n : Nat} {T : Tab} (S : Sq n T) {i : Nat} (h : i < n) (j : Nat) (v : Option Int) : Sq n (setC T i j v) := by
  unfold setC
  refine ⟨by rw [List.length_set]; exact S.len, fun r hr => ?_⟩
  rcases List.mem_or_eq_of_mem_set hr with z | z
  · exact S.row r z
  · rw [z, List.length_set]; exact (S.at h).2
theorem Sq.low {n : Nat} {T : Tab} (S : Sq n T) {i : Nat} (h : i < n) (j : Nat) (c : Int) : Sq n (lowC T i j c) := by
  unfold lowC
  split
  · exact S.set h j _
  · split
    · exact S.set h j _
    · exact S
theorem cell_set {n : Nat} {T : Tab} (S : Sq n T) {a b : Nat} (ha : a < n) (hb : b < n) (v : Option Int) (i j : Nat) : cell (setC T a b v) i j = if i = a ∧ j = b then v else cell T i j := by
  unfold cell setC
  have la : a < T.length := by rw [S.len]; exact ha
  by_cases hi : i = a
  · subst hi
    rw [List.getD_eq_getElem?_getD (l := T.set i _), List.getElem?_set_self la]
    show ((T.getD i []).set b v).getD j none = _
    by_cases hj : j = b
    · subst hj
      rw [if_pos ⟨rfl, rfl⟩, List.getD_eq_getElem?_getD, List.getElem?_set_self (by rw [(S.at ha).2]; exact hb)]
      rfl
    · rw [if_neg (fun z => hj z.2), List.getD_eq_getElem?_getD, List.getElem?_set_ne (Ne.symm hj), ← List.getD_eq_getElem?_getD]
  · rw [if_neg (fun z => hi z.1), List.getD_eq_getElem?_getD (l := T.set a _), List.getElem?_set_ne (Ne.symm hi), ← List.getD_eq_getElem?_getD]
/-- T' is nowhere above T -/
def LeT (T T' : Tab) : Prop := ∀ i j d, cell T i j = some d → ∃ d', cell T' i j = some d' ∧ d' ≤ d
theorem LeT.refl (T : Tab) : LeT T T := fun i j d h => ⟨d, h, Int.le_refl d⟩
theorem LeT.trans {T U V : Tab} (a : LeT T U) (b : LeT U V) : LeT T V := fun i j d h => by
  obtain ⟨x, h1, h2⟩ := a i j d h
  obtain ⟨y, h3, h4⟩ := b i j x h1
  exact ⟨y, h3, Int.le_trans h4 h2⟩
/-- what lowering does -/
theorem low_cases {n : Nat} {T : Tab} (S : Sq n T) {a b : Nat} (ha : a < n) (hb : b < n) (c : Int) : LeT T (lowC T a b c) ∧ (∃ d, cell (lowC T a b c) a b = some d ∧ d ≤ c) ∧ ∀ i j d, cell (lowC T a b c) i j = some d → cell T i j = some d ∨ (i = a ∧ j = b ∧ d = c) := by
  unfold lowC
  cases e : cell T a b with
  | none =>
    refine ⟨fun i j d h => ⟨d, ?_, Int.le_refl d⟩, ⟨c, by show cell (setC T a b (some c)) a b = _; rw [cell_set S ha hb, if_pos ⟨rfl, rfl⟩], Int.le_refl c⟩, fun i j d h => ?_⟩
    · show cell (setC T a b (some c)) i j = _
      rw [cell_set S ha hb, if_neg]
      · exact h
      · rintro ⟨rfl, rfl⟩
        rw [e] at h; cases h
    · have h : cell (setC T a b (some c)) i j = some d := h
      rw [cell_set S ha hb] at h
      split at h
      · rename_i z
        cases h
        exact .inr ⟨z.1, z.2, rfl⟩
      · exact .inl h
  | some y =>
    show LeT T (if c < y then setC T a b (some c) else T) ∧ (∃ d, cell (if c < y then setC T a b (some c) else T) a b = some d ∧ d ≤ c) ∧ ∀ i j d, cell (if c < y then setC T a b (some c) else T) i j = some d → cell T i j = some d ∨ (i = a ∧ j = b ∧ d = c)
    by_cases hc : c < y
    · rw [if_pos hc]
      refine ⟨fun i j d h => ?_, ⟨c, by rw [cell_set S ha hb, if_pos ⟨rfl, rfl⟩], Int.le_refl c⟩, fun i j d h => ?_⟩
      · rw [cell_set S ha hb]
        split
        · rename_i z
          rw [z.1, z.2, e] at h
          cases h
          exact ⟨c, rfl, by omega⟩
        · exact ⟨d, h, Int.le_refl d⟩
      · rw [cell_set S ha hb] at h
        split at h
        · rename_i z
          cases h
          exact .inr ⟨z.1, z.2, rfl⟩
        · exact .inl h
    · rw [if_neg hc]
      exact ⟨LeT.refl T, ⟨y, e, by omega⟩, fun i j d h => .inl h⟩
theorem foldl_take {α β : Type} (f : β → α → β) (b : β) {xs : List α} {k : Nat} {a : α} (h : xs[k]? = some a) : (xs.take (k + 1)).foldl f b = f ((xs.take k).foldl f b) a := by
  rw [List.take_add_one, h, List.foldl_append]; rfl
/-- by turns -/
theorem foldl_turns {α β : Type} (f : β → α → β) (b : β) (xs : List α) (P : Nat → β → Prop) (h0 : P 0 b) (hs : ∀ k x c, xs[k]? = some x → P k c → P (k + 1) (f c x)) : P xs.length (xs.foldl f b) := by
  have key : ∀ k, k ≤ xs.length → P k ((xs.take k).foldl f b) := by
    intro k
    induction k with
    | zero => intro _; exact h0
    | succ k ih =>
      intro hk
      have hx : xs[k]? = some xs[k] := List.getElem?_eq_getElem (by omega)
      rw [foldl_take f b hx]
      exact hs k _ _ hx (ih (by omega))
  have := key xs.length (Nat.le_refl _)
  rwa [List.take_length] at this
theorem foldl_rng {β : Type} (f : β → Nat → β) (b : β) (n : Nat) (P : Nat → β → Prop) (h0 : P 0 b) (hs : ∀ k c, k < n → P k c → P (k + 1) (f c k)) : P n ((List.range n).foldl f b) := by
  have := foldl_turns f b (List.range n) P h0 fun k x c hx hp => by
    have hk : k < n := by
      have := (List.getElem?_eq_some_iff.mp hx).1
      rwa [List.length_range] at this
    rw [List.getElem?_range hk] at hx
    cases hx
    exact hs k c hk hp
  rwa [List.length_range] at this
def SoundT (n : Nat) (fs : List Fact) (T : Tab) : Prop := ∀ i j d, i < n → j < n → cell T i j = some d → ∀ h, Fits fs h → h j - h i ≤ d
def Diag0 (n : Nat) (T : Tab) : Prop := ∀ i, i < n → cell T i i = some 0
def HasFacts (T : Tab) (fs : List Fact) : Prop := ∀ f ∈ fs, (∀ g, f.hi = some g → ∃ d, cell T f.a f.b = some d ∧ d ≤ g) ∧ ∀ l, f.lo = some l → ∃ d, cell T f.b f.a = some d ∧ d ≤ -l
theorem HasFacts.le {T T' : Tab} {fs : List Fact} (F : HasFacts T fs) (L : LeT T T') : HasFacts T' fs := fun f hf => by
  obtain ⟨h1, h2⟩ := F f hf
  refine ⟨fun g hg => ?_, fun l hl => ?_⟩
  · obtain ⟨d, e, hd⟩ := h1 g hg
    obtain ⟨d', e', hd'⟩ := L _ _ _ e
    exact ⟨d', e', by omega⟩
  · obtain ⟨d, e, hd⟩ := h2 l hl
    obtain ⟨d', e', hd'⟩ := L _ _ _ e
    exact ⟨d', e', by omega⟩
def Tri (n : Nat) (T : Tab) (k : Nat) : Prop := ∀ i j a b, i < n → j < n → cell T i k = some a → cell T k j = some b → ∃ d, cell T i j = some d ∧ d ≤ a + b
/-- a cell of T1 is one of T, or a way by m -/
def By (n : Nat) (T : Tab) (m : Nat) (T1 : Tab) : Prop := ∀ i j d, i < n → j < n → cell T1 i j = some d → cell T i j = some d ∨ ∃ f s, cell T i m = some f ∧ cell T m j = some s ∧ d = f + s
theorem By.row {n : Nat} {T T1 : Tab} {m : Nat} (B : By n T m T1) (hm : m < n) (D : Diag0 n T) {j : Nat} {d : Int} (hj : j < n) (h : cell T1 m j = some d) : cell T m j = some d := by
  rcases B m j d hm hj h with z | ⟨f, s, h1, h2, rfl⟩
  · exact z
  · rw [D m hm] at h1
    cases h1
    rw [h2, Int.zero_add]
theorem By.col {n : Nat} {T T1 : Tab} {m : Nat} (B : By n T m T1) (hm : m < n) (D : Diag0 n T) {i : Nat} {d : Int} (hi : i < n) (h : cell T1 i m = some d) : cell T i m = some d := by
  rcases B i m d hi hm h with z | ⟨f, s, h1, h2, rfl⟩
  · exact z
  · rw [D m hm] at h2
    cases h2
    rw [h1, Int.add_zero]
/-- one middle point -/
theorem midM_ok {n m : Nat} {T : Tab} (S : Sq n T) (hm : m < n) (D : Diag0 n T) : Sq n (midM n T m) ∧ LeT T (midM n T m) ∧ By n T m (midM n T m) ∧ ∀ i j f s, i < n → j < n → cell T i m = some f → cell T m j = some s → ∃ d, cell (midM n T m) i j = some d ∧ d ≤ f + s := by
  unfold midM
  have := foldl_rng (midS n m) T n (fun k T1 => Sq n T1 ∧ LeT T T1 ∧ By n T m T1 ∧ ∀ i j f s, i < k → j < n → cell T i m = some f → cell T m j = some s → ∃ d, cell T1 i j = some d ∧ d ≤ f + s)
    ⟨S, LeT.refl T, fun i j d _ _ h => .inl h, fun i j f s h => absurd h (Nat.not_lt_zero _)⟩ fun k T1 hk ⟨S1, L1, B1, C1⟩ => by
      unfold midS
      cases e : cell T1 k m with
      | none =>
        refine ⟨S1, L1, B1, fun i j f s hi hj h1 h2 => ?_⟩
        by_cases hik : i = k
        · subst hik
          obtain ⟨d, z, _⟩ := L1 _ _ _ h1
          rw [e] at z; cases z
        · exact C1 i j f s (by omega) hj h1 h2
      | some f0 =>
        have ef := B1.col hm D hk e
        show Sq n ((List.range n).foldl (midE m k f0) T1) ∧ _
        have in_ := foldl_rng (midE m k f0) T1 n (fun e T2 => Sq n T2 ∧ LeT T1 T2 ∧ By n T m T2 ∧ ∀ j s, j < e → cell T m j = some s → ∃ d, cell T2 k j = some d ∧ d ≤ f0 + s)
          ⟨S1, LeT.refl T1, B1, fun j s h => absurd h (Nat.not_lt_zero _)⟩ fun x T2 hx ⟨S2, L2, B2, C2⟩ => by
            unfold midE
            cases es : cell T2 m x with
            | none =>
              refine ⟨S2, L2, B2, fun j s hj h => ?_⟩
              by_cases hjx : j = x
              · subst hjx
                obtain ⟨d, z, _⟩ := (L1.trans L2) _ _ _ h
                rw [es] at z; cases z
              · exact C2 j s (by omega) h
            | some s0 =>
              have eS := B2.row hm D hx es
              obtain ⟨l1, ⟨d0, l2, l3⟩, l4⟩ := low_cases S2 hk hx (f0 + s0)
              refine ⟨S2.low hk x _, L2.trans l1, fun i j d hi hj h => ?_, fun j s hj h => ?_⟩
              · rcases l4 i j d h with z | ⟨rfl, rfl, rfl⟩
                · exact B2 i j d hi hj z
                · exact .inr ⟨f0, s0, ef, eS, rfl⟩
              · by_cases hjx : j = x
                · subst hjx
                  rw [eS] at h
                  cases h
                  exact ⟨d0, l2, l3⟩
                · obtain ⟨d, z1, z2⟩ := C2 j s (by omega) h
                  obtain ⟨d', z3, z4⟩ := l1 _ _ _ z1
                  exact ⟨d', z3, by omega⟩
        obtain ⟨S3, L3, B3, C3⟩ := in_
        refine ⟨S3, L1.trans L3, B3, fun i j f s hi hj h1 h2 => ?_⟩
        by_cases hik : i = k
        · subst hik
          rw [ef] at h1
          cases h1
          exact C3 j s hj h2
        · obtain ⟨d, z1, z2⟩ := C1 i j f s (by omega) hj h1 h2
          obtain ⟨d', z3, z4⟩ := L3 _ _ _ z1
          exact ⟨d', z3, by omega⟩
  obtain ⟨a, b, c, d⟩ := this
  exact ⟨a, b, c, d⟩
theorem By.sound {n : Nat} {fs : List Fact} {T T1 : Tab} {m : Nat} (B : By n T m T1) (hm : m < n) (S : SoundT n fs T) : SoundT n fs T1 := fun i j d hi hj h q F => by
  rcases B i j d hi hj h with z | ⟨f, s, h1, h2, rfl⟩
  · exact S i j d hi hj z q F
  · have a := S i m f hi hm h1 q F
    have b := S m j s hm hj h2 q F
    omega
theorem diag_le {n : Nat} {fs : List Fact} {T T1 : Tab} (D : Diag0 n T) (L : LeT T T1) (S : SoundT n fs T1) {h : Nat → Int} (F : Fits fs h) : Diag0 n T1 := fun i hi => by
  obtain ⟨d, e, hd⟩ := L _ _ _ (D i hi)
  have := S i i d hi hi e h F
  have ed : d = 0 := by omega
  rw [e, ed]
/-- closed by all middle points -/
theorem midsC_ok {n : Nat} {fs : List Fact} {T : Tab} (S : Sq n T) (D : Diag0 n T) (Sd : SoundT n fs T) {h : Nat → Int} (F : Fits fs h) : Sq n (midsC n T) ∧ LeT T (midsC n T) ∧ Diag0 n (midsC n T) ∧ SoundT n fs (midsC n T) ∧ ∀ k, k < n → Tri n (midsC n T) k := by
  unfold midsC
  exact foldl_rng (midM n) T n (fun m T1 => Sq n T1 ∧ LeT T T1 ∧ Diag0 n T1 ∧ SoundT n fs T1 ∧ ∀ k, k < m → Tri n T1 k)
    ⟨S, LeT.refl T, D, Sd, fun k hk => absurd hk (Nat.not_lt_zero _)⟩ fun m T1 hm ⟨S1, L1, D1, Sd1, Tr⟩ => by
      obtain ⟨S2, L2, B2, C2⟩ := midM_ok S1 hm D1
      have Sd2 := B2.sound hm Sd1
      refine ⟨S2, L1.trans L2, diag_le D1 L2 Sd2 F, Sd2, fun k hk i j a b hi hj ha hb => ?_⟩
      by_cases hkm : k = m
      · subst hkm
        exact C2 i j a b hi hj (B2.col hm D1 hi ha) (B2.row hm D1 hj hb)
      · have hk' : k < m := by omega
        have kn : k < n := by omega
        have T1k := Tr k hk'
        have fin : ∀ x, (∃ d, cell T1 i j = some d ∧ d ≤ x) → x ≤ a + b → ∃ d, cell (midM n T1 m) i j = some d ∧ d ≤ a + b := fun x ⟨d, e, hd⟩ hx => by
          obtain ⟨d', e', hd'⟩ := L2 _ _ _ e
          exact ⟨d', e', by omega⟩
        rcases B2 i k a hi kn ha with za | ⟨f1, s1, p1, p2, rfl⟩ <;> rcases B2 k j b kn hj hb with zb | ⟨f2, s2, p3, p4, rfl⟩
        · exact fin (a + b) (T1k i j a b hi hj za zb) (Int.le_refl _)
        · obtain ⟨d, e, hd⟩ := T1k i m a f2 hi hm za p3
          obtain ⟨d', e', hd'⟩ := C2 i j d s2 hi hj e p4
          exact ⟨d', e', by omega⟩
        · obtain ⟨d, e, hd⟩ := T1k m j s1 b hm hj p2 zb
          obtain ⟨d', e', hd'⟩ := C2 i j f1 d hi hj p1 e
          exact ⟨d', e', by omega⟩
        · obtain ⟨d, e, hd⟩ := T1k m m s1 f2 hm hm p2 p3
          rw [D1 m hm] at e
          cases e
          obtain ⟨d', e', hd'⟩ := C2 i j f1 s2 hi hj p1 p4
          exact ⟨d', e', by omega⟩
def vals (T : Tab) : List (List Int) := T.map fun r => r.map fun o => o.getD 0
theorem vals_cell {n : Nat} {T : Tab} (S : Sq n T) {i j : Nat} (hi : i < n) (hj : j < n) {d : Int} (h : cell T i j = some d) : ((vals T).getD i []).getD j 0 = d := by
  unfold vals
  obtain ⟨g, l⟩ := S.at hi
  rw [List.getD_eq_getElem?_getD (l := T.map _), List.getElem?_map, g]
  show ((T.getD i []).map fun o => o.getD 0).getD j 0 = d
  rw [List.getD_eq_getElem?_getD, List.getElem?_map]
  unfold cell at h
  rw [List.getD_eq_getElem?_getD, List.getElem?_eq_getElem (by rw [l]; exact hj)] at h
  rw [List.getElem?_eq_getElem (by rw [l]; exact hj)]
  have h : (T.getD i [])[j]'(by rw [l]; exact hj) = some d := h
  show ((T.getD i [])[j]'(by rw [l]; exact hj)).getD 0 = d
  rw [h]; rfl
/-- the closure is tight -/
theorem closure_tight {n : Nat} {fs : List Fact} {T : Tab} (ok : FactsOk n fs) (J : Joined n fs) (S : Sq n T) (D : Diag0 n T) (Sd : SoundT n fs T) (Fi : HasFacts T fs) {h : Nat → Int} (F : Fits fs h) : Tight n fs (vals (midsC n T)) ∧ (∀ i j, i < n → j < n → ∃ d, cell (midsC n T) i j = some d) ∧ Sq n (midsC n T) := by
  obtain ⟨S1, L1, D1, Sd1, Tr⟩ := midsC_ok S D Sd F
  have Fi1 := Fi.le L1
  generalize midsC n T = T1 at S1 L1 D1 Sd1 Tr Fi1
  have nb : ∀ t, t + 1 < n → (∃ d, cell T1 t (t + 1) = some d) ∧ ∃ d, cell T1 (t + 1) t = some d := fun t ht => by
    obtain ⟨f, hf, e1, e2, h1, h2⟩ := J t ht
    obtain ⟨l, hl⟩ := Option.isSome_iff_exists.mp h1
    obtain ⟨g, hg⟩ := Option.isSome_iff_exists.mp h2
    obtain ⟨q1, q2⟩ := Fi1 f hf
    obtain ⟨d1, w1, _⟩ := q1 g hg
    obtain ⟨d2, w2, _⟩ := q2 l hl
    rw [e1, e2] at w1 w2
    exact ⟨⟨d1, w1⟩, ⟨d2, w2⟩⟩
  have all : ∀ i j, i < n → j < n → ∃ d, cell T1 i j = some d := fun i j hi hj => by
    have up : ∀ k, i + k < n → ∃ d, cell T1 i (i + k) = some d := by
      intro k
      induction k with
      | zero => intro _; exact ⟨0, D1 i hi⟩
      | succ k ih =>
        intro hk
        obtain ⟨a, ha⟩ := ih (by omega)
        obtain ⟨b, hb⟩ := (nb (i + k) (by omega)).1
        obtain ⟨d, e, _⟩ := Tr (i + k) (by omega) i (i + k + 1) a b hi (by omega) ha hb
        exact ⟨d, e⟩
    have down : ∀ k, k ≤ i → ∃ d, cell T1 i (i - k) = some d := by
      intro k
      induction k with
      | zero => intro _; exact ⟨0, D1 i hi⟩
      | succ k ih =>
        intro hk
        obtain ⟨a, ha⟩ := ih (by omega)
        obtain ⟨b, hb⟩ := (nb (i - (k + 1)) (by omega)).2
        have e1 : i - (k + 1) + 1 = i - k := by omega
        rw [e1] at hb
        obtain ⟨d, e, _⟩ := Tr (i - k) (by omega) i (i - (k + 1)) a b hi (by omega) ha hb
        exact ⟨d, e⟩
    by_cases hij : i ≤ j
    · have := up (j - i) (by omega)
      have e : i + (j - i) = j := by omega
      rwa [e] at this
    · have := down (i - j) (by omega)
      have e : i - (i - j) = j := by omega
      rwa [e] at this
  refine ⟨⟨?_, fun r hr => ?_, fun i j hi hj q Q => ?_, fun i j hi hj => ?_⟩, all, S1⟩
  · unfold vals; rw [List.length_map]; exact S1.len
  · unfold vals at hr
    obtain ⟨r0, h0, rfl⟩ := List.mem_map.mp hr
    rw [List.length_map]; exact S1.row r0 h0
  · obtain ⟨d, e⟩ := all i j hi hj
    rw [vals_cell S1 hi hj e]
    exact Sd1 i j d hi hj e q Q
  · refine ⟨fun k => (cell T1 i k).getD 0, fun f hf => ?_, ?_⟩
    · obtain ⟨o1, o2, _⟩ := ok f hf
      obtain ⟨xa, ea⟩ := all i f.a hi o1
      obtain ⟨xb, eb⟩ := all i f.b hi o2
      obtain ⟨q1, q2⟩ := Fi1 f hf
      have va : (cell T1 i f.a).getD 0 = xa := by rw [ea]; rfl
      have vb : (cell T1 i f.b).getD 0 = xb := by rw [eb]; rfl
      refine ⟨fun l hl => ?_, fun g hg => ?_⟩
      · show l ≤ (cell T1 i f.b).getD 0 - (cell T1 i f.a).getD 0
        rw [va, vb]
        obtain ⟨d, e, hd⟩ := q2 l hl
        obtain ⟨y, ey, hy⟩ := Tr f.b o2 i f.a xb d hi o1 eb e
        rw [ea] at ey
        cases ey
        omega
      · show (cell T1 i f.b).getD 0 - (cell T1 i f.a).getD 0 ≤ g
        rw [va, vb]
        obtain ⟨d, e, hd⟩ := q1 g hg
        obtain ⟨y, ey, hy⟩ := Tr f.a o1 i f.b xa d hi o2 ea e
        rw [eb] at ey
        cases ey
        omega
    · obtain ⟨d, e⟩ := all i j hi hj
      rw [vals_cell S1 hi hj e]
      show (cell T1 i j).getD 0 - (cell T1 i i).getD 0 = d
      rw [e, D1 i hi]
      show d - 0 = d
      omega
theorem tD_vals {n : Nat} {T : Tab} (S : Sq n T) (all : ∀ i j, i < n → j < n → ∃ d, cell T i j = some d) : (tD T).map D.lst = (vals T).map intsD := by
  unfold tD vals intsD
  rw [List.map_map, List.map_map]
  refine List.map_congr_left fun r hr => ?_
  obtain ⟨i, hi⟩ := List.getElem?_of_mem hr
  have hin : i < n := by
    have := (List.getElem?_eq_some_iff.mp hi).1
    rwa [S.len] at this
  have er : T.getD i [] = r := by rw [List.getD_eq_getElem?_getD, hi]; rfl
  show D.lst (r.map oD) = D.lst ((r.map fun o => o.getD 0).map D.int)
  rw [List.map_map]
  congr 1
  refine List.map_congr_left fun o ho => ?_
  obtain ⟨j, hj⟩ := List.getElem?_of_mem ho
  have hjn : j < n := by
    have := (List.getElem?_eq_some_iff.mp hj).1
    rwa [S.row r hr] at this
  obtain ⟨d, e⟩ := all i j hin hjn
  unfold cell at e
  rw [er, List.getD_eq_getElem?_getD, hj] at e
  have e : o = some d := e
  rw [e]; rfl
end Pu
/-! M43h: tables of steps: the program's, the law's. -/
namespace Pu
open PySem PySem.Spec PyProof.Rows L2
theorem Sq.opt {n : Nat} {T : Tab} (S : Sq n T) {i : Nat} (h : i < n) (j : Nat) (o : Option Int) : Sq n (optLow T i j o) := by
  cases o with
  | none => exact S
  | some c => exact S.low h j c
theorem Sq.fact {n : Nat} {T : Tab} (S : Sq n T) {f : Fact} (ha : f.a < n) (hb : f.b < n) : Sq n (factC T f) := (S.opt ha f.b f.hi).opt hb f.a _
theorem opt_cases {n : Nat} {T : Tab} (S : Sq n T) {a b : Nat} (ha : a < n) (hb : b < n) (o : Option Int) : LeT T (optLow T a b o) ∧ (∀ c, o = some c → ∃ d, cell (optLow T a b o) a b = some d ∧ d ≤ c) ∧ ∀ i j d, cell (optLow T a b o) i j = some d → cell T i j = some d ∨ (i = a ∧ j = b ∧ o = some d) := by
  cases o with
  | none => exact ⟨LeT.refl T, fun c h => (by cases h), fun i j d h => .inl h⟩
  | some c =>
    obtain ⟨h1, h2, h3⟩ := low_cases S ha hb c
    refine ⟨h1, fun c' h => by cases h; exact h2, fun i j d h => ?_⟩
    rcases h3 i j d h with z | ⟨z1, z2, z3⟩
    · exact .inl z
    · exact .inr ⟨z1, z2, by rw [z3]⟩
/-- all facts told into a table -/
theorem facts_fold {n : Nat} {fs : List Fact} {T : Tab} (ok : FactsOk n fs) (S : Sq n T) : Sq n (fs.foldl factC T) ∧ LeT T (fs.foldl factC T) ∧ (∀ i j d, cell (fs.foldl factC T) i j = some d → cell T i j = some d ∨ ∃ t ∈ allSteps fs, t.s = i ∧ t.e = j ∧ t.c = d) ∧ HasFacts (fs.foldl factC T) fs := by
  have := foldl_turns factC T fs (fun k T1 => Sq n T1 ∧ LeT T T1 ∧ (∀ i j d, cell T1 i j = some d → cell T i j = some d ∨ ∃ t ∈ allSteps fs, t.s = i ∧ t.e = j ∧ t.c = d) ∧ HasFacts T1 (fs.take k))
    ⟨S, LeT.refl T, fun i j d h => .inl h, fun f hf => by simp at hf⟩ fun k f T1 hk ⟨S1, L1, C1, F1⟩ => by
      obtain ⟨o1, o2, _⟩ := ok f (List.mem_of_getElem? hk)
      have S2 := S1.opt o1 f.b f.hi
      obtain ⟨a1, a2, a3⟩ := opt_cases S1 o1 o2 f.hi
      obtain ⟨b1, b2, b3⟩ := opt_cases S2 o2 o1 (f.lo.map fun l => -l)
      have Lall : LeT T1 (factC T1 f) := a1.trans b1
      refine ⟨S1.fact o1 o2, L1.trans Lall, fun i j d h => ?_, fun g hg => ?_⟩
      · rcases b3 i j d h with z | ⟨z1, z2, z3⟩
        · rcases a3 i j d z with w | ⟨w1, w2, w3⟩
          · exact C1 i j d w
          · exact .inr ⟨⟨(k, true), f.a, f.b, d⟩, mem_allSteps.mpr ⟨f, hk, by simp [partsOf, w3]⟩, w1.symm, w2.symm, rfl⟩
        · cases el : f.lo with
          | none => rw [el] at z3; cases z3
          | some l =>
            rw [el] at z3
            cases z3
            exact .inr ⟨⟨(k, false), f.b, f.a, -l⟩, mem_allSteps.mpr ⟨f, hk, by simp [partsOf, el]⟩, z1.symm, z2.symm, rfl⟩
      · rw [List.take_add_one, hk] at hg
        rcases List.mem_append.mp hg with hg | hg
        · exact (F1.le Lall) g hg
        · have e : g = f := by simpa using hg
          subst e
          refine ⟨fun c hc => ?_, fun l hl => ?_⟩
          · obtain ⟨d, e1, e2⟩ := a2 c hc
            obtain ⟨d', e3, e4⟩ := b1 _ _ _ e1
            exact ⟨d', e3, by omega⟩
          · exact b2 (-l) (by rw [hl]; rfl)
  rw [List.take_length] at this
  exact this
def diagOn (n : Nat) (T : Tab) : Tab := (List.range n).foldl (fun T k => setC T k k (some 0)) T
theorem diag_cell {n : Nat} {T : Tab} (S : Sq n T) : Sq n (diagOn n T) ∧ ∀ i j, cell (diagOn n T) i j = if i = j ∧ i < n then some 0 else cell T i j := by
  unfold diagOn
  exact foldl_rng (fun T k => setC T k k (some 0)) T n (fun k T1 => Sq n T1 ∧ ∀ i j, cell T1 i j = if i = j ∧ i < k then some 0 else cell T i j)
    ⟨S, fun i j => by rw [if_neg (fun z => absurd z.2 (Nat.not_lt_zero _))]⟩ fun k T1 hk ⟨S1, C1⟩ => by
      refine ⟨S1.set hk k _, fun i j => ?_⟩
      rw [cell_set S1 hk hk, C1]
      by_cases h1 : i = k ∧ j = k
      · rw [if_pos h1, if_pos ⟨h1.1.trans h1.2.symm, by omega⟩]
      · rw [if_neg h1]
        by_cases h2 : i = j ∧ i < k
        · rw [if_pos h2, if_pos ⟨h2.1, by omega⟩]
        · rw [if_neg h2, if_neg]
          rintro ⟨z1, z2⟩
          by_cases hik : i = k
          · exact h1 ⟨hik, z1 ▸ hik⟩
          · exact h2 ⟨z1, by omega⟩
theorem rep_sq (n : Nat) (v : Option Int) : Sq n (List.replicate n (List.replicate n v)) := ⟨List.length_replicate, fun r hr => by rw [List.eq_of_mem_replicate hr, List.length_replicate]⟩
theorem rep_cell {n : Nat} {v : Option Int} {i j : Nat} (hi : i < n) (hj : j < n) : cell (List.replicate n (List.replicate n v)) i j = v := by
  unfold cell
  rw [List.getD_eq_getElem?_getD (l := List.replicate n _), List.getElem?_replicate, if_pos hi]
  show (List.replicate n v).getD j none = v
  rw [List.getD_eq_getElem?_getD, List.getElem?_replicate, if_pos hj]
  rfl
theorem cell_out {n : Nat} {T : Tab} (S : Sq n T) {i j : Nat} {d : Int} (h : cell T i j = some d) : i < n ∧ j < n := by
  unfold cell at h
  by_cases hi : i < n
  · refine ⟨hi, ?_⟩
    apply Classical.byContradiction
    intro hj
    rw [List.getD_eq_getElem?_getD (l := T.getD i []), List.getElem?_eq_none (by rw [(S.at hi).2]; omega)] at h
    cases h
  · exfalso
    rw [List.getD_eq_getElem?_getD (l := T), List.getElem?_eq_none (by rw [S.len]; omega)] at h
    cases h
/-- what the program's table of steps is -/
theorem stepC_ok {n : Nat} {fs : List Fact} (ok : FactsOk n fs) {h : Nat → Int} (F : Fits fs h) : Sq n (stepC n fs) ∧ Diag0 n (stepC n fs) ∧ SoundT n fs (stepC n fs) ∧ HasFacts (stepC n fs) fs := by
  obtain ⟨S0, C0⟩ := diag_cell (rep_sq n none)
  have S0 : Sq n (diagC n) := S0
  have C0 : ∀ i j, cell (diagC n) i j = if i = j ∧ i < n then some 0 else cell (List.replicate n (List.replicate n none)) i j := C0
  obtain ⟨S1, L1, C1, F1⟩ := facts_fold ok S0
  have D0 : Diag0 n (diagC n) := fun i hi => by rw [C0, if_pos ⟨rfl, hi⟩]
  have Sd : SoundT n fs (stepC n fs) := fun i j d hi hj hc q Q => by
    rcases C1 i j d hc with z | ⟨t, ht, rfl, rfl, rfl⟩
    · rw [C0] at z
      split at z
      · rename_i w
        cases z
        rw [w.1]; omega
      · rw [rep_cell hi hj] at z
        cases z
    · exact fits_steps.mp Q t ht
  exact ⟨S1, diag_le D0 L1 Sd F, Sd, F1⟩
theorem stepC_sq {n : Nat} {fs : List Fact} (ok : FactsOk n fs) : Sq n (stepC n fs) := (facts_fold ok (diag_cell (rep_sq n none)).1).1
/-- the law's own table of steps -/
def lawC (n : Nat) (fs : List Fact) : Tab := diagOn n (fs.foldl factC (List.replicate n (List.replicate n (some (10 ^ 15 : Int)))))
theorem tick_far {T : Nat} {lo hi : Int} {fs : List MF} (h0 : 0 ≤ lo) (h6 : hi ≤ 1000000) {h : Nat → Int} (F : Fits (rules T lo hi fs) h) {i j : Nat} (hi' : i ≤ T) (hj : j ≤ T) : h j - h i ≤ 1000000 * (T : Int) := by
  have st : ∀ t, t < T → 0 ≤ h (t + 1) - h t ∧ h (t + 1) - h t ≤ 1000000 := fun t ht => by
    have := F ⟨t, t + 1, some lo, some hi⟩ (List.mem_append_left _ (tick_mem.mpr ⟨t, ht, rfl⟩))
    have a := this.1 lo rfl
    have b := this.2 hi rfl
    have a : lo ≤ h (t + 1) - h t := a
    have b : h (t + 1) - h t ≤ hi := b
    constructor <;> omega
  have up : ∀ k, i + k ≤ T → h (i + k) - h i ≤ 1000000 * (k : Int) ∧ 0 ≤ h (i + k) - h i := by
    intro k
    induction k with
    | zero => intro _; show h i - h i ≤ 1000000 * ((0 : Nat) : Int) ∧ 0 ≤ h i - h i; omega
    | succ k ih =>
      intro hk
      have a := ih (by omega)
      have b := st (i + k) (by omega)
      have e : i + (k + 1) = i + k + 1 := by omega
      rw [e]
      push_cast
      omega
  by_cases hij : i ≤ j
  · have := (up (j - i) (by omega)).1
    have e : i + (j - i) = j := by omega
    rw [e] at this
    omega
  · have down : ∀ k, j + k ≤ T → 0 ≤ h (j + k) - h j := by
      intro k
      induction k with
      | zero => intro _; show 0 ≤ h j - h j; omega
      | succ k ih =>
        intro hk
        have a := ih (by omega)
        have b := st (j + k) (by omega)
        have e : j + (k + 1) = j + k + 1 := by omega
        rw [e]
        omega
    have := down (i - j) (by omega)
    have e : j + (i - j) = i := by omega
    rw [e] at this
    omega
theorem lawC_ok {T : Nat} {lo hi : Int} {fs : List MF} (h0 : 0 ≤ lo) (h6 : hi ≤ 1000000) (t24 : T ≤ 24) (ok : ∀ f ∈ fs, f.ok T) : Sq (T + 1) (lawC (T + 1) (rules T lo hi fs)) ∧ Diag0 (T + 1) (lawC (T + 1) (rules T lo hi fs)) ∧ SoundT (T + 1) (rules T lo hi fs) (lawC (T + 1) (rules T lo hi fs)) ∧ HasFacts (lawC (T + 1) (rules T lo hi fs)) (rules T lo hi fs) := by
  have fok := rules_ok (lo := lo) (hi := hi) ok
  obtain ⟨S1, L1, C1, F1⟩ := facts_fold fok (rep_sq (T + 1) (some (10 ^ 15 : Int)))
  obtain ⟨S2, C2⟩ := diag_cell S1
  have C2 : ∀ i j, cell (lawC (T + 1) (rules T lo hi fs)) i j = if i = j ∧ i < T + 1 then some 0 else _ := C2
  refine ⟨S2, fun i hi' => by rw [C2, if_pos ⟨rfl, hi'⟩], fun i j d hi' hj hc q Q => ?_, fun f hf => ?_⟩
  · rw [C2] at hc
    split at hc
    · rename_i w
      cases hc
      rw [w.1]; omega
    · rcases C1 i j d hc with z | ⟨t, ht, rfl, rfl, rfl⟩
      · rw [rep_cell hi' hj] at z
        cases z
        have := tick_far h0 h6 Q (i := i) (j := j) (by omega) (by omega)
        have e : (10 ^ 15 : Int) = 1000000000000000 := by decide
        rw [e]
        omega
      · exact fits_steps.mp Q t ht
  · obtain ⟨o1, o2, o3⟩ := fok f hf
    obtain ⟨q1, q2⟩ := F1 f hf
    refine ⟨fun g hg => ?_, fun l hl => ?_⟩
    · rw [C2, if_neg (fun z => o3 z.1)]; exact q1 g hg
    · rw [C2, if_neg (fun z => o3 z.1.symm)]; exact q2 l hl
theorem setC_self {n : Nat} {T : Tab} (S : Sq n T) {a b : Nat} (ha : a < n) (hb : b < n) : setC T a b (cell T a b) = T := by
  unfold setC
  obtain ⟨g, l⟩ := S.at ha
  have e1 : (T.getD a []).set b (cell T a b) = T.getD a [] := by
    apply List.ext_getElem?
    intro k
    by_cases hk : b = k
    · subst hk
      rw [List.getElem?_set_self (by rw [l]; exact hb)]
      unfold cell
      rw [List.getD_eq_getElem?_getD (l := T.getD a []), List.getElem?_eq_getElem (by rw [l]; exact hb)]; rfl
    · rw [List.getElem?_set_ne hk]
  rw [e1]
  apply List.ext_getElem?
  intro k
  by_cases hk : a = k
  · subst hk
    rw [List.getElem?_set_self (by rw [S.len]; exact ha), g]
  · rw [List.getElem?_set_ne hk]
/-- storing the smaller one is lowering -/
theorem set_min {n : Nat} {T : Tab} (S : Sq n T) {a b : Nat} (ha : a < n) (hb : b < n) {x c : Int} (e : cell T a b = some x) : setC T a b (some (if c < x then c else x)) = lowC T a b c := by
  unfold lowC
  rw [e]
  show _ = if c < x then setC T a b (some c) else T
  by_cases h : c < x
  · rw [if_pos h, if_pos h]
  · rw [if_neg h, if_neg h, ← e]
    exact setC_self S ha hb
end Pu
set_option maxHeartbeats 1000000
namespace Pu
open PySem PySem.Spec PyProof.Rows L2
local macro_rules | `(tactic| walk_at "pu set") => `(tactic| first | exact SetTo.z | (apply SetTo.s; walk_at "pu set"))
local macro_rules | `(tactic| walk_at "pu data") => `(tactic| first
  | ((with_reducible show dI0 _ _ _ _); refine l_I0 ?_)
  | ((with_reducible show dI (fun _ _ => _) _ _ _ _); refine l_I (show (0 : Int) < _ by omega) ?_)
  | ((with_reducible show dI CDiv _ _ _ _); refine l_I (C := CDiv) ⟨by omega, by omega⟩ ?_)
  | ((with_reducible show dI CMul _ _ _ _); first | refine l_I (C := CMul) (.inl ⟨by omega, by omega⟩) ?_ | refine l_I (C := CMul) (.inr ⟨by omega, by omega⟩) ?_)
  | ((with_reducible show dIsN false _ _ _); refine l_isN ?_)
  | ((with_reducible show dIsN true _ _ _); refine l_notN ?_)
  | ((with_reducible show dEq false _ _ _); first | refine l_eqI ?_ | refine l_eqS ?_ | refine l_eqB ?_ | refine l_eqNI ?_)
  | ((with_reducible show dEq true _ _ _); first | refine l_neI ?_ | refine l_neS ?_ | refine l_neB ?_)
  | ((with_reducible show dIx _ _ _); first | refine l_ixT rfl ?_ | refine l_ixL (by assumption) ?_ | refine l_ixS (by assumption) ?_ | refine l_ixT (by assumption) ?_ | refine l_ixL rfl ?_)
  | ((with_reducible show dLen _ _); first | refine l_lenL ?_ | refine l_lenT ?_ | refine l_lenS ?_)
  | ((with_reducible show dList _ _); first | refine l_listL ?_ | refine l_listT ?_)
  | ((with_reducible show dTuple _ _); refine l_tuple ?_)
  | ((with_reducible show dInt1 _ _); refine l_int1 ?_)
  | ((with_reducible show dMin2 _ _); refine l_min2 ?_)
  | ((with_reducible show dMax2 _ _); refine l_max2 ?_)
  | ((with_reducible show dInI false _ _ _); refine l_inI ?_)
  | ((with_reducible show dInI true _ _ _); refine l_niI ?_)
  | ((with_reducible show kNeg _ _); refine l_kNeg ?_)
  | ((with_reducible show kNotV _ _); refine l_kNotV ?_)
  | ((with_reducible show kRev _ _); refine l_kRev ?_)
  | ((with_reducible show kSlL _ _ _ _); refine l_kSlL ?_)
  | ((with_reducible show kSlT _ _ _ _); refine l_kSlT ?_)
  | ((with_reducible show kO _ _); refine l_kO ?_)
  | ((with_reducible show kIsi _ _ _); refine l_kIsi rfl ?_)
  | ((with_reducible show kFld _ _ _ _); refine l_kFld rfl ?_)
  | ((with_reducible show kQL _ _); first | refine l_kQL ?_ | refine l_kQS ?_)
  | ((with_reducible show kQT _ _); refine l_kQT ?_)
  | ((with_reducible show kR1 _ _); refine l_kR1 (by omega) ?_)
  | ((with_reducible show kR2 _ _); refine l_kR2 (by omega) ?_)
  | ((with_reducible show kRF _ _ _ _); refine l_kRF ?_))
local macro_rules | `(tactic| walk_at "pu one") => `(tactic| first
  | (with_reducible refine l_adr ?_)
  | ((with_reducible show pVarB _ _ _ _); refine l_varBT rfl ?_)
  | ((with_reducible show kAdr _ _ _ _); refine l_kAdr rfl (by assumption) (by assumption) ?_)
  | ((with_reducible show pSetA _ _ _ _ _ _); refine l_setA rfl ?_)
  | (with_reducible refine l_kRowC ?_)
  | ((with_reducible show pCallT _ _ _ _ _); refine l_callT rfl ?_)
  | ((with_reducible show pRetF _ _ _); refine l_retF rfl ?_)
  | ((with_reducible show pRetV _ _ _); refine l_retT rfl ?_)
  | ((with_reducible show kSet _ _ _ (RV.tab _ _ _)); refine l_setT (by walk_at "pu set") ?_)
  | (with_reducible refine l_lcT ?_)
  | ((with_reducible show kTabE _ _ _ _); refine l_kTabE ?_)
  | (with_reducible refine l_seq ?_) | (with_reducible refine l_asg ?_)
  | ((with_reducible show pVar _ _ _ _); refine l_var rfl ?_)
  | ((with_reducible show pVarB _ _ _ _); first | refine l_varBR rfl ?_ | refine l_varBO rfl ?_)
  | (with_reducible refine l_c ?_) | (with_reducible refine l_op ?_)
  | ((with_reducible show kSet _ _ _ (RV.ro _)); refine l_setR (by walk_at "pu set") ?_) | ((with_reducible show kSet _ _ _ (RV.own _)); refine l_setO (by walk_at "pu set") ?_)
  | ((with_reducible show kSet _ _ _ _); first | refine l_setR (by walk_at "pu set") ?_ | refine l_setO (by walk_at "pu set") ?_)
  | (with_reducible refine l_asgG ?_) | (with_reducible refine l_kG ?_) | ((with_reducible show gN _ _ _ _); refine l_gN (by walk_at "pu set") ?_) | ((with_reducible show gT _ _ _ _); refine l_gT ?_) | ((with_reducible show gsCons _ _ _ _ _); refine l_gsC ?_) | ((with_reducible show gsNil _ _ _); refine l_gsN ?_)
  | (with_reducible refine l_if ?_) | (with_reducible refine l_next ?_) | (with_reducible refine l_ret ?_)
  | ((with_reducible show pRetV _ _ _); first | refine l_retR rfl ?_ | refine l_retO rfl ?_)
  | (with_reducible refine l_drop ?_) | (with_reducible refine l_brk ?_) | (with_reducible refine l_cnt ?_)
  | ((with_reducible show pFrz _ _ _ _); first | refine l_frzR rfl ?_ | refine l_frzO rfl (by walk_at "pu set") ?_ | refine l_frzN rfl ?_ | refine l_frzA rfl (by assumption) (by walk_at "pu set") ?_ | refine l_frzX rfl (by assumption) ?_)
  | ((with_reducible show pApp _ _ _ _); refine l_app rfl ?_) | ((with_reducible show pSetI _ _ _ _ _); refine l_setI rfl ?_) | (with_reducible refine l_kSI ?_)
  | (with_reducible refine l_pB ?_) | ((with_reducible show kB _ _); refine l_kB ?_) | (with_reducible refine l_not ?_) | (with_reducible refine l_and ?_) | (with_reducible refine l_or ?_) | (with_reducible refine l_andV ?_) | (with_reducible refine l_orV ?_) | (with_reducible refine l_notV ?_)
  | ((with_reducible show bD _ _ _); refine l_bD ?_) | ((with_reducible show bT (!_) _ _); refine l_notb ?_) | (with_reducible refine l_tt ?_) | (with_reducible refine l_ff ?_)
  | (with_reducible refine l_chain ?_) | (with_reducible refine l_chain3 ?_) | (with_reducible refine l_neg ?_)
  | (with_reducible refine l_nil ?_) | (with_reducible refine l_cons ?_) | (with_reducible refine l_tup ?_) | (with_reducible refine l_lst ?_)
  | ((with_reducible show kTup _ _); refine l_kTup (Nat.le_of_ble_eq_true rfl) ?_) | ((with_reducible show kLst _ _); refine l_kLst (Nat.le_of_ble_eq_true rfl) ?_)
  | (with_reducible refine l_ix ?_) | (with_reducible refine l_slL ?_) | (with_reducible refine l_slT ?_) | (with_reducible refine l_oN ?_) | (with_reducible refine l_oS ?_) | (with_reducible refine l_rev ?_)
  | (with_reducible refine l_b1 ?_) | (with_reducible refine l_cb ?_) | (with_reducible refine l_isi ?_) | (with_reducible refine l_fld ?_) | (with_reducible refine l_call ?_)
  | (with_reducible refine l_for ?_) | (with_reducible refine l_qL ?_) | (with_reducible refine l_qT ?_) | (with_reducible refine l_q1 ?_) | (with_reducible refine l_q2 ?_) | (with_reducible refine l_lc ?_)
  | (with_reducible refine l_raise0 ?_) | (with_reducible refine l_raiseF ?_)
  | walk_at "pu data")
local macro_rules | `(tactic| walk_at "pu") => `(tactic| repeat walk_at "pu one")
local macro_rules | `(tactic| walk_at "pud") => `(tactic| repeat (first
  | walk_at "pu one"
  | ((with_reducible show bT (decide _) _ _); first | refine l_decT (by omega) ?_ | refine l_decF (by omega) ?_ | refine l_decT (by decide) ?_ | refine l_decF (by decide) ?_ | refine l_bT1 rfl ?_ | refine l_bT0 rfl ?_)
  | ((with_reducible show bT (D.isNon _) _ _); first | refine l_bT1 rfl ?_ | refine l_bT0 rfl ?_)
  | ((with_reducible show bT (D.isInt _) _ _); first | refine l_bT1 rfl ?_ | refine l_bT0 rfl ?_)
  | ((with_reducible show bT (D.isList _) _ _); first | refine l_bT1 rfl ?_ | refine l_bT0 rfl ?_)
  | ((with_reducible show bT (D.isTup _) _ _); first | refine l_bT1 rfl ?_ | refine l_bT0 rfl ?_)
  | ((with_reducible show bT (D.isStr _) _ _); first | refine l_bT1 rfl ?_ | refine l_bT0 rfl ?_)
  | ((with_reducible show bT (D.isBool _) _ _); first | refine l_bT1 rfl ?_ | refine l_bT0 rfl ?_)))
theorem run_step_parts (A : Ads) (x : (S_step_parts A).α) (hp : (S_step_parts A).pre x) : p_step_parts A (endZ (S_step_parts A) x) (startD ["facts", "step", "place", "side", "a", "b", "least", "greatest"] ((S_step_parts A).args x)) := by
  obtain ⟨fs, k, h⟩ := x
  have hp : k < fs.length := hp
  have e : fs[k]? = some fs[k] := List.getElem?_eq_getElem hp
  have e2 : atI (fs.map Fact.d) (k : Int) = some fs[k].d := atI_nat (by rw [List.getElem?_map, e]; rfl)
  show p_step_parts A _ [some (.ro (.lst (fs.map Fact.d))), some (.ro (.tup [.int k, .str (sid h)])), none, none, none, none, none, none]
  have hl : (fs.map Fact.d).length = fs.length := List.length_map ..
  generalize fs[k] = f at e e2
  obtain ⟨a, b, lo, hi⟩ := f
  unfold p_step_parts
  cases h with
  | true =>
    cases hi with
    | some g =>
      walk_at "pud"
      exact ⟨_, e, rfl⟩
    | none =>
      walk_at "pud"
      exact ⟨_, e, rfl⟩
  | false =>
    cases lo with
    | some g =>
      walk_at "pud"
      exact ⟨_, e, rfl⟩
    | none =>
      walk_at "pud"
      exact ⟨_, e, rfl⟩

theorem run_all_steps (A : Ads) (x : List Fact) (hp : (S_all_steps A).pre x) : p_all_steps A (endZ (S_all_steps A) x) (startD ["facts", "steps", "place", "side", "parts"] ((S_all_steps A).args x)) := by
  have hp : x.length ≤ 1000 := hp
  show p_all_steps A _ [some (.ro (.lst (x.map Fact.d))), none, none, none, none]
  have hl : (x.map Fact.d).length = x.length := List.length_map ..
  unfold p_all_steps
  walk_at "pud"
  refine l_kFor (fun n ρ => ∃ a b c, ρ = [some (.ro (.lst (x.map Fact.d))), some (.own ((allSteps (x.take n)).map Stp.d)), a, b, c]) ⟨_, _, _, rfl⟩ ?_ ?_
  · rintro n d ρ hn ⟨a, b, c, rfl⟩
    have hn1 : n < x.length := by
      have := (List.getElem?_eq_some_iff.mp hn).1
      rw [rngD_len, hl, Int.toNat_natCast] at this
      exact this
    rw [rngD_get (by rw [hl, Int.toNat_natCast]; exact hn1)] at hn
    cases hn
    rw [Int.zero_add]
    have ef : x[n]? = some x[n] := List.getElem?_eq_getElem hn1
    generalize x[n] = f at ef
    walk_at "pud"
    refine l_kFor (fun m ρ => ∃ b c, ρ = [some (.ro (.lst (x.map Fact.d))), some (.own ((allSteps (x.take n) ++ (if m = 0 then [] else if m = 1 then stepsAt n f true else stepsAt n f true ++ stepsAt n f false)).map Stp.d)), some (.ro (.int n)), b, c]) ⟨_, _, by rw [if_pos rfl, List.append_nil]⟩ ?_ ?_
    · rintro m d ρ hm ⟨b, c, rfl⟩
      obtain ⟨h, rfl, eh⟩ : ∃ h : Bool, d = .str (sid h) ∧ (allSteps (x.take n) ++ (if m + 1 = 0 then [] else if m + 1 = 1 then stepsAt n f true else stepsAt n f true ++ stepsAt n f false)) = (allSteps (x.take n) ++ (if m = 0 then [] else if m = 1 then stepsAt n f true else stepsAt n f true ++ stepsAt n f false)) ++ stepsAt n f h := by
        match m, hm with
        | 0, hm => cases hm; exact ⟨true, rfl, by simp⟩
        | 1, hm => cases hm; exact ⟨false, rfl, by simp⟩
        | m + 2, hm => cases hm
      have lb : (allSteps (x.take n) ++ (if m = 0 then [] else if m = 1 then stepsAt n f true else stepsAt n f true ++ stepsAt n f false)).length ≤ 4000 := by
        have h1 := stepsFrom_len (x.take n) 0
        have h2 : (x.take n).length ≤ n := by rw [List.length_take]; omega
        have h3 := stepsAt_len n f true
        have h4 := stepsAt_len n f false
        rw [List.length_append]
        unfold allSteps
        split
        · simp only [List.length_nil]; omega
        · split
          · omega
          · rw [List.length_append]; omega
      rw [eh]
      generalize (allSteps (x.take n) ++ (if m = 0 then [] else if m = 1 then stepsAt n f true else stepsAt n f true ++ stepsAt n f false)) = bs at lb
      walk_at "pud"
      refine l_kCall (S := S_step_parts A) (x, (n, h)) rfl hn1 (fun r hr => ?_) (fun e he => ?_)
      · obtain ⟨f', e1, e2⟩ := hr
        have e3 : f = f' := Option.some.inj (ef.symm.trans e1)
        subst e3
        have e4 : r = .ro (prD (partsOf f h)) := Except.ok.inj e2
        subst e4
        unfold stepsAt
        cases q : partsOf f h with
        | none =>
          walk_at "pud"
          exact ⟨_, _, by rw [List.append_nil]⟩
        | some p =>
          obtain ⟨s, e, c⟩ := p
          walk_at "pud"
          refine l_kApp (by walk_at "pu set") (by rw [List.length_map]; omega) ⟨_, _, by rw [List.map_append]; rfl⟩
      · obtain ⟨f', e1, e2⟩ := he
        cases e2
    · rintro ρ ⟨b, c, rfl⟩
      exact ⟨_, _, _, by rw [allSteps_take ef]; rfl⟩
  · rintro ρ ⟨a, b, c, rfl⟩
    walk_at "pud"
    show _ = _
    rw [rngD_len, hl, Int.toNat_natCast, List.take_length]

theorem run_lowered (A : Ads) (x : List Stp × List (Option Int) × List (Option St0)) (hp : (S_lowered A).pre x) : p_lowered A (endZ (S_lowered A) x) (startD ["steps", "costs", "last", "changed", "step", "start", "end", "cost", "reached"] ((S_lowered A).args x)) := by
  obtain ⟨ts, cs, ls⟩ := x
  obtain ⟨hl, ht⟩ := hp
  have hl : cs.length = ls.length := hl
  have ht : ∀ t ∈ ts, t.s < cs.length ∧ t.e < cs.length := ht
  show p_lowered A _ [some (.ro (.lst (ts.map Stp.d))), some (.ro (.lst (cs.map oD))), some (.ro (.lst (ls.map lsD))), none, none, none, none, none, none]
  unfold p_lowered
  walk_at "pud"
  refine l_kFor (fun n ρ => ∃ a b c d e, ρ = [some (.ro (.lst (ts.map Stp.d))), some (.own (((ts.take n).foldl lower1 ⟨cs, ls, false⟩).costs.map oD)), some (.own (((ts.take n).foldl lower1 ⟨cs, ls, false⟩).last.map lsD)), some (.ro (.bl ((ts.take n).foldl lower1 ⟨cs, ls, false⟩).ch)), a, b, c, d, e]) ⟨_, _, _, _, _, rfl⟩ ?_ ?_
  · rintro n d ρ hn ⟨a1, a2, a3, a4, a5, rfl⟩
    rw [List.getElem?_map] at hn
    cases ht' : ts[n]? with
    | none => rw [ht'] at hn; cases hn
    | some t =>
      rw [ht'] at hn
      cases hn
      obtain ⟨hs, he⟩ := ht t (List.mem_of_getElem? ht')
      have fl := foldl_len (ts.take n) ⟨cs, ls, false⟩
      have e1 : (ts.take (n + 1)).foldl lower1 ⟨cs, ls, false⟩ = lower1 ((ts.take n).foldl lower1 ⟨cs, ls, false⟩) t := by
        rw [List.take_add_one, ht', List.foldl_append]; rfl
      rw [e1]
      generalize (ts.take n).foldl lower1 ⟨cs, ls, false⟩ = r at fl
      obtain ⟨rc, rl, rb⟩ := r
      have fl1 : rc.length = cs.length := fl.1
      have fl2 : rl.length = ls.length := fl.2
      have lmc : (rc.map oD).length = rc.length := List.length_map ..
      have lml : (rl.map lsD).length = rl.length := List.length_map ..
      obtain ⟨st, s, e, c⟩ := t
      have hs : s < cs.length := hs
      have he : e < cs.length := he
      have gs : rc[s]? = some rc[s] := List.getElem?_eq_getElem (by omega)
      have ge : rc[e]? = some rc[e] := List.getElem?_eq_getElem (by omega)
      have is := atI_map (f := oD) gs
      have ie := atI_map (f := oD) ge
      have ds := getD_some gs
      have de := getD_some ge
      have xe : ixN (rc.map oD).length (e : Int) = some e := ixN_nat (by omega)
      have xl : ixN (rl.map lsD).length (e : Int) = some e := ixN_nat (by omega)
      generalize rc[s] = vs at is ds
      generalize rc[e] = ve at ie de
      unfold lower1 lowTo
      dsimp only
      rw [ds, de]
      cases vs with
      | none =>
        walk_at "pud"
        exact ⟨_, _, _, _, _, rfl⟩
      | some x =>
        cases ve with
        | none =>
          walk_at "pud"
          refine l_kSI2 xe (by walk_at "pu set") ?_
          walk_at "pud"
          refine l_kSI2 xl (by walk_at "pu set") ?_
          walk_at "pud"
          exact ⟨_, _, _, _, _, by rw [List.map_set, List.map_set]; rfl⟩
        | some y =>
          walk_at "pud"
          refine l_dec (fun hc => ?_) fun hc => ?_
          · dsimp only
            rw [if_pos hc]
            walk_at "pud"
            refine l_kSI2 xe (by walk_at "pu set") ?_
            walk_at "pud"
            refine l_kSI2 xl (by walk_at "pu set") ?_
            walk_at "pud"
            exact ⟨_, _, _, _, _, by rw [List.map_set, List.map_set]; rfl⟩
          · dsimp only
            rw [if_neg hc]
            walk_at "pud"
            exact ⟨_, _, _, _, _, rfl⟩
  · rintro ρ ⟨a1, a2, a3, a4, a5, rfl⟩
    walk_at "pud"
    show _ = _
    rw [List.length_map, List.take_length]
    rfl
theorem k_step0 {A : Ads} {fs : List Fact} {t : Stp} (ht : t ∈ allSteps fs) {K : KD} {J : KX} (h : K (.ro (.tup [.int t.s, .int t.e, .int t.c]))) : kCall (S_step_parts A) K J [factsD fs, stD t.st] := by
  obtain ⟨f, h1, h2⟩ := mem_allSteps.mp ht
  refine l_kCall (S := S_step_parts A) (fs, t.st) rfl ((List.getElem?_eq_some_iff.mp h1).1) (fun r hr => ?_) (fun e he => ?_)
  · obtain ⟨f', e1, e2⟩ := hr
    have e3 : f = f' := Option.some.inj (h1.symm.trans e1)
    subst e3
    have e4 : r = .ro (prD (partsOf f t.st.2)) := Except.ok.inj e2
    rw [e4, h2]
    exact h
  · obtain ⟨f', e1, e2⟩ := he
    cases e2
theorem run_check_points (A : Ads) (x : Nat × List Fact × List Nat) (hp : (S_check_points A).pre x) : p_check_points A (endZ (S_check_points A) x) (startD ["points", "facts", "asked", "fact", "point", "a", "b"] ((S_check_points A).args x)) := by
  obtain ⟨n, fs, as⟩ := x
  obtain ⟨hf, ha⟩ := hp
  have hf : FactsOk n fs := hf
  have ha : ∀ p ∈ as, p < n := ha
  show p_check_points A _ [some (.ro (.int n)), some (.ro (.lst (fs.map Fact.d))), some (.ro (.lst (as.map fun k : Nat => D.int k))), none, none, none, none]
  unfold p_check_points
  walk_at "pud"
  refine l_kFor (fun _ ρ => ∃ a b c d, ρ = [some (.ro (.int n)), some (.ro (.lst (fs.map Fact.d))), some (.ro (.lst (as.map fun k : Nat => D.int k))), a, b, c, d]) ⟨_, _, _, _, rfl⟩ ?_ ?_
  · rintro k d ρ hk ⟨a, b, c, e, rfl⟩
    obtain ⟨f, hf', rfl⟩ := map_get hk
    obtain ⟨h1, h2, h3⟩ := hf f (List.mem_of_getElem? hf')
    obtain ⟨fa, fb, flo, fhi⟩ := f
    have h1 : fa < n := h1
    have h2 : fb < n := h2
    have h3 : fa ≠ fb := h3
    unfold Fact.d
    walk_at "pud"
    exact ⟨_, _, _, _, rfl⟩
  · rintro ρ ⟨a, b, c, e, rfl⟩
    walk_at "pud"
    refine l_kFor (fun _ ρ => ∃ a b c d, ρ = [some (.ro (.int n)), some (.ro (.lst (fs.map Fact.d))), some (.ro (.lst (as.map fun k : Nat => D.int k))), a, b, c, d]) ⟨_, _, _, _, rfl⟩ ?_ ?_
    · rintro k d ρ hk ⟨a, b, c, e, rfl⟩
      obtain ⟨p, hp', rfl⟩ := map_get hk
      have h1 : p < n := ha p (List.mem_of_getElem? hp')
      walk_at "pud"
      exact ⟨_, _, _, _, rfl⟩
    · rintro ρ ⟨a, b, c, e, rfl⟩
      rfl
theorem run_ring_through (A : Ads) (x : Nat × List Fact × List (Option St0) × Nat) (hp : (S_ring_through A).pre x) : p_ring_through A (endZ (S_ring_through A) x) (startD ["facts", "last", "point", "ring", "at"] ((S_ring_through A).args x)) := by
  obtain ⟨n, fs, ls, p⟩ := x
  obtain ⟨ok, L, hn, us0, hne0, hu0⟩ := hp
  have ok : FactsOk n fs := ok
  have L : LastOk fs n ls := L
  have hn : n ≤ 1000 := hn
  have hu0 : Up (LastR fs ls) p us0 p := hu0
  obtain ⟨ts0, hne, h0, mn⟩ := ring_min (lastR_fun fs ls) hu0 hne0
  have nd := ring_nodup (lastR_fun fs ls) h0 mn
  show p_ring_through A _ [some (.ro (.lst (fs.map Fact.d))), some (.ro (.lst (ls.map lsD))), some (.ro (.int p)), none, none]
  have at_ : ∀ {v : Nat} {t : Stp}, LastR fs ls v t → atI (ls.map lsD) (v : Int) = some (stD t.st) := fun h => atI_map (f := lsD) h.2.1
  have small : ts0.length ≤ 1000 := by
    have := nodup_len n _ nd (fun x hx => by
      obtain ⟨t, ht, rfl⟩ := List.mem_map.mp hx
      exact (steps_ok ok (up_mem h0 t ht)).2.1)
    rw [List.length_map] at this
    omega
  unfold p_ring_through
  cases h0 with
  | nil => exact absurd rfl hne
  | @cons _ _ t ts r0 hr =>
    have a0 := at_ r0
    walk_at "pud"
    refine k_step0 r0.1 ?_
    walk_at "pud"
    refine l_while (fun m ρ => ∃ xs us v, xs ≠ [] ∧ Up (LastR fs ls) p xs v ∧ Up (LastR fs ls) v us p ∧ us.length = m ∧ xs ++ us = t :: ts ∧ ρ = [some (.ro (.lst (fs.map Fact.d))), some (.ro (.lst (ls.map lsD))), some (.ro (.int p)), some (.own (xs.map Stp.ds)), some (.ro (.int (v : Nat)))]) ts.length ⟨[t], ts, t.s, by simp, .cons r0 (.nil _), hr, rfl, rfl, rfl⟩ ?_
    rintro m ρ ⟨xs, us, v, hx, h1, h2, hm, hxs, rfl⟩
    walk_at "pud"
    refine l_dec (fun hc => ?_) fun hc => ?_
    · have hv : v = p := by omega
      subst hv
      have hus : us = [] := by
        by_cases hz : us = []
        · exact hz
        · have l1 : 0 < us.length := List.length_pos_iff.mpr hz
          have l2 := congrArg List.length hxs
          rw [List.length_append] at l2
          have l3 : 0 < xs.length := List.length_pos_iff.mpr hx
          exact absurd rfl (mn xs.length xs l3 (by omega) h1)
      subst hus
      rw [List.append_nil] at hxs
      walk_at "pud"
      show S_ring_through A |>.post _ _
      refine ⟨xs, hx, h1, by rw [hxs]; exact nd, ?_⟩
      show _ = okO _
      rw [List.map_reverse]
      rfl
    · cases h2 with
      | nil => exact absurd rfl hc
      | @cons _ _ u us' r1 h3 =>
        have a1 := at_ r1
        walk_at "pud"
        have lx : xs.length ≤ 1000 := by
          have := congrArg List.length hxs
          rw [List.length_append] at this
          omega
        refine l_kApp (by walk_at "pu set") (by rw [List.length_map]; omega) ?_
        walk_at "pud"
        refine k_step0 r1.1 ?_
        walk_at "pud"
        refine ⟨us'.length, by rw [← hm, List.length_cons]; omega, xs ++ [u], us', u.s, by simp, h1.snoc r1, h3, rfl, by rw [List.append_assoc]; exact hxs, ?_⟩
        rw [List.map_append]
        rfl
def wkD : Option Nat → D
  | none => .non
  | some f => .int f
theorem run_ring_among (A : Ads) (x : Nat × List Fact × List (Option St0)) (hp : (S_ring_among A).pre x) : p_ring_among A (endZ (S_ring_among A) x) (startD ["facts", "last", "walk", "first", "at"] ((S_ring_among A).args x)) := by
  obtain ⟨n, fs, ls⟩ := x
  obtain ⟨ok, L, hn⟩ := hp
  have ok : FactsOk n fs := ok
  have L : LastOk fs n ls := L
  have hn : n ≤ 1000 := hn
  have F := lastR_fun fs ls
  show p_ring_among A _ [some (.ro (.lst (fs.map Fact.d))), some (.ro (.lst (ls.map lsD))), none, none, none]
  have hl : (ls.map lsD).length = n := by rw [List.length_map]; exact L.len
  unfold p_ring_among
  walk_at "pud"
  refine l_rep1 (by omega) ?_
  walk_at "pud"
  refine l_kFor (fun k ρ => ∃ ws a b, List.length ws = n ∧ (∀ v f, ws[v]? = some (some f) → f < k ∧ Gnd (LastR fs ls) v) ∧ (∀ v, v < k → Gnd (LastR fs ls) v) ∧ ρ = [some (.ro (.lst (fs.map Fact.d))), some (.ro (.lst (ls.map lsD))), some (.own (List.map wkD ws)), a, b]) ⟨List.replicate n none, none, none, List.length_replicate, fun v f h => ?_, fun v h => absurd h (Nat.not_lt_zero _), ?_⟩ ?_ ?_
  · rw [List.getElem?_replicate] at h
    split at h <;> cases h
  · rw [hl, List.map_replicate]; rfl
  · rintro k d ρ hk ⟨ws, a, b, lw, hw, hg, rfl⟩
    have hk1 : k < n := by
      have := (List.getElem?_eq_some_iff.mp hk).1
      rw [rngD_len, hl, Int.toNat_natCast] at this
      exact this
    rw [rngD_get (by rw [hl, Int.toNat_natCast]; exact hk1)] at hk
    cases hk
    rw [Int.zero_add]
    walk_at "pud"
    refine l_while (fun m ρ => ∃ ws ts v, Up (LastR fs ls) k ts v ∧ v < n ∧ List.length ws = n ∧ (ts.map (·.e)).Nodup ∧ (∀ v f, ws[v]? = some (some f) → (f < k ∧ Gnd (LastR fs ls) v) ∨ (f = k ∧ v ∈ ts.map (·.e))) ∧ (∀ v ∈ ts.map (·.e), ws[v]? = some (some k)) ∧ n - ts.length = m ∧ ρ = [some (.ro (.lst (fs.map Fact.d))), some (.ro (.lst (ls.map lsD))), some (.own (List.map wkD ws)), some (.ro (.int k)), some (.ro (.int (v : Nat)))]) n ⟨ws, [], k, .nil k, hk1, lw, List.nodup_nil, fun v f h => .inl (hw v f h), (fun v h => absurd h List.not_mem_nil), rfl, rfl⟩ ?_
    clear hw lw ws
    rintro m ρ ⟨ws, ts, v, up, hv, lw, nd, hw, hws, hm, rfl⟩
    have g1 := getD_lt (xs := ls) (i := v) (by rw [L.len]; exact hv)
    have g2 := getD_lt (xs := ws) (i := v) (by rw [lw]; exact hv)
    have a1 := atI_map (f := lsD) g1
    have a2 := atI_map (f := wkD) g2
    have lm : (ws.map wkD).length = n := by rw [List.length_map]; exact lw
    have xv : ixN (ws.map wkD).length (v : Int) = some v := ixN_nat (by rw [lm]; exact hv)
    -- the point that stops the walk is grounded, unless it is on the walk itself
    have grd : ∀ {w}, Gnd (LastR fs ls) v → w ∈ ts.map (·.e) ∨ w = k → Gnd (LastR fs ls) w := fun {w} g h => by
      have hmem : ∃ i : Nat, (pts k ts)[i]? = some w := by
        rcases h with h | h
        · refine List.getElem?_of_mem ?_
          rw [up.ends F]
          exact List.mem_append_left _ h
        · exact ⟨0, by rw [h]; rfl⟩
      obtain ⟨i, hi⟩ := hmem
      obtain ⟨b1, b2⟩ := up.at i _ hi
      obtain ⟨u, c1, c2⟩ := up.take i b2
      have e := (c1.det F b1 rfl).2
      subst e
      obtain ⟨z, zs, z1, z2⟩ := g
      exact ⟨z, _, c2.append z1, z2⟩
    have goon : Gnd (LastR fs ls) v → ∀ (a b : Option S), ∃ ws' a' b', List.length ws' = n ∧ (∀ v f, ws'[v]? = some (some f) → f < k + 1 ∧ Gnd (LastR fs ls) v) ∧ (∀ v, v < k + 1 → Gnd (LastR fs ls) v) ∧ [some (S.ro (.lst (fs.map Fact.d))), some (.ro (.lst (ls.map lsD))), some (.own (List.map wkD ws)), a, b] = [some (.ro (.lst (fs.map Fact.d))), some (.ro (.lst (ls.map lsD))), some (.own (List.map wkD ws')), a', b'] := fun g a b => by
      refine ⟨ws, a, b, lw, fun u f h => ?_, fun u h => ?_, rfl⟩
      · rcases hw u f h with ⟨z1, z2⟩ | ⟨z1, z2⟩
        · exact ⟨by omega, z2⟩
        · exact ⟨by omega, grd g (.inl z2)⟩
      · by_cases hu : u = k
        · exact grd g (.inr hu)
        · exact hg u (by omega)
    cases e1 : ls.getD v none with
    | none =>
      rw [e1] at g1 a1
      have gv : Gnd (LastR fs ls) v := ⟨v, [], .nil v, fun t ht => by
        have := ht.2.1
        rw [g1] at this
        cases this⟩
      walk_at "pud"
      cases e2 : ws.getD v none with
      | none =>
        rw [e2] at g2 a2
        walk_at "pud"
        exact goon gv _ _
      | some f =>
        rw [e2] at g2 a2
        rcases hw v f g2 with ⟨z1, z2⟩ | ⟨z1, z2⟩
        · walk_at "pud"
          exact goon gv _ _
        · exfalso
          obtain ⟨i, hi⟩ := List.getElem?_of_mem z2
          have hi2 : i < ts.length := by
            have := (List.getElem?_eq_some_iff.mp hi).1
            rwa [List.length_map] at this
          have hp : (pts k ts)[i]? = some v := by
            rw [up.ends F, List.getElem?_append_left (by rw [List.length_map]; exact hi2)]
            exact hi
          obtain ⟨b1, b2⟩ := up.at i _ hp
          obtain ⟨u, c1, c2⟩ := up.take i b2
          have e := (c1.det F b1 rfl).2
          subst e
          have := no_ring_of_gnd F gv c2
          have := congrArg List.length this
          rw [List.length_drop] at this
          simp at this
          omega
    | some st =>
      rw [e1] at g1 a1
      obtain ⟨t, t1, t2, t3⟩ := L.ok v st g1
      subst t2
      cases e2 : ws.getD v none with
      | none =>
        rw [e2] at g2 a2
        walk_at "pud"
        refine l_kSI2 xv (by walk_at "pu set") ?_
        walk_at "pud"
        refine k_step0 t1 ?_
        walk_at "pud"
        have nv : v ∉ ts.map (·.e) := fun h => by
          have := hws v h
          rw [g2] at this
          cases this
        have nd2 : ((ts ++ [t]).map (·.e)).Nodup := by
          rw [List.map_append, List.nodup_append]
          refine ⟨nd, by simp, fun a ha b hb => ?_⟩
          have : b = v := by simpa [t3] using hb
          rw [this]
          intro z
          rw [z] at ha
          exact nv ha
        have lt2 := nodup_len n _ nd2 (fun x hx => by
          obtain ⟨y, hy, rfl⟩ := List.mem_map.mp hx
          rcases List.mem_append.mp hy with hy | hy
          · exact (steps_ok ok (up_mem up y hy)).2.1
          · have : y = t := by simpa using hy
            rw [this]
            exact (steps_ok ok t1).2.1)
        rw [List.length_map, List.length_append, List.length_singleton] at lt2
        refine ⟨n - (ts.length + 1), by omega, ws.set v (some k), ts ++ [t], t.s, up.snoc ⟨t1, g1, t3⟩, (steps_ok ok t1).1, by rw [List.length_set]; exact lw, nd2, fun u f h => ?_, fun u h => ?_, by rw [List.length_append, List.length_singleton], ?_⟩
        · by_cases hu : u = v
          · subst hu
            rw [List.getElem?_set_self (by rw [lw]; exact hv)] at h
            cases h
            exact .inr ⟨rfl, by rw [List.map_append]; exact List.mem_append_right _ (by simp [t3])⟩
          · rw [List.getElem?_set_ne (Ne.symm hu)] at h
            rcases hw u f h with z | ⟨z1, z2⟩
            · exact .inl z
            · exact .inr ⟨z1, by rw [List.map_append]; exact List.mem_append_left _ z2⟩
        · by_cases hu : u = v
          · subst hu
            exact List.getElem?_set_self (by rw [lw]; exact hv)
          · rw [List.getElem?_set_ne (Ne.symm hu)]
            refine hws u ?_
            rw [List.map_append] at h
            rcases List.mem_append.mp h with h | h
            · exact h
            · exfalso
              apply hu
              simpa [t3] using h
        · rw [List.map_set]
          rfl
      | some f =>
        rw [e2] at g2 a2
        walk_at "pud"
        rcases hw v f g2 with ⟨z1, z2⟩ | ⟨z1, z2⟩
        · walk_at "pud"
          exact goon z2 _ _
        · subst z1
          walk_at "pud"
          obtain ⟨i, hi⟩ := List.getElem?_of_mem z2
          have hi2 : i < ts.length := by
            have := (List.getElem?_eq_some_iff.mp hi).1
            rwa [List.length_map] at this
          have hp : (pts f ts)[i]? = some v := by
            rw [up.ends F, List.getElem?_append_left (by rw [List.length_map]; exact hi2)]
            exact hi
          obtain ⟨b1, b2⟩ := up.at i _ hp
          obtain ⟨u, c1, c2⟩ := up.take i b2
          have e := (c1.det F b1 rfl).2
          subst e
          refine l_kCall (S := S_ring_through A) (n, fs, ls, u) rfl ⟨ok, L, hn, ts.drop i, fun z => ?_, c2⟩ (fun r hr => ?_) (fun e he => ?_)
          · have := congrArg List.length z
            rw [List.length_drop] at this
            simp at this
            omega
          · obtain ⟨us, h1, h2, h3, h4⟩ := hr
            exact .inr ⟨u, us, h1, h2, h3, h4⟩
          · obtain ⟨us, h1, h2, h3, h4⟩ := he
            cases h4
  · rintro ρ ⟨ws, a, b, lw, hw, hg, rfl⟩
    walk_at "pud"
    rw [rngD_len, hl, Int.toNat_natCast] at hg
    refine .inl ⟨fun u us h => ?_, rfl⟩
    cases h with
    | nil => rfl
    | @cons _ _ t r r0 h =>
      have hu : u < n := by
        have := (steps_ok ok r0.1).2.1
        rw [r0.2.2] at this
        exact this
      exact no_ring_of_gnd F (hg u hu) (.cons r0 h)
theorem allSteps_lt {n : Nat} {fs : List Fact} (ok : FactsOk n fs) : ∀ t ∈ allSteps fs, t.s < n ∧ t.e < n := fun t ht => ⟨(steps_ok ok ht).1, (steps_ok ok ht).2.1⟩
theorem run_heights_or_ring (A : Ads) (x : Nat × List Fact) (hp : (S_heights_or_ring A).pre x) : p_heights_or_ring A (endZ (S_heights_or_ring A) x) (startD ["points", "facts", "steps", "costs", "last", "turn", "ring", "changed", "cost"] ((S_heights_or_ring A).args x)) := by
  obtain ⟨n, fs⟩ := x
  obtain ⟨ok, pos, small, flen⟩ := hp
  have ok : FactsOk n fs := ok
  have pos : 0 < n := pos
  have small : n ≤ 100 := small
  have flen : fs.length ≤ 1000 := flen
  show p_heights_or_ring A _ [some (.ro (.int n)), some (.ro (.lst (fs.map Fact.d))), none, none, none, none, none, none, none]
  unfold p_heights_or_ring
  walk_at "pud"
  refine l_kCall (S := S_check_points A) (n, fs, []) rfl ⟨ok, fun p h => absurd h List.not_mem_nil⟩ (fun r hr => ?_) (fun e he => by cases he)
  walk_at "pud"
  refine l_kCall (S := S_all_steps A) fs rfl flen (fun r hr => ?_) (fun e he => by cases he)
  cases hr
  walk_at "pud"
  refine l_rep1 (by omega) ?_
  walk_at "pud"
  refine l_rep1 (by omega) ?_
  walk_at "pud"
  refine l_kFor (fun k ρ => ∃ cs ls a b c d, BFk fs n (List.replicate n (some 0)) cs ls k true ∧ (0 < k → NoRing fs ls) ∧ ρ = [some (.ro (.int n)), some (.ro (.lst (fs.map Fact.d))), some (.ro (.lst ((allSteps fs).map Stp.d))), some (.ro (.lst (cs.map oD))), some (.ro (.lst (ls.map lsD))), a, b, c, d]) ⟨List.replicate n (some 0), List.replicate n none, none, none, none, none, BFk.zero List.length_replicate pos, fun h => absurd h (Nat.lt_irrefl _), ?_⟩ ?_ ?_
  · rw [List.map_replicate, List.map_replicate]; rfl
  · rintro k d ρ hk ⟨cs, ls, a, b, c, e, B, N, rfl⟩
    have lens := B.len
    walk_at "pud"
    refine l_kCall (S := S_lowered A) (allSteps fs, cs, ls) rfl ⟨by show cs.length = ls.length; omega, fun t ht => ?_⟩ (fun r hr => ?_) (fun e he => by cases he)
    · have := allSteps_lt ok t ht
      show t.s < cs.length ∧ t.e < cs.length
      omega
    · have B' := B.step ok
      cases hr
      generalize lowered (allSteps fs) cs ls = R at B'
      obtain ⟨cs', ls', ch⟩ := R
      have B' : BFk fs n (List.replicate n (some 0)) cs' ls' (k + 1) ch := B'
      unfold Rd.d
      walk_at "pud"
      cases ch with
      | false =>
        walk_at "pud"
        have lens' := B'.len
        obtain ⟨xs, hxs⟩ := all_some (cs := cs') fun v hv => B'.some_ (v := v) (x := 0) (by omega) (by rw [List.getElem?_replicate, if_pos (by omega)])
        subst hxs
        have lx : xs.length = n := by have := lens'.1; rwa [List.length_map] at this
        have ft := B'.fits ok
        have md : (xs.map some).map oD = xs.map D.int := by rw [List.map_map]; rfl
        rw [md]
        have lxd : (xs.map D.int).length = n := by rw [List.length_map]; exact lx
        have a0 : atI (xs.map D.int) 0 = some (.int (hD xs 0)) := atI_map (f := D.int) (n := 0) (get_hD (by omega))
        refine l_lcMap (fun k => .int (hD xs k - hD xs 0)) (by omega) rfl (fun i d ρ2 hi hs => ?_) ?_ (by show 8 < 9; decide)
        · obtain ⟨y, hy, rfl⟩ := map_get hi
          cases hs.eq
          walk_at "pud"
          rw [hD_get hy]
          rfl
        · walk_at "pud"
          rw [lxd]
          refine .inl ⟨(List.range n).map fun k => hD xs k - hD xs 0, by rw [List.length_map, List.length_range], ?_, ?_, ?_⟩
          · rw [hD_range pos]; omega
          · exact fits_congr ok (fun i hi => (hD_range (g := fun k => hD xs k - hD xs 0) hi).symm) (fits_shift ft (hD xs 0))
          · unfold okR intsD
            rw [List.map_map]
            rfl
      | true =>
        walk_at "pud"
        refine l_kCall (S := S_ring_among A) (n, fs, ls') rfl ⟨ok, B'.lastOk, by show n ≤ 1000; omega⟩ (fun r hr => ?_) (fun e he => ?_)
        · rcases hr with ⟨N', hr⟩ | ⟨u, ts, h1, h2, h3, hr⟩
          · cases hr
            walk_at "pud"
            exact ⟨cs', ls', _, _, _, _, B', fun _ => N', rfl⟩
          · cases hr
            walk_at "pud"
            refine .inr ⟨ts.reverse, B'.lowRing ok h2 h1 h3, rfl⟩
        · rcases he with ⟨_, he⟩ | ⟨u, ts, h1, h2, h3, he⟩ <;> cases he
  · rintro ρ ⟨cs, ls, a, b, c, d, B, N, rfl⟩
    have ek : (rngD 0 (n : Int).toNat).length = n := by rw [rngD_len, Int.toNat_natCast]
    rw [ek] at B N
    exact (B.not_long ok (Nat.le_refl _) (N pos)).elim
theorem run_ways_from (A : Ads) (x : Nat × List Fact × Nat) (hp : (S_ways_from A).pre x) : p_ways_from A (endZ (S_ways_from A) x) (startD ["points", "facts", "a", "steps", "costs", "last", "turn", "changed"] ((S_ways_from A).args x)) := by
  obtain ⟨n, fs, s⟩ := x
  obtain ⟨⟨ok, pos, small, flen⟩, hs, h, ft⟩ := hp
  have ok : FactsOk n fs := ok
  have pos : 0 < n := pos
  have small : n ≤ 100 := small
  have flen : fs.length ≤ 1000 := flen
  have hs : s < n := hs
  have ft : Fits fs h := ft
  show p_ways_from A _ [some (.ro (.int n)), some (.ro (.lst (fs.map Fact.d))), some (.ro (.int s)), none, none, none, none, none]
  unfold p_ways_from
  walk_at "pud"
  refine l_kCall (S := S_all_steps A) fs rfl flen (fun r hr => ?_) (fun e he => by cases he)
  cases hr
  walk_at "pud"
  refine l_rep1 (by omega) ?_
  walk_at "pud"
  refine l_kSI2 (n := s) (ixN_nat (by rw [List.length_replicate]; exact hs)) (by walk_at "pu set") ?_
  walk_at "pud"
  refine l_rep1 (by omega) ?_
  walk_at "pud"
  refine l_kFor (fun k ρ => ∃ cs ls a b, BFk fs n (c0At n s) cs ls k true ∧ ρ = [some (.ro (.int n)), some (.ro (.lst (fs.map Fact.d))), some (.ro (.int s)), some (.ro (.lst ((allSteps fs).map Stp.d))), some (.ro (.lst (cs.map oD))), some (.ro (.lst (ls.map lsD))), a, b]) ⟨c0At n s, List.replicate n none, none, none, BFk.zero (by unfold c0At; rw [List.length_set, List.length_replicate]) pos, ?_⟩ ?_ ?_
  · unfold c0At
    rw [List.map_replicate, List.map_set, List.map_replicate]; rfl
  · rintro k d ρ hk ⟨cs, ls, a, b, B, rfl⟩
    have lens := B.len
    walk_at "pud"
    refine l_kCall (S := S_lowered A) (allSteps fs, cs, ls) rfl ⟨by show cs.length = ls.length; omega, fun t ht => ?_⟩ (fun r hr => ?_) (fun e he => by cases he)
    · have := allSteps_lt ok t ht
      show t.s < cs.length ∧ t.e < cs.length
      omega
    · have B' := B.step ok
      cases hr
      generalize lowered (allSteps fs) cs ls = R at B'
      obtain ⟨cs', ls', ch⟩ := R
      have B' : BFk fs n (c0At n s) cs' ls' (k + 1) ch := B'
      unfold Rd.d
      walk_at "pud"
      cases ch with
      | false =>
        walk_at "pud"
        exact ⟨cs', ls', _, B', rfl⟩
      | true =>
        walk_at "pud"
        exact ⟨cs', ls', _, _, B', rfl⟩
  · rintro ρ ⟨cs, ls, a, b, B, rfl⟩
    have ek : (rngD 0 (n : Int).toNat).length = n := by rw [rngD_len, Int.toNat_natCast]
    rw [ek] at B
    exact (B.not_long ok (Nat.le_refl _) (B.noRing ok ft)).elim
theorem run_check_heights (A : Ads) (x : Nat × List Fact × List Nat) (hp : (S_check_heights A).pre x) : p_check_heights A (endZ (S_check_heights A) x) (startD ["points", "facts", "asked", "word", "told"] ((S_check_heights A).args x)) := by
  obtain ⟨n, fs, as⟩ := x
  obtain ⟨net, ha, h, ft⟩ := hp
  have net : NetOk n fs := net
  have ha : ∀ p ∈ as, p < n := ha
  have ft : Fits fs h := ft
  show p_check_heights A _ [some (.ro (.int n)), some (.ro (.lst (fs.map Fact.d))), some (.ro (.lst (as.map fun k : Nat => D.int k))), none, none]
  unfold p_check_heights
  walk_at "pud"
  refine l_kCall (S := S_check_points A) (n, fs, as) rfl ⟨net.ok, ha⟩ (fun r hr => ?_) (fun e he => by cases he)
  walk_at "pud"
  refine l_kCall (S := S_heights_or_ring A) (n, fs) rfl net (fun r hr => ?_) (fun e he => ?_)
  · rcases hr with ⟨hs, _, _, _, hr⟩ | ⟨rs, L, hr⟩
    · cases hr
      walk_at "pud"
      rfl
    · exact absurd ft (L.not_fits h)
  · rcases he with ⟨hs, _, _, _, he⟩ | ⟨rs, L, he⟩ <;> cases he
theorem run_cheapest_way (A : Ads) (x : Nat × List Fact × Nat × Nat) (hp : (S_cheapest_way A).pre x) : p_cheapest_way A (endZ (S_cheapest_way A) x) (startD ["points", "facts", "a", "b", "last", "way", "at"] ((S_cheapest_way A).args x)) := by
  obtain ⟨n, fs, a, b⟩ := x
  obtain ⟨net, J, ha, hb, hab, h, ft⟩ := hp
  have net : NetOk n fs := net
  have J : Joined n fs := J
  have ha : a < n := ha
  have hb : b < n := hb
  have hab : a ≠ b := hab
  have ft : Fits fs h := ft
  have ok := net.ok
  have small := net.small
  show p_cheapest_way A _ [some (.ro (.int n)), some (.ro (.lst (fs.map Fact.d))), some (.ro (.int a)), some (.ro (.int b)), none, none, none]
  unfold p_cheapest_way
  walk_at "pud"
  refine l_kCall (S := S_check_heights A) (n, fs, [a, b]) rfl ⟨net, fun p hp => ?_, h, ft⟩ (fun r hr => ?_) (fun e he => by cases he)
  · have hp : p ∈ [a, b] := hp
    have : p = a ∨ p = b := by simpa using hp
    show p < n
    omega
  walk_at "pud"
  refine l_kCall (S := S_ways_from A) (n, fs, a) rfl ⟨net, ha, h, ft⟩ (fun r hr => ?_) (fun e he => ?_)
  · obtain ⟨cs, ls, k, B, hr⟩ := hr
    have B : BFk fs n (c0At n a) cs ls k false := B
    cases hr
    have N := B.noRing ok ft
    obtain ⟨y, hy⟩ := B.reach ok J ha b hb
    obtain ⟨ts0, up0, x0, hx0, hle, hz, hna⟩ := B.way ok N hb hy
    have ne0 : ts0 ≠ [] := fun z => by
      subst z
      cases up0
      exact hab rfl
    obtain ⟨t0, tr, et⟩ : ∃ t r, ts0 = t :: r := by
      cases ts0 with
      | nil => exact absurd rfl ne0
      | cons t r => exact ⟨t, r, rfl⟩
    have lb : ∃ t, LastR fs ls b t := by
      rw [et] at up0
      cases up0 with
      | cons r _ => exact ⟨_, r⟩
    obtain ⟨t1, r1⟩ := lb
    have ab := atI_map (f := lsD) r1.2.1
    have lens := B.len
    walk_at "pud"
    refine l_while (fun m ρ => ∃ xs us v, Up (LastR fs ls) b xs v ∧ Up (LastR fs ls) v us a ∧ us.length = m ∧ xs ++ us = ts0 ∧ ρ = [some (.ro (.int n)), some (.ro (.lst (fs.map Fact.d))), some (.ro (.int a)), some (.ro (.int b)), some (.ro (.lst (ls.map lsD))), some (.own (xs.map Stp.ds)), some (.ro (.int (v : Nat)))]) ts0.length ⟨[], ts0, b, .nil b, up0, rfl, rfl, rfl⟩ ?_
    rintro m ρ ⟨xs, us, v, h1, h2, hm, hxs, rfl⟩
    walk_at "pud"
    have lt0 : ts0.length ≤ 1000 := by
      have := nodup_len n _ (up_nodup N up0) (up_lt ok up0 hb)
      unfold pts at this
      rw [List.length_cons, List.length_map] at this
      omega
    refine l_dec (fun hc => ?_) fun hc => ?_
    · have hv : v = a := by omega
      subst hv
      have hus : us = [] := N _ _ h2
      subst hus
      rw [List.append_nil] at hxs
      subst hxs
      walk_at "pud"
      obtain ⟨ys, hys⟩ := all_some (cs := cs) fun v hv => B.reach ok J ha v (by omega)
      subst hys
      have ly : ys.length = n := by have := lens.1; rwa [List.length_map] at this
      have ft2 := B.fits ok
      refine ⟨xs.reverse, hD ys, h1.way N ne0, ft2, ?_, ?_⟩
      · rw [csum_reverse]
        have e1 : hD ys b = y := hD_get (by rw [List.getElem?_map, get_hD (by omega)] at hy; rw [get_hD (by omega)]; exact Option.some.inj (by simpa using hy))
        have e2 : hD ys v = x0 := hD_get (by rw [List.getElem?_map, get_hD (by omega)] at hx0; rw [get_hD (by omega)]; exact Option.some.inj (by simpa using hx0))
        have := hle ne0
        show csum xs ≤ hD ys b - hD ys v
        omega
      · unfold okO
        rw [List.map_reverse]
    · cases h2 with
      | nil => exact absurd rfl hc
      | @cons _ _ u us' r2 h3 =>
        have a1 := atI_map (f := lsD) r2.2.1
        walk_at "pud"
        have lx : xs.length ≤ 1000 := by
          have := congrArg List.length hxs
          rw [List.length_append] at this
          omega
        refine l_kApp (by walk_at "pu set") (by rw [List.length_map]; omega) ?_
        walk_at "pud"
        refine k_step0 r2.1 ?_
        walk_at "pud"
        refine ⟨us'.length, by rw [← hm, List.length_cons]; omega, xs ++ [u], us', u.s, h1.snoc r2, h3, rfl, by rw [List.append_assoc]; exact hxs, ?_⟩
        rw [List.map_append]
        rfl
  · obtain ⟨cs, ls, k, B, he⟩ := he
    cases he
theorem run_check_fact (A : Ads) (x : Nat × MF) (hp : (S_check_fact A).pre x) : p_check_fact A (endZ (S_check_fact A) x) (startD ["ticks", "fact", "good"] ((S_check_fact A).args x)) := by
  obtain ⟨n, f⟩ := x
  have hp : f.ok n := hp
  show p_check_fact A _ [some (.ro (.int n)), some (.ro f.d), none]
  unfold p_check_fact
  cases f with
  | rd b v =>
    have h1 : 1 ≤ b := hp.1
    have h2 : b ≤ n := hp.2
    unfold MF.d
    walk_at "pud"
    rfl
  | gr a b l g =>
    have h1 : a < b := And.left hp
    have h2 : b ≤ n := And.right hp
    unfold MF.d
    walk_at "pud"
    rfl
theorem run_check_width (A : Ads) (x : Mtr × Int) (hp : (S_check_width A).pre x) : p_check_width A (endZ (S_check_width A) x) (startD ["meter", "width"] ((S_check_width A).args x)) := by
  obtain ⟨m, w⟩ := x
  show p_check_width A _ [some (.ro (m.d A)), some (.ro (.int w))]
  unfold p_check_width Mtr.d
  walk_at "pud"
  refine l_dec (fun h1 => ?_) fun h1 => ?_
  · walk_at "pud"
    refine l_dec (fun h2 => ?_) fun h2 => ?_
    · walk_at "pud"
      exact .inl ⟨⟨h1, h2⟩, rfl⟩
    · walk_at "pud"
      exact .inr ⟨fun z => h2 z.2, rfl⟩
  · walk_at "pud"
    exact .inr ⟨fun z => h1 z.1, rfl⟩
theorem run_meter_facts (A : Ads) (m : Mtr) (hp : (S_meter_facts A).pre m) : p_meter_facts A (endZ (S_meter_facts A) m) (startD ["meter", "facts", "fact", "tick"] ((S_meter_facts A).args m)) := by
  have hp : m.Ok := hp
  have h24 := hp.t24
  have hl := hp.len
  have lf : (m.fs.map MF.d).length = m.fs.length := List.length_map ..
  show p_meter_facts A _ [some (.ro (m.d A)), none, none, none]
  unfold p_meter_facts Mtr.d
  walk_at "pud"
  refine l_lcMap (fun k => Fact.d ⟨k, k + 1, some m.lo, some m.hi⟩) (by rw [rngD_len]; omega) rfl (fun i d ρ2 hi hs => ?_) ?_ (by show 3 < 4; decide)
  · have hi1 : i < (m.T : Int).toNat := by
      have := (List.getElem?_eq_some_iff.mp hi).1
      rwa [rngD_len] at this
    rw [rngD_get hi1] at hi
    cases hi
    cases hs.eq
    rw [Int.zero_add]
    walk_at "pud"
    rfl
  · walk_at "pud"
    rw [rngD_len, Int.toNat_natCast]
    refine l_kFor (fun k ρ => ∃ a, ρ = [some (.ro (.ins A.Meter ["ticks", "low", "high", "facts"] [.int m.T, .int m.lo, .int m.hi, .tup (m.fs.map MF.d)])), some (.own ((tickFs m.T m.lo m.hi ++ (m.fs.take k).map MF.fact).map Fact.d)), a, none]) ⟨none, ?_⟩ ?_ ?_
    · unfold tickFs
      rw [List.take_zero, List.map_nil, List.append_nil, List.map_map]
      rfl
    · rintro k d ρ hk ⟨a, rfl⟩
      obtain ⟨f, hf, rfl⟩ := map_get hk
      have hk2 := (List.getElem?_eq_some_iff.mp hf).1
      have lb : ((tickFs m.T m.lo m.hi ++ (m.fs.take k).map MF.fact).map Fact.d).length < 1000000 := by
        rw [List.length_map, List.length_append, tickFs_len, List.length_map, List.length_take]
        omega
      have e1 : (tickFs m.T m.lo m.hi ++ (m.fs.take (k + 1)).map MF.fact).map Fact.d = (tickFs m.T m.lo m.hi ++ (m.fs.take k).map MF.fact).map Fact.d ++ [f.fact.d] := by
        rw [List.take_add_one, hf, List.map_append, List.map_append, List.map_append, List.map_append, List.append_assoc]
        rfl
      rw [e1]
      generalize (tickFs m.T m.lo m.hi ++ (m.fs.take k).map MF.fact).map Fact.d = bs at lb
      cases f with
      | rd b v =>
        unfold MF.d
        walk_at "pud"
        exact l_kApp (by walk_at "pu set") lb ⟨_, rfl⟩
      | gr x y l g =>
        unfold MF.d
        walk_at "pud"
        exact l_kApp (by walk_at "pu set") lb ⟨_, rfl⟩
    · rintro ρ ⟨a, rfl⟩
      walk_at "pud"
      show _ = _
      rw [lf, List.take_length]
      rfl
theorem run_limit_facts (A : Ads) (x : Nat × Nat × Int × Nat) (hp : (S_limit_facts A).pre x) : p_limit_facts A (endZ (S_limit_facts A) x) (startD ["ticks", "width", "most", "shift", "facts", "point"] ((S_limit_facts A).args x)) := by
  obtain ⟨T, w, most, sh⟩ := x
  obtain ⟨h1, h2⟩ := hp
  have h1 : T ≤ 1000 := h1
  have h2 : w ≤ T := h2
  show p_limit_facts A _ [some (.ro (.int T)), some (.ro (.int w)), some (.ro (.int most)), some (.ro (.int sh)), none, none]
  unfold p_limit_facts
  walk_at "pud"
  have en : ((T : Int) + 1 - w).toNat = T + 1 - w := by omega
  rw [en]
  refine l_kFor (fun k ρ => ∃ a, ρ = [some (.ro (.int T)), some (.ro (.int w)), some (.ro (.int most)), some (.ro (.int sh)), some (.own (((List.range k).map fun i => (⟨sh + i, sh + i + w, none, some most⟩ : Fact)).map Fact.d)), a]) ⟨none, rfl⟩ ?_ ?_
  · rintro k d ρ hk ⟨a, rfl⟩
    have hk1 : k < T + 1 - w := by
      have := (List.getElem?_eq_some_iff.mp hk).1
      rwa [rngD_len] at this
    rw [rngD_get hk1] at hk
    cases hk
    walk_at "pud"
    refine l_kApp (by walk_at "pu set") (by rw [List.length_map, List.length_map, List.length_range]; omega) ⟨some (.ro (.int (w + k))), ?_⟩
    rw [List.range_succ, List.map_append, List.map_append]
    have e1 : (sh : Int) + ((w : Int) + k) - w = ((sh + k : Nat) : Int) := by omega
    have e2 : (sh : Int) + ((w : Int) + k) = ((sh + k + w : Nat) : Int) := by omega
    rw [e1, e2]
    rfl
  · rintro ρ ⟨a, rfl⟩
    walk_at "pud"
    rw [rngD_len]
    rfl
theorem nat_of {x : Int} (h : 0 ≤ x) : ∃ k : Nat, x = k := ⟨x.toNat, by omega⟩
theorem atI_ints {ns : List Int} {x : Int} (h0 : 0 ≤ x) (h1 : x < ns.length) : atI (ns.map D.int) x = some (.int (hD ns x.toNat)) := by
  obtain ⟨k, rfl⟩ := nat_of h0
  rw [Int.toNat_natCast]
  exact atI_map (f := D.int) (get_hD (by omega))
theorem run__law_cell (A : Ads) (x : List Int × Int) (hp : (S__law_cell A).pre x) : p__law_cell A (endZ (S__law_cell A) x) (startD ["script", "at", "mixed", "cell"] ((S__law_cell A).args x)) := by
  obtain ⟨ns, p⟩ := x
  obtain ⟨lo, hi, ln⟩ := hp
  have lo : 0 ≤ p := lo
  have hi : p ≤ 1000 := hi
  show p__law_cell A _ [some (.ro (.scr ns)), some (.ro (.int p)), none, none]
  unfold p__law_cell
  walk_at "pud"
  refine l_dec (fun hc => ?_) fun hc => ?_
  · have e : atI ns p = some (hD ns p.toNat) := by
      obtain ⟨k, rfl⟩ := nat_of lo
      rw [Int.toNat_natCast]
      exact atI_nat (get_hD (by omega))
    walk_at "pud"
    exact ⟨_, rfl⟩
  · walk_at "pud"
    refine l_kFor (fun _ ρ => ∃ (m : Int) (a : Option S), -(2 ^ 63) < m ∧ m < 2 ^ 63 ∧ ρ = [some (.ro (.scr ns)), some (.ro (.int p)), some (.ro (.int m)), a]) ⟨11 + 101 * p, none, by omega, by omega, rfl⟩ ?_ ?_
    · rintro k d ρ hk ⟨m, a, h1, h2, rfl⟩
      obtain ⟨v, hv, rfl⟩ := map_get hk
      walk_at "pud"
      refine ⟨(m * 31 + v) % 1000000007, _, ?_, ?_, rfl⟩
      · have := Int.emod_nonneg (m * 31 + v) (show (1000000007 : Int) ≠ 0 by decide); omega
      · have := Int.emod_lt_of_pos (m * 31 + v) (show (0 : Int) < 1000000007 by decide); omega
    · rintro ρ ⟨m, a, h1, h2, rfl⟩
      walk_at "pud"
      exact ⟨_, rfl⟩
theorem run__law_draw (A : Ads) (x : DrawIn) (hp : (S__law_draw A).pre x) : p__law_draw A (endZ (S__law_draw A) x) (startD ["script", "at", "k", "size", "cell", "mixed", "rest", "turn"] ((S__law_draw A).args x)) := by
  obtain ⟨ns, p, k, sz⟩ := x
  obtain ⟨ce, ⟨k0, k1⟩, sp⟩ := hp
  have ce : CellOk ns p := ce
  have k0 : 0 ≤ k := k0
  have k1 : k ≤ 1000 := k1
  have sp : 0 < sz := sp
  have fin : ∀ {v : Int}, (S__law_draw A).post ⟨ns, p, k, sz⟩ (.ok (.ro (.int (v % sz)))) := fun {v} => ⟨v % sz, Int.emod_nonneg v (by omega), Int.emod_lt_of_pos v sp, rfl⟩
  show p__law_draw A _ [some (.ro (.scr ns)), some (.ro (.int p)), some (.ro (.int k)), some (.ro (.int sz)), none, none, none, none]
  unfold p__law_draw
  walk_at "pud"
  refine l_kCall (S := S__law_cell A) (ns, p) rfl ce (fun r hr => ?_) (fun e he => by obtain ⟨_, he⟩ := he; cases he)
  obtain ⟨c, hr⟩ := hr
  cases hr
  walk_at "pud"
  refine l_I (C := CPow) (by unfold CPow; decide) ?_
  walk_at "pud"
  have tail : ∀ (a b c' : Option S), pSeq (pAsg 5 (pOp dMod (pCB dInt1 (pCons (pOp dAdd (pOp dAdd (pVar 4) (pOp dMul (pC (.int 7919)) (pVar 2))) (pC (.int 13))) pNil)) (pC (.int 2147483647))))
      (pSeq (pAsg 5 (pOp dMod (pCB dInt1 (pCons (pOp dMul (pVar 5) (pOp dAdd (pVar 5) (pC (.int 48271)))) pNil)) (pC (.int 2147483629))))
      (pSeq (pAsg 5 (pOp dMod (pCB dInt1 (pCons (pOp dAdd (pOp dMul (pVar 5) (pOp dAdd (pVar 5) (pC (.int 69621)))) (pOp dMul (pC (.int 31)) (pVar 2))) pNil)) (pC (.int 2147483647))))
      (pRet (pOp dMod (pCB dInt1 (pCons (pOp dFdiv (pVar 5) (pC (.int 9))) pNil)) (pVar 3))))) (endZ (S__law_draw A) ⟨ns, p, k, sz⟩) [some (.ro (.scr ns)), some (.ro (.int p)), some (.ro (.int k)), some (.ro (.int sz)), some (.ro (.int c)), a, b, c'] := by
    intro a b c'
    walk_at "pud"
    generalize (c + 7919 * k + 13) = z1
    have b1 := Int.emod_nonneg z1 (show (2147483647 : Int) ≠ 0 by decide)
    have b2 := Int.emod_lt_of_pos z1 (show (0 : Int) < 2147483647 by decide)
    generalize z1 % 2147483647 = m1 at b1 b2
    walk_at "pud"
    generalize (m1 * (m1 + 48271)) = z2
    have b3 := Int.emod_nonneg z2 (show (2147483629 : Int) ≠ 0 by decide)
    have b4 := Int.emod_lt_of_pos z2 (show (0 : Int) < 2147483629 by decide)
    generalize z2 % 2147483629 = m2 at b3 b4
    walk_at "pud"
    exact fin
  refine l_dec (fun hc => ?_) fun hc => ?_
  · walk_at "pud"
    refine l_kFor (fun _ ρ => ∃ (m : Int) (a : Option S), ρ = [some (.ro (.scr ns)), some (.ro (.int p)), some (.ro (.int k)), some (.ro (.int sz)), some (.ro (.int c)), none, some (.ro (.int m)), a]) ⟨c, none, rfl⟩ ?_ ?_
    · rintro i d ρ hi ⟨m, a, rfl⟩
      walk_at "pud"
      exact ⟨_, _, rfl⟩
    · rintro ρ ⟨m, a, rfl⟩
      walk_at "pud"
      refine l_dec (fun hm => ?_) fun hm => ?_
      · walk_at "pud"
        exact fin
      · refine l_next ?_
        exact tail _ _ _
  · refine l_next ?_
    exact tail _ _ _
theorem run__law_is_number (A : Ads) (x : Int) (hp : (S__law_is_number A).pre x) : p__law_is_number A (endZ (S__law_is_number A) x) (startD ["value"] ((S__law_is_number A).args x)) := by
  show p__law_is_number A _ [some (.ro (.int x))]
  unfold p__law_is_number
  walk_at "pud"
  rfl
/-- a draw, called -/
theorem k_draw {A : Ads} {ns : List Int} {p k sz : Int} (ce : CellOk ns p) (hk : 0 ≤ k ∧ k ≤ 1000) (hs : 0 < sz) {K : KD} {J : KX} (h : ∀ v : Int, 0 ≤ v → v < sz → K (.ro (.int v))) : kCall (S__law_draw A) K J [.scr ns, .int p, .int k, .int sz] := by
  refine l_kCall (S := S__law_draw A) ⟨ns, p, k, sz⟩ rfl ⟨ce, hk, hs⟩ (fun r hr => ?_) (fun e he => by obtain ⟨_, _, _, he⟩ := he; cases he)
  obtain ⟨v, h1, h2, hr⟩ := hr
  cases hr
  exact h v h1 h2
theorem run__law_bounds (A : Ads) (x : List Int × Int × Bool) (hp : (S__law_bounds A).pre x) : p__law_bounds A (endZ (S__law_bounds A) x) (startD ["script", "at", "large", "bottom", "choice", "top"] ((S__law_bounds A).args x)) := by
  obtain ⟨ns, p, lg⟩ := x
  have ce : CellOk ns p := hp
  show p__law_bounds A _ [some (.ro (.scr ns)), some (.ro (.int p)), some (.ro (.bl lg)), none, none, none]
  unfold p__law_bounds
  walk_at "pud"
  refine k_draw ce (by decide) (by decide) fun v1 a1 b1 => ?_
  walk_at "pud"
  refine k_draw ce (by decide) (by decide) fun v2 a2 b2 => ?_
  walk_at "pud"
  cases lg with
  | true =>
    walk_at "pud"
    refine l_dec (fun h2 => ?_) fun h2 => ?_
    · walk_at "pud"
      refine k_draw ce (by decide) (by omega) fun v3 a3 b3 => ?_
      walk_at "pud"
      · exact ⟨0, 0 + v3, by omega, by omega, by omega, (fun z => by cases z), rfl⟩
    · walk_at "pud"
      refine k_draw ce (by decide) (by omega) fun v3 a3 b3 => ?_
      walk_at "pud"
      refine l_dec (fun h2 => ?_) fun h2 => ?_
      · walk_at "pud"
        exact ⟨v1, 1000000, by omega, by omega, Int.le_refl _, (fun z => by cases z), rfl⟩
      · walk_at "pud"
        exact ⟨v1, v1 + v3, by omega, by omega, by omega, (fun z => by cases z), rfl⟩
  | false =>
    walk_at "pud"
    have six : ∀ {v : Int}, 0 ≤ v → v < 6 → ∃ g : Int, atI [D.int 0, D.int 1, D.int 1, D.int 2, D.int 2, D.int 2] v = some (.int g) ∧ 0 ≤ g ∧ g ≤ 2 := fun {v} h0 h1 => by
      have h : v = 0 ∨ v = 1 ∨ v = 2 ∨ v = 3 ∨ v = 4 ∨ v = 5 := by omega
      rcases h with rfl | rfl | rfl | rfl | rfl | rfl
      · exact ⟨0, rfl, by decide, by decide⟩
      · exact ⟨1, rfl, by decide, by decide⟩
      · exact ⟨1, rfl, by decide, by decide⟩
      · exact ⟨2, rfl, by decide, by decide⟩
      · exact ⟨2, rfl, by decide, by decide⟩
      · exact ⟨2, rfl, by decide, by decide⟩
    -- the choices
    refine l_dec (fun h2 => ?_) fun h2 => ?_
    · walk_at "pud"
      split
      · walk_at "pud"
        refine k_draw ce (by decide) (by omega) fun w a b => ?_
        obtain ⟨g, eg, g0, g2⟩ := six a b
        walk_at "pud"
        exact ⟨_, _, by omega, by omega, by omega, fun _ => by omega, rfl⟩
      · walk_at "pud"
        refine k_draw ce (by decide) (by omega) fun w a b => ?_
        obtain ⟨g, eg, g0, g2⟩ := six a b
        walk_at "pud"
        exact ⟨_, _, by omega, by omega, by omega, fun _ => by omega, rfl⟩
    · walk_at "pud"
      refine l_dec (fun h3 => ?_) fun h3 => ?_
      · walk_at "pud"
        refine k_draw ce (by decide) (by omega) fun v3 a3 b3 => ?_
        walk_at "pud"
        split
        · walk_at "pud"
          refine k_draw ce (by decide) (by omega) fun w a b => ?_
          obtain ⟨g, eg, g0, g2⟩ := six a b
          walk_at "pud"
          exact ⟨_, _, by omega, by omega, by omega, fun _ => by omega, rfl⟩
        · walk_at "pud"
          refine k_draw ce (by decide) (by omega) fun w a b => ?_
          obtain ⟨g, eg, g0, g2⟩ := six a b
          walk_at "pud"
          exact ⟨_, _, by omega, by omega, by omega, fun _ => by omega, rfl⟩
      · walk_at "pud"
        split
        · walk_at "pud"
          refine l_dec (fun h4 => ?_) fun h4 => ?_
          · walk_at "pud"
            refine k_draw ce (by decide) (by omega) fun w a b => ?_
            obtain ⟨g, eg, g0, g2⟩ := six a b
            walk_at "pud"
            exact ⟨_, _, by omega, by omega, by omega, fun _ => by omega, rfl⟩
          · walk_at "pud"
            refine k_draw ce (by decide) (by omega) fun w a b => ?_
            obtain ⟨g, eg, g0, g2⟩ := six a b
            walk_at "pud"
            exact ⟨_, _, by omega, by omega, by omega, fun _ => by omega, rfl⟩
        · walk_at "pud"
          refine l_dec (fun h4 => ?_) fun h4 => ?_
          · walk_at "pud"
            refine k_draw ce (by decide) (by omega) fun w a b => ?_
            obtain ⟨g, eg, g0, g2⟩ := six a b
            walk_at "pud"
            exact ⟨_, _, by omega, by omega, by omega, fun _ => by omega, rfl⟩
          · walk_at "pud"
            refine k_draw ce (by decide) (by omega) fun w a b => ?_
            obtain ⟨g, eg, g0, g2⟩ := six a b
            walk_at "pud"
            exact ⟨_, _, by omega, by omega, by omega, fun _ => by omega, rfl⟩
theorem atI_last {α : Type} {xs : List α} {f : α → D} {a : α} (h : xs[xs.length - 1]? = some a) : atI (xs.map f) (-1) = some (f a) := by
  have hl : 0 < xs.length := by
    cases xs with
    | nil => simp at h
    | cons => simp
  have e : ixN (xs.map f).length (-1) = some (xs.length - 1) := by
    unfold ixN
    rw [List.length_map, if_neg (by decide), if_pos (by omega)]
    congr 1
    omega
  unfold atI
  rw [e]
  show (xs.map f)[xs.length - 1]? = _
  rw [List.getElem?_map, h]
  rfl
theorem run__law_truth (A : Ads) (x : TruthIn) (hp : (S__law_truth A).pre x) : p__law_truth A (endZ (S__law_truth A) x) (startD ["script", "at", "length", "bounds", "readings", "t"] ((S__law_truth A).args x)) := by
  obtain ⟨ns, p, T, lo, hi⟩ := x
  obtain ⟨ce, hT, hb⟩ := hp
  have ce : CellOk ns p := ce
  have hT : T ≤ 24 := hT
  have hb : lo ≤ hi := hb
  show p__law_truth A _ [some (.ro (.scr ns)), some (.ro (.int p)), some (.ro (.int T)), some (.ro (.tup [.int lo, .int hi])), none, none]
  unfold p__law_truth
  walk_at "pud"
  refine l_kFor (fun k ρ => ∃ hs a, TruthOk k lo hi hs ∧ ρ = [some (.ro (.scr ns)), some (.ro (.int p)), some (.ro (.int T)), some (.ro (.tup [.int lo, .int hi])), some (.own (hs.map D.int)), a]) ⟨[0], none, ⟨rfl, rfl⟩, rfl⟩ ?_ ?_
  · rintro k d ρ hk ⟨hs, a, ⟨h1, h2⟩, rfl⟩
    have hk1 : k < T := by
      have := (List.getElem?_eq_some_iff.mp hk).1
      rwa [rngD_len, Int.toNat_natCast] at this
    rw [rngD_get (by rw [Int.toNat_natCast]; exact hk1)] at hk
    cases hk
    rw [Int.zero_add]
    have e0 : atI (hs.map D.int) (-1) = some (.int (hD hs (hs.length - 1))) := atI_last (f := D.int) (get_hD (by omega))
    walk_at "pud"
    refine k_draw ce (by omega) (by omega) fun v a b => ?_
    walk_at "pud"
    refine l_kApp (by walk_at "pu set") (by rw [List.length_map]; omega) ⟨hs ++ [hD hs (hs.length - 1) + lo + v], _, ⟨by rw [List.length_append, h1]; rfl, ?_⟩, by rw [List.map_append]; rfl⟩
    refine hD_get ?_
    rw [List.getElem?_append_left (by omega), get_hD (by omega), h2]
  · rintro ρ ⟨hs, a, h, rfl⟩
    rw [rngD_len, Int.toNat_natCast] at h
    walk_at "pud"
    exact ⟨hs, h, rfl⟩
theorem run__law_fact (A : Ads) (x : FactIn) (hp : (S__law_fact A).pre x) : p__law_fact A (endZ (S__law_fact A) x) (startD ["script", "at", "k", "truth", "last", "a", "b", "kind", "low", "high"] ((S__law_fact A).args x)) := by
  obtain ⟨ns, p, k, hs⟩ := x
  obtain ⟨ce, ⟨k0, k1⟩, h2⟩ := hp
  have ce : CellOk ns p := ce
  have k0 : 0 ≤ k := k0
  have k1 : k ≤ 900 := k1
  have h2 : 2 ≤ hs.length := h2
  have hl : (hs.map D.int).length = hs.length := List.length_map ..
  show p__law_fact A _ [some (.ro (.scr ns)), some (.ro (.int p)), some (.ro (.int k)), some (.ro (.lst (hs.map D.int))), none, none, none, none, none, none]
  unfold p__law_fact
  walk_at "pud"
  rw [hl]
  refine k_draw ce (by omega) (by omega) fun v1 a1 b1 => ?_
  obtain ⟨a, rfl⟩ := nat_of a1
  walk_at "pud"
  refine k_draw ce (by omega) (by omega) fun v2 a2 b2 => ?_
  obtain ⟨c, rfl⟩ := nat_of a2
  walk_at "pud"
  refine k_draw ce (by omega) (by omega) fun v3 a3 b3 => ?_
  have ib := atI_ints (ns := hs) (x := (a : Int) + 1 + c) (by omega) (by omega)
  have ia := atI_ints (ns := hs) (x := (a : Int)) (by omega) (by omega)
  have okB : 1 ≤ a + 1 + c ∧ a + 1 + c ≤ hs.length - 1 := ⟨by omega, by omega⟩
  have okG : a < a + 1 + c ∧ a + 1 + c ≤ hs.length - 1 := ⟨by omega, by omega⟩
  have gr : ∀ {l g : Int}, (S__law_fact A).post ⟨ns, p, k, hs⟩ (.ok (.ro (.tup [.str "grew", .int a, .int ((a : Int) + 1 + c), .int l, .int g]))) := fun {l g} => ⟨.gr a (a + 1 + c) l g, okG, rfl⟩
  walk_at "pud"
  refine l_dec (fun hk => ?_) fun hk => ?_
  · walk_at "pud"
    exact ⟨.rd (a + 1 + c) _, okB, rfl⟩
  · walk_at "pud"
    refine k_draw ce (by omega) (by omega) fun v4 a4 b4 => ?_
    walk_at "pud"
    refine k_draw ce (by omega) (by omega) fun v5 a5 b5 => ?_
    walk_at "pud"
    refine l_dec (fun hk => ?_) fun hk => ?_
    · walk_at "pud"
      exact gr
    · walk_at "pud"
      refine l_dec (fun hk => ?_) fun hk => ?_
      · walk_at "pud"
        exact gr
      · walk_at "pud"
        exact gr
theorem run__law_wrong_fact (A : Ads) (x : List Int × Int × List Int) (hp : (S__law_wrong_fact A).pre x) : p__law_wrong_fact A (endZ (S__law_wrong_fact A) x) (startD ["script", "at", "truth", "last", "a", "b", "value", "kind", "move"] ((S__law_wrong_fact A).args x)) := by
  obtain ⟨ns, p, hs⟩ := x
  obtain ⟨ce, h2⟩ := hp
  have ce : CellOk ns p := ce
  have h2 : 2 ≤ hs.length := h2
  have hl : (hs.map D.int).length = hs.length := List.length_map ..
  show p__law_wrong_fact A _ [some (.ro (.scr ns)), some (.ro (.int p)), some (.ro (.lst (hs.map D.int))), none, none, none, none, none, none]
  unfold p__law_wrong_fact
  walk_at "pud"
  rw [hl]
  refine k_draw ce (by omega) (by omega) fun v1 a1 b1 => ?_
  obtain ⟨a, rfl⟩ := nat_of a1
  walk_at "pud"
  refine k_draw ce (by omega) (by omega) fun v2 a2 b2 => ?_
  obtain ⟨c, rfl⟩ := nat_of a2
  have ib := atI_ints (ns := hs) (x := (a : Int) + 1 + c) (by omega) (by omega)
  have ia := atI_ints (ns := hs) (x := (a : Int)) (by omega) (by omega)
  have okB : 1 ≤ a + 1 + c ∧ a + 1 + c ≤ hs.length - 1 := ⟨by omega, by omega⟩
  have okG : a < a + 1 + c ∧ a + 1 + c ≤ hs.length - 1 := ⟨by omega, by omega⟩
  have gr : ∀ {l g : Int}, (S__law_wrong_fact A).post (ns, p, hs) (.ok (.ro (.tup [.str "grew", .int a, .int ((a : Int) + 1 + c), .int l, .int g]))) := fun {l g} => ⟨.gr a (a + 1 + c) l g, okG, rfl⟩
  have rd : ∀ {l : Int}, (S__law_wrong_fact A).post (ns, p, hs) (.ok (.ro (.tup [.str "read", .int ((a : Int) + 1 + c), .int l]))) := fun {l} => ⟨.rd (a + 1 + c) l, okB, rfl⟩
  walk_at "pud"
  refine k_draw ce (by omega) (by omega) fun v3 a3 b3 => ?_
  walk_at "pud"
  refine k_draw ce (by omega) (by omega) fun v4 a4 b4 => ?_
  walk_at "pud"
  repeat (refine l_dec (fun hk => ?_) fun hk => ?_; · (walk_at "pud"; first | exact gr | exact rd); walk_at "pud")
  walk_at "pud"
  exact gr
theorem run__law_facts (A : Ads) (x : FactsIn) (hp : (S__law_facts A).pre x) : p__law_facts A (endZ (S__law_facts A) x) (startD ["script", "at", "count", "wrong", "truth", "facts", "k"] ((S__law_facts A).args x)) := by
  obtain ⟨ns, p, ct, wr, hs⟩ := x
  obtain ⟨ce, p9, c9, h2⟩ := hp
  have ce : CellOk ns p := ce
  have p9 : p ≤ 900 := p9
  have c9 : ct ≤ 99 := c9
  have h2 : 2 ≤ hs.length := h2
  have plo := ce.lo
  show p__law_facts A _ [some (.ro (.scr ns)), some (.ro (.int p)), some (.ro (.int ct)), some (.ro (.int wr)), some (.ro (.lst (hs.map D.int))), none, none]
  unfold p__law_facts
  walk_at "pud"
  refine l_kFor (fun k ρ => ∃ (fs : List MF) (a : Option S), fs.length = k ∧ (∀ f ∈ fs, f.ok (hs.length - 1)) ∧ ρ = [some (.ro (.scr ns)), some (.ro (.int p)), some (.ro (.int ct)), some (.ro (.int wr)), some (.ro (.lst (hs.map D.int))), some (.own (fs.map MF.d)), a]) ⟨[], none, rfl, (fun f h => absurd h List.not_mem_nil), rfl⟩ ?_ ?_
  · rintro k d ρ hk ⟨fs, a, h1, h3, rfl⟩
    have hk1 : k < ct := by
      have := (List.getElem?_eq_some_iff.mp hk).1
      rwa [rngD_len, Int.toNat_natCast] at this
    rw [rngD_get (by rw [Int.toNat_natCast]; exact hk1)] at hk
    cases hk
    rw [Int.zero_add]
    have fin : ∀ {f : MF} {b : Option S}, f.ok (hs.length - 1) → ∃ (fs' : List MF) (a : Option S), fs'.length = k + 1 ∧ (∀ f ∈ fs', f.ok (hs.length - 1)) ∧ [some (S.ro (.scr ns)), some (.ro (.int p)), some (.ro (.int ct)), some (.ro (.int wr)), some (.ro (.lst (hs.map D.int))), some (.own (fs.map MF.d ++ [f.d])), b] = [some (.ro (.scr ns)), some (.ro (.int p)), some (.ro (.int ct)), some (.ro (.int wr)), some (.ro (.lst (hs.map D.int))), some (.own (fs'.map MF.d)), a] := fun {f b} hf => by
      refine ⟨fs ++ [f], b, by rw [List.length_append, h1]; rfl, fun g hg => ?_, by rw [List.map_append]; rfl⟩
      rcases List.mem_append.mp hg with hg | hg
      · exact h3 g hg
      · have : g = f := by simpa using hg
        rw [this]; exact hf
    walk_at "pud"
    refine l_dec (fun hw => ?_) fun hw => ?_
    · walk_at "pud"
      refine l_kCall (S := S__law_wrong_fact A) (ns, p, hs) rfl ⟨ce, h2⟩ (fun r hr => ?_) (fun e he => by obtain ⟨_, _, he⟩ := he; cases he)
      obtain ⟨f, hf, hr⟩ := hr
      cases hr
      exact l_kApp (by walk_at "pu set") (by rw [List.length_map]; omega) (fin hf)
    · walk_at "pud"
      have b1 := Int.emod_nonneg (k : Int) (show (20 : Int) ≠ 0 by decide)
      have b2 := Int.emod_lt_of_pos (k : Int) (show (0 : Int) < 20 by decide)
      have b3 : (0 : Int) ≤ (k : Int) / 20 := by omega
      have b4 : (k : Int) / 20 ≤ 4 := by omega
      walk_at "pud"
      refine l_kCall (S := S__law_fact A) ⟨ns, p + 1 + (k : Int) % 20, 8 * ((k : Int) / 20), hs⟩ rfl ⟨⟨by show 0 ≤ p + 1 + (k : Int) % 20; omega, by show p + 1 + (k : Int) % 20 ≤ 1000; omega, ce.len⟩, ⟨by show 0 ≤ 8 * ((k : Int) / 20); omega, by show 8 * ((k : Int) / 20) ≤ 900; omega⟩, h2⟩ (fun r hr => ?_) (fun e he => by obtain ⟨_, _, he⟩ := he; cases he)
      obtain ⟨f, hf, hr⟩ := hr
      cases hr
      exact l_kApp (by walk_at "pu set") (by rw [List.length_map]; omega) (fin hf)
  · rintro ρ ⟨fs, a, h1, h3, rfl⟩
    rw [rngD_len, Int.toNat_natCast] at h1
    walk_at "pud"
    exact ⟨fs, h1, h3, rfl⟩
theorem run__law_rules (A : Ads) (x : RulesIn) (hp : (S__law_rules A).pre x) : p__law_rules A (endZ (S__law_rules A) x) (startD ["length", "bounds", "facts", "rules", "fact", "t"] ((S__law_rules A).args x)) := by
  obtain ⟨T, lo, hi, fs⟩ := x
  obtain ⟨h24, hl⟩ := hp
  have h24 : T ≤ 24 := h24
  have hl : fs.length ≤ 100 := hl
  have lf : (fs.map MF.d).length = fs.length := List.length_map ..
  show p__law_rules A _ [some (.ro (.int T)), some (.ro (.tup [.int lo, .int hi])), some (.ro (.lst (fs.map MF.d))), none, none, none]
  unfold p__law_rules
  walk_at "pud"
  refine l_lcMap (fun k => Fact.d ⟨k, k + 1, some lo, some hi⟩) (by rw [rngD_len]; omega) rfl (fun i d ρ2 hi hs => ?_) ?_ (by show 5 < 6; decide)
  · have hi1 : i < (T : Int).toNat := by
      have := (List.getElem?_eq_some_iff.mp hi).1
      rwa [rngD_len] at this
    rw [rngD_get hi1] at hi
    cases hi
    cases hs.eq
    rw [Int.zero_add]
    walk_at "pud"
    rfl
  · walk_at "pud"
    rw [rngD_len, Int.toNat_natCast]
    refine l_kFor (fun k ρ => ∃ a, ρ = [some (.ro (.int T)), some (.ro (.tup [.int lo, .int hi])), some (.ro (.lst (fs.map MF.d))), some (.own ((tickFs T lo hi ++ (fs.take k).map MF.fact).map Fact.d)), a, none]) ⟨none, ?_⟩ ?_ ?_
    · unfold tickFs
      rw [List.take_zero, List.map_nil, List.append_nil, List.map_map]
      rfl
    · rintro k d ρ hk ⟨a, rfl⟩
      obtain ⟨f, hf, rfl⟩ := map_get hk
      have hk2 := (List.getElem?_eq_some_iff.mp hf).1
      have lb : ((tickFs T lo hi ++ (fs.take k).map MF.fact).map Fact.d).length < 1000000 := by
        rw [List.length_map, List.length_append, tickFs_len, List.length_map, List.length_take]
        omega
      have e1 : (tickFs T lo hi ++ (fs.take (k + 1)).map MF.fact).map Fact.d = (tickFs T lo hi ++ (fs.take k).map MF.fact).map Fact.d ++ [f.fact.d] := by
        rw [List.take_add_one, hf, List.map_append, List.map_append, List.map_append, List.map_append, List.append_assoc]
        rfl
      rw [e1]
      generalize (tickFs T lo hi ++ (fs.take k).map MF.fact).map Fact.d = bs at lb
      cases f with
      | rd b v =>
        unfold MF.d
        walk_at "pud"
        exact l_kApp (by walk_at "pu set") lb ⟨_, rfl⟩
      | gr x y l g =>
        unfold MF.d
        walk_at "pud"
        exact l_kApp (by walk_at "pu set") lb ⟨_, rfl⟩
    · rintro ρ ⟨a, rfl⟩
      walk_at "pud"
      show _ = _
      rw [lf, List.take_length]
      rfl
theorem linked_get : ∀ {rs : List Stp} {k : Nat} {t u : Stp}, Linked rs → rs[k]? = some t → rs[k + 1]? = some u → t.e = u.s
  | [], _, _, _, _, h, _ => by simp at h
  | [_], _, _, _, _, _, h => by simp at h
  | x :: y :: r, 0, t, u, l, h1, h2 => by
    have e1 : x = t := by simpa using h1
    have e2 : y = u := by simpa using h2
    rw [← e1, ← e2]; exact l.1
  | x :: y :: r, k + 1, t, u, l, h1, h2 => linked_get (rs := y :: r) (k := k) l.2 (by simpa using h1) (by simpa using h2)
theorem plains_d3 (n : Nat) : ∀ rs : List Stp, plains (n + 1) (rs.map Stp.d3) = true
  | [] => by simp [plains]
  | t :: r => by
    have h := plains_d3 n r
    rw [List.map_cons]
    simp only [plains, Bool.and_eq_true]
    refine ⟨?_, h⟩
    unfold Stp.d3
    simp [plains, plain]
theorem run__law_steps (A : Ads) (x : List Fact × List Stp) (hp : (S__law_steps A).pre x) : p__law_steps A (endZ (S__law_steps A) x) (startD ["told", "rules", "steps", "step", "starts", "k", "rule"] ((S__law_steps A).args x)) := by
  obtain ⟨fs, rs⟩ := x
  obtain ⟨mem, link, nd, len⟩ := hp
  have mem : ∀ t ∈ rs, t ∈ allSteps fs := mem
  have link : Linked rs := link
  have nd : (rs.map (·.s)).Nodup := nd
  have len : rs.length ≤ 1000 := len
  have hl : (fs.map Fact.d).length = fs.length := List.length_map ..
  show p__law_steps A _ [some (.ro (.lst (rs.map Stp.ds))), some (.ro (.lst (fs.map Fact.d))), none, none, none, none, none]
  unfold p__law_steps
  walk_at "pud"
  refine l_kFor (fun k ρ => ∃ a b, ρ = [some (.ro (.lst (rs.map Stp.ds))), some (.ro (.lst (fs.map Fact.d))), some (.own ((rs.take k).map Stp.d3)), a, none, none, b]) ⟨none, none, rfl⟩ ?_ ?_
  · rintro k d ρ hk ⟨a, b, rfl⟩
    obtain ⟨t, ht, rfl⟩ := map_get hk
    have hk2 := (List.getElem?_eq_some_iff.mp ht).1
    obtain ⟨f, h1, h2⟩ := mem_allSteps.mp (mem t (List.mem_of_getElem? ht))
    have hf := (List.getElem?_eq_some_iff.mp h1).1
    have ia := atI_map (f := Fact.d) h1
    have lb : ((rs.take k).map Stp.d3).length < 1000000 := by
      rw [List.length_map, List.length_take]; omega
    have e1 : (rs.take (k + 1)).map Stp.d3 = (rs.take k).map Stp.d3 ++ [t.d3] := by
      rw [List.take_add_one, ht, List.map_append]; rfl
    rw [e1]
    generalize (rs.take k).map Stp.d3 = bs at lb
    obtain ⟨⟨p, h⟩, s, e, c⟩ := t
    obtain ⟨fa, fb, lo, hi⟩ := f
    have hf : p < fs.length := hf
    have ia : atI (fs.map Fact.d) (p : Int) = some (.tup [.int fa, .int fb, oD lo, oD hi]) := ia
    unfold Stp.ds stD
    rcases parts_cases h2 with ⟨e2, e3, e4, e5⟩ | ⟨e2, e3, e4, e5⟩
    · have e2 : h = true := e2
      have e5 : hi = some c := e5
      have e3 : s = fa := e3
      have e4 : e = fb := e4
      subst e2 e5 e3 e4
      walk_at "pud"
      refine l_kCall (S := S__law_is_number A) (p : Int) rfl trivial (fun r hr => ?_) (fun e he => by cases he)
      cases hr
      walk_at "pud"
      exact l_kApp (by walk_at "pu set") lb ⟨_, _, rfl⟩
    · have e2 : h = false := e2
      have e5 : lo = some (-c) := e5
      have e3 : s = fb := e3
      have e4 : e = fa := e4
      subst e2 e5 e3 e4
      walk_at "pud"
      refine l_kCall (S := S__law_is_number A) (p : Int) rfl trivial (fun r hr => ?_) (fun e he => by cases he)
      cases hr
      walk_at "pud"
      rw [Int.neg_neg]
      exact l_kApp (by walk_at "pu set") lb ⟨_, _, rfl⟩
  · rintro ρ ⟨a, b, rfl⟩
    have lr : (rs.map Stp.ds).length = rs.length := List.length_map ..
    have l3 : (rs.map Stp.d3).length = rs.length := List.length_map ..
    rw [lr, List.take_length]
    walk_at "pud"
    have nl : ∀ k, ((rs.map (fun t => (t.s : Int))).take k).length ≤ 1000 := fun k => by rw [List.length_take, List.length_map]; omega
    refine l_kFor (fun k ρ => ∃ a b c, ρ = [some (.ro (.lst (rs.map Stp.ds))), some (.ro (.lst (fs.map Fact.d))), some (.own (rs.map Stp.d3)), a, some (.own (((rs.map (fun t => (t.s : Int))).take k).map D.int)), b, c]) ⟨_, none, _, rfl⟩ ?_ ?_
    · rintro k d ρ hk ⟨a, b, c, rfl⟩
      have hk1 : k < rs.length := by
        have := (List.getElem?_eq_some_iff.mp hk).1
        rwa [rngD_len, l3, Int.toNat_natCast] at this
      rw [rngD_get (by rw [l3, Int.toNat_natCast]; exact hk1)] at hk
      cases hk
      rw [Int.zero_add]
      obtain ⟨t, ht⟩ : ∃ t, rs[k]? = some t := ⟨_, List.getElem?_eq_getElem hk1⟩
      have it : atI (rs.map Stp.d3) (k : Int) = some (.tup [.int t.s, .int t.e, .int t.c]) := atI_map (f := Stp.d3) ht
      have e1 : (rs.map (fun t => (t.s : Int))).take (k + 1) = (rs.map (fun t => (t.s : Int))).take k ++ [(t.s : Int)] := by
        rw [List.take_add_one, List.getElem?_map, ht]; rfl
      have nin : (t.s : Int) ∉ (rs.map (fun t => (t.s : Int))).take k := fun h => by
        obtain ⟨j, hj⟩ := List.getElem?_of_mem h
        have hjk : j < k := by
          have := (List.getElem?_eq_some_iff.mp hj).1
          rw [List.length_take] at this
          omega
        rw [List.getElem?_take_of_lt hjk, List.getElem?_map] at hj
        cases q : rs[j]? with
        | none => rw [q] at hj; cases hj
        | some u =>
          rw [q] at hj
          have e : (u.s : Int) = t.s := by simpa using hj
          refine nodup_at.mp nd j k hjk (by rw [List.length_map]; exact hk1) ?_
          rw [List.getElem?_map, List.getElem?_map, q, ht]
          show some u.s = some t.s
          congr 1
          omega
      have nlk := nl k
      rw [e1]
      generalize (rs.map (fun t => (t.s : Int))).take k = bs at nin nlk
      rw [List.map_append]
      walk_at "pud"
      by_cases k0 : k = 0
      · subst k0
        walk_at "pud"
        refine l_kApp (by walk_at "pu set") (by rw [List.length_map]; omega) ⟨_, _, _, rfl⟩
      · obtain ⟨j, rfl⟩ : ∃ j, k = j + 1 := ⟨k - 1, by omega⟩
        obtain ⟨u, hu⟩ : ∃ u, rs[j]? = some u := ⟨_, List.getElem?_eq_getElem (by omega)⟩
        have iu : atI (rs.map Stp.d3) (((j + 1 : Nat) : Int) - 1) = some (.tup [.int u.s, .int u.e, .int u.c]) := by
          have e : ((j + 1 : Nat) : Int) - 1 = (j : Int) := by omega
          rw [e]
          exact atI_map (f := Stp.d3) hu
        have lk := linked_get link hu ht
        walk_at "pud"
        refine l_kApp (by walk_at "pu set") (by rw [List.length_map]; omega) ⟨_, _, _, rfl⟩
    · rintro ρ ⟨a, b, c, rfl⟩
      walk_at "pud"
      rfl
theorem csum_d (rs : List Stp) : ((rs.map (·.c)).sum : Int) = csum rs := rfl
theorem run__law_is_low_ring (A : Ads) (x : List Fact × List Stp) (hp : (S__law_is_low_ring A).pre x) : p__law_is_low_ring A (endZ (S__law_is_low_ring A) x) (startD ["told", "rules", "steps", "step"] ((S__law_is_low_ring A).args x)) := by
  obtain ⟨fs, rs⟩ := x
  obtain ⟨L, len⟩ := hp
  have L : LowRing fs rs := L
  have len : rs.length ≤ 1000 := len
  show p__law_is_low_ring A _ [some (.ro (.lst (rs.map Stp.ds))), some (.ro (.lst (fs.map Fact.d))), none, none]
  have l3 : (rs.map Stp.d3).length = rs.length := List.length_map ..
  obtain ⟨t, r, er⟩ : ∃ t r, rs = t :: r := by
    cases rs with
    | nil => exact absurd rfl L.ne
    | cons t r => exact ⟨t, r, rfl⟩
  have l0 : 0 < rs.length := by rw [er, List.length_cons]; omega
  obtain ⟨u, hu⟩ : ∃ u, rs[rs.length - 1]? = some u := ⟨_, List.getElem?_eq_getElem (by omega)⟩
  have h0 : rs[0]? = some t := by rw [er]; rfl
  have i0 : atI (rs.map Stp.d3) 0 = some (.tup [.int t.s, .int t.e, .int t.c]) := atI_map (f := Stp.d3) (n := 0) h0
  have i1 : atI (rs.map Stp.d3) (-1) = some (.tup [.int u.s, .int u.e, .int u.c]) := atI_last (f := Stp.d3) hu
  have cl : u.e = t.s := L.close t u (by rw [er]; rfl) (by rw [List.getLast?_eq_getElem?]; exact hu)
  have ne : (rs.map Stp.d3).isEmpty = false := by rw [er]; rfl
  unfold p__law_is_low_ring
  walk_at "pud"
  refine l_kCall (S := S__law_steps A) (fs, rs) rfl ⟨L.mem, L.link, L.nodup, len⟩ (fun r hr => ?_) (fun e he => by cases he)
  cases hr
  walk_at "pud"
  refine l_eqN (plains_d3 19 rs) ?_
  rw [ne]
  walk_at "pud"
  refine l_lcMap (fun k => .int ((rs.map (·.c)).getD k 0)) (by rw [l3]; omega) rfl (fun i d ρ2 hi hs => ?_) ?_ (by show 3 < 4; decide)
  · obtain ⟨y, hy, rfl⟩ := map_get hi
    cases hs.eq
    unfold Stp.d3
    walk_at "pud"
    rw [List.getD_eq_getElem?_getD, List.getElem?_map, hy]
    rfl
  · walk_at "pud"
    have e : (List.range (rs.map Stp.d3).length).map (fun k => D.int ((rs.map (·.c)).getD k 0)) = (rs.map (·.c)).map D.int := by
      rw [l3]
      apply List.ext_getElem?
      intro k
      by_cases hk : k < rs.length
      · rw [List.getElem?_map, List.getElem?_range hk, List.getElem?_map, List.getElem?_map, List.getElem?_eq_getElem hk]
        show some (D.int _) = some (D.int _)
        rw [List.getD_eq_getElem?_getD, List.getElem?_map, List.getElem?_eq_getElem hk]
        rfl
      · rw [List.getElem?_eq_none (by rw [List.length_map, List.length_range]; omega), List.getElem?_eq_none (by rw [List.length_map, List.length_map]; omega)]
    rw [e]
    refine l_sum ?_
    walk_at "pud"
    show _ = _
    rw [csum_d, decide_eq_true L.low]
    rfl
theorem run__law_is_way (A : Ads) (x : WayIn) (hp : (S__law_is_way A).pre x) : p__law_is_way A (endZ (S__law_is_way A) x) (startD ["told", "rules", "a", "b", "most", "steps", "step"] ((S__law_is_way A).args x)) := by
  obtain ⟨fs, rs, a, b, most⟩ := x
  obtain ⟨W, hc, len⟩ := hp
  have W : Way fs a b rs := W
  have hc : csum rs ≤ most := hc
  have len : rs.length ≤ 1000 := len
  show p__law_is_way A _ [some (.ro (.lst (rs.map Stp.ds))), some (.ro (.lst (fs.map Fact.d))), some (.ro (.int a)), some (.ro (.int b)), some (.ro (.int most)), none, none]
  have l3 : (rs.map Stp.d3).length = rs.length := List.length_map ..
  obtain ⟨t, r, er⟩ : ∃ t r, rs = t :: r := by
    cases rs with
    | nil => exact absurd rfl W.ne
    | cons t r => exact ⟨t, r, rfl⟩
  have l0 : 0 < rs.length := by rw [er, List.length_cons]; omega
  obtain ⟨u, hu⟩ : ∃ u, rs[rs.length - 1]? = some u := ⟨_, List.getElem?_eq_getElem (by omega)⟩
  have h0 : rs[0]? = some t := by rw [er]; rfl
  have i0 : atI (rs.map Stp.d3) 0 = some (.tup [.int t.s, .int t.e, .int t.c]) := atI_map (f := Stp.d3) (n := 0) h0
  have i1 : atI (rs.map Stp.d3) (-1) = some (.tup [.int u.s, .int u.e, .int u.c]) := atI_last (f := Stp.d3) hu
  have c1 : t.s = a := W.head t (by rw [er]; rfl)
  have c2 : u.e = b := W.last u (by rw [List.getLast?_eq_getElem?]; exact hu)
  have ne : (rs.map Stp.d3).isEmpty = false := by rw [er]; rfl
  have mapD : ∀ g : Stp → Int, (List.range (rs.map Stp.d3).length).map (fun k => D.int ((rs.map g).getD k 0)) = (rs.map g).map D.int := fun g => by
    rw [l3]
    apply List.ext_getElem?
    intro k
    by_cases hk : k < rs.length
    · rw [List.getElem?_map, List.getElem?_range hk, List.getElem?_map, List.getElem?_map, List.getElem?_eq_getElem hk]
      show some (D.int _) = some (D.int _)
      rw [List.getD_eq_getElem?_getD, List.getElem?_map, List.getElem?_eq_getElem hk]
      rfl
    · rw [List.getElem?_eq_none (by rw [List.length_map, List.length_range]; omega), List.getElem?_eq_none (by rw [List.length_map, List.length_map]; omega)]
  unfold p__law_is_way
  walk_at "pud"
  refine l_kCall (S := S__law_steps A) (fs, rs) rfl ⟨W.mem, W.link, W.nodup, len⟩ (fun r hr => ?_) (fun e he => by cases he)
  cases hr
  walk_at "pud"
  refine l_eqN (plains_d3 19 rs) ?_
  rw [ne]
  walk_at "pud"
  refine l_lcMap (fun k => .int ((rs.map (fun t => (t.s : Int))).getD k 0)) (by rw [l3]; omega) rfl (fun i d ρ2 hi hs => ?_) ?_ (by show 6 < 7; decide)
  · obtain ⟨y, hy, rfl⟩ := map_get hi
    cases hs.eq
    unfold Stp.d3
    walk_at "pud"
    rw [List.getD_eq_getElem?_getD, List.getElem?_map, hy]
    rfl
  · rw [mapD fun t => (t.s : Int)]
    refine l_inI ?_
    have nin : (b : Int) ∉ rs.map (fun t => (t.s : Int)) := fun h => by
      obtain ⟨y, hy, e⟩ := List.mem_map.mp h
      exact W.noend (List.mem_map.mpr ⟨y, hy, by omega⟩)
    rw [decide_eq_false nin]
    walk_at "pud"
    refine l_lcMap (fun k => .int ((rs.map (·.c)).getD k 0)) (by rw [l3]; omega) rfl (fun i d ρ2 hi hs => ?_) ?_ (by show 6 < 7; decide)
    · obtain ⟨y, hy, rfl⟩ := map_get hi
      cases hs.eq
      unfold Stp.d3
      walk_at "pud"
      rw [List.getD_eq_getElem?_getD, List.getElem?_map, hy]
      rfl
    · rw [mapD fun t => t.c]
      walk_at "pud"
      refine l_sum ?_
      walk_at "pud"
      show _ = _
      rw [csum_d, decide_eq_true hc]
      rfl
theorem map_rng {m : Nat} (g : Nat → Int) : (List.range m).map (fun k => D.int (g k)) = ((List.range m).map g).map D.int := by rw [List.map_map]; rfl
theorem run__law_budget (A : Ads) (x : BudIn) (hp : (S__law_budget A).pre x) : p__law_budget A (endZ (S__law_budget A) x) (startD ["script", "at", "truth", "bounds", "last", "width", "most", "kind", "t"] ((S__law_budget A).args x)) := by
  obtain ⟨ns, p, hs, lo, hi⟩ := x
  obtain ⟨ce, h2, h25, ⟨l0, l1⟩, g0, g1⟩ := hp
  have ce : CellOk ns p := ce
  have h2 : 2 ≤ hs.length := h2
  have h25 : hs.length ≤ 25 := h25
  have l0 : 0 ≤ lo := l0
  have l1 : lo ≤ 1000000 := l1
  have g0 : 0 ≤ hi := g0
  have g1 : hi ≤ 1000000 := g1
  have hl : (hs.map D.int).length = hs.length := List.length_map ..
  show p__law_budget A _ [some (.ro (.scr ns)), some (.ro (.int p)), some (.ro (.lst (hs.map D.int))), some (.ro (.tup [.int lo, .int hi])), none, none, none, none, none]
  unfold p__law_budget
  walk_at "pud"
  rw [hl]
  refine k_draw ce (by omega) (by omega) fun v1 a1 b1 => ?_
  obtain ⟨c, rfl⟩ := nat_of a1
  walk_at "pud"
  have fin : ∀ {m : Int}, (S__law_budget A).post ⟨ns, p, hs, lo, hi⟩ (.ok (.ro (.tup [.int (1 + (c : Int)), .int m]))) := fun {m} => ⟨1 + c, m, by omega, by show 1 + c ≤ hs.length - 1; omega, rfl⟩
  refine l_lcMap (fun k => .int (hD hs (1 + (c : Int) + k).toNat - hD hs ((1 + (c : Int) + k) - (1 + (c : Int))).toNat)) (by rw [rngD_len]; omega) rfl (fun i d ρ2 hi hs' => ?_) ?_ (by show 8 < 9; decide)
  · have hi1 : i < (((hs.length : Nat) : Int) - 1 + 1 - (1 + (c : Int))).toNat := by
      have := (List.getElem?_eq_some_iff.mp hi).1
      rwa [rngD_len] at this
    rw [rngD_get hi1] at hi
    cases hi
    cases hs'.eq
    have i1 := atI_ints (ns := hs) (x := 1 + (c : Int) + i) (by omega) (by omega)
    have i2 := atI_ints (ns := hs) (x := (1 + (c : Int) + i) - (1 + (c : Int))) (by omega) (by omega)
    walk_at "pud"
    rfl
  · rw [map_rng fun k => hD hs (1 + (c : Int) + k).toNat - hD hs ((1 + (c : Int) + k) - (1 + (c : Int))).toNat]
    refine l_max (by rw [List.length_map, List.length_range, rngD_len]; omega) fun m _ _ => ?_
    walk_at "pud"
    refine k_draw ce (by omega) (by omega) fun v2 a2 b2 => ?_
    walk_at "pud"
    refine k_draw ce (by omega) (by omega) fun v3 a3 b3 => ?_
    walk_at "pud"
    refine l_dec (fun hk => ?_) fun hk => ?_
    · walk_at "pud"
      refine k_draw ce (by omega) (by omega) fun v4 a4 b4 => ?_
      walk_at "pud"
      exact fin
    · walk_at "pud"
      refine l_dec (fun hk => ?_) fun hk => ?_
      · walk_at "pud"
        refine k_draw ce (by omega) (by omega) fun v4 a4 b4 => ?_
        walk_at "pud"
        exact fin
      · walk_at "pud"
        refine l_dec (fun hk => ?_) fun hk => ?_
        · walk_at "pud"
          refine k_draw ce (by omega) (by omega) fun v4 a4 b4 => ?_
          have six : ∃ g : Int, atI [D.int (-1), D.int (-999999999999), D.int 999999999999] v4 = some (.int g) := by
            have h : v4 = 0 ∨ v4 = 1 ∨ v4 = 2 := by omega
            rcases h with rfl | rfl | rfl
            · exact ⟨_, rfl⟩
            · exact ⟨_, rfl⟩
            · exact ⟨_, rfl⟩
          obtain ⟨g, eg⟩ := six
          refine l_ixL eg ?_
          walk_at "pud"
          exact fin
        · walk_at "pud"
          exact fin
theorem run__law_tied_budget (A : Ads) (x : List Int × Int × List Int) (hp : (S__law_tied_budget A).pre x) : p__law_tied_budget A (endZ (S__law_tied_budget A) x) (startD ["script", "at", "truth", "last", "width"] ((S__law_tied_budget A).args x)) := by
  obtain ⟨ns, p, hs⟩ := x
  obtain ⟨ce, h2, h25⟩ := hp
  have ce : CellOk ns p := ce
  have h2 : 2 ≤ hs.length := h2
  have h25 : hs.length ≤ 25 := h25
  have hl : (hs.map D.int).length = hs.length := List.length_map ..
  show p__law_tied_budget A _ [some (.ro (.scr ns)), some (.ro (.int p)), some (.ro (.lst (hs.map D.int))), none, none]
  have i1 := atI_ints (ns := hs) (x := (hs.length : Int) - 1) (by omega) (by omega)
  unfold p__law_tied_budget
  walk_at "pud"
  rw [hl]
  have one : ∀ {J : KX} {Z : EndsD}, (∀ r, (S__law_tied_budget A).post (ns, p, hs) (.ok r) → Z.rt r) → pRet (pTup (pCons (pVar 4) (pCons (pOp dFdiv (pOp dSub (pIx (pVarB 2) (pVar 3)) (pC (.int 1))) (pOp dFdiv (pVar 3) (pVar 4))) pNil))) Z [some (.ro (.scr ns)), some (.ro (.int p)), some (.ro (.lst (hs.map D.int))), some (.ro (.int ((hs.length : Int) - 1))), some (.ro (.int 1))] := fun {J Z} hz => by
    walk_at "pud"
    have q : ((hs.length : Int) - 1) / 1 = (hs.length : Int) - 1 := by omega
    rw [q]
    walk_at "pud"
    exact hz _ ⟨1, _, by omega, by show 1 ≤ hs.length - 1; omega, rfl⟩
  refine l_dec (fun hk => ?_) fun hk => ?_
  · walk_at "pud"
    refine k_draw ce (by omega) (by omega) fun v2 a2 b2 => ?_
    walk_at "pud"
    refine l_dec (fun hv => ?_) fun hv => ?_
    · walk_at "pud"
      have q1 : 1 ≤ ((hs.length : Int) - 1) / 2 := by omega
      have q2 : ((hs.length : Int) - 1) / 2 ≤ 24 := by omega
      obtain ⟨c, ec⟩ := nat_of (show 0 ≤ ((hs.length : Int) - 1) / 2 by omega)
      rw [ec]
      walk_at "pud"
      have q3 : 0 < ((hs.length : Int) - 1) / (c : Int) := Int.ediv_pos_of_pos_of_dvd (by omega) (by omega) ⟨2, by omega⟩
      have q4 : ((hs.length : Int) - 1) / (c : Int) ≤ (hs.length : Int) - 1 := Int.ediv_le_self _ (by omega)
      walk_at "pud"
      refine ⟨c, _, by omega, by show c ≤ hs.length - 1; omega, rfl⟩
    · refine l_next ?_
      exact one (J := fun _ => True) fun r hr => hr
  · refine l_next ?_
    exact one (J := fun _ => True) fun r hr => hr
theorem run__law_over (A : Ads) (x : Nat × Nat × Int × List Int) (hp : (S__law_over A).pre x) : p__law_over A (endZ (S__law_over A) x) (startD ["row", "width", "most", "t"] ((S__law_over A).args x)) := by
  obtain ⟨T, w, most, hs⟩ := x
  obtain ⟨h1, h2, h3, h4⟩ := hp
  have h1 : hs.length = T + 1 := h1
  have h2 : 1 ≤ w := h2
  have h3 : w ≤ T := h3
  have h4 : T ≤ 1000 := h4
  have hl : (hs.map D.int).length = hs.length := List.length_map ..
  show p__law_over A _ [some (.ro (.lst (hs.map D.int))), some (.ro (.int w)), some (.ro (.int most)), none]
  unfold p__law_over
  walk_at "pud"
  rw [hl, h1]
  have en : (((T + 1 : Nat) : Int) - w).toNat = T + 1 - w := by omega
  rw [en]
  refine l_lcI (by rw [rngD_len]; omega) rfl (by show 3 < 4; decide) (fun n acc => (0 < acc.length ↔ ∃ k, k < n ∧ most < hD hs (k + w) - hD hs k)) ⟨fun h => absurd h (Nat.lt_irrefl _), fun ⟨k, h, _⟩ => absurd h (Nat.not_lt_zero _)⟩ (fun n d acc ρ2 hn ha hs' => ?_) fun acc ha => ?_
  · have hn1 : n < T + 1 - w := by
      have := (List.getElem?_eq_some_iff.mp hn).1
      rwa [rngD_len] at this
    rw [rngD_get hn1] at hn
    cases hn
    cases hs'.eq
    have i1 := atI_ints (ns := hs) (x := (w : Int) + n) (by omega) (by omega)
    have i2 := atI_ints (ns := hs) (x := (w : Int) + n - w) (by omega) (by omega)
    have e1 : ((w : Int) + n).toNat = n + w := by omega
    have e2 : ((w : Int) + n - w).toNat = n := by omega
    rw [e1] at i1
    rw [e2] at i2
    walk_at "pud"
    refine l_dec (fun hc => ?_) fun hc => ?_
    · walk_at "pud"
      refine ⟨fun _ => ⟨n, Nat.lt_succ_self n, hc⟩, fun _ => ?_⟩
      rw [List.length_append]
      exact Nat.succ_pos _
    · refine ⟨fun h => ?_, fun ⟨k, hk, hm⟩ => ha.mpr ⟨k, ?_, hm⟩⟩
      · obtain ⟨k, hk, hm⟩ := ha.mp h
        exact ⟨k, by omega, hm⟩
      · by_cases e : k = n
        · rw [e] at hm
          exact absurd hm hc
        · omega
  · rw [rngD_len] at ha
    walk_at "pud"
    show _ = _
    unfold okR
    congr 3
    rw [decide_eq_decide]
    constructor
    · intro h
      obtain ⟨k, hk, hm⟩ := ha.mp (by omega)
      exact ⟨k, by show k + w ≤ T; omega, hm⟩
    · rintro ⟨k, hk, hm⟩
      have hk : k + w ≤ T := hk
      have := ha.mpr ⟨k, by omega, hm⟩
      omega
theorem run__law_limits (A : Ads) (x : Nat × Nat × Nat × Int) (hp : (S__law_limits A).pre x) : p__law_limits A (endZ (S__law_limits A) x) (startD ["shift", "last", "width", "most", "t"] ((S__law_limits A).args x)) := by
  obtain ⟨sh, T, w, most⟩ := x
  obtain ⟨h1, h2⟩ := hp
  have h1 : T ≤ 1000 := h1
  have h2 : w ≤ T := h2
  show p__law_limits A _ [some (.ro (.int sh)), some (.ro (.int T)), some (.ro (.int w)), some (.ro (.int most)), none]
  unfold p__law_limits
  walk_at "pud"
  have en : ((T : Int) + 1 - w).toNat = T + 1 - w := by omega
  rw [en]
  refine l_lcMap (fun k => Fact.d ⟨sh + k, sh + k + w, none, some most⟩) (by rw [rngD_len]; omega) rfl (fun i d ρ2 hi hs => ?_) ?_ (by show 4 < 5; decide)
  · have hi1 : i < T + 1 - w := by
      have := (List.getElem?_eq_some_iff.mp hi).1
      rwa [rngD_len] at this
    rw [rngD_get hi1] at hi
    cases hi
    cases hs.eq
    walk_at "pud"
    have e1 : (sh : Int) + ((w : Int) + i) - w = ((sh + i : Nat) : Int) := by omega
    have e2 : (sh : Int) + ((w : Int) + i) = ((sh + i + w : Nat) : Int) := by omega
    rw [e1, e2]
    rfl
  · walk_at "pud"
    show _ = okO _
    unfold okO limitFs
    rw [rngD_len, List.map_map]
    rfl
theorem run__law_is_run (A : Ads) (x : List Fact × Nat × List Int) (hp : (S__law_is_run A).pre x) : p__law_is_run A (endZ (S__law_is_run A) x) (startD ["told", "due", "last", "rule", "value"] ((S__law_is_run A).args x)) := by
  obtain ⟨fs, T, hs⟩ := x
  obtain ⟨R, ok, full, h4⟩ := hp
  have R : Run fs T hs := R
  have ok : FactsOk (T + 1) fs := ok
  have full : Full fs := full
  have h4 : T ≤ 1000 := h4
  have hlen := R.len
  have hl : (hs.map D.int).length = hs.length := List.length_map ..
  show p__law_is_run A _ [some (.ro (.lst (hs.map D.int))), some (.ro (.lst (fs.map Fact.d))), some (.ro (.int T)), none, none]
  have i0 := atI_ints (ns := hs) (x := 0) (by omega) (by omega)
  have e0 : hD hs (0 : Int).toNat = 0 := R.zero
  rw [e0] at i0
  unfold p__law_is_run
  walk_at "pud"
  refine l_lcI (by rw [hl]; omega) rfl (by show 4 < 5; decide) (fun n acc => acc = []) rfl (fun n d acc ρ2 hn ha hs' => ?_) fun acc ha => ?_
  · obtain ⟨y, hy, rfl⟩ := map_get hn
    cases hs'.eq
    walk_at "pud"
    refine l_kCall (S := S__law_is_number A) y rfl trivial (fun r hr => ?_) (fun e he => by cases he)
    cases hr
    walk_at "pud"
    exact ha
  · subst ha
    walk_at "pud"
    refine l_kFor (fun k ρ => ∃ a, ρ = [some (.ro (.lst (hs.map D.int))), some (.ro (.lst (fs.map Fact.d))), some (.ro (.int T)), a, none]) ⟨_, rfl⟩ ?_ ?_
    · rintro k d ρ hk ⟨a, rfl⟩
      obtain ⟨f, hf, rfl⟩ := map_get hk
      have mf := List.mem_of_getElem? hf
      obtain ⟨o1, o2, _⟩ := ok f mf
      obtain ⟨s1, s2⟩ := full f mf
      obtain ⟨f1, f2⟩ := R.fit f mf
      obtain ⟨fa, fb, lo, hi⟩ := f
      obtain ⟨l, rfl⟩ := Option.isSome_iff_exists.mp s1
      obtain ⟨g, rfl⟩ := Option.isSome_iff_exists.mp s2
      have f1 := f1 l rfl
      have f2 := f2 g rfl
      have o1 : fa < T + 1 := o1
      have o2 : fb < T + 1 := o2
      have f1 : l ≤ hD hs fb - hD hs fa := f1
      have f2 : hD hs fb - hD hs fa ≤ g := f2
      have ia : atI (hs.map D.int) (fa : Int) = some (.int (hD hs fa)) := atI_map (f := D.int) (get_hD (by omega))
      have ib : atI (hs.map D.int) (fb : Int) = some (.int (hD hs fb)) := atI_map (f := D.int) (get_hD (by omega))
      unfold Fact.d
      walk_at "pud"
      exact ⟨_, rfl⟩
    · rintro ρ ⟨a, rfl⟩
      walk_at "pud"
      rfl
theorem run__law_word (A : Ads) (x : Nat × Nat) (hp : (S__law_word A).pre x) : p__law_word A (endZ (S__law_word A) x) (startD ["over", "many"] ((S__law_word A).args x)) := by
  obtain ⟨a, b⟩ := x
  show p__law_word A _ [some (.ro (.int a)), some (.ro (.int b))]
  unfold p__law_word
  walk_at "pud"
  refine l_dec (fun h => ?_) fun h => ?_
  · walk_at "pud"
    show _ = okR (.str (if a = b then "yes" else if a = 0 then "no" else "open"))
    rw [if_pos (by omega)]; rfl
  · walk_at "pud"
    refine l_dec (fun h2 => ?_) fun h2 => ?_
    · walk_at "pud"
      show _ = okR (.str (if a = b then "yes" else if a = 0 then "no" else "open"))
      rw [if_neg (by omega), if_pos (by omega)]; rfl
    · walk_at "pud"
      show _ = okR (.str (if a = b then "yes" else if a = 0 then "no" else "open"))
      rw [if_neg (by omega), if_neg (by omega)]; rfl
theorem relaxed_one {fs : List Fact} {n i : Nat} {f : Fact} {xs xs1 : List Int} {ls ls1 : List (Option St0)} {ch1 : Bool} (ok : FactsOk n fs) (hf : fs[i]? = some f) (hl : xs1.length = n) (e : lowered (allSteps (fs.take i)) (xs.map some) ls = ⟨xs1.map some, ls1, ch1⟩) (h : Bool) {s d : Nat} {c : Int} (hp : partsOf f h = some (s, d, c)) : (stepsAt i f h).foldl lower1 ⟨xs1.map some, ls1, ch1⟩ = if hD xs1 s + c < hD xs1 d then ⟨(xs1.set d (hD xs1 s + c)).map some, ls1.set d (some (i, h)), true⟩ else ⟨xs1.map some, ls1, ch1⟩ := by
  have o := steps_ok (t := ⟨(i, h), s, d, c⟩) ok (mem_allSteps.mpr ⟨f, hf, hp⟩)
  have o1 : s < n := o.1
  have o2 : d < n := o.2.1
  unfold stepsAt
  rw [hp]
  show lower1 _ _ = _
  rw [lower1_some (t := ⟨(i, h), s, d, c⟩) (by show s < _; omega) (by show d < _; omega)]
theorem run__law_relaxed (A : Ads) (x : Nat × List Fact) (hp : (S__law_relaxed A).pre x) : p__law_relaxed A (endZ (S__law_relaxed A) x) (startD ["costs", "rules", "turn", "changed", "rule", "a", "b"] ((S__law_relaxed A).args x)) := by
  obtain ⟨n, fs⟩ := x
  obtain ⟨ok, pos, small, flen⟩ := hp
  have ok : FactsOk n fs := ok
  have pos : 0 < n := pos
  have small : n ≤ 100 := small
  show p__law_relaxed A _ [some (.ro (.lst (List.replicate n (.int 0)))), some (.ro (.lst (fs.map Fact.d))), none, none, none, none, none]
  unfold p__law_relaxed
  walk_at "pud"
  rw [List.length_replicate]
  walk_at "pud"
  refine l_kFor (fun k ρ => ∃ (xs : List Int) (ls : List (Option St0)) (a b c d e : Option S), xs.length = n ∧ BFk fs n (List.replicate n (some 0)) (xs.map some) ls k true ∧ ρ = [some (.own (xs.map D.int)), some (.ro (.lst (fs.map Fact.d))), a, b, c, d, e]) ⟨List.replicate n 0, List.replicate n none, none, none, none, none, none, List.length_replicate, ?_, ?_⟩ ?_ ?_
  · rw [List.map_replicate]
    exact BFk.zero List.length_replicate pos
  · rw [List.map_replicate]
  · rintro k dk ρ hk ⟨xs, ls, a, b, c, e, f, hx, B, rfl⟩
    walk_at "pud"
    refine l_kFor (fun i ρ => ∃ (xs1 : List Int) (ls1 : List (Option St0)) (ch1 : Bool) (c d e : Option S), xs1.length = n ∧ lowered (allSteps (fs.take i)) (xs.map some) ls = ⟨xs1.map some, ls1, ch1⟩ ∧ ρ = [some (.own (xs1.map D.int)), some (.ro (.lst (fs.map Fact.d))), some (.ro dk), some (.ro (.bl ch1)), c, d, e]) ⟨xs, ls, false, _, _, _, hx, rfl, rfl⟩ ?_ ?_
    · rintro i q ρ hi ⟨xs1, ls1, ch1, c, d', e, hl, el, rfl⟩
      obtain ⟨f, hf, rfl⟩ := map_get hi
      obtain ⟨o1, o2, _⟩ := ok f (List.mem_of_getElem? hf)
      rw [lowered_take hf, el]
      have one := relaxed_one ok hf hl el
      have hlm : (xs1.map D.int).length = n := by rw [List.length_map]; exact hl
      obtain ⟨fa, fb, lo, hi'⟩ := f
      have o1 : fa < n := o1
      have o2 : fb < n := o2
      have ed : Fact.d ⟨fa, fb, lo, hi'⟩ = .tup [.int fa, .int fb, oD lo, oD hi'] := rfl
      rw [ed]
      generalize hq : pIf (pAnd (pB (pOp (dIsN true) (pIx (pVarB 4) (pC (.int 2))) (pC .non))) (pB (pOp (dIsN true) (pIx (pVarB 0) (pVar 6)) (pC .non)))) (pIf (pOr (pB (pOp (dIsN false) (pIx (pVarB 0) (pVar 5)) (pC .non))) (pB (pOp dLt (pOp dSub (pIx (pVarB 0) (pVar 6)) (pIx (pVarB 4) (pC (.int 2)))) (pIx (pVarB 0) (pVar 5))))) (pSeq (pSetI 0 (pVar 5) (pOp dSub (pIx (pVarB 0) (pVar 6)) (pIx (pVarB 4) (pC (.int 2))))) (pAsg 3 (pC (.bl true)))) pNext) pNext = q2
      -- the second half
      have low : ∀ {Z : EndsD} {xs2 : List Int} {ls2 : List (Option St0)} {ch2 : Bool} {u : Option S}, xs2.length = n → (∀ {xs3 : List Int} {ls3 : List (Option St0)} {ch3 : Bool}, xs3.length = n → (stepsAt i ⟨fa, fb, lo, hi'⟩ false).foldl lower1 ⟨xs2.map some, ls2, ch2⟩ = ⟨xs3.map some, ls3, ch3⟩ → Z.nx [some (.own (xs3.map D.int)), some (.ro (.lst (fs.map Fact.d))), u, some (.ro (.bl ch3)), some (.ro (.tup [.int fa, .int fb, oD lo, oD hi'])), some (.ro (.int fa)), some (.ro (.int fb))]) →
          q2 Z [some (.own (xs2.map D.int)), some (.ro (.lst (fs.map Fact.d))), u, some (.ro (.bl ch2)), some (.ro (.tup [.int fa, .int fb, oD lo, oD hi'])), some (.ro (.int fa)), some (.ro (.int fb))] := by
        intro Z xs2 ls2 ch2 u h2 H
        subst hq
        have l2 : (xs2.map D.int).length = n := by rw [List.length_map]; exact h2
        have ia : atI (xs2.map D.int) (fa : Int) = some (.int (hD xs2 fa)) := atI_map (f := D.int) (get_hD (by omega))
        have ib : atI (xs2.map D.int) (fb : Int) = some (.int (hD xs2 fb)) := atI_map (f := D.int) (get_hD (by omega))
        have xa : ixN (xs2.map D.int).length (fa : Int) = some fa := ixN_nat (by omega)
        cases lo with
        | none =>
          walk_at "pud"
          exact H h2 rfl
        | some l =>
          have st : (stepsAt i ⟨fa, fb, some l, hi'⟩ false).foldl lower1 ⟨xs2.map some, ls2, ch2⟩ = if hD xs2 fb + -l < hD xs2 fa then ⟨(xs2.set fa (hD xs2 fb + -l)).map some, ls2.set fa (some (i, false)), true⟩ else ⟨xs2.map some, ls2, ch2⟩ := by
            show lower1 _ _ = _
            rw [lower1_some (t := ⟨(i, false), fb, fa, -l⟩) (by show fb < _; omega) (by show fa < _; omega)]
          walk_at "pud"
          refine l_dec (fun hc => ?_) fun hc => ?_
          · walk_at "pud"
            refine l_kSI2 xa (by walk_at "pu set") ?_
            walk_at "pud"
            have := H (xs3 := xs2.set fa (hD xs2 fb - l)) (by rw [List.length_set]; exact h2) (by rw [st, if_pos (by omega)]; rfl)
            rw [List.map_set] at this
            exact this
          · walk_at "pud"
            exact H h2 (by rw [st, if_neg (by omega)])
      have ia : atI (xs1.map D.int) (fa : Int) = some (.int (hD xs1 fa)) := atI_map (f := D.int) (get_hD (by omega))
      have ib : atI (xs1.map D.int) (fb : Int) = some (.int (hD xs1 fb)) := atI_map (f := D.int) (get_hD (by omega))
      have xb : ixN (xs1.map D.int).length (fb : Int) = some fb := ixN_nat (by omega)
      cases hi' with
      | none =>
        walk_at "pud"
        exact low hl fun {xs3 ls3 ch3} h3 e3 => ⟨xs3, ls3, ch3, _, _, _, h3, e3, rfl⟩
      | some g =>
        have st := one true (s := fa) (d := fb) (c := g) rfl
        walk_at "pud"
        refine l_dec (fun hc => ?_) fun hc => ?_
        · walk_at "pud"
          refine l_kSI2 xb (by walk_at "pu set") ?_
          walk_at "pud"
          rw [if_pos hc] at st
          rw [st]
          have e8 : (xs1.set fb (hD xs1 fa + g)).map D.int = (xs1.map D.int).set fb (RV.ro (.int (hD xs1 fa + g))).d := List.map_set
          rw [← e8]
          exact low (by rw [List.length_set]; exact hl) fun {xs3 ls3 ch3} h3 e3 => ⟨xs3, ls3, ch3, _, _, _, h3, e3, rfl⟩
        · walk_at "pud"
          rw [if_neg hc] at st
          rw [st]
          exact low hl fun {xs3 ls3 ch3} h3 e3 => ⟨xs3, ls3, ch3, _, _, _, h3, e3, rfl⟩
    · rintro ρ ⟨xs1, ls1, ch1, c, d', e, hl, el, rfl⟩
      have B' := B.step ok
      rw [List.length_map, List.take_length] at el
      rw [el] at B'
      have B' : BFk fs n (List.replicate n (some 0)) (xs1.map some) ls1 (k + 1) ch1 := B'
      walk_at "pud"
      cases ch1 with
      | false =>
        walk_at "pud"
        exact .inr ⟨⟨_, B'.fits ok⟩, _, rfl⟩
      | true =>
        walk_at "pud"
        exact ⟨xs1, ls1, _, _, _, _, _, hl, B', rfl⟩
  · rintro ρ ⟨xs, ls, a, b, c, d, e, hx, B, rfl⟩
    walk_at "pud"
    have ek : (rngD 0 ((n : Int) + 1).toNat).length = n + 1 := by rw [rngD_len]; omega
    rw [ek] at B
    exact .inl ⟨fun h F => B.not_long ok (Nat.le_succ n) (B.noRing ok F), rfl⟩
theorem if_str {c1 c2 c3 c4 : Prop} [Decidable c1] [Decidable c2] [Decidable c3] [Decidable c4] (h1 : c1 ↔ c3) (h2 : c2 ↔ c4) {a b c : Str} : (if c1 then a else if c2 then b else c) = (if c3 then a else if c4 then b else c) := by
  by_cases z1 : c1
  · rw [if_pos z1, if_pos (h1.mp z1)]
  · rw [if_neg z1, if_neg (fun z => z1 (h1.mpr z))]
    by_cases z2 : c2
    · rw [if_pos z2, if_pos (h2.mp z2)]
    · rw [if_neg z2, if_neg (fun z => z2 (h2.mpr z))]
theorem statesW_snoc (fs : List Fact) (w : Nat) (most : Int) (k : Nat) : ((List.range (k + 1)).map fun k => stW fs most k (k + w)).map D.str = ((List.range k).map fun k => stW fs most k (k + w)).map D.str ++ [D.str (stW fs most k (k + w))] := by
  rw [List.range_succ, List.map_append, List.map_append]; rfl
theorem run__law_listed (A : Ads) (x : ListedIn) (hp : (S__law_listed A).pre x) : p__law_listed A (endZ (S__law_listed A) x) (startD ["rows", "width", "most", "states", "t", "row"] ((S__law_listed A).args x)) := by
  obtain ⟨fs, T, rows, w, most⟩ := x
  obtain ⟨R, ne, h1, h2, h3⟩ := hp
  have R : Rows fs T rows := R
  have ne : rows ≠ [] := ne
  have h1 : 1 ≤ w := h1
  have h2 : w ≤ T := h2
  have h3 : T ≤ 1000 := h3
  have hr := R.len
  obtain ⟨r0, rr, er⟩ : ∃ r s, rows = r :: s := by
    cases rows with
    | nil => exact absurd rfl ne
    | cons r s => exact ⟨r, s, rfl⟩
  have m0 : rows[0]? = some r0 := by rw [er]; rfl
  have l0 := (R.sound r0 (List.mem_of_getElem? m0)).len
  show p__law_listed A _ [some (.ro (.lst (rows.map intsD))), some (.ro (.int w)), some (.ro (.int most)), none, none, none]
  have hl : (rows.map intsD).length = rows.length := List.length_map ..
  have i0 : atI (rows.map intsD) 0 = some (.lst (r0.map D.int)) := atI_map (f := intsD) (n := 0) m0
  unfold p__law_listed
  walk_at "pud"
  have el : (((r0.map D.int).length : Nat) : Int) = (T : Int) + 1 := by rw [List.length_map, l0]; rfl
  rw [el]
  walk_at "pud"
  have en : ((T : Int) + 1 - w).toNat = T + 1 - w := by omega
  rw [en]
  refine l_kFor (fun k ρ => ∃ a, ρ = [some (.ro (.lst (rows.map intsD))), some (.ro (.int w)), some (.ro (.int most)), some (.own (((List.range k).map fun k => stW fs most k (k + w)).map D.str)), a, none]) ⟨none, rfl⟩ ?_ ?_
  · rintro k d ρ hk ⟨a, rfl⟩
    have hk1 : k < T + 1 - w := by
      have := (List.getElem?_eq_some_iff.mp hk).1
      rwa [rngD_len] at this
    rw [rngD_get hk1] at hk
    cases hk
    rw [statesW_snoc]
    have lb : (((List.range k).map fun k => stW fs most k (k + w)).map D.str).length < 1000000 := by
      rw [List.length_map, List.length_map, List.length_range]; omega
    generalize ((List.range k).map fun k => stW fs most k (k + w)).map D.str = bs at lb
    walk_at "pud"
    refine l_lcI (by rw [hl]; omega) rfl (by show 5 < 6; decide) (fun n acc => acc.length = (rows.take n).countP fun r => decide (most < hD r (k + w) - hD r k)) rfl (fun n d acc ρ2 hn ha hs' => ?_) fun acc ha => ?_
    · obtain ⟨r, hr', rfl⟩ := map_get hn
      have lr := (R.sound r (List.mem_of_getElem? hr')).len
      cases hs'.eq
      have i1 := atI_ints (ns := r) (x := (w : Int) + k) (by omega) (by omega)
      have i2 := atI_ints (ns := r) (x := (w : Int) + k - w) (by omega) (by omega)
      have e1 : ((w : Int) + k).toNat = k + w := by omega
      have e2 : ((w : Int) + k - w).toNat = k := by omega
      rw [e1] at i1
      rw [e2] at i2
      unfold intsD
      walk_at "pud"
      refine l_dec (fun hc => ?_) fun hc => ?_
      · walk_at "pud"
        rw [List.length_append, ha, List.take_add_one, hr', List.countP_append]
        show _ + 1 = _ + List.countP _ [r]
        rw [List.countP_cons_of_pos (by exact decide_eq_true hc)]
        rfl
      · show _ = _
        rw [ha, List.take_add_one, hr', List.countP_append]
        show _ = _ + List.countP _ [r]
        rw [List.countP_cons_of_neg (by rw [decide_eq_false hc]; decide)]
        rfl
    · rw [hl, List.take_length] at ha
      walk_at "pud"
      rw [ha, hl]
      refine l_kCall (S := S__law_word A) (rows.countP (fun r => decide (most < hD r (k + w) - hD r k)), rows.length) rfl trivial (fun r hr => ?_) (fun e he => by cases he)
      cases hr
      have wc := word_count R (P := fun h => most < h (k + w) - h k) (fun h c H => by show most < h (k + w) - c - (h k - c); omega) (fun h g e H => by rw [← e (k + w) (by omega), ← e k (by omega)]; exact H) (fun r => decide (most < hD r (k + w) - hD r k)) fun r _ => decide_eq_true_iff
      rw [← stW_eq] at wc
      dsimp only
      rw [wc]
      exact l_kApp (by walk_at "pu set") lb ⟨_, rfl⟩
  · rintro ρ ⟨a, rfl⟩
    rw [rngD_len]
    walk_at "pud"
    refine l_lcI (by rw [hl]; omega) rfl (by show 5 < 6; decide) (fun n acc => acc.length = (rows.take n).countP fun r => @decide (OverP T w most (hD r)) (Classical.propDecidable _)) rfl (fun n d acc ρ2 hn ha hs' => ?_) fun acc ha => ?_
    · obtain ⟨r, hr', rfl⟩ := map_get hn
      have lr := (R.sound r (List.mem_of_getElem? hr')).len
      cases hs'.eq
      walk_at "pud"
      refine l_kCall (S := S__law_over A) (T, w, most, r) rfl ⟨lr, h1, h2, h3⟩ (fun rv hrv => ?_) (fun e he => by cases he)
      cases hrv
      walk_at "pud"
      refine l_bT (fun hc => ?_) fun hc => ?_
      · have hc : @decide (OverP T w most (hD r)) (Classical.propDecidable _) = true := hc
        walk_at "pud"
        rw [List.length_append, ha, List.take_add_one, hr', List.countP_append]
        show _ + 1 = _ + List.countP _ [r]
        rw [List.countP_cons_of_pos (p := fun r => @decide (OverP T w most (hD r)) (Classical.propDecidable _)) hc]
        rfl
      · have hc : @decide (OverP T w most (hD r)) (Classical.propDecidable _) = false := hc
        show _ = _
        rw [ha, List.take_add_one, hr', List.countP_append]
        show _ = _ + List.countP _ [r]
        rw [List.countP_cons_of_neg (by rw [hc]; decide)]
        rfl
    · rw [hl, List.take_length] at ha
      walk_at "pud"
      rw [ha, hl]
      refine l_kCall (S := S__law_word A) (rows.countP (fun r => @decide (OverP T w most (hD r)) (Classical.propDecidable _)), rows.length) rfl trivial (fun r hr => ?_) (fun e he => by cases he)
      cases hr
      have wc := word_count R (P := fun h => OverP T w most h) over_inv over_cg (fun r => @decide (OverP T w most (hD r)) (Classical.propDecidable _)) fun r _ => @decide_eq_true_iff _ (Classical.propDecidable _)
      walk_at "pud"
      show _ = _
      unfold okR ansD wordW strsD statesW
      rw [← wc]
      rfl
theorem netOk_limits {T w : Nat} {most : Int} {fs : List Fact} (net : NetOk (T + 1) fs) (hl : fs.length ≤ 500) (hw : 1 ≤ w) : NetOk (T + 1) (fs ++ limitFs 0 T w most) := by
  refine ⟨factsOk_append net.ok (limit_ok hw), net.pos, net.small, ?_⟩
  rw [List.length_append, limitFs_len]
  have := net.small
  omega
theorem run__law_reckoned (A : Ads) (x : ReckIn) (hp : (S__law_reckoned A).pre x) : p__law_reckoned A (endZ (S__law_reckoned A) x) (startD ["table", "due", "width", "most", "last", "states", "t"] ((S__law_reckoned A).args x)) := by
  obtain ⟨fs, T, D0, w, most⟩ := x
  obtain ⟨H, net, fl, h1, h2⟩ := hp
  have H : Tight (T + 1) fs D0 := H
  have net : NetOk (T + 1) fs := net
  have fl : fs.length ≤ 500 := fl
  have h1 : 1 ≤ w := h1
  have h2 : w ≤ T := h2
  have h3 := net.small
  show p__law_reckoned A _ [some (.ro (.lst (D0.map intsD))), some (.ro (.lst (fs.map Fact.d))), some (.ro (.int w)), some (.ro (.int most)), none, none, none]
  have hl : (((D0.map intsD).length : Nat) : Int) - 1 = (T : Int) := by rw [List.length_map, H.len]; omega
  have cell : ∀ {i j : Nat} {x y : Int}, i < T + 1 → j < T + 1 → x = i → y = j → ∃ ds, atI (D0.map intsD) x = some (.lst ds) ∧ atI ds y = some (.int ((D0.getD i []).getD j 0)) := fun {i j x y} hi hj ex ey => by
    subst ex ey
    have g : D0[i]? = some (D0.getD i []) := by
      rw [List.getD_eq_getElem?_getD, List.getElem?_eq_getElem (by rw [H.len]; exact hi)]; rfl
    have lr := H.row _ (List.mem_of_getElem? g)
    generalize D0.getD i [] = row at g lr
    refine ⟨row.map D.int, atI_map (f := intsD) g, atI_map (f := D.int) (n := j) ?_⟩
    rw [List.getD_eq_getElem?_getD, List.getElem?_eq_getElem (by rw [lr]; exact hj)]; rfl
  unfold p__law_reckoned
  walk_at "pud"
  rw [hl]
  walk_at "pud"
  have en : ((T : Int) + 1 - w).toNat = T + 1 - w := by omega
  rw [en]
  refine l_kFor (fun k ρ => ∃ a, ρ = [some (.ro (.lst (D0.map intsD))), some (.ro (.lst (fs.map Fact.d))), some (.ro (.int w)), some (.ro (.int most)), some (.ro (.int T)), some (.own (((List.range k).map fun k => stW fs most k (k + w)).map D.str)), a]) ⟨none, rfl⟩ ?_ ?_
  · rintro k d ρ hk ⟨a, rfl⟩
    have hk1 : k < T + 1 - w := by
      have := (List.getElem?_eq_some_iff.mp hk).1
      rwa [rngD_len] at this
    rw [rngD_get hk1] at hk
    cases hk
    rw [statesW_snoc, stW_tight H (i := k) (j := k + w) (by omega) (by omega) most]
    have lb : (((List.range k).map fun k => stW fs most k (k + w)).map D.str).length < 1000000 := by
      rw [List.length_map, List.length_map, List.length_range]; omega
    generalize ((List.range k).map fun k => stW fs most k (k + w)).map D.str = bs at lb
    obtain ⟨d1, c1, c2⟩ := cell (i := k + w) (j := k) (x := (w : Int) + k) (y := (w : Int) + k - w) (by omega) (by omega) (by omega) (by omega)
    obtain ⟨d2, c3, c4⟩ := cell (i := k) (j := k + w) (x := (w : Int) + k - w) (y := (w : Int) + k) (by omega) (by omega) (by omega) (by omega)
    walk_at "pud"
    refine l_dec (fun hc => ?_) fun hc => ?_
    · rw [if_pos hc]
      walk_at "pud"
      exact l_kApp (by walk_at "pu set") lb ⟨_, rfl⟩
    · rw [if_neg hc]
      walk_at "pud"
      refine l_dec (fun hc2 => ?_) fun hc2 => ?_
      · rw [if_pos hc2]
        walk_at "pud"
        exact l_kApp (by walk_at "pu set") lb ⟨_, rfl⟩
      · rw [if_neg hc2]
        walk_at "pud"
        exact l_kApp (by walk_at "pu set") lb ⟨_, rfl⟩
  · rintro ρ ⟨a, rfl⟩
    rw [rngD_len]
    walk_at "pud"
    refine l_rep1 (n := T + 1) (by omega) ?_
    walk_at "pud"
    refine l_kCall (S := S__law_limits A) (0, T, w, most) rfl ⟨by show T ≤ 1000; omega, h2⟩ (fun r hr => ?_) (fun e he => by cases he)
    cases hr
    have lf : (fs.map Fact.d).length = fs.length := List.length_map ..
    have ll : ((limitFs 0 T w most).map Fact.d).length = T + 1 - w := by rw [List.length_map, limitFs_len]
    refine l_cat (by show (fs.map Fact.d).length + ((limitFs 0 T w most).map Fact.d).length ≤ 1000000; rw [lf, ll]; omega) ?_
    walk_at "pud"
    refine l_kCall (S := S__law_relaxed A) (T + 1, fs ++ limitFs 0 T w most) ?_ (netOk_limits net fl h1) (fun r hr => ?_) (fun e he => ?_)
    · show _ = [D.lst (List.replicate (T + 1) (.int 0)), .lst ((fs ++ limitFs 0 T w most).map Fact.d)]
      rw [List.map_append]
      rfl
    · have stE : strsD (statesW fs T w most) = .lst (((List.range (T + 1 - w)).map fun k => stW fs most k (k + w)).map D.str) := rfl
      rcases hr with ⟨nf, hr⟩ | ⟨⟨h, F⟩, ds, hr⟩
      · cases hr
        walk_at "pud"
        show _ = okR (ansD fs T w most)
        unfold ansD
        rw [word_yes h2 nf]
        rfl
      · cases hr
        have F : Fits (fs ++ limitFs 0 T w most) h := F
        walk_at "pud"
        rw [en]
        refine l_lcI (by rw [rngD_len]; omega) rfl (by show 6 < 7; decide) (fun n acc => (acc.length = 0 ↔ ∀ k, k < n → (D0.getD k []).getD (k + w) 0 ≤ most)) ⟨fun _ k h => absurd h (Nat.not_lt_zero _), fun _ => rfl⟩ (fun n d acc ρ2 hn ha hs' => ?_) fun acc ha => ?_
        · have hn1 : n < T + 1 - w := by
            have := (List.getElem?_eq_some_iff.mp hn).1
            rwa [rngD_len] at this
          rw [rngD_get hn1] at hn
          cases hn
          cases hs'.eq
          obtain ⟨d2, c3, c4⟩ := cell (i := n) (j := n + w) (x := (w : Int) + n - w) (y := (w : Int) + n) (by omega) (by omega) (by omega) (by omega)
          walk_at "pud"
          refine l_dec (fun hc => ?_) fun hc => ?_
          · walk_at "pud"
            refine ⟨fun h => ?_, fun h => ?_⟩
            · rw [List.length_append] at h
              exact absurd h (Nat.succ_ne_zero _)
            · have := h n (Nat.lt_succ_self n)
              omega
          · refine ⟨fun h k hk => ?_, fun h => ha.mpr fun k hk => h k (by omega)⟩
            by_cases e : k = n
            · rw [e]; omega
            · exact ha.mp h k (by omega)
        · rw [rngD_len] at ha
          walk_at "pud"
          refine l_dec (fun hc => ?_) fun hc => ?_
          · walk_at "pud"
            have all := ha.mp (by omega)
            show _ = okR (ansD fs T w most)
            unfold ansD
            rw [word_no h2 F fun k hk => (tight_max H (i := k) (j := k + w) (by omega) (by omega)).mp (all k (by omega))]
            rfl
          · walk_at "pud"
            have hx : ∃ k, k < T + 1 - w ∧ most < (D0.getD k []).getD (k + w) 0 := by
              apply Classical.byContradiction
              intro z
              have := ha.mpr fun k hk => by
                have z2 : ¬ (most < (D0.getD k []).getD (k + w) 0) := fun q => z ⟨k, hk, q⟩
                omega
              omega
            obtain ⟨k, hk, hm⟩ := hx
            obtain ⟨g, G, eg⟩ := H.at_ k (k + w) (by omega) (by omega)
            show _ = okR (ansD fs T w most)
            unfold ansD
            rw [word_open h2 F G ⟨k, by omega, by omega⟩]
            rfl
    · rcases he with ⟨_, he⟩ | ⟨_, ds, he⟩ <;> cases he
theorem way_len {n : Nat} {fs : List Fact} (ok : FactsOk n fs) {rs : List Stp} (m : ∀ t ∈ rs, t ∈ allSteps fs) (nd : (rs.map (·.s)).Nodup) : rs.length ≤ n := by
  have := nodup_len n _ nd (fun x hx => by
    obtain ⟨t, ht, rfl⟩ := List.mem_map.mp hx
    exact (steps_ok ok (m t ht)).1)
  rwa [List.length_map] at this
open Classical in
theorem k_over {A : Ads} {T w : Nat} {most : Int} {hs : List Int} {b : Bool} (h1 : hs.length = T + 1) (h2 : 1 ≤ w) (h3 : w ≤ T) (h4 : T ≤ 1000) (hb : decide (OverP T w most (hD hs)) = b) {K : KD} {J : KX} (h : K (.ro (.bl b))) : kCall (S__law_over A) K J [.lst (hs.map D.int), .int w, .int most] := by
  refine l_kCall (S := S__law_over A) (T, w, most, hs) rfl ⟨h1, h2, h3, h4⟩ (fun r hr => ?_) (fun e he => by cases he)
  cases hr
  subst hb
  exact h
theorem run__law_shown (A : Ads) (x : ShownIn) (hp : (S__law_shown A).pre x) : p__law_shown A (endZ (S__law_shown A) x) (startD ["told", "word", "due", "last", "width", "most", "k"] ((S__law_shown A).args x)) := by
  obtain ⟨t, fs, T, w, most⟩ := x
  obtain ⟨tok, ok, full, h24, fl, h1, h2⟩ := hp
  have tok : t.Ok fs T w most := tok
  have ok : FactsOk (T + 1) fs := ok
  have full : Full fs := full
  have h24 : T ≤ 24 := h24
  have fl : fs.length ≤ 500 := fl
  have h1 : 1 ≤ w := h1
  have h2 : w ≤ T := h2
  show p__law_shown A _ [some (.ro t.d), some (.ro (.str t.word)), some (.ro (.lst (fs.map Fact.d))), some (.ro (.int T)), some (.ro (.int w)), some (.ro (.int most)), none]
  cases t with
  | yes rs =>
    have L : LowRing (fs ++ limitFs 0 T w most) rs := tok
    have lf : (fs.map Fact.d).length = fs.length := List.length_map ..
    have ll : ((limitFs 0 T w most).map Fact.d).length = T + 1 - w := by rw [List.length_map, limitFs_len]
    have len := way_len (factsOk_append ok (limit_ok (m := most) h1)) L.mem L.nodup
    unfold p__law_shown Told.d Told.word
    walk_at "pud"
    refine l_kCall (S := S__law_limits A) (0, T, w, most) rfl ⟨by show T ≤ 1000; omega, h2⟩ (fun r hr => ?_) (fun e he => by cases he)
    cases hr
    refine l_cat (by show (fs.map Fact.d).length + ((limitFs 0 T w most).map Fact.d).length ≤ 1000000; rw [lf, ll]; omega) ?_
    walk_at "pud"
    refine l_kCall (S := S__law_is_low_ring A) (fs ++ limitFs 0 T w most, rs) ?_ ⟨L, by show rs.length ≤ 1000; omega⟩ (fun r hr => ?_) (fun e he => by cases he)
    · show _ = [D.lst (rs.map Stp.ds), .lst ((fs ++ limitFs 0 T w most).map Fact.d)]
      rw [List.map_append]
      rfl
    · cases hr
      rfl
  | no ws =>
    obtain ⟨lw, hw⟩ := tok
    have lm : (ws.map ringD).length = T + 1 - w := by rw [List.length_map]; exact lw
    have lmi : (((ws.map ringD).length : Nat) : Int) = (T : Int) - w + 1 := by omega
    unfold p__law_shown Told.d Told.word
    walk_at "pud"
    refine l_kFor (fun k ρ => ∃ a, ρ = [some (.ro (.tup [.str "no", .lst (ws.map ringD)])), some (.ro (.str "no")), some (.ro (.lst (fs.map Fact.d))), some (.ro (.int T)), some (.ro (.int w)), some (.ro (.int most)), a]) ⟨_, rfl⟩ ?_ ?_
    · rintro k d ρ hk ⟨a, rfl⟩
      have hk1 : k < T + 1 - w := by
        have := (List.getElem?_eq_some_iff.mp hk).1
        rwa [rngD_len, Int.toNat_natCast, lm] at this
      rw [rngD_get (by rw [Int.toNat_natCast, lm]; exact hk1)] at hk
      cases hk
      rw [Int.zero_add]
      obtain ⟨r, hr⟩ : ∃ r, ws[k]? = some r := ⟨_, List.getElem?_eq_getElem (by omega)⟩
      obtain ⟨W, hc⟩ := hw k r hr
      have ik : atI (ws.map ringD) (k : Int) = some (.lst (r.map Stp.ds)) := atI_map (f := ringD) hr
      have len := way_len ok W.mem W.nodup
      walk_at "pud"
      refine l_kCall (S := S__law_is_way A) ⟨fs, r, k, k + w, most⟩ rfl ⟨W, hc, by show r.length ≤ 1000; omega⟩ (fun rv hrv => ?_) (fun e he => by cases he)
      cases hrv
      walk_at "pud"
      exact ⟨_, rfl⟩
    · rintro ρ ⟨a, rfl⟩
      walk_at "pud"
      rfl
  | opn a b =>
    obtain ⟨Ra, Rb, oa, ob⟩ := tok
    have run : ∀ {hs : List Int} {K : KD} {J : KX}, Run fs T hs → K (.ro (.bl true)) → kCall (S__law_is_run A) K J [.lst (hs.map D.int), .lst (fs.map Fact.d), .int T] := fun {hs K J} R h => by
      refine l_kCall (S := S__law_is_run A) (fs, T, hs) rfl ⟨R, ok, full, by show T ≤ 1000; omega⟩ (fun r hr => ?_) (fun e he => by cases he)
      cases hr
      exact h
    unfold p__law_shown Told.d Told.word
    walk_at "pud"
    refine run Ra ?_
    walk_at "pud"
    refine run Rb ?_
    walk_at "pud"
    refine k_over Ra.len h1 h2 (by omega) (b := true) (@decide_eq_true _ (Classical.propDecidable _) oa) ?_
    walk_at "pud"
    refine k_over Rb.len h1 h2 (by omega) (b := false) (@decide_eq_false _ (Classical.propDecidable _) ob) ?_
    walk_at "pud"
    rfl
/-! ### readings listed -/
def SatF (f : Fact) (h : Nat → Int) : Prop := (∀ l, f.lo = some l → l ≤ h f.b - h f.a) ∧ ∀ g, f.hi = some g → h f.b - h f.a ≤ g
structure RowsAt (lo hi : Int) (fs : List MF) (T k : Nat) (rows : List (List Int)) : Prop where
  len : ∀ r ∈ rows, r.length = k + 1
  zero : ∀ r ∈ rows, hD r 0 = 0
  tick : ∀ r ∈ rows, ∀ i, i < k → lo ≤ hD r (i + 1) - hD r i ∧ hD r (i + 1) - hD r i ≤ hi
  sat : ∀ r ∈ rows, ∀ f ∈ fs, f.fact.b ≤ k → SatF f.fact (hD r)
  all : ∀ h, Fits (rules T lo hi fs) h → h 0 = 0 → (List.range (k + 1)).map h ∈ rows
  num : rows.length ≤ 3 ^ k
theorem hD_snoc_lt {r : List Int} {v : Int} {i : Nat} (h : i < r.length) : hD (r ++ [v]) i = hD r i := by
  unfold hD
  rw [List.getD_eq_getElem?_getD, List.getD_eq_getElem?_getD, List.getElem?_append_left h]
theorem hD_snoc_eq {r : List Int} {v : Int} : hD (r ++ [v]) r.length = v := hD_get (by rw [List.getElem?_append_right (Nat.le_refl _), Nat.sub_self]; rfl)
theorem MF.ok_lt {T : Nat} {f : MF} (h : f.ok T) : f.fact.a < f.fact.b ∧ f.fact.b ≤ T := by
  cases f with
  | rd b v => exact ⟨by show 0 < b; exact h.1, h.2⟩
  | gr a b l g => exact h
theorem cut_due {T : Nat} {lo hi : Int} {fs : List MF} : cutD ((rules T lo hi fs).map Fact.d) (some (T : Int)) none = (fs.map MF.fact).map Fact.d := by
  unfold cutD
  rw [HT.sIx_nat, HT.sIx_none, List.length_map, rules_len, Nat.min_eq_left (Nat.le_add_right _ _)]
  unfold rules
  rw [List.map_append, List.drop_left' (by rw [List.length_map, tickFs_len])]
  exact List.take_of_length_le (by rw [List.length_map, List.length_map]; omega)
theorem rules_fit {T : Nat} {lo hi : Int} {fs : List MF} {h : Nat → Int} : Fits (rules T lo hi fs) h ↔ (∀ i, i < T → lo ≤ h (i + 1) - h i ∧ h (i + 1) - h i ≤ hi) ∧ ∀ f ∈ fs, SatF f.fact h := by
  unfold rules
  rw [fits_append]
  constructor
  · rintro ⟨F, G⟩
    refine ⟨fun i hi' => ?_, fun f hf => G f.fact (List.mem_map.mpr ⟨f, hf, rfl⟩)⟩
    have := F ⟨i, i + 1, some lo, some hi⟩ (tick_mem.mpr ⟨i, hi', rfl⟩)
    exact ⟨this.1 lo rfl, this.2 hi rfl⟩
  · rintro ⟨F, G⟩
    refine ⟨fun f hf => ?_, fun f hf => ?_⟩
    · obtain ⟨t, ht, rfl⟩ := tick_mem.mp hf
      have := F t ht
      exact ⟨fun l hl => by cases hl; exact this.1, fun g hg => by cases hg; exact this.2⟩
    · obtain ⟨g, hg, rfl⟩ := List.mem_map.mp hf
      exact G g hg
theorem satF_cg {f : Fact} {h g : Nat → Int} {n : Nat} (ha : f.a ≤ n) (hb : f.b ≤ n) (e : ∀ i, i ≤ n → h i = g i) (H : SatF f h) : SatF f g := by
  unfold SatF at H ⊢
  rw [← e _ ha, ← e _ hb]
  exact H
/-- the rows at the last point are the readings that fit -/
theorem RowsAt.done {lo hi : Int} {fs : List MF} {T : Nat} {rows : List (List Int)} (hT : T ≤ 5) (ok : ∀ f ∈ fs, f.ok T) (R : RowsAt lo hi fs T T rows) : Rows (rules T lo hi fs) T rows where
  sound := fun r hr => ⟨R.len r hr, R.zero r hr, rules_fit.mpr ⟨R.tick r hr, fun f hf => R.sat r hr f hf (MF.ok_lt (ok f hf)).2⟩⟩
  all := R.all
  len := Nat.le_trans R.num (by
    have : T = 0 ∨ T = 1 ∨ T = 2 ∨ T = 3 ∨ T = 4 ∨ T = 5 := by omega
    rcases this with rfl | rfl | rfl | rfl | rfl | rfl <;> decide)
/-- the rows grown so far: i rows are done, of the next one the steps below j -/
structure Grown (lo hi : Int) (fs : List MF) (T k : Nat) (rows : List (List Int)) (i j : Nat) (gs : List (List Int)) : Prop where
  len : ∀ r ∈ gs, r.length = k + 2
  zero : ∀ r ∈ gs, hD r 0 = 0
  tick : ∀ r ∈ gs, ∀ i, i < k + 1 → lo ≤ hD r (i + 1) - hD r i ∧ hD r (i + 1) - hD r i ≤ hi
  sat : ∀ r ∈ gs, ∀ f ∈ fs, f.fact.b ≤ k + 1 → SatF f.fact (hD r)
  done : ∀ h, Fits (rules T lo hi fs) h → h 0 = 0 → (List.range (k + 1)).map h ∈ rows.take i → (List.range (k + 2)).map h ∈ gs
  some_ : ∀ h, Fits (rules T lo hi fs) h → h 0 = 0 → rows[i]? = some ((List.range (k + 1)).map h) → h (k + 1) - h k < lo + j → (List.range (k + 2)).map h ∈ gs
  num : gs.length ≤ 3 * i + j
theorem Grown.add {lo hi : Int} {fs : List MF} {T k : Nat} {rows : List (List Int)} {i j : Nat} {gs : List (List Int)} (ok : ∀ f ∈ fs, f.ok T) (hkT : k < T) (R : RowsAt lo hi fs T k rows) (G : Grown lo hi fs T k rows i j gs) {r : List Int} (hr : rows[i]? = some r) (hj : lo + (j : Int) ≤ hi) (b : Bool) (hb : b = true ↔ ∀ f ∈ fs, f.fact.b = k + 1 → SatF f.fact (hD (r ++ [hD r k + (lo + j)]))) : Grown lo hi fs T k rows i (j + 1) (if b = true then gs ++ [r ++ [hD r k + (lo + j)]] else gs) := by
  have mr := List.mem_of_getElem? hr
  have lr := R.len r mr
  have top : hD (r ++ [hD r k + (lo + j)]) (k + 1) = hD r k + (lo + j) := by
    have := hD_snoc_eq (r := r) (v := hD r k + (lo + j))
    rwa [lr] at this
  have low : ∀ m, m ≤ k → hD (r ++ [hD r k + (lo + j)]) m = hD r m := fun m hm => hD_snoc_lt (by omega)
  have key : ∀ h, Fits (rules T lo hi fs) h → h 0 = 0 → r = (List.range (k + 1)).map h → h (k + 1) - h k = lo + j → b = true ∧ (List.range (k + 2)).map h = r ++ [hD r k + (lo + j)] := fun h F h0 er ed => by
    have e1 : hD r k = h k := by rw [er]; exact hD_range (by omega)
    have e2 : (List.range (k + 2)).map h = r ++ [hD r k + (lo + j)] := by
      rw [List.range_succ, List.map_append, ← er, e1]
      show r ++ [h (k + 1)] = _
      congr 2
      omega
    refine ⟨hb.mpr fun f hf hfb => ?_, e2⟩
    rw [← e2]
    have fl := MF.ok_lt (ok f hf)
    exact satF_cg (n := k + 1) (by omega) (by omega) (fun m hm => (hD_range (g := h) (by omega)).symm) ((rules_fit.mp F).2 f hf)
  cases b with
  | true =>
    rw [if_pos rfl]
    have hb := hb.mp rfl
    refine ⟨fun q hq => ?_, fun q hq => ?_, fun q hq m hm => ?_, fun q hq f hf hfb => ?_, fun h F h0 hm => List.mem_append_left _ (G.done h F h0 hm), fun h F h0 hm hd => ?_, ?_⟩
    · rcases List.mem_append.mp hq with hq | hq
      · exact G.len q hq
      · have e : q = r ++ [hD r k + (lo + j)] := by simpa using hq
        rw [e, List.length_append, lr]; rfl
    · rcases List.mem_append.mp hq with hq | hq
      · exact G.zero q hq
      · have e : q = r ++ [hD r k + (lo + j)] := by simpa using hq
        rw [e, low 0 (by omega)]
        exact R.zero r mr
    · rcases List.mem_append.mp hq with hq | hq
      · exact G.tick q hq m hm
      · have e : q = r ++ [hD r k + (lo + j)] := by simpa using hq
        rw [e]
        by_cases hmk : m = k
        · subst hmk
          rw [top, low m (Nat.le_refl m)]
          constructor <;> omega
        · rw [low m (by omega), low (m + 1) (by omega)]
          exact R.tick r mr m (by omega)
    · rcases List.mem_append.mp hq with hq | hq
      · exact G.sat q hq f hf hfb
      · have e : q = r ++ [hD r k + (lo + j)] := by simpa using hq
        rw [e]
        by_cases hbk : f.fact.b = k + 1
        · exact hb f hf hbk
        · have fl := MF.ok_lt (ok f hf)
          exact satF_cg (n := k) (by omega) (by omega) (fun m hm => (low m hm).symm) (R.sat r mr f hf (by omega))
    · rw [hr] at hm
      by_cases hlt : h (k + 1) - h k < lo + j
      · exact List.mem_append_left _ (G.some_ h F h0 (by rw [hr]; exact hm) hlt)
      · obtain ⟨_, e2⟩ := key h F h0 (Option.some.inj hm) (by omega)
        rw [e2]
        exact List.mem_append_right _ (by simp)
    · rw [List.length_append, List.length_singleton]
      have := G.num
      omega
  | false =>
    rw [if_neg (by decide)]
    refine ⟨G.len, G.zero, G.tick, G.sat, G.done, fun h F h0 hm hd => ?_, by have := G.num; omega⟩
    rw [hr] at hm
    by_cases hlt : h (k + 1) - h k < lo + j
    · exact G.some_ h F h0 (by rw [hr]; exact hm) hlt
    · obtain ⟨z, _⟩ := key h F h0 (Option.some.inj hm) (by omega)
      cases z
theorem Grown.next {lo hi : Int} {fs : List MF} {T k : Nat} {rows : List (List Int)} {i j : Nat} {gs : List (List Int)} (hkT : k < T) (hw : hi ≤ lo + 2) (G : Grown lo hi fs T k rows i j gs) (hj : lo + (j : Int) = hi + 1) : Grown lo hi fs T k rows (i + 1) 0 gs where
  len := G.len
  zero := G.zero
  tick := G.tick
  sat := G.sat
  done := fun h F h0 hm => by
    rw [List.take_add_one] at hm
    rcases List.mem_append.mp hm with hm | hm
    · exact G.done h F h0 hm
    · have e : rows[i]? = some ((List.range (k + 1)).map h) := by
        cases q : rows[i]? with
        | none => rw [q] at hm; simp at hm
        | some r => rw [q] at hm; congr 1; simpa [eq_comm] using hm
      have := ((rules_fit.mp F).1 k hkT).2
      exact G.some_ h F h0 e (by omega)
  some_ := fun h F h0 _ hd => by
    have := ((rules_fit.mp F).1 k hkT).1
    omega
  num := by have := G.num; omega
theorem Grown.zero_ {lo hi : Int} {fs : List MF} {T k : Nat} {rows : List (List Int)} (hkT : k < T) : Grown lo hi fs T k rows 0 0 [] where
  len := fun r h => absurd h List.not_mem_nil
  zero := fun r h => absurd h List.not_mem_nil
  tick := fun r h => absurd h List.not_mem_nil
  sat := fun r h => absurd h List.not_mem_nil
  done := fun h F h0 hm => by simp at hm
  some_ := fun h F h0 _ hd => by
    have := ((rules_fit.mp F).1 k hkT).1
    omega
  num := by simp
theorem Grown.rowsAt {lo hi : Int} {fs : List MF} {T k : Nat} {rows gs : List (List Int)} (R : RowsAt lo hi fs T k rows) (G : Grown lo hi fs T k rows rows.length 0 gs) : RowsAt lo hi fs T (k + 1) gs where
  len := G.len
  zero := G.zero
  tick := G.tick
  sat := G.sat
  all := fun h F h0 => G.done h F h0 (by rw [List.take_length]; exact R.all h F h0)
  num := by
    have h1 := G.num
    have h2 := R.num
    rw [Nat.pow_succ]
    omega
theorem run__law_readings (A : Ads) (x : RulesIn) (hp : (S__law_readings A).pre x) : p__law_readings A (endZ (S__law_readings A) x) (startD ["length", "bounds", "due", "rows", "t", "asked", "grown", "row", "step", "rule", "longer", "good"] ((S__law_readings A).args x)) := by
  obtain ⟨T, lo, hi, fs⟩ := x
  obtain ⟨⟨t1, t5⟩, fl, hlh, hw, ⟨l0, h6⟩, ok⟩ := hp
  have t1 : 1 ≤ T := t1
  have t5 : T ≤ 5 := t5
  have fl : fs.length ≤ 100 := fl
  have hlh : lo ≤ hi := hlh
  have hw : hi ≤ lo + 2 := hw
  have l0 : 0 ≤ lo := l0
  have h6 : hi ≤ 1000000 := h6
  have ok : ∀ f ∈ fs, f.ok T := ok
  show p__law_readings A _ [some (.ro (.int T)), some (.ro (.tup [.int lo, .int hi])), some (.ro (.lst ((rules T lo hi fs).map Fact.d))), none, none, none, none, none, none, none, none, none]
  unfold p__law_readings
  walk_at "pud"
  have en : ((T : Int) + 1 - 1).toNat = T := by omega
  rw [en]
  refine l_kFor (fun k ρ => ∃ (rows : List (List Int)) (s3 : S) (a4 a5 a6 a7 a8 a9 a10 a11 : Option S), (∀ ds, a5 ≠ some (.own ds)) ∧ (∀ ds, a10 ≠ some (.own ds)) ∧ RowsAt lo hi fs T k rows ∧ (s3 = .ro (.lst (rows.map intsD)) ∨ s3 = .own (rows.map intsD)) ∧ (0 < k → s3 = .own (rows.map intsD)) ∧ ρ = [some (.ro (.int T)), some (.ro (.tup [.int lo, .int hi])), some (.ro (.lst ((rules T lo hi fs).map Fact.d))), some s3, a4, a5, a6, a7, a8, a9, a10, a11]) ⟨[[0]], _, none, none, none, none, none, none, none, none, fun _ z => (by cases z), fun _ z => (by cases z), ?_, .inl rfl, fun h => absurd h (Nat.lt_irrefl _), rfl⟩ ?_ ?_
  · refine ⟨fun r h => ?_, fun r h => ?_, fun r h i hi' => absurd hi' (Nat.not_lt_zero _), fun r h f hf hb => ?_, fun h F h0 => ?_, by decide⟩
    · have e : r = [0] := by simpa using h
      rw [e]; rfl
    · have e : r = [0] := by simpa using h
      rw [e]; rfl
    · have := MF.ok_lt (ok f hf)
      omega
    · show [h 0] ∈ [[(0 : Int)]]
      rw [h0]
      simp
  · rintro k d ρ hk ⟨rows, s3, a4, a5, a6, a7, a8, a9, a10, a11, n5, n10, R, hs3, _, rfl⟩
    have hk1 : k < T := by
      have := (List.getElem?_eq_some_iff.mp hk).1
      rwa [rngD_len] at this
    rw [rngD_get hk1] at hk
    cases hk
    walk_at "pud"
    rw [cut_due]
    have lm : ((fs.map MF.fact).map Fact.d).length = fs.length := by rw [List.length_map, List.length_map]
    refine l_lcI (by rw [lm]; omega) rfl (by show 9 < 12; decide) (fun n acc => acc = (((fs.take n).filter fun f => decide (f.fact.b = k + 1)).map MF.fact).map Fact.d) rfl (fun n d acc ρ2 hn ha hs' => ?_) fun acc ha => ?_
    · obtain ⟨f0, hf0, rfl⟩ := map_get hn
      obtain ⟨f, hf, rfl⟩ := map_get hf0
      cases hs'.eq
      have e1 : (fs.take (n + 1)).filter (fun f => decide (f.fact.b = k + 1)) = (fs.take n).filter (fun f => decide (f.fact.b = k + 1)) ++ (if f.fact.b = k + 1 then [f] else []) := by
        rw [List.take_add_one, hf, List.filter_append]
        show _ ++ List.filter _ [f] = _
        rw [List.filter_cons]
        by_cases hc : f.fact.b = k + 1
        · rw [if_pos hc, if_pos (decide_eq_true hc)]; rfl
        · rw [if_neg hc, if_neg (by rw [decide_eq_false hc]; decide)]; rfl
      rw [e1]
      have ef : f.fact.d = .tup [.int f.fact.a, .int f.fact.b, oD f.fact.lo, oD f.fact.hi] := rfl
      rw [ef]
      walk_at "pud"
      refine l_dec (fun hc => ?_) fun hc => ?_
      · rw [if_pos (by omega)]
        walk_at "pud"
        rw [ha, List.map_append, List.map_append]
        rfl
      · rw [if_neg (by omega), List.append_nil]
        exact ha
    · rw [lm, List.take_length] at ha
      subst ha
      generalize hask : (fs.filter fun f => decide (f.fact.b = k + 1)) = asked
      have inA : ∀ f, f ∈ asked ↔ f ∈ fs ∧ f.fact.b = k + 1 := fun f => by
        rw [← hask, List.mem_filter, decide_eq_true_iff]
      walk_at "pud"
      refine l_kFor (fun i ρ => ∃ (gs : List (List Int)) (a7 a8 a9 a10 a11 : Option S), (∀ ds, a10 ≠ some (.own ds)) ∧ Grown lo hi fs T k rows i 0 gs ∧ ρ = [some (.ro (.int T)), some (.ro (.tup [.int lo, .int hi])), some (.ro (.lst ((rules T lo hi fs).map Fact.d))), some (.ro (.lst (rows.map intsD))), some (.ro (.int (1 + k))), some (.ro (.lst ((asked.map MF.fact).map Fact.d))), some (.own (gs.map intsD)), a7, a8, a9, a10, a11]) ⟨[], _, _, _, _, _, n10, Grown.zero_ hk1, rfl⟩ ?_ ?_
      · rintro i d ρ hi' ⟨gs, a7, a8, a9, a10, a11, n10, G, rfl⟩
        obtain ⟨r, hr, rfl⟩ := map_get hi'
        have lr := R.len r (List.mem_of_getElem? hr)
        have nr := R.num
        have ni := (List.getElem?_eq_some_iff.mp hr).1
        have e3k : (3 : Nat) ^ k ≤ 81 := by
          have : k = 0 ∨ k = 1 ∨ k = 2 ∨ k = 3 ∨ k = 4 := by omega
          rcases this with rfl | rfl | rfl | rfl | rfl <;> decide
        have il : atI (r.map D.int) (-1) = some (.int (hD r (r.length - 1))) := atI_last (f := D.int) (get_hD (by omega))
        have elr : r.length - 1 = k := by omega
        rw [elr] at il
        unfold intsD
        walk_at "pud"
        refine l_kFor (fun j ρ => ∃ (gs : List (List Int)) (a8 a9 a10 a11 : Option S), (∀ ds, a10 ≠ some (.own ds)) ∧ Grown lo hi fs T k rows i j gs ∧ ρ = [some (.ro (.int T)), some (.ro (.tup [.int lo, .int hi])), some (.ro (.lst ((rules T lo hi fs).map Fact.d))), some (.ro (.lst (rows.map intsD))), some (.ro (.int (1 + k))), some (.ro (.lst ((asked.map MF.fact).map Fact.d))), some (.own (gs.map intsD)), some (.ro (.lst (r.map D.int))), a8, a9, a10, a11]) ⟨gs, _, _, _, _, n10, G, rfl⟩ ?_ ?_
        · clear G gs
          rintro j d ρ hj ⟨gs, a8, a9, a10, a11, n10, G, rfl⟩
          have hj1 : j < (hi + 1 - lo).toNat := by
            have := (List.getElem?_eq_some_iff.mp hj).1
            rwa [rngD_len] at this
          rw [rngD_get hj1] at hj
          cases hj
          have lgs := G.num
          walk_at "pud"
          refine l_cat (by show (r.map D.int).length + 1 ≤ 1000000; rw [List.length_map]; omega) ?_
          walk_at "pud"
          have el : r.map D.int ++ [(RV.ro (D.int (hD r k + (lo + j)))).d] = (r ++ [hD r k + (lo + j)]).map D.int := by
            rw [List.map_append]; rfl
          rw [el]
          generalize hlg : r ++ [hD r k + (lo + j)] = lg
          have llg : lg.length = k + 2 := by rw [← hlg, List.length_append, lr]; rfl
          refine l_kFor (fun m ρ => ∃ (b : Bool) (a9 : Option S), (b = true ↔ ∀ f ∈ asked.take m, SatF f.fact (hD lg)) ∧ ρ = [some (.ro (.int T)), some (.ro (.tup [.int lo, .int hi])), some (.ro (.lst ((rules T lo hi fs).map Fact.d))), some (.ro (.lst (rows.map intsD))), some (.ro (.int (1 + k))), some (.ro (.lst ((asked.map MF.fact).map Fact.d))), some (.own (gs.map intsD)), some (.ro (.lst (r.map D.int))), some (.ro (.int (lo + j))), a9, some (.own (lg.map D.int)), some (.ro (.bl b))]) ⟨true, _, ⟨fun _ f hf => by simp at hf, fun _ => rfl⟩, rfl⟩ ?_ ?_
          · rintro m d ρ hm ⟨b, a9, hb, rfl⟩
            obtain ⟨f0, hf0, rfl⟩ := map_get hm
            obtain ⟨f, hf, rfl⟩ := map_get hf0
            have mf := (inA f).mp (List.mem_of_getElem? hf)
            have mo := MF.ok_lt (ok f mf.1)
            obtain ⟨l, g, el, eg⟩ : ∃ l g, f.fact.lo = some l ∧ f.fact.hi = some g := by
              cases f with
              | rd b v => exact ⟨v, v, rfl, rfl⟩
              | gr a b l g => exact ⟨l, g, rfl, rfl⟩
            have ef : f.fact.d = .tup [.int f.fact.a, .int f.fact.b, .int l, .int g] := by
              unfold Fact.d
              rw [el, eg]
              rfl
            have sat : SatF f.fact (hD lg) ↔ l ≤ hD lg (k + 1) - hD lg f.fact.a ∧ hD lg (k + 1) - hD lg f.fact.a ≤ g := by
              unfold SatF
              rw [el, eg, mf.2]
              exact ⟨fun ⟨z1, z2⟩ => ⟨z1 l rfl, z2 g rfl⟩, fun ⟨z1, z2⟩ => ⟨fun l' h' => by cases h'; exact z1, fun g' h' => by cases h'; exact z2⟩⟩
            have it : atI (lg.map D.int) (1 + (k : Int)) = some (.int (hD lg (k + 1))) := by
              have e : (1 + (k : Int)) = ((k + 1 : Nat) : Int) := by omega
              rw [e]
              exact atI_map (f := D.int) (get_hD (by omega))
            have ia : atI (lg.map D.int) (f.fact.a : Int) = some (.int (hD lg f.fact.a)) := atI_map (f := D.int) (get_hD (by omega))
            have hb2 : (∀ q ∈ asked.take (m + 1), SatF q.fact (hD lg)) ↔ (b = true ∧ SatF f.fact (hD lg)) := by
              rw [List.take_add_one, hf, hb]
              constructor
              · intro z
                exact ⟨fun q hq => z q (List.mem_append_left _ hq), z f (List.mem_append_right _ (by simp))⟩
              · rintro ⟨z1, z2⟩ q hq
                rcases List.mem_append.mp hq with hq | hq
                · exact z1 q hq
                · have : q = f := by simpa using hq
                  rw [this]; exact z2
            rw [ef]
            walk_at "pud"
            cases b with
            | false =>
              walk_at "pud"
              exact ⟨false, _, by rw [hb2]; simp, rfl⟩
            | true =>
              walk_at "pud"
              refine l_dec (fun c1 => ?_) fun c1 => ?_
              · walk_at "pud"
                refine l_dec (fun c2 => ?_) fun c2 => ?_
                · walk_at "pud"
                  exact ⟨true, _, by rw [hb2, sat]; exact ⟨fun _ => ⟨rfl, c1, c2⟩, fun _ => rfl⟩, rfl⟩
                · walk_at "pud"
                  exact ⟨false, _, by rw [hb2, sat]; exact ⟨fun z => (by cases z), fun z => absurd z.2.2 c2⟩, rfl⟩
              · walk_at "pud"
                exact ⟨false, _, by rw [hb2, sat]; exact ⟨fun z => (by cases z), fun z => absurd z.2.1 c1⟩, rfl⟩
          · rintro ρ ⟨b, a9, hb, rfl⟩
            have la : ((asked.map MF.fact).map Fact.d).length = asked.length := by rw [List.length_map, List.length_map]
            rw [la, List.take_length] at hb
            have hb3 : b = true ↔ ∀ f ∈ fs, f.fact.b = k + 1 → SatF f.fact (hD (r ++ [hD r k + (lo + j)])) := by
              rw [hlg, hb]
              exact ⟨fun z f h1 h2 => z f ((inA f).mpr ⟨h1, h2⟩), fun z f h1 => z f ((inA f).mp h1).1 ((inA f).mp h1).2⟩
            have G' := G.add ok hk1 R hr (by omega) b hb3
            rw [hlg] at G'
            walk_at "pud"
            cases b with
            | true =>
              rw [if_pos rfl] at G'
              walk_at "pud"
              refine l_kApp (by walk_at "pu set") (by rw [List.length_map]; omega) ⟨gs ++ [lg], some (.ro (.int (lo + j))), a9, some (.ro (.lst (lg.map D.int))), some (.ro (.bl true)), fun _ z => (by cases z), G', ?_⟩
              rw [List.map_append]
              rfl
            | false =>
              rw [if_neg (by decide)] at G'
              walk_at "pud"
              exact ⟨gs, _, _, some (.ro (.lst (lg.map D.int))), _, fun _ z => (by cases z), G', rfl⟩
        · clear G gs
          rintro ρ ⟨gs, a8, a9, a10, a11, n10, G, rfl⟩
          have ej : (rngD lo (hi + 1 - lo).toNat).length = (hi + 1 - lo).toNat := rngD_len _ _
          rw [ej] at G
          exact ⟨gs, _, _, _, _, _, n10, G.next hk1 hw (by omega), rfl⟩
      · rintro ρ ⟨gs, a7, a8, a9, a10, a11, n10, G, rfl⟩
        have lrw : (rows.map intsD).length = rows.length := List.length_map ..
        rw [lrw] at G
        walk_at "pud"
        exact ⟨gs, _, _, _, _, _, _, _, _, _, fun _ z => (by cases z), n10, G.rowsAt R, .inr rfl, fun _ => rfl, rfl⟩
  · rintro ρ ⟨rows, s3, a4, a5, a6, a7, a8, a9, a10, a11, n5, n10, R, hs3, hpos, rfl⟩
    rw [rngD_len] at R hpos
    have := hpos t1
    subst this
    walk_at "pud"
    exact ⟨rows, R.done t5 ok, rfl⟩
theorem l_tY {ρ : Ro} {KB : Bool → Prop} {J : KX} (h : KB true) : tY ρ KB J := h
theorem Mtr.net {m : Mtr} (h : m.Ok) : NetOk (m.T + 1) m.facts ∧ Joined (m.T + 1) m.facts := by
  refine ⟨⟨rules_ok h.fok, Nat.succ_pos _, by have := h.t24; omega, ?_⟩, rules_joined _ _ _ _⟩
  unfold Mtr.facts
  rw [rules_len]
  have := h.t24
  have := h.len
  omega
theorem statesW_snoc' (fs : List Fact) (w : Nat) (most : Int) (k : Nat) : ((List.range (k + 1)).map fun k => stW fs most k (k + w)).map D.str = ((List.range k).map fun k => stW fs most k (k + w)).map D.str ++ [D.str (stW fs most k (k + w))] := by
  rw [List.range_succ, List.map_append, List.map_append]; rfl
theorem tight_cell {n : Nat} {fs : List Fact} {D0 : List (List Int)} (H : Tight n fs D0) {i j : Nat} {x y : Int} (hi : i < n) (hj : j < n) (ex : x = i) (ey : y = j) : ∃ ds, atI (D0.map intsD) x = some (.lst ds) ∧ atI ds y = some (.int ((D0.getD i []).getD j 0)) := by
  subst ex ey
  have g : D0[i]? = some (D0.getD i []) := by
    rw [List.getD_eq_getElem?_getD, List.getElem?_eq_getElem (by rw [H.len]; exact hi)]; rfl
  have lr := H.row _ (List.mem_of_getElem? g)
  generalize D0.getD i [] = row at g lr
  refine ⟨row.map D.int, atI_map (f := intsD) g, atI_map (f := D.int) (n := j) ?_⟩
  rw [List.getD_eq_getElem?_getD, List.getElem?_eq_getElem (by rw [lr]; exact hj)]; rfl
theorem tight_fits {n : Nat} {fs : List Fact} {D0 : List (List Int)} (H : Tight n fs D0) (hn : 0 < n) : ∃ h, Fits fs h := by
  obtain ⟨h, F, _⟩ := H.at_ 0 0 hn hn
  exact ⟨h, F⟩
theorem run_budget_states (A : Ads) (x : Mtr × Int × Int) (hp : (S_budget_states A).pre x) : p_budget_states A (endZ (S_budget_states A) x) (startD ["meter", "width", "most", "costs", "states", "point", "start"] ((S_budget_states A).args x)) := by
  obtain ⟨m, w, most⟩ := x
  have ok : m.Ok := hp
  have t24 := ok.t24
  obtain ⟨net, J⟩ := Mtr.net ok
  show p_budget_states A _ [some (.ro (.ins A.Meter ["ticks", "low", "high", "facts"] [.int m.T, .int m.lo, .int m.hi, .tup (m.fs.map MF.d)])), some (.ro (.int w)), some (.ro (.int most)), none, none, none, none]
  unfold p_budget_states
  walk_at "pud"
  refine l_kCall (S := S_check_width A) (m, w) rfl ok (fun r hr => ?_) (fun e he => ?_)
  · rcases hr with ⟨⟨w1, w2⟩, hr⟩ | ⟨_, hr⟩
    · have w1 : 1 ≤ w := w1
      have w2 : w ≤ m.T := w2
      obtain ⟨v, rfl⟩ : ∃ v : Nat, w = v := ⟨w.toNat, by omega⟩
      cases hr
      walk_at "pud"
      refine l_kCall (S := S_meter_facts A) m rfl ok (fun r hr => ?_) (fun e he => by cases he)
      cases hr
      walk_at "pud"
      refine l_kCall (S := S_least_costs A) (m.T + 1, m.facts) rfl ⟨net, J⟩ (fun r hr => ?_) (fun e he => ?_)
      · rcases hr with ⟨D0, H, hr⟩ | ⟨_, _, hr⟩
        · cases hr
          have H : Tight (m.T + 1) m.facts D0 := H
          unfold tabD
          walk_at "pud"
          have en : ((m.T : Int) + 1 - v).toNat = m.T + 1 - v := by omega
          rw [en]
          refine l_kFor (fun k ρ => ∃ a b, ρ = [some (.ro (.ins A.Meter ["ticks", "low", "high", "facts"] [.int m.T, .int m.lo, .int m.hi, .tup (m.fs.map MF.d)])), some (.ro (.int v)), some (.ro (.int most)), some (.ro (.lst (D0.map intsD))), some (.own (((List.range k).map fun k => stW m.facts most k (k + v)).map D.str)), a, b]) ⟨none, none, rfl⟩ ?_ ?_
          · rintro k d ρ hk ⟨a, b, rfl⟩
            have hk1 : k < m.T + 1 - v := by
              have := (List.getElem?_eq_some_iff.mp hk).1
              rwa [rngD_len] at this
            rw [rngD_get hk1] at hk
            cases hk
            rw [statesW_snoc', stW_tight H (i := k) (j := k + v) (by omega) (by omega) most]
            have lb : (((List.range k).map fun k => stW m.facts most k (k + v)).map D.str).length < 1000000 := by
              rw [List.length_map, List.length_map, List.length_range]; omega
            generalize ((List.range k).map fun k => stW m.facts most k (k + v)).map D.str = bs at lb
            obtain ⟨d1, c1, c2⟩ := tight_cell H (i := k + v) (j := k) (x := (v : Int) + k) (y := (v : Int) + k - v) (by omega) (by omega) (by omega) (by omega)
            obtain ⟨d2, c3, c4⟩ := tight_cell H (i := k) (j := k + v) (x := (v : Int) + k - v) (y := (v : Int) + k) (by omega) (by omega) (by omega) (by omega)
            walk_at "pud"
            refine l_dec (fun hc => ?_) fun hc => ?_
            · rw [if_pos hc]
              walk_at "pud"
              exact l_kApp (by walk_at "pu set") lb ⟨_, _, rfl⟩
            · rw [if_neg hc]
              walk_at "pud"
              refine l_dec (fun hc2 => ?_) fun hc2 => ?_
              · rw [if_pos hc2]
                walk_at "pud"
                exact l_kApp (by walk_at "pu set") lb ⟨_, _, rfl⟩
              · rw [if_neg hc2]
                walk_at "pud"
                exact l_kApp (by walk_at "pu set") lb ⟨_, _, rfl⟩
          · rintro ρ ⟨a, b, rfl⟩
            rw [rngD_len]
            walk_at "pud"
            exact .inr (.inr ⟨⟨w1, w2⟩, tight_fits H (Nat.succ_pos _), rfl⟩)
        · cases hr
      · rcases he with ⟨_, _, he⟩ | ⟨rs, L, he⟩
        · cases he
        · cases he
          exact .inr (.inl ⟨⟨w1, w2⟩, rs, L, rfl⟩)
    · cases hr
  · rcases he with ⟨_, he⟩ | ⟨nw, he⟩
    · cases he
    · cases he
      exact .inl ⟨nw, rfl⟩
theorem run_overspent (A : Ads) (x : Mtr × Int × Int) (hp : (S_overspent A).pre x) : p_overspent A (endZ (S_overspent A) x) (startD ["meter", "width", "most", "points", "facts", "costs", "limits", "point", "word", "found", "start", "over", "end"] ((S_overspent A).args x)) := by
  obtain ⟨m, w, most⟩ := x
  have ok : m.Ok := hp
  have t24 := ok.t24
  obtain ⟨net, J⟩ := Mtr.net ok
  have flen : m.facts.length ≤ 200 := by
    unfold Mtr.facts
    rw [rules_len]
    have := ok.len
    omega
  show p_overspent A _ [some (.ro (.ins A.Meter ["ticks", "low", "high", "facts"] [.int m.T, .int m.lo, .int m.hi, .tup (m.fs.map MF.d)])), some (.ro (.int w)), some (.ro (.int most)), none, none, none, none, none, none, none, none, none, none]
  unfold p_overspent
  walk_at "pud"
  refine l_kCall (S := S_check_width A) (m, w) rfl ok (fun r hr => ?_) (fun e he => ?_)
  · rcases hr with ⟨⟨w1, w2⟩, hr⟩ | ⟨_, hr⟩
    · have w1 : 1 ≤ w := w1
      have w2 : w ≤ m.T := w2
      obtain ⟨v, rfl⟩ : ∃ v : Nat, w = v := ⟨w.toNat, by omega⟩
      cases hr
      have v1 : 1 ≤ v := by omega
      have v2 : v ≤ m.T := by omega
      have lnet := netOk_limits (most := most) net (by omega) v1
      have lf : (m.facts.map Fact.d).length = m.facts.length := List.length_map ..
      have ll : ((limitFs 0 m.T v most).map Fact.d).length = m.T + 1 - v := by rw [List.length_map, limitFs_len]
      walk_at "pud"
      refine l_kCall (S := S_meter_facts A) m rfl ok (fun r hr => ?_) (fun e he => by cases he)
      cases hr
      walk_at "pud"
      refine l_kCall (S := S_least_costs A) (m.T + 1, m.facts) rfl ⟨net, J⟩ (fun r hr => ?_) (fun e he => ?_)
      · rcases hr with ⟨D0, H, hr⟩ | ⟨_, _, hr⟩
        · cases hr
          have H : Tight (m.T + 1) m.facts D0 := H
          obtain ⟨hf, Hf⟩ := tight_fits H (Nat.succ_pos _)
          unfold tabD
          walk_at "pud"
          refine l_kCall (S := S_limit_facts A) (m.T, v, most, 0) rfl ⟨by show m.T ≤ 1000; omega, v2⟩ (fun r hr => ?_) (fun e he => by cases he)
          cases hr
          walk_at "pud"
          refine l_cat (by show (m.facts.map Fact.d).length + ((limitFs 0 m.T v most).map Fact.d).length ≤ 1000000; rw [lf, ll]; omega) ?_
          walk_at "pud"
          refine l_kCall (S := S_heights_or_ring A) (m.T + 1, m.facts ++ limitFs 0 m.T v most) ?_ lnet (fun r hr => ?_) (fun e he => ?_)
          · show _ = [D.int ((m.T + 1 : Nat) : Int), .lst ((m.facts ++ limitFs 0 m.T v most).map Fact.d)]
            rw [List.map_append]
            rfl
          · have done : ∀ t : Told, t.Ok m.facts m.T v most → t.word = wordW m.facts m.T v most → (S_overspent A).post (m, v, most) (.ok (.ro t.d)) := fun t h1 h2 => .inr (.inr ⟨⟨w1, w2⟩, ⟨hf, Hf⟩, t, h1, h2, rfl⟩)
            rcases hr with ⟨hs, hl, h0, F, hr⟩ | ⟨rs, L, hr⟩
            · cases hr
              have hl : hs.length = m.T + 1 := hl
              have F : Fits (m.facts ++ limitFs 0 m.T v most) (hD hs) := F
              obtain ⟨F1, F2⟩ := fits_append.mp F
              have nov := (fits_limit (hD hs) v2).mp F2
              unfold intsD
              walk_at "pud"
              have en : ((m.T : Int) + 1 - v).toNat = m.T + 1 - v := by omega
              rw [en]
              refine l_kFor (fun k ρ => ∃ a b, (∀ j, j < k → (D0.getD j []).getD (j + v) 0 ≤ most) ∧ ρ = [some (.ro (.ins A.Meter ["ticks", "low", "high", "facts"] [.int m.T, .int m.lo, .int m.hi, .tup (m.fs.map MF.d)])), some (.ro (.int v)), some (.ro (.int most)), some (.ro (.int (m.T + 1))), some (.ro (.lst (m.facts.map Fact.d))), some (.ro (.lst (D0.map intsD))), some (.ro (.lst ((limitFs 0 m.T v most).map Fact.d))), a, some (.ro (.str "heights")), some (.ro (.lst (hs.map D.int))), b, none, none]) ⟨none, none, fun j h => absurd h (Nat.not_lt_zero _), rfl⟩ ?_ ?_
              · rintro k d ρ hk ⟨a, b, al, rfl⟩
                have hk1 : k < m.T + 1 - v := by
                  have := (List.getElem?_eq_some_iff.mp hk).1
                  rwa [rngD_len] at this
                rw [rngD_get hk1] at hk
                cases hk
                obtain ⟨d2, c3, c4⟩ := tight_cell H (i := k) (j := k + v) (x := (v : Int) + k - v) (y := (v : Int) + k) (by omega) (by omega) (by omega) (by omega)
                have ek : (v : Int) + k - v = (k : Int) := by omega
                have ekv : (v : Int) + k = ((k + v : Nat) : Int) := by omega
                walk_at "pud"
                refine l_dec (fun hc => ?_) fun hc => ?_
                · -- overspent there in some readings
                  obtain ⟨g, G, eg⟩ := H.at_ k (k + v) (by omega) (by omega)
                  have G2 : Fits (m.facts ++ [⟨k, k + v, some (most + 1), none⟩]) g := fits_append.mpr ⟨G, fun f hf => by
                    have e : f = ⟨k, k + v, some (most + 1), none⟩ := by simpa using hf
                    rw [e]
                    refine ⟨fun l hl => ?_, fun u hu => (by cases hu)⟩
                    cases hl
                    show most + 1 ≤ g (k + v) - g k
                    omega⟩
                  have net2 : NetOk (m.T + 1) (m.facts ++ [⟨k, k + v, some (most + 1), none⟩]) := ⟨factsOk_append net.ok fun f hf => by
                    have e : f = ⟨k, k + v, some (most + 1), none⟩ := by simpa using hf
                    rw [e]
                    exact ⟨by show k < m.T + 1; omega, by show k + v < m.T + 1; omega, by show k ≠ k + v; omega⟩, net.pos, net.small, by rw [List.length_append, List.length_singleton]; omega⟩
                  walk_at "pud"
                  refine l_cat (by show (m.facts.map Fact.d).length + 1 ≤ 1000000; rw [lf]; omega) ?_
                  walk_at "pud"
                  refine l_kCall (S := S_heights_or_ring A) (m.T + 1, m.facts ++ [(⟨k, k + v, some (most + 1), none⟩ : Fact)]) ?_ net2 (fun r hr => ?_) (fun e he => ?_)
                  · show _ = [D.int ((m.T + 1 : Nat) : Int), .lst ((m.facts ++ [(⟨k, k + v, some (most + 1), none⟩ : Fact)]).map Fact.d)]
                    rw [List.map_append, ek, ekv]
                    rfl
                  · rcases hr with ⟨gs, gl, g0, GF, hr⟩ | ⟨rs, L, hr⟩
                    · cases hr
                      have GF : Fits (m.facts ++ [⟨k, k + v, some (most + 1), none⟩]) (hD gs) := GF
                      obtain ⟨GF1, GF2⟩ := fits_append.mp GF
                      have ov : most + 1 ≤ hD gs (k + v) - hD gs k := (GF2 ⟨k, k + v, some (most + 1), none⟩ (by simp)).1 (most + 1) rfl
                      have ovp : OverP m.T v most (hD gs) := ⟨k, by omega, by omega⟩
                      unfold intsD
                      walk_at "pud"
                      exact done (.opn gs hs) ⟨⟨gl, g0, GF1⟩, ⟨hl, h0, F1⟩, ovp, nov⟩ (word_open v2 F GF1 ovp).symm
                    · exact absurd G2 (L.not_fits g)
                  · rcases he with ⟨_, _, _, _, he⟩ | ⟨_, _, he⟩ <;> cases he
                · walk_at "pud"
                  refine ⟨_, _, fun j hj => ?_, rfl⟩
                  by_cases e : j = k
                  · rw [e]; omega
                  · exact al j (by omega)
              · rintro ρ ⟨a, b, al, rfl⟩
                rw [rngD_len] at al
                walk_at "pud"
                rw [en]
                refine l_lcI (by rw [rngD_len]; omega) rfl (by show 12 < 13; decide) (fun n acc => ∃ ws : List (List Stp), ws.length = n ∧ acc = ws.map ringD ∧ ∀ k r, ws[k]? = some r → Way m.facts k (k + v) r ∧ csum r ≤ most) ⟨[], rfl, rfl, fun k r h => by simp at h⟩ (fun n d acc ρ2 hn ha hs' => ?_) fun acc ha => ?_
                · have hn1 : n < m.T + 1 - v := by
                    have := (List.getElem?_eq_some_iff.mp hn).1
                    rwa [rngD_len] at this
                  rw [rngD_get hn1] at hn
                  cases hn
                  cases hs'.eq
                  obtain ⟨ws, wl, rfl, wok⟩ := ha
                  have ek : (v : Int) + n - v = (n : Int) := by omega
                  have ekv : (v : Int) + n = ((n + v : Nat) : Int) := by omega
                  refine l_tY ?_
                  walk_at "pud"
                  rw [ek, ekv]
                  refine l_kCall (S := S_cheapest_way A) (m.T + 1, m.facts, n, n + v) rfl ⟨net, J, by show n < m.T + 1; omega, by show n + v < m.T + 1; omega, by show n ≠ n + v; omega, hf, Hf⟩ (fun r hr => ?_) (fun e he => ?_)
                  · obtain ⟨rs, g, W, G, hc, hr⟩ := hr
                    cases hr
                    have W : Way m.facts n (n + v) rs := W
                    have hc : csum rs ≤ g (n + v) - g n := hc
                    have ub := H.ub n (n + v) (by omega) (by omega) g G
                    have le := al n hn1
                    refine ⟨ws ++ [rs], by rw [List.length_append, wl]; rfl, by rw [List.map_append]; rfl, fun k r hk => ?_⟩
                    by_cases hkl : k < ws.length
                    · rw [List.getElem?_append_left hkl] at hk
                      exact wok k r hk
                    · rw [List.getElem?_append_right (by omega)] at hk
                      have e0 : k - ws.length = 0 := by
                        have := (List.getElem?_eq_some_iff.mp hk).1
                        rw [List.length_singleton] at this
                        omega
                      rw [e0] at hk
                      cases hk
                      have ekn : k = n := by omega
                      rw [ekn]
                      exact ⟨W, by omega⟩
                  · obtain ⟨_, _, _, _, _, he⟩ := he
                    cases he
                · rw [rngD_len] at ha
                  obtain ⟨ws, wl, rfl, wok⟩ := ha
                  walk_at "pud"
                  exact done (.no ws) ⟨wl, wok⟩ (word_no v2 F fun k hk => (tight_max H (i := k) (j := k + v) (by omega) (by omega)).mp (al k (by omega))).symm
            · cases hr
              walk_at "pud"
              exact done (.yes rs) L (word_yes v2 L.not_fits).symm
          · rcases he with ⟨_, _, _, _, he⟩ | ⟨_, _, he⟩ <;> cases he
        · cases hr
      · rcases he with ⟨_, _, he⟩ | ⟨rs, L, he⟩
        · cases he
        · cases he
          exact .inr (.inl ⟨⟨w1, w2⟩, rs, L, rfl⟩)
    · cases hr
  · rcases he with ⟨_, he⟩ | ⟨nw, he⟩
    · cases he
    · cases he
      exact .inl ⟨nw, rfl⟩
theorem plains_ints (n : Nat) : ∀ ns : List Int, plains n (ns.map D.int) = true
  | [] => by simp [plains]
  | x :: r => by
    have h := plains_ints n r
    rw [List.map_cons]
    simp only [plains, Bool.and_eq_true]
    exact ⟨by simp [plain], h⟩
theorem plains_rows (n : Nat) : ∀ rows : List (List Int), plains (n + 1) (rows.map intsD) = true
  | [] => by simp [plains]
  | x :: r => by
    have h := plains_rows n r
    have k := plains_ints n x
    rw [List.map_cons]
    simp only [plains, Bool.and_eq_true]
    refine ⟨?_, h⟩
    unfold intsD
    simp only [plain]
    exact k
theorem rows_empty {fs : List Fact} {T : Nat} {rows : List (List Int)} (R : Rows fs T rows) (e : rows = []) (h : Nat → Int) : ¬ Fits fs h := fun F => by
  have m := R.all (fun i => h i - h 0) (fits_shift F (h 0)) (by show h 0 - h 0 = 0; omega)
  rw [e] at m
  cases m
theorem k_word {bs : List (Nat × Int)} {k : Nat} {b : Nat × Int} {f : Nat × Int → D} (h : bs[k]? = some b) : f b = (bs.map f).getD k .non := by
  rw [List.getD_eq_getElem?_getD, List.getElem?_map, h]; rfl
theorem range_map {bs : List (Nat × Int)} {f : Nat × Int → D} {n : Nat} (hn : n = bs.length) : (List.range n).map (fun k => (bs.map f).getD k .non) = bs.map f := by
  subst hn
  apply List.ext_getElem?
  intro k
  by_cases hk : k < bs.length
  · rw [List.getElem?_map, List.getElem?_range hk]
    show some ((bs.map f).getD k .non) = _
    rw [List.getD_eq_getElem?_getD, List.getElem?_map, List.getElem?_eq_getElem hk]
    rfl
  · rw [List.getElem?_eq_none (by rw [List.length_map, List.length_range]; omega), List.getElem?_eq_none (by rw [List.length_map]; omega)]
theorem run__law_answers (A : Ads) (x : AnsIn) (hp : (S__law_answers A).pre x) : p__law_answers A (endZ (S__law_answers A) x) (startD ["last", "bounds", "due", "budgets", "large", "table", "rows", "budget"] ((S__law_answers A).args x)) := by
  obtain ⟨T, lo, hi, fs, bs, large⟩ := x
  have ok : AnsIn.Ok ⟨T, lo, hi, fs, bs, large⟩ := hp
  obtain ⟨t1, t24, t5, lo0, le, hi6, fok, len, bok, bl⟩ := ok
  have t1 : 1 ≤ T := t1
  have t24 : T ≤ 24 := t24
  have lo0 : 0 ≤ lo := lo0
  have le : lo ≤ hi := le
  have hi6 : hi ≤ 1000000 := hi6
  have fok : ∀ f ∈ fs, f.ok T := fok
  have len : fs.length ≤ 100 := len
  have bok : ∀ b ∈ bs, 1 ≤ b.1 ∧ b.1 ≤ T := bok
  have bl : bs.length ≤ 2 := bl
  have fl : (rules T lo hi fs).length ≤ 200 := by rw [rules_len]; omega
  have net : NetOk (T + 1) (rules T lo hi fs) := ⟨rules_ok fok, Nat.succ_pos _, by omega, by omega⟩
  have lb : (bs.map budD).length = bs.length := List.length_map ..
  show p__law_answers A _ [some (.ro (.int T)), some (.ro (.tup [.int lo, .int hi])), some (.ro (.lst ((rules T lo hi fs).map Fact.d))), some (.ro (.lst (bs.map budD))), some (.ro (.bl large)), none, none, none]
  unfold p__law_answers
  cases large with
  | false =>
    obtain ⟨t5, h2⟩ := t5 rfl
    have t5 : T ≤ 5 := t5
    have h2 : hi ≤ lo + 2 := h2
    walk_at "pud"
    refine l_kCall (S := S__law_readings A) ⟨T, lo, hi, fs⟩ rfl ⟨⟨t1, t5⟩, len, le, h2, ⟨lo0, hi6⟩, fok⟩ (fun r hr => ?_) (fun e he => by obtain ⟨_, _, he⟩ := he; cases he)
    obtain ⟨rows, R, hr⟩ := hr
    cases hr
    have R : Rows (rules T lo hi fs) T rows := R
    unfold rowsD
    walk_at "pud"
    refine l_eqN (plains_rows 19 rows) ?_
    cases rows with
    | nil =>
      have ef : (([] : List (List Int)).map intsD).isEmpty = true := rfl
      rw [ef]
      walk_at "pud"
      exact .inl ⟨rows_empty R rfl, rfl⟩
    | cons r0 rr =>
      have ef : ((r0 :: rr).map intsD).isEmpty = false := rfl
      rw [ef]
      have hF := (R.sound r0 List.mem_cons_self).fit
      walk_at "pud"
      refine l_lcMap (fun k => (bs.map fun b => ansD (rules T lo hi fs) T b.1 b.2).getD k .non) (by omega) rfl (fun i d ρ2 hi' hs => ?_) ?_ (by show 7 < 8; decide)
      · obtain ⟨b, hb, rfl⟩ := map_get hi'
        obtain ⟨b1, b2⟩ := bok b (List.mem_of_getElem? hb)
        cases hs.eq
        unfold budD
        walk_at "pud"
        refine l_kCall (S := S__law_listed A) ⟨rules T lo hi fs, T, r0 :: rr, b.1, b.2⟩ rfl ⟨R, by simp, b1, b2, by show T ≤ 1000; omega⟩ (fun r hr => ?_) (fun e he => by cases he)
        cases hr
        exact k_word (f := fun b => ansD (rules T lo hi fs) T b.1 b.2) hb
      · walk_at "pud"
        refine .inr ⟨⟨_, hF⟩, ?_⟩
        rw [range_map lb]
        rfl
  | true =>
    walk_at "pud"
    refine l_rep1 (n := T + 1) (by omega) ?_
    walk_at "pud"
    refine l_kCall (S := S__law_relaxed A) (T + 1, rules T lo hi fs) rfl net (fun r hr => ?_) (fun e he => ?_)
    · rcases hr with ⟨nf, hr⟩ | ⟨⟨h, F⟩, ds, hr⟩
      · cases hr
        walk_at "pud"
        exact .inl ⟨nf, rfl⟩
      · cases hr
        have F : Fits (rules T lo hi fs) h := F
        walk_at "pud"
        refine l_kCall (S := S__law_table A) ⟨T, lo, hi, fs⟩ rfl ⟨⟨t1, t24⟩, len, ⟨lo0, le, hi6⟩, fok, h, F⟩ (fun r hr => ?_) (fun e he => by obtain ⟨_, _, he⟩ := he; cases he)
        obtain ⟨D0, H, hr⟩ := hr
        cases hr
        have H : Tight (T + 1) (rules T lo hi fs) D0 := H
        unfold tabD
        walk_at "pud"
        refine l_lcMap (fun k => (bs.map fun b => ansD (rules T lo hi fs) T b.1 b.2).getD k .non) (by omega) rfl (fun i d ρ2 hi' hs => ?_) ?_ (by show 7 < 8; decide)
        · obtain ⟨b, hb, rfl⟩ := map_get hi'
          obtain ⟨b1, b2⟩ := bok b (List.mem_of_getElem? hb)
          cases hs.eq
          unfold budD
          walk_at "pud"
          refine l_kCall (S := S__law_reckoned A) ⟨rules T lo hi fs, T, D0, b.1, b.2⟩ rfl ⟨H, net, by show (rules T lo hi fs).length ≤ 500; omega, b1, b2⟩ (fun r hr => ?_) (fun e he => by cases he)
          cases hr
          exact k_word (f := fun b => ansD (rules T lo hi fs) T b.1 b.2) hb
        · walk_at "pud"
          refine .inr ⟨⟨h, F⟩, ?_⟩
          rw [range_map lb]
          rfl
    · rcases he with ⟨_, he⟩ | ⟨_, ds, he⟩ <;> cases he
theorem tD_len (T : Tab) : (tD T).length = T.length := by unfold tD; rw [List.length_map]
theorem Sq.rowD {n : Nat} {T : Tab} (S : Sq n T) {i : Nat} (h : i < n) : (tD T)[i]? = some ((T.getD i []).map oD) := by
  unfold tD
  rw [List.getElem?_map, (S.at h).1]; rfl
theorem Sq.cellD {n : Nat} {T : Tab} (S : Sq n T) {i j : Nat} (h : i < n) (k : j < n) : atI ((T.getD i []).map oD) (j : Int) = some (oD (cell T i j)) := by
  refine atI_map (f := oD) ?_
  unfold cell
  rw [List.getD_eq_getElem?_getD (l := T.getD i []), List.getElem?_eq_getElem (by rw [(S.at h).2]; exact k)]; rfl
theorem tD_set {n : Nat} {T : Tab} (S : Sq n T) {i : Nat} (h : i < n) (j : Nat) (v : Option Int) : tD (setC T i j v) = (tD T).set i (((T.getD i []).map oD).set j (oD v)) := by
  unfold tD setC
  rw [List.map_set, List.map_set]
theorem adr_tab {qs : List Addr} {n i : Nat} (hq : qs.length = n) (h : i < n) : ∃ q, qs[i]? = some q ∧ atI (qs.map D.adr) (i : Int) = some (.adr q) := by
  have g := List.getElem?_eq_getElem (l := qs) (i := i) (by omega)
  exact ⟨_, g, atI_map (f := D.adr) g⟩
theorem run_keep_lower (A : Ads) (x : Nat × Tab × Nat × Nat × Int) (q : Addr) (qs : List Addr) (hp : (S_keep_lower A).pre x) (hl : qs.length = ((S_keep_lower A).rows x).length) : p_keep_lower A { nx := fun ρ => ∃ rows', ρ[0]? = some (some (.tab q qs rows')) ∧ (S_keep_lower A).post x rows', rt := fun _ => False, ex := fun _ => False } (startT ["costs", "start", "end", "cost", "stored"] q qs ((S_keep_lower A).rows x) ((S_keep_lower A).args x)) := by
  obtain ⟨n, T, a, b, c⟩ := x
  obtain ⟨S, ha, hb⟩ := hp
  have S : Sq n T := S
  have ha : a < n := ha
  have hb : b < n := hb
  have hl : qs.length = n := by
    have : qs.length = (tD T).length := hl
    rw [this, tD_len, S.len]
  show p_keep_lower A { nx := fun ρ => ∃ rows', ρ[0]? = some (some (.tab q qs rows')) ∧ rows' = tD (lowC T a b c), rt := fun _ => False, ex := fun _ => False } [some (.tab q qs (tD T)), some (.ro (.int a)), some (.ro (.int b)), some (.ro (.int c)), none]
  obtain ⟨qa, q1, q2⟩ := adr_tab hl ha
  have r1 := S.rowD ha
  have c1 := S.cellD ha hb
  have xb : ixN ((T.getD a []).map oD).length (b : Int) = some b := ixN_nat (by rw [List.length_map, (S.at ha).2]; exact hb)
  unfold p_keep_lower lowC
  walk_at "pud"
  cases e : cell T a b with
  | none =>
    walk_at "pud"
    refine l_kCell q1 r1 xb (by walk_at "pu set") ?_
    exact ⟨_, rfl, (tD_set S ha b (some c)).symm⟩
  | some y =>
    rw [e] at c1
    walk_at "pud"
    refine l_dec (fun h => ?_) fun h => ?_
    · walk_at "pud"
      refine l_kCell q1 r1 xb (by walk_at "pu set") ?_
      refine ⟨_, rfl, ?_⟩
      show _ = tD (if c < y then setC T a b (some c) else T)
      rw [if_pos h]
      exact (tD_set S ha b (some c)).symm
    · walk_at "pud"
      refine ⟨_, rfl, ?_⟩
      show _ = tD (if c < y then setC T a b (some c) else T)
      rw [if_neg h]
/-- keep_lower, called -/
theorem k_low {A : Ads} {n : Nat} {T : Tab} {a b : Nat} {c : Int} {j : Nat} {q : Addr} {qs : List Addr} {ρ : Ro} {Z : EndsD} (S : Sq n T) (ha : a < n) (hb : b < n) (h : ∀ ρ', SetTo ρ j (some (.tab q qs (tD (lowC T a b c)))) ρ' → Z.nx ρ') (hj : j < ρ.length) : kCallT j (S_keep_lower A) q qs (tD T) ρ Z [.int a, .int b, .int c] :=
  l_kCallT (St := S_keep_lower A) (n, T, a, b, c) rfl rfl ⟨S, ha, hb⟩ (fun rows' ρ' hr hs => by
    have hr : rows' = tD (lowC T a b c) := hr
    subst hr
    exact h ρ' hs) hj
theorem Sq.midE {n : Nat} {T : Tab} (S : Sq n T) {i : Nat} (h : i < n) (m : Nat) (f : Int) (e : Nat) : Sq n (midE m i f T e) := by
  unfold Pu.midE
  split
  · exact S
  · exact S.low h e _
theorem foldl_range {β : Type} (f : β → Nat → β) (b : β) {n k : Nat} (h : k < n) : ((List.range n).take (k + 1)).foldl f b = f (((List.range n).take k).foldl f b) k := foldl_take f b (List.getElem?_range h)
theorem foldl_inv {α β : Type} {P : β → Prop} {f : β → α → β} : ∀ {xs : List α} {b : β}, P b → (∀ b x, x ∈ xs → P b → P (f b x)) → P (xs.foldl f b)
  | [], b, h, _ => h
  | x :: xs, b, h, k => foldl_inv (xs := xs) (k b x List.mem_cons_self h) fun b' y hy => k b' y (List.mem_cons_of_mem _ hy)
theorem Sq.midS {n : Nat} {T : Tab} (S : Sq n T) {i : Nat} (h : i < n) (m : Nat) : Sq n (midS n m T i) := by
  unfold Pu.midS
  split
  · exact S
  · exact foldl_inv (P := Sq n) S fun b x _ hb => hb.midE h m _ x
theorem Sq.midM {n : Nat} {T : Tab} (S : Sq n T) (m : Nat) : Sq n (midM n T m) := by
  unfold Pu.midM
  exact foldl_inv (P := Sq n) S fun b x hx hb => hb.midS (List.mem_range.mp hx) m
theorem take_mem {n k : Nat} {x : Nat} (h : x ∈ (List.range n).take k) : x < n := List.mem_range.mp (List.mem_of_mem_take h)
theorem rng_at {n k : Nat} {d : D} (h : (rngD 0 (n : Int).toNat)[k]? = some d) : k < n ∧ d = .int k := by
  have h1 : k < n := by
    have := (List.getElem?_eq_some_iff.mp h).1
    rwa [rngD_len, Int.toNat_natCast] at this
  rw [rngD_get (by rw [Int.toNat_natCast]; exact h1), Int.zero_add] at h
  cases h
  exact ⟨h1, rfl⟩
theorem rng_full (n : Nat) : (rngD 0 (n : Int).toNat).length = n := by rw [rngD_len, Int.toNat_natCast]
theorem run_add_middles (A : Ads) (x : Nat × Tab) (q : Addr) (qs : List Addr) (hp : (S_add_middles A).pre x) (hl : qs.length = ((S_add_middles A).rows x).length) : p_add_middles A { nx := fun ρ => ∃ rows', ρ[0]? = some (some (.tab q qs rows')) ∧ (S_add_middles A).post x rows', rt := fun _ => False, ex := fun _ => False } (startT ["costs", "points", "middle", "start", "first", "end", "second"] q qs ((S_add_middles A).rows x) ((S_add_middles A).args x)) := by
  obtain ⟨n, T⟩ := x
  obtain ⟨S, hn⟩ := hp
  have S : Sq n T := S
  have hn : n ≤ 1000 := hn
  have hl : qs.length = n := by
    have : qs.length = (tD T).length := hl
    rw [this, tD_len, S.len]
  show p_add_middles A { nx := fun ρ => ∃ rows', ρ[0]? = some (some (.tab q qs rows')) ∧ rows' = tD (midsC n T), rt := fun _ => False, ex := fun _ => False } [some (.tab q qs (tD T)), none, none, none, none, none, none]
  have lq : (qs.map D.adr).length = n := by rw [List.length_map]; exact hl
  unfold p_add_middles
  walk_at "pud"
  rw [lq]
  refine l_kFor (fun k ρ => ∃ a b c d e, ρ = [some (.tab q qs (tD (((List.range n).take k).foldl (midM n) T))), some (.ro (.int n)), a, b, c, d, e]) ⟨_, _, _, _, _, rfl⟩ ?_ ?_
  · rintro m d ρ hm ⟨a, b, c, d', e, rfl⟩
    obtain ⟨hm1, rfl⟩ := rng_at hm
    clear hm
    have hm := hm1
    have S1 : Sq n (((List.range n).take m).foldl (midM n) T) := foldl_inv (P := Sq n) S fun b x _ hb => hb.midM x
    rw [foldl_range (midM n) T hm]
    generalize ((List.range n).take m).foldl (midM n) T = T1 at S1
    obtain ⟨qm, m1, m2⟩ := adr_tab hl hm
    walk_at "pud"
    refine l_kFor (fun k ρ => ∃ b c d e, ρ = [some (.tab q qs (tD (((List.range n).take k).foldl (midS n m) T1))), some (.ro (.int n)), some (.ro (.int m)), b, c, d, e]) ⟨_, _, _, _, rfl⟩ ?_ ?_
    · rintro i d ρ hi ⟨b, c, d', e, rfl⟩
      obtain ⟨hi1, rfl⟩ := rng_at hi
      clear hi
      have hi := hi1
      have S2 : Sq n (((List.range n).take i).foldl (midS n m) T1) := foldl_inv (P := Sq n) S1 fun b x hx hb => hb.midS (take_mem hx) m
      rw [foldl_range (midS n m) T1 hi]
      generalize ((List.range n).take i).foldl (midS n m) T1 = T2 at S2
      obtain ⟨qi, i1, i2⟩ := adr_tab hl hi
      have r1 := S2.rowD hi
      have c1 := S2.cellD hi hm
      unfold midS
      walk_at "pud"
      cases ef : cell T2 i m with
      | none =>
        walk_at "pud"
        exact ⟨_, _, _, _, rfl⟩
      | some f =>
        walk_at "pud"
        refine l_kFor (fun k ρ => ∃ d e, ρ = [some (.tab q qs (tD (((List.range n).take k).foldl (midE m i f) T2))), some (.ro (.int n)), some (.ro (.int m)), some (.ro (.int i)), some (.ro (.int f)), d, e]) ⟨_, _, rfl⟩ ?_ ?_
        · rintro j d ρ hj ⟨d', e, rfl⟩
          obtain ⟨hj1, rfl⟩ := rng_at hj
          clear hj
          have hj := hj1
          have S3 : Sq n (((List.range n).take j).foldl (midE m i f) T2) := foldl_inv (P := Sq n) S2 fun b x hx hb => hb.midE hi m f x
          rw [foldl_range (midE m i f) T2 hj]
          generalize ((List.range n).take j).foldl (midE m i f) T2 = T3 at S3
          have r3 := S3.rowD hm
          have c3 := S3.cellD hm hj
          unfold midE
          walk_at "pud"
          cases es : cell T3 m j with
          | none =>
            walk_at "pud"
            exact ⟨_, _, rfl⟩
          | some s =>
            walk_at "pud"
            refine k_low S3 hi hj (fun ρ' hs => ?_) (by show 0 < 7; decide)
            cases hs
            exact ⟨_, _, rfl⟩
        · rintro ρ ⟨d', e, rfl⟩
          rw [rng_full, List.take_of_length_le (by rw [List.length_range]; exact Nat.le_refl _)]
          exact ⟨_, _, _, _, rfl⟩
    · rintro ρ ⟨b, c, d', e, rfl⟩
      rw [rng_full, List.take_of_length_le (by rw [List.length_range]; exact Nat.le_refl _)]
      exact ⟨_, _, _, _, _, rfl⟩
  · rintro ρ ⟨a, b, c, d, e, rfl⟩
    rw [rng_full, List.take_of_length_le (by rw [List.length_range]; exact Nat.le_refl _)]
    exact ⟨_, rfl, rfl⟩
theorem rowsRep (n : Nat) (v : Option Int) : tD (List.replicate n (List.replicate n v)) = List.replicate n (List.replicate n (oD v)) := by
  unfold tD
  rw [List.map_replicate, List.map_replicate]
theorem run_step_costs (A : Ads) (x : Nat × List Fact) (hp : (S_step_costs A).pre x) : p_step_costs A (endZ (S_step_costs A) x) (startD ["points", "facts", "costs", "point", "a", "b", "least", "greatest", "start"] ((S_step_costs A).args x)) := by
  obtain ⟨n, fs⟩ := x
  obtain ⟨ok, hn⟩ := hp
  have ok : FactsOk n fs := ok
  have hn : n ≤ 1000 := hn
  show p_step_costs A _ [some (.ro (.int n)), some (.ro (.lst (fs.map Fact.d))), none, none, none, none, none, none, none]
  unfold p_step_costs
  walk_at "pud"
  refine l_lcTI (by rw [rng_full]; omega) rfl (by show 8 < 9; decide) (fun k acc => acc = List.replicate k (List.replicate n .non)) rfl (fun k d acc ρ2 hk ha hs => ?_) fun acc p qs hq ha => ?_
  · cases hs.eq
    walk_at "pud"
    refine l_rep1 (by omega) ?_
    walk_at "pud"
    rw [ha, List.replicate_succ']
    rfl
  · rw [rng_full] at ha
    subst ha
    rw [List.length_replicate] at hq
    have e0 : List.replicate n (List.replicate n D.non) = tD (List.replicate n (List.replicate n none)) := (rowsRep n none).symm
    rw [e0]
    walk_at "pud"
    refine l_kFor (fun k ρ => ∃ a, ρ = [some (.ro (.int n)), some (.ro (.lst (fs.map Fact.d))), some (.tab p qs (tD (((List.range n).take k).foldl (fun T k => setC T k k (some 0)) (List.replicate n (List.replicate n none))))), a, none, none, none, none, none]) ⟨_, rfl⟩ ?_ ?_
    · rintro k d ρ hk ⟨a, rfl⟩
      obtain ⟨hk1, rfl⟩ := rng_at hk
      have S1 : Sq n (((List.range n).take k).foldl (fun T k => setC T k k (some 0)) (List.replicate n (List.replicate n none))) := foldl_inv (P := Sq n) (rep_sq n none) fun b x hx hb => hb.set (take_mem hx) x _
      rw [foldl_range (fun T k => setC T k k (some 0)) (List.replicate n (List.replicate n none)) hk1]
      generalize ((List.range n).take k).foldl (fun T k => setC T k k (some 0)) (List.replicate n (List.replicate n none)) = T1 at S1
      obtain ⟨qk, k1, k2⟩ := adr_tab hq hk1
      have r1 := S1.rowD hk1
      walk_at "pud"
      refine l_kCell k1 r1 (ixN_nat (by rw [List.length_map, (S1.at hk1).2]; exact hk1)) (by walk_at "pu set") ?_
      exact ⟨some (.ro (.int k)), by rw [tD_set S1 hk1 k (some 0)]; rfl⟩
    · rintro ρ ⟨a, rfl⟩
      rw [rng_full, List.take_of_length_le (by rw [List.length_range]; exact Nat.le_refl _)]
      have S0 : Sq n (diagC n) := (diag_cell (rep_sq n none)).1
      have ed : (List.range n).foldl (fun T k => setC T k k (some 0)) (List.replicate n (List.replicate n none)) = diagC n := rfl
      rw [ed]
      walk_at "pud"
      refine l_kFor (fun k ρ => ∃ a b c d e, ρ = [some (.ro (.int n)), some (.ro (.lst (fs.map Fact.d))), some (.tab p qs (tD ((fs.take k).foldl factC (diagC n)))), a, b, c, d, e, none]) ⟨_, _, _, _, _, rfl⟩ ?_ ?_
      · rintro k d ρ hk ⟨a, b, c, d', e, rfl⟩
        obtain ⟨f, hf, rfl⟩ := map_get hk
        obtain ⟨o1, o2, _⟩ := ok f (List.mem_of_getElem? hf)
        have S1 : Sq n ((fs.take k).foldl factC (diagC n)) := foldl_inv (P := Sq n) S0 fun b x hx hb => by
          obtain ⟨w1, w2, _⟩ := ok x (List.mem_of_mem_take hx)
          exact hb.fact w1 w2
        rw [foldl_take factC (diagC n) hf]
        generalize (fs.take k).foldl factC (diagC n) = T1 at S1
        obtain ⟨fa, fb, lo, hi⟩ := f
        have o1 : fa < n := o1
        have o2 : fb < n := o2
        unfold Fact.d factC
        dsimp only
        cases hi with
        | none =>
          cases lo with
          | none =>
            walk_at "pud"
            exact ⟨_, _, _, _, _, rfl⟩
          | some l =>
            walk_at "pud"
            refine k_low S1 o2 o1 (fun ρ' hs => ?_) (by show 2 < 9; decide)
            cases hs.eq
            exact ⟨_, _, _, _, _, rfl⟩
        | some g =>
          walk_at "pud"
          refine k_low S1 o1 o2 (fun ρ' hs => ?_) (by show 2 < 9; decide)
          cases hs.eq
          cases lo with
          | none =>
            walk_at "pud"
            exact ⟨_, _, _, _, _, rfl⟩
          | some l =>
            walk_at "pud"
            refine k_low (S1.low o1 fb g) o2 o1 (fun ρ' hs => ?_) (by show 2 < 9; decide)
            cases hs.eq
            exact ⟨_, _, _, _, _, rfl⟩
      · rintro ρ ⟨a, b, c, d, e, rfl⟩
        rw [List.length_map, List.take_length]
        walk_at "pud"
        exact ⟨p, qs, hq, rfl⟩
theorem run_least_costs (A : Ads) (x : Nat × List Fact) (hp : (S_least_costs A).pre x) : p_least_costs A (endZ (S_least_costs A) x) (startD ["points", "facts", "costs", "word", "found"] ((S_least_costs A).args x)) := by
  obtain ⟨n, fs⟩ := x
  obtain ⟨net, J⟩ := hp
  have net : NetOk n fs := net
  have J : Joined n fs := J
  have small := net.small
  show p_least_costs A _ [some (.ro (.int n)), some (.ro (.lst (fs.map Fact.d))), none, none, none]
  unfold p_least_costs
  walk_at "pud"
  refine l_kCall (S := S_heights_or_ring A) (n, fs) rfl net (fun r hr => ?_) (fun e he => ?_)
  · rcases hr with ⟨hs, _, _, F, hr⟩ | ⟨rs, L, hr⟩
    · cases hr
      have F : Fits fs (hD hs) := F
      walk_at "pud"
      refine l_kCall (S := S_step_costs A) (n, fs) rfl ⟨net.ok, by show n ≤ 1000; omega⟩ (fun r hr => ?_) (fun e he => ?_)
      · obtain ⟨q, qs, hq, hr⟩ := hr
        cases hr
        walk_at "pud"
        refine l_kCallT (St := S_add_middles A) (n, stepC n fs) rfl rfl ⟨stepC_sq net.ok, by show n ≤ 1000; omega⟩ (fun rows' ρ' hr hs => ?_) (by show 2 < 5; decide)
        have hr : rows' = tD (midsC n (stepC n fs)) := hr
        subst hr
        cases hs.eq
        walk_at "pud"
        obtain ⟨S1, D1, Sd1, F1⟩ := stepC_ok net.ok F
        obtain ⟨t1, t2, t3⟩ := closure_tight net.ok J S1 D1 Sd1 F1 F
        refine .inl ⟨_, t1, ?_⟩
        show Except.ok (RV.ro (.lst ((tD (midsC n (stepC n fs))).map D.lst))) = okR (tabD (vals (midsC n (stepC n fs))))
        rw [tD_vals t3 t2]
        rfl
      · obtain ⟨q, qs, hq, he⟩ := he
        cases he
    · cases hr
      walk_at "pud"
      exact .inr ⟨rs, L, rfl⟩
  · rcases he with ⟨hs, _, _, _, he⟩ | ⟨rs, L, he⟩ <;> cases he
def AllS (n : Nat) (T : Tab) : Prop := ∀ i j, i < n → j < n → ∃ d, cell T i j = some d
theorem AllS.le {n : Nat} {T T' : Tab} (h : AllS n T) (L : LeT T T') : AllS n T' := fun i j hi hj => by
  obtain ⟨d, e⟩ := h i j hi hj
  obtain ⟨d', e', _⟩ := L i j d e
  exact ⟨d', e'⟩
theorem AllS.low {n : Nat} {T : Tab} (h : AllS n T) (S : Sq n T) {a b : Nat} (ha : a < n) (hb : b < n) (c : Int) : AllS n (lowC T a b c) := h.le (low_cases S ha hb c).1
theorem AllS.midE {n : Nat} {T : Tab} (h : AllS n T) (S : Sq n T) {i e : Nat} (hi : i < n) (he : e < n) (m : Nat) (f : Int) : AllS n (midE m i f T e) := by
  unfold Pu.midE
  split
  · exact h
  · exact h.low S hi he _
theorem AllS.midS {n : Nat} {T : Tab} (h : AllS n T) (S : Sq n T) {i : Nat} (hi : i < n) (m : Nat) : Sq n (midS n m T i) ∧ AllS n (midS n m T i) := by
  unfold Pu.midS
  split
  · exact ⟨S, h⟩
  · exact foldl_inv (P := fun T => Sq n T ∧ AllS n T) ⟨S, h⟩ fun b x hx hb => ⟨hb.1.midE hi m _ x, hb.2.midE hb.1 hi (List.mem_range.mp hx) m _⟩
theorem AllS.midM {n : Nat} {T : Tab} (h : AllS n T) (S : Sq n T) (m : Nat) : Sq n (midM n T m) ∧ AllS n (midM n T m) := by
  unfold Pu.midM
  exact foldl_inv (P := fun T => Sq n T ∧ AllS n T) ⟨S, h⟩ fun b x hx hb => hb.2.midS hb.1 (List.mem_range.mp hx) m
theorem run__law_table (A : Ads) (x : RulesIn) (hp : (S__law_table A).pre x) : p__law_table A (endZ (S__law_table A) x) (startD ["last", "due", "table", "rule", "middle", "through", "line", "a", "first", "b"] ((S__law_table A).args x)) := by
  obtain ⟨T, lo, hi, fs⟩ := x
  obtain ⟨⟨t1, t24⟩, fl, ⟨l0, lh, h6⟩, ok, h, F⟩ := hp
  have t1 : 1 ≤ T := t1
  have t24 : T ≤ 24 := t24
  have l0 : 0 ≤ lo := l0
  have h6 : hi ≤ 1000000 := h6
  have ok : ∀ f ∈ fs, f.ok T := ok
  have F : Fits (rules T lo hi fs) h := F
  have fok := rules_ok (lo := lo) (hi := hi) ok
  have full : ∀ f ∈ rules T lo hi fs, ∃ l g, f.lo = some l ∧ f.hi = some g := fun f hf => by
    rcases List.mem_append.mp hf with hf | hf
    · obtain ⟨t, _, rfl⟩ := tick_mem.mp hf
      exact ⟨lo, hi, rfl, rfl⟩
    · obtain ⟨g, _, rfl⟩ := List.mem_map.mp hf
      cases g with
      | rd b v => exact ⟨v, v, rfl, rfl⟩
      | gr a b l u => exact ⟨l, u, rfl, rfl⟩
  obtain ⟨W1, W2, W3, W4⟩ := lawC_ok l0 h6 t24 ok
  obtain ⟨c1, c2, c3⟩ := closure_tight fok (rules_joined T lo hi fs) W1 W2 W3 W4 F
  clear W2 W3 W4
  obtain ⟨rs, hrs⟩ : ∃ rs, rs = rules T lo hi fs := ⟨_, rfl⟩
  have post : ∀ r, r = Except.ok (RV.ro (.lst ((tD (midsC (T + 1) (lawC (T + 1) rs))).map D.lst))) → (S__law_table A).post ⟨T, lo, hi, fs⟩ r := fun r hr => by
    rw [hrs] at hr
    refine ⟨_, c1, ?_⟩
    rw [hr, tD_vals c3 c2]
    rfl
  clear c1 c2 c3
  show p__law_table A _ [some (.ro (.int T)), some (.ro (.lst ((rules T lo hi fs).map Fact.d))), none, none, none, none, none, none, none, none]
  rw [← hrs] at fok full W1 F ⊢
  clear hrs
  have tn : ((T : Int) + 1) = ((T + 1 : Nat) : Int) := rfl
  generalize hn : T + 1 = n at fok full W1 post tn
  have nl : n ≤ 25 := by omega
  unfold p__law_table
  walk_at "pud"
  rw [tn]
  refine l_lcTI (by rw [rng_full]; omega) rfl (by show 7 < 10; decide) (fun k acc => acc = List.replicate k (List.replicate n (.int (10 ^ 15)))) rfl (fun k d acc ρ2 hk ha hs => ?_) fun acc p qs hq ha => ?_
  · cases hs.eq
    walk_at "pud"
    refine l_I (C := CPow) (by unfold CPow; decide) ?_
    walk_at "pud"
    rw [tn]
    refine l_rep1 (by omega) ?_
    walk_at "pud"
    rw [ha, List.replicate_succ']
    rfl
  · rw [rng_full] at ha
    subst ha
    rw [List.length_replicate] at hq
    have e0 : List.replicate n (List.replicate n (D.int (10 ^ 15))) = tD (List.replicate n (List.replicate n (some (10 ^ 15)))) := (rowsRep n (some (10 ^ 15))).symm
    rw [e0]
    have S0 := rep_sq n (some (10 ^ 15 : Int))
    have A0 : AllS n (List.replicate n (List.replicate n (some (10 ^ 15 : Int)))) := fun i j hi hj => ⟨_, rep_cell hi hj⟩
    walk_at "pud"
    refine l_kFor (fun k ρ => ∃ a, ρ = [some (.ro (.int T)), some (.ro (.lst (rs.map Fact.d))), some (.tab p qs (tD ((rs.take k).foldl factC (List.replicate n (List.replicate n (some (10 ^ 15))))))), a, none, none, none, none, none, none]) ⟨_, rfl⟩ ?_ ?_
    · rintro k d ρ hk ⟨a, rfl⟩
      obtain ⟨f, hf, rfl⟩ := map_get hk
      obtain ⟨o1, o2, _⟩ := fok f (List.mem_of_getElem? hf)
      obtain ⟨l, g, el, eg⟩ := full f (List.mem_of_getElem? hf)
      have S1 : Sq n ((rs.take k).foldl factC (List.replicate n (List.replicate n (some (10 ^ 15))))) ∧ AllS n ((rs.take k).foldl factC (List.replicate n (List.replicate n (some (10 ^ 15))))) := by
        have := facts_fold (fs := rs.take k) (fun f hf => fok f (List.mem_of_mem_take hf)) S0
        exact ⟨this.1, A0.le this.2.1⟩
      rw [foldl_take factC (List.replicate n (List.replicate n (some (10 ^ 15)))) hf]
      generalize (rs.take k).foldl factC (List.replicate n (List.replicate n (some (10 ^ 15)))) = T1 at S1
      obtain ⟨S1, A1⟩ := S1
      obtain ⟨fa, fb, flo, fhi⟩ := f
      have o1 : fa < n := o1
      have o2 : fb < n := o2
      have el : flo = some l := el
      have eg : fhi = some g := eg
      subst el eg
      unfold Fact.d factC
      dsimp only
      obtain ⟨x, ex⟩ := A1 fa fb o1 o2
      obtain ⟨qa, a1, a2⟩ := adr_tab hq o1
      obtain ⟨qb, b1, b2⟩ := adr_tab hq o2
      have r1 := S1.rowD o1
      have c1 := S1.cellD o1 o2
      rw [ex] at c1
      walk_at "pud"
      refine l_kCell a1 r1 (ixN_nat (by rw [List.length_map, (S1.at o1).2]; exact o2)) (by walk_at "pu set") ?_
      have m1 : (tD T1).set fa (((T1.getD fa []).map oD).set fb (RV.ro (.int (if g < x then g else x))).d) = tD (lowC T1 fa fb g) := by
        rw [← set_min S1 o1 o2 ex]
        exact (tD_set S1 o1 fb (some (if g < x then g else x))).symm
      rw [m1]
      have S2 : Sq n (lowC T1 fa fb g) := S1.low o1 fb g
      have A2 : AllS n (lowC T1 fa fb g) := A1.low S1 o1 o2 g
      have ed : optLow T1 fa fb (some g) = lowC T1 fa fb g := rfl
      rw [ed]
      clear m1 c1 r1
      generalize lowC T1 fa fb g = T2 at S2 A2
      obtain ⟨y, ey⟩ := A2 fb fa o2 o1
      have r2 := S2.rowD o2
      have c2 := S2.cellD o2 o1
      rw [ey] at c2
      walk_at "pud"
      refine l_kCell b1 r2 (ixN_nat (by rw [List.length_map, (S2.at o2).2]; exact o1)) (by walk_at "pu set") ?_
      have m2 : (tD T2).set fb (((T2.getD fb []).map oD).set fa (RV.ro (.int (if -l < y then -l else y))).d) = tD (lowC T2 fb fa (-l)) := by
        rw [← set_min S2 o2 o1 ey]
        exact (tD_set S2 o2 fa (some (if -l < y then -l else y))).symm
      rw [m2]
      exact ⟨_, rfl⟩
    · rintro ρ ⟨a, rfl⟩
      rw [List.length_map, List.take_length]
      obtain ⟨S1, L1, _, _⟩ := facts_fold fok S0
      have A1 := A0.le L1
      have elaw : lawC n rs = diagOn n (rs.foldl factC (List.replicate n (List.replicate n (some (10 ^ 15 : Int))))) := rfl
      rw [elaw] at post
      generalize rs.foldl factC (List.replicate n (List.replicate n (some (10 ^ 15 : Int)))) = T1 at S1 A1 post
      clear L1 elaw W1 F fok full
      walk_at "pud"
      rw [tn]
      refine l_kFor (fun k ρ => ∃ a b, ρ = [some (.ro (.int T)), some (.ro (.lst (rs.map Fact.d))), some (.tab p qs (tD (((List.range n).take k).foldl (fun T k => setC T k k (some 0)) T1))), a, b, none, none, none, none, none]) ⟨_, _, rfl⟩ ?_ ?_
      · rintro k d ρ hk ⟨a, b, rfl⟩
        obtain ⟨hk1, rfl⟩ := rng_at hk
        have S2 : Sq n (((List.range n).take k).foldl (fun T k => setC T k k (some 0)) T1) := foldl_inv (P := Sq n) S1 fun b x hx hb => hb.set (take_mem hx) x _
        rw [foldl_range (fun T k => setC T k k (some 0)) T1 hk1]
        generalize ((List.range n).take k).foldl (fun T k => setC T k k (some 0)) T1 = T2 at S2
        obtain ⟨qk, k1, k2⟩ := adr_tab hq hk1
        have r1 := S2.rowD hk1
        walk_at "pud"
        refine l_kCell k1 r1 (ixN_nat (by rw [List.length_map, (S2.at hk1).2]; exact hk1)) (by walk_at "pu set") ?_
        exact ⟨a, some (.ro (.int k)), by rw [tD_set S2 hk1 k (some 0)]; rfl⟩
      · rintro ρ ⟨a, b, rfl⟩
        rw [rng_full, List.take_of_length_le (by rw [List.length_range]; exact Nat.le_refl _)]
        have ed : (List.range n).foldl (fun T k => setC T k k (some 0)) T1 = diagOn n T1 := rfl
        rw [ed]
        obtain ⟨S2, C2⟩ := diag_cell S1
        have A2 : AllS n (diagOn n T1) := fun i j hi hj => by
          rw [C2]
          split
          · exact ⟨0, rfl⟩
          · exact A1 i j hi hj
        generalize diagOn n T1 = T2 at S2 A2 post
        clear C2 ed S1 A1
        walk_at "pud"
        rw [tn]
        refine l_kFor (fun k ρ => ∃ a b c d e f, ρ = [some (.ro (.int T)), some (.ro (.lst (rs.map Fact.d))), some (.tab p qs (tD (((List.range n).take k).foldl (midM n) T2))), a, b, c, d, none, e, f]) ⟨_, _, _, _, _, _, rfl⟩ ?_ ?_
        · rintro m d ρ hm ⟨a, b, c, d', e, f, rfl⟩
          obtain ⟨hm1, rfl⟩ := rng_at hm
          have S3 : Sq n (((List.range n).take m).foldl (midM n) T2) ∧ AllS n (((List.range n).take m).foldl (midM n) T2) := foldl_inv (P := fun T => Sq n T ∧ AllS n T) ⟨S2, A2⟩ fun b x _ hb => hb.2.midM hb.1 x
          rw [foldl_range (midM n) T2 hm1]
          generalize ((List.range n).take m).foldl (midM n) T2 = T3 at S3
          obtain ⟨S3, A3⟩ := S3
          obtain ⟨qm, m1, m2⟩ := adr_tab hq hm1
          walk_at "pud"
          refine l_kFor (fun k ρ => ∃ d e f, ρ = [some (.ro (.int T)), some (.ro (.lst (rs.map Fact.d))), some (.tab p qs (tD (((List.range n).take k).foldl (midS n m) T3))), a, some (.ro (.int m)), some (.ro (.adr qm)), d, none, e, f]) ⟨_, _, _, rfl⟩ ?_ ?_
          · rintro i d ρ hi ⟨d', e, f, rfl⟩
            obtain ⟨qi, i1, rfl⟩ := map_get hi
            have hi1 : i < n := by
              have := (List.getElem?_eq_some_iff.mp i1).1
              omega
            have S4 : Sq n (((List.range n).take i).foldl (midS n m) T3) ∧ AllS n (((List.range n).take i).foldl (midS n m) T3) := foldl_inv (P := fun T => Sq n T ∧ AllS n T) ⟨S3, A3⟩ fun b x hx hb => hb.2.midS hb.1 (take_mem hx) m
            rw [foldl_range (midS n m) T3 hi1]
            generalize ((List.range n).take i).foldl (midS n m) T3 = T4 at S4
            obtain ⟨S4, A4⟩ := S4
            obtain ⟨f0, ef⟩ := A4 i m hi1 hm1
            have r1 := S4.rowD hi1
            have c1 := S4.cellD hi1 hm1
            rw [ef] at c1
            unfold midS
            rw [ef]
            dsimp only
            walk_at "pud"
            rw [tn]
            refine l_kFor (fun k ρ => ∃ f, ρ = [some (.ro (.int T)), some (.ro (.lst (rs.map Fact.d))), some (.tab p qs (tD (((List.range n).take k).foldl (midE m i f0) T4))), a, some (.ro (.int m)), some (.ro (.adr qm)), some (.ro (.adr qi)), none, some (.ro (.int f0)), f]) ⟨_, rfl⟩ ?_ ?_
            · clear r1 c1
              rintro j d ρ hj ⟨f, rfl⟩
              obtain ⟨hj1, rfl⟩ := rng_at hj
              have S5 : Sq n (((List.range n).take j).foldl (midE m i f0) T4) ∧ AllS n (((List.range n).take j).foldl (midE m i f0) T4) := foldl_inv (P := fun T => Sq n T ∧ AllS n T) ⟨S4, A4⟩ fun b x hx hb => ⟨hb.1.midE hi1 m f0 x, hb.2.midE hb.1 hi1 (take_mem hx) m f0⟩
              rw [foldl_range (midE m i f0) T4 hj1]
              generalize ((List.range n).take j).foldl (midE m i f0) T4 = T5 at S5
              obtain ⟨S5, A5⟩ := S5
              obtain ⟨s, es⟩ := A5 m j hm1 hj1
              obtain ⟨y, ey⟩ := A5 i j hi1 hj1
              have r3 := S5.rowD hm1
              have c3 := S5.cellD hm1 hj1
              have r4 := S5.rowD hi1
              have c4 := S5.cellD hi1 hj1
              rw [es] at c3
              rw [ey] at c4
              unfold midE lowC
              rw [es]
              dsimp only
              rw [ey]
              dsimp only
              walk_at "pud"
              refine l_dec (fun hc => ?_) fun hc => ?_
              · rw [if_pos hc]
                walk_at "pud"
                refine l_kCell i1 r4 (ixN_nat (by rw [List.length_map, (S5.at hi1).2]; exact hj1)) (by walk_at "pu set") ?_
                exact ⟨some (.ro (.int j)), by rw [tD_set S5 hi1 j (some (f0 + s))]; rfl⟩
              · rw [if_neg hc]
                exact ⟨_, rfl⟩
            · rintro ρ ⟨f, rfl⟩
              rw [rng_full, List.take_of_length_le (by rw [List.length_range]; exact Nat.le_refl _)]
              exact ⟨_, _, _, rfl⟩
          · rintro ρ ⟨d', e, f, rfl⟩
            rw [List.length_map, hq, List.take_of_length_le (by rw [List.length_range]; exact Nat.le_refl _)]
            exact ⟨_, _, _, _, _, _, rfl⟩
        · rintro ρ ⟨a, b, c, d, e, f, rfl⟩
          rw [rng_full, List.take_of_length_le (by rw [List.length_range]; exact Nat.le_refl _)]
          walk_at "pud"
          exact post _ rfl
theorem run_frz0 (x : D) (hp : S_frz0.pre x) : p_frz0 (endZ S_frz0 x) (startD ["value", "entry"] (S_frz0.args x)) := by
  show p_frz0 _ [some (.ro x), none]
  unfold p_frz0
  have hp : Scal x := hp
  rcases hp with ⟨i, rfl⟩ | ⟨s, rfl⟩
  · walk_at "pud"
    refine l_bT0 rfl ?_
    walk_at "pud"
    rfl
  · walk_at "pud"
    refine l_bT0 rfl ?_
    walk_at "pud"
    rfl
theorem map_self {α : Type} (ds : List α) (f : Nat → α) (h : ∀ k d, ds[k]? = some d → f k = d) : (List.range ds.length).map f = ds := by
  apply List.ext_getElem?
  intro k
  by_cases hk : k < ds.length
  · rw [List.getElem?_map, List.getElem?_range hk]
    show some (f k) = _
    rw [h k _ (List.getElem?_eq_getElem hk), List.getElem?_eq_getElem hk]
  · rw [List.getElem?_eq_none (by rw [List.length_map, List.length_range]; omega), List.getElem?_eq_none (by omega)]
theorem run_frz1 (x : List D) (hp : S_frz1.pre x) : p_frzT S_frz0 (endZ S_frz1 x) (startD ["value", "entry"] (S_frz1.args x)) := by
  obtain ⟨hl, hs⟩ := hp
  have hl : x.length ≤ 1000 := hl
  show p_frzT S_frz0 _ [some (.ro (.tup x)), none]
  unfold p_frzT
  walk_at "pud"
  refine l_bT1 rfl ?_
  walk_at "pud"
  refine l_lcMap (fun k => x.getD k .non) (by omega) rfl (fun i d ρ2 hi hs' => ?_) ?_ (by show 1 < 2; decide)
  · cases hs'.eq
    walk_at "pud"
    refine l_kCall (S := S_frz0) d rfl (hs d (List.mem_of_getElem? hi)) (fun r hr => ?_) (fun e he => by cases he)
    cases hr
    show d = x.getD i .non
    rw [List.getD_eq_getElem?_getD, hi]; rfl
  · walk_at "pud"
    show _ = _
    rw [map_self x _ fun k d hk => by rw [List.getD_eq_getElem?_getD, hk]; rfl]
    rfl
theorem run_frz2 (x : List (List D)) (hp : S_frz2.pre x) : p_frzL S_frz1 (endZ S_frz2 x) (startD ["value", "entry"] (S_frz2.args x)) := by
  obtain ⟨hl, hs⟩ := hp
  have hl : x.length ≤ 1000 := hl
  have lm : (x.map D.tup).length = x.length := List.length_map ..
  show p_frzL S_frz1 _ [some (.ro (.lst (x.map D.tup))), none]
  unfold p_frzL
  walk_at "pud"
  refine l_bT1 rfl ?_
  walk_at "pud"
  refine l_lcMap (fun k => (x.map D.tup).getD k .non) (by omega) rfl (fun i d ρ2 hi hs' => ?_) ?_ (by show 1 < 2; decide)
  · obtain ⟨ds, hd, rfl⟩ := map_get hi
    cases hs'.eq
    walk_at "pud"
    refine l_kCall (S := S_frz1) ds rfl (hs ds (List.mem_of_getElem? hd)) (fun r hr => ?_) (fun e he => by cases he)
    cases hr
    show D.tup ds = (x.map D.tup).getD i .non
    rw [List.getD_eq_getElem?_getD, hi]; rfl
  · walk_at "pud"
    show _ = _
    rw [map_self (x.map D.tup) _ fun k d hk => by rw [List.getD_eq_getElem?_getD, hk]; rfl]
    rfl
theorem scal_same {A : Ads} {x : D} {inner : TSd} (hp : Scal x) {Z : EndsD} (h : Z.rt (.ro (.bl true))) : p_same A inner Z [some (.ro x), some (.ro x), none] := by
  unfold p_same
  rcases hp with ⟨i, rfl⟩ | ⟨s, rfl⟩
  · walk_at "pud"
    refine l_bT0 rfl ?_
    walk_at "pud"
    refine l_kCall (S := S__law_is_number A) i rfl trivial (fun r hr => ?_) (fun e he => by cases he)
    cases hr
    walk_at "pud"
    rw [decide_eq_true rfl]
    exact h
  · walk_at "pud"
    refine l_bT0 rfl ?_
    walk_at "pud"
    rw [decide_eq_true rfl]
    exact h
theorem run_same0 (A : Ads) (x : D) (hp : (S_same 0).pre x) : p_same A (fun _ _ => False) (endZ (S_same 0) x) (startD ["told", "due", "k"] ((S_same 0).args x)) := by
  show p_same A _ _ [some (.ro x), some (.ro x), none]
  exact scal_same (hp : Scal x) rfl
theorem run_sameS (A : Ads) (n : Nat) (x : D) (hp : (S_same (n + 1)).pre x) : p_same A (p_same_in (S_same n)) (endZ (S_same (n + 1)) x) (startD ["told", "due", "k"] ((S_same (n + 1)).args x)) := by
  show p_same A _ _ [some (.ro x), some (.ro x), none]
  have hp : Simp (n + 1) x := hp
  rcases hp with hp | ⟨ds, hd, hl, he⟩
  · exact scal_same hp rfl
  · unfold p_same p_same_in
    rcases hd with rfl | rfl
    · walk_at "pud"
      refine l_bT1 rfl ?_
      walk_at "pud"
      refine l_kFor (fun k ρ => ∃ a, ρ = [some (.ro (.tup ds)), some (.ro (.tup ds)), a]) ⟨_, rfl⟩ ?_ ?_
      · rintro k d ρ hk ⟨a, rfl⟩
        have hk1 : k < ds.length := by
          have := (List.getElem?_eq_some_iff.mp hk).1
          rwa [rngD_len, Int.toNat_natCast] at this
        rw [rngD_get (by rw [Int.toNat_natCast]; exact hk1), Int.zero_add] at hk
        cases hk
        have g : ds[k]? = some ds[k] := List.getElem?_eq_getElem hk1
        have ik : atI ds (k : Int) = some ds[k] := atI_nat g
        walk_at "pud"
        refine l_kCall (S := S_same n) ds[k] rfl (he _ (List.mem_of_getElem? g)) (fun r hr => ?_) (fun e he => by cases he)
        cases hr
        walk_at "pud"
        exact ⟨_, rfl⟩
      · rintro ρ ⟨a, rfl⟩
        walk_at "pud"
        rfl
    · walk_at "pud"
      refine l_bT1 rfl ?_
      walk_at "pud"
      refine l_kFor (fun k ρ => ∃ a, ρ = [some (.ro (.lst ds)), some (.ro (.lst ds)), a]) ⟨_, rfl⟩ ?_ ?_
      · rintro k d ρ hk ⟨a, rfl⟩
        have hk1 : k < ds.length := by
          have := (List.getElem?_eq_some_iff.mp hk).1
          rwa [rngD_len, Int.toNat_natCast] at this
        rw [rngD_get (by rw [Int.toNat_natCast]; exact hk1), Int.zero_add] at hk
        cases hk
        have g : ds[k]? = some ds[k] := List.getElem?_eq_getElem hk1
        have ik : atI ds (k : Int) = some ds[k] := atI_nat g
        walk_at "pud"
        refine l_kCall (S := S_same n) ds[k] rfl (he _ (List.mem_of_getElem? g)) (fun r hr => ?_) (fun e he => by cases he)
        cases hr
        walk_at "pud"
        exact ⟨_, rfl⟩
      · rintro ρ ⟨a, rfl⟩
        walk_at "pud"
        rfl
theorem run_Meter (A : Ads) (m : Mtr) (a : Addr) (J : Ro → Prop) (hp : m.Ok) (hj : ∀ o : Option D, J [some (.ro (.adr a)), some (.ro (.int m.T)), some (.ro (.int m.lo)), some (.ro (.int m.hi)), some (.ro (.lst (m.fs.map MF.d))), o.map S.ro]) : p_Meter_pre A { nx := J, rt := fun _ => False, ex := fun _ => False } [some (.ro (.adr a)), some (.ro (.int m.T)), some (.ro (.int m.lo)), some (.ro (.int m.hi)), some (.ro (.lst (m.fs.map MF.d))), none] := by
  obtain ⟨t1, t24, lo0, le, hi6, fok, len⟩ := hp
  unfold p_Meter_pre
  walk_at "pud"
  refine l_kFor (fun k ρ => ∃ o : Option D, ρ = [some (.ro (.adr a)), some (.ro (.int m.T)), some (.ro (.int m.lo)), some (.ro (.int m.hi)), some (.ro (.lst (m.fs.map MF.d))), o.map S.ro]) ⟨none, rfl⟩ ?_ ?_
  · rintro k d ρ hk ⟨o, rfl⟩
    obtain ⟨f, hf, rfl⟩ := map_get hk
    walk_at "pud"
    refine l_kCall (S := S_check_fact A) (m.T, f) rfl (fok f (List.mem_of_getElem? hf)) (fun r hr => ?_) (fun e he => by cases he)
    exact ⟨some f.d, rfl⟩
  · rintro ρ ⟨o, rfl⟩
    exact hj o
theorem run_refused (A : Ads) (K : PySem.W.Frag) (c : Value) (hx : PySem.W.exmOne K (.ref A.BadMeter) c = some true) (S : SpecD) (hS : S = S_budget_states A ∨ S = S_overspent A) (x : Mtr × Int × Int) (hp : (S_refused A).pre x) : p_refused K c A S (endZ (S_refused A) x) (startD ["meter", "width", "most", "e"] ((S_refused A).args x)) := by
  obtain ⟨m, v, most⟩ := x
  obtain ⟨ok, nw⟩ := hp
  show p_refused K c A S _ [some (.ro (m.d A)), some (.ro (.int v)), some (.ro (.int most)), none]
  unfold p_refused
  refine l_seq ⟨by show 3 < 4; decide, ?_⟩
  walk_at "pud"
  have key : ∀ r : Except Exn RV, (¬ WidthOk m v ∧ r = .error ⟨A.BadMeter, none⟩) ∨ WidthOk m v → r = .error ⟨A.BadMeter, none⟩ := fun r h => by
    rcases h with h | h
    · exact h.2
    · exact absurd h nw
  rcases hS with rfl | rfl
  · refine ⟨(m, v, most), rfl, ok, fun r hr => ?_, fun e he => ?_⟩
    · have := key _ (hr.imp id fun z => z.elim (·.1) (·.1))
      cases this
    · have := key _ (he.imp id fun z => z.elim (·.1) (·.1))
      cases this
      exact ⟨hx, fun a => ⟨rfl, rfl, rfl⟩⟩
  · refine ⟨(m, v, most), rfl, ok, fun r hr => ?_, fun e he => ?_⟩
    · have := key _ (hr.imp id fun z => z.elim (·.1) (·.1))
      cases this
    · have := key _ (he.imp id fun z => z.elim (·.1) (·.1))
      cases this
      exact ⟨hx, fun a => ⟨rfl, rfl, rfl⟩⟩
theorem run_clash (A : Ads) (K : PySem.W.Frag) (c : Value) (hx : PySem.W.exmOne K (.ref A.NoHeights) c = some true) (S : SpecD) (hS : S = S_budget_states A ∨ S = S_overspent A) (x : Mtr × (Nat × Int)) (hp : (S_clash A).pre x) : p_clash K c A S (endZ (S_clash A) x) (startD ["meter", "asked", "due", "e", "good"] ((S_clash A).args x)) := by
  obtain ⟨m, v, most⟩ := x
  obtain ⟨ok, ⟨w1, w2⟩, nf⟩ := hp
  have w1 : 1 ≤ v := w1
  have w2 : v ≤ m.T := w2
  have nf : ∀ h, ¬ Fits m.facts h := nf
  have wok : WidthOk m v := ⟨by omega, by omega⟩
  show p_clash K c A S _ [some (.ro (m.d A)), some (.ro (budD (v, most))), some (.ro (factsD m.facts)), none, none]
  unfold p_clash budD
  refine l_seq ⟨by show 3 < 5; decide, ?_⟩
  walk_at "pud"
  have key : ∀ r : Except Exn RV, (¬ WidthOk m v ∧ r = .error ⟨A.BadMeter, none⟩) ∨ (WidthOk m v ∧ ∃ rs, LowRing m.facts rs ∧ r = .error ⟨A.NoHeights, some (("ring" : Str), ringD rs)⟩) ∨ (∃ h, Fits m.facts h) → ∃ rs, LowRing m.facts rs ∧ r = .error ⟨A.NoHeights, some (("ring" : Str), ringD rs)⟩ := fun r h => by
    rcases h with h | h | ⟨h, hf⟩
    · exact absurd wok h.1
    · exact h.2
    · exact absurd hf (nf h)
  have fin : ∀ (rs : List Stp), LowRing m.facts rs → ∀ (a : Addr) (e : Exn), e = ⟨A.NoHeights, some (("ring" : Str), ringD rs)⟩ → q_clash A e { nx := fun _ => False, rt := (endZ (S_clash A) (m, v, most)).rt, ex := fun _ => False } [some (.ro (m.d A)), some (.ro (.tup [.int v, .int most])), some (.ro (factsD m.facts)), some (.ro (.adr a)), none] := fun rs L a e he => by
    subst he
    refine ⟨rfl, by show 4 < 5; decide, ⟨ringD rs, factsD m.facts, rfl, rfl, (m.facts, rs), rfl, ⟨L, ?_⟩, fun r hr => hr⟩, rfl⟩
    have l1 := way_len (rules_ok ok.fok : FactsOk (m.T + 1) m.facts) L.mem L.nodup
    have l2 : m.T ≤ 24 := ok.t24
    show rs.length ≤ 1000
    omega
  rcases hS with rfl | rfl
  · refine ⟨(m, v, most), rfl, ok, fun r hr => ?_, fun e he => ?_⟩
    · obtain ⟨rs, _, z⟩ := key _ (hr.imp id fun z => z.imp id fun z => z.2.1)
      cases z
    · obtain ⟨rs, L, z⟩ := key _ (he.imp id fun z => z.imp id fun z => z.2.1)
      cases z
      exact ⟨hx, fun a => fin rs L a _ rfl⟩
  · refine ⟨(m, v, most), rfl, ok, fun r hr => ?_, fun e he => ?_⟩
    · obtain ⟨rs, _, z⟩ := key _ (hr.imp id fun z => z.imp id fun z => z.2.1)
      cases z
    · obtain ⟨rs, L, z⟩ := key _ (he.imp id fun z => z.imp id fun z => z.2.1)
      cases z
      exact ⟨hx, fun a => fin rs L a _ rfl⟩
theorem simp_str (s : Str) (n : Nat) : Simp n (.str s) := by
  cases n with
  | zero => exact .inr ⟨s, rfl⟩
  | succ n => exact .inl (.inr ⟨s, rfl⟩)
theorem simp_int (s : Int) (n : Nat) : Simp n (.int s) := by
  cases n with
  | zero => exact .inl ⟨s, rfl⟩
  | succ n => exact .inl (.inl ⟨s, rfl⟩)
theorem simp_lst {n : Nat} {ds : List D} (h : ds.length ≤ 1000) (k : ∀ e ∈ ds, Simp n e) : Simp (n + 1) (.lst ds) := .inr ⟨ds, .inr rfl, h, k⟩
theorem simp_tup {n : Nat} {ds : List D} (h : ds.length ≤ 1000) (k : ∀ e ∈ ds, Simp n e) : Simp (n + 1) (.tup ds) := .inr ⟨ds, .inl rfl, h, k⟩
theorem simp_up {d : D} : ∀ {n m : Nat}, Simp n d → n ≤ m → Simp m d := by
  intro n m h hm
  obtain ⟨j, rfl⟩ := Nat.exists_eq_add_of_le hm
  clear hm
  have step : ∀ {n : Nat} {d : D}, Simp n d → Simp (n + 1) d := by
    intro n
    induction n with
    | zero => intro d h; exact .inl h
    | succ n ih =>
      intro d h
      rcases h with h | ⟨ds, e, l, k⟩
      · exact .inl h
      · exact .inr ⟨ds, e, l, fun x hx => ih (k x hx)⟩
  induction j with
  | zero => exact h
  | succ j ih => exact step ih
theorem simp_mf (f : MF) (n : Nat) : Simp (n + 1) f.d := by
  cases f with
  | rd b v =>
    refine simp_tup (by show 3 ≤ 1000; decide) fun e he => ?_
    have : e = .str "read" ∨ e = .int b ∨ e = .int v := by simpa using he
    rcases this with rfl | rfl | rfl
    · exact simp_str _ _
    · exact simp_int _ _
    · exact simp_int _ _
  | gr a b lo hi =>
    refine simp_tup (by show 5 ≤ 1000; decide) fun e he => ?_
    have : e = .str "grew" ∨ e = .int a ∨ e = .int b ∨ e = .int lo ∨ e = .int hi := by simpa using he
    rcases this with rfl | rfl | rfl | rfl | rfl
    · exact simp_str _ _
    · exact simp_int _ _
    · exact simp_int _ _
    · exact simp_int _ _
    · exact simp_int _ _
theorem simp_ring {rs : List Stp} (h : rs.length ≤ 1000) (n : Nat) : Simp (n + 2) (ringD rs) := by
  refine simp_lst (by rw [List.length_map]; exact h) fun e he => ?_
  obtain ⟨t, _, rfl⟩ := List.mem_map.mp he
  refine simp_tup (by show 2 ≤ 1000; decide) fun e he => ?_
  have : e = .int t.st.1 ∨ e = .str (sid t.st.2) := by simpa using he
  rcases this with rfl | rfl
  · exact simp_int _ _
  · exact simp_str _ _
theorem simp_ints {ns : List Int} (h : ns.length ≤ 1000) (n : Nat) : Simp (n + 1) (intsD ns) := by
  refine simp_lst (by rw [List.length_map]; exact h) fun e he => ?_
  obtain ⟨t, _, rfl⟩ := List.mem_map.mp he
  exact simp_int _ _
theorem nl_mf : ∀ fs : List MF, nls (fs.map MF.d) = true
  | [] => rfl
  | f :: fs => by
    rw [List.map_cons]
    unfold nls
    rw [nl_mf fs, Bool.and_true]
    cases f <;> rfl
def Told.ds : Told → List D
  | .yes rs => [.str "yes", ringD rs]
  | .no ws => [.str "no", .lst (ws.map ringD)]
  | .opn a b => [.str "open", intsD a, intsD b]
theorem Told.d_eq (t : Told) : t.d = .tup t.ds := by cases t <;> rfl
theorem Told.simp {t : Told} {fs : List Fact} {T w : Nat} {most : Int} (h : t.Ok fs T w most) (ok : FactsOk (T + 1) fs) (hT : T ≤ 24) (w1 : 1 ≤ w) : t.ds.length ≤ 1000 ∧ ∀ e ∈ t.ds, Simp 5 e := by
  have way_l : ∀ {a b : Nat} {r : List Stp}, Way fs a b r → r.length ≤ 1000 := fun {a b r} W => by
    have := way_len ok W.mem W.nodup
    omega
  cases t with
  | yes rs =>
    have L : LowRing (fs ++ limitFs 0 T w most) rs := h
    have l := way_len (factsOk_append ok (limit_ok (m := most) w1)) L.mem L.nodup
    refine ⟨by show 2 ≤ 1000; decide, fun e he => ?_⟩
    have : e = .str "yes" ∨ e = ringD rs := by simpa [Told.ds] using he
    rcases this with rfl | rfl
    · exact simp_str _ _
    · exact simp_ring (by omega) 3
  | no ws =>
    obtain ⟨lw, hw⟩ := h
    refine ⟨by show 2 ≤ 1000; decide, fun e he => ?_⟩
    have : e = .str "no" ∨ e = .lst (ws.map ringD) := by simpa [Told.ds] using he
    rcases this with rfl | rfl
    · exact simp_str _ _
    · refine simp_lst (by rw [List.length_map, lw]; omega) fun e he => ?_
      obtain ⟨r, hr, rfl⟩ := List.mem_map.mp he
      obtain ⟨k, hk⟩ := List.getElem?_of_mem hr
      exact simp_ring (way_l (hw k r hk).1) 2
  | opn a b =>
    obtain ⟨r1, r2, _⟩ := h
    refine ⟨by show 3 ≤ 1000; decide, fun e he => ?_⟩
    have : e = .str "open" ∨ e = intsD a ∨ e = intsD b := by simpa [Told.ds] using he
    rcases this with rfl | rfl | rfl
    · exact simp_str _ _
    · exact simp_ints (by rw [r1.len]; omega) 4
    · exact simp_ints (by rw [r2.len]; omega) 4
theorem run_kept (A : Ads) (m : Mtr) (ok : (S_kept A).pre m) : p_kept A (endZ (S_kept A) m) (startD ["meter", "last", "bounds", "facts"] ((S_kept A).args m)) := by
  have ok : m.Ok := ok
  show p_kept A _ [some (.ro (.ins A.Meter ["ticks", "low", "high", "facts"] [.int m.T, .int m.lo, .int m.hi, .tup (m.fs.map MF.d)])), some (.ro (.int m.T)), some (.ro (.tup [.int m.lo, .int m.hi])), some (.ro (.lst (m.fs.map MF.d)))]
  unfold p_kept
  walk_at "pud"
  refine l_kCall (S := S_same 3) (.tup [.int m.T, .int m.lo, .int m.hi, .tup (m.fs.map MF.d)]) rfl ?_ (fun r hr => ?_) (fun e he => by cases he)
  · refine simp_tup (by show 4 ≤ 1000; decide) fun e he => ?_
    have : e = .int m.T ∨ e = .int m.lo ∨ e = .int m.hi ∨ e = .tup (m.fs.map MF.d) := by simpa using he
    rcases this with rfl | rfl | rfl | rfl
    · exact simp_int _ _
    · exact simp_int _ _
    · exact simp_int _ _
    · refine simp_tup (by rw [List.length_map]; have := ok.len; omega) fun e he => ?_
      obtain ⟨f, _, rfl⟩ := List.mem_map.mp he
      exact simp_mf f 0
  · cases hr
    rfl
theorem rules_full (T : Nat) (lo hi : Int) (fs : List MF) : Full (rules T lo hi fs) := fun f hf => by
  unfold rules at hf
  rcases List.mem_append.mp hf with hf | hf
  · obtain ⟨t, _, rfl⟩ := tick_mem.mp hf
    exact ⟨rfl, rfl⟩
  · obtain ⟨g, _, rfl⟩ := List.mem_map.mp hf
    cases g <;> exact ⟨rfl, rfl⟩
theorem run_holds (A : Ads) (x : Mtr × (Nat × Int)) (hp : (S_holds A).pre x) : p_holds A (endZ (S_holds A) x) (startD ["meter", "asked", "answer", "due", "last", "states", "told"] ((S_holds A).args x)) := by
  obtain ⟨m, v, most⟩ := x
  obtain ⟨ok, ⟨w1, w2⟩, h0, F0⟩ := hp
  have ok : m.Ok := ok
  have w1 : 1 ≤ v := w1
  have w2 : v ≤ m.T := w2
  have F0 : Fits m.facts h0 := F0
  have t24 := ok.t24
  have fl : m.facts.length ≤ 500 := by
    unfold Mtr.facts
    rw [rules_len]
    have := ok.len
    omega
  show p_holds A _ [some (.ro (m.d A)), some (.ro (.tup [.int v, .int most])), some (.ro (.tup [strsD (statesW m.facts m.T v most), .str (wordW m.facts m.T v most)])), some (.ro (factsD m.facts)), some (.ro (.int m.T)), none, none]
  have wok : WidthOk m v := ⟨by omega, by omega⟩
  unfold p_holds a3
  walk_at "pud"
  refine l_kCall (S := S_budget_states A) (m, v, most) rfl ok (fun r hr => ?_) (fun e he => ?_)
  rotate_left
  · rcases he with ⟨h, _⟩ | ⟨_, rs, L, _⟩ | ⟨_, _, h⟩
    · exact absurd wok h
    · exact absurd F0 (L.not_fits h0)
    · cases h
  rcases hr with ⟨h, _⟩ | ⟨_, rs, L, _⟩ | ⟨_, _, h⟩
  · exact absurd wok h
  · exact absurd F0 (L.not_fits h0)
  cases h
  rw [Int.toNat_natCast]
  have ls : (statesW m.facts m.T v most).length ≤ 1000 := by
    unfold statesW
    rw [List.length_map, List.length_range]
    omega
  unfold strsD
  generalize statesW m.facts m.T v most = sts at ls
  walk_at "pud"
  refine l_lend rfl (by walk_at "pu set") ?_
  walk_at "pud"
  refine l_kCall (S := S_same 1) (.lst (sts.map D.str)) rfl ?_ (fun r hr => ?_) (fun e he => by cases he)
  · refine simp_lst (by rw [List.length_map]; exact ls) fun e he => ?_
    obtain ⟨s, _, rfl⟩ := List.mem_map.mp he
    exact simp_str _ _
  cases hr
  refine ⟨trivial, ?_⟩
  walk_at "pud"
  refine l_clr rfl (by walk_at "pu set") ?_
  walk_at "pud"
  refine l_kApp (by walk_at "pu set") (by show 0 < 1000000; decide) ?_
  refine ⟨by show 6 < 7; decide, ?_⟩
  walk_at "pud"
  refine ⟨?_, (m, v, most), rfl, ok, fun r hr => ?_, rfl⟩
  · show (nls [.int m.T, .int m.lo, .int m.hi, .tup (m.fs.map MF.d)] && _) = true
    have := nl_mf m.fs
    simp [nls, nl, this]
    exact ⟨rfl, rfl⟩
  rcases hr with ⟨h, _⟩ | ⟨_, rs, L, _⟩ | ⟨_, _, t, tok, tw, h⟩
  · exact absurd wok h
  · exact absurd F0 (L.not_fits h0)
  cases h
  rw [Int.toNat_natCast] at tok tw
  obtain ⟨q1, q2⟩ := Told.simp tok (rules_ok ok.fok) t24 w1
  rw [t.d_eq]
  refine ⟨t.ds, rfl, q1, q2, ?_⟩
  rw [← t.d_eq]
  show pNot _ [some (.ro (m.d A)), some (.ro (.tup [.int v, .int most])), some (.ro (.tup [.lst (sts.map D.str), .str (wordW m.facts m.T v most)])), some (.ro (factsD m.facts)), some (.ro (.int m.T)), some (.own ([] ++ [.str "open"])), some (.ro t.d)] _ _
  rw [← tw]
  walk_at "pud"
  refine l_kCall (S := S__law_shown A) ⟨t, m.facts, m.T, v, most⟩ rfl ⟨tok, rules_ok ok.fok, rules_full _ _ _ _, t24, fl, w1, w2⟩ (fun r hr => ?_) (fun e he => by cases he)
  cases hr
  walk_at "pud"
  rfl
theorem l_seqM {Z : EndsD} {ρ : Ro} {p q : TSd} (M : Ro → Prop) (h2 : ∀ ρ', M ρ' → q Z ρ') (h1 : (∀ ρ', M ρ' → q Z ρ') → p { Z with nx := q Z } ρ) : pSeq p q Z ρ := h1 h2
theorem l_draw {A : Ads} {ns : List Int} {at_ k size : Int} {K : KD} {J : KX} (hl : ns.length ≤ 63) (ha : 0 ≤ at_ ∧ at_ ≤ 1000) (hk : 0 ≤ k ∧ k ≤ 1000) (hs : 0 < size) (h : ∀ v : Int, 0 ≤ v → v < size → K (.ro (.int v))) : kCall (S__law_draw A) K J [.scr ns, .int at_, .int k, .int size] := by
  refine l_kCall (S := S__law_draw A) ⟨ns, at_, k, size⟩ rfl ⟨⟨ha.1, ha.2, by show ns.length ≤ 1000; omega⟩, hk, hs⟩ (fun r hr => ?_) (fun e he => by obtain ⟨_, _, _, he⟩ := he; cases he)
  obtain ⟨v, h1, h2, hr⟩ := hr
  cases hr
  exact h v h1 h2
theorem atI_in {ds : List D} {v : Int} (h0 : 0 ≤ v) (h1 : v < ds.length) : ∃ d, atI ds v = some d ∧ d ∈ ds := by
  obtain ⟨k, rfl⟩ : ∃ k : Nat, v = k := ⟨v.toNat, by omega⟩
  have hk : k < ds.length := by omega
  exact ⟨ds[k], atI_nat (List.getElem?_eq_getElem hk), List.getElem_mem hk⟩
theorem plain_word (n : Nat) {s : Str} (h : s = "yes" ∨ s = "no" ∨ s = "open") : plain n (.str s) = true := by
  have e : plain n (.str s) = PyData.canLay0 (.str s) := by cases n <;> simp only [plain]
  rw [e]
  rcases h with rfl | rfl | rfl <;> decide +kernel
theorem stW_word (fs : List Fact) (most : Int) (a b : Nat) : stW fs most a b = "yes" ∨ stW fs most a b = "no" ∨ stW fs most a b = "open" := by
  unfold stW
  split
  · exact .inl rfl
  · split
    · exact .inr (.inl rfl)
    · exact .inr (.inr rfl)
theorem wordW_word (fs : List Fact) (T w : Nat) (most : Int) : wordW fs T w most = "yes" ∨ wordW fs T w most = "no" ∨ wordW fs T w most = "open" := by
  unfold wordW
  split
  · exact .inl rfl
  · split
    · exact .inr (.inl rfl)
    · exact .inr (.inr rfl)
theorem plains_of (n : Nat) : ∀ ds : List D, (∀ d ∈ ds, plain n d = true) → plains n ds = true
  | [], _ => by simp [plains]
  | d :: ds, h => by
    have h1 := h d List.mem_cons_self
    have h2 := plains_of n ds fun e he => h e (List.mem_cons_of_mem _ he)
    simp [plains, h1, h2]
theorem plain_ans (fs : List Fact) (T w : Nat) (most : Int) (n : Nat) : plain (n + 2) (ansD fs T w most) = true := by
  unfold ansD
  simp only [plain]
  refine plains_of _ _ fun d hd => ?_
  have : d = strsD (statesW fs T w most) ∨ d = .str (wordW fs T w most) := by simpa using hd
  rcases this with rfl | rfl
  · unfold strsD
    simp only [plain]
    refine plains_of _ _ fun d hd => ?_
    obtain ⟨s, hs, rfl⟩ := List.mem_map.mp hd
    unfold statesW at hs
    obtain ⟨k, _, rfl⟩ := List.mem_map.mp hs
    exact plain_word _ (stW_word _ _ _ _)
  · exact plain_word _ (wordW_word _ _ _ _)
theorem run_law (A : Ads) (ns : List Int) (hp : (S_law A).pre ns) : p_law A (endZ (S_law A) ns) (startD ["script", "large", "last", "bounds", "truth", "count", "facts", "budgets", "due", "meter", "answers", "width", "turn", "budget", "k"] ((S_law A).args ns)) := by
  have hl : ns.length ≤ 63 := hp
  show p_law A _ [some (.ro (.scr ns)), none, none, none, none, none, none, none, none, none, none, none, none, none, none]
  have cell : ∀ at_ : Int, 0 ≤ at_ → at_ ≤ 100 → CellOk ns at_ := fun at_ h1 h2 => ⟨h1, by omega, by omega⟩
  unfold p_law
  walk_at "pud"
  refine l_draw hl (by omega) (by omega) (by omega) fun v0 _ _ => ?_
  walk_at "pud"
  generalize decide (v0 = 0) = large
  refine l_draw hl (by omega) (by omega) (by omega) fun v1 h10 h11 => ?_
  obtain ⟨dl, e1, m1⟩ := atI_in (ds := [.int 1, .int 2, .int 3, .int 3, .int 4, .int 4, .int 5, .int 5]) h10 h11
  refine l_ixL e1 ?_
  obtain ⟨T, t1, t5, rfl⟩ : ∃ T : Nat, 1 ≤ T ∧ T ≤ 5 ∧ dl = .int T := by
    simp only [List.mem_cons, List.not_mem_nil, or_false] at m1
    rcases m1 with rfl | rfl | rfl | rfl | rfl | rfl | rfl | rfl
    all_goals first | exact ⟨1, by omega, by omega, rfl⟩ | exact ⟨2, by omega, by omega, rfl⟩ | exact ⟨3, by omega, by omega, rfl⟩ | exact ⟨4, by omega, by omega, rfl⟩ | exact ⟨5, by omega, by omega, rfl⟩
  clear e1 m1
  refine l_setR (by walk_at "pu set") ?_
  with_reducible refine l_seqM (fun ρ => ∃ T : Nat, (1 ≤ T ∧ T ≤ 24 ∧ (large = false → T ≤ 5)) ∧ ρ = [some (.ro (.scr ns)), some (.ro (.bl large)), some (.ro (.int T)), none, none, none, none, none, none, none, none, none, none, none, none]) ?_ (fun key => ?_)
  rotate_left
  · walk_at "pud"
    refine l_bT (fun hb => ?_) fun hb => ?_
    · walk_at "pud"
      refine l_draw hl (by omega) (by omega) (by omega) fun v2 h20 h21 => ?_
      walk_at "pud"
      refine l_draw hl (by omega) (by omega) (by omega) fun v3 h30 h31 => ?_
      obtain ⟨dl, e1, m1⟩ := atI_in (ds := [.int 24, .int (6 + v2)]) h30 h31
      refine l_ixL e1 ?_
      obtain ⟨T2, q1, q2, rfl⟩ : ∃ T : Nat, 1 ≤ T ∧ T ≤ 24 ∧ dl = .int T := by
        simp only [List.mem_cons, List.not_mem_nil, or_false] at m1
        rcases m1 with rfl | rfl
        · exact ⟨24, by omega, by omega, rfl⟩
        · obtain ⟨k, rfl⟩ : ∃ k : Nat, v2 = k := ⟨v2.toNat, by omega⟩
          exact ⟨6 + k, by omega, by omega, by congr 1⟩
      refine l_setR (by walk_at "pu set") ?_
      exact key _ ⟨T2, ⟨q1, q2, fun z => by rw [hb] at z; cases z⟩, rfl⟩
    · exact l_next (key _ ⟨T, ⟨t1, by omega, fun _ => t5⟩, rfl⟩)
  clear t1 t5 T
  rintro ρ ⟨T, ⟨t1, t24, t5⟩, rfl⟩
  walk_at "pud"
  refine l_kCall (S := S__law_bounds A) (ns, 1, large) rfl (cell 1 (by omega) (by omega)) (fun r hr => ?_) (fun e he => by obtain ⟨_, _, _, _, _, _, he⟩ := he; cases he)
  obtain ⟨lo, hi, lo0, le, hi6, h2, hr⟩ := hr
  cases hr
  have h2 : large = false → hi ≤ lo + 2 := h2
  walk_at "pud"
  refine l_kCall (S := S__law_truth A) ⟨ns, 2, T, lo, hi⟩ rfl ⟨cell 2 (by omega) (by omega), t24, le⟩ (fun r hr => ?_) (fun e he => by obtain ⟨_, _, he⟩ := he; cases he)
  obtain ⟨hs, ht, hr⟩ := hr
  cases hr
  have lh : hs.length = T + 1 := ht.len
  walk_at "pud"
  refine l_draw hl (by omega) (by omega) (by omega) fun v4 h40 h41 => ?_
  obtain ⟨c, rfl⟩ : ∃ k : Nat, v4 = k := ⟨v4.toNat, by omega⟩
  refine l_setR (by walk_at "pu set") ?_
  with_reducible refine l_seqM (fun ρ => ∃ c : Nat, c ≤ 99 ∧ ρ = [some (.ro (.scr ns)), some (.ro (.bl large)), some (.ro (.int T)), some (.ro (.tup [.int lo, .int hi])), some (.own (hs.map D.int)), some (.ro (.int c)), none, none, none, none, none, none, none, none, none]) ?_ (fun key => ?_)
  rotate_left
  · walk_at "pud"
    refine l_bT (fun hb => ?_) fun hb => ?_
    · walk_at "pud"
      refine l_draw hl (by omega) (by omega) (by omega) fun v5 h50 h51 => ?_
      walk_at "pud"
      refine l_dec (fun _ => ?_) fun _ => ?_
      · exact l_asg (l_c (l_setR (by walk_at "pu set") (key _ ⟨99, by omega, rfl⟩)))
      · exact l_next (key _ ⟨c, by omega, rfl⟩)
    · exact l_next (key _ ⟨c, by omega, rfl⟩)
  clear h40 h41 c
  rintro ρ ⟨c, c99, rfl⟩
  walk_at "pud"
  refine l_draw hl (by omega) (by omega) (by omega) fun v6 _ _ => ?_
  walk_at "pud"
  refine l_kCall (S := S__law_facts A) ⟨ns, 4, c, v6, hs⟩ rfl ⟨cell 4 (by omega) (by omega), by show (4 : Int) ≤ 900; omega, c99, by show 2 ≤ hs.length; omega⟩ (fun r hr => ?_) (fun e he => by obtain ⟨_, _, _, he⟩ := he; cases he)
  obtain ⟨fs, lf, okf, hr⟩ := hr
  cases hr
  have lf : fs.length = c := lf
  have okf : ∀ f ∈ fs, f.ok T := fun f hf => by
    have := okf f hf
    have e : hs.length - 1 = T := by omega
    rwa [show (FactsIn.hs ⟨ns, 4, c, v6, hs⟩).length - 1 = T from e] at this
  walk_at "pud"
  refine l_kCall (S := S__law_budget A) ⟨ns, 25, hs, lo, hi⟩ rfl ⟨cell 25 (by omega) (by omega), by show 2 ≤ hs.length; omega, by show hs.length ≤ 25; omega, ⟨lo0, by show lo ≤ 1000000; omega⟩, by show 0 ≤ hi; omega, hi6⟩ (fun r hr => ?_) (fun e he => by obtain ⟨_, _, _, _, he⟩ := he; cases he)
  obtain ⟨w1, m1, w11, w12, hr⟩ := hr
  cases hr
  have w12 : w1 ≤ hs.length - 1 := w12
  walk_at "pud"
  refine l_kCall (S := S__law_budget A) ⟨ns, 26, hs, lo, hi⟩ rfl ⟨cell 26 (by omega) (by omega), by show 2 ≤ hs.length; omega, by show hs.length ≤ 25; omega, ⟨lo0, by show lo ≤ 1000000; omega⟩, by show 0 ≤ hi; omega, hi6⟩ (fun r hr => ?_) (fun e he => by obtain ⟨_, _, _, _, he⟩ := he; cases he)
  obtain ⟨w2, m2, w21, w22, hr⟩ := hr
  cases hr
  have w22 : w2 ≤ hs.length - 1 := w22
  with_reducible refine l_nil ?_
  refine l_kLst (Nat.le_of_ble_eq_true rfl) ?_
  refine l_setO (by walk_at "pu set") ?_
  with_reducible show pFrz _ _ _ _
  refine l_frzR rfl ?_
  with_reducible refine l_seqM (fun ρ => ∃ (fs : List MF) (w2 : Nat) (m2 : Int), (fs.length ≤ 100 ∧ ∀ f ∈ fs, f.ok T) ∧ (1 ≤ w2 ∧ w2 ≤ T) ∧ ρ = [some (.ro (.scr ns)), some (.ro (.bl large)), some (.ro (.int T)), some (.ro (.tup [.int lo, .int hi])), some (.ro (.lst (hs.map D.int))), some (.ro (.int c)), some (.own (fs.map MF.d)), some (.own [.tup [.int w1, .int m1], .tup [.int w2, .int m2]]), none, none, none, none, none, none, none]) ?_ (fun key => ?_)
  rotate_left
  · walk_at "pud"
    refine l_draw hl (by omega) (by omega) (by omega) fun v7 _ _ => ?_
    walk_at "pud"
    refine l_dec (fun _ => ?_) fun _ => ?_
    · have g : hs[T]? = some hs[T] := List.getElem?_eq_getElem (by omega)
      have iT : atI (hs.map D.int) (T : Int) = some (.int hs[T]) := atI_map (f := D.int) g
      walk_at "pud"
      refine l_kApp (by walk_at "pu set") (by rw [List.length_map]; omega) ?_
      walk_at "pud"
      refine l_kCall (S := S__law_tied_budget A) (ns, 26, hs) rfl ⟨cell 26 (by omega) (by omega), by show 2 ≤ hs.length; omega, by show hs.length ≤ 25; omega⟩ (fun r hr => ?_) (fun e he => by obtain ⟨_, _, _, _, he⟩ := he; cases he)
      obtain ⟨w3, m3, w31, w32, hr⟩ := hr
      cases hr
      have w32 : w3 ≤ hs.length - 1 := w32
      walk_at "pud"
      refine l_kSI2 (n := 1) rfl (by walk_at "pu set") ?_
      with_reducible refine key _ ?_
      refine ⟨fs ++ [.rd T hs[T]], w3, m3, ⟨by rw [List.length_append, List.length_singleton]; omega, fun f hf => ?_⟩, ⟨w31, by omega⟩, ?_⟩
      · rcases List.mem_append.mp hf with hf | hf
        · exact okf f hf
        · have : f = .rd T hs[T] := by simpa using hf
          rw [this]
          exact ⟨t1, Nat.le_refl _⟩
      · rw [List.map_append]
        rfl
    · with_reducible refine l_next ?_
      with_reducible refine key _ ?_
      exact ⟨fs, w2, m2, ⟨by omega, okf⟩, ⟨w21, by omega⟩, rfl⟩
  rintro ρ ⟨fs, w2, m2, ⟨lf, okf⟩, ⟨w21, w22⟩, rfl⟩
  have w12 : w1 ≤ T := by omega
  have ok : Mtr.Ok ⟨T, lo, hi, fs⟩ := ⟨t1, t24, lo0, le, hi6, okf, lf⟩
  walk_at "pud"
  refine l_kCall (S := S__law_rules A) ⟨T, lo, hi, fs⟩ rfl ⟨t24, lf⟩ (fun r hr => ?_) (fun e he => by cases he)
  cases hr
  walk_at "pud"
  refine l_make ?_
  walk_at "pud"
  refine l_kMake (St := S_Meter) ⟨T, lo, hi, fs⟩ rfl ok ?_
  walk_at "pud"
  have aok : AnsIn.Ok ⟨T, lo, hi, fs, [(w1, m1), (w2, m2)], large⟩ := ⟨t1, t24, fun z => ⟨t5 z, h2 z⟩, lo0, le, hi6, okf, lf, fun b hb => by
    have : b = (w1, m1) ∨ b = (w2, m2) := by simpa using hb
    rcases this with rfl | rfl
    · exact ⟨w11, w12⟩
    · exact ⟨w21, w22⟩, Nat.le_refl _⟩
  refine l_kCall (S := S__law_answers A) ⟨T, lo, hi, fs, [(w1, m1), (w2, m2)], large⟩ rfl aok (fun r hr => ?_) (fun e he => by rcases he with ⟨_, he⟩ | ⟨_, he⟩ <;> cases he)
  have ha : ∃ ans : List D, r = .own ans ∧ (((∀ h, ¬ Fits (rules T lo hi fs) h) ∧ ans = []) ∨ ((∃ h, Fits (rules T lo hi fs) h) ∧ ans = [ansD (rules T lo hi fs) T w1 m1, ansD (rules T lo hi fs) T w2 m2])) := by
    rcases hr with ⟨h, hr⟩ | ⟨h, hr⟩
    · cases hr
      exact ⟨[], rfl, .inl ⟨h, rfl⟩⟩
    · cases hr
      exact ⟨_, rfl, .inr ⟨h, rfl⟩⟩
  obtain ⟨ans, rfl, ha⟩ := ha
  clear hr
  walk_at "pud"
  show kFor _ _ _ [some (.ro (.scr ns)), some (.ro (.bl large)), some (.ro (.int T)), some (.ro (.tup [.int lo, .int hi])), some (.ro (.lst (hs.map D.int))), some (.ro (.int c)), some (.ro (.lst (fs.map MF.d))), some (.ro (.lst [.tup [.int w1, .int m1], .tup [.int w2, .int m2]])), some (.ro (.lst ((rules T lo hi fs).map Fact.d))), some (.ro (Mtr.d A ⟨T, lo, hi, fs⟩)), some (.own ans), none, none, none, none] [.int 0, .int (-1), .int ((T : Int) + 1)]
  refine l_kFor (fun k ρ => ∃ o : Option S, ρ = [some (.ro (.scr ns)), some (.ro (.bl large)), some (.ro (.int T)), some (.ro (.tup [.int lo, .int hi])), some (.ro (.lst (hs.map D.int))), some (.ro (.int c)), some (.ro (.lst (fs.map MF.d))), some (.ro (.lst [.tup [.int w1, .int m1], .tup [.int w2, .int m2]])), some (.ro (.lst ((rules T lo hi fs).map Fact.d))), some (.ro (Mtr.d A ⟨T, lo, hi, fs⟩)), some (.own ans), o, none, none, none]) ⟨none, rfl⟩ ?_ ?_
  · rintro k d ρ hk ⟨o, rfl⟩
    obtain ⟨v, nv, rfl⟩ : ∃ v : Int, ¬ WidthOk ⟨T, lo, hi, fs⟩ v ∧ d = .int v := by
      have := List.mem_of_getElem? hk
      simp only [List.mem_cons, List.not_mem_nil, or_false] at this
      rcases this with rfl | rfl | rfl
      · exact ⟨0, fun z => by have := z.1; omega, rfl⟩
      · exact ⟨-1, fun z => by have := z.1; omega, rfl⟩
      · exact ⟨T + 1, fun z => by have : (T : Int) + 1 ≤ T := z.2; omega, rfl⟩
    walk_at "pud"
    refine l_kCall (S := S_refused A) (⟨T, lo, hi, fs⟩, v, m1) rfl ⟨ok, nv⟩ (fun r hr => ?_) (fun e he => by cases he)
    cases hr
    walk_at "pud"
    refine l_kCall (S := S_refused A) (⟨T, lo, hi, fs⟩, v, m1) rfl ⟨ok, nv⟩ (fun r hr => ?_) (fun e he => by cases he)
    cases hr
    walk_at "pud"
    exact ⟨_, rfl⟩
  · rintro ρ ⟨o, rfl⟩
    rcases ha with ⟨nf, rfl⟩ | ⟨⟨h0, F0⟩, rfl⟩
    · walk_at "pud"
      refine l_eqN (by simp [plains]) ?_
      walk_at "pud"
      refine l_kFor (fun k ρ => ∃ o2 : Option S, ρ = [some (.ro (.scr ns)), some (.ro (.bl large)), some (.ro (.int T)), some (.ro (.tup [.int lo, .int hi])), some (.ro (.lst (hs.map D.int))), some (.ro (.int c)), some (.ro (.lst (fs.map MF.d))), some (.ro (.lst [.tup [.int w1, .int m1], .tup [.int w2, .int m2]])), some (.ro (.lst ((rules T lo hi fs).map Fact.d))), some (.ro (Mtr.d A ⟨T, lo, hi, fs⟩)), some (.ro (.lst [])), o, none, o2, none]) ⟨none, rfl⟩ ?_ ?_
      · rintro k d ρ hk ⟨o2, rfl⟩
        obtain ⟨v, m, v1, v2, rfl⟩ : ∃ (v : Nat) (m : Int), 1 ≤ v ∧ v ≤ T ∧ d = .tup [.int v, .int m] := by
          have := List.mem_of_getElem? hk
          simp only [List.mem_cons, List.not_mem_nil, or_false] at this
          rcases this with rfl | rfl
          · exact ⟨w1, m1, w11, w12, rfl⟩
          · exact ⟨w2, m2, w21, w22, rfl⟩
        walk_at "pud"
        refine l_kCall (S := S_clash A) (⟨T, lo, hi, fs⟩, v, m) rfl ⟨ok, ⟨v1, v2⟩, nf⟩ (fun r hr => ?_) (fun e he => by cases he)
        cases hr
        walk_at "pud"
        refine l_kCall (S := S_clash A) (⟨T, lo, hi, fs⟩, v, m) rfl ⟨ok, ⟨v1, v2⟩, nf⟩ (fun r hr => ?_) (fun e he => by cases he)
        cases hr
        walk_at "pud"
        exact ⟨_, rfl⟩
      · rintro ρ ⟨o2, rfl⟩
        walk_at "pud"
        refine l_kCall (S := S_kept A) ⟨T, lo, hi, fs⟩ rfl ok (fun r hr => hr) (fun e he => by cases he)
    · walk_at "pud"
      refine l_eqN (by simp [plains, plain_ans _ _ _ _ 18]) ?_
      walk_at "pud"
      refine l_bT0 rfl ?_
      walk_at "pud"
      refine l_kFor (fun k ρ => ∃ o2 o3 : Option S, ρ = [some (.ro (.scr ns)), some (.ro (.bl large)), some (.ro (.int T)), some (.ro (.tup [.int lo, .int hi])), some (.ro (.lst (hs.map D.int))), some (.ro (.int c)), some (.ro (.lst (fs.map MF.d))), some (.ro (.lst [.tup [.int w1, .int m1], .tup [.int w2, .int m2]])), some (.ro (.lst ((rules T lo hi fs).map Fact.d))), some (.ro (Mtr.d A ⟨T, lo, hi, fs⟩)), some (.ro (.lst [ansD (rules T lo hi fs) T w1 m1, ansD (rules T lo hi fs) T w2 m2])), o, o2, none, o3]) ⟨none, none, rfl⟩ ?_ ?_
      · rintro k d ρ hk ⟨o2, o3, rfl⟩
        walk_at "pud"
        refine l_kFor (fun k ρ => ∃ o3 : Option S, ρ = [some (.ro (.scr ns)), some (.ro (.bl large)), some (.ro (.int T)), some (.ro (.tup [.int lo, .int hi])), some (.ro (.lst (hs.map D.int))), some (.ro (.int c)), some (.ro (.lst (fs.map MF.d))), some (.ro (.lst [.tup [.int w1, .int m1], .tup [.int w2, .int m2]])), some (.ro (.lst ((rules T lo hi fs).map Fact.d))), some (.ro (Mtr.d A ⟨T, lo, hi, fs⟩)), some (.ro (.lst [ansD (rules T lo hi fs) T w1 m1, ansD (rules T lo hi fs) T w2 m2])), o, some (.ro d), none, o3]) ⟨_, rfl⟩ ?_ ?_
        · rintro j d2 ρ hj ⟨o4, rfl⟩
          have hj1 : j < 2 := by
            have := (List.getElem?_eq_some_iff.mp hj).1
            rwa [rngD_len] at this
          rw [rngD_get (by show j < 2; exact hj1), Int.zero_add] at hj
          cases hj
          obtain ⟨v, m, v1, v2, i1, i2⟩ : ∃ (v : Nat) (m : Int), 1 ≤ v ∧ v ≤ T ∧ atI [D.tup [.int w1, .int m1], .tup [.int w2, .int m2]] (j : Int) = some (.tup [.int v, .int m]) ∧ atI [ansD (rules T lo hi fs) T w1 m1, ansD (rules T lo hi fs) T w2 m2] (j : Int) = some (ansD (rules T lo hi fs) T v m) := by
            rcases (by omega : j = 0 ∨ j = 1) with rfl | rfl
            · exact ⟨w1, m1, w11, w12, rfl, rfl⟩
            · exact ⟨w2, m2, w21, w22, rfl, rfl⟩
          walk_at "pud"
          refine l_kCall (S := S_holds A) (⟨T, lo, hi, fs⟩, v, m) rfl ⟨ok, ⟨v1, v2⟩, h0, F0⟩ (fun r hr => ?_) (fun e he => by cases he)
          cases hr
          walk_at "pud"
          exact ⟨_, rfl⟩
        · rintro ρ ⟨o4, rfl⟩
          exact ⟨_, _, rfl⟩
      · rintro ρ ⟨o2, o3, rfl⟩
        walk_at "pud"
        refine l_kCall (S := S_kept A) ⟨T, lo, hi, fs⟩ rfl ok (fun r hr => hr) (fun e he => by cases he)
end Pu
set_option maxHeartbeats 4000000
namespace Pu
open PySem PySem.Spec PyProof.Rows L2
theorem law_fn {w : World} {K : PySem.W.Frag} {mg : Str → Option Value} {base : Heap} (T : Ty K mg) {fd : FuncData} (F : FunD K d_law.name d_law.qual d_law.params d_law.body d_law.scope (d_law.dvs K) (d_law.kws K) (He.fAd K d_law.at_) fd) : FnOk Pw w K mg base (L2N.CX Pw w) 10 (He.fAd K d_law.at_) fd ["script"] (spD (S_law (ads K))) := by
  have E := T.e
  have XN := rf_NoHeights (w := w) (base := base) T
  have C_step_parts := cl_step_parts (P := Pw) (w := w) (base := base) T.x (run_step_parts (ads K))
  have C_all_steps := cl_all_steps (P := Pw) (w := w) (base := base) T.x C_step_parts (run_all_steps (ads K))
  have C_lowered := cl_lowered (P := Pw) (w := w) (base := base) T.x (run_lowered (ads K))
  have C_check_points := cl_check_points (P := Pw) (w := w) (base := base) T.x (run_check_points (ads K))
  have C_ring_through := cl_ring_through (P := Pw) (w := w) (base := base) T.x C_step_parts (run_ring_through (ads K))
  have C_ring_among := cl_ring_among (P := Pw) (w := w) (base := base) T.x C_ring_through C_step_parts (run_ring_among (ads K))
  have C_heights_or_ring := cl_heights_or_ring (P := Pw) (w := w) (base := base) T.x C_all_steps C_check_points C_lowered C_ring_among (run_heights_or_ring (ads K))
  have C_ways_from := cl_ways_from (P := Pw) (w := w) (base := base) T.x C_all_steps C_lowered (run_ways_from (ads K))
  have C_check_heights := cl_check_heights (P := Pw) (w := w) (base := base) T.x C_check_points C_heights_or_ring XN (run_check_heights (ads K))
  have C_cheapest_way := cl_cheapest_way (P := Pw) (w := w) (base := base) T.x C_check_heights C_step_parts C_ways_from (run_cheapest_way (ads K))
  have C_check_fact := cl_check_fact (P := Pw) (w := w) (base := base) T.x (run_check_fact (ads K))
  have C_meter_facts := cl_meter_facts (P := Pw) (w := w) (base := base) T.x (run_meter_facts (ads K))
  have C_check_width := cl_check_width (P := Pw) (w := w) (base := base) T.x (run_check_width (ads K))
  have C_limit_facts := cl_limit_facts (P := Pw) (w := w) (base := base) T.x (run_limit_facts (ads K))
  have C__law_cell := cl__law_cell (P := Pw) (w := w) (base := base) T.x (run__law_cell (ads K))
  have C__law_draw := cl__law_draw (P := Pw) (w := w) (base := base) T.x C__law_cell (run__law_draw (ads K))
  have C__law_is_number := cl__law_is_number (P := Pw) (w := w) (base := base) T.x (run__law_is_number (ads K))
  have C__law_bounds := cl__law_bounds (P := Pw) (w := w) (base := base) T.x C__law_draw (run__law_bounds (ads K))
  have C__law_truth := cl__law_truth (P := Pw) (w := w) (base := base) T.x C__law_draw (run__law_truth (ads K))
  have C__law_fact := cl__law_fact (P := Pw) (w := w) (base := base) T.x C__law_draw (run__law_fact (ads K))
  have C__law_wrong_fact := cl__law_wrong_fact (P := Pw) (w := w) (base := base) T.x C__law_draw (run__law_wrong_fact (ads K))
  have C__law_facts := cl__law_facts (P := Pw) (w := w) (base := base) T.x C__law_fact C__law_wrong_fact (run__law_facts (ads K))
  have C__law_rules := cl__law_rules (P := Pw) (w := w) (base := base) T.x (run__law_rules (ads K))
  have C__law_readings := cl__law_readings (P := Pw) (w := w) (base := base) T.x (run__law_readings (ads K))
  have C__law_relaxed := cl__law_relaxed (P := Pw) (w := w) (base := base) T.x (run__law_relaxed (ads K))
  have C__law_steps := cl__law_steps (P := Pw) (w := w) (base := base) T.x C__law_is_number (run__law_steps (ads K))
  have C__law_is_low_ring := cl__law_is_low_ring (P := Pw) (w := w) (base := base) T.x C__law_steps (run__law_is_low_ring (ads K))
  have C__law_is_way := cl__law_is_way (P := Pw) (w := w) (base := base) T.x C__law_steps (run__law_is_way (ads K))
  have C__law_budget := cl__law_budget (P := Pw) (w := w) (base := base) T.x C__law_draw (run__law_budget (ads K))
  have C__law_tied_budget := cl__law_tied_budget (P := Pw) (w := w) (base := base) T.x C__law_draw (run__law_tied_budget (ads K))
  have C__law_over := cl__law_over (P := Pw) (w := w) (base := base) T.x (run__law_over (ads K))
  have C__law_limits := cl__law_limits (P := Pw) (w := w) (base := base) T.x (run__law_limits (ads K))
  have C__law_is_run := cl__law_is_run (P := Pw) (w := w) (base := base) T.x C__law_is_number (run__law_is_run (ads K))
  have C__law_word := cl__law_word (P := Pw) (w := w) (base := base) T.x (run__law_word (ads K))
  have C__law_listed := cl__law_listed (P := Pw) (w := w) (base := base) T.x C__law_over C__law_word (run__law_listed (ads K))
  have C__law_reckoned := cl__law_reckoned (P := Pw) (w := w) (base := base) T.x C__law_limits C__law_relaxed (run__law_reckoned (ads K))
  have C__law_shown := cl__law_shown (P := Pw) (w := w) (base := base) T.x C__law_is_low_ring C__law_is_run C__law_is_way C__law_limits C__law_over (run__law_shown (ads K))
  have C_keep_lower := cl_keep_lower (P := Pw) (w := w) (base := base) T.x (run_keep_lower (ads K))
  have C_add_middles := cl_add_middles (P := Pw) (w := w) (base := base) T.x C_keep_lower (run_add_middles (ads K))
  have C_step_costs := cl_step_costs (P := Pw) (w := w) (base := base) T.x C_keep_lower (run_step_costs (ads K))
  have C_least_costs := cl_least_costs (P := Pw) (w := w) (base := base) T.x C_add_middles C_heights_or_ring C_step_costs XN (run_least_costs (ads K))
  have C__law_table := cl__law_table (P := Pw) (w := w) (base := base) T.x (run__law_table (ads K))
  have C_budget_states := cl_budget_states (P := Pw) (w := w) (base := base) T.x C_check_width C_least_costs C_meter_facts (run_budget_states (ads K))
  have C_overspent := cl_overspent (P := Pw) (w := w) (base := base) T.x C_cheapest_way C_check_width C_heights_or_ring C_least_costs C_limit_facts C_meter_facts (run_overspent (ads K))
  have C__law_answers := cl__law_answers (P := Pw) (w := w) (base := base) T.x C__law_listed C__law_readings C__law_reckoned C__law_relaxed C__law_table (run__law_answers (ads K))
  have H__law_is_number := ch__law_is_number (P := Pw) (w := w) (base := base) T.x (run__law_is_number (ads K))
  have H__law_steps := ch__law_steps (P := Pw) (w := w) (base := base) T.x H__law_is_number (run__law_steps (ads K))
  have H__law_is_low_ring := ch__law_is_low_ring (P := Pw) (w := w) (base := base) T.x H__law_steps (run__law_is_low_ring (ads K))
  have F0 := cl_frz0 (P := Pw) (w := w) (base := base) T.x run_frz0
  have F1 := cl_frzT (S := S_frz1) T.x F0 (fun _ => rfl) run_frz1
  have F2 := cl_frzL (S := S_frz2) T.x F1 (fun _ => rfl) run_frz2
  have M_Meter := cl_Meter T.x C_check_fact F2 (run_Meter (ads K))
  have S0 := cl_same0 T.x C__law_is_number (run_same0 (ads K))
  have S1 := cl_sameS (by decide) T.x C__law_is_number S0 (run_sameS (ads K) 0)
  have S2 := cl_sameS (by decide) T.x C__law_is_number S1 (run_sameS (ads K) 1)
  have S3 := cl_sameS (by decide) T.x C__law_is_number S2 (run_sameS (ads K) 2)
  have C__law_states_refused := cl__law_states_refused (P := Pw) (w := w) (base := base) T C_budget_states (run_refused (ads K) K _ E.exM _ (.inl rfl))
  have C__law_spent_refused := cl__law_spent_refused (P := Pw) (w := w) (base := base) T C_overspent (run_refused (ads K) K _ E.exM _ (.inr rfl))
  have C__law_states_clash := cl__law_states_clash (P := Pw) (w := w) (base := base) T C_budget_states H__law_is_low_ring (run_clash (ads K) K _ E.exN _ (.inl rfl))
  have C__law_spent_clash := cl__law_spent_clash (P := Pw) (w := w) (base := base) T C_overspent H__law_is_low_ring (run_clash (ads K) K _ E.exN _ (.inr rfl))
  have C__law_is_kept := cl__law_is_kept (P := Pw) (w := w) (base := base) T.x S3 (run_kept (ads K))
  have C__law_spoil := cl__law_spoil (P := Pw) (w := w) (base := base) T.x
  have C__law_holds := cl__law_holds (P := Pw) (w := w) (base := base) T.x C_budget_states C_overspent S1 C__law_shown C__law_spoil (run_holds (ads K))
  exact fn_law T.x F C__law_answers C__law_bounds C__law_budget C__law_draw C__law_facts C__law_holds C__law_is_kept C__law_rules C__law_spent_clash C__law_spent_refused C__law_states_clash C__law_states_refused C__law_tied_budget C__law_truth M_Meter (run_law (ads K))
theorem fn_calm {P : Program} {w : World} {K : PySem.W.Frag} {mg : Str → Option Value} {base : Heap} {k : Nat} {f : Addr} {fd : FuncData} {ps : List Str} {sp : Sp} (F : FnOk P w K mg base (L2N.CX P w) k f fd ps sp) :
    FnOk P w K mg base CX0 k f fd ps (fun vs H Q _ => sp vs H Q fun _ _ _ => False) :=
  ⟨fun vs H Q _ q => F.len vs H Q _ q, fun A outer s H args us vs Q _ hr he hb hv hs => codeAny_mono (F.run A outer s H args us vs Q _ hr he hb hv hs) fun r s' h => by
    cases r with
    | error e =>
      obtain ⟨_, _, _, _, _, _, _, _, _, _, _, _, z⟩ := (show L2N.CX P w outer H s (fun _ _ _ => False) e s' from h)
      exact z.elim
    | ok v => cases v <;> exact h⟩
def spLaw (K : PySem.W.Frag) : Sp := fun vs H Q _ => spD (S_law (ads K)) vs H Q fun _ _ _ => False
theorem sp_law {K : PySem.W.Frag} (nl : NoL K) (H : Hp) (a : Addr) (ns : List Int) (hl : ns.length ≤ 63) (ho : Only H) (hS : SqL K H a (ns.map V.int)) : spLaw K [.ref a] H (fun v _ => v = .bl true) fun _ _ _ => False := by
  have hf : ∃ o, H a = some (.frz o (.lst (ns.map V.int))) := by
    rcases hS with (h | h) | h
    · rcases ho a with q | ⟨o, xs, q⟩
      · rw [h] at q; cases q
      · rw [h] at q; cases q
    · exact h
    · obtain ⟨o, _, _, lk, hc, _⟩ := h
      exact absurd hc (nl _ _ lk)
  obtain ⟨o, hf⟩ := hf
  refine ⟨ns, H, Same.refl _, ⟨_, [], rfl, ⟨a, o, rfl, hf⟩, rfl⟩, hl, fun r hr => ?_, fun e he => ?_⟩
  · have : r = .ro (.bl true) := by cases hr; rfl
    subst this
    exact fun v Hb' H' _ d => d
  · cases he
theorem factsY {w : World} {K : PySem.W.Frag} {h : Heap} {mg : Str → Option Value} {f : Addr} (X : K.In h) (G : h.Ns mainGlobals mg) (hf : mg ("law" : Str) = some (.ref f)) (c : SaysY K) :
    ∃ fd : FuncData, (∀ (s : Shared) (v : Value), BindsTo s fd ⟨[v], []⟩ [("script", v)]) ∧ ∀ base : Heap, K.In base → base.Ns mainGlobals mg → FnOk Pw w K mg base CX0 10 f fd ["script"] (spLaw K) := by
  have T : Ty K mg := ⟨⟨c.says, h, X, G⟩, c.ex, c.ini⟩
  obtain ⟨fd, F⟩ := T.x.fn 54 (d := d_law) rfl
  have e := hf.symm.trans (T.x.glo 54 (x := "law") rfl)
  have e : f = He.fAd K d_law.at_ := by cases e; rfl
  subst e
  have b := FunD.bindsA (ps := ["script"]) F fun _ _ _ _ _ _ us hl => match us, hl with | [_], _ => rfl
  exact ⟨fd, fun s v => b s [v] rfl, fun base _ _ => fn_calm (law_fn T F)⟩
end Pu
open PySem PySem.W PySem.Calls PyProof.Rows
theorem PySem.Challenge.cw_surelyseen_k43_whole_overspent_holds : PySem.Challenge.rw_surelyseen_k43_whole_overspent.Holds := by
  refine Pu.law_head ?_
  refine L2.walk_ofE (l := PySem.Challenge.rw_surelyseen_k43_whole_overspent) (n := 63) (k := 10) (x := "script") (CX := L2.CX0) rfl (by decide) (by kernel_rfl) ⟨rfl, by decide, by decide⟩ ?F (fun _ _ _ _ z => z)
  intro w mg fa h Y G hmg0
  obtain ⟨K, KX, c⟩ := Y
  have hmg : mg ("law" : PySem.Str) = some (.ref fa) := by
    have e : (HandSHeadRun.topDef (OpenLaw.row PySem.Challenge.rw_surelyseen_k43_whole_overspent).prog 68).name = ("law" : PySem.Str) := by kernel_rfl
    rw [← e]
    exact hmg0
  obtain ⟨fd, hb, hF⟩ := Pu.factsY (w := w) KX G hmg c
  exact ⟨K, fd, Pu.spLaw K, KX, hb, fun H a ns hl ho hS => Pu.sp_law c.noL H a ns hl ho hS, hF⟩
