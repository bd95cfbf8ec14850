import PyProof.Rows.All
import Wide.All
import OpenK.AllK
import Wide.FinOn
import HandS.ForMost
import HandS.Exc
import HandS.TryMany
import HandS.ExcInit
import HandS.IsInst
import HandS.Conv
import HandS.WideBits
import HandS.SortInts
import HandS.Zip
import HandS.Deep
import HandS.Defaults
import HandS.Style
import PySem.Challenge.RW_showneither_k70_whole_batches_and_merged
import HandS.TupAny
import HandS.TupLe
import HandS.TupMul
import KE.KTupSum
import HandS.RaiseMore
import HandS.WordsExc
import HandS.ExcOwn
import HandS.NoneIn
import HandS.HeadEnd
import KE.GoesEnum
import KE.GoesMore
import KE.GoesZip
import HandS.More
import HandS.Strs
import PyProof.Rows.SetFrom
import HandS.SetFor
import KE.KItemsList
set_option Elab.async false
set_option linter.all false
set_option maxRecDepth 100000
set_option maxHeartbeats 4000000
namespace Sim
open PySem PySem.Spec PyProof.Rows L2
abbrev P := PyData
/-- a value: data, or a cell (a list that is shared and changed) -/
inductive D where
  | d (p : P)
  | cell (n : Nat)
  | scr (xs : List Int)
  | bor (p : P)
  | nest (ns : List Nat)
  deriving Inhabited
abbrev G := List (List P)
structure Exn where
  cls : Str
  ns : List Str
  vs : List P
inductive R (α : Type) where
  | ok (a : α) (g : G) | err (e : Exn) (g : G) | stuck
abbrev M (α : Type) := G → R α
def R.bind {α β : Type} : R α → (α → G → R β) → R β
  | .ok a g, k => k a g
  | .err e g, _ => .err e g
  | .stuck, _ => .stuck
def keyP : Key → P
  | .inl i => .int i
  | .inr x => .str x
/-- a list of the written part -/
def KL (K : PySem.W.Frag) (a : Addr) (xs : List V) : Prop :=
  ∃ (o : Obj) (its : Array Value) (n : Nat), K.lookup a = some o ∧ o.cls = .type "list" ∧ o.dict = none ∧ o.data = .seq its n ∧ its.size ≤ sizeLine ∧ Vals xs its.toList
section
variable (K : PySem.W.Frag) (F : Addr → Prop) (H : Hp)
mutual
def Rep : P → V → Prop
  | .none, v => v = .non
  | .bool b, v => v = .bl b
  | .int i, v => v = .int i
  | .str x, v => v = .str x
  | .tuple ds, v => ∃ a vs, v = .ref a ∧ SqT K H a vs ∧ Reps ds vs
  | .list ds, v => ∃ a vs, v = .ref a ∧ H a = some (.lst vs) ∧ ¬ F a ∧ Reps ds vs
  | .dict kvs, v => ∃ a l, v = .ref a ∧ Rd H a (.dK l) ∧ ¬ F a ∧ RepKv kvs l
def Reps : List P → List V → Prop
  | [], vs => vs = []
  | d :: ds, vs => ∃ v r, vs = v :: r ∧ Rep d v ∧ Reps ds r
def RepKv : List (P × P) → List (Key × V) → Prop
  | [], l => l = []
  | (k, d) :: r, l => ∃ kk v l', l = (kk, v) :: l' ∧ k = keyP kk ∧ Rep d v ∧ RepKv r l'
end
/-- a list whose items are cells -/
def NestR (et : List Addr) : List Nat → List V → Prop
  | [], vs => vs = []
  | n :: ns, vs => ∃ a r, vs = .ref a :: r ∧ et[n]? = some a ∧ NestR et ns r
def RepD (et : List Addr) : D → V → Prop
  | .nest ns, v => ∃ a vs, v = .ref a ∧ H a = some (.lst vs) ∧ ¬ F a ∧ NestR et ns vs
  | .d p, v => Rep K F H p v
  | .cell n, v => ∃ a, v = .ref a ∧ et[n]? = some a
  | .scr xs, v => ∃ a, v = .ref a ∧ ((Rd H a (.lst (xs.map V.int)) ∧ ¬ F a) ∨ KL K a (xs.map V.int))
  | .bor (.list ds), v => ∃ a vs, v = .ref a ∧ H a = some (.lst vs) ∧ a ∉ et ∧ Reps K F H ds vs
  | .bor (.dict ds), v => ∃ a vs, v = .ref a ∧ H a = some (.dK vs) ∧ a ∉ et ∧ RepKv K F H ds vs
  | .bor _, _ => False
/-- no value of an own object -/
def D.nb : D → Prop
  | .bor _ => False
  | _ => True
def RepDs (et : List Addr) : List D → List V → Prop
  | [], vs => vs = []
  | d :: ds, vs => ∃ v r, vs = v :: r ∧ RepD K F H et d v ∧ RepDs et ds r
end
/-- from H to H': all that was tracked is kept but the cells and the frame's own objects -/
structure Fr (O : List Addr) (et et' : List Addr) (H H' : Hp) : Prop where
  ext : ∃ t, et' = et ++ t
  new : ∀ a ∈ et', a ∈ et ∨ H a = none
  keep : ∀ a o, H a = some o → a ∉ et → a ∉ O → H' a = some o
  tup : ∀ a xs, Rd H a (.tup xs) → Rd H' a (.tup xs)
  dom : ∀ a, H a ≠ none → H' a ≠ none
theorem Fr.refl (O et : List Addr) (H : Hp) : Fr O et et H H :=
  ⟨⟨[], by simp⟩, fun _ h => .inl h, fun _ _ h _ _ => h, fun _ _ h => h, fun _ h => h⟩
theorem Fr.trans {O et e1 e2 : List Addr} {H H1 H2 : Hp} (a : Fr O et e1 H H1) (b : Fr O e1 e2 H1 H2) : Fr O et e2 H H2 := by
  refine ⟨?_, fun x hx => ?_, fun x o e h1 h2 => ?_, fun x xs h => b.tup x xs (a.tup x xs h), fun x h => b.dom x (a.dom x h)⟩
  · obtain ⟨t, rfl⟩ := a.ext
    obtain ⟨u, rfl⟩ := b.ext
    exact ⟨t ++ u, by simp⟩
  · rcases b.new x hx with h | h
    · exact a.new x h
    · by_cases q : H x = none
      · exact .inr q
      · exact absurd h (a.dom x q)
  · refine b.keep x o (a.keep x o e h1 h2) (fun h => ?_) h2
    rcases a.new x h with h | h
    · exact h1 h
    · rw [e] at h; cases h
theorem Fr.same {O et : List Addr} {H H' : Hp} (s : Same H H') : Fr O et et H H' :=
  ⟨⟨[], by simp⟩, fun _ h => .inl h, fun _ _ h _ _ => s _ _ h, fun a xs h => h.elim (fun q => .inl (s _ _ q)) (fun ⟨o, q⟩ => .inr ⟨o, s _ _ q⟩),
    fun a h q => by
      cases e : H a with
      | none => exact h e
      | some o => rw [s _ _ e] at q; cases q⟩
theorem Fr.weak {O O' et et' : List Addr} {H H' : Hp} (a : Fr O et et' H H') (h : ∀ x ∈ O, x ∈ O' ∨ H x = none) : Fr O' et et' H H' :=
  ⟨a.ext, a.new, fun x o e h1 h2 => a.keep x o e h1 (fun hm => (h x hm).elim h2 (fun q => by rw [e] at q; cases q)), a.tup, a.dom⟩
theorem same_new {H : Hp} {p : Addr} {o : HO} (h : H p = none) : Same H (upd H p o) := fun b x e => by
  rw [upd_ne (ne_of_none e h)]; exact e
theorem Fr.get {O et et' : List Addr} {H H' : Hp} (a : Fr O et et' H H') {n : Nat} {x : Addr} (h : et[n]? = some x) : et'[n]? = some x := by
  obtain ⟨t, rfl⟩ := a.ext
  have : n < et.length := (List.getElem?_eq_some_iff.mp h).1
  rw [List.getElem?_append_left this]; exact h
theorem Fr.rd {O et et' : List Addr} {H H' : Hp} (a : Fr O et et' H H') {x : Addr} {u : HO} (h : Rd H x u) (h1 : x ∉ et) (h2 : x ∉ O) : Rd H' x u :=
  h.elim (fun q => .inl (a.keep _ _ q h1 h2)) (fun ⟨o, q⟩ => .inr ⟨o, a.keep _ _ q h1 h2⟩)
theorem scr_sql {K : PySem.W.Frag} {F : Addr → Prop} {H : Hp} {a : Addr} {xs : List V} (h : (Rd H a (.lst xs) ∧ ¬ F a) ∨ KL K a xs) : SqL K H a xs := h.elim (fun q => .inl q.1) .inr
theorem rd_dom {H : Hp} {a : Addr} {u : HO} (h : Rd H a u) : H a ≠ none := fun q => by
  rcases h with h | ⟨o, h⟩ <;> (rw [h] at q; cases q)
theorem NestR.fr {O et et' : List Addr} {H H' : Hp} (a : Fr O et et' H H') : ∀ {ns : List Nat} {vs : List V}, NestR et ns vs → NestR et' ns vs
  | [], _, h => h
  | _ :: _, _, ⟨x, r, e, h1, h2⟩ => ⟨x, r, e, a.get h1, NestR.fr a h2⟩
section
variable {K : PySem.W.Frag} {F F' : Addr → Prop} {O et et' : List Addr} {H H' : Hp}
mutual
theorem Rep.mono (fr : Fr O et et' H H') (hO : ∀ a ∈ O, F a) (he : ∀ a ∈ et, F a) (hF : ∀ a, F' a → F a ∨ H a = none) : ∀ (d : P) (v : V), Rep K F H d v → Rep K F' H' d v
  | .none, v, h => h
  | .bool b, v, h => h
  | .int i, v, h => h
  | .str x, v, h => h
  | .tuple ds, v, h => by
    obtain ⟨a, vs, rfl, h1, h2⟩ := h
    refine ⟨a, vs, rfl, ?_, Reps.mono fr hO he hF ds vs h2⟩
    rcases h1 with h1 | h1
    · exact .inl (fr.tup _ _ h1)
    · exact .inr h1
  | .list ds, v, h => by
    obtain ⟨a, vs, rfl, h1, h2, h3⟩ := h
    exact ⟨a, vs, rfl, fr.keep _ _ h1 (fun q => h2 (he _ q)) (fun q => h2 (hO _ q)), fun q => (hF _ q).elim h2 (fun z => by rw [h1] at z; cases z), Reps.mono fr hO he hF ds vs h3⟩
  | .dict kvs, v, h => by
    obtain ⟨a, vs, rfl, h1, h2, h3⟩ := h
    exact ⟨a, vs, rfl, fr.rd h1 (fun q => h2 (he _ q)) (fun q => h2 (hO _ q)), fun q => (hF _ q).elim h2 (rd_dom h1), RepKv.mono fr hO he hF kvs vs h3⟩
theorem Reps.mono (fr : Fr O et et' H H') (hO : ∀ a ∈ O, F a) (he : ∀ a ∈ et, F a) (hF : ∀ a, F' a → F a ∨ H a = none) : ∀ (ds : List P) (vs : List V), Reps K F H ds vs → Reps K F' H' ds vs
  | [], _, h => h
  | d :: ds, _, h => by
    obtain ⟨v, r, rfl, h1, h2⟩ := h
    exact ⟨v, r, rfl, Rep.mono fr hO he hF d v h1, Reps.mono fr hO he hF ds r h2⟩
theorem RepKv.mono (fr : Fr O et et' H H') (hO : ∀ a ∈ O, F a) (he : ∀ a ∈ et, F a) (hF : ∀ a, F' a → F a ∨ H a = none) : ∀ (ds : List (P × P)) (vs : List (Key × V)), RepKv K F H ds vs → RepKv K F' H' ds vs
  | [], _, h => h
  | (k, d) :: ds, _, h => by
    obtain ⟨kk, v, r, rfl, hk, h1, h2⟩ := h
    exact ⟨kk, v, r, rfl, hk, Rep.mono fr hO he hF d v h1, RepKv.mono fr hO he hF ds r h2⟩
end
theorem RepD.mono (fr : Fr O et et' H H') (hO : ∀ a ∈ O, F a) (he : ∀ a ∈ et, F a) (hF : ∀ a, F' a → F a ∨ H a = none) : ∀ (d : D) (v : V), (O = [] ∨ d.nb) → RepD K F H et d v → RepD K F' H' et' d v
  | .d p, v, _, h => Rep.mono fr hO he hF p v h
  | .cell n, v, _, h => by
    obtain ⟨a, rfl, h1⟩ := h
    exact ⟨a, rfl, fr.get h1⟩
  | .scr xs, v, _, h => by
    obtain ⟨a, rfl, h1⟩ := h
    refine ⟨a, rfl, h1.imp (fun ⟨h1, h2⟩ => ?_) id⟩
    exact ⟨fr.rd h1 (fun q => h2 (he _ q)) (fun q => h2 (hO _ q)), fun q => (hF _ q).elim h2 (rd_dom h1)⟩
  | .nest ns, v, _, h => by
    obtain ⟨a, vs, rfl, h1, h2, h3⟩ := h
    exact ⟨a, vs, rfl, fr.keep _ _ h1 (fun q => h2 (he _ q)) (fun q => h2 (hO _ q)), fun q => (hF _ q).elim h2 (fun z => by rw [h1] at z; cases z), h3.fr fr⟩
  | .bor p, v, hn, h => by
    rcases hn with hn | hn
    · subst hn
      have nw : ∀ {a : Addr} {o : HO}, H a = some o → a ∉ et → a ∉ et' := fun {a o} e q z => (fr.new a z).elim q (fun y => by rw [e] at y; cases y)
      cases p with
      | list ds =>
        obtain ⟨a, vs, rfl, h1, h2, h3⟩ := h
        exact ⟨a, vs, rfl, fr.keep _ _ h1 h2 (fun q => nomatch q), nw h1 h2, Reps.mono fr hO he hF ds vs h3⟩
      | dict ds =>
        obtain ⟨a, vs, rfl, h1, h2, h3⟩ := h
        exact ⟨a, vs, rfl, fr.keep _ _ h1 h2 (fun q => nomatch q), nw h1 h2, RepKv.mono fr hO he hF ds vs h3⟩
      | _ => exact h.elim
    · exact hn.elim
theorem RepDs.mono (fr : Fr O et et' H H') (hO : ∀ a ∈ O, F a) (he : ∀ a ∈ et, F a) (hF : ∀ a, F' a → F a ∨ H a = none) : ∀ (ds : List D) (vs : List V), (O = [] ∨ ∀ d ∈ ds, d.nb) → RepDs K F H et ds vs → RepDs K F' H' et' ds vs
  | [], _, _, h => h
  | d :: ds, _, hn, h => by
    obtain ⟨v, r, rfl, h1, h2⟩ := h
    exact ⟨v, r, rfl, RepD.mono fr hO he hF d v (hn.imp id fun q => q d List.mem_cons_self) h1, RepDs.mono fr hO he hF ds r (hn.imp id fun q x hx => q x (List.mem_cons_of_mem _ hx)) h2⟩
end
section
variable {K : PySem.W.Frag} {F : Addr → Prop} {H : Hp}
theorem Reps.length : ∀ {ds : List P} {vs : List V}, Reps K F H ds vs → ds.length = vs.length
  | [], _, h => by have h : _ = [] := h; subst h; rfl
  | d :: ds, _, h => by
    obtain ⟨v, r, rfl, _, h2⟩ := h
    simp [Reps.length h2]
theorem RepDs.length {et : List Addr} : ∀ {ds : List D} {vs : List V}, RepDs K F H et ds vs → ds.length = vs.length
  | [], _, h => by have h : _ = [] := h; subst h; rfl
  | d :: ds, _, h => by
    obtain ⟨v, r, rfl, _, h2⟩ := h
    simp [RepDs.length h2]
theorem Reps.get : ∀ {ds : List P} {vs : List V} {i : Nat} {d : P}, Reps K F H ds vs → ds[i]? = some d → ∃ v, vs[i]? = some v ∧ Rep K F H d v
  | [], _, _, _, _, e => by simp at e
  | d :: ds, _, 0, d', h, e => by
    obtain ⟨v, r, rfl, h1, _⟩ := h
    simp at e; subst e
    exact ⟨v, rfl, h1⟩
  | d :: ds, _, i + 1, d', h, e => by
    obtain ⟨v, r, rfl, _, h2⟩ := h
    simp at e
    obtain ⟨u, hu, hr⟩ := Reps.get h2 e
    exact ⟨u, by simpa using hu, hr⟩
theorem Reps.getV {ds : List P} {vs : List V} {i : Nat} {v : V} (h : Reps K F H ds vs) (e : vs[i]? = some v) : ∃ d, ds[i]? = some d ∧ Rep K F H d v := by
  have hl := h.length
  have : i < ds.length := by rw [hl]; exact (List.getElem?_eq_some_iff.mp e).1
  obtain ⟨u, hu, hr⟩ := h.get (List.getElem?_eq_getElem this)
  rw [hu] at e; cases e
  exact ⟨_, List.getElem?_eq_getElem this, hr⟩
theorem Reps.append : ∀ {ds es : List P} {vs us : List V}, Reps K F H ds vs → Reps K F H es us → Reps K F H (ds ++ es) (vs ++ us)
  | [], _, _, _, h, h' => by have h : _ = [] := h; subst h; exact h'
  | d :: ds, _, _, _, h, h' => by
    obtain ⟨v, r, rfl, h1, h2⟩ := h
    exact ⟨v, r ++ _, rfl, h1, Reps.append h2 h'⟩
theorem Reps.one {d : P} {v : V} (h : Rep K F H d v) : Reps K F H [d] [v] := ⟨v, [], rfl, h, rfl⟩
theorem Reps.drop : ∀ {ds : List P} {vs : List V} (n : Nat), Reps K F H ds vs → Reps K F H (ds.drop n) (vs.drop n)
  | [], _, n, h => by have h : _ = [] := h; subst h; cases n <;> exact rfl
  | d :: ds, _, 0, h => h
  | d :: ds, _, n + 1, h => by
    obtain ⟨v, r, rfl, h1, h2⟩ := h
    exact Reps.drop n h2
theorem Reps.take : ∀ {ds : List P} {vs : List V} (n : Nat), Reps K F H ds vs → Reps K F H (ds.take n) (vs.take n)
  | [], _, n, h => by have h : _ = [] := h; subst h; cases n <;> exact rfl
  | d :: ds, _, 0, h => rfl
  | d :: ds, _, n + 1, h => by
    obtain ⟨v, r, rfl, h1, h2⟩ := h
    exact ⟨v, r.take n, rfl, h1, Reps.take n h2⟩
theorem Reps.set {d : P} {v : V} (hv : Rep K F H d v) : ∀ {ds : List P} {vs : List V} (n : Nat), Reps K F H ds vs → Reps K F H (ds.set n d) (vs.set n v)
  | [], _, n, h => by have h : _ = [] := h; subst h; cases n <;> exact rfl
  | e :: ds, _, 0, h => by
    obtain ⟨u, r, rfl, h1, h2⟩ := h
    exact ⟨v, r, rfl, hv, h2⟩
  | e :: ds, _, n + 1, h => by
    obtain ⟨u, r, rfl, h1, h2⟩ := h
    exact ⟨u, r.set n v, rfl, h1, Reps.set hv n h2⟩
theorem Reps.ints : ∀ {ns : List Int} {vs : List V}, Reps K F H (ns.map PyData.int) vs → vs = ns.map V.int
  | [], _, h => h
  | n :: ns, _, h => by
    obtain ⟨v, r, rfl, h1, h2⟩ := h
    have h1 : v = .int n := h1
    rw [Reps.ints h2, h1]; rfl
theorem reps_ints : ∀ (ns : List Int), Reps K F H (ns.map PyData.int) (ns.map V.int)
  | [] => rfl
  | n :: ns => ⟨.int n, ns.map V.int, rfl, rfl, reps_ints ns⟩
theorem Reps.bls : ∀ {ns : List Bool} {vs : List V}, Reps K F H (ns.map PyData.bool) vs → vs = ns.map V.bl
  | [], _, h => h
  | n :: ns, _, h => by
    obtain ⟨v, r, rfl, h1, h2⟩ := h
    have h1 : v = .bl n := h1
    rw [Reps.bls h2, h1]; rfl
mutual
theorem Rep.dp : ∀ {d : P} {v : V}, d.canLay0 = true → Rep K F H d v → Dp K H v d
  | .none, _, _, h => by have h : _ = V.non := h; subst h; exact .non
  | .bool b, _, _, h => by have h : _ = V.bl b := h; subst h; exact .bl b
  | .int b, _, _, h => by have h : _ = V.int b := h; subst h; exact .int b
  | .str b, _, _, h => by have h : _ = V.str b := h; subst h; exact .str b
  | .list ds, _, hl, h => by
    obtain ⟨a, vs, rfl, h1, _, h3⟩ := h
    exact .lst (.inl (.inl h1)) (Reps.dp (by simpa [PyData.canLay0] using hl) h3)
  | .tuple ds, _, hl, h => by
    obtain ⟨a, vs, rfl, h1, h3⟩ := h
    exact .tup h1 (Reps.dp (by simpa [PyData.canLay0] using hl) h3)
  | .dict _, _, hl, _ => by simp [PyData.canLay0] at hl
theorem Reps.dp : ∀ {ds : List P} {vs : List V}, PyData.canLayAll0 ds = true → Reps K F H ds vs → DpAll K H vs ds
  | [], _, _, h => by have h : _ = [] := h; subst h; exact .nil
  | d :: ds, _, hl, h => by
    obtain ⟨v, r, rfl, h1, h2⟩ := h
    have hl' : d.canLay0 = true ∧ PyData.canLayAll0 ds = true := by simpa [PyData.canLayAll0] using hl
    exact .cons (Rep.dp hl'.1 h1) (Reps.dp hl'.2 h2)
end
end
/-- what must not stand within plain data: the callers' own objects, the cells, this frame's own objects -/
def FF (B : Addr → Prop) (et O : List Addr) : Addr → Prop := fun a => B a ∨ a ∈ et ∨ a ∈ O
structure Cells (K : PySem.W.Frag) (F : Addr → Prop) (et : List Addr) (g : G) (H : Hp) : Prop where
  nd : et.Nodup
  len : et.length = g.length
  at_ : ∀ (n : Nat) (a : Addr) (ds : List P), et[n]? = some a → g[n]? = some ds → ∃ vs, H a = some (.lst vs) ∧ Reps K F H ds vs
inductive Sl where
  | un | sh (d : D) | own (d : P)
  deriving Inhabited
abbrev En := List Sl
def SlotR (K : PySem.W.Frag) (F : Addr → Prop) (et O : List Addr) (H : Hp) : Sl → Option (Option V) → Prop
  | .un, _ => True
  | .sh d, x => d.nb ∧ ∃ v, x = some (some v) ∧ RepD K F H et d v
  | .own (.list ds), x => ∃ a vs, x = some (some (.ref a)) ∧ a ∈ O ∧ H a = some (.lst vs) ∧ Reps K F H ds vs
  | .own (.dict kvs), x => ∃ a l, x = some (some (.ref a)) ∧ a ∈ O ∧ H a = some (.dK l) ∧ RepKv K F H kvs l
  | .own _, _ => False
structure Rl (K : PySem.W.Frag) (B : Addr → Prop) (et O : List Addr) (env : En) (g : G) (σ : L2.St) (H : Hp) : Prop where
  cel : Cells K (FF B et O) et g H
  live : ∀ a, FF B et O a → H a ≠ none
  dB : ∀ a, B a → a ∉ et
  dO : ∀ a ∈ O, a ∉ et ∧ ¬ B a
  len : σ.length = env.length
  slot : ∀ (i : Nat) (s : Sl), env[i]? = some s → SlotR K (FF B et O) et O H s σ[i]?
  sep : ∀ (i j : Nat) (d e : P) (a : Addr), env[i]? = some (Sl.own d) → env[j]? = some (Sl.own e) → σ[i]? = some (some (.ref a)) → σ[j]? = some (some (.ref a)) → i = j
section
variable {K : PySem.W.Frag} {B : Addr → Prop} {et et' O : List Addr} {env : En} {g g' : G} {σ : L2.St} {H H' : Hp}
theorem FF.mono {B B' : Addr → Prop} {et et' O O' : List Addr} (h1 : ∀ a, B a → B' a) (h2 : ∀ a ∈ et, a ∈ et') (h3 : ∀ a ∈ O, a ∈ O') {a : Addr} (h : FF B et O a) : FF B' et' O' a :=
  h.elim (fun q => .inl (h1 a q)) (fun q => q.elim (fun q => .inr (.inl (h2 a q))) (fun q => .inr (.inr (h3 a q))))
theorem FF.step {a : Addr} (fr : Fr [] et et' H H') (h : FF B et' O a) : FF B et O a ∨ H a = none :=
  h.elim (fun q => .inl (.inl q)) (fun q => q.elim (fun q => (fr.new a q).elim (fun z => .inl (.inr (.inl z))) .inr) (fun q => .inl (.inr (.inr q))))
/-- data as they were, behind an expression -/
theorem Rep.fr {d : P} {v : V} (h : Rep K (FF B et O) H d v) (fr : Fr [] et et' H H') : Rep K (FF B et' O) H' d v :=
  Rep.mono fr (fun _ q => nomatch q) (fun a q => .inr (.inl q)) (fun a q => FF.step fr q) d v h
theorem Reps.fr {d : List P} {v : List V} (h : Reps K (FF B et O) H d v) (fr : Fr [] et et' H H') : Reps K (FF B et' O) H' d v :=
  Reps.mono fr (fun _ q => nomatch q) (fun a q => .inr (.inl q)) (fun a q => FF.step fr q) d v h
theorem RepKv.fr {d : List (P × P)} {v : List (Key × V)} (h : RepKv K (FF B et O) H d v) (fr : Fr [] et et' H H') : RepKv K (FF B et' O) H' d v :=
  RepKv.mono fr (fun _ q => nomatch q) (fun a q => .inr (.inl q)) (fun a q => FF.step fr q) d v h
theorem RepD.fr {d : D} {v : V} (h : RepD K (FF B et O) H et d v) (fr : Fr [] et et' H H') : RepD K (FF B et' O) H' et' d v :=
  RepD.mono fr (fun _ q => nomatch q) (fun a q => .inr (.inl q)) (fun a q => FF.step fr q) d v (.inl rfl) h
theorem RepDs.fr {d : List D} {v : List V} (h : RepDs K (FF B et O) H et d v) (fr : Fr [] et et' H H') : RepDs K (FF B et' O) H' et' d v :=
  RepDs.mono fr (fun _ q => nomatch q) (fun a q => .inr (.inl q)) (fun a q => FF.step fr q) d v (.inl rfl) h
theorem SlotR.fr {s : Sl} {x : Option (Option V)} (h : SlotR K (FF B et O) et O H s x) (fr : Fr [] et et' H H') (hO : ∀ a ∈ O, a ∉ et) : SlotR K (FF B et' O) et' O H' s x := by
  cases s with
  | un => trivial
  | sh d => obtain ⟨n, v, e, r⟩ := h; exact ⟨n, v, e, r.fr fr⟩
  | own d =>
    cases d with
    | list ds => obtain ⟨a, vs, e, m, h1, h2⟩ := h; exact ⟨a, vs, e, m, fr.keep _ _ h1 (hO a m) (fun q => nomatch q), h2.fr fr⟩
    | dict kvs => obtain ⟨a, l, e, m, h1, h2⟩ := h; exact ⟨a, l, e, m, fr.keep _ _ h1 (hO a m) (fun q => nomatch q), h2.fr fr⟩
    | _ => exact h.elim
theorem Fr.memO {O' : List Addr} (fr : Fr O' et et' H H') {a : Addr} (h : a ∈ et) : a ∈ et' := by
  obtain ⟨t, rfl⟩ := fr.ext; exact List.mem_append_left _ h
/-- the state behind a call: what is behind it is told by the frame and the cells -/
theorem Rl.call (r : Rl K B et O env g σ H) (fr : Fr [] et et' H H') (c : Cells K (FF (fun a => B a ∨ a ∈ O) et' []) et' g' H') (hl : ∀ a ∈ et', H' a ≠ none) : Rl K B et' O env g' σ H' := by
  refine ⟨⟨c.nd, c.len, fun n a ds h1 h2 => ?_⟩, fun a h => ?_, fun a h q => ?_, fun a h => ⟨fun q => ?_, (r.dO a h).2⟩, r.len, fun i s h => (r.slot i s h).fr fr (fun a h => (r.dO a h).1), r.sep⟩
  · obtain ⟨vs, e, h3⟩ := c.at_ n a ds h1 h2
    refine ⟨vs, e, Reps.mono (O := []) (Fr.refl [] et' H') (fun _ q => nomatch q) (fun a q => .inr (.inl q)) (fun a q => .inl ?_) ds vs h3⟩
    rcases q with q | q | q
    · exact .inl (.inl q)
    · exact .inr (.inl q)
    · exact .inl (.inr q)
  · rcases h with h | h | h
    · exact fr.dom a (r.live a (.inl h))
    · exact hl a h
    · exact fr.dom a (r.live a (.inr (.inr h)))
  · rcases fr.new a q with z | z
    · exact r.dB a h z
    · exact r.live a (.inl h) z
  · rcases fr.new a q with z | z
    · exact (r.dO a h).1 z
    · exact r.live a (.inr (.inr h)) z
theorem Cells.same {F : Addr → Prop} (c : Cells K F et g H) (s : Same H H') (he : ∀ a ∈ et, F a) : Cells K F et g H' :=
  ⟨c.nd, c.len, fun n a ds h1 h2 => by
    obtain ⟨vs, e, h3⟩ := c.at_ n a ds h1 h2
    exact ⟨vs, s _ _ e, Reps.mono (O := []) (Fr.same s) (fun _ q => nomatch q) he (fun a q => .inl q) ds vs h3⟩⟩
/-- new objects alone -/
theorem Rl.same (r : Rl K B et O env g σ H) (s : Same H H') : Rl K B et O env g σ H' := by
  have fr : Fr [] et et H H' := Fr.same s
  exact ⟨r.cel.same s (fun a q => .inr (.inl q)), fun a h => fr.dom a (r.live a h), r.dB, r.dO, r.len, fun i s h => (r.slot i s h).fr fr (fun a h => (r.dO a h).1), r.sep⟩
/-- what a callee starts from -/
theorem Rl.cells (r : Rl K B et O env g σ H) : Cells K (FF (fun a => B a ∨ a ∈ O) et []) et g H :=
  ⟨r.cel.nd, r.cel.len, fun n a ds h1 h2 => by
    obtain ⟨vs, e, h3⟩ := r.cel.at_ n a ds h1 h2
    refine ⟨vs, e, Reps.mono (O := []) (Fr.refl [] et H) (fun _ q => nomatch q) (fun a q => .inr (.inl q)) (fun a q => .inl ?_) ds vs h3⟩
    rcases q with (q | q) | q | q
    · exact .inl q
    · exact .inr (.inr q)
    · exact .inr (.inl q)
    · exact nomatch q⟩
end
end Sim
set_option maxRecDepth 512
set_option Elab.async false
set_option linter.all false
set_option maxRecDepth 100000
set_option maxHeartbeats 4000000
namespace Sim
open PySem PySem.Spec PyProof.Rows L2
/-- the exception as it lies in the heap -/
def ExR (K : PySem.W.Frag) (mg : Str → Option Value) (F : Addr → Prop) (H : Hp) (ex : Exn) (cls : Value) (od : Option Addr) : Prop :=
  mg ex.cls = some cls ∧ ((ex.ns = [] ∧ ex.vs = [] ∧ od = none) ∨ ∃ dx vs, od = some dx ∧ H dx = some (.xd (ex.ns.zip vs)) ∧ ex.ns.length = vs.length ∧ Reps K F H ex.vs vs)
abbrev RepT (α β : Type) := (Addr → Prop) → Hp → List Addr → α → β → Prop
abbrev rD (K : PySem.W.Frag) : RepT D V := fun F H et d v => RepD K F H et d v
abbrev rDs (K : PySem.W.Frag) : RepT (List D) (List V) := fun F H et d v => RepDs K F H et d v
abbrev rB : RepT Bool Bool := fun _ _ _ d b => d = b
section
variable {α β α' β' : Type} (K : PySem.W.Frag) (mg : Str → Option Value) (B : Addr → Prop) (O : List Addr) (env : En) (σ : L2.St) (W : WX)
def wG (rep : RepT α β) (et : List Addr) (H : Hp) (r : R α) (Q : β → Hp → Prop) : Prop := match r with
  | .ok d g' => ∀ v H' et', Rl K B et' O env g' σ H' → Fr [] et et' H H' → rep (FF B et' O) H' et' d v → Q v H'
  | .err ex g' => ∀ cls od H' et', Rl K B et' O env g' σ H' → Fr [] et et' H H' → ExR K mg (FF B et' O) H' ex cls od → W cls od σ H'
  | .stuck => False
variable {K mg B O env σ W}
theorem wG.bind {rep1 : RepT α β} {rep2 : RepT α' β'} {et : List Addr} {H : Hp} {r : R α} {k : α → G → R α'} {Q : β' → Hp → Prop} {T : β → Hp → Prop}
    (h : wG K mg B O env σ W rep2 et H (r.bind k) Q)
    (hP : ∀ d g1 v H1 e1, r = .ok d g1 → Rl K B e1 O env g1 σ H1 → Fr [] et e1 H H1 → rep1 (FF B e1 O) H1 e1 d v → wG K mg B O env σ W rep2 e1 H1 (k d g1) Q → T v H1) :
    wG K mg B O env σ W rep1 et H r T := by
  cases r with
  | stuck => exact h
  | err ex g' => exact h
  | ok d g1 =>
    intro v H1 e1 rl fr rp
    refine hP d g1 v H1 e1 rfl rl fr rp ?_
    have h : wG K mg B O env σ W rep2 et H (k d g1) Q := h
    cases e : k d g1 with
    | stuck => rw [e] at h; exact h
    | err ex g' => rw [e] at h; intro cls od H' et' a b c; exact h cls od H' et' a (fr.trans b) c
    | ok d g' => rw [e] at h; intro v H' et' a b c; exact h v H' et' a (fr.trans b) c
theorem wG.imp {rep : RepT α β} {et : List Addr} {H : Hp} {r : R α} {Q Q' : β → Hp → Prop} (h : wG K mg B O env σ W rep et H r Q) (hi : ∀ v H', Q v H' → Q' v H') : wG K mg B O env σ W rep et H r Q' := by
  cases r with
  | stuck => exact h
  | err ex g' => exact h
  | ok d g1 => intro v H1 e1 rl fr rp; exact hi _ _ (h v H1 e1 rl fr rp)
/-- the answer is there -/
theorem wG.here {rep : RepT α β} {et : List Addr} {H : Hp} {d : α} {g : G} {v : β} {Q : β → Hp → Prop} (h : wG K mg B O env σ W rep et H (.ok d g) Q) (rl : Rl K B et O env g σ H) (r : rep (FF B et O) H et d v) : Q v H :=
  h v H et rl (Fr.refl [] et H) r
/-- .. at a heap with one more object -/
theorem wG.new {rep : RepT α β} {et : List Addr} {H : Hp} {d : α} {g : G} {v : β} {p : Addr} {o : HO} {Q : β → Hp → Prop} (h : wG K mg B O env σ W rep et H (.ok d g) Q) (rl : Rl K B et O env g σ H) (hp : H p = none)
    (r : rep (FF B et O) (upd H p o) et d v) : Q v (upd H p o) :=
  h v _ et (rl.same (same_new hp)) (Fr.same (same_new hp)) r
theorem Rl.nF {et : List Addr} {g : G} {H : Hp} {p : Addr} (rl : Rl K B et O env g σ H) (hp : H p = none) : ¬ FF B et O p := fun q => rl.live p q hp
end
/-! ### the judgements -/
abbrev Ev := En → M D
abbrev Evs := En → M (List D)
abbrev Tv := En → M Bool
def mE (K : PySem.W.Frag) (mg : Str → Option Value) (W : WX) (m : Ev) : TE := fun σ H Q => ∃ B et O env g, Rl K B et O env g σ H ∧ wG K mg B O env σ W (rD K) et H (m env g) Q
def mT (K : PySem.W.Frag) (mg : Str → Option Value) (W : WX) (m : Tv) : TT := fun σ H Q => ∃ B et O env g, Rl K B et O env g σ H ∧ wG K mg B O env σ W rB et H (m env g) Q
def mA (K : PySem.W.Frag) (mg : Str → Option Value) (W : WX) (m : Evs) : TA := fun σ H Q => ∃ B et O env g, Rl K B et O env g σ H ∧ wG K mg B O env σ W (rDs K) et H (m env g) Q
def SE (X : Cx) (W : WX) (e : Expr) (m : Ev) : Prop := PE X e (mE X.K X.mg W m)
def ST (X : Cx) (W : WX) (e : Expr) (m : Tv) : Prop := PT X e (mT X.K X.mg W m)
def SW (X : Cx) (W : WX) (e : Expr) (m : Tv) : Prop := PW X e (mT X.K X.mg W m)
def LenA (m : Evs) (n : Nat) : Prop := ∀ env g ds g', m env g = .ok ds g' → ds.length = n
def SA (X : Cx) (W : WX) (es : List Expr) (m : Evs) : Prop := PA X es (mA X.K X.mg W m) ∧ LenA m es.length
section
variable {X : Cx}
theorem pe_imp {e : Expr} {t t' : TE} (h : PE X e t) (hi : ∀ σ H Q, t' σ H Q → t σ H Q) : PE X e t' := ⟨fun pins s σ H Q I q => h.run pins s σ H Q I (hi σ H Q q)⟩
theorem pt_imp {e : Expr} {t t' : TT} (h : PT X e t) (hi : ∀ σ H Q, t' σ H Q → t σ H Q) : PT X e t' := ⟨fun pins s σ H Q I q => h.run pins s σ H Q I (hi σ H Q q)⟩
theorem pw_imp {e : Expr} {t t' : TT} (h : PW X e t) (hi : ∀ σ H Q, t' σ H Q → t σ H Q) : PW X e t' := ⟨fun w pins s σ H Q I q => h.run w pins s σ H Q I (hi σ H Q q)⟩
theorem pa_imp {e : List Expr} {t t' : TA} (h : PA X e t) (hi : ∀ σ H Q, t' σ H Q → t σ H Q) : PA X e t' := ⟨fun pos pins s σ H Q I q => h.run pos pins s σ H Q I (hi σ H Q q)⟩
theorem ps_imp {e : Stmt} {t t' : TS} (h : PS X e t) (hi : ∀ D σ H, t' D σ H → t D σ H) : PS X e t' := ⟨fun pins s σ H D I q => h.run pins s σ H D I (hi D σ H q)⟩
theorem pss_imp {e : List Stmt} {t t' : TS} (h : PSs X e t) (hi : ∀ D σ H, t' D σ H → t D σ H) : PSs X e t' := ⟨fun pins s σ H D I q => h.run pins s σ H D I (hi D σ H q)⟩
theorem pi_imp {tg e : Expr} {t t' : TI} (h : PI X tg e t) (hi : ∀ σ H R, t' σ H R → t σ H R) : PI X tg e t' := ⟨fun pins s σ H R I q => h.run pins s σ H R I (hi σ H R q)⟩
end
/-! ### the functions of the constructs -/
def eVar (i : Nat) : Ev := fun env g => match env[i]? with
  | some (.sh d) => .ok d g
  | some (.own p) => .ok (.bor p) g
  | _ => .stuck
def eC (d : P) : Ev := fun _ g => .ok (.d d) g
def eOp (f : D → D → M D) (a b : Ev) : Ev := fun env g => (a env g).bind fun x g1 => (b env g1).bind fun y g2 => f x y g2
def eUn (f : D → M D) (a : Ev) : Ev := fun env g => (a env g).bind fun x g1 => f x g1
def eNot (a : Ev) : Ev := eUn (fun d g => match d with | .d (.bool b) => .ok (.d (.bool (!b))) g | _ => .stuck) a
def eAnd (a b : Ev) : Ev := fun env g => (a env g).bind fun x g1 => match x with
  | .d (.bool true) => b env g1
  | .d (.bool false) => .ok (.d (.bool false)) g1
  | _ => .stuck
def eOr (a b : Ev) : Ev := fun env g => (a env g).bind fun x g1 => match x with
  | .d (.bool true) => .ok (.d (.bool true)) g1
  | .d (.bool false) => b env g1
  | _ => .stuck
def eIf (c : Tv) (a b : Ev) : Ev := fun env g => (c env g).bind fun x g1 => if x = true then a env g1 else b env g1
/-- a value's truth: bools alone -/
def tv (m : Ev) : Tv := fun env g => (m env g).bind fun x g1 => match x with
  | .d (.bool b) => .ok b g1
  | _ => .stuck
def tvAnd (a b : Tv) : Tv := fun env g => (a env g).bind fun x g1 => if x = true then b env g1 else .ok false g1
def tvOr (a b : Tv) : Tv := fun env g => (a env g).bind fun x g1 => if x = true then .ok true g1 else b env g1
def tvNot (a : Tv) : Tv := fun env g => (a env g).bind fun x g1 => .ok (!x) g1
/-- a op1 b op2 c -/
def eChain (f f' : D → D → M D) (a b c : Ev) : Ev := fun env g => (a env g).bind fun x g1 => (b env g1).bind fun y g2 => (f x y g2).bind fun z g3 => match z with
  | .d (.bool true) => (c env g3).bind fun w g4 => f' y w g4
  | .d (.bool false) => .ok (.d (.bool false)) g3
  | _ => .stuck
def aNil : Evs := fun _ g => .ok [] g
def aCons (a : Ev) (r : Evs) : Evs := fun env g => (a env g).bind fun x g1 => (r env g1).bind fun xs g2 => .ok (x :: xs) g2
/-- a call of a built-in by its arguments -/
def eB (f : List D → M D) (a : Evs) : Ev := fun env g => (a env g).bind fun xs g1 => f xs g1
/-- data out of values -/
def dats : List D → Option (List P)
  | [] => some []
  | .d p :: r => (dats r).map (p :: ·)
  | _ :: _ => none
def eTup (a : Evs) : Ev := eB (fun xs g => match dats xs with | some ps => .ok (.d (.tuple ps)) g | none => .stuck) a
def eLst (a : Evs) : Ev := eB (fun xs g => match dats xs with | some ps => .ok (.d (.list ps)) g | none => .stuck) a
section
variable {K : PySem.W.Frag} {F : Addr → Prop} {H : Hp} {et : List Addr}
theorem dats_reps : ∀ {xs : List D} {ps : List P} {vs : List V}, dats xs = some ps → RepDs K F H et xs vs → Reps K F H ps vs
  | [], ps, vs, e, h => by cases e; exact h
  | .d p :: r, ps, vs, e, h => by
    obtain ⟨v, u, rfl, h1, h2⟩ := h
    simp only [dats, Option.map_eq_some_iff] at e
    obtain ⟨q, e1, rfl⟩ := e
    exact ⟨v, u, rfl, h1, dats_reps e1 h2⟩
  | .cell _ :: _, _, _, e, _ => by cases e
  | .scr _ :: _, _, _, e, _ => by cases e
  | .nest _ :: _, _, _, e, _ => by cases e
  | .bor _ :: _, _, _, e, _ => by cases e
end
/-! ### their theorems -/
section
variable {X : Cx} {W : WX} {a b c e : Expr} {ma mb mc : Ev} {pos : Pos} {es : List Expr} {ms : Evs}
theorem se_var {i : Nat} {x : Str} (hN : X.N[i]? = some x := by rfl) (hv : Vis X.env.scope x := by first | exact .inl rfl | exact .inr (.inl rfl) | exact .inr (.inr rfl))
    (hd : (x == ("__debug__" : Str)) = false := by decide) (hcd : (x == ("__classdict__" : Str)) = false := by decide) : SE X W (.Name x pos) (eVar i) := by
  refine pe_imp (pe_var hN hv hd hcd) fun σ H Q ⟨B, et, O, env, g, rl, h⟩ => ?_
  unfold eVar at h
  split at h
  · rename_i d e
    obtain ⟨_, v, ev, r⟩ := rl.slot i _ e
    exact ⟨v, ev, h.here rl r⟩
  · rename_i d e
    have q := rl.slot i _ e
    cases d with
    | list ds =>
      obtain ⟨a, vs, e1, m, h1, h2⟩ := q
      exact ⟨.ref a, e1, h.here rl ⟨a, vs, rfl, h1, (rl.dO a m).1, h2⟩⟩
    | dict kvs =>
      obtain ⟨a, l, e1, m, h1, h2⟩ := q
      exact ⟨.ref a, e1, h.here rl ⟨a, l, rfl, h1, (rl.dO a m).1, h2⟩⟩
    | _ => exact q.elim
  · exact h.elim
theorem se_C {v : V} {d : P} (h : PE X e (tC v)) (hr : ∀ F H, Rep X.K F H d v) : SE X W e (eC d) :=
  pe_imp h fun σ H Q ⟨B, et, O, env, g, rl, h⟩ => h.here rl (hr _ _)
theorem se_int {i j} : SE X W (.Constant (.int i) j pos) (eC (.int i)) := se_C pe_int fun _ _ => rfl
theorem se_bl {b j} : SE X W (.Constant (.bool b) j pos) (eC (.bool b)) := se_C pe_bl fun _ _ => rfl
theorem se_non {j} : SE X W (.Constant .none j pos) (eC .none) := se_C pe_non fun _ _ => rfl
theorem se_str {x j} : SE X W (.Constant (.str x) j pos) (eC (.str x)) := se_C pe_str fun _ _ => rfl
theorem se_glob {x : Str} {v : V} {u : Value} {d : P} (hm : X.mg x = some u) (r : RelV v u) (hr : ∀ F H, Rep X.K F H d v) (hg : Gl X x := by rfl) (hd : (x == ("__debug__" : Str)) = false := by decide) : SE X W (.Name x pos) (eC d) :=
  se_C (pe_glob hg hm r hd) hr
/-- what an operation's rule is to the operation on data -/
def OkOp (X : Cx) (W : WX) (f : D → D → M D) (r : R2) : Prop :=
  ∀ (B : Addr → Prop) (et O : List Addr) (env : En) (g : G) (σ : L2.St) (H : Hp) (x y : V) (dx dy : D) (Q : VK), Rl X.K B et O env g σ H → RepD X.K (FF B et O) H et dx x → RepD X.K (FF B et O) H et dy y →
    wG X.K X.mg B O env σ W (rD X.K) et H (f dx dy g) Q → r x y H Q
def OkUn (X : Cx) (W : WX) (f : D → M D) (r : V → Hp → VK → Prop) : Prop :=
  ∀ (B : Addr → Prop) (et O : List Addr) (env : En) (g : G) (σ : L2.St) (H : Hp) (x : V) (dx : D) (Q : VK), Rl X.K B et O env g σ H → RepD X.K (FF B et O) H et dx x →
    wG X.K X.mg B O env σ W (rD X.K) et H (f dx g) Q → r x H Q
def OkCall (X : Cx) (W : WX) (f : List D → M D) (r : List V → Hp → VK → Prop) : Prop :=
  ∀ (B : Addr → Prop) (et O : List Addr) (env : En) (g : G) (σ : L2.St) (H : Hp) (xs : List V) (ds : List D) (Q : VK), Rl X.K B et O env g σ H → RepDs X.K (FF B et O) H et ds xs →
    wG X.K X.mg B O env σ W (rD X.K) et H (f ds g) Q → r xs H Q
theorem top_of {f : D → D → M D} {r : R2} (hf : OkOp X W f r) {σ : L2.St} {H : Hp} {Q : VK} (h : mE X.K X.mg W (eOp f ma mb) σ H Q) : tOp r (mE X.K X.mg W ma) (mE X.K X.mg W mb) σ H Q := by
  obtain ⟨B, et, O, env, g, rl, h⟩ := h
  refine ⟨B, et, O, env, g, rl, wG.bind h fun d1 g1 v1 H1 e1 _ rl1 fr1 r1 h1 => ⟨B, e1, O, env, g1, rl1, wG.bind h1 fun d2 g2 v2 H2 e2 _ rl2 fr2 r2 h2 => ?_⟩⟩
  exact hf B e2 O env g2 σ H2 v1 v2 d1 d2 Q rl2 (RepD.fr r1 fr2) r2 h2
theorem se_op {op : Operator} {f : D → D → M D} {r : R2} (ho : OpR X (binaryOp op) r) (hf : OkOp X W f r) (ha : SE X W a ma) (hb : SE X W b mb) : SE X W (.BinOp a op b pos) (eOp f ma mb) :=
  pe_imp (pe_op ho ha hb) fun _ _ _ h => top_of hf h
theorem se_un {op : UnaryOp} {f : D → M D} {r : V → Hp → VK → Prop} (ho : UnR X (unaryOp op) r) (hf : OkUn X W f r) (ha : SE X W a ma) : SE X W (.UnaryOp op a pos) (eUn f ma) :=
  pe_imp (pe_un ho ha) fun σ H Q ⟨B, et, O, env, g, rl, h⟩ =>
    ⟨B, et, O, env, g, rl, wG.bind h fun d1 g1 v1 H1 e1 _ rl1 fr1 r1 h1 => hf B e1 O env g1 σ H1 v1 d1 Q rl1 r1 h1⟩
theorem se_cmp {op : CmpOp} {f : D → D → M D} {r : R2} (ho : OpR X (compareOp op) r) (hf : OkOp X W f r) (ha : SE X W a ma) (hb : SE X W b mb) (hm : behindInMarks op b = false := by first | exact nobehind _ (by decide) (by decide) | rfl) : SE X W (.Compare a [op] [b] pos) (eOp f ma mb) :=
  pe_imp (pe_cmpR ho ha hb hm) fun _ _ _ h => top_of hf h
theorem tv_of {m : Ev} {σ : L2.St} {H : Hp} {Q : Bool → Hp → Prop} (h : mT X.K X.mg W (tv m) σ H Q) : mE X.K X.mg W m σ H fun x H' => ∃ k, x = .bl k ∧ Q k H' := by
  obtain ⟨B, et, O, env, g, rl, h⟩ := h
  refine ⟨B, et, O, env, g, rl, wG.bind h fun d g1 v H1 e1 _ rl1 fr1 r1 h1 => ?_⟩
  split at h1
  · rename_i k _
    have r1 : v = .bl k := r1
    exact ⟨k, r1, h1.here rl1 rfl⟩
  · exact h1.elim
/-- an expression as a test -/
theorem st_val {m : Ev} (h : SE X W e m) (he : ∀ whole, isTrue e X.env whole = (do let v ← whole; standAt e.pos; holding [v] (truthy v)) := by intro _; rfl) : ST X W e (tv m) :=
  pt_imp (pt_val h he) fun _ _ _ h => tv_of h
theorem st_cmp {op : CmpOp} {f : D → D → M D} {r : R2} (ho : OpR X (compareOp op) r) (hf : OkOp X W f r) (ha : SE X W a ma) (hb : SE X W b mb) (hm : behindInMarks op b = false := by first | exact nobehind _ (by decide) (by decide) | rfl) : ST X W (.Compare a [op] [b] pos) (tv (eOp f ma mb)) :=
  pt_imp (pt_cmpR (op := op) ho ha hb hm) fun _ _ _ h => top_of hf (tv_of h)
theorem chain_of {f f' : D → D → M D} {r r' : R2} (hf : OkOp X W f r) (hf' : OkOp X W f' r') {σ : L2.St} {H : Hp} {Q : VK} (h : mE X.K X.mg W (eChain f f' ma mb mc) σ H Q) :
    tChain r r' (mE X.K X.mg W ma) (mE X.K X.mg W mb) (mE X.K X.mg W mc) σ H Q := by
  obtain ⟨B, et, O, env, g, rl, h⟩ := h
  refine ⟨B, et, O, env, g, rl, wG.bind h fun d1 g1 v1 H1 e1 _ rl1 fr1 r1 h1 => ⟨B, e1, O, env, g1, rl1, wG.bind h1 fun d2 g2 v2 H2 e2 _ rl2 fr2 r2 h2 => ?_⟩⟩
  refine hf B e2 O env g2 σ H2 v1 v2 d1 d2 _ rl2 (RepD.fr r1 fr2) r2 (wG.bind h2 fun d3 g3 v3 H3 e3 _ rl3 fr3 r3 h3 => ?_)
  split at h3
  · have r3 : v3 = .bl true := r3
    refine ⟨true, r3, ?_⟩
    rw [if_pos rfl]
    refine ⟨B, e3, O, env, g3, rl3, wG.bind h3 fun d4 g4 v4 H4 e4 _ rl4 fr4 r4 h4 => ?_⟩
    exact hf' B e4 O env g4 σ H4 v2 v4 d2 d4 Q rl4 (RepD.fr r2 (fr3.trans fr4)) r4 h4
  · have r3 : v3 = .bl false := r3
    refine ⟨false, r3, ?_⟩
    rw [if_neg (by decide)]
    exact h3.here rl3 rfl
  · exact h3.elim
theorem se_chain {op op' : CmpOp} {f f' : D → D → M D} {r r' : R2} (ho : OpR X (compareOp op) r) (hf : OkOp X W f r) (ho' : OpR X (compareOp op') r') (hf' : OkOp X W f' r') (ha : SE X W a ma) (hb : SE X W b mb) (hc : SE X W c mc)
    (hm : lastMarks [op, op'] [b, c] = false := by with_unfolding_all rfl) : SE X W (.Compare a [op, op'] [b, c] pos) (eChain f f' ma mb mc) :=
  pe_imp (pe_chain ho ho' ha hb hc hm) fun _ _ _ h => chain_of hf hf' h
theorem st_chain {op op' : CmpOp} {f f' : D → D → M D} {r r' : R2} (ho : OpR X (compareOp op) r) (hf : OkOp X W f r) (ho' : OpR X (compareOp op') r') (hf' : OkOp X W f' r') (ha : SE X W a ma) (hb : SE X W b mb) (hc : SE X W c mc)
    (hm : lastMarks [op, op'] [b, c] = false := by with_unfolding_all rfl) : ST X W (.Compare a [op, op'] [b, c] pos) (tv (eChain f f' ma mb mc)) :=
  pt_imp (pt_chain ho ho' ha hb hc hm) fun _ _ _ h => chain_of hf hf' (tv_of h)
variable {ta tb tc : Tv} {rest : List Expr}
theorem se_not (ha : SE X W a ma) : SE X W (.UnaryOp .Not a pos) (eNot ma) :=
  pe_imp (pe_not ha) fun σ H Q ⟨B, et, O, env, g, rl, h⟩ => ⟨B, et, O, env, g, rl, wG.bind h fun d1 g1 v1 H1 e1 _ rl1 fr1 r1 h1 => by
    dsimp only at h1
    split at h1
    · rename_i k _
      have r1 : v1 = .bl k := r1
      exact ⟨k, r1, h1.here rl1 rfl⟩
    · exact h1.elim⟩
theorem se_one {op : BoolOp} (ha : SE X W a ma) : SE X W (.BoolOp op [a] pos) ma := pe_one ha
theorem se_and (ha : SE X W a ma) (hb : SE X W (.BoolOp .And (b :: rest) pos) mb) : SE X W (.BoolOp .And (a :: b :: rest) pos) (eAnd ma mb) :=
  pe_imp (pe_and ha hb) fun σ H Q ⟨B, et, O, env, g, rl, h⟩ => ⟨B, et, O, env, g, rl, wG.bind h fun d1 g1 v1 H1 e1 _ rl1 fr1 r1 h1 => by
    split at h1
    · have r1 : v1 = .bl true := r1
      refine ⟨true, r1, ?_⟩
      rw [if_pos rfl]
      exact ⟨B, e1, O, env, g1, rl1, h1⟩
    · have r1 : v1 = .bl false := r1
      refine ⟨false, r1, ?_⟩
      rw [if_neg (by decide)]
      exact h1.here rl1 rfl
    · exact h1.elim⟩
theorem se_or (ha : SE X W a ma) (hb : SE X W (.BoolOp .Or (b :: rest) pos) mb) : SE X W (.BoolOp .Or (a :: b :: rest) pos) (eOr ma mb) :=
  pe_imp (pe_or ha hb) fun σ H Q ⟨B, et, O, env, g, rl, h⟩ => ⟨B, et, O, env, g, rl, wG.bind h fun d1 g1 v1 H1 e1 _ rl1 fr1 r1 h1 => by
    split at h1
    · have r1 : v1 = .bl true := r1
      refine ⟨true, r1, ?_⟩
      rw [if_pos rfl]
      exact h1.here rl1 rfl
    · have r1 : v1 = .bl false := r1
      refine ⟨false, r1, ?_⟩
      rw [if_neg (by decide)]
      exact ⟨B, e1, O, env, g1, rl1, h1⟩
    · exact h1.elim⟩
theorem se_if (hc : ST X W c tc) (ha : SE X W a ma) (hb : SE X W b mb) : SE X W (.IfExp c a b pos) (eIf tc ma mb) :=
  pe_imp (pe_ifExp hc ha hb) fun σ H Q ⟨B, et, O, env, g, rl, h⟩ => ⟨B, et, O, env, g, rl, wG.bind h fun d1 g1 v1 H1 e1 _ rl1 fr1 r1 h1 => by
    have r1 : d1 = v1 := r1
    subst r1
    cases d1 with
    | true => exact ⟨B, e1, O, env, g1, rl1, h1⟩
    | false => exact ⟨B, e1, O, env, g1, rl1, h1⟩⟩
theorem st_not (ha : ST X W a ta) : ST X W (.UnaryOp .Not a pos) (tvNot ta) :=
  pt_imp (pt_not ha) fun σ H Q ⟨B, et, O, env, g, rl, h⟩ => ⟨B, et, O, env, g, rl, wG.bind h fun d1 g1 v1 H1 e1 _ rl1 fr1 r1 h1 => by
    have r1 : d1 = v1 := r1
    subst r1
    exact h1.here rl1 rfl⟩
theorem sw_and1 (ha : ST X W a ta) : SW X W (.BoolOp .And [a] pos) ta := pw_and1 ha
theorem sw_or1 (ha : ST X W a ta) : SW X W (.BoolOp .Or [a] pos) ta := pw_or1 ha
theorem sw_and (ha : ST X W a ta) (hb : SW X W (.BoolOp .And (b :: rest) pos) tb) : SW X W (.BoolOp .And (a :: b :: rest) pos) (tvAnd ta tb) :=
  pw_imp (pw_and ha hb) fun σ H Q ⟨B, et, O, env, g, rl, h⟩ => ⟨B, et, O, env, g, rl, wG.bind h fun d1 g1 v1 H1 e1 _ rl1 fr1 r1 h1 => by
    have r1 : d1 = v1 := r1
    subst r1
    cases d1 with
    | true => exact ⟨B, e1, O, env, g1, rl1, h1⟩
    | false => exact h1.here rl1 rfl⟩
theorem sw_or (ha : ST X W a ta) (hb : SW X W (.BoolOp .Or (b :: rest) pos) tb) : SW X W (.BoolOp .Or (a :: b :: rest) pos) (tvOr ta tb) :=
  pw_imp (pw_or ha hb) fun σ H Q ⟨B, et, O, env, g, rl, h⟩ => ⟨B, et, O, env, g, rl, wG.bind h fun d1 g1 v1 H1 e1 _ rl1 fr1 r1 h1 => by
    have r1 : d1 = v1 := r1
    subst r1
    cases d1 with
    | true => exact h1.here rl1 rfl
    | false => exact ⟨B, e1, O, env, g1, rl1, h1⟩⟩
theorem st_sw (h : SW X W e ta) : ST X W e ta := PW.pt h
/-! arguments -/
theorem sa_nil : SA X W [] aNil := ⟨pa_imp pa_nil fun σ H Q ⟨B, et, O, env, g, rl, h⟩ => h.here rl rfl, fun _ _ _ _ e => by cases e; rfl⟩
theorem sa_cons (ha : SE X W a ma) (hr : SA X W es ms) (hs : starEach (a :: es) X.env = (false, eval a X.env) :: starEach es X.env := by rfl) : SA X W (a :: es) (aCons ma ms) := by
  refine ⟨?_, fun env g ds g' e => ?_⟩
  rotate_left
  · unfold aCons at e
    cases e1 : ma env g with
    | ok d1 g1 =>
      rw [e1] at e
      dsimp only [R.bind] at e
      cases e2 : ms env g1 with
      | ok d2 g2 =>
        rw [e2] at e
        cases e
        simp [hr.2 _ _ _ _ e2]
      | err _ _ => rw [e2] at e; cases e
      | stuck => rw [e2] at e; cases e
    | err _ _ => rw [e1] at e; cases e
    | stuck => rw [e1] at e; cases e
  exact pa_imp (pa_cons ha hr.1 hs) fun σ H Q ⟨B, et, O, env, g, rl, h⟩ => ⟨B, et, O, env, g, rl, wG.bind h fun d1 g1 v1 H1 e1 _ rl1 fr1 r1 h1 => ⟨B, e1, O, env, g1, rl1, wG.bind h1 fun d2 g2 v2 H2 e2 _ rl2 fr2 r2 h2 =>
    h2.here rl2 ⟨v1, v2, rfl, RepD.fr r1 fr2, r2⟩⟩⟩
theorem tcb_of {f : List D → M D} {r : List V → Hp → VK → Prop} (hf : OkCall X W f r) {σ : L2.St} {H : Hp} {Q : VK} (h : mE X.K X.mg W (eB f ms) σ H Q) : tCB r (mA X.K X.mg W ms) σ H Q := by
  obtain ⟨B, et, O, env, g, rl, h⟩ := h
  exact ⟨B, et, O, env, g, rl, wG.bind h fun d1 g1 v1 H1 e1 _ rl1 fr1 r1 h1 => hf B e1 O env g1 σ H1 v1 d1 Q rl1 r1 h1⟩
variable {x : Str} {p apos cpos : Pos}
theorem se_blt {id : String} {f : List D → M D} {r : List V → Hp → VK → Prop} (hc : CallR X (.builtin id) r) (hf : OkCall X W f r) (hm : X.mg x = none) (ha : SA X W (e :: es) ms) (hg : Gl X x := by rfl) (hv : bootBuiltins x = some (.builtin id) := by decide +kernel)
    (hn : x ≠ "__name__" := by decide) (hd : (x == ("__debug__" : Str)) = false := by decide) (he : starEach (e :: es) X.env = (false, eval e X.env) :: starEach es X.env := by rfl) (hpl : (backTo pos (starEach es X.env)).any (·.1) = false := by rfl) :
    SE X W (.Call (.Name x p) (e :: es) [] pos) (eB f ms) :=
  pe_imp (pe_callB (he := he) (hpl := hpl) (hn := hn) (hdb := hd) hc hg hm hv ha.1) fun _ _ _ h => tcb_of hf h
theorem se_bty {T : String} {f : List D → M D} {r : List V → Hp → VK → Prop} (hc : CallR X (.type T) r) (hf : OkCall X W f r) (hm : X.mg x = none) (ha : SA X W (e :: es) ms) (hg : Gl X x := by rfl) (hv : bootBuiltins x = some (.type T) := by decide +kernel)
    (hn : x ≠ "__name__" := by decide) (hd : (x == ("__debug__" : Str)) = false := by decide) (he : starEach (e :: es) X.env = (false, eval e X.env) :: starEach es X.env := by rfl) (hpl : (backTo pos (starEach es X.env)).any (·.1) = false := by rfl) :
    SE X W (.Call (.Name x p) (e :: es) [] pos) (eB f ms) :=
  pe_imp (pe_callTy (he := he) (hpl := hpl) (hn := hn) (hdb := hd) hc hg hm hv ha.1) fun _ _ _ h => tcb_of hf h
theorem small100 {n : Nat} (h : n ≤ 100) : n ≤ sizeLine := by rw [sizeLine_eq]; omega
theorem dats_len : ∀ {xs : List D} {ps : List P}, dats xs = some ps → ps.length = xs.length
  | [], ps, e => by cases e; rfl
  | .d p :: r, ps, e => by
    simp only [dats, Option.map_eq_some_iff] at e
    obtain ⟨q, e1, rfl⟩ := e
    simp [dats_len e1]
  | .cell _ :: _, _, e => by cases e
  | .scr _ :: _, _, e => by cases e
  | .nest _ :: _, _, e => by cases e
  | .bor _ :: _, _, e => by cases e
theorem se_tup {kk : Nat} (ha : SA X W es ms) (hl : es.length ≤ 100 := by decide) : SE X W (.Tuple es kk pos) (eTup ms) := by
  refine pe_imp (pe_tup ha.1) fun σ H Q ⟨B, et, O, env, g, rl, h⟩ => ⟨B, et, O, env, g, rl, wG.bind h fun d1 g1 v1 H1 e1 ee rl1 fr1 r1 h1 => ?_⟩
  dsimp only at h1
  split at h1
  · rename_i ps e
    have rp := dats_reps e r1
    refine ⟨by rw [← r1.length, ha.2 _ _ _ _ ee]; exact small100 hl, fun p hp => ?_⟩
    exact h1.new rl1 hp ⟨p, v1, rfl, .inl (.inl upd_same), (rp.fr (Fr.same (same_new hp)))⟩
  · exact h1.elim
theorem se_lst (ha : SA X W es ms) (hl : es.length ≤ 100 := by decide) : SE X W (.List es pos) (eLst ms) := by
  refine pe_imp (pe_lst ha.1) fun σ H Q ⟨B, et, O, env, g, rl, h⟩ => ⟨B, et, O, env, g, rl, wG.bind h fun d1 g1 v1 H1 e1 ee rl1 fr1 r1 h1 => ?_⟩
  dsimp only at h1
  split at h1
  · rename_i ps e
    have rp := dats_reps e r1
    refine ⟨by rw [← r1.length, ha.2 _ _ _ _ ee]; exact small100 hl, fun p hp => ?_⟩
    exact h1.new rl1 hp ⟨p, v1, rfl, upd_same, rl1.nF hp, (rp.fr (Fr.same (same_new hp)))⟩
  · exact h1.elim
/-! ### operators on data -/
def fAdd : D → D → M D
  | .d (.int i), .d (.int j), g => .ok (.d (.int (i + j))) g
  | .d (.str x), .d (.str y), g => if x.length + y.length ≤ sizeLine then .ok (.d (.str (x ++ y))) g else .stuck
  | .d (.tuple x), .d (.tuple y), g => if x.length + y.length ≤ sizeLine then .ok (.d (.tuple (x ++ y))) g else .stuck
  | .d (.list x), .d (.list y), g => if x.length + y.length ≤ sizeLine then .ok (.d (.list (x ++ y))) g else .stuck
  | .bor (.list x), .d (.list y), g => if x.length + y.length ≤ sizeLine then .ok (.d (.list (x ++ y))) g else .stuck
  | .d (.list x), .bor (.list y), g => if x.length + y.length ≤ sizeLine then .ok (.d (.list (x ++ y))) g else .stuck
  | .bor (.list x), .bor (.list y), g => if x.length + y.length ≤ sizeLine then .ok (.d (.list (x ++ y))) g else .stuck
  | _, _, _ => .stuck
def fSub : D → D → M D
  | .d (.int i), .d (.int j), g => .ok (.d (.int (i - j))) g
  | _, _, _ => .stuck
def fMul : D → D → M D
  | .d (.int i), .d (.int j), g => if (-(2 ^ 64) < i ∧ i < 2 ^ 64) ∨ (-(2 ^ 64) < j ∧ j < 2 ^ 64) then .ok (.d (.int (i * j))) g else .stuck
  | _, _, _ => .stuck
def fMod : D → D → M D
  | .d (.int i), .d (.int j), g => if 0 < j then .ok (.d (.int (i % j))) g else .stuck
  | _, _, _ => .stuck
def fDiv : D → D → M D
  | .d (.int i), .d (.int j), g => if 0 < j ∧ j < 1073741824 then .ok (.d (.int (i / j))) g else .stuck
  | _, _, _ => .stuck
def fPow : D → D → M D
  | .d (.int i), .d (.int j), g => if 0 ≤ j ∧ j ≤ 1000000 ∧ i.natAbs < 2 ^ 64 then .ok (.d (.int (i ^ j.toNat))) g else .stuck
  | _, _, _ => .stuck
def fNeg : D → M D
  | .d (.int i), g => .ok (.d (.int (-i))) g
  | _, _ => .stuck
def fLt : D → D → M D
  | .d (.int i), .d (.int j), g => .ok (.d (.bool (decide (i < j)))) g
  | _, _, _ => .stuck
def fLe : D → D → M D
  | .d (.int i), .d (.int j), g => .ok (.d (.bool (decide (i ≤ j)))) g
  | _, _, _ => .stuck
def fGt : D → D → M D
  | .d (.int i), .d (.int j), g => .ok (.d (.bool (decide (j < i)))) g
  | _, _, _ => .stuck
def fGe : D → D → M D
  | .d (.int i), .d (.int j), g => .ok (.d (.bool (decide (j ≤ i)))) g
  | _, _, _ => .stuck
def D.dat : D → Option P
  | .d x => some x
  | .bor x => some x
  | _ => none
def fEq (a b : D) : M D := fun g => match a.dat, b.dat with
  | some x, some y => if SeqAt.shaped x = true ∧ SeqAt.shaped y = true then .ok (.d (.bool (PyData.eqv x y))) g else .stuck
  | _, _ => .stuck
def fNe (a b : D) : M D := fun g => match a.dat, b.dat with
  | some x, some y => if SeqAt.shaped x = true ∧ SeqAt.shaped y = true then .ok (.d (.bool (!PyData.eqv x y))) g else .stuck
  | _, _ => .stuck
/-- is None -/
def fIsN (d : D) : M D := fun g => match d with
  | .d .none => .ok (.d (.bool true)) g
  | _ => .ok (.d (.bool false)) g
def fNotN (d : D) : M D := fun g => match d with
  | .d .none => .ok (.d (.bool false)) g
  | _ => .ok (.d (.bool true)) g
theorem ok_int2 {f : D → D → M D} {k : Int → Int → V} {k' : Int → Int → P} {C : Int → Int → Prop} (hk : ∀ F H i j, Rep X.K F H (k' i j) (k i j))
    (h1 : ∀ i j g, (C i j ∧ f (.d (.int i)) (.d (.int j)) g = .ok (.d (k' i j)) g) ∨ f (.d (.int i)) (.d (.int j)) g = .stuck) (h2 : ∀ x y g, (∀ i j, ¬ (x = .d (.int i) ∧ y = .d (.int j))) → f x y g = .stuck) : OkOp X W f (rI C k) := by
  intro B et O env g σ H x y dx dy Q rl rx ry h
  by_cases q : ∃ i j, dx = .d (.int i) ∧ dy = .d (.int j)
  · obtain ⟨i, j, rfl, rfl⟩ := q
    have rx : x = .int i := rx
    have ry : y = .int j := ry
    rcases h1 i j g with ⟨hc, e⟩ | e
    · rw [e] at h
      exact ⟨i, j, rx, ry, hc, h.here rl (hk _ _ i j)⟩
    · rw [e] at h
      exact h.elim
  · rw [h2 dx dy g (fun i j e => q ⟨i, j, e⟩)] at h
    exact h.elim
theorem ok_int20 {f : D → D → M D} {k : Int → Int → V} {k' : Int → Int → P} (hk : ∀ F H i j, Rep X.K F H (k' i j) (k i j))
    (h1 : ∀ i j g, f (.d (.int i)) (.d (.int j)) g = .ok (.d (k' i j)) g) (h2 : ∀ x y g, (∀ i j, ¬ (x = .d (.int i) ∧ y = .d (.int j))) → f x y g = .stuck) : OkOp X W f (rI0 k) := by
  intro B et O env g σ H x y dx dy Q rl rx ry h
  by_cases q : ∃ i j, dx = .d (.int i) ∧ dy = .d (.int j)
  · obtain ⟨i, j, rfl, rfl⟩ := q
    have rx : x = .int i := rx
    have ry : y = .int j := ry
    rw [h1] at h
    exact ⟨i, j, rx, ry, h.here rl (hk _ _ i j)⟩
  · rw [h2 dx dy g (fun i j e => q ⟨i, j, e⟩)] at h
    exact h.elim
theorem ok_sub : OkOp X W fSub (rI0 fun i j => .int (i - j)) := ok_int20 (k' := fun i j => .int (i - j)) (fun _ _ _ _ => rfl) (fun _ _ _ => rfl) (fun x y g h => by unfold fSub; split; exact absurd ⟨rfl, rfl⟩ (h _ _); rfl)
theorem ok_lt : OkOp X W fLt (rI0 fun i j => .bl (decide (i < j))) := ok_int20 (k' := fun i j => .bool (decide (i < j))) (fun _ _ _ _ => rfl) (fun _ _ _ => rfl) (fun x y g h => by unfold fLt; split; exact absurd ⟨rfl, rfl⟩ (h _ _); rfl)
theorem ok_le : OkOp X W fLe (rI0 fun i j => .bl (decide (i ≤ j))) := ok_int20 (k' := fun i j => .bool (decide (i ≤ j))) (fun _ _ _ _ => rfl) (fun _ _ _ => rfl) (fun x y g h => by unfold fLe; split; exact absurd ⟨rfl, rfl⟩ (h _ _); rfl)
theorem ok_gt : OkOp X W fGt (rI0 fun i j => .bl (decide (j < i))) := ok_int20 (k' := fun i j => .bool (decide (j < i))) (fun _ _ _ _ => rfl) (fun _ _ _ => rfl) (fun x y g h => by unfold fGt; split; exact absurd ⟨rfl, rfl⟩ (h _ _); rfl)
theorem ok_ge : OkOp X W fGe (rI0 fun i j => .bl (decide (j ≤ i))) := ok_int20 (k' := fun i j => .bool (decide (j ≤ i))) (fun _ _ _ _ => rfl) (fun _ _ _ => rfl) (fun x y g h => by unfold fGe; split; exact absurd ⟨rfl, rfl⟩ (h _ _); rfl)
theorem ok_mul : OkOp X W fMul (rI CMul fun i j => .int (i * j)) := by
  exact ok_int2 (k' := fun i j => .int (i * j)) (fun _ _ _ _ => rfl) (fun i j g => by unfold fMul; dsimp only; split; exact .inl ⟨by assumption, rfl⟩; exact .inr rfl) (fun x y g h => by unfold fMul; split; exact absurd ⟨rfl, rfl⟩ (h _ _); rfl)
theorem ok_mod : OkOp X W fMod (rI (fun _ j => 0 < j) fun i j => .int (i % j)) :=
  ok_int2 (k' := fun i j => .int (i % j)) (fun _ _ _ _ => rfl) (fun i j g => by unfold fMod; dsimp only; split; exact .inl ⟨by assumption, rfl⟩; exact .inr rfl) (fun x y g h => by unfold fMod; split; exact absurd ⟨rfl, rfl⟩ (h _ _); rfl)
theorem ok_div : OkOp X W fDiv (rI CDiv fun i j => .int (i / j)) := by
  exact ok_int2 (k' := fun i j => .int (i / j)) (fun _ _ _ _ => rfl) (fun i j g => by unfold fDiv; dsimp only; split; exact .inl ⟨by assumption, rfl⟩; exact .inr rfl) (fun x y g h => by unfold fDiv; split; exact absurd ⟨rfl, rfl⟩ (h _ _); rfl)
theorem ok_pow : OkOp X W fPow (rI CPow fun i j => .int (i ^ j.toNat)) := by
  exact ok_int2 (k' := fun i j => .int (i ^ j.toNat)) (fun _ _ _ _ => rfl) (fun i j g => by unfold fPow; dsimp only; split; exact .inl ⟨by assumption, rfl⟩; exact .inr rfl) (fun x y g h => by unfold fPow; split; exact absurd ⟨rfl, rfl⟩ (h _ _); rfl)
theorem ok_neg : OkUn X W fNeg (rU fun i => .int (-i)) := by
  intro B et O env g σ H x dx Q rl rx h
  unfold fNeg at h
  split at h
  · exact ⟨_, rx, h.here rl rfl⟩
  · exact h.elim
theorem dat_dp {K : PySem.W.Frag} {F : Addr → Prop} {H : Hp} {et : List Addr} {d : D} {p : P} {v : V} (e : d.dat = some p) (hl : p.canLay0 = true) (h : RepD K F H et d v) : Dp K H v p := by
  cases d with
  | d q => cases e; exact Rep.dp hl h
  | bor q =>
    cases e
    cases p with
    | list ds =>
      obtain ⟨a, vs, rfl, h1, _, h2⟩ := h
      exact .lst (.inl (.inl h1)) (Reps.dp (by simpa [PyData.canLay0] using hl) h2)
    | dict ds => simp [PyData.canLay0] at hl
    | _ => exact h.elim
  | cell n => cases e
  | scr n => cases e
  | nest n => cases e
theorem ok_eq : OkOp X W fEq (rEqD X.K) := by
  intro B et O env g σ H x y dx dy Q rl rx ry h
  unfold fEq at h
  split at h
  · rename_i _ _ ex ey
    split at h
    · rename_i hc
      exact ⟨_, _, dat_dp ex (SeqAt.canLay_of_shaped hc.1) rx, dat_dp ey (SeqAt.canLay_of_shaped hc.2) ry, hc.1, hc.2, h.here rl rfl⟩
    · exact h.elim
  · exact h.elim
theorem ok_ne : OkOp X W fNe (rNeD X.K) := by
  intro B et O env g σ H x y dx dy Q rl rx ry h
  unfold fNe at h
  split at h
  · rename_i _ _ ex ey
    split at h
    · rename_i hc
      exact ⟨_, _, dat_dp ex (SeqAt.canLay_of_shaped hc.1) rx, dat_dp ey (SeqAt.canLay_of_shaped hc.2) ry, hc.1, hc.2, h.here rl rfl⟩
    · exact h.elim
  · exact h.elim
end
end Sim
set_option maxRecDepth 512
set_option Elab.async false
set_option linter.all false
set_option maxRecDepth 100000
set_option maxHeartbeats 4000000
namespace Sim
open PySem PySem.Spec PyProof.Rows L2
section
variable {X : Cx} {W : WX} {a b c e : Expr} {ma mb mc : Ev} {pos : Pos} {es : List Expr} {ms : Evs}
variable {K : PySem.W.Frag} {F : Addr → Prop} {H : Hp}
theorem Reps.nil_iff {ds : List P} {vs : List V} (h : Reps K F H ds vs) : vs = [] ↔ ds = [] := by
  have := h.length
  constructor
  · intro e; subst e; exact List.length_eq_zero_iff.mp this
  · intro e; subst e; exact h
/-! + -/
def rAddA (K : PySem.W.Frag) : R2 := fun x y H Q => rI0 (fun i j => .int (i + j)) x y H Q ∨ ((fun x y H Q => ∃ i j, x = .str i ∧ y = .str j ∧ i.length + j.length ≤ sizeLine ∧ Q (.str (i ++ j)) H) : R2) x y H Q ∨ rCatA K x y H Q ∨ rCat x y H Q
theorem op_addA : OpR X (binaryOp .Add) (rAddA X.K) := op_add.or (op_add_str.or (op_catA.or op_cat))
theorem ok_add : OkOp X W fAdd (rAddA X.K) := by
  intro B et O env g σ H x y dx dy Q rl rx ry h
  unfold fAdd at h
  split at h
  · exact .inl ⟨_, _, rx, ry, h.here rl rfl⟩
  · split at h
    · exact .inr (.inl ⟨_, _, rx, ry, by assumption, h.here rl rfl⟩)
    · exact h.elim
  · split at h
    · rename_i hz
      obtain ⟨p, vs, rfl, h1, h2⟩ := rx
      obtain ⟨q, us, rfl, h3, h4⟩ := ry
      refine .inr (.inr (.inl ⟨p, q, vs, us, rfl, rfl, h1, h3, by rw [← h2.length, ← h4.length]; exact hz, fun e => ?_, fun _ e => ?_, fun _ _ r hr => ?_⟩))
      · subst e
        have e := (h2.nil_iff).mp rfl
        subst e
        exact h.here rl ⟨q, us, rfl, h3, h4⟩
      · subst e
        have e := (h4.nil_iff).mp rfl
        subst e
        refine h.here rl ⟨p, vs, rfl, h1, ?_⟩
        rw [List.append_nil]; exact h2
      · exact h.new rl hr ⟨r, _, rfl, .inl (.inl upd_same), (h2.append h4).fr (Fr.same (same_new hr))⟩
    · exact h.elim
  all_goals (try (exact h.elim))
  all_goals
    split at h
    · rename_i hz
      obtain ⟨p, vs, rfl, h1, _, h2⟩ := rx
      obtain ⟨q, us, rfl, h3, _, h4⟩ := ry
      refine .inr (.inr (.inr ⟨p, q, vs, us, rfl, rfl, h1, h3, by rw [← h2.length, ← h4.length]; exact hz, fun r hr => ?_⟩))
      exact h.new rl hr ⟨r, _, rfl, upd_same, rl.nF hr, (h2.append h4).fr (Fr.same (same_new hr))⟩
    · exact h.elim
theorem se_add (ha : SE X W a ma) (hb : SE X W b mb) : SE X W (.BinOp a .Add b pos) (eOp fAdd ma mb) := se_op op_addA ok_add ha hb
theorem se_sub (ha : SE X W a ma) (hb : SE X W b mb) : SE X W (.BinOp a .Sub b pos) (eOp fSub ma mb) := se_op op_sub ok_sub ha hb
theorem se_mod (ha : SE X W a ma) (hb : SE X W b mb) : SE X W (.BinOp a .Mod b pos) (eOp fMod ma mb) := se_op op_mod ok_mod ha hb
theorem se_div (ha : SE X W a ma) (hb : SE X W b mb) : SE X W (.BinOp a .FloorDiv b pos) (eOp fDiv ma mb) := se_op op_fdiv ok_div ha hb
theorem se_pow (ha : SE X W a ma) (hb : SE X W b mb) : SE X W (.BinOp a .Pow b pos) (eOp fPow ma mb) := se_op op_pow ok_pow ha hb
theorem se_neg (ha : SE X W a ma) : SE X W (.UnaryOp .USub a pos) (eUn fNeg ma) := se_un un_neg ok_neg ha
/-! * : ints, a list by an int, a tuple by an int -/
def fMulA : D → D → M D
  | .d (.int i), .d (.int j), g => if (-(2 ^ 64) < i ∧ i < 2 ^ 64) ∨ (-(2 ^ 64) < j ∧ j < 2 ^ 64) then .ok (.d (.int (i * j))) g else .stuck
  | .d (.list xs), .d (.int k), g => if 0 ≤ k ∧ k < 2 ^ 20 ∧ xs.length ≤ 10 then .ok (.d (.list (List.replicate k.toNat xs).flatten)) g else .stuck
  | .d (.tuple xs), .d (.int k), g => if xs ≠ [] ∧ 2 ≤ k ∧ k ≤ 1000 ∧ xs.length ≤ 1000 then .ok (.d (.tuple (List.replicate k.toNat xs).flatten)) g else .stuck
  | _, _, _ => .stuck
def rMulA (K : PySem.W.Frag) : R2 := fun x y H Q => rI CMul (fun i j => .int (i * j)) x y H Q ∨ rRep x y H Q ∨ rRepT K x y H Q
theorem op_mulA : OpR X (binaryOp .Mult) (rMulA X.K) := op_mul.or (op_rep.or op_repT)
theorem Reps.rep {ds : List P} {vs : List V} (h : Reps K F H ds vs) : ∀ k : Nat, Reps K F H (List.replicate k ds).flatten (List.replicate k vs).flatten
  | 0 => rfl
  | k + 1 => by
    simp only [List.replicate_succ, List.flatten_cons]
    exact h.append (h.rep k)
theorem ok_mulA : OkOp X W fMulA (rMulA X.K) := by
  intro B et O env g σ H x y dx dy Q rl rx ry h
  unfold fMulA at h
  split at h
  · split at h
    · exact .inl ⟨_, _, rx, ry, by assumption, h.here rl rfl⟩
    · exact h.elim
  · split at h
    · rename_i hz
      obtain ⟨p, vs, rfl, h1, _, h2⟩ := rx
      have ry : y = .int _ := ry
      subst ry
      refine .inr (.inl ⟨p, _, vs, rfl, rfl, h1, by omega, by omega, ?_, fun r hr => ?_⟩)
      · rw [← h2.length, sizeLine_eq]
        refine Nat.le_trans (Nat.mul_le_mul hz.2.2 (Nat.le_refl _)) ?_
        omega
      · exact h.new rl hr ⟨r, _, rfl, upd_same, rl.nF hr, (h2.rep _).fr (Fr.same (same_new hr))⟩
    · exact h.elim
  · split at h
    · rename_i hz
      obtain ⟨p, vs, rfl, h1, h2⟩ := rx
      have ry : y = .int _ := ry
      subst ry
      refine .inr (.inr ⟨p, _, vs, rfl, rfl, h1, fun e => hz.1 ((h2.nil_iff).mp e), hz.2.1, hz.2.2.1, by rw [← h2.length]; exact hz.2.2.2, fun r hr => ?_⟩)
      exact h.new rl hr ⟨r, _, rfl, .inl (.inl upd_same), (h2.rep _).fr (Fr.same (same_new hr))⟩
    · exact h.elim
  · exact h.elim
theorem se_mul (ha : SE X W a ma) (hb : SE X W b mb) : SE X W (.BinOp a .Mult b pos) (eOp fMulA ma mb) := se_op op_mulA ok_mulA ha hb
/-! a[i] -/
def ixP (xs : List P) (i : Int) : M D := fun g => match atI xs i with
  | some p => .ok (.d p) g
  | none => .stuck
def fIx : D → D → M D
  | .d (.list xs), .d (.int i), g => ixP xs i g
  | .bor (.list xs), .d (.int i), g => ixP xs i g
  | .d (.tuple xs), .d (.int i), g => ixP xs i g
  | .d (.str z), .d (.int i), g => if z.length ≤ sizeLine then (match atI z.cps.toList i with | some c => .ok (.d (.str ⟨#[c]⟩)) g | none => .stuck) else .stuck
  | .scr xs, .d (.int i), g => match atI xs i with | some n => .ok (.d (.int n)) g | none => .stuck
  | .cell n, .d (.int i), g => match g[n]? with | some xs => ixP xs i g | none => .stuck
  | _, _, _ => .stuck
theorem Reps.atI {ds : List P} {vs : List V} (h : Reps K F H ds vs) {i : Int} {d : P} (e : L2.atI ds i = some d) : ∃ v, L2.atI vs i = some v ∧ Rep K F H d v := by
  unfold L2.atI at e ⊢
  rw [← h.length]
  cases q : ixN ds.length i with
  | none => rw [q] at e; cases e
  | some j =>
    rw [q] at e
    exact h.get e
theorem ok_ix : OkOp X W fIx (rIx X.K) := by
  intro B et O env g σ H x y dx dy Q rl rx ry h
  unfold fIx at h
  split at h
  · obtain ⟨p, vs, rfl, h1, _, h2⟩ := rx
    unfold ixP at h
    split at h
    · rename_i e
      obtain ⟨v, ev, rv⟩ := h2.atI e
      exact .inl ⟨p, vs, _, v, rfl, ry, .inl (.inl h1), ev, h.here rl rv⟩
    · exact h.elim
  · obtain ⟨p, vs, rfl, h1, _, h2⟩ := rx
    unfold ixP at h
    split at h
    · rename_i e
      obtain ⟨v, ev, rv⟩ := h2.atI e
      exact .inl ⟨p, vs, _, v, rfl, ry, .inl (.inl h1), ev, h.here rl rv⟩
    · exact h.elim
  · obtain ⟨p, vs, rfl, h1, h2⟩ := rx
    unfold ixP at h
    split at h
    · rename_i e
      obtain ⟨v, ev, rv⟩ := h2.atI e
      exact .inr (.inl ⟨p, vs, _, v, rfl, ry, h1, ev, h.here rl rv⟩)
    · exact h.elim
  · split at h
    · rename_i hz
      split at h
      · rename_i c e
        exact .inr (.inr ⟨_, _, c, rx, ry, hz, e, h.here rl rfl⟩)
      · exact h.elim
    · exact h.elim
  · split at h
    · rename_i xs i g n e
      obtain ⟨p, rfl, h1⟩ := rx
      refine .inl ⟨p, _, _, .int n, rfl, ry, scr_sql h1, ?_, h.here rl rfl⟩
      unfold L2.atI at e ⊢
      rw [List.length_map]
      cases q : ixN xs.length i with
      | none => rw [q] at e; cases e
      | some j =>
        rw [q] at e
        have e : xs[j]? = some n := e
        show (xs.map V.int)[j]? = _
        rw [List.getElem?_map, e]; rfl
    · exact h.elim
  · split at h
    · rename_i eg
      obtain ⟨p, rfl, h1⟩ := rx
      obtain ⟨vs, ep, h2⟩ := rl.cel.at_ _ _ _ h1 eg
      unfold ixP at h
      split at h
      · rename_i e
        obtain ⟨v, ev, rv⟩ := h2.atI e
        exact .inl ⟨p, vs, _, v, rfl, ry, .inl (.inl ep), ev, h.here rl rv⟩
      · exact h.elim
    · exact h.elim
  · exact h.elim
theorem se_ix (ha : SE X W a ma) (hb : SE X W b mb) (hs : PlainIx b := by exact fun _ _ => rfl) : SE X W (.Subscript a b pos) (eOp fIx ma mb) :=
  pe_imp (pe_ix ix_seq ha hb hs) fun _ _ _ h => top_of ok_ix h
/-! a[lo:hi] -/
def cutP (xs : List P) (lo hi : Option Int) : List P := (xs.drop (HT.sIx xs.length 0 lo)).take (HT.sIx xs.length xs.length hi - HT.sIx xs.length 0 lo)
theorem Reps.cut {ds : List P} {vs : List V} (h : Reps K F H ds vs) (lo hi : Option Int) : Reps K F H (cutP ds lo hi) (cutV vs lo hi) := by
  unfold cutP cutV
  rw [← h.length]
  exact (h.drop _).take _
def fSl (d : D) (lo hi : Option Int) : M D := fun g => match d with
  | .d (.tuple xs) => .ok (.d (.tuple (cutP xs lo hi))) g
  | .d (.list xs) => .ok (.d (.list (cutP xs lo hi))) g
  | .bor (.list xs) => .ok (.d (.list (cutP xs lo hi))) g
  | _ => .stuck
abbrev Op := En → M (Option Int)
def oNo : Op := fun _ g => .ok none g
def oSome (a : Ev) : Op := fun env g => (a env g).bind fun x g1 => match x with
  | .d (.int i) => .ok (some i) g1
  | _ => .stuck
def rO : RepT (Option Int) (Option Int) := fun _ _ _ d o => d = o
def mO (K : PySem.W.Frag) (mg : Str → Option Value) (W : WX) (m : Op) : TO := fun σ H Q => ∃ B et O env g, Rl K B et O env g σ H ∧ wG K mg B O env σ W rO et H (m env g) Q
def SO (X : Cx) (W : WX) (e : Option Expr) (m : Op) : Prop := PO X e (mO X.K X.mg W m)
theorem po_imp {e : Option Expr} {t t' : TO} (h : PO X e t) (hi : ∀ σ H Q, t' σ H Q → t σ H Q) : PO X e t' := ⟨fun pins s σ H Q I q => h.run pins s σ H Q I (hi σ H Q q)⟩
theorem so_no : SO X W none oNo := po_imp po_none fun σ H Q ⟨B, et, O, env, g, rl, h⟩ => h.here rl rfl
theorem so_some (ha : SE X W a ma) : SO X W (some a) (oSome ma) := po_imp (po_some ha) fun σ H Q ⟨B, et, O, env, g, rl, h⟩ =>
  ⟨B, et, O, env, g, rl, wG.bind h fun d1 g1 v1 H1 e1 _ rl1 fr1 r1 h1 => by
    split at h1
    · exact ⟨_, r1, h1.here rl1 rfl⟩
    · exact h1.elim⟩
def eSl (a : Ev) (lo hi : Op) : Ev := fun env g => (a env g).bind fun x g1 => (lo env g1).bind fun l g2 => (hi env g2).bind fun u g3 => fSl x l u g3
theorem se_sl {lo hi : Option Expr} {ml mh : Op} {p2 : Pos} (ha : SE X W a ma) (hl : SO X W lo ml) (hh : SO X W hi mh) : SE X W (.Subscript a (.Slice lo hi none p2) pos) (eSl ma ml mh) := by
  refine pe_imp (pe_slice (sl_tupA.or sl_list) ha hl hh) fun σ H Q ⟨B, et, O, env, g, rl, h⟩ => ⟨B, et, O, env, g, rl, wG.bind h fun d1 g1 v1 H1 e1 _ rl1 fr1 r1 h1 => ⟨B, e1, O, env, g1, rl1, wG.bind h1 fun d2 g2 v2 H2 e2 _ rl2 fr2 r2 h2 =>
    ⟨B, e2, O, env, g2, rl2, wG.bind h2 fun d3 g3 v3 H3 e3 _ rl3 fr3 r3 h3 => ?_⟩⟩⟩
  have r2 : d2 = v2 := r2
  have r3 : d3 = v3 := r3
  subst r2
  subst r3
  have r1 := RepD.fr r1 (fr2.trans fr3)
  unfold fSl at h3
  split at h3
  · obtain ⟨p, vs, rfl, q1, q2⟩ := r1
    refine .inl ⟨p, vs, rfl, q1, fun hw => ?_, fun _ r hr => ?_⟩
    · refine h3.here rl3 ⟨p, vs, rfl, q1, ?_⟩
      have e : cutV vs d2 d3 = vs := by
        unfold cutV
        rw [hw.1, hw.2]
        simp
      rw [← e]
      exact q2.cut _ _
    · exact h3.new rl3 hr ⟨r, _, rfl, .inl (.inl upd_same), (q2.cut _ _).fr (Fr.same (same_new hr))⟩
  all_goals (try (exact h3.elim))
  all_goals
    obtain ⟨p, vs, rfl, q1, _, q2⟩ := r1
    refine .inr ⟨p, vs, rfl, .inl (.inl q1), fun r hr => ?_⟩
    exact h3.new rl3 hr ⟨r, _, rfl, upd_same, rl3.nF hr, (q2.cut _ _).fr (Fr.same (same_new hr))⟩
/-! comparisons -/
theorem un64 {k : Nat} (hr : Room k X.A) : X.A.units + 64 < cLine := by have := hr.un; omega
theorem un65 {k : Nat} (hr : Room k X.A) : X.A.units + 65 < cLine := by have := hr.un; omega
theorem ok_isN : OkOp X W (fun x y g => match y with | .d .none => fIsN x g | _ => .stuck) (fun x y H Q => y = .non ∧ Q (.bl (decide (x = .non))) H) := by
  intro B et O env g σ H x y dx dy Q rl rx ry h
  dsimp only at h
  split at h
  · refine ⟨ry, ?_⟩
    unfold fIsN at h
    split at h
    · have rx : x = .non := rx
      subst rx
      exact h.here rl rfl
    · rename_i hn
      have : x ≠ .non := by
        intro e
        subst e
        cases dx with
        | d p =>
          cases p with
          | none => exact hn rfl
          | bool b => exact nomatch (show V.non = .bl b from rx)
          | int b => exact nomatch (show V.non = .int b from rx)
          | str b => exact nomatch (show V.non = .str b from rx)
          | tuple b => obtain ⟨_, _, z, _⟩ := rx; cases z
          | list b => obtain ⟨_, _, z, _⟩ := rx; cases z
          | dict b => obtain ⟨_, _, z, _⟩ := rx; cases z
        | cell n => obtain ⟨_, z, _⟩ := rx; cases z
        | scr n => obtain ⟨_, z, _⟩ := rx; cases z
        | nest n => obtain ⟨_, _, z, _⟩ := rx; cases z
        | bor p =>
          cases p with
          | list b => obtain ⟨_, _, z, _⟩ := rx; cases z
          | dict b => obtain ⟨_, _, z, _⟩ := rx; cases z
          | _ => exact rx
      rw [decide_eq_false this]
      exact h.here rl rfl
  · exact h.elim
theorem ok_notN : OkOp X W (fun x y g => match y with | .d .none => fNotN x g | _ => .stuck) (fun x y H Q => y = .non ∧ Q (.bl (!decide (x = .non))) H) := by
  intro B et O env g σ H x y dx dy Q rl rx ry h
  dsimp only at h
  split at h
  · refine ⟨ry, ?_⟩
    unfold fNotN at h
    split at h
    · have rx : x = .non := rx
      subst rx
      exact h.here rl rfl
    · rename_i hn
      have : x ≠ .non := by
        intro e
        subst e
        cases dx with
        | d p =>
          cases p with
          | none => exact hn rfl
          | bool b => exact nomatch (show V.non = .bl b from rx)
          | int b => exact nomatch (show V.non = .int b from rx)
          | str b => exact nomatch (show V.non = .str b from rx)
          | tuple b => obtain ⟨_, _, z, _⟩ := rx; cases z
          | list b => obtain ⟨_, _, z, _⟩ := rx; cases z
          | dict b => obtain ⟨_, _, z, _⟩ := rx; cases z
        | cell n => obtain ⟨_, z, _⟩ := rx; cases z
        | scr n => obtain ⟨_, z, _⟩ := rx; cases z
        | nest n => obtain ⟨_, _, z, _⟩ := rx; cases z
        | bor p =>
          cases p with
          | list b => obtain ⟨_, _, z, _⟩ := rx; cases z
          | dict b => obtain ⟨_, _, z, _⟩ := rx; cases z
          | _ => exact rx
      rw [decide_eq_false this]
      exact h.here rl rfl
  · exact h.elim
def fIs (x y : D) : M D := fun g => match y with | .d .none => fIsN x g | _ => .stuck
def fIsNot (x y : D) : M D := fun g => match y with | .d .none => fNotN x g | _ => .stuck
end
end Sim
set_option maxRecDepth 512
set_option Elab.async false
set_option linter.all false
set_option maxRecDepth 100000
set_option maxHeartbeats 4000000
namespace Sim
open PySem PySem.Spec PyProof.Rows L2
section
variable {X : Cx} {W : WX} {a b c e : Expr} {ma mb mc : Ev} {pos : Pos} {es : List Expr} {ms : Evs}
variable {K : PySem.W.Frag} {F : Addr → Prop} {H : Hp}
/-! len -/
def fLen : List D → M D
  | [.d (.tuple xs)], g => .ok (.d (.int xs.length)) g
  | [.d (.list xs)], g => .ok (.d (.int xs.length)) g
  | [.bor (.list xs)], g => .ok (.d (.int xs.length)) g
  | [.d (.dict xs)], g => .ok (.d (.int xs.length)) g
  | [.bor (.dict xs)], g => .ok (.d (.int xs.length)) g
  | [.d (.str x)], g => if x.length ≤ sizeLine then .ok (.d (.int x.length)) g else .stuck
  | [.scr xs], g => .ok (.d (.int xs.length)) g
  | _, _ => .stuck
theorem RepKv.length : ∀ {ds : List (P × P)} {vs : List (Key × V)}, RepKv K F H ds vs → ds.length = vs.length
  | [], _, h => by have h : _ = [] := h; subst h; rfl
  | (k, d) :: ds, _, h => by
    obtain ⟨kk, v, r, rfl, _, _, h2⟩ := h
    simp [RepKv.length h2]
def rLen (K : PySem.W.Frag) : List V → Hp → VK → Prop := fun xs H Q => ((∃ p ys, xs = [.ref p] ∧ (SqL K H p ys ∨ SqT K H p ys) ∧ Q (.int ys.length) H) ∨ (∃ z, xs = [.str z] ∧ z.length ≤ sizeLine ∧ Q (.int z.length) H)) ∨ ∃ a kvs, xs = [V.ref a] ∧ Rd H a (.dK kvs) ∧ Q (.int kvs.length) H
theorem call_lenR : CallR X (.builtin "len") (fun xs H Q => ∃ a kvs, xs = [V.ref a] ∧ Rd H a (.dK kvs) ∧ Q (.int kvs.length) H) := fun pins s σ H xs us Q I r h => by
  obtain ⟨a, kvs, e, ha, q⟩ := h
  subst e
  obtain ⟨u, e, ru⟩ := vals1 r
  subst e
  cases ru
  exact d_len I ha fun t s' J => ⟨.int kvs.length, H, J, ⟨t, rfl⟩, q⟩
theorem cr_lenA : CallR X (.builtin "len") (rLen X.K) := (call_len_seq.or call_len_str).or call_lenR
theorem ok_len : OkCall X W fLen (rLen X.K) := by
  intro B et O env g σ H xs ds Q rl rx h
  unfold fLen at h
  split at h
  · obtain ⟨v, r, rfl, ⟨p, vs, rfl, h1, h2⟩, rfl⟩ := rx
    exact .inl (.inl ⟨p, vs, rfl, .inr h1, by rw [← h2.length]; exact h.here rl rfl⟩)
  · obtain ⟨v, r, rfl, ⟨p, vs, rfl, h1, _, h2⟩, rfl⟩ := rx
    exact .inl (.inl ⟨p, vs, rfl, .inl (.inl (.inl h1)), by rw [← h2.length]; exact h.here rl rfl⟩)
  · obtain ⟨v, r, rfl, ⟨p, vs, rfl, h1, _, h2⟩, rfl⟩ := rx
    exact .inl (.inl ⟨p, vs, rfl, .inl (.inl (.inl h1)), by rw [← h2.length]; exact h.here rl rfl⟩)
  · obtain ⟨v, r, rfl, ⟨p, vs, rfl, h1, _, h2⟩, rfl⟩ := rx
    exact .inr ⟨p, vs, rfl, h1, by rw [← h2.length]; exact h.here rl rfl⟩
  · obtain ⟨v, r, rfl, ⟨p, vs, rfl, h1, _, h2⟩, rfl⟩ := rx
    exact .inr ⟨p, vs, rfl, .inl h1, by rw [← h2.length]; exact h.here rl rfl⟩
  · split at h
    · obtain ⟨v, r, rfl, rv, rfl⟩ := rx
      have rv : v = .str _ := rv
      subst rv
      exact .inl (.inr ⟨_, rfl, by assumption, h.here rl rfl⟩)
    · exact h.elim
  · obtain ⟨v, r, rfl, ⟨p, rfl, h1⟩, rfl⟩ := rx
    refine .inl (.inl ⟨p, _, rfl, .inl (scr_sql h1), ?_⟩)
    rw [List.length_map]
    exact h.here rl rfl
  · exact h.elim
/-! abs, int, max, min, divmod -/
def fAbs : List D → M D
  | [.d (.int i)], g => .ok (.d (.int (if i < 0 then -i else i))) g
  | _, _ => .stuck
theorem ok_abs : OkCall X W fAbs (fun xs H Q => ∃ i, xs = [.int i] ∧ Q (.int (if i < 0 then -i else i)) H) := by
  intro B et O env g σ H xs ds Q rl rx h
  unfold fAbs at h
  split at h
  · obtain ⟨v, r, rfl, rv, rfl⟩ := rx
    have rv : v = .int _ := rv
    subst rv
    exact ⟨_, rfl, h.here rl rfl⟩
  · exact h.elim
def fInt : List D → M D
  | [.d (.int i)], g => .ok (.d (.int i)) g
  | [.d (.bool b)], g => .ok (.d (.int (if b then 1 else 0))) g
  | _, _ => .stuck
theorem ok_intc : OkCall X W fInt (fun xs H Q => (∃ i, xs = [.int i] ∧ Q (.int i) H) ∨ ∃ k, xs = [.bl k] ∧ Q (.int (if k then 1 else 0)) H) := by
  intro B et O env g σ H xs ds Q rl rx h
  unfold fInt at h
  split at h
  · obtain ⟨v, r, rfl, rv, rfl⟩ := rx
    have rv : v = .int _ := rv
    subst rv
    exact .inl ⟨_, rfl, h.here rl rfl⟩
  · obtain ⟨v, r, rfl, rv, rfl⟩ := rx
    have rv : v = .bl _ := rv
    subst rv
    exact .inr ⟨_, rfl, h.here rl rfl⟩
  · exact h.elim
def intsOf : List P → Option (List Int)
  | [] => some []
  | .int i :: r => (intsOf r).map (i :: ·)
  | _ :: _ => none
theorem intsOf_map : ∀ {xs : List P} {ns : List Int}, intsOf xs = some ns → xs = ns.map PyData.int
  | [], ns, e => by cases e; rfl
  | .int i :: r, ns, e => by
    simp only [intsOf, Option.map_eq_some_iff] at e
    obtain ⟨q, e1, rfl⟩ := e
    rw [intsOf_map e1]; rfl
  | .none :: _, _, e => by cases e
  | .bool _ :: _, _, e => by cases e
  | .str _ :: _, _, e => by cases e
  | .list _ :: _, _, e => by cases e
  | .tuple _ :: _, _, e => by cases e
  | .dict _ :: _, _, e => by cases e
theorem intsOf_of : ∀ (ns : List Int), intsOf (ns.map PyData.int) = some ns
  | [] => rfl
  | n :: ns => by simp only [List.map_cons, intsOf, intsOf_of ns]; rfl
def blsOf : List P → Option (List Bool)
  | [] => some []
  | .bool i :: r => (blsOf r).map (i :: ·)
  | _ :: _ => none
theorem blsOf_map : ∀ {xs : List P} {ns : List Bool}, blsOf xs = some ns → xs = ns.map PyData.bool
  | [], ns, e => by cases e; rfl
  | .bool i :: r, ns, e => by
    simp only [blsOf, Option.map_eq_some_iff] at e
    obtain ⟨q, e1, rfl⟩ := e
    rw [blsOf_map e1]; rfl
  | .none :: _, _, e => by cases e
  | .int _ :: _, _, e => by cases e
  | .str _ :: _, _, e => by cases e
  | .list _ :: _, _, e => by cases e
  | .tuple _ :: _, _, e => by cases e
  | .dict _ :: _, _, e => by cases e
theorem blsOf_of : ∀ (ns : List Bool), blsOf (ns.map PyData.bool) = some ns
  | [] => rfl
  | n :: ns => by simp only [List.map_cons, blsOf, blsOf_of ns]; rfl
def maxI : List Int → Int
  | [] => 0
  | [x] => x
  | x :: y :: r => max x (maxI (y :: r))
def minI : List Int → Int
  | [] => 0
  | [x] => x
  | x :: y :: r => min x (minI (y :: r))
theorem maxI_mem : ∀ {xs : List Int}, xs ≠ [] → maxI xs ∈ xs
  | [], h => absurd rfl h
  | [x], _ => by simp [maxI]
  | x :: y :: r, _ => by
    have := maxI_mem (xs := y :: r) (by simp)
    simp only [maxI]
    rcases (show (x ≤ maxI (y :: r)) ∨ ¬ x ≤ maxI (y :: r) from Classical.em _) with q | q
    · rw [Int.max_eq_right q]; exact List.mem_cons_of_mem _ this
    · rw [Int.max_eq_left (by omega)]; exact List.mem_cons_self
theorem maxI_ge : ∀ {xs : List Int} {y : Int}, y ∈ xs → y ≤ maxI xs
  | [], _, h => by cases h
  | [x], y, h => by simp at h; simp [maxI, h]
  | x :: z :: r, y, h => by
    simp only [maxI]
    rcases List.mem_cons.mp h with rfl | q
    · exact Int.le_max_left _ _
    · exact Int.le_trans (maxI_ge q) (Int.le_max_right _ _)
theorem minI_mem : ∀ {xs : List Int}, xs ≠ [] → minI xs ∈ xs
  | [], h => absurd rfl h
  | [x], _ => by simp [minI]
  | x :: y :: r, _ => by
    have := minI_mem (xs := y :: r) (by simp)
    simp only [minI]
    rcases (show (x ≤ minI (y :: r)) ∨ ¬ x ≤ minI (y :: r) from Classical.em _) with q | q
    · rw [Int.min_eq_left q]; exact List.mem_cons_self
    · rw [Int.min_eq_right (by omega)]; exact List.mem_cons_of_mem _ this
theorem minI_le : ∀ {xs : List Int} {y : Int}, y ∈ xs → minI xs ≤ y
  | [], _, h => by cases h
  | [x], y, h => by simp at h; simp [minI, h]
  | x :: z :: r, y, h => by
    simp only [minI]
    rcases List.mem_cons.mp h with rfl | q
    · exact Int.min_le_left _ _
    · exact Int.le_trans (Int.min_le_right _ _) (minI_le q)
/-- a list's items, the list of any kind -/
def D.lst : D → Option (List P)
  | .d (.list xs) => some xs
  | .bor (.list xs) => some xs
  | _ => none
theorem lstI_rep {et : List Addr} {d : D} {ns : List Int} {v : V} (e : d.lst.bind intsOf = some ns) (h : RepD K F H et d v) : ∃ a, v = .ref a ∧ H a = some (.lst (ns.map V.int)) := by
  obtain ⟨xs, e1, e2⟩ := Option.bind_eq_some_iff.mp e
  unfold D.lst at e1
  split at e1
  all_goals (try (cases e1; done))
  all_goals
    cases e1
    obtain ⟨a, vs, rfl, h1, _, h2⟩ := h
    rw [intsOf_map e2] at h2
    rw [h2.ints] at h1
    exact ⟨a, rfl, h1⟩
theorem lstB_rep {et : List Addr} {d : D} {ns : List Bool} {v : V} (e : d.lst.bind blsOf = some ns) (h : RepD K F H et d v) : ∃ a, v = .ref a ∧ H a = some (.lst (ns.map V.bl)) := by
  obtain ⟨xs, e1, e2⟩ := Option.bind_eq_some_iff.mp e
  unfold D.lst at e1
  split at e1
  all_goals (try (cases e1; done))
  all_goals
    cases e1
    obtain ⟨a, vs, rfl, h1, _, h2⟩ := h
    rw [blsOf_map e2] at h2
    rw [h2.bls] at h1
    exact ⟨a, rfl, h1⟩
theorem lst_rep {et : List Addr} {d : D} {xs : List P} {v : V} (e : d.lst = some xs) (h : RepD K F H et d v) : ∃ a vs, v = .ref a ∧ H a = some (.lst vs) ∧ Reps K F H xs vs := by
  unfold D.lst at e
  split at e
  · cases e
    obtain ⟨a, vs, rfl, h1, _, h2⟩ := h
    exact ⟨a, vs, rfl, h1, h2⟩
  · cases e
    obtain ⟨a, vs, rfl, h1, _, h2⟩ := h
    exact ⟨a, vs, rfl, h1, h2⟩
  · cases e
def fMax : List D → M D
  | [.d (.int i), .d (.int j)], g => .ok (.d (.int (if j > i then j else i))) g
  | [x], g => match x.lst.bind intsOf with
    | some ns => if 0 < ns.length then .ok (.d (.int (maxI ns))) g else .stuck
    | none => .stuck
  | _, _ => .stuck
def fMin : List D → M D
  | [.d (.int i), .d (.int j)], g => .ok (.d (.int (if j < i then j else i))) g
  | [x], g => match x.lst.bind intsOf with
    | some ns => if 0 < ns.length then .ok (.d (.int (minI ns))) g else .stuck
    | none => .stuck
  | _, _ => .stuck
theorem ok_max : OkCall X W fMax (fun xs H Q => (∃ i j, xs = [.int i, .int j] ∧ Q (.int (if j > i then j else i)) H) ∨ rMax X.K xs H Q) := by
  intro B et O env g σ H xs ds Q rl rx h
  unfold fMax at h
  split at h
  · obtain ⟨v, r, rfl, rv, v', r', rfl, rv', rfl⟩ := rx
    have rv : v = .int _ := rv
    have rv' : v' = .int _ := rv'
    subst rv; subst rv'
    exact .inl ⟨_, _, rfl, h.here rl rfl⟩
  · obtain ⟨v, r, rfl, rv, rfl⟩ := rx
    split at h
    · rename_i ns e
      obtain ⟨p, rfl, h1⟩ := lstI_rep e rv
      split at h
      · rename_i hz
        have hne : ns ≠ [] := fun q => by subst q; simp at hz
        refine .inr ⟨p, ns, rfl, .inl (.inl h1), hz, fun m hm hy => ?_⟩
        have : m = maxI ns := Int.le_antisymm (maxI_ge hm) (hy _ (maxI_mem hne))
        rw [this]; exact h.here rl rfl
      · exact h.elim
    · exact h.elim
  · exact h.elim
theorem ok_min : OkCall X W fMin (fun xs H Q => (∃ i j, xs = [.int i, .int j] ∧ Q (.int (if j < i then j else i)) H) ∨ rMin X.K xs H Q) := by
  intro B et O env g σ H xs ds Q rl rx h
  unfold fMin at h
  split at h
  · obtain ⟨v, r, rfl, rv, v', r', rfl, rv', rfl⟩ := rx
    have rv : v = .int _ := rv
    have rv' : v' = .int _ := rv'
    subst rv; subst rv'
    exact .inl ⟨_, _, rfl, h.here rl rfl⟩
  · obtain ⟨v, r, rfl, rv, rfl⟩ := rx
    split at h
    · rename_i ns e
      obtain ⟨p, rfl, h1⟩ := lstI_rep e rv
      split at h
      · rename_i hz
        have hne : ns ≠ [] := fun q => by subst q; simp at hz
        refine .inr ⟨p, ns, rfl, .inl (.inl h1), hz, fun m hm hy => ?_⟩
        have : m = minI ns := Int.le_antisymm (hy _ (minI_mem hne)) (minI_le hm)
        rw [this]; exact h.here rl rfl
      · exact h.elim
    · exact h.elim
  · exact h.elim
def fDivmod : List D → M D
  | [.d (.int i), .d (.int j)], g => if 0 < j ∧ j < 1073741824 then .ok (.d (.tuple [.int (i / j), .int (i % j)])) g else .stuck
  | _, _ => .stuck
theorem ok_divmod : OkCall X W fDivmod (fun xs H Q => ∃ i j, xs = [.int i, .int j] ∧ CDiv i j ∧ ∀ p, H p = none → Q (.ref p) (upd H p (.tup [.int (i / j), .int (i % j)]))) := by
  intro B et O env g σ H xs ds Q rl rx h
  unfold fDivmod at h
  split at h
  · split at h
    · obtain ⟨v, r, rfl, rv, v', r', rfl, rv', rfl⟩ := rx
      have rv : v = .int _ := rv
      have rv' : v' = .int _ := rv'
      subst rv; subst rv'
      refine ⟨_, _, rfl, by assumption, fun p hp => ?_⟩
      exact h.new rl hp ⟨p, _, rfl, .inl (.inl upd_same), ⟨_, _, rfl, rfl, _, _, rfl, rfl, rfl⟩⟩
    · exact h.elim
  · exact h.elim
def fSum : List D → M D
  | [.d (.tuple xs)], g => (match intsOf xs with
    | some ns => .ok (.d (.int ns.sum)) g
    | none => .stuck)
  | [x], g => match x.lst.bind intsOf with
    | some ns => .ok (.d (.int ns.sum)) g
    | none => .stuck
  | _, _ => .stuck
/-- sum(t), t a tuple of ints -/
def rSumT (K : PySem.W.Frag) : List V → Hp → VK → Prop := fun vs H Q => ∃ (a : Addr) (ns : List Int), vs = [V.ref a] ∧ SqT K H a (ns.map V.int) ∧ Q (.int ns.sum) H
theorem cr_sumT (hc : X.calm = true) : CallR X (.builtin "sum") (rSumT X.K) := by
  intro pins s σ H vs us Q I r h
  obtain ⟨a, ns, rfl, hs, q⟩ := h
  obtain ⟨its, rv, hl, _⟩ := I.tuple hs
  rw [Vals.ref1 r]
  have hi := rv.ints
  obtain ⟨xs, hx⟩ := hi.allInts.items
  have hn : numsOf its.toArray.toList = ns := by rw [show its.toArray.toList = its from rfl, hi.numsOf]
  rw [hx] at hl hn
  rw [nums_intItems] at hn
  refine PySem.W.ktm_sumG (I.ok.hd hc) hl fun h' tk t' hk => ⟨.int _, H, I.kept hk, ⟨_, rfl⟩, ?_⟩
  rw [preSum_eq, List.take_of_length_le (by simp), hn]; exact q
theorem ok_sum : OkCall X W fSum (fun xs H Q => rSum X.K xs H Q ∨ rSumT X.K xs H Q) := by
  intro B et O env g σ H xs ds Q rl rx h
  unfold fSum at h
  split at h
  · obtain ⟨v, r, rfl, ⟨p, vs, rfl, h1, h2⟩, rfl⟩ := rx
    split at h
    · rename_i ns e
      have e := intsOf_map e
      subst e
      rw [h2.ints] at h1
      exact .inr ⟨p, ns, rfl, h1, h.here rl rfl⟩
    · exact h.elim
  · obtain ⟨v, r, rfl, rv, rfl⟩ := rx
    split at h
    · rename_i ns e
      obtain ⟨p, rfl, h1⟩ := lstI_rep e rv
      exact .inl ⟨p, ns, rfl, .inl (.inl h1), h.here rl rfl⟩
    · exact h.elim
  · exact h.elim
def fAll : List D → M D
  | [x], g => match x.lst.bind blsOf with
    | some ns => .ok (.d (.bool (ns.all id))) g
    | none => .stuck
  | _, _ => .stuck
def fAny : List D → M D
  | [x], g => match x.lst.bind blsOf with
    | some ns => .ok (.d (.bool (ns.any id))) g
    | none => .stuck
  | _, _ => .stuck
theorem ok_all : OkCall X W fAll (rAll X.K) := by
  intro B et O env g σ H xs ds Q rl rx h
  unfold fAll at h
  split at h
  · obtain ⟨v, r, rfl, rv, rfl⟩ := rx
    split at h
    · rename_i ns e
      obtain ⟨p, rfl, h1⟩ := lstB_rep e rv
      exact ⟨p, ns, rfl, .inl (.inl h1), h.here rl rfl⟩
    · exact h.elim
  · exact h.elim
theorem ok_any : OkCall X W fAny (rAny X.K) := by
  intro B et O env g σ H xs ds Q rl rx h
  unfold fAny at h
  split at h
  · obtain ⟨v, r, rfl, rv, rfl⟩ := rx
    split at h
    · rename_i ns e
      obtain ⟨p, rfl, h1⟩ := lstB_rep e rv
      exact ⟨p, ns, rfl, .inl (.inl h1), h.here rl rfl⟩
    · exact h.elim
  · exact h.elim
def fTuple : List D → M D
  | [.d (.list xs)], g => .ok (.d (.tuple xs)) g
  | [.bor (.list xs)], g => .ok (.d (.tuple xs)) g
  | [.d (.tuple xs)], g => .ok (.d (.tuple xs)) g
  | _, _ => .stuck
theorem ok_tuple : OkCall X W fTuple (fun xs H Q => ∃ p ys, xs = [.ref p] ∧ ((SqL X.K H p ys ∧ ∀ l, H l = none → Q (.ref l) (upd H l (.tup ys))) ∨ (SqT X.K H p ys ∧ Q (.ref p) H))) := by
  intro B et O env g σ H xs ds Q rl rx h
  unfold fTuple at h
  split at h
  · obtain ⟨v, r, rfl, ⟨p, vs, rfl, h1, _, h2⟩, rfl⟩ := rx
    exact ⟨p, vs, rfl, .inl ⟨.inl (.inl h1), fun l hl => h.new rl hl ⟨l, vs, rfl, .inl (.inl upd_same), h2.fr (Fr.same (same_new hl))⟩⟩⟩
  · obtain ⟨v, r, rfl, ⟨p, vs, rfl, h1, _, h2⟩, rfl⟩ := rx
    exact ⟨p, vs, rfl, .inl ⟨.inl (.inl h1), fun l hl => h.new rl hl ⟨l, vs, rfl, .inl (.inl upd_same), h2.fr (Fr.same (same_new hl))⟩⟩⟩
  · obtain ⟨v, r, rfl, ⟨p, vs, rfl, h1, h2⟩, rfl⟩ := rx
    exact ⟨p, vs, rfl, .inr ⟨h1, h.here rl ⟨p, vs, rfl, h1, h2⟩⟩⟩
  · exact h.elim
def fList : List D → M D
  | [.d (.list xs)], g => .ok (.d (.list xs)) g
  | [.bor (.list xs)], g => .ok (.d (.list xs)) g
  | [.d (.tuple xs)], g => .ok (.d (.list xs)) g
  | _, _ => .stuck
theorem ok_list : OkCall X W fList (fun xs H Q => ∃ p ys, xs = [.ref p] ∧ (SqL X.K H p ys ∨ SqT X.K H p ys) ∧ ∀ l, H l = none → Q (.ref l) (upd H l (.lst ys))) := by
  intro B et O env g σ H xs ds Q rl rx h
  unfold fList at h
  split at h
  · obtain ⟨v, r, rfl, ⟨p, vs, rfl, h1, _, h2⟩, rfl⟩ := rx
    exact ⟨p, vs, rfl, .inl (.inl (.inl h1)), fun l hl => h.new rl hl ⟨l, vs, rfl, upd_same, rl.nF hl, h2.fr (Fr.same (same_new hl))⟩⟩
  · obtain ⟨v, r, rfl, ⟨p, vs, rfl, h1, _, h2⟩, rfl⟩ := rx
    exact ⟨p, vs, rfl, .inl (.inl (.inl h1)), fun l hl => h.new rl hl ⟨l, vs, rfl, upd_same, rl.nF hl, h2.fr (Fr.same (same_new hl))⟩⟩
  · obtain ⟨v, r, rfl, ⟨p, vs, rfl, h1, h2⟩, rfl⟩ := rx
    exact ⟨p, vs, rfl, .inr h1, fun l hl => h.new rl hl ⟨l, vs, rfl, upd_same, rl.nF hl, h2.fr (Fr.same (same_new hl))⟩⟩
  · exact h.elim
/-- the intsOf in order -/
def sortI (ns : List Int) : List Int := ns.mergeSort fun a b => decide (a ≤ b)
theorem sortI_perm (ns : List Int) : (sortI ns).Perm ns := List.mergeSort_perm _ _
theorem sortI_le (ns : List Int) : (sortI ns).Pairwise (· ≤ ·) := by
  have := List.pairwise_mergeSort (le := fun a b : Int => decide (a ≤ b)) (fun a b c h1 h2 => by simp at *; omega) (fun a b => by simp; omega) ns
  exact this.imp (by simp)
theorem sorted_unique : ∀ {xs ys : List Int}, xs.Perm ys → xs.Pairwise (· ≤ ·) → ys.Pairwise (· ≤ ·) → xs = ys
  | [], ys, h, _, _ => (List.nil_perm.mp h).symm
  | x :: xs, [], h, _, _ => (nomatch List.Perm.length_eq h)
  | x :: xs, y :: ys, h, h1, h2 => by
    have h1' := List.pairwise_cons.mp h1
    have h2' := List.pairwise_cons.mp h2
    have e : x = y := by
      have a1 : x ∈ y :: ys := h.subset List.mem_cons_self
      have a2 : y ∈ x :: xs := h.symm.subset List.mem_cons_self
      have b1 : y ≤ x := by
        rcases List.mem_cons.mp a1 with q | q
        · omega
        · exact h2'.1 _ q
      have b2 : x ≤ y := by
        rcases List.mem_cons.mp a2 with q | q
        · omega
        · exact h1'.1 _ q
      omega
    subst e
    rw [sorted_unique h.cons_inv h1'.2 h2'.2]
def fSorted : List D → M D
  | [x], g => match x.lst.bind intsOf with
    | some ns => .ok (.d (.list ((sortI ns).map PyData.int))) g
    | none => .stuck
  | _, _ => .stuck
theorem ok_sorted : OkCall X W fSorted (rSortedI X.K) := by
  intro B et O env g σ H xs ds Q rl rx h
  unfold fSorted at h
  split at h
  · obtain ⟨v, r, rfl, rv, rfl⟩ := rx
    split at h
    · rename_i ns e
      obtain ⟨p, rfl, h1⟩ := lstI_rep e rv
      refine ⟨p, ns, rfl, .inl (.inl h1), fun ns' l hp hw hl => ?_⟩
      have : ns' = sortI ns := sorted_unique (hp.trans (sortI_perm ns).symm) hw (sortI_le ns)
      subst this
      exact h.new rl hl ⟨l, _, rfl, upd_same, rl.nF hl, reps_ints _⟩
    · exact h.elim
  · exact h.elim
def fAddI : D → D → M D
  | .d (.int i), .d (.int j), g => .ok (.d (.int (i + j))) g
  | _, _, _ => .stuck
theorem ok_addI : OkOp X W fAddI (rI0 fun i j => .int (i + j)) := ok_int20 (k' := fun i j => .int (i + j)) (fun _ _ _ _ => rfl) (fun _ _ _ => rfl) (fun x y g h => by unfold fAddI; split; exact absurd ⟨rfl, rfl⟩ (h _ _); rfl)
theorem ok_is : OkOp X W fIs (fun x y H Q => y = .non ∧ Q (.bl (decide (x = .non))) H) := ok_isN
theorem ok_isNot : OkOp X W fIsNot (fun x y H Q => y = .non ∧ Q (.bl (!decide (x = .non))) H) := ok_notN
end
end Sim
set_option maxRecDepth 512
set_option Elab.async false
set_option linter.all false
set_option maxRecDepth 100000
set_option maxHeartbeats 4000000
namespace Sim
open PySem PySem.Spec PyProof.Rows L2
/-- where a body stands -/
structure Cxt (X : Cx) (W : WX) (k : Nat) : Prop where
  hr : Room k X.A
  gd : X.A.guards = some []
  calm : X.calm = true
  nd : X.N.Nodup
  tk : Takes X W
  po : PassesOwn (model X.prog X.w) X.A X.env X.xe
abbrev W0 : WX := fun _ _ _ _ => False
theorem Cxt.blk {X : Cx} {W : WX} {k : Nat} (c : Cxt X W k) (s : Shared) (H : Hp) (scope : Scope) (cenv : PySem.Env) (fp : List Addr) : Cxt (X.blk s H scope cenv fp) W0 k :=
  ⟨c.hr, c.gd, c.calm, c.nd, takes0, PassesOwn.never⟩
/-! ### a def's promise -/
def spF (K : PySem.W.Frag) (mg : Str → Option Value) (n : Nat) (fm : List D → M D) : Sp := fun vs H Q E =>
  vs.length = n ∧ ∃ B et g ds, Rl K B et [] [] g [] H ∧ (∀ d ∈ ds, d.nb) ∧ RepDs K (FF B et []) H et ds vs ∧ wG K mg B [] [] [] (fun cls od _ H' => E cls od H') (rD K) et H (fm ds g) Q
/-- what a def hands back is no borrowed object -/
def NB (fm : List D → M D) : Prop := ∀ ds g d g', fm ds g = .ok d g' → d.nb
structure FnS (P : Program) (w : World) (K : PySem.W.Frag) (mg : Str → Option Value) (base : Heap) (k : Nat) (f : Addr) (fd : FuncData) (ps : List Str) (fm : List D → M D) : Prop where
  run : ∀ (A : Around) (outer : List PySem.Env) (s : Shared) (H : Hp) (args : Args) (us : List Value) (vs : List V) (Q : VK) (E : XK), Room k A → A.guards = some [] → Env0 P w K mg base A outer s H → BindsTo s fd args (ps.zip us) → Vals vs us →
    spF K mg ps.length fm vs H Q E → codeAny (model P w) A (.call (.ref f) args) (CR (L2.CX P w) outer P w H s Q E) s
  nb : NB fm
theorem FnS.mono {P : Program} {w : World} {K : PySem.W.Frag} {mg : Str → Option Value} {base : Heap} {j k : Nat} {f : Addr} {fd : FuncData} {ps : List Str} {fm : List D → M D} (F : FnS P w K mg base j f fd ps fm) (h : j ≤ k) : FnS P w K mg base k f fd ps fm :=
  ⟨fun A outer s H args us vs Q E hr => F.run A outer s H args us vs Q E (hr.mono h), F.nb⟩
/-! ### calls -/
def D.isB : D → Bool
  | .bor _ => true
  | _ => false
def D.unb : D → D
  | .bor p => .d p
  | .d p => .d p
  | .cell n => .cell n
  | .scr n => .scr n
  | .nest n => .nest n
def pFlat : P → Bool
  | .none => true
  | .bool _ => true
  | .int _ => true
  | .str _ => true
  | _ => false
def D.flat : D → Bool
  | .d p => pFlat p
  | _ => false
def D.isC : D → Bool
  | .cell _ => true
  | .nest _ => true
  | _ => false
/-- a call with arguments of which some are own objects of the caller: what it hands back is none of them -/
def callD (fm : List D → M D) (ds : List D) : M D := fun g =>
  if ds.any D.isB then (if ds.any D.isC then .stuck else match fm (ds.map D.unb) [] with
    | .ok d _ => if d.flat then .ok d g else .stuck
    | _ => .stuck) else fm ds g
theorem nb_of {d : D} (h : d.isB = false) : d.nb := by cases d <;> first | trivial | cases h
theorem nb_unb (d : D) : d.unb.nb := by cases d <;> trivial
theorem flat_rep {K : PySem.W.Frag} {F F' : Addr → Prop} {H : Hp} {et et' : List Addr} {d : D} {v : V} (h : d.flat = true) (r : RepD K F H et d v) : RepD K F' H et' d v := by
  cases d with
  | d p => cases p <;> first | exact r | cases h
  | _ => cases h
section
variable {K : PySem.W.Frag} {mg : Str → Option Value} {B : Addr → Prop} {O et et' : List Addr} {env : En} {σ : L2.St} {g g' : G} {H H' : Hp} {W : WX}
theorem FF.of_call {a : Addr} : FF (fun a => B a ∨ a ∈ O) et [] a ↔ FF B et O a := by
  constructor
  · rintro ((h | h) | h | h)
    · exact .inl h
    · exact .inr (.inr h)
    · exact .inr (.inl h)
    · exact nomatch h
  · rintro (h | h | h)
    · exact .inl (.inl h)
    · exact .inr (.inl h)
    · exact .inl (.inr h)
theorem RepD.weak {F F' : Addr → Prop} {d : D} {v : V} (hF : ∀ a, F' a → F a) (he : ∀ a ∈ et, F a) (h : RepD K F H et d v) : RepD K F' H et d v :=
  RepD.mono (Fr.refl [] et H) (fun _ q => nomatch q) he (fun a q => .inl (hF a q)) d v (.inl rfl) h
theorem RepDs.weak {F F' : Addr → Prop} {d : List D} {v : List V} (hF : ∀ a, F' a → F a) (he : ∀ a ∈ et, F a) (h : RepDs K F H et d v) : RepDs K F' H et d v :=
  RepDs.mono (Fr.refl [] et H) (fun _ q => nomatch q) he (fun a q => .inl (hF a q)) d v (.inl rfl) h
theorem Reps.weak {F F' : Addr → Prop} {d : List P} {v : List V} (hF : ∀ a, F' a → F a) (h : Reps K F H d v) : Reps K F' H d v :=
  Reps.mono (et := []) (Fr.refl [] [] H) (fun _ q => nomatch q) (fun _ q => nomatch q) (fun a q => .inl (hF a q)) d v h
theorem Cells.weak {F F' : Addr → Prop} (c : Cells K F et g H) (hF : ∀ a, F' a → F a) : Cells K F' et g H :=
  ⟨c.nd, c.len, fun n a ds h1 h2 => by
    obtain ⟨vs, e, h3⟩ := c.at_ n a ds h1 h2
    exact ⟨vs, e, h3.weak hF⟩⟩
/-- a callee's start -/
theorem Rl.callee (r : Rl K B et O env g σ H) : Rl K (fun a => B a ∨ a ∈ O) et [] [] g [] H :=
  ⟨r.cells, fun a h => r.live a (FF.of_call.mp h), fun a h => h.elim (r.dB a) (fun q => (r.dO a q).1), fun _ h => (nomatch h), rfl, fun i s h => by simp at h, fun i j d e a h => by simp at h⟩
theorem Rl.forget (r : Rl K B et O env g σ H) : Rl K B et [] [] g [] H :=
  ⟨r.cel.weak (fun a q => FF.mono (O := []) (fun _ z => z) (fun _ z => z) (fun _ z => by cases z) q), fun a h => r.live a (FF.mono (O := []) (fun _ z => z) (fun _ z => z) (fun _ z => by cases z) h), r.dB, fun _ h => (nomatch h), rfl, fun i s h => by simp at h, fun i j d e a h => by simp at h⟩
theorem Rl.back (r : Rl K B et O env g σ H) (fr : Fr [] et et' H H') (c : Rl K (fun a => B a ∨ a ∈ O) et' [] [] g' [] H') : Rl K B et' O env g' σ H' :=
  r.call fr c.cel fun a h => c.live a (.inr (.inl h))
/-- nothing is barred -/
abbrev B0 : Addr → Prop := fun _ => False
theorem ff0 {a : Addr} (h : FF B0 [] [] a) : False := by
  rcases h with h | h | h
  · exact h
  · exact (nomatch h)
  · exact (nomatch h)
/-- a callee's start, where it may read the caller's own objects and sees no cell -/
theorem rl0 : Rl K B0 [] [] [] [] [] H :=
  ⟨⟨List.nodup_nil, rfl, fun n a ds h => by simp at h⟩, fun a h => (ff0 h).elim, fun a h => h.elim, fun _ h => (nomatch h), rfl, fun i s h => by simp at h, fun i j d e a h => by simp at h⟩
theorem Rl.keepAll {t : List Addr} (r : Rl K B et O env g σ H) (fr : Fr [] [] t H H') : Rl K B et O env g σ H' :=
  r.same fun b o e => fr.keep b o e (fun h => (nomatch h)) (fun h => (nomatch h))
theorem rep_unb : ∀ {ds : List D} {vs : List V}, ds.any D.isC = false → RepDs K (FF B et O) H et ds vs → RepDs K (FF B0 [] []) H [] (ds.map D.unb) vs
  | [], _, _, h => h
  | d :: ds, _, hc, h => by
    obtain ⟨v, u, rfl, h1, h2⟩ := h
    have hc' : d.isC = false ∧ ds.any D.isC = false := by simpa [List.any_cons] using hc
    refine ⟨v, u, rfl, ?_, rep_unb hc'.2 h2⟩
    have hF : ∀ a, FF B0 [] [] a → FF B et O a := fun a q => (ff0 q).elim
    have wk : ∀ (p : P) (v : V), Rep K (FF B et O) H p v → Rep K (FF B0 [] []) H p v := fun p v q =>
      Rep.mono (et := []) (Fr.refl [] [] H) (fun _ q => (nomatch q)) (fun _ q => (nomatch q)) (fun a q => .inl (hF a q)) p v q
    cases d with
    | d p => exact wk p v h1
    | cell n => exact (nomatch hc'.1)
    | nest n => exact (nomatch hc'.1)
    | scr n =>
      obtain ⟨a, rfl, h1⟩ := h1
      exact ⟨a, rfl, h1.imp (fun q => ⟨q.1, ff0⟩) id⟩
    | bor p =>
      cases p with
      | list xs =>
        obtain ⟨a, vs, rfl, h1, h3, h4⟩ := h1
        exact ⟨a, vs, rfl, h1, ff0, h4.weak hF⟩
      | dict xs =>
        obtain ⟨a, vs, rfl, h1, h3, h4⟩ := h1
        exact ⟨a, vs, rfl, .inl h1, ff0, RepKv.mono (et := []) (Fr.refl [] [] H) (fun _ q => (nomatch q)) (fun _ q => (nomatch q)) (fun a q => .inl (hF a q)) _ _ h4⟩
      | _ => exact h1.elim
theorem any_nb : ∀ {ds : List D}, ds.any D.isB = false → ∀ d ∈ ds, d.nb
  | [], _, _, h => (nomatch h)
  | d :: ds, hc, x, h => by
    have hc' : d.isB = false ∧ ds.any D.isB = false := by simpa [List.any_cons] using hc
    rcases List.mem_cons.mp h with rfl | h
    · exact nb_of hc'.1
    · exact any_nb hc'.2 x h
/-- the callee's promise out of what the caller wants -/
theorem sp_of {n : Nat} {fm : List D → M D} {ds : List D} {vs : List V} {Q : VK} (hn : NB fm) (r : Rl K B et O env g σ H) (rp : RepDs K (FF B et O) H et ds vs) (hl : vs.length = n) (h : wG K mg B O env σ W (rD K) et H (callD fm ds g) Q) :
    spF K mg n fm vs H Q (WE W σ) := by
  refine ⟨hl, ?_⟩
  unfold callD at h
  by_cases hb : ds.any D.isB = true
  · rw [if_pos hb] at h
    by_cases hc : ds.any D.isC = true
    · rw [if_pos hc] at h; exact h.elim
    · rw [if_neg hc] at h
      refine ⟨B0, [], [], ds.map D.unb, rl0, fun d hd => ?_, rep_unb (by simpa using hc) rp, ?_⟩
      · obtain ⟨x, _, rfl⟩ := List.mem_map.mp hd
        exact nb_unb x
      · cases e : fm (ds.map D.unb) [] with
        | stuck => rw [e] at h; exact h
        | err _ _ => rw [e] at h; exact h.elim
        | ok d g1 =>
          rw [e] at h
          dsimp only at h
          by_cases hf : d.flat = true
          · rw [if_pos hf] at h
            intro v H' et' rl fr rv
            have r' := r.keepAll fr
            exact h v H' et r' (Fr.same fun b o e => fr.keep b o e (fun h => (nomatch h)) (fun h => (nomatch h))) (flat_rep hf rv)
          · rw [if_neg hf] at h; exact h.elim
  · rw [if_neg hb] at h
    have hnb := any_nb (by simpa using hb)
    refine ⟨fun a => B a ∨ a ∈ O, et, g, ds, r.callee, hnb, rp.weak (fun a q => FF.of_call.mp q) (fun a q => .inr (.inl q)), ?_⟩
    cases e : fm ds g with
    | stuck => rw [e] at h; exact h
    | err ex g1 =>
      rw [e] at h
      intro cls od H' et' rl fr ex'
      refine h cls od H' et' (r.back fr rl) fr ?_
      obtain ⟨h1, h2⟩ := ex'
      refine ⟨h1, h2.imp id ?_⟩
      rintro ⟨dx, vs, e1, e2, e3, e4⟩
      exact ⟨dx, vs, e1, e2, e3, e4.weak fun a q => FF.of_call.mpr q⟩
    | ok d g1 =>
      rw [e] at h
      intro v H' et' rl fr rv
      exact h v H' et' (r.back fr rl) fr (RepD.weak (fun a q => FF.of_call.mpr q) (fun a q => .inr (.inl q)) rv)
end
/-! ### the calls' theorems -/
section
variable {X : Cx} {W : WX} {e : Expr} {es : List Expr} {ms mk : Evs} {x : Str} {p pos : Pos} {k : Nat} {f : Addr} {fd : FuncData} {ps ks : List Str} {fm : List D → M D}
theorem run_f {pins : List (Addr × Obj)} {σ : L2.St} {H : Hp} {s : Shared} {Q : VK} {us : List Value} {vs : List V} {args : Args} (F : FnS X.prog X.w X.K X.mg X.base k f fd ps fm) (c : Cxt X W k) (hb : BindsTo s fd args (ps.zip us))
    (I : Inv X pins σ H s) (r : Vals vs us) (h : spF X.K X.mg ps.length fm vs H Q (WE W σ)) : codeAny (model X.prog X.w) X.A (.call (.ref f) args) (fun r s' => match r with
      | .ok (.ret u) => EP X pins σ Q u s'
      | .ok _ => False
      | .error e => X.xe e s') s := by
  refine codeAny_mono (F.run X.A X.stack s H args us vs Q (WE W σ) c.hr c.gd I.env0 hb r h) fun r s' hq => ?_
  match r, hq with
  | .error e, hq => exact passAt c.tk σ pins H s e s' I hq
  | .ok (.ret u), hq => exact I.after hq
  | .ok .next, hq => exact False.elim hq
  | .ok .brk, hq => exact False.elim hq
  | .ok .cont, hq => exact False.elim hq
theorem wp_of_code {args : Args} {f : Value} {M : Model} {A : Around} {s : Shared} {Q : Value → Shared → Prop} {E : Value → Shared → Prop} (h : codeAny M A (.call f args) (fun r s' => match r with
      | .ok (.ret u) => Q u s'
      | .ok _ => False
      | .error e => E e s') s) : wpAny M A (call f args.pos args.kw) Q E s := by
  refine wpAny_call (codeAny_mono h fun r s' hq => ?_)
  match r, hq with
  | .error e, hq => exact hq
  | .ok (.ret u), hq => exact hq
  | .ok .next, hq => exact False.elim hq
  | .ok .brk, hq => exact False.elim hq
  | .ok .cont, hq => exact False.elim hq
def eCall (fm : List D → M D) (ms : Evs) : Ev := eB (callD fm) ms
theorem se_call (F : FnS X.prog X.w X.K X.mg X.base k f fd ps fm) (c : Cxt X W k) (hm : X.mg x = some (.ref f)) (hk : PySem.W.keepIn X.K (.ref f) = true) (hb : Binds X.K fd ps []) (ha : SA X W (e :: es) ms) (hl : (e :: es).length = ps.length := by rfl)
    (hg : Gl X x := by rfl) (hd : (x == ("__debug__" : Str)) = false := by decide) (he : starEach (e :: es) X.env = (false, eval e X.env) :: starEach es X.env := by rfl) (hpl : (backTo pos (starEach es X.env)).any (·.1) = false := by rfl) :
    SE X W (.Call (.Name x p) (e :: es) [] pos) (eCall fm ms) := by
  refine ⟨fun pins s σ H Q I h => ?_⟩
  refine wpAny_Call_Name_kw (ld_glob I hg hm ?_ hd)
  have h2 : tCB (fun vs H1 Q => vs.length = ps.length ∧ spF X.K X.mg ps.length fm vs H1 Q (WE W σ)) (mA X.K X.mg W ms) σ H Q := by
    obtain ⟨B, et, O, env, g, rl, h⟩ := h
    refine ⟨B, et, O, env, g, rl, wG.bind h fun d1 g1 v1 H1 e1 ee rl1 fr1 r1 h1 => ?_⟩
    have hl1 : v1.length = ps.length := by rw [← r1.length, ha.2 _ _ _ _ ee]; exact hl
    exact ⟨hl1, sp_of F.nb rl1 r1 hl1 h1⟩
  refine PySem.W.callWith_K (h₀ := X.base) I.ok.mod.kin hk (thn (ha.1.run pos pins s σ H _ I h2) fun us s1 ⟨vs, H1, I1, r, hl1, q⟩ => ⟨I1.kIn, ?_⟩) he hpl
  have hb1 := hb s1 us I1.kIn (by rw [List.append_nil, ← r.length]; exact hl1)
  rw [List.append_nil] at hb1
  exact wp_of_code (args := ⟨us, []⟩) (run_f F c hb1 I1 r q)
/-! keywords -/
def perm {α : Type} (pi : List Nat) (xs : List α) : List α := pi.filterMap fun i => xs[i]?
theorem perm_len {α : Type} {xs : List α} : ∀ {pi : List Nat}, (∀ i ∈ pi, i < xs.length) → (perm pi xs).length = pi.length
  | [], _ => rfl
  | i :: pi, h => by
    have hi := h i List.mem_cons_self
    unfold perm
    rw [List.filterMap_cons, List.getElem?_eq_getElem hi]
    show (perm pi xs).length + 1 = _
    rw [perm_len fun j hj => h j (List.mem_cons_of_mem _ hj)]; rfl
theorem vals_perm {xs : List V} {us : List Value} (r : Vals xs us) : ∀ (pi : List Nat), Vals (perm pi xs) (perm pi us)
  | [] => .nil
  | i :: pi => by
    unfold perm
    rw [List.filterMap_cons, List.filterMap_cons]
    cases e : xs[i]? with
    | none => rw [r.none_of e]; exact vals_perm r pi
    | some x =>
      obtain ⟨u, e1, e2⟩ := r.get e
      rw [e1]
      exact .cons e2 (vals_perm r pi)
theorem RepDs.getD {K : PySem.W.Frag} {F : Addr → Prop} {H : Hp} {et : List Addr} : ∀ {ds : List D} {vs : List V} {i : Nat} {d : D}, RepDs K F H et ds vs → ds[i]? = some d → ∃ v, vs[i]? = some v ∧ RepD K F H et d v
  | [], _, _, _, _, e => by simp at e
  | d :: ds, _, 0, d', h, e => by
    obtain ⟨v, r, rfl, h1, _⟩ := h
    simp at e; subst e
    exact ⟨v, rfl, h1⟩
  | d :: ds, _, i + 1, d', h, e => by
    obtain ⟨v, r, rfl, _, h2⟩ := h
    simp at e
    obtain ⟨u, hu, hr⟩ := RepDs.getD h2 e
    exact ⟨u, by simpa using hu, hr⟩
theorem RepDs.append {K : PySem.W.Frag} {F : Addr → Prop} {H : Hp} {et : List Addr} : ∀ {ds es : List D} {vs us : List V}, RepDs K F H et ds vs → RepDs K F H et es us → RepDs K F H et (ds ++ es) (vs ++ us)
  | [], _, _, _, h, h' => by have h : _ = [] := h; subst h; exact h'
  | d :: ds, _, _, _, h, h' => by
    obtain ⟨v, r, rfl, h1, h2⟩ := h
    exact ⟨v, r ++ _, rfl, h1, RepDs.append h2 h'⟩
theorem reps_perm {K : PySem.W.Frag} {F : Addr → Prop} {H : Hp} {et : List Addr} {ds : List D} {vs : List V} (r : RepDs K F H et ds vs) : ∀ (pi : List Nat), RepDs K F H et (perm pi ds) (perm pi vs)
  | [] => rfl
  | i :: pi => by
    unfold perm
    rw [List.filterMap_cons, List.filterMap_cons]
    cases e : ds[i]? with
    | none =>
      have : vs[i]? = none := List.getElem?_eq_none_iff.mpr (by have := List.getElem?_eq_none_iff.mp e; rw [← r.length]; exact this)
      rw [this]; exact reps_perm r pi
    | some x =>
      obtain ⟨u, e1, e2⟩ := r.getD e
      rw [e1]
      exact ⟨u, _, rfl, e2, reps_perm r pi⟩
def LenK (m : Evs) (n : Nat) : Prop := LenA m n
def SK (X : Cx) (W : WX) (kws : List Keyword) (m : Evs) : Prop := PK X kws (mA X.K X.mg W m) ∧ LenA m kws.length
theorem pk_imp {X : Cx} {e : List Keyword} {t t' : TA} (h : PK X e t) (hi : ∀ σ H Q, t' σ H Q → t σ H Q) : PK X e t' := ⟨fun pos pins s σ H Q I q => h.run pos pins s σ H Q I (hi σ H Q q)⟩
theorem lenA_cons {ma : Ev} {ms : Evs} {n : Nat} (h : LenA ms n) : LenA (aCons ma ms) (n + 1) := fun env g ds g' e => by
  unfold aCons at e
  cases e1 : ma env g with
  | ok d1 g1 =>
    rw [e1] at e
    dsimp only [R.bind] at e
    cases e2 : ms env g1 with
    | ok d2 g2 =>
      rw [e2] at e
      cases e
      simp [h _ _ _ _ e2]
    | err _ _ => rw [e2] at e; cases e
    | stuck => rw [e2] at e; cases e
  | err _ _ => rw [e1] at e; cases e
  | stuck => rw [e1] at e; cases e
theorem sk_nil : SK X W [] aNil := ⟨pk_imp pk_nil fun σ H Q ⟨B, et, O, env, g, rl, h⟩ => h.here rl rfl, fun _ _ _ _ e => by cases e; rfl⟩
theorem sk_cons {a : Expr} {ma : Ev} {nm : Option Str} {kpos : Pos} {kws : List Keyword} (ha : SE X W a ma) (hr : SK X W kws ms) : SK X W (⟨nm, a, kpos⟩ :: kws) (aCons ma ms) := by
  refine ⟨pk_imp (pk_cons ha hr.1) fun σ H Q ⟨B, et, O, env, g, rl, h⟩ => ⟨B, et, O, env, g, rl, wG.bind h fun d1 g1 v1 H1 e1 _ rl1 fr1 r1 h1 => ⟨B, e1, O, env, g1, rl1, wG.bind h1 fun d2 g2 v2 H2 e2 _ rl2 fr2 r2 h2 =>
    h2.here rl2 ⟨v1, v2, rfl, RepD.fr r1 fr2, r2⟩⟩⟩, lenA_cons hr.2⟩
def eCallK (fm : List D → M D) (pi : List Nat) (ms mk : Evs) : Ev := fun env g => (ms env g).bind fun xs g1 => (mk env g1).bind fun ys g2 => callD fm (perm pi (xs ++ ys)) g2
def BindK (K : PySem.W.Frag) (fd : FuncData) (ps ks : List Str) (n m : Nat) (pi : List Nat) : Prop :=
  ∀ (s : Shared) (us ws : List Value), K.In s.heap → us.length = n → ws.length = m → BindsTo s fd ⟨us, ks.zip ws⟩ (ps.zip (perm pi (us ++ ws)))
theorem se_callK {kws : List Keyword} {pi : List Nat} (F : FnS X.prog X.w X.K X.mg X.base k f fd ps fm) (c : Cxt X W k) (hm : X.mg x = some (.ref f)) (hk : PySem.W.keepIn X.K (.ref f) = true) (hb : BindK X.K fd ps ks (e :: es).length kws.length pi) (ha : SA X W (e :: es) ms) (hkw : SK X W kws mk)
    (hpi : ∀ i ∈ pi, i < (e :: es).length + kws.length := by decide) (hpl2 : pi.length = ps.length := by rfl)
    (hall : (backToKw pos (keywordEach kws X.env)).all (·.1.isSome) = true := by rfl) (hks : (backToKw pos (keywordEach kws X.env)).filterMap (·.1) = ks := by rfl)
    (hg : Gl X x := by rfl) (hd : (x == ("__debug__" : Str)) = false := by decide) (he : starEach (e :: es) X.env = (false, eval e X.env) :: starEach es X.env := by rfl)
    (hpl : ((backTo pos (starEach (e :: es) X.env)).any (·.1) || (backToKw pos (keywordEach kws X.env)).any (·.1.isNone)) = false := by rfl) :
    SE X W (.Call (.Name x p) (e :: es) kws pos) (eCallK fm pi ms mk) := by
  refine ⟨fun pins s σ H Q I h => ?_⟩
  refine wpAny_Call_Name_kw (ld_glob I hg hm ?_ hd)
  have h2 : mA X.K X.mg W ms σ H fun vs H1 => vs.length = (e :: es).length ∧ mA X.K X.mg W mk σ H1 fun zs H2 => zs.length = kws.length ∧ spF X.K X.mg ps.length fm (perm pi (vs ++ zs)) H2 Q (WE W σ) := by
    obtain ⟨B, et, O, env, g, rl, h⟩ := h
    refine ⟨B, et, O, env, g, rl, wG.bind h fun d1 g1 v1 H1 e1 ee rl1 fr1 r1 h1 => ⟨by rw [← r1.length, ha.2 _ _ _ _ ee], B, e1, O, env, g1, rl1, wG.bind h1 fun d2 g2 v2 H2 e2 ee2 rl2 fr2 r2 h2 => ?_⟩⟩
    have l1 : v1.length = (e :: es).length := by rw [← r1.length, ha.2 _ _ _ _ ee]
    have l2 : v2.length = kws.length := by rw [← r2.length, hkw.2 _ _ _ _ ee2]
    refine ⟨l2, sp_of F.nb rl2 (reps_perm ((RepDs.fr r1 fr2).append r2) pi) ?_ h2⟩
    rw [perm_len, hpl2]
    intro i hi
    rw [List.length_append, l1, l2]; exact hpi i hi
  refine PySem.W.callWith_KW (h₀ := X.base) I.ok.mod.kin hk hall (thn (ha.1.run pos pins s σ H _ I h2) fun us s1 ⟨vs, H1, I1, r, l1, q⟩ => ?_) hpl he
  refine thn (hkw.1.run pos pins s1 σ H1 _ I1 q) fun ws s2 ⟨zs, H2, I2, rz, l2, q2⟩ => ⟨I2.kIn, ?_⟩
  rw [hks]
  exact wp_of_code (args := ⟨us, ks.zip ws⟩) (run_f F c (hb s2 us ws I2.kIn (by rw [← r.length]; exact l1) (by rw [← rz.length]; exact l2)) I2 (vals_perm (r.append rz) pi) q2)
theorem se_callK0 {kws : List Keyword} {pi : List Nat} (F : FnS X.prog X.w X.K X.mg X.base k f fd ps fm) (c : Cxt X W k) (hm : X.mg x = some (.ref f)) (hk : PySem.W.keepIn X.K (.ref f) = true) (hb : BindK X.K fd ps ks 0 kws.length pi) (hkw : SK X W kws mk)
    (hpi : ∀ i ∈ pi, i < kws.length := by decide) (hpl2 : pi.length = ps.length := by rfl)
    (hall : (backToKw pos (keywordEach kws X.env)).all (·.1.isSome) = true := by rfl) (hks : (backToKw pos (keywordEach kws X.env)).filterMap (·.1) = ks := by rfl)
    (hg : Gl X x := by rfl) (hd : (x == ("__debug__" : Str)) = false := by decide)
    (hpl : ((backTo pos (starEach [] X.env)).any (·.1) || (backToKw pos (keywordEach kws X.env)).any (·.1.isNone)) = false := by rfl) :
    SE X W (.Call (.Name x p) [] kws pos) (eCallK fm pi aNil mk) := by
  refine ⟨fun pins s σ H Q I h => ?_⟩
  refine wpAny_Call_Name_kw (ld_glob I hg hm ?_ hd)
  have h2 : mA X.K X.mg W mk σ H fun zs H2 => zs.length = kws.length ∧ spF X.K X.mg ps.length fm (perm pi zs) H2 Q (WE W σ) := by
    obtain ⟨B, et, O, env, g, rl, h⟩ := h
    refine ⟨B, et, O, env, g, rl, wG.bind (r := mk env g) (k := fun ys g2 => callD fm (perm pi ([] ++ ys)) g2) h fun d2 g2 v2 H2 e2 ee2 rl2 fr2 r2 h2 => ?_⟩
    have l2 : v2.length = kws.length := by rw [← r2.length, hkw.2 _ _ _ _ ee2]
    refine ⟨l2, sp_of F.nb rl2 (reps_perm r2 pi) ?_ h2⟩
    rw [perm_len, hpl2]
    intro i hi
    rw [l2]; exact hpi i hi
  refine PySem.W.callWith_KW0 (h₀ := X.base) I.ok.mod.kin hk hall (thn (hkw.1.run pos pins s σ H _ I h2) fun ws s2 ⟨zs, H2, I2, rz, l2, q2⟩ => ⟨I2.kIn, ?_⟩) hpl
  rw [hks]
  exact wp_of_code (args := ⟨[], ks.zip ws⟩) (run_f F c (hb s2 [] ws I2.kIn rfl (by rw [← rz.length]; exact l2)) I2 (vals_perm rz pi) q2)
end
end Sim
set_option maxRecDepth 512
set_option Elab.async false
set_option linter.all false
set_option maxRecDepth 100000
set_option maxHeartbeats 4000000
namespace Sim
open PySem PySem.Spec PyProof.Rows L2
inductive RS where
  | next (env : En) (g : G) | ret (d : D) (g : G) | err (e : Exn) (g : G) | stuck
abbrev Sv := En → G → RS
def RS.seq : RS → (En → G → RS) → RS
  | .next env g, k => k env g
  | .ret d g, _ => .ret d g
  | .err e g, _ => .err e g
  | .stuck, _ => .stuck
def R.bindS {α : Type} : R α → (α → G → RS) → RS
  | .ok a g, k => k a g
  | .err e g, _ => .err e g
  | .stuck, _ => .stuck
/-- behind a statement: own objects may be new, or forgotten -/
structure FrS (O O' et et' : List Addr) (H H' : Hp) : Prop where
  fr : Fr O et et' H H'
  own : ∀ a ∈ O', a ∈ O ∨ H a = none
theorem FrS.refl (O et : List Addr) (H : Hp) : FrS O O et et H H := ⟨Fr.refl O et H, fun _ h => .inl h⟩
theorem FrS.trans {O O1 O2 et e1 e2 : List Addr} {H H1 H2 : Hp} (a : FrS O O1 et e1 H H1) (b : FrS O1 O2 e1 e2 H1 H2) : FrS O O2 et e2 H H2 := by
  refine ⟨⟨?_, fun x hx => ?_, fun x o e h1 h2 => ?_, fun x xs h => b.fr.tup x xs (a.fr.tup x xs h), fun x h => b.fr.dom x (a.fr.dom x h)⟩, fun x hx => ?_⟩
  · obtain ⟨t, rfl⟩ := a.fr.ext
    obtain ⟨u, rfl⟩ := b.fr.ext
    exact ⟨t ++ u, by simp⟩
  · rcases b.fr.new x hx with h | h
    · exact a.fr.new x h
    · by_cases q : H x = none
      · exact .inr q
      · exact absurd h (a.fr.dom x q)
  · refine b.fr.keep x o (a.fr.keep x o e h1 h2) (fun h => ?_) (fun h => ?_)
    · rcases a.fr.new x h with h | h
      · exact h1 h
      · rw [e] at h; cases h
    · rcases a.own x h with h | h
      · exact h2 h
      · rw [e] at h; cases h
  · rcases b.own x hx with h | h
    · exact a.own x h
    · by_cases q : H x = none
      · exact .inr q
      · exact absurd h (a.fr.dom x q)
/-- an expression's frame as a statement's -/
theorem FrS.ofE {O et et' : List Addr} {H H' : Hp} (a : Fr [] et et' H H') : FrS O O et et' H H' := ⟨a.weak fun x h => (nomatch h), fun _ h => .inl h⟩
section
variable (K : PySem.W.Frag) (mg : Str → Option Value) (B : Addr → Prop) (W : WX)
def wS (O et : List Addr) (H : Hp) (r : RS) (D : Ends) : Prop := match r with
  | .next env' g' => ∀ σ' H' et' O', Rl K B et' O' env' g' σ' H' → FrS O O' et et' H H' → D.nx σ' H'
  | .ret d g' => ∀ v H' et', Rl K B et' [] [] g' [] H' → FrS O [] et et' H H' → d.nb → RepD K (FF B et' []) H' et' d v → D.rt v H'
  | .err ex g' => ∀ cls od σ' H' et', Rl K B et' [] [] g' [] H' → FrS O [] et et' H H' → ExR K mg (FF B et' []) H' ex cls od → W cls od σ' H'
  | .stuck => False
variable {K mg B W}
theorem wS.pre {O O1 et e1 : List Addr} {H H1 : Hp} {r : RS} {D : Ends} (h : wS K mg B W O et H r D) (f : FrS O O1 et e1 H H1) : wS K mg B W O1 e1 H1 r D := by
  cases r with
  | stuck => exact h
  | next env' g' => intro σ' H' et' O' a b; exact h σ' H' et' O' a (f.trans b)
  | ret d g' => intro v H' et' a b c; exact h v H' et' a (f.trans b) c
  | err ex g' => intro cls od σ' H' et' a b c; exact h cls od σ' H' et' a (f.trans b) c
theorem wS.seq {O et : List Addr} {H : Hp} {r : RS} {k : En → G → RS} {D : Ends} {T bk ct : L2.St → Hp → Prop} (h : wS K mg B W O et H (r.seq k) D)
    (hT : ∀ env1 g1 σ1 H1 e1 O1, r = .next env1 g1 → Rl K B e1 O1 env1 g1 σ1 H1 → wS K mg B W O1 e1 H1 (k env1 g1) D → T σ1 H1) : wS K mg B W O et H r { nx := T, rt := D.rt, bk := bk, ct := ct } := by
  cases r with
  | stuck => exact h
  | ret d g' => exact h
  | err ex g' => exact h
  | next env1 g1 =>
    intro σ1 H1 e1 O1 rl f
    exact hT env1 g1 σ1 H1 e1 O1 rfl rl (wS.pre h f)
theorem wS.here {O et : List Addr} {env : En} {g : G} {σ : L2.St} {H : Hp} {D : Ends} (h : wS K mg B W O et H (.next env g) D) (rl : Rl K B et O env g σ H) : D.nx σ H := h σ H et O rl (FrS.refl O et H)
theorem wS.bind {α β : Type} {rep : RepT α β} {O et : List Addr} {env : En} {σ : L2.St} {H : Hp} {r : R α} {k : α → G → RS} {D : Ends} {T : β → Hp → Prop} (h : wS K mg B W O et H (r.bindS k) D)
    (hT : ∀ d g1 v H1 e1, r = .ok d g1 → Rl K B e1 O env g1 σ H1 → Fr [] et e1 H H1 → rep (FF B e1 O) H1 e1 d v → wS K mg B W O e1 H1 (k d g1) D → T v H1) : wG K mg B O env σ W rep et H r T := by
  cases r with
  | stuck => exact h
  | err ex g' =>
    intro cls od H' et' rl fr ex'
    refine h cls od σ H' et' rl.forget ⟨fr.weak fun x h => (nomatch h), fun _ h => (nomatch h)⟩ ?_
    obtain ⟨h1, h2⟩ := ex'
    refine ⟨h1, h2.imp id ?_⟩
    rintro ⟨dx, vs, e1, e2, e3, e4⟩
    exact ⟨dx, vs, e1, e2, e3, e4.weak fun a q => FF.mono (O := []) (fun _ z => z) (fun _ z => z) (fun _ z => by cases z) q⟩
  | ok d g1 =>
    intro v H1 e1 rl fr rp
    exact hT d g1 v H1 e1 rfl rl fr rp (wS.pre h (FrS.ofE fr))
end
def mS (K : PySem.W.Frag) (mg : Str → Option Value) (W : WX) (m : Sv) : TS := fun D σ H => ∃ B et O env g, Rl K B et O env g σ H ∧ wS K mg B W O et H (m env g) D
def SS (X : Cx) (W : WX) (s : Stmt) (m : Sv) : Prop := PS X s (mS X.K X.mg W m)
def SSs (X : Cx) (W : WX) (s : List Stmt) (m : Sv) : Prop := PSs X s (mS X.K X.mg W m)
/-! ### the statements' functions -/
def sNext : Sv := fun env g => .next env g
def sSeq (a b : Sv) : Sv := fun env g => (a env g).seq b
def sRet (a : Ev) : Sv := fun env g => (a env g).bindS fun d g1 => if d.isB then .stuck else .ret d g1
def sRetN : Sv := fun _ g => .ret (.d .none) g
def sExpr (a : Ev) : Sv := fun env g => (a env g).bindS fun _ g1 => .next env g1
def sIf (c : Tv) (a b : Sv) : Sv := fun env g => (c env g).bindS fun x g1 => if x = true then a env g1 else b env g1
def sNever : Sv := fun _ _ => .stuck
def sAsg (i : Nat) (a : Ev) : Sv := fun env g => (a env g).bindS fun d g1 => if d.isB then .stuck else .next (env.set i (.sh d)) g1
def whileN (c : Tv) (b : Sv) : Nat → Sv
  | 0 => fun _ _ => .stuck
  | n + 1 => fun env g => (c env g).bindS fun x g1 => if x = true then (b env g1).seq (whileN c b n) else .next env g1
def FUEL : Nat := 1000000000000
def sWhile (c : Tv) (b : Sv) : Sv := whileN c b FUEL
section
variable {K : PySem.W.Frag} {B : Addr → Prop} {et O : List Addr} {env : En} {g : G} {σ : L2.St} {H : Hp}
/-- a name is stored -/
theorem Rl.set (r : Rl K B et O env g σ H) (i : Nat) {d : D} {v : V} (hn : d.nb) (h : RepD K (FF B et O) H et d v) : Rl K B et O (env.set i (.sh d)) g (σ.set i (some v)) H := by
  refine ⟨r.cel, r.live, r.dB, r.dO, by simp [r.len], fun j s e => ?_, fun j l x y a e1 e2 e3 e4 => ?_⟩
  · by_cases q : i = j
    · subst q
      rw [List.getElem?_set] at e
      simp only [if_true] at e
      split at e
      · rename_i hlt
        cases e
        refine ⟨hn, v, ?_, h⟩
        rw [List.getElem?_set]
        simp only [if_true]
        rw [if_pos (by rw [r.len]; exact hlt)]
      · cases e
    · rw [List.getElem?_set_ne q] at e
      rw [List.getElem?_set_ne q]
      exact r.slot j s e
  · have nj : i ≠ j := fun q => by subst q; rw [List.getElem?_set] at e1; simp only [if_true] at e1; split at e1 <;> cases e1
    have nl : i ≠ l := fun q => by subst q; rw [List.getElem?_set] at e2; simp only [if_true] at e2; split at e2 <;> cases e2
    rw [List.getElem?_set_ne nj] at e1 e3
    rw [List.getElem?_set_ne nl] at e2 e4
    exact r.sep j l x y a e1 e2 e3 e4
/-- a slot is forgotten -/
theorem Rl.wipe1 (r : Rl K B et O env g σ H) (i : Nat) (o : Option V) : Rl K B et O (env.set i .un) g (σ.set i o) H := by
  refine ⟨r.cel, r.live, r.dB, r.dO, by simp [r.len], fun j s e => ?_, fun j l x y a e1 e2 e3 e4 => ?_⟩
  · by_cases q : i = j
    · subst q
      rw [List.getElem?_set] at e
      simp only [if_true] at e
      split at e
      · cases e; trivial
      · cases e
    · rw [List.getElem?_set_ne q] at e
      rw [List.getElem?_set_ne q]
      exact r.slot j s e
  · have nj : i ≠ j := fun q => by subst q; rw [List.getElem?_set] at e1; simp only [if_true] at e1; split at e1 <;> cases e1
    have nl : i ≠ l := fun q => by subst q; rw [List.getElem?_set] at e2; simp only [if_true] at e2; split at e2 <;> cases e2
    rw [List.getElem?_set_ne nj] at e1 e3
    rw [List.getElem?_set_ne nl] at e2 e4
    exact r.sep j l x y a e1 e2 e3 e4
end
theorem nb_ofB {d : D} (h : ¬ d.isB = true) : d.nb := nb_of (by simpa using h)
section
variable {X : Cx} {W : WX} {k : Nat} {a b c e : Expr} {ma mb mc : Ev} {pos : Pos} {st : Stmt} {ss ts : List Stmt} {m m' : Sv} {tc : Tv}
theorem ss_nil : SSs X W [] sNext := pss_imp pss_nil fun D σ H ⟨B, et, O, env, g, rl, h⟩ => h.here rl
theorem ss_cons (h1 : SS X W st m) (h2 : SSs X W ss m') : SSs X W (st :: ss) (sSeq m m') :=
  pss_imp (pss_cons h1 h2) fun D σ H ⟨B, et, O, env, g, rl, h⟩ => ⟨B, et, O, env, g, rl, wS.seq h fun env1 g1 σ1 H1 e1 O1 _ rl1 h1 => ⟨B, e1, O1, env1, g1, rl1, h1⟩⟩
theorem ss_one (h1 : SS X W st m) : SSs X W [st] m := pss_imp (pss_one h1) fun D σ H h => h
theorem ss_pass : SS X W (.Pass pos) sNext := ps_imp ps_pass fun D σ H ⟨B, et, O, env, g, rl, h⟩ => h.here rl
theorem ss_never : SS X W st sNever := ps_imp ps_never fun D σ H ⟨B, et, O, env, g, rl, h⟩ => h
theorem ss_ret (ha : SE X W a ma) : SS X W (.Return (some a) pos) (sRet ma) :=
  ps_imp (ps_ret ha) fun D σ H ⟨B, et, O, env, g, rl, h⟩ => ⟨B, et, O, env, g, rl, wS.bind h fun d1 g1 v1 H1 e1 _ rl1 fr1 r1 h1 => by
    by_cases hb : d1.isB = true
    · rw [if_pos hb] at h1; exact h1.elim
    · rw [if_neg hb] at h1
      have hn := nb_ofB hb
      refine h1 v1 H1 e1 rl1.forget ⟨(Fr.refl O e1 H1), fun _ h => (nomatch h)⟩ hn ?_
      exact RepD.weak (fun a q => FF.mono (O := []) (fun _ z => z) (fun _ z => z) (fun _ z => by cases z) q) (fun a q => .inr (.inl q)) r1⟩
theorem ss_retN : SS X W (.Return none pos) sRetN := ps_imp ps_retN fun D σ H ⟨B, et, O, env, g, rl, h⟩ => h .non H et rl.forget ⟨Fr.refl O et H, fun _ h => (nomatch h)⟩ trivial rfl
theorem ss_expr (ha : SE X W a ma) (hs : swapsWith a none pos.line X.env = pure false := by rfl) : SS X W (.Expr a pos) (sExpr ma) :=
  ps_imp (ps_expr ha hs) fun D σ H ⟨B, et, O, env, g, rl, h⟩ => ⟨B, et, O, env, g, rl, wS.bind h fun d1 g1 v1 H1 e1 _ rl1 fr1 r1 h1 => h1.here rl1⟩
theorem ss_if (hc : ST X W c tc) (ha : SSs X W ss m) (hb : SSs X W ts m') : SS X W (.If c ss ts pos) (sIf tc m m') :=
  ps_imp (ps_if hc ha hb) fun D σ H ⟨B, et, O, env, g, rl, h⟩ => ⟨B, et, O, env, g, rl, wS.bind h fun d1 g1 v1 H1 e1 _ rl1 fr1 r1 h1 => by
    have r1 : d1 = v1 := r1
    subst r1
    cases d1 with
    | true => exact ⟨B, e1, O, env, g1, rl1, h1⟩
    | false => exact ⟨B, e1, O, env, g1, rl1, h1⟩⟩
theorem asg_of {i : Nat} {D : Ends} {σ : L2.St} {H : Hp} (h : mS X.K X.mg W (sAsg i ma) D σ H) : tAsg (mE X.K X.mg W ma) (gName i) D σ H := by
  obtain ⟨B, et, O, env, g, rl, h⟩ := h
  refine ⟨B, et, O, env, g, rl, wS.bind h fun d1 g1 v1 H1 e1 _ rl1 fr1 r1 h1 => ?_⟩
  by_cases hb : d1.isB = true
  · rw [if_pos hb] at h1; exact h1.elim
  · rw [if_neg hb] at h1
    exact h1.here (rl1.set i (nb_ofB hb) r1)
theorem ss_asg {i : Nat} {x : Str} {pos' : Pos} (c : Cxt X W k) (ha : SE X W a ma) (hi : X.N[i]? = some x := by rfl) (hx : Loc X.env.scope x := by first | exact .inl rfl | exact .inr rfl) (hs : swapsWith a (some (.Name x pos')) pos.line X.env = pure false := by rfl)
    (hf : X.fn x = true ∨ X.env.scope.names.lookup x = some .local := by first | exact .inl rfl | exact .inr rfl) : SS X W (.Assign [.Name x pos'] a pos) (sAsg i ma) :=
  ps_imp (ps_set c.nd hi hx ha hs hf) fun D σ H h => asg_of h
theorem ss_while {body : List Stmt} (c : Cxt X W k) (hc : ST X W e tc) (hb : SSs X W body m) : SS X W (.While e body [] pos) (sWhile tc m) :=
  ps_imp (ps_while c.po hc hb) fun D σ H ⟨B, et, O, env, g, rl, h⟩ => by
    refine ⟨fun n σ H => ∃ et O env g, Rl X.K B et O env g σ H ∧ wS X.K X.mg B W O et H (whileN tc m n env g) D, ⟨FUEL, et, O, env, g, rl, h⟩, ?_⟩
    rintro n σ H ⟨et, O, env, g, rl, h⟩
    cases n with
    | zero => exact h.elim
    | succ n =>
      refine ⟨B, et, O, env, g, rl, wS.bind h fun d1 g1 v1 H1 e1 _ rl1 fr1 r1 h1 => ?_⟩
      have r1 : d1 = v1 := r1
      subst r1
      cases d1 with
      | false => exact h1.here rl1
      | true =>
        rw [if_pos rfl]
        refine ⟨fun σ H => ∃ et O env g, Rl X.K B et O env g σ H ∧ wS X.K X.mg B W O et H (whileN tc m n env g) D, fun σ' H' q => ⟨n, Nat.lt_succ_self n, q⟩, ?_⟩
        exact ⟨B, e1, O, env, g1, rl1, wS.seq h1 fun env2 g2 σ2 H2 e2 O2 _ rl2 h2 => ⟨e2, O2, env2, g2, rl2, h2⟩⟩
end
/-! ### a def -/
def startE (n : Nat) (ds : List D) : En := ds.map Sl.sh ++ List.replicate (n - ds.length) Sl.un
def finish : RS → R D
  | .next _ g => .ok (.d .none) g
  | .ret d g => .ok d g
  | .err e g => .err e g
  | .stuck => .stuck
/-- a def's function, out of its body's; n: how many names -/
def fnOfB (n : Nat) (m : Sv) : List D → M D := fun ds g => match finish (m (startE n ds) g) with
  | .ok d g' => if d.isB then .stuck else .ok d g'
  | r => r
theorem nb_fnOfB (n : Nat) (m : Sv) : NB (fnOfB n m) := fun ds g d g' e => by
  unfold fnOfB at e
  split at e
  · split at e
    · cases e
    · rename_i hb; cases e; exact nb_ofB hb
  · rename_i r q
    rw [e] at q
    exact absurd rfl (q d g')
section
variable {K : PySem.W.Frag} {B : Addr → Prop} {et : List Addr} {g : G} {H : Hp}
theorem slots_start (n : Nat) : ∀ {ds : List D} {vs : List V}, (∀ d ∈ ds, d.nb) → RepDs K (FF B et []) H et ds vs → ∀ (i : Nat) (s : Sl), (startE n ds)[i]? = some s → SlotR K (FF B et []) et [] H s (vs.map some ++ List.replicate (n - vs.length) none)[i]? := by
  intro ds vs hn r i s e
  unfold startE at e
  by_cases h : i < ds.length
  · rw [List.getElem?_append_left (by simpa using h), List.getElem?_map, List.getElem?_eq_getElem h] at e
    cases e
    obtain ⟨v, ev, rv⟩ := r.getD (List.getElem?_eq_getElem h)
    refine ⟨hn _ (List.getElem_mem h), v, ?_, rv⟩
    have h2 : i < vs.length := by rw [← r.length]; exact h
    rw [List.getElem?_append_left (by simpa using h2), List.getElem?_map, ev]; rfl
  · rw [List.getElem?_append_right (by simpa using Nat.le_of_not_lt h)] at e
    have := List.mem_of_getElem? e
    rw [(List.mem_replicate.mp this).2]
    trivial
theorem Rl.start (n : Nat) {ds : List D} {vs : List V} (r : Rl K B et [] [] g [] H) (hn : ∀ d ∈ ds, d.nb) (rp : RepDs K (FF B et []) H et ds vs) : Rl K B et [] (startE n ds) g (vs.map some ++ List.replicate (n - vs.length) none) H := by
  refine ⟨r.cel, r.live, r.dB, r.dO, by simp [startE, rp.length], slots_start n hn rp, fun i j d e a h => ?_⟩
  have := List.mem_of_getElem? h
  unfold startE at this
  rcases List.mem_append.mp this with q | q
  · obtain ⟨x, _, z⟩ := List.mem_map.mp q; cases z
  · cases (List.mem_replicate.mp q).2
end
/-- what stands around a body -/
structure Bv where
  P : Program
  w : World
  K : PySem.W.Frag
  mg : Str → Option Value
  base : Heap
  f : Addr
  cdv : Value
  A : Around
  outer : List PySem.Env
  s : Shared
  H : Hp
  E : XK
abbrev BX (b : Bv) (N : List Str) (qual : Str) (sc : Scope) : Cx := cxOf (L2.CX b.P b.w) b.P b.w b.K b.mg b.base N qual sc b.f b.cdv b.A b.outer b.s b.H b.E
abbrev BW (b : Bv) : WX := fun cls od _ H' => b.E cls od H'
section
variable {P : Program} {w : World} {K : PySem.W.Frag} {mg : Str → Option Value} {base : Heap}
theorem fin_of {b : Bv} {n : Nat} {r : RS} {Bd : Addr → Prop} {et : List Addr} {H : Hp} {Q : VK} (h : wG K mg Bd [] [] [] (fun cls od _ H' => b.E cls od H') (rD K) et H (match finish r with
  | .ok d g' => if d.isB then .stuck else .ok d g'
  | r => r) Q) : wS K mg Bd (BW b) [] et H r { nx := fun _ H' => Q .non H', rt := Q } := by
  cases r with
  | stuck => exact h
  | next env g =>
    intro σ' H' et' O' rl f
    exact h .non H' et' rl.forget f.fr rfl
  | ret d g =>
    intro v H' et' rl f hn rp
    have h : wG K mg Bd [] [] [] (fun cls od _ H' => b.E cls od H') (rD K) et H (if d.isB then .stuck else .ok d g) Q := h
    by_cases hb : d.isB = true
    · rw [if_pos hb] at h; exact h.elim
    · rw [if_neg hb] at h; exact h v H' et' rl f.fr rp
  | err ex g =>
    intro cls od σ' H' et' rl f ex'
    exact h cls od H' et' rl f.fr ex'
/-- THE RULE for a def -/
theorem fnS_of {x qual : Str} {st : Stmt} {f : Addr} {fd : FuncData} {N ps : List Str} {k : Nat} {m : Sv} (F : Fun K x qual st f fd) (S : FnScope N ps (defScope st))
    (hb : ∀ b : Bv, b.P = P → b.w = w → b.K = K → b.mg = mg → b.base = base → Cxt (BX b N qual (defScope st)) (BW b) k → SSs (BX b N qual (defScope st)) (BW b) (defBody st) m) :
    FnS P w K mg base (k + 1) f fd ps (fnOfB N.length m) := by
  refine ⟨fun A outer s H args us vs Q E hr hgd e0 hbd r hsp => ?_, nb_fnOfB _ _⟩
  obtain ⟨oc, od, kV, doc, pm, an, cdv, ct, osl, rfl, lk, hcd⟩ := F.ex
  obtain ⟨hl, Bd, et, g, ds, rl, hn, rp, hq⟩ := hsp
  have KX : K.In s.heap := e0.mod.kin.keeps fun c o q => (e0.bs c o q).1
  have lim : s.heap.NoLimit := e0.mod.nolimit.keeps fun c o q => (e0.bs c o q).1
  have kinds : ∀ y ∈ ps.zip us, (defScope st).names.lookup y.1 = some .local ∨ ((defScope st).names.lookup y.1 = some .cell ∧ ((cellsFrom (s.heap.objs.size + 1) (defScope st).names []).lookup y.1).isSome = true) := by
    rintro ⟨n, v⟩ hy
    cases S.par n (List.of_mem_zip hy).1 with
    | inl q => exact Or.inl q
    | inr q => exact Or.inr ⟨q, PySem.W.cellsFrom_some _ _ _ (Or.inl q)⟩
  refine codeAny_call_function hr.depth (KX _ _ lk) rfl S.co S.gen rfl (PySem.W.codeRec_of KX hcd) (hbd _ _ _ _ ?_)
  refine wpAny_newFunctionEnv_cells S.kind kinds fun env he s1 x1 => ?_
  subst he
  refine ⟨lim.keeps x1.toInCall.keep, codeAny_func ?_⟩
  let b : Bv := ⟨P, w, K, mg, base, f, cdv, A, outer, s, H, E⟩
  have I : Inv (BX b N qual (defScope st)) [] (start N vs) H s1 := inv_start S hr.hd e0 hl r x1
  have cx : Cxt (BX b N qual (defScope st)) (BW b) k := ⟨hr.deeper _, hgd, rfl, S.nd, takes_of rfl rfl rfl rfl, passes_of (K := fun e s'' => L2.CX P w outer H s E e s'') rfl⟩
  have body := hb b rfl rfl rfl rfl rfl cx
  have start0 : mS K mg (BW b) m { nx := fun _ H' => Q .non H', rt := Q } (start N vs) H := ⟨Bd, et, [], startE N.length ds, g, rl.start N.length hn rp, fin_of (b := b) (n := N.length) hq⟩
  refine wpAny_mono (body.run [] s1 (start N vs) H _ I start0) (fun fl s' hs => ?_) fun e s' hs => hs
  have fin : ∀ {σ' : L2.St} {H' : Hp} {v : V} {u : Value}, Inv (BX b N qual (defScope st)) [] σ' H' s' → RelV v u → Q v H' → CE outer P w H s Q u s' :=
    fun {σ' H' v u} J rv q => ⟨v, H', J.os, J.bare, J.base, J.hok, rv, q⟩
  match fl, hs with
  | .ret u, ⟨v, σ', H', J, rv, q⟩ => exact fin J rv q
  | .next, ⟨σ', H', J, q⟩ => exact fin (v := V.non) (u := Value.none) J rfl q
  | .brk, ⟨σ', H', J, q⟩ => exact q.elim
  | .cont, ⟨σ', H', J, q⟩ => exact q.elim
/-- a def of the text with its function -/
def Fn (P : Program) (w : World) (K : PySem.W.Frag) (mg : Str → Option Value) (base : Heap) (k : Nat) (x : Str) (st : Stmt) (ps : List Str) (fm : List D → M D) : Prop :=
  ∃ f fd, mg x = some (.ref f) ∧ Fun K x x st f fd ∧ Binds K fd ps [] ∧ FnS P w K mg base k f fd ps fm
def TopF (K : PySem.W.Frag) (mg : Str → Option Value) (x : Str) (st : Stmt) : Prop := ∃ f fd, mg x = some (.ref f) ∧ Fun K x x st f fd
theorem Fn.mono {j k : Nat} {x : Str} {st : Stmt} {ps : List Str} {fm : List D → M D} (F : Fn P w K mg base j x st ps fm) (h : j ≤ k) : Fn P w K mg base k x st ps fm := by
  obtain ⟨f, fd, h1, h2, h3, h4⟩ := F
  exact ⟨f, fd, h1, h2, h3, h4.mono h⟩
theorem fn_mk {x : Str} {st : Stmt} {N ps : List Str} {k : Nat} {m : Sv} (T : TopF K mg x st) (S : FnScope N ps (defScope st))
    (hbd : ∀ (kV doc pm : Value) (an : Option Addr) (cdv ct : Value) (us : List Value), us.length = ps.length → bindArgs (PySem.W.fnOf x x (defArgs st) (defBody st) (defScope st) .none kV doc pm an cdv ct) ⟨us, []⟩ = pure (ps.zip us))
    (hb : ∀ b : Bv, b.P = P → b.w = w → b.K = K → b.mg = mg → b.base = base → Cxt (BX b N x (defScope st)) (BW b) k → SSs (BX b N x (defScope st)) (BW b) (defBody st) m) :
    Fn P w K mg base (k + 1) x st ps (fnOfB N.length m) := by
  obtain ⟨f, fd, hm, F⟩ := T
  exact ⟨f, fd, hm, F, F.binds hbd, fnS_of F S hb⟩
end
section
variable {X : Cx} {W : WX} {e : Expr} {es : List Expr} {ms mk : Evs} {x : Str} {p pos : Pos} {k k' : Nat} {st : Stmt} {ps ks : List Str} {fm : List D → M D}
theorem Cxt.mono {j : Nat} (c : Cxt X W k) (h : j ≤ k) : Cxt X W j := ⟨c.hr.mono h, c.gd, c.calm, c.nd, c.tk, c.po⟩
theorem se_f (G : Fn X.prog X.w X.K X.mg X.base k x st ps fm) (c : Cxt X W k') (ha : SA X W (e :: es) ms) (hk : k ≤ k' := by first | decide | omega) (hl : (e :: es).length = ps.length := by rfl)
    (hg : Gl X x := by rfl) (hd : (x == ("__debug__" : Str)) = false := by decide) (he : starEach (e :: es) X.env = (false, eval e X.env) :: starEach es X.env := by rfl) (hpl : (backTo pos (starEach es X.env)).any (·.1) = false := by rfl) :
    SE X W (.Call (.Name x p) (e :: es) [] pos) (eCall fm ms) := by
  obtain ⟨f, fd, h1, h2, h3, h4⟩ := G
  exact se_call h4 (c.mono hk) h1 h2.kp h3 ha hl hg hd he hpl
theorem bindK_of {K : PySem.W.Frag} {f : Addr} {fd : FuncData} {n m : Nat} {pi : List Nat} (F : Fun K x x st f fd)
    (h : ∀ (kV doc pm : Value) (an : Option Addr) (cdv ct : Value) (us ws : List Value), us.length = n → ws.length = m → bindArgs (PySem.W.fnOf x x (defArgs st) (defBody st) (defScope st) .none kV doc pm an cdv ct) ⟨us, ks.zip ws⟩ = pure (ps.zip (perm pi (us ++ ws)))) : BindK K fd ps ks n m pi := by
  obtain ⟨oc, od, kV, doc, pm, an, cdv, ct, osl, rfl, lk, hcd⟩ := F.ex
  exact fun s us ws _ h1 h2 => .of_eq (h kV doc pm an cdv ct us ws h1 h2)
theorem se_fK {kws : List Keyword} {pi : List Nat} (G : Fn X.prog X.w X.K X.mg X.base k x st ps fm) (c : Cxt X W k') (ha : SA X W (e :: es) ms) (hkw : SK X W kws mk)
    (h : ∀ (kV doc pm : Value) (an : Option Addr) (cdv ct : Value) (us ws : List Value), us.length = (e :: es).length → ws.length = kws.length → bindArgs (PySem.W.fnOf x x (defArgs st) (defBody st) (defScope st) .none kV doc pm an cdv ct) ⟨us, ks.zip ws⟩ = pure (ps.zip (perm pi (us ++ ws))))
    (hk : k ≤ k' := by first | decide | omega) (hpi : ∀ i ∈ pi, i < (e :: es).length + kws.length := by decide) (hpl2 : pi.length = ps.length := by rfl)
    (hall : (backToKw pos (keywordEach kws X.env)).all (·.1.isSome) = true := by rfl) (hks : (backToKw pos (keywordEach kws X.env)).filterMap (·.1) = ks := by rfl)
    (hg : Gl X x := by rfl) (hd : (x == ("__debug__" : Str)) = false := by decide) (he : starEach (e :: es) X.env = (false, eval e X.env) :: starEach es X.env := by rfl)
    (hpl : ((backTo pos (starEach (e :: es) X.env)).any (·.1) || (backToKw pos (keywordEach kws X.env)).any (·.1.isNone)) = false := by rfl) :
    SE X W (.Call (.Name x p) (e :: es) kws pos) (eCallK fm pi ms mk) := by
  obtain ⟨f, fd, h1, h2, h3, h4⟩ := G
  exact se_callK h4 (c.mono hk) h1 h2.kp (bindK_of h2 h) ha hkw hpi hpl2 hall hks hg hd he hpl
theorem se_fK0 {kws : List Keyword} {pi : List Nat} (G : Fn X.prog X.w X.K X.mg X.base k x st ps fm) (c : Cxt X W k') (hkw : SK X W kws mk)
    (h : ∀ (kV doc pm : Value) (an : Option Addr) (cdv ct : Value) (us ws : List Value), us.length = 0 → ws.length = kws.length → bindArgs (PySem.W.fnOf x x (defArgs st) (defBody st) (defScope st) .none kV doc pm an cdv ct) ⟨us, ks.zip ws⟩ = pure (ps.zip (perm pi (us ++ ws))))
    (hk : k ≤ k' := by first | decide | omega) (hpi : ∀ i ∈ pi, i < kws.length := by decide) (hpl2 : pi.length = ps.length := by rfl)
    (hall : (backToKw pos (keywordEach kws X.env)).all (·.1.isSome) = true := by rfl) (hks : (backToKw pos (keywordEach kws X.env)).filterMap (·.1) = ks := by rfl)
    (hg : Gl X x := by rfl) (hd : (x == ("__debug__" : Str)) = false := by decide)
    (hpl : ((backTo pos (starEach [] X.env)).any (·.1) || (backToKw pos (keywordEach kws X.env)).any (·.1.isNone)) = false := by rfl) :
    SE X W (.Call (.Name x p) [] kws pos) (eCallK fm pi aNil mk) := by
  obtain ⟨f, fd, h1, h2, h3, h4⟩ := G
  exact se_callK0 h4 (c.mono hk) h1 h2.kp (bindK_of h2 h) hkw hpi hpl2 hall hks hg hd hpl
end
end Sim
set_option maxRecDepth 512
set_option Elab.async false
set_option linter.all false
set_option maxRecDepth 100000
set_option maxHeartbeats 4000000
namespace Sim
open PySem PySem.Spec PyProof.Rows L2
section
variable {K : PySem.W.Frag} {B : Addr → Prop} {et et' O O' : List Addr} {env : En} {g : G} {σ : L2.St} {H H' : Hp}
theorem FF.stepS {a : Addr} (f : FrS O O' et et' H H') (h : FF B et' O' a) : FF B et O a ∨ H a = none := by
  rcases h with h | h | h
  · exact .inl (.inl h)
  · exact (f.fr.new a h).elim (fun q => .inl (.inr (.inl q))) .inr
  · exact (f.own a h).elim (fun q => .inl (.inr (.inr q))) .inr
theorem Rep.frS {d : P} {v : V} (h : Rep K (FF B et O) H d v) (f : FrS O O' et et' H H') : Rep K (FF B et' O') H' d v :=
  Rep.mono f.fr (fun _ q => .inr (.inr q)) (fun _ q => .inr (.inl q)) (fun a q => FF.stepS f q) d v h
theorem Reps.frS {d : List P} {v : List V} (h : Reps K (FF B et O) H d v) (f : FrS O O' et et' H H') : Reps K (FF B et' O') H' d v :=
  Reps.mono f.fr (fun _ q => .inr (.inr q)) (fun _ q => .inr (.inl q)) (fun a q => FF.stepS f q) d v h
theorem RepKv.frS {d : List (P × P)} {v : List (Key × V)} (h : RepKv K (FF B et O) H d v) (f : FrS O O' et et' H H') : RepKv K (FF B et' O') H' d v :=
  RepKv.mono f.fr (fun _ q => .inr (.inr q)) (fun _ q => .inr (.inl q)) (fun a q => FF.stepS f q) d v h
theorem RepD.frS {d : D} {v : V} (hn : d.nb) (h : RepD K (FF B et O) H et d v) (f : FrS O O' et et' H H') : RepD K (FF B et' O') H' et' d v :=
  RepD.mono f.fr (fun _ q => .inr (.inr q)) (fun _ q => .inr (.inl q)) (fun a q => FF.stepS f q) d v (.inr hn) h
end
/-! ### targets -/
abbrev Tgv := D → Sv
def mG (K : PySem.W.Frag) (mg : Str → Option Value) (W : WX) (m : Tgv) : TG := fun v σ H Q => ∃ B et O env g d, Rl K B et O env g σ H ∧ d.nb ∧ RepD K (FF B et O) H et d v ∧ wS K mg B W O et H (m d env g) { nx := Q, rt := fun _ _ => False }
def mGs (K : PySem.W.Frag) (mg : Str → Option Value) (W : WX) (m : List P → Sv) : TGs := fun vs σ H Q => ∃ B et O env g ds, Rl K B et O env g σ H ∧ Reps K (FF B et O) H ds vs ∧ wS K mg B W O et H (m ds env g) { nx := Q, rt := fun _ _ => False }
def SG (X : Cx) (W : WX) (tg : Expr) (m : Tgv) : Prop := PG X tg (mG X.K X.mg W m)
def SGs (X : Cx) (W : WX) (tg : List Expr) (n : Nat) (m : List P → Sv) : Prop := PGs X tg (mGs X.K X.mg W m) ∧ tg.length = n
def tName (i : Nat) : Tgv := fun d env g => .next (env.set i (.sh d)) g
def tsNil : List P → Sv := fun ds env g => match ds with | [] => .next env g | _ => .stuck
def tsCons (a : Tgv) (r : List P → Sv) : List P → Sv := fun ds env g => match ds with | d :: ds => (a (.d d) env g).seq (r ds) | [] => .stuck
def tTupT (n : Nat) (r : List P → Sv) : Tgv := fun d env g => match d with
  | .d (.tuple ps) => if ps.length = n then r ps env g else .stuck
  | _ => .stuck
section
variable {X : Cx} {W : WX} {k : Nat} {e tg : Expr} {es : List Expr} {m : Tgv} {ms : List P → Sv} {pos : Pos} {ma : Ev}
theorem pg_imp {e : Expr} {t t' : TG} (h : PG X e t) (hi : ∀ v σ H Q, t' v σ H Q → t v σ H Q) : PG X e t' := ⟨fun pins s σ H v u Q I r q => h.run pins s σ H v u Q I r (hi v σ H Q q)⟩
theorem pgs_imp {e : List Expr} {t t' : TGs} (h : PGs X e t) (hi : ∀ v σ H Q, t' v σ H Q → t v σ H Q) : PGs X e t' := ⟨fun pins s σ H v u Q I r q => h.run pins s σ H v u Q I r (hi v σ H Q q)⟩
theorem sg_name {i : Nat} {x : Str} (c : Cxt X W k) (hi : X.N[i]? = some x := by rfl) (hx : Loc X.env.scope x := by first | exact .inl rfl | exact .inr rfl) (hf : X.fn x = true ∨ X.env.scope.names.lookup x = some .local := by first | exact .inl rfl | exact .inr rfl) : SG X W (.Name x pos) (tName i) :=
  pg_imp (pg_name c.nd hi hx hf) fun v σ H Q ⟨B, et, O, env, g, d, rl, hn, r, h⟩ => h.here (rl.set i hn r)
theorem sgs_nil : SGs X W [] 0 tsNil := ⟨pgs_imp pgs_nil fun v σ H Q ⟨B, et, O, env, g, ds, rl, r, h⟩ => by
  unfold tsNil at h
  split at h
  · exact ⟨r, h.here rl⟩
  · exact h.elim, rfl⟩
theorem sgs_cons {n : Nat} (h1 : SG X W e m) (h2 : SGs X W es n ms) (hs : (assignEach (e :: es) X.env).map (·.2) = assign e X.env :: (assignEach es X.env).map (·.2) := by rfl) : SGs X W (e :: es) (n + 1) (tsCons m ms) :=
  ⟨pgs_imp (pgs_cons h1 h2.1 hs) fun v σ H Q ⟨B, et, O, env, g, ds, rl, r, h⟩ => by
    unfold tsCons at h
    cases ds with
    | nil => exact h.elim
    | cons d ds =>
      obtain ⟨x, u, rfl, r1, r2⟩ := r
      refine ⟨x, u, rfl, B, et, O, env, g, .d d, rl, trivial, r1, ?_⟩
      have h : wS X.K X.mg B W O et H ((m (.d d) env g).seq (ms ds)) { nx := Q, rt := fun _ _ => False } := h
      cases e : m (.d d) env g with
      | stuck => rw [e] at h; exact h
      | ret d g' => rw [e] at h; exact h
      | err ex g' => rw [e] at h; exact h
      | next env1 g1 =>
        rw [e] at h
        intro σ1 H1 e1 O1 rl1 f
        exact ⟨B, e1, O1, env1, g1, ds, rl1, r2.frS f, wS.pre h f⟩, by simp [h2.2]⟩
theorem sg_tup {n kk : Nat} (c : Cxt X W k) (h : SGs X W es n ms) (hn : (assignEach es X.env).length = n := by rfl) (hst : (assignEach es X.env).findIdx? (·.1) = none := by rfl) : SG X W (.Tuple es kk pos) (tTupT n ms) :=
  pg_imp (pg_tup c.calm h.1 hn hst) fun v σ H Q ⟨B, et, O, env, g, d, rl, hd, r, h⟩ => by
    unfold tTupT at h
    split at h
    · rename_i ps
      split at h
      · rename_i hz
        obtain ⟨a, vs, rfl, h1, h2⟩ := r
        exact ⟨a, vs, rfl, h1, by rw [← h2.length]; exact hz, B, et, O, env, g, ps, rl, h2, h⟩
      · exact h.elim
    · exact h.elim
def sAsgT (a : Ev) (m : Tgv) : Sv := fun env g => (a env g).bindS fun d g1 => if d.isB then .stuck else m d env g1
theorem wS_rt {K : PySem.W.Frag} {mg : Str → Option Value} {B : Addr → Prop} {O et : List Addr} {H : Hp} {r : RS} {D D' : Ends} (h : wS K mg B W O et H r D) (hr : ∀ d g, r ≠ .ret d g) (hx : ∀ σ H, D.nx σ H → D'.nx σ H) : wS K mg B W O et H r D' := by
  cases r with
  | stuck => exact h
  | next env g => intro σ' H' et' O' a b; exact hx _ _ (h σ' H' et' O' a b)
  | ret d g => exact absurd rfl (hr d g)
  | err ex g => exact h
/-- a target never returns -/
def NoRet (m : Tgv) : Prop := ∀ d env g x g', m d env g ≠ .ret x g'
def NoRets (m : List P → Sv) : Prop := ∀ d env g x g', m d env g ≠ .ret x g'
theorem noRet_name {i : Nat} : NoRet (tName i) := fun d env g x g' h => by cases h
theorem noRets_nil : NoRets tsNil := fun d env g x g' h => by unfold tsNil at h; split at h <;> cases h
theorem noRets_cons (h1 : NoRet m) (h2 : NoRets ms) : NoRets (tsCons m ms) := fun d env g x g' h => by
  unfold tsCons at h
  cases d with
  | nil => cases h
  | cons d ds =>
    have h : (m (.d d) env g).seq (ms ds) = .ret x g' := h
    cases e : m (.d d) env g with
    | stuck => rw [e] at h; cases h
    | ret d g1 => exact h1 _ _ _ _ _ e
    | err ex g1 => rw [e] at h; cases h
    | next env1 g1 => rw [e] at h; exact h2 _ _ _ _ _ h
theorem noRet_tup {n : Nat} (h : NoRets ms) : NoRet (tTupT n ms) := fun d env g x g' q => by
  unfold tTupT at q
  split at q
  · split at q
    · exact h _ _ _ _ _ q
    · cases q
  · cases q
theorem ss_asgT (ha : SE X W e ma) (hg : SG X W tg m) (hr : NoRet m) (hs : swapsWithSole [tg] e pos.line X.env = pure false := by rfl) (hw : swappedStores [tg] e X.env = pure none := by rfl)
    (h1 : (assignEach [tg] X.env).map (·.2) = [assign tg X.env] := by rfl) : SS X W (.Assign [tg] e pos) (sAsgT ma m) :=
  ps_imp (ps_asg ha hg hs hw h1) fun D σ H ⟨B, et, O, env, g, rl, h⟩ => ⟨B, et, O, env, g, rl, wS.bind h fun d1 g1 v1 H1 e1 _ rl1 fr1 r1 h1 => by
    by_cases hb : d1.isB = true
    · rw [if_pos hb] at h1; exact h1.elim
    · rw [if_neg hb] at h1
      exact ⟨B, e1, O, env, g1, d1, rl1, nb_ofB hb, r1, wS_rt h1 (fun d g => hr _ _ _ d g) fun _ _ q => q⟩⟩
def sPar (i j : Nat) (a : Evs) : Sv := fun env g => (a env g).bindS fun ds g1 => match ds with
  | [x, y] => if x.isB || y.isB then .stuck else .next ((env.set i (.sh x)).set j (.sh y)) g1
  | _ => .stuck
def sPar3 (i j l : Nat) (a : Evs) : Sv := fun env g => (a env g).bindS fun ds g1 => match ds with
  | [x, y, z] => if x.isB || y.isB || z.isB then .stuck else .next (((env.set i (.sh x)).set j (.sh y)).set l (.sh z)) g1
  | _ => .stuck
theorem ss_par {i j : Nat} {x y : Str} {a b : Expr} {mab : Evs} {px py pt : Pos} {kt k2 : Nat} {pt2 : Pos} (c : Cxt X W k) (ha : SA X W [a, b] mab) (hi : X.N[i]? = some x := by rfl) (hj : X.N[j]? = some y := by rfl) (hij : i ≠ j := by decide)
    (hx : X.env.scope.names.lookup x = some .local := by rfl) (hy : X.env.scope.names.lookup y = some .local := by rfl)
    (hw : swappedStores [.Tuple [.Name x px, .Name y py] kt pt] (.Tuple [a, b] k2 pt2) X.env = pure (some [x, y]) := by rfl)
    (hs : swapsWithSole [.Tuple [.Name x px, .Name y py] kt pt] (.Tuple [a, b] k2 pt2) pos.line X.env = pure false := by rfl) :
    SS X W (.Assign [.Tuple [.Name x px, .Name y py] kt pt] (.Tuple [a, b] k2 pt2) pos) (sPar i j mab) :=
  ps_imp (ps_par c.calm c.nd hi hj hij hx hy ha.1 hw hs) fun D σ H ⟨B, et, O, env, g, rl, h⟩ => ⟨B, et, O, env, g, rl, wS.bind h fun d1 g1 v1 H1 e1 _ rl1 fr1 r1 h1 => by
    split at h1
    · split at h1
      · exact h1.elim
      · rename_i hb
        simp only [Bool.or_eq_true, not_or] at hb
        obtain ⟨u, r, rfl, ra, u2, r2, rfl, rb, rfl⟩ := r1
        refine ⟨u, u2, rfl, h1.here (((rl1.set i (nb_ofB hb.1) ra).set j (nb_ofB hb.2) rb))⟩
    · exact h1.elim⟩
theorem ss_par3 {i j l : Nat} {x y z : Str} {a b d : Expr} {mab : Evs} {px py pz pt : Pos} {kt k2 : Nat} {pt2 : Pos} (c : Cxt X W k) (ha : SA X W [a, b, d] mab) (hi : X.N[i]? = some x := by rfl) (hj : X.N[j]? = some y := by rfl) (hl : X.N[l]? = some z := by rfl)
    (hij : i ≠ j := by decide) (hil : i ≠ l := by decide) (hjl : j ≠ l := by decide)
    (hx : X.env.scope.names.lookup x = some .local := by rfl) (hy : X.env.scope.names.lookup y = some .local := by rfl) (hz : X.env.scope.names.lookup z = some .local := by rfl)
    (hw : swappedStores [.Tuple [.Name x px, .Name y py, .Name z pz] kt pt] (.Tuple [a, b, d] k2 pt2) X.env = pure (some [x, y, z]) := by rfl)
    (hs : swapsWithSole [.Tuple [.Name x px, .Name y py, .Name z pz] kt pt] (.Tuple [a, b, d] k2 pt2) pos.line X.env = pure false := by rfl) :
    SS X W (.Assign [.Tuple [.Name x px, .Name y py, .Name z pz] kt pt] (.Tuple [a, b, d] k2 pt2) pos) (sPar3 i j l mab) :=
  ps_imp (ps_par3 c.calm c.nd hi hj hl hij hil hjl hx hy hz ha.1 hw hs) fun D σ H ⟨B, et, O, env, g, rl, h⟩ => ⟨B, et, O, env, g, rl, wS.bind h fun d1 g1 v1 H1 e1 _ rl1 fr1 r1 h1 => by
    split at h1
    · split at h1
      · exact h1.elim
      · rename_i hb
        simp only [Bool.or_eq_true, not_or] at hb
        obtain ⟨u, r, rfl, ra, u2, r2, rfl, rb, u3, r3, rfl, rc, rfl⟩ := r1
        refine ⟨u, u2, u3, rfl, h1.here (((rl1.set i (nb_ofB hb.1.1) ra).set j (nb_ofB hb.1.2) rb).set l (nb_ofB hb.2) rc)⟩
    · exact h1.elim⟩
/-- x op= e for data -/
def sAug (i : Nat) (f : D → D → M D) (a : Ev) : Sv := fun env g => match env[i]? with
  | some (.sh x) => (a env g).bindS fun y g1 => (f x y g1).bindS fun d g2 => if d.isB then .stuck else .next (env.set i (.sh d)) g2
  | _ => .stuck
theorem ss_aug {i : Nat} {x : Str} {op : Operator} {f : D → D → M D} {r : R2} {pos' : Pos} (c : Cxt X W k) (ho : OpR X (inplaceOp op) r) (hf : OkOp X W f r) (ha : SE X W e ma) (hi : X.N[i]? = some x := by rfl) (hx : Loc X.env.scope x := by first | exact .inl rfl | exact .inr rfl)
    (hfn : X.fn x = true ∨ X.env.scope.names.lookup x = some .local := by first | exact .inl rfl | exact .inr rfl) : SS X W (.AugAssign (.Name x pos') op e pos) (sAug i f ma) :=
  ps_imp (ps_aug (ti := r) c.nd hi hx ha ho hfn) fun D σ H ⟨B, et, O, env, g, rl, h⟩ => by
    unfold sAug at h
    split at h
    · rename_i d0 e0
      obtain ⟨hn0, v0, ev0, r0⟩ := rl.slot i _ e0
      refine ⟨v0, ev0, B, et, O, env, g, rl, wS.bind h fun d1 g1 v1 H1 e1 _ rl1 fr1 r1 h1 => ?_⟩
      refine hf B e1 O env g1 σ H1 v0 v1 d0 d1 _ rl1 (r0.fr fr1) r1 (wS.bind h1 fun d2 g2 v2 H2 e2 _ rl2 fr2 r2 h2 => ?_)
      by_cases hb : d2.isB = true
      · rw [if_pos hb] at h2; exact h2.elim
      · rw [if_neg hb] at h2
        exact h2.here (rl2.set i (nb_ofB hb) r2)
    · exact h.elim
end
end Sim
set_option maxRecDepth 512
set_option Elab.async false
set_option linter.all false
set_option maxRecDepth 100000
set_option maxHeartbeats 4000000
namespace Sim
open PySem PySem.Spec PyProof.Rows L2
section
variable {K : PySem.W.Frag} {B : Addr → Prop} {et et' O O' : List Addr} {env : En} {g : G} {σ : L2.St} {H H' : Hp} {a p : Addr} {o : HO}
abbrev BU (B : Addr → Prop) (a : Addr) : Addr → Prop := fun x => B x ∨ x = a
theorem FF.bu {x : Addr} : FF (BU B a) et O x ↔ FF B et (a :: O) x := by
  constructor
  · rintro ((h | h) | h | h)
    · exact .inl h
    · exact .inr (.inr (by rw [h]; exact List.mem_cons_self))
    · exact .inr (.inl h)
    · exact .inr (.inr (List.mem_cons_of_mem _ h))
  · rintro (h | h | h)
    · exact .inl (.inl h)
    · exact .inr (.inl h)
    · rcases List.mem_cons.mp h with h | h
      · exact .inl (.inr h)
      · exact .inr (.inr h)
theorem SlotR.weak {F F' : Addr → Prop} {s : Sl} {x : Option (Option V)} (h : SlotR K F et O H s x) (hF : ∀ a, F' a → F a) (he : ∀ a ∈ et, F a) (hO : ∀ a ∈ O, a ∈ O') : SlotR K F' et O' H s x := by
  cases s with
  | un => trivial
  | sh d => obtain ⟨n, v, e, r⟩ := h; exact ⟨n, v, e, r.weak hF he⟩
  | own d =>
    cases d with
    | list ds => obtain ⟨a, vs, e, m, h1, h2⟩ := h; exact ⟨a, vs, e, hO a m, h1, h2.weak hF⟩
    | dict kvs => obtain ⟨a, l, e, m, h1, h2⟩ := h; exact ⟨a, l, e, hO a m, h1, RepKv.mono (et := []) (Fr.refl [] [] H) (fun _ q => (nomatch q)) (fun _ q => (nomatch q)) (fun a q => .inl (hF a q)) _ _ h2⟩
    | _ => exact h.elim
/-- one object more is barred: it is new -/
theorem Rl.addB (r : Rl K B et O env g σ H) (hp : H p = none) (o : HO) : Rl K (BU B p) et O env g σ (upd H p o) := by
  have s : Same H (upd H p o) := same_new hp
  have fr : Fr [] et et H (upd H p o) := Fr.same s
  have hF : ∀ x, FF (BU B p) et O x → FF B et O x ∨ H x = none := fun x h => by
    rcases h with (h | h) | h
    · exact .inl (.inl h)
    · exact .inr (by rw [h]; exact hp)
    · exact .inl (.inr h)
  refine ⟨⟨r.cel.nd, r.cel.len, fun n a ds h1 h2 => ?_⟩, fun x h => ?_, fun x h q => ?_, fun x h => ⟨(r.dO x h).1, ?_⟩, r.len, fun i sl e => ?_, r.sep⟩
  · obtain ⟨vs, e, h3⟩ := r.cel.at_ n a ds h1 h2
    exact ⟨vs, s _ _ e, Reps.mono fr (fun _ q => (nomatch q)) (fun a q => .inr (.inl q)) hF ds vs h3⟩
  · rcases hF x h with q | q
    · exact fr.dom x (r.live x q)
    · rcases h with (h | h) | h
      · exact fr.dom x (r.live x (.inl h))
      · rw [h, upd_same]; exact fun z => (nomatch z)
      · exact fr.dom x (r.live x (.inr h))
  · rcases h with h | h
    · exact r.dB x h q
    · exact r.live x (.inr (.inl q)) (by rw [h]; exact hp)
  · rintro (q | q)
    · exact (r.dO x h).2 q
    · exact r.live x (.inr (.inr h)) (by rw [q]; exact hp)
  · have q := (r.slot i sl e).fr fr (fun a h => (r.dO a h).1)
    cases sl with
    | un => trivial
    | sh d =>
      obtain ⟨n, v, e1, r1⟩ := r.slot i _ e
      exact ⟨n, v, e1, RepD.mono fr (fun _ q => (nomatch q)) (fun a q => .inr (.inl q)) hF d v (.inr n) r1⟩
    | own d =>
      have q := r.slot i _ e
      cases d with
      | list ds => obtain ⟨a, vs, e1, m, h1, h2⟩ := q; exact ⟨a, vs, e1, m, s _ _ h1, Reps.mono fr (fun _ q => (nomatch q)) (fun a q => .inr (.inl q)) hF ds vs h2⟩
      | dict kvs => obtain ⟨a, vs, e1, m, h1, h2⟩ := q; exact ⟨a, vs, e1, m, s _ _ h1, RepKv.mono fr (fun _ q => (nomatch q)) (fun a q => .inr (.inl q)) hF kvs vs h2⟩
      | _ => exact q.elim
theorem Reps.addB {ds : List P} {vs : List V} (h : Reps K (FF B et O) H ds vs) (hp : H p = none) (o : HO) : Reps K (FF (BU B p) et O) (upd H p o) ds vs :=
  Reps.mono (O := []) (et := et) (Fr.same (same_new hp)) (fun _ q => (nomatch q)) (fun a q => .inr (.inl q)) (fun x h => by
    rcases h with (h | h) | h
    · exact .inl (.inl h)
    · exact .inr (by rw [h]; exact hp)
    · exact .inl (.inr h)) ds vs h
theorem Rl.lessB (r : Rl K (BU B p) et O env g σ H) : Rl K B et O env g σ H := by
  have hF : ∀ x, FF B et O x → FF (BU B p) et O x := fun x h => h.elim (fun q => .inl (.inl q)) .inr
  refine ⟨r.cel.weak hF, fun x h => r.live x (hF x h), fun x h => r.dB x (.inl h), fun x h => ⟨(r.dO x h).1, fun q => (r.dO x h).2 (.inl q)⟩, r.len, fun i s e => (r.slot i s e).weak hF (fun a q => .inr (.inl q)) (fun a q => q), r.sep⟩
/-- a new object becomes the frame's own, at a name -/
theorem Rl.take (r : Rl K (BU B a) et O env g σ H) (nB : ¬ B a) (i : Nat) {d : P} {x : Option V} (h : SlotR K (FF B et (a :: O)) et (a :: O) H (.own d) (some (some (.ref a)))) : Rl K B et (a :: O) (env.set i (.own d)) g (σ.set i (some (.ref a))) H := by
  have hF : ∀ x, FF B et (a :: O) x → FF (BU B a) et O x := fun x h => FF.bu.mpr h
  have aO : a ∉ O := fun q => (r.dO a q).2 (.inr rfl)
  refine ⟨r.cel.weak hF, fun x h => r.live x (hF x h), fun x h => r.dB x (.inl h), fun x h => ?_, by simp [r.len], fun j s e => ?_, fun j l d1 e1 b q1 q2 q3 q4 => ?_⟩
  · rcases List.mem_cons.mp h with q | q
    · rw [q]; exact ⟨r.dB a (.inr rfl), nB⟩
    · exact ⟨(r.dO x q).1, fun z => (r.dO x q).2 (.inl z)⟩
  · by_cases q : i = j
    · subst q
      rw [List.getElem?_set] at e
      simp only [if_true] at e
      split at e
      · rename_i hlt
        cases e
        rw [List.getElem?_set]
        simp only [if_true]
        rw [if_pos (by rw [r.len]; exact hlt)]
        exact h
      · cases e
    · rw [List.getElem?_set_ne q] at e
      rw [List.getElem?_set_ne q]
      exact (r.slot j s e).weak hF (fun a q => .inr (.inl q)) (fun x q => List.mem_cons_of_mem _ q)
  · have own_at : ∀ {j : Nat} {d1 : P} {b : Addr}, i ≠ j → env[j]? = some (.own d1) → σ[j]? = some (some (.ref b)) → b ∈ O := fun {j d1 b} _ z1 z2 => by
      have q := r.slot j _ z1
      cases d1 with
      | list ds => obtain ⟨y, vs, e1, m, _⟩ := q; rw [e1] at z2; cases z2; exact m
      | dict ds => obtain ⟨y, vs, e1, m, _⟩ := q; rw [e1] at z2; cases z2; exact m
      | _ => exact q.elim
    have at_i : ∀ {b : Addr}, (σ.set i (some (.ref a)))[i]? = some (some (.ref b)) → b = a := fun {b} z => by
      rw [List.getElem?_set] at z
      simp only [if_true] at z
      split at z <;> cases z; rfl
    by_cases c1 : i = j
    · by_cases c2 : i = l
      · rw [← c1, ← c2]
      · subst c1
        have : b = a := at_i q3
        subst this
        rw [List.getElem?_set_ne c2] at q2 q4
        exact absurd (own_at c2 q2 q4) aO
    · by_cases c2 : i = l
      · subst c2
        have : b = a := at_i q4
        subst this
        rw [List.getElem?_set_ne c1] at q1 q3
        exact absurd (own_at c1 q1 q3) aO
      · rw [List.getElem?_set_ne c1] at q1 q3
        rw [List.getElem?_set_ne c2] at q2 q4
        exact r.sep j l d1 e1 b q1 q2 q3 q4
end
/-! ### new objects -/
section
variable {K : PySem.W.Frag} {mg : Str → Option Value} {B : Addr → Prop} {O : List Addr} {env : En} {σ : L2.St} {W : WX}
/-- the content of a new object -/
def Cont (K : PySem.W.Frag) (F : Addr → Prop) (H : Hp) (a : Addr) : P → Prop
  | .list ps => ∃ vs, H a = some (.lst vs) ∧ Reps K F H ps vs
  | .dict kvs => ∃ l, H a = some (.dK l) ∧ RepKv K F H kvs l
  | _ => False
def wF (K : PySem.W.Frag) (mg : Str → Option Value) (B : Addr → Prop) (O : List Addr) (env : En) (σ : L2.St) (W : WX) (et : List Addr) (H : Hp) (r : R D) (Q : VK) : Prop := match r with
  | .ok (.d p) g' => ∀ a H' et', Rl K (BU B a) et' O env g' σ H' → Fr [] et et' H H' → H a = none → Cont K (FF (BU B a) et' O) H' a p → Q (.ref a) H'
  | .ok _ _ => False
  | .err ex g' => ∀ cls od H' et', Rl K B et' O env g' σ H' → Fr [] et et' H H' → ExR K mg (FF B et' O) H' ex cls od → W cls od σ H'
  | .stuck => False
def mF (K : PySem.W.Frag) (mg : Str → Option Value) (W : WX) (m : Ev) : TE := fun σ H Q => ∃ B et O env g, Rl K B et O env g σ H ∧ wF K mg B O env σ W et H (m env g) Q
/-- it hands back a list or a dict -/
def NewR (m : Ev) : Prop := ∀ env g d g', m env g = .ok d g' → (∃ ps, d = .d (.list ps)) ∨ ∃ ps, d = .d (.dict ps)
def SF (X : Cx) (W : WX) (e : Expr) (m : Ev) : Prop := PE X e (mF X.K X.mg W m) ∧ NewR m
theorem wF.bind {α β : Type} {rep : RepT α β} {et : List Addr} {H : Hp} {r : R α} {k : α → G → R D} {Q : VK} {T : β → Hp → Prop}
    (h : wF K mg B O env σ W et H (r.bind k) Q)
    (hP : ∀ d g1 v H1 e1, r = .ok d g1 → Rl K B e1 O env g1 σ H1 → Fr [] et e1 H H1 → rep (FF B e1 O) H1 e1 d v → wF K mg B O env σ W e1 H1 (k d g1) Q → T v H1) :
    wG K mg B O env σ W rep et H r T := by
  cases r with
  | stuck => exact h
  | err ex g' => exact h
  | ok d g1 =>
    intro v H1 e1 rl fr rp
    refine hP d g1 v H1 e1 rfl rl fr rp ?_
    have h : wF K mg B O env σ W et H (k d g1) Q := h
    have nn : ∀ {a : Addr}, H1 a = none → H a = none := fun {a} q => by
      cases e : H a with
      | none => rfl
      | some o => exact absurd q (fr.dom a (by rw [e]; exact fun z => (nomatch z)))
    cases e : k d g1 with
    | stuck => rw [e] at h; exact h
    | err ex g' => rw [e] at h; intro cls od H' et' a b c; exact h cls od H' et' a (fr.trans b) c
    | ok d g' =>
      rw [e] at h
      cases d with
      | d p => intro a H' et' q1 q2 q3 q4; exact h a H' et' q1 (fr.trans q2) (nn q3) q4
      | _ => exact h
theorem wF.new {et : List Addr} {H : Hp} {d : P} {g : G} {p : Addr} {o : HO} {Q : VK} (h : wF K mg B O env σ W et H (.ok (.d d) g) Q) (rl : Rl K B et O env g σ H) (hp : H p = none)
    (r : Cont K (FF (BU B p) et O) (upd H p o) p d) : Q (.ref p) (upd H p o) :=
  h p _ et (rl.addB hp o) (Fr.same (same_new hp)) hp r
end
section
variable {X : Cx} {W : WX} {k : Nat} {e a b : Expr} {es : List Expr} {m ma mb : Ev} {ms : Evs} {pos : Pos}
theorem cont_rep {K : PySem.W.Frag} {B : Addr → Prop} {et O : List Addr} {env : En} {g : G} {σ : L2.St} {H : Hp} {a : Addr} {p : P} (r : Rl K (BU B a) et O env g σ H) (nB : ¬ B a) (h : Cont K (FF (BU B a) et O) H a p) : Rep K (FF B et O) H p (.ref a) := by
  have nF : ¬ FF B et O a := by
    rintro (q | q | q)
    · exact nB q
    · exact r.dB a (.inr rfl) q
    · exact (r.dO a q).2 (.inr rfl)
  have hF : ∀ x, FF B et O x → FF (BU B a) et O x := fun x h => h.elim (fun q => .inl (.inl q)) .inr
  cases p with
  | list ps => obtain ⟨vs, h1, h2⟩ := h; exact ⟨a, vs, rfl, h1, nF, h2.weak hF⟩
  | dict ps => obtain ⟨vs, h1, h2⟩ := h; exact ⟨a, vs, rfl, .inl h1, nF, RepKv.mono (et := []) (Fr.refl [] [] H) (fun _ q => (nomatch q)) (fun _ q => (nomatch q)) (fun a q => .inl (hF a q)) _ _ h2⟩
  | _ => exact h.elim
theorem se_of (h : SF X W e m) : SE X W e m :=
  pe_imp h.1 fun σ H Q ⟨B, et, O, env, g, rl, hq⟩ => by
    refine ⟨B, et, O, env, g, rl, ?_⟩
    cases e1 : m env g with
    | stuck => rw [e1] at hq; exact hq
    | err ex g' => rw [e1] at hq; exact hq
    | ok d g' =>
      rw [e1] at hq
      have nb : ∀ {a : Addr}, H a = none → ¬ B a := fun {a} q z => rl.live a (.inl z) q
      rcases h.2 _ _ _ _ e1 with ⟨ps, rfl⟩ | ⟨ps, rfl⟩
      · intro a H' et' q1 q2 q3 q4
        exact hq (.ref a) H' et' q1.lessB q2 (cont_rep q1 (nb q3) q4)
      · intro a H' et' q1 q2 q3 q4
        exact hq (.ref a) H' et' q1.lessB q2 (cont_rep q1 (nb q3) q4)
/-- x = a new list or dict, x's own from here on -/
def sOwn (i : Nat) (m : Ev) : Sv := fun env g => (m env g).bindS fun d g1 => match d with
  | .d p => .next (env.set i (.own p)) g1
  | _ => .stuck
theorem own_of {i : Nat} {D : Ends} {σ : L2.St} {H : Hp} (hn : NewR m) (h : mS X.K X.mg W (sOwn i m) D σ H) : tAsg (mF X.K X.mg W m) (gName i) D σ H := by
  obtain ⟨B, et, O, env, g, rl, h⟩ := h
  refine ⟨B, et, O, env, g, rl, ?_⟩
  unfold sOwn at h
  cases e1 : m env g with
  | stuck => rw [e1] at h; exact h
  | err ex g' =>
    rw [e1] at h
    intro cls od H' et' rl' fr ex'
    refine h cls od σ H' et' rl'.forget ⟨fr.weak fun x h => (nomatch h), fun _ h => (nomatch h)⟩ ?_
    obtain ⟨h1, h2⟩ := ex'
    refine ⟨h1, h2.imp id ?_⟩
    rintro ⟨dx, vs, e1, e2, e3, e4⟩
    exact ⟨dx, vs, e1, e2, e3, e4.weak fun a q => FF.mono (O := []) (fun _ z => z) (fun _ z => z) (fun _ z => by cases z) q⟩
  | ok d g' =>
    rw [e1] at h
    have nb : ∀ {a : Addr}, H a = none → ¬ B a := fun {a} q z => rl.live a (.inl z) q
    have fin : ∀ {p : P} {a : Addr} {H' : Hp} {et' : List Addr}, wS X.K X.mg B W O et H (.next (env.set i (.own p)) g') D → Rl X.K (BU B a) et' O env g' σ H' → Fr [] et et' H H' → H a = none → Cont X.K (FF (BU B a) et' O) H' a p →
        D.nx (σ.set i (some (.ref a))) H' := fun {p a H' et'} h q1 q2 q3 q4 => by
      refine h _ H' et' (a :: O) (q1.take (x := none) (nb q3) i ?_) ⟨q2.weak fun x h => (nomatch h), fun x h => ?_⟩
      · have hF : ∀ x, FF B et' (a :: O) x → FF (BU B a) et' O x := fun x h => FF.bu.mpr h
        cases p with
        | list ps => obtain ⟨vs, h1, h2⟩ := q4; exact ⟨a, vs, rfl, List.mem_cons_self, h1, h2.weak hF⟩
        | dict ps => obtain ⟨vs, h1, h2⟩ := q4; exact ⟨a, vs, rfl, List.mem_cons_self, h1, RepKv.mono (et := []) (Fr.refl [] [] H') (fun _ q => (nomatch q)) (fun _ q => (nomatch q)) (fun a q => .inl (hF a q)) _ _ h2⟩
        | _ => exact q4.elim
      · rcases List.mem_cons.mp h with q | q
        · exact .inr (by rw [q]; exact q3)
        · exact .inl q
    rcases hn _ _ _ _ e1 with ⟨ps, rfl⟩ | ⟨ps, rfl⟩
    · exact fun a H' et' q1 q2 q3 q4 => fin h q1 q2 q3 q4
    · exact fun a H' et' q1 q2 q3 q4 => fin h q1 q2 q3 q4
theorem ss_own {i : Nat} {x : Str} {pos' : Pos} (c : Cxt X W k) (ha : SF X W a m) (hi : X.N[i]? = some x := by rfl) (hx : Loc X.env.scope x := by first | exact .inl rfl | exact .inr rfl) (hs : swapsWith a (some (.Name x pos')) pos.line X.env = pure false := by rfl)
    (hf : X.fn x = true ∨ X.env.scope.names.lookup x = some .local := by first | exact .inl rfl | exact .inr rfl) : SS X W (.Assign [.Name x pos'] a pos) (sOwn i m) :=
  ps_imp (ps_set c.nd hi hx ha.1 hs hf) fun D σ H h => own_of ha.2 h
/-! a display -/
theorem newR_lst : NewR (eLst ms) := fun env g d g' e => by
  unfold eLst eB at e
  cases e1 : ms env g with
  | stuck => rw [e1] at e; cases e
  | err _ _ => rw [e1] at e; cases e
  | ok ds g1 =>
    rw [e1] at e
    have e : (match dats ds with | some ps => R.ok (D.d (.list ps)) g1 | none => .stuck) = .ok d g' := e
    split at e
    · cases e; exact .inl ⟨_, rfl⟩
    · cases e
theorem sf_lst (ha : SA X W es ms) (hl : es.length ≤ 100 := by decide) : SF X W (.List es pos) (eLst ms) := by
  refine ⟨pe_imp (pe_lst ha.1) fun σ H Q ⟨B, et, O, env, g, rl, h⟩ => ⟨B, et, O, env, g, rl, wF.bind h fun d1 g1 v1 H1 e1 ee rl1 fr1 r1 h1 => ?_⟩, newR_lst⟩
  dsimp only at h1
  split at h1
  · rename_i ps e
    have rp := dats_reps e r1
    refine ⟨by rw [← r1.length, ha.2 _ _ _ _ ee]; exact small100 hl, fun p hp => ?_⟩
    exact h1.new rl1 hp ⟨v1, upd_same, rp.addB hp _⟩
  · exact h1.elim
end
/-! ### own objects and cells changed -/
section
variable {K : PySem.W.Frag} {B : Addr → Prop} {et O : List Addr} {env : En} {g : G} {σ : L2.St} {H : Hp} {a : Addr}
theorem frS_upd (m : a ∈ O) {o : HO} (hm : ∀ xs, ¬ Rd H a (.tup xs)) : FrS O O et et H (upd H a o) := by
  refine ⟨⟨⟨[], by simp⟩, fun _ h => .inl h, fun x u e h1 h2 => ?_, fun x xs h => ?_, fun x h => ?_⟩, fun _ h => .inl h⟩
  · rw [upd_ne (fun q => h2 (by rw [q]; exact m))]; exact e
  · have : x ≠ a := fun q => hm xs (by rw [← q]; exact h)
    rcases h with h | ⟨u, h⟩
    · exact .inl (by rw [upd_ne this]; exact h)
    · exact .inr ⟨u, by rw [upd_ne this]; exact h⟩
  · by_cases q : x = a
    · rw [q, upd_same]; exact fun z => (nomatch z)
    · rw [upd_ne q]; exact h
theorem fr_upd (m : a ∈ et) {o : HO} (hm : ∀ xs, ¬ Rd H a (.tup xs)) : Fr [] et et H (upd H a o) := by
  refine ⟨⟨[], by simp⟩, fun _ h => .inl h, fun x u e h1 h2 => ?_, fun x xs h => ?_, fun x h => ?_⟩
  · rw [upd_ne (fun q => h1 (by rw [q]; exact m))]; exact e
  · have : x ≠ a := fun q => hm xs (by rw [← q]; exact h)
    rcases h with h | ⟨u, h⟩
    · exact .inl (by rw [upd_ne this]; exact h)
    · exact .inr ⟨u, by rw [upd_ne this]; exact h⟩
  · by_cases q : x = a
    · rw [q, upd_same]; exact fun z => (nomatch z)
    · rw [upd_ne q]; exact h
theorem noTup_lst {vs : List V} (h : H a = some (.lst vs)) : ∀ xs, ¬ Rd H a (.tup xs) := fun xs q => by
  rcases q with q | ⟨o, q⟩ <;> (rw [h] at q; cases q)
theorem noTup_dK {vs : List (Key × V)} (h : H a = some (.dK vs)) : ∀ xs, ¬ Rd H a (.tup xs) := fun xs q => by
  rcases q with q | ⟨o, q⟩ <;> (rw [h] at q; cases q)
/-- the own object of a name is changed -/
theorem Rl.updOwn (r : Rl K B et O env g σ H) {i : Nat} {d d' : P} {o : HO} (ei : env[i]? = some (.own d)) (es : σ[i]? = some (some (.ref a))) (m : a ∈ O) (hm : ∀ xs, ¬ Rd H a (.tup xs))
    (hc : Cont K (FF B et O) (upd H a o) a d') : Rl K B et O (env.set i (.own d')) g σ (upd H a o) := by
  have f : FrS O O et et H (upd H a o) := frS_upd m hm
  refine ⟨⟨r.cel.nd, r.cel.len, fun n x ds h1 h2 => ?_⟩, fun x h => f.fr.dom x (r.live x h), r.dB, r.dO, by simp [r.len], fun j s e => ?_, fun j l d1 e1 b q1 q2 q3 q4 => ?_⟩
  · obtain ⟨vs, e, h3⟩ := r.cel.at_ n x ds h1 h2
    have : x ≠ a := fun q => (r.dO a m).1 (by rw [← q]; exact List.mem_of_getElem? h1)
    exact ⟨vs, by rw [upd_ne this]; exact e, h3.frS f⟩
  · by_cases q : i = j
    · subst q
      rw [List.getElem?_set] at e
      simp only [if_true] at e
      split at e
      · cases e
        cases d' with
        | list ps => obtain ⟨vs, h1, h2⟩ := hc; exact ⟨a, vs, es, m, h1, h2⟩
        | dict ps => obtain ⟨vs, h1, h2⟩ := hc; exact ⟨a, vs, es, m, h1, h2⟩
        | _ => exact hc.elim
      · cases e
    · rw [List.getElem?_set_ne q] at e
      have z := r.slot j s e
      cases s with
      | un => trivial
      | sh d => obtain ⟨n, v, e1, r1⟩ := z; exact ⟨n, v, e1, r1.frS n f⟩
      | own d1 =>
        have ne : ∀ {y : Addr}, σ[j]? = some (some (.ref y)) → y ≠ a := fun {y} h1 h2 => q (r.sep i j d d1 a ei e es (by rw [← h2]; exact h1))
        cases d1 with
        | list ds => obtain ⟨y, vs, e1, my, h1, h2⟩ := z; exact ⟨y, vs, e1, my, by rw [upd_ne (ne e1)]; exact h1, h2.frS f⟩
        | dict ds => obtain ⟨y, vs, e1, my, h1, h2⟩ := z; exact ⟨y, vs, e1, my, by rw [upd_ne (ne e1)]; exact h1, h2.frS f⟩
        | _ => exact z.elim
  · have back : ∀ {j : Nat} {d1 : P}, (env.set i (.own d'))[j]? = some (.own d1) → ∃ d2, env[j]? = some (.own d2) := fun {j d1} z => by
      by_cases q : i = j
      · subst q; exact ⟨d, ei⟩
      · rw [List.getElem?_set_ne q] at z; exact ⟨d1, z⟩
    obtain ⟨_, z1⟩ := back q1
    obtain ⟨_, z2⟩ := back q2
    exact r.sep j l _ _ b z1 z2 q3 q4
/-- a cell is changed -/
theorem Rl.updCell (r : Rl K B et O env g σ H) {n : Nat} {ps qs : List P} {vs us : List V} (en : et[n]? = some a) (hg : g[n]? = some ps) (ha : H a = some (.lst vs)) (hu : Reps K (FF B et O) H qs us) : Rl K B et O env (g.set n qs) σ (upd H a (.lst us)) ∧ Fr [] et et H (upd H a (.lst us)) := by
  have me : a ∈ et := List.mem_of_getElem? en
  have f : Fr [] et et H (upd H a (.lst us)) := fr_upd me (noTup_lst ha)
  refine ⟨⟨⟨r.cel.nd, by simp [r.cel.len], fun j x ds h1 h2 => ?_⟩, fun x h => f.dom x (r.live x h), r.dB, r.dO, r.len, fun i s e => (r.slot i s e).fr f (fun a h => (r.dO a h).1), r.sep⟩, f⟩
  by_cases q : n = j
  · subst q
    rw [en] at h1; cases h1
    rw [List.getElem?_set] at h2
    simp only [if_true] at h2
    split at h2
    · cases h2; exact ⟨us, upd_same, hu.fr f⟩
    · cases h2
  · rw [List.getElem?_set_ne q] at h2
    obtain ⟨ws, e, h3⟩ := r.cel.at_ j x ds h1 h2
    have : x ≠ a := fun z => by
      subst z
      obtain ⟨l1, e1⟩ := List.getElem?_eq_some_iff.mp en
      obtain ⟨l2, e2⟩ := List.getElem?_eq_some_iff.mp h1
      have hp := List.pairwise_iff_getElem.mp r.cel.nd
      rcases Nat.lt_trichotomy n j with z | z | z
      · exact hp n j l1 l2 z (e1.trans e2.symm)
      · exact q z
      · exact hp j n l2 l1 z (e2.trans e1.symm)
    exact ⟨ws, by rw [upd_ne this]; exact e, h3.fr f⟩
/-- a new cell -/
theorem Rl.newCell (r : Rl K B et O env g σ H) {p : Addr} (hp : H p = none) {ps : List P} {vs : List V} (hv : Reps K (FF B et O) H ps vs) :
    Rl K B (et ++ [p]) O env (g ++ [ps]) σ (upd H p (.lst vs)) ∧ Fr [] et (et ++ [p]) H (upd H p (.lst vs)) := by
  have s : Same H (upd H p (.lst vs)) := same_new hp
  have f0 : Fr [] et et H (upd H p (.lst vs)) := Fr.same s
  have f : Fr [] et (et ++ [p]) H (upd H p (.lst vs)) := ⟨⟨[p], rfl⟩, fun a h => by
    rcases List.mem_append.mp h with q | q
    · exact .inl q
    · exact .inr (by rw [List.mem_singleton.mp q]; exact hp), f0.keep, f0.tup, f0.dom⟩
  have np : p ∉ et := fun q => r.live p (.inr (.inl q)) hp
  refine ⟨⟨⟨?_, by simp [r.cel.len], fun j x ds h1 h2 => ?_⟩, fun x h => ?_, fun x h q => ?_, fun x h => ⟨fun q => ?_, (r.dO x h).2⟩, r.len, fun i s e => (r.slot i s e).fr f (fun a h => (r.dO a h).1), r.sep⟩, f⟩
  · exact List.nodup_append.mpr ⟨r.cel.nd, by simp, fun a ha b hb => by rw [List.mem_singleton.mp hb]; exact fun z => np (by rw [← z]; exact ha)⟩
  · by_cases q : j < et.length
    · rw [List.getElem?_append_left q] at h1
      rw [List.getElem?_append_left (by rw [← r.cel.len]; exact q)] at h2
      obtain ⟨ws, e, h3⟩ := r.cel.at_ j x ds h1 h2
      exact ⟨ws, s _ _ e, h3.fr f⟩
    · rw [List.getElem?_append_right (Nat.le_of_not_lt q)] at h1
      rw [List.getElem?_append_right (by rw [← r.cel.len]; exact Nat.le_of_not_lt q), ← r.cel.len] at h2
      have z : j - et.length = 0 := by
        have := (List.getElem?_eq_some_iff.mp h1).1
        simp at this; omega
      rw [z] at h1 h2
      cases h1; cases h2
      exact ⟨vs, upd_same, hv.fr f⟩
  · rcases h with h | h | h
    · exact f.dom x (r.live x (.inl h))
    · rcases List.mem_append.mp h with q | q
      · exact f.dom x (r.live x (.inr (.inl q)))
      · rw [List.mem_singleton.mp q, upd_same]; exact fun z => (nomatch z)
    · exact f.dom x (r.live x (.inr (.inr h)))
  · rcases List.mem_append.mp q with z | z
    · exact r.dB x h z
    · exact r.live x (.inl h) (by rw [List.mem_singleton.mp z]; exact hp)
  · rcases List.mem_append.mp q with z | z
    · exact (r.dO x h).1 z
    · exact r.live x (.inr (.inr h)) (by rw [List.mem_singleton.mp z]; exact hp)
/-- an own object is shared from here on -/
theorem Rl.freeze (r : Rl K B et O env g σ H) {i : Nat} {d : P} (ei : env[i]? = some (.own d)) : ∃ O', FrS O O' et et H H ∧ Rl K B et O' (env.set i (.sh (.d d))) g σ H := by
  have z := r.slot i _ ei
  obtain ⟨a, es, m, hr⟩ : ∃ a, σ[i]? = some (some (.ref a)) ∧ a ∈ O ∧ Cont K (FF B et O) H a d := by
    cases d with
    | list ds => obtain ⟨a, vs, e1, m, h1, h2⟩ := z; exact ⟨a, e1, m, vs, h1, h2⟩
    | dict ds => obtain ⟨a, vs, e1, m, h1, h2⟩ := z; exact ⟨a, e1, m, vs, h1, h2⟩
    | _ => exact z.elim
  refine ⟨O.filter (· ≠ a), ⟨Fr.refl O et H, fun x h => .inl (List.mem_filter.mp h).1⟩, ?_⟩
  have sub : ∀ x ∈ O.filter (· ≠ a), x ∈ O := fun x h => (List.mem_filter.mp h).1
  have hF : ∀ x, FF B et (O.filter (· ≠ a)) x → FF B et O x := fun x h => FF.mono (fun _ q => q) (fun _ q => q) sub h
  have na : ¬ FF B et (O.filter (· ≠ a)) a := by
    rintro (q | q | q)
    · exact (r.dO a m).2 q
    · exact (r.dO a m).1 q
    · have := (List.mem_filter.mp q).2; simp at this
  refine ⟨r.cel.weak hF, fun x h => r.live x (hF x h), r.dB, fun x h => r.dO x (sub x h), by simp [r.len], fun j s e => ?_, fun j l d1 e1 b q1 q2 q3 q4 => ?_⟩
  · by_cases q : i = j
    · subst q
      rw [List.getElem?_set] at e
      simp only [if_true] at e
      split at e
      · cases e
        refine ⟨trivial, .ref a, es, ?_⟩
        cases d with
        | list ps => obtain ⟨vs, h1, h2⟩ := hr; exact ⟨a, vs, rfl, h1, na, h2.weak hF⟩
        | dict ps => obtain ⟨vs, h1, h2⟩ := hr; exact ⟨a, vs, rfl, .inl h1, na, RepKv.mono (et := []) (Fr.refl [] [] H) (fun _ q => (nomatch q)) (fun _ q => (nomatch q)) (fun a q => .inl (hF a q)) _ _ h2⟩
        | _ => exact hr.elim
      · cases e
    · rw [List.getElem?_set_ne q] at e
      have z := r.slot j s e
      cases s with
      | un => trivial
      | sh d => obtain ⟨n, v, e1, r1⟩ := z; exact ⟨n, v, e1, r1.weak hF (fun a q => .inr (.inl q))⟩
      | own d1 =>
        have ne : ∀ {y : Addr}, y ∈ O → σ[j]? = some (some (.ref y)) → y ∈ O.filter (· ≠ a) := fun {y} hy h1 => List.mem_filter.mpr ⟨hy, by
          have : y ≠ a := fun h2 => q (r.sep i j d d1 a ei e es (by rw [← h2]; exact h1))
          simpa using this⟩
        cases d1 with
        | list ds => obtain ⟨y, vs, e1, my, h1, h2⟩ := z; exact ⟨y, vs, e1, ne my e1, h1, h2.weak hF⟩
        | dict ds => obtain ⟨y, vs, e1, my, h1, h2⟩ := z; exact ⟨y, vs, e1, ne my e1, h1, RepKv.mono (et := []) (Fr.refl [] [] H) (fun _ q => (nomatch q)) (fun _ q => (nomatch q)) (fun a q => .inl (hF a q)) _ _ h2⟩
        | _ => exact z.elim
  · have nj : i ≠ j := fun q => by subst q; rw [List.getElem?_set] at q1; simp only [if_true] at q1; split at q1 <;> cases q1
    have nl : i ≠ l := fun q => by subst q; rw [List.getElem?_set] at q2; simp only [if_true] at q2; split at q2 <;> cases q2
    rw [List.getElem?_set_ne nj] at q1
    rw [List.getElem?_set_ne nl] at q2
    exact r.sep j l d1 e1 b q1 q2 q3 q4
end
end Sim
set_option maxRecDepth 512
set_option Elab.async false
set_option linter.all false
set_option maxRecDepth 100000
set_option maxHeartbeats 4000000
namespace Sim
open PySem PySem.Spec PyProof.Rows L2
section
variable {X : Cx} {W : WX} {k : Nat} {e a b c : Expr} {es : List Expr} {m ma mb : Ev} {ms : Evs} {pos : Pos} {ss : List Stmt} {sm : Sv}
/-! a ghost step: the name's object is shared from here on -/
def sFreeze (i : Nat) : Sv := fun env g => match env[i]? with
  | some (.own d) => .next (env.set i (.sh (.d d))) g
  | _ => .stuck
theorem ss_freeze {i : Nat} (h : SSs X W ss sm) : SSs X W ss (sSeq (sFreeze i) sm) :=
  pss_imp h fun D σ H ⟨B, et, O, env, g, rl, h⟩ => by
    have h : wS X.K X.mg B W O et H ((sFreeze i env g).seq sm) D := h
    unfold sFreeze at h
    split at h
    · rename_i d ei
      obtain ⟨O', f, rl'⟩ := rl.freeze ei
      exact ⟨B, et, O', _, g, rl', wS.pre h f⟩
    · exact h.elim
theorem own_lst {K : PySem.W.Frag} {B : Addr → Prop} {et O : List Addr} {env : En} {g : G} {σ : L2.St} {H : Hp} {i : Nat} {ps : List P} (r : Rl K B et O env g σ H) (ei : env[i]? = some (.own (.list ps))) :
    ∃ a vs, σ[i]? = some (some (.ref a)) ∧ a ∈ O ∧ H a = some (.lst vs) ∧ Reps K (FF B et O) H ps vs := by
  obtain ⟨a, vs, e1, m, h1, h2⟩ := r.slot i _ ei
  exact ⟨a, vs, e1, m, h1, h2⟩
/-! x.append(e), x.extend(e) -/
def appP (ps : List P) : D → Option (List P)
  | .d p => if ps.length < sizeLine then some (ps ++ [p]) else none
  | _ => none
def extP (ps : List P) : D → Option (List P)
  | .d (.list qs) => if ps.length + qs.length ≤ sizeLine then some (ps ++ qs) else none
  | _ => none
/-- a method of one argument that changes the name's own list and hands back None -/
def sOwn1 (f : List P → D → Option (List P)) (i : Nat) (m : Evs) : Sv := fun env g => match env[i]? with
  | some (.own (.list ps)) => (m env g).bindS fun ds g1 => (match ds with
    | [d] => (match f ps d with
      | some qs => .next (env.set i (.own (.list qs))) g1
      | none => .stuck)
    | _ => .stuck)
  | _ => .stuck
/-- what a rule is to the change -/
def OkM1 (X : Cx) (f : List P → D → Option (List P)) (r : V → List V → Hp → VK → Prop) : Prop :=
  ∀ (F : Addr → Prop) (et : List Addr) (H : Hp) (a : Addr) (vs : List V) (ps qs : List P) (d : D) (x : V) (Q : VK), H a = some (.lst vs) → Reps X.K F H ps vs → RepD X.K F H et d x → f ps d = some qs → 
    (∀ us, Reps X.K F H qs us → Q .non (upd H a (.lst us))) → r (.ref a) [x] H Q
theorem ok_append : OkM1 X appP rAppend := fun F et H a vs ps qs d x Q h1 h2 h3 h4 h5 => by
  unfold appP at h4
  split at h4
  · split at h4
    · rename_i hz
      cases h4
      exact ⟨a, vs, x, rfl, rfl, h1, by rw [← h2.length]; exact hz, h5 _ (h2.append (Reps.one h3))⟩
    · cases h4
  · cases h4
theorem ok_extend : OkM1 X extP rExtend := fun F et H a vs ps qs d x Q h1 h2 h3 h4 h5 => by
  unfold extP at h4
  split at h4
  · split at h4
    · rename_i hz
      cases h4
      obtain ⟨b, us, rfl, h6, _, h7⟩ := h3
      exact ⟨a, b, vs, us, rfl, rfl, h1, h6, by rw [← h2.length, ← h7.length]; exact hz, h5 _ (h2.append h7)⟩
    · cases h4
  · cases h4
theorem ss_own1 {i : Nat} {f : List P → D → Option (List P)} {r : V → List V → Hp → VK → Prop} (hf : OkM1 X f r) (hp : PE X c (tBM X.K "list" r (tVar i) (mA X.K X.mg W ms))) (hs : swapsWith c none pos.line X.env = pure false := by rfl) : SS X W (.Expr c pos) (sOwn1 f i ms) := by
  refine ps_imp (ps_expr hp hs) fun D σ H ⟨B, et, O, env, g, rl, h⟩ => ?_
  unfold sOwn1 at h
  split at h
  · rename_i ps ei
    obtain ⟨a, vs, es, ma, h1, h2⟩ := own_lst rl ei
    refine ⟨.ref a, es, .inl ⟨rfl, vs, .inl (.inl h1)⟩, B, et, O, env, g, rl, wS.bind h fun d1 g1 v1 H1 e1 _ rl1 fr1 r1 h3 => ?_⟩
    split at h3
    · split at h3
      · rename_i qs eq
        obtain ⟨x, u, rfl, rx, rfl⟩ := r1
        have ha1 : H1 a = some (.lst vs) := fr1.keep _ _ h1 (rl.dO a ma).1 (fun q => (nomatch q))
        refine hf (FF B e1 O) e1 H1 a vs ps qs _ x _ ha1 (h2.fr fr1) rx eq fun us hu => ?_
        have f : FrS O O e1 e1 H1 (upd H1 a (.lst us)) := frS_upd ma (noTup_lst ha1)
        exact h3 σ _ e1 O (rl1.updOwn ei es ma (noTup_lst ha1) ⟨us, upd_same, hu.frS f⟩) f
      · exact h3.elim
    · exact h3.elim
  · exact h.elim
/-! o[i] = v -/
def setP (ps : List P) (k : Int) (p : P) : Option (List P) := (ixN ps.length k).map fun j => ps.set j p
/-- the target x[e]: x's own list, or a cell -/
def tSetIx (i : Nat) (m : Ev) : Tgv := fun d env g => match env[i]? with
  | some (.own (.list ps)) => (m env g).bindS fun j g1 => (match j, d with
    | .d (.int k), .d p => (match setP ps k p with
      | some qs => .next (env.set i (.own (.list qs))) g1
      | none => .stuck)
    | _, _ => .stuck)
  | some (.sh (.cell n)) => (m env g).bindS fun j g1 => (match j, d, g1[n]? with
    | .d (.int k), .d p, some ps => (match setP ps k p with
      | some qs => .next env (g1.set n qs)
      | none => .stuck)
    | _, _, _ => .stuck)
  | _ => .stuck
theorem noRet_setIx {i : Nat} {m : Ev} : NoRet (tSetIx i m) := fun d env g x g' h => by
  unfold tSetIx at h
  split at h
  · cases e1 : m env g with
    | stuck => rw [e1] at h; cases h
    | err _ _ => rw [e1] at h; cases h
    | ok j g1 =>
      rw [e1] at h
      dsimp only [R.bindS] at h
      split at h
      · split at h <;> cases h
      · cases h
  · cases e1 : m env g with
    | stuck => rw [e1] at h; cases h
    | err _ _ => rw [e1] at h; cases h
    | ok j g1 =>
      rw [e1] at h
      dsimp only [R.bindS] at h
      split at h
      · split at h <;> cases h
      · cases h
  · cases h
theorem sg_setIx {i : Nat} {x : Str} {xp : Pos} (hb : SE X W b mb) (hN : X.N[i]? = some x := by rfl) (hv : Vis X.env.scope x := by first | exact .inl rfl | exact .inr (.inl rfl) | exact .inr (.inr rfl))
    (hd : (x == ("__debug__" : Str)) = false := by decide) (hcd : (x == ("__classdict__" : Str)) = false := by decide)
    (ha : ∀ v, assign (.Subscript (.Name x xp) b pos) X.env v = (do
      let ov ← holding [v] (eval (.Name x xp) X.env)
      let iv ← holding [v, ov] (eval b X.env)
      standAt pos
      holding [v, ov, iv] (setItem ov iv v)
      release [v, ov, iv] []) := by intro _; rfl) : SG X W (.Subscript (.Name x xp) b pos) (tSetIx i mb) := by
  refine pg_imp (pg_sub (pe_var (i := i) hN hv hd hcd) hb set_list ha) fun v σ H Q ⟨B, et, O, env, g, d, rl, hd, r, h⟩ => ?_
  unfold tSetIx at h
  split at h
  · rename_i ps ei
    obtain ⟨a, vs, es, ma, h1, h2⟩ := own_lst rl ei
    refine ⟨.ref a, es, B, et, O, env, g, rl, wS.bind h fun d1 g1 v1 H1 e1 _ rl1 fr1 r1 h3 => ?_⟩
    split at h3
    · split at h3
      · rename_i qs eq
        have ha1 : H1 a = some (.lst vs) := fr1.keep _ _ h1 (rl.dO a ma).1 (fun q => (nomatch q))
        unfold setP at eq
        simp only [Option.map_eq_some_iff] at eq
        obtain ⟨j, ej, rfl⟩ := eq
        have h2' := h2.fr fr1
        refine ⟨a, vs, _, j, rfl, r1, ha1, by rw [← h2.length]; exact ej, ?_⟩
        have f : FrS O O e1 e1 H1 (upd H1 a (.lst (vs.set j v))) := frS_upd ma (noTup_lst ha1)
        exact h3 σ _ e1 O (rl1.updOwn ei es ma (noTup_lst ha1) ⟨_, upd_same, (Reps.set (RepD.fr (d := .d _) r fr1) j h2').frS f⟩) f
      · exact h3.elim
    · exact h3.elim
  · rename_i n ei
    obtain ⟨_, v0, es, ⟨a, rfl, en⟩⟩ := rl.slot i _ ei
    refine ⟨.ref a, es, B, et, O, env, g, rl, wS.bind h fun d1 g1 v1 H1 e1 _ rl1 fr1 r1 h3 => ?_⟩
    split at h3
    · rename_i eg _
      split at h3
      · rename_i qs eq
        have en1 := fr1.get en
        obtain ⟨vs, ha1, h2'⟩ := rl1.cel.at_ n a _ en1 eg
        unfold setP at eq
        simp only [Option.map_eq_some_iff] at eq
        obtain ⟨j, ej, rfl⟩ := eq
        refine ⟨a, vs, _, j, rfl, r1, ha1, by rw [← h2'.length]; exact ej, ?_⟩
        obtain ⟨q1, q2⟩ := rl1.updCell en1 eg ha1 (Reps.set (RepD.fr (d := .d _) r fr1) j h2')
        exact h3 σ _ e1 O q1 (FrS.ofE q2)
      · exact h3.elim
    · exact h3.elim
  · exact h.elim
/-! a new cell out of a display -/
def eNewCell (ms : Evs) : Ev := fun env g => (ms env g).bind fun ds g1 => match dats ds with
  | some ps => .ok (.cell g1.length) (g1 ++ [ps])
  | none => .stuck
theorem se_newCell (ha : SA X W es ms) (hl : es.length ≤ 100 := by decide) : SE X W (.List es pos) (eNewCell ms) := by
  refine pe_imp (pe_lst ha.1) fun σ H Q ⟨B, et, O, env, g, rl, h⟩ => ⟨B, et, O, env, g, rl, wG.bind h fun d1 g1 v1 H1 e1 ee rl1 fr1 r1 h1 => ?_⟩
  split at h1
  · rename_i ps e
    have rp := dats_reps e r1
    refine ⟨by rw [← r1.length, ha.2 _ _ _ _ ee]; exact small100 hl, fun p hp => ?_⟩
    obtain ⟨q1, q2⟩ := rl1.newCell hp rp
    refine h1 (.ref p) _ (e1 ++ [p]) q1 q2 ⟨p, rfl, ?_⟩
    rw [← rl1.cel.len, List.getElem?_append_right (Nat.le_refl _), Nat.sub_self]; rfl
  · exact h1.elim
end
end Sim
set_option maxRecDepth 512
set_option Elab.async false
set_option linter.all false
set_option maxRecDepth 100000
set_option maxHeartbeats 4000000
namespace Sim
open PySem PySem.Spec PyProof.Rows L2
/-! ### targets that are names -/
abbrev Ptv := D → En → Option En
abbrev Ptvs := List P → En → Option En
def Agree (ts : List Nat) (σ σ' : L2.St) : Prop := σ'.length = σ.length ∧ ∀ i, i ∉ ts → σ'[i]? = σ[i]?
def mP (K : PySem.W.Frag) (ts : List Nat) (f : Ptv) : TG := fun v σ H Q => ∃ B et O env g d, Rl K B et O env g σ H ∧ d.nb ∧ RepD K (FF B et O) H et d v ∧ ∃ env', f d env = some env' ∧ ∀ σ', Rl K B et O env' g σ' H → Agree ts σ σ' → Q σ' H
def mPs (K : PySem.W.Frag) (ts : List Nat) (f : Ptvs) : TGs := fun v σ H Q => ∃ B et O env g d, Rl K B et O env g σ H ∧ Reps K (FF B et O) H d v ∧ ∃ env', f d env = some env' ∧ ∀ σ', Rl K B et O env' g σ' H → Agree ts σ σ' → Q σ' H
def SP (X : Cx) (tg : Expr) (ts : List Nat) (f : Ptv) : Prop := PG X tg (mP X.K ts f)
def SPs (X : Cx) (tg : List Expr) (ts : List Nat) (n : Nat) (f : Ptvs) : Prop := PGs X tg (mPs X.K ts f) ∧ tg.length = n
def pName (i : Nat) : Ptv := fun d env => some (env.set i (.sh d))
def psNil : Ptvs := fun ds env => match ds with | [] => some env | _ => none
def psCons (a : Ptv) (r : Ptvs) : Ptvs := fun ds env => match ds with | d :: ds => (a (.d d) env).bind (r ds) | [] => none
def pTup (n : Nat) (r : Ptvs) : Ptv := fun d env => match d with
  | .d (.tuple ps) => if ps.length = n then r ps env else none
  | .d (.list ps) => if ps.length = n then r ps env else none
  | _ => none
theorem pg_or {X : Cx} {e : Expr} {t t' : TG} (h : PG X e t) (h' : PG X e t') : PG X e (fun v σ H Q => t v σ H Q ∨ t' v σ H Q) := ⟨fun pins s σ H v u Q I r q => q.elim (h.run pins s σ H v u Q I r) (h'.run pins s σ H v u Q I r)⟩
section
variable {X : Cx} {W : WX} {k : Nat} {e tg : Expr} {es : List Expr} {m : Ptv} {ms : Ptvs} {pos : Pos} {ts us : List Nat}
theorem agree_set (σ : L2.St) (i : Nat) (o : Option V) : Agree [i] σ (σ.set i o) := ⟨by simp, fun j h => by rw [List.getElem?_set_ne (fun q => h (by rw [q]; exact List.mem_cons_self))]⟩
theorem Agree.refl (ts : List Nat) (σ : L2.St) : Agree ts σ σ := ⟨rfl, fun _ _ => rfl⟩
theorem Agree.trans {σ σ' σ'' : L2.St} (a : Agree ts σ σ') (b : Agree us σ' σ'') : Agree (ts ++ us) σ σ'' :=
  ⟨b.1.trans a.1, fun i h => by
    rw [List.mem_append, not_or] at h
    rw [b.2 i h.2, a.2 i h.1]⟩
theorem sp_name {i : Nat} {x : Str} (c : Cxt X W k) (hi : X.N[i]? = some x := by rfl) (hx : Loc X.env.scope x := by first | exact .inl rfl | exact .inr rfl) (hf : X.fn x = true ∨ X.env.scope.names.lookup x = some .local := by first | exact .inl rfl | exact .inr rfl) : SP X (.Name x pos) [i] (pName i) :=
  pg_imp (pg_name c.nd hi hx hf) fun v σ H Q ⟨B, et, O, env, g, d, rl, hn, r, env', e, h⟩ => by
    cases e
    exact h _ (rl.set i hn r) (agree_set σ i _)
theorem sps_nil : SPs X [] [] 0 psNil := ⟨pgs_imp pgs_nil fun v σ H Q ⟨B, et, O, env, g, ds, rl, r, env', e, h⟩ => by
  unfold psNil at e
  split at e
  · cases e; exact ⟨r, h σ rl (Agree.refl _ _)⟩
  · exact (nomatch e), rfl⟩
theorem sps_cons {n : Nat} (h1 : SP X e ts m) (h2 : SPs X es us n ms) (hs : (assignEach (e :: es) X.env).map (·.2) = assign e X.env :: (assignEach es X.env).map (·.2) := by rfl) : SPs X (e :: es) (ts ++ us) (n + 1) (psCons m ms) :=
  ⟨pgs_imp (pgs_cons h1 h2.1 hs) fun v σ H Q ⟨B, et, O, env, g, ds, rl, r, env', e, h⟩ => by
    unfold psCons at e
    cases ds with
    | nil => cases e
    | cons d ds =>
      obtain ⟨x, u, rfl, r1, r2⟩ := r
      obtain ⟨env1, e1, e2⟩ := Option.bind_eq_some_iff.mp e
      exact ⟨x, u, rfl, B, et, O, env, g, .d d, rl, trivial, r1, env1, e1, fun σ1 rl1 a1 => ⟨B, et, O, env1, g, ds, rl1, r2, env', e2, fun σ2 rl2 a2 => h σ2 rl2 (a1.trans a2)⟩⟩, by simp [h2.2]⟩
theorem sp_tup {n kk : Nat} (c : Cxt X W k) (h : SPs X es ts n ms) (hn : (assignEach es X.env).length = n := by rfl) (hst : (assignEach es X.env).findIdx? (·.1) = none := by rfl) : SP X (.Tuple es kk pos) ts (pTup n ms) :=
  pg_imp (pg_or (pg_tup c.calm h.1 hn hst) (pg_unl c.calm h.1 hn hst)) fun v σ H Q ⟨B, et, O, env, g, d, rl, hd, r, env', e, h⟩ => by
    unfold pTup at e
    split at e
    · rename_i ps
      split at e
      · rename_i hz
        obtain ⟨a, vs, rfl, h1, h2⟩ := r
        exact .inl ⟨a, vs, rfl, h1, by rw [← h2.length]; exact hz, B, et, O, env, g, ps, rl, h2, env', e, h⟩
      · cases e
    · rename_i ps
      split at e
      · rename_i hz
        obtain ⟨a, vs, rfl, h1, _, h2⟩ := r
        exact .inr ⟨a, vs, rfl, .inl (.inl h1), by rw [← h2.length]; exact hz, B, et, O, env, g, ps, rl, h2, env', e, h⟩
      · cases e
    · cases e
/-- such a target of an assignment -/
def tP (f : Ptv) : Tgv := fun d env g => match f d env with | some env' => .next env' g | none => .stuck
theorem noRet_P {f : Ptv} : NoRet (tP f) := fun d env g x g' h => by unfold tP at h; split at h <;> cases h
theorem sg_P (h : SP X tg ts m) : SG X W tg (tP m) :=
  pg_imp h fun v σ H Q ⟨B, et, O, env, g, d, rl, hn, r, h⟩ => by
    unfold tP at h
    split at h
    · rename_i env' e
      exact ⟨B, et, O, env, g, d, rl, hn, r, env', e, fun σ' rl' _ => h.here rl'⟩
    · exact h.elim
end
/-! ### what is walked -/
structure Stp (b : Bool) (O O2 et et2 : List Addr) (H H2 : Hp) : Prop where
  fr : Fr (if b then O else []) et et2 H H2
  own : ∀ a ∈ O2, a ∈ O ∨ H a = none
theorem Stp.s {b : Bool} {O O2 et et2 : List Addr} {H H2 : Hp} (s : Stp b O O2 et et2 H H2) : FrS O O2 et et2 H H2 := by
  refine ⟨?_, s.own⟩
  cases b with
  | true => exact s.fr
  | false => exact s.fr.weak fun x h => (nomatch h)
/-- J walks ds: from H on, whatever a turn does -/
def Itm (b : Bool) (K : PySem.W.Frag) (O : List Addr) (F : Addr → Prop) (H : Hp) (et : List Addr) (ds : List D) (J : It) : Prop :=
  ∀ (F2 : Addr → Prop) (et2 O2 : List Addr) (H2 : Hp), Stp b O O2 et et2 H H2 → (∀ a, F2 a → F a ∨ H a = none) → (∀ a ∈ et2, F2 a) → ∀ i,
    (i < ds.length → J.go i H2 ∧ ∀ x H3, J.yld i H2 x H3 → Same H2 H3 ∧ ∀ d, ds[i]? = some d → RepD K F2 H3 et2 d x) ∧ (i = ds.length → J.stop i H2)
abbrev Iv := En → M (List D)
def mI (b : Bool) (K : PySem.W.Frag) (mg : Str → Option Value) (W : WX) (m : Iv) : TI := fun σ H R => ∃ B et O env g, Rl K B et O env g σ H ∧ wG K mg B O env σ W (fun F H et ds J => Itm b K O F H et ds J) et H (m env g) R
def SI (b : Bool) (X : Cx) (W : WX) (tg iter : Expr) (m : Iv) : Prop := PI X tg iter (mI b X.K X.mg W m)
def iSeq (b : Bool) (m : Ev) : Iv := fun env g => (m env g).bind fun d g1 => match d with
  | .d (.list xs) => .ok (xs.map D.d) g1
  | .d (.tuple xs) => .ok (xs.map D.d) g1
  | .bor (.list xs) => if b then .stuck else .ok (xs.map D.d) g1
  | _ => .stuck
def ints0 (lo : Int) (n : Nat) : List D := (List.range n).map fun i => D.d (.int (lo + (i : Nat)))
def iRange1 (m : Ev) : Iv := fun env g => (m env g).bind fun d g1 => match d with
  | .d (.int j) => if -(2 ^ 62) ≤ j ∧ j < 2 ^ 62 then .ok (ints0 0 j.toNat) g1 else .stuck
  | _ => .stuck
def iRange2 (m m' : Ev) : Iv := fun env g => (m env g).bind fun d g1 => (m' env g1).bind fun d' g2 => match d, d' with
  | .d (.int i), .d (.int j) => if -(2 ^ 62) ≤ i ∧ i < 2 ^ 62 ∧ -(2 ^ 62) ≤ j ∧ j < 2 ^ 62 then .ok (ints0 i (j - i).toNat) g2 else .stuck
  | _, _ => .stuck
section
variable {K : PySem.W.Frag} {B : Addr → Prop} {et O : List Addr} {H : Hp}
theorem itm_list {b : Bool} {a : Addr} {vs : List V} {xs : List P} (h : H a = some (.lst vs)) (ne : a ∉ et) (no : b = true → a ∉ O) (hr : Reps K (FF B et O) H xs vs) : Itm b K O (FF B et O) H et (xs.map D.d) (Itl K a) := by
  intro F2 et2 O2 H2 st hF he i
  have hO : a ∉ (if b = true then O else []) := by
    cases b with
    | true => exact no rfl
    | false => exact fun q => (nomatch q)
  have h2 : H2 a = some (.lst vs) := st.fr.keep a _ h ne hO
  have sq : SqL K H2 a vs := .inl (.inl h2)
  have hl := hr.length
  refine ⟨fun hi => ?_, fun hi => ⟨vs, sq, by rw [← hl]; simp at hi; omega⟩⟩
  have hi' : i < vs.length := by rw [← hl]; simpa using hi
  refine ⟨⟨vs, vs[i], sq, List.getElem?_eq_getElem hi'⟩, fun x H3 y => ?_⟩
  obtain ⟨rfl, y⟩ := y
  refine ⟨fun _ _ q => q, fun d ed => ?_⟩
  have ex : vs[i]? = some x := y vs sq
  rw [List.getElem?_map] at ed
  obtain ⟨p, ep, rfl⟩ := Option.map_eq_some_iff.mp ed
  obtain ⟨v, ev, rv⟩ := hr.get ep
  rw [ex] at ev; cases ev
  exact Rep.mono st.s.fr (fun _ q => .inr (.inr q)) (fun _ q => .inr (.inl q)) hF p x rv
theorem itm_tup {b : Bool} {a : Addr} {vs : List V} {xs : List P} (h : SqT K H a vs) (hr : Reps K (FF B et O) H xs vs) : Itm b K O (FF B et O) H et (xs.map D.d) (Itt K a) := by
  intro F2 et2 O2 H2 st hF he i
  have sq : SqT K H2 a vs := h.elim (fun q => .inl (st.fr.tup _ _ q)) .inr
  have hl := hr.length
  refine ⟨fun hi => ?_, fun hi => ⟨vs, sq, by rw [← hl]; simp at hi; omega⟩⟩
  have hi' : i < vs.length := by rw [← hl]; simpa using hi
  refine ⟨⟨vs, vs[i], sq, List.getElem?_eq_getElem hi'⟩, fun x H3 y => ?_⟩
  obtain ⟨rfl, y⟩ := y
  refine ⟨fun _ _ q => q, fun d ed => ?_⟩
  have ex : vs[i]? = some x := y vs sq
  rw [List.getElem?_map] at ed
  obtain ⟨p, ep, rfl⟩ := Option.map_eq_some_iff.mp ed
  obtain ⟨v, ev, rv⟩ := hr.get ep
  rw [ex] at ev; cases ev
  exact Rep.mono st.s.fr (fun _ q => .inr (.inr q)) (fun _ q => .inr (.inl q)) hF p x rv
theorem itm_range {b : Bool} {F : Addr → Prop} {lo : Int} {n : Nat} : Itm b K O F H et (ints0 lo n) (Itr lo n) := by
  intro F2 et2 O2 H2 st hF he i
  have hl : (ints0 lo n).length = n := by simp [ints0]
  refine ⟨fun hi => ⟨by rw [hl] at hi; exact hi, fun x H3 y => ?_⟩, fun hi => by rw [hl] at hi; exact Nat.le_of_eq hi.symm⟩
  obtain ⟨rfl, rfl⟩ := y
  refine ⟨fun _ _ q => q, fun d ed => ?_⟩
  rw [hl] at hi
  unfold ints0 at ed
  rw [List.getElem?_map, List.getElem?_range hi] at ed
  cases ed
  rfl
end
section
variable {X : Cx} {W : WX} {k : Nat} {e e' tg : Expr} {m m' : Ev} {pos p : Pos}
theorem pi_or {tg e : Expr} {t t' : TI} (h : PI X tg e t) (h' : PI X tg e t') : PI X tg e (fun σ H R => t σ H R ∨ t' σ H R) := ⟨fun pins s σ H R I q => q.elim (h.run pins s σ H R I) (h'.run pins s σ H R I)⟩
theorem si_seq {b : Bool} (h : SE X W e m) : SI b X W tg e (iSeq b m) := by
  refine pi_imp (pi_or (pi_list h) (pi_tup h)) fun σ H R ⟨B, et, O, env, g, rl, hq⟩ => ?_
  have hq : wG X.K X.mg B O env σ W _ et H ((m env g).bind fun d g1 => match d with
    | .d (.list xs) => .ok (xs.map D.d) g1
    | .d (.tuple xs) => .ok (xs.map D.d) g1
    | .bor (.list xs) => if b then .stuck else .ok (xs.map D.d) g1
    | _ => .stuck) R := hq
  by_cases c : ∃ xs g1, m env g = .ok (.d (.tuple xs)) g1
  · refine .inr ⟨B, et, O, env, g, rl, wG.bind hq fun d1 g1 v1 H1 e1 ee rl1 fr1 r1 h1 => ?_⟩
    obtain ⟨xs, g2, ex⟩ := c
    rw [ex] at ee; cases ee
    obtain ⟨a, vs, rfl, q1, q2⟩ := r1
    exact ⟨a, rfl, ⟨vs, q1⟩, h1.here rl1 (itm_tup q1 q2)⟩
  · refine .inl ⟨B, et, O, env, g, rl, wG.bind hq fun d1 g1 v1 H1 e1 ee rl1 fr1 r1 h1 => ?_⟩
    split at h1
    · obtain ⟨a, vs, rfl, q1, q2, q3⟩ := r1
      exact ⟨a, rfl, ⟨vs, .inl (.inl q1)⟩, h1.here rl1 (itm_list q1 (fun z => q2 (.inr (.inl z))) (fun _ z => q2 (.inr (.inr z))) q3)⟩
    · exact absurd ⟨_, _, ee⟩ c
    · split at h1
      · exact h1.elim
      · rename_i hb
        obtain ⟨a, vs, rfl, q1, q2, q3⟩ := r1
        exact ⟨a, rfl, ⟨vs, .inl (.inl q1)⟩, h1.here rl1 (itm_list q1 q2 (fun z => absurd z hb) q3)⟩
    · exact h1.elim
theorem si_range1 {b : Bool} (hm : X.mg "range" = none) (ha : SE X W e m) (hg : Gl X "range" := by rfl) (hs : starEach [e] X.env = [(false, eval e X.env)] := by rfl) : SI b X W tg (.Call (.Name "range" p) [e] [] pos) (iRange1 m) :=
  pi_imp (pi_range1 hg hm (pa_cons ha pa_nil hs) hs) fun σ H R ⟨B, et, O, env, g, rl, hq⟩ => ⟨B, et, O, env, g, rl, wG.bind hq fun d1 g1 v1 H1 e1 ee rl1 fr1 r1 h1 => by
    split at h1
    · split at h1
      · rename_i hz
        exact ⟨_, by rw [show v1 = V.int _ from r1], hz.1, hz.2, h1.here rl1 itm_range⟩
      · exact h1.elim
    · exact h1.elim⟩
theorem si_range2 {b : Bool} (hm : X.mg "range" = none) (ha : SE X W e m) (hb : SE X W e' m') (hg : Gl X "range" := by rfl) (hs : starEach [e, e'] X.env = [(false, eval e X.env), (false, eval e' X.env)] := by rfl) (hs2 : starEach [e'] X.env = [(false, eval e' X.env)] := by rfl) :
    SI b X W tg (.Call (.Name "range" p) [e, e'] [] pos) (iRange2 m m') :=
  pi_imp (pi_range2 hg hm (pa_cons ha (pa_cons hb pa_nil hs2) (by rw [hs, hs2])) hs hs2) fun σ H R ⟨B, et, O, env, g, rl, hq⟩ => ⟨B, et, O, env, g, rl, wG.bind hq fun d1 g1 v1 H1 e1 ee rl1 fr1 r1 h1 => ⟨B, e1, O, env, g1, rl1, wG.bind h1 fun d2 g2 v2 H2 e2 ee2 rl2 fr2 r2 h2 => by
    split at h2
    · split at h2
      · rename_i hz
        exact ⟨_, _, by rw [show v1 = V.int _ from r1, show v2 = V.int _ from r2], hz, h2.here rl2 itm_range⟩
      · exact h2.elim
    · exact h2.elim⟩⟩
end
/-! ### for -/
def forL (tg : Ptv) (b : Sv) : List D → Sv
  | [] => fun env g => .next env g
  | d :: ds => fun env g => if d.isB then .stuck else match tg d env with
    | some env1 => (b env1 g).seq (forL tg b ds)
    | none => .stuck
def sFor (m : Iv) (tg : Ptv) (b : Sv) : Sv := fun env g => (m env g).bindS fun ds g1 => forL tg b ds env g1
theorem forL_drop {tg : Ptv} {b : Sv} {ds : List D} {i : Nat} (h : i < ds.length) (env : En) (g : G) : forL tg b (ds.drop i) env g = (if (ds[i]).isB then RS.stuck else match tg ds[i] env with
    | some env1 => (b env1 g).seq (forL tg b (ds.drop (i + 1)))
    | none => .stuck) := by
  rw [List.drop_eq_getElem_cons h]; rfl
section
variable {X : Cx} {W : WX} {k : Nat} {iter tg : Expr} {body : List Stmt} {mi : Iv} {f : Ptv} {ts : List Nat} {mb : Sv} {pos : Pos}
theorem ss_for (c : Cxt X W k) (hi : SI true X W tg iter mi) (hg : SP X tg ts f) (hb : SSs X W body mb) (hs : ∀ x, foldedSetIterable iter X.env x = pure x := by intro _; rfl) : SS X W (.For tg iter body [] pos) (sFor mi f mb) :=
  ps_imp (ps_for c.po c.calm hi hg hb hs) fun D σ H ⟨B, et, O, env, g, rl, h⟩ => ⟨B, et, O, env, g, rl, wS.bind h fun ds g1 J H1 e1 _ rl1 fr1 it h1 => by
    refine ⟨fun i m σ H => (m = ds.length - i ∧ i ≤ ds.length) ∧ ∃ et O2 env g, Rl X.K B et O2 env g σ H ∧ FrS O O2 e1 et H1 H ∧ wS X.K X.mg B W O2 et H (forL f mb (ds.drop i) env g) D, ⟨ds.length, ⟨by simp, Nat.zero_le _⟩, e1, O, env, g1, rl1, FrS.refl O e1 H1, h1⟩, ?_⟩
    rintro i m σ2 H2 ⟨⟨rfl, hle⟩, et2, O2, env2, g2, rl2, fs, h2⟩
    have go := it (FF B et2 O2) et2 O2 H2 ⟨fs.fr, fs.own⟩ (fun a q => FF.stepS fs q) (fun a q => .inr (.inl q)) i
    by_cases hlt : i < ds.length
    · refine .inr ⟨(go.1 hlt).1, fun σ' H' => ∃ et O3 env g, Rl X.K B et O3 env g σ' H' ∧ FrS O O3 e1 et H1 H' ∧ wS X.K X.mg B W O3 et H' (forL f mb (ds.drop (i + 1)) env g) D, fun σ' H' ⟨et, O3, env, g, q1, q2, q3⟩ => ⟨ds.length - (i + 1), by omega, ⟨rfl, hlt⟩, et, O3, env, g, q1, q2, q3⟩, fun x H3 hy => ?_⟩
      obtain ⟨sm, hx⟩ := (go.1 hlt).2 x H3 hy
      rw [forL_drop hlt] at h2
      by_cases hbr : (ds[i]).isB = true
      · rw [if_pos hbr] at h2; exact h2.elim
      · rw [if_neg hbr] at h2
        have rl3 := rl2.same sm
        have f3 : FrS O2 O2 et2 et2 H2 H3 := ⟨Fr.same sm, fun _ q => .inl q⟩
        split at h2
        · rename_i env3 e3
          refine ⟨B, et2, O2, env2, g2, ds[i], rl3, nb_ofB hbr, hx _ (List.getElem?_eq_getElem hlt), env3, e3, fun σ3 rl4 _ => ?_⟩
          refine ⟨B, et2, O2, env3, g2, rl4, ?_⟩
          have h3 := wS.pre h2 f3
          cases eb : mb env3 g2 with
          | stuck => rw [eb] at h3; exact h3
          | ret d g' => rw [eb] at h3; exact h3
          | err ex g' => rw [eb] at h3; exact h3
          | next env4 g4 =>
            rw [eb] at h3
            intro σ4 H4 e4 O4 rl5 f4
            exact ⟨e4, O4, env4, g4, rl5, (fs.trans f3).trans f4, wS.pre h3 f4⟩
        · exact h2.elim
    · have z := Nat.le_of_not_lt hlt
      refine .inl ⟨go.2 (Nat.le_antisymm hle z), ?_⟩
      rw [List.drop_eq_nil_of_le z] at h2
      exact h2.here rl2⟩
end
end Sim
set_option maxRecDepth 512
set_option Elab.async false
set_option linter.all false
set_option maxRecDepth 100000
set_option maxHeartbeats 4000000
namespace Sim
open PySem PySem.Spec PyProof.Rows L2
/-! ### comprehensions -/
def wipeE (env : En) : List Nat → En
  | [] => env
  | v :: vs => (wipeE env vs).set v .un
/-- nothing is raised within -/
def R.ne {α : Type} : R α → R α
  | .err _ _ => .stuck
  | r => r
def compL (tg : Ptv) (tt : Tv) (elt : Ev) (env0 : En) : List D → G → R (List P)
  | [], g => .ok [] g
  | d :: ds, g => if d.isB then .stuck else match tg d env0 with
    | some env => (tt env g).ne.bind fun b g1 => if b = true then (elt env g1).ne.bind fun y g2 => (match y with
        | .d p => (compL tg tt elt env0 ds g2).bind fun r g3 => .ok (p :: r) g3
        | _ => .stuck) else compL tg tt elt env0 ds g1
    | none => .stuck
theorem compL_drop {tg : Ptv} {tt : Tv} {elt : Ev} {env0 : En} {ds : List D} {i : Nat} (h : i < ds.length) (g : G) : compL tg tt elt env0 (ds.drop i) g = (if (ds[i]).isB then R.stuck else match tg ds[i] env0 with
    | some env => (tt env g).ne.bind fun b g1 => if b = true then (elt env g1).ne.bind fun y g2 => (match y with
        | .d p => (compL tg tt elt env0 (ds.drop (i + 1)) g2).bind fun r g3 => .ok (p :: r) g3
        | _ => .stuck) else compL tg tt elt env0 (ds.drop (i + 1)) g1
    | none => .stuck) := by
  rw [List.drop_eq_getElem_cons h]; rfl
def eComp (m : Iv) (tg : Ptv) (tt : Tv) (elt : Ev) (vs : List Nat) : Ev := fun env g => (m env g).bind fun ds g1 => if ds.length < sizeLine then (compL tg tt elt (wipeE env vs) ds g1).bind fun r g2 => .ok (.d (.list r)) g2 else .stuck
def tvYes : Tv := fun _ g => .ok true g
theorem newR_comp {m : Iv} {tg : Ptv} {tt : Tv} {elt : Ev} {vs : List Nat} : NewR (eComp m tg tt elt vs) := fun env g d g' e => by
  unfold eComp at e
  cases e1 : m env g with
  | stuck => rw [e1] at e; cases e
  | err _ _ => rw [e1] at e; cases e
  | ok ds g1 =>
    rw [e1] at e
    dsimp only [R.bind] at e
    split at e
    · cases e2 : compL tg tt elt (wipeE env vs) ds g1 with
      | stuck => rw [e2] at e; cases e
      | err _ _ => rw [e2] at e; cases e
      | ok r g2 => rw [e2] at e; cases e; exact .inl ⟨_, rfl⟩
    · cases e
section
variable {K : PySem.W.Frag} {B : Addr → Prop} {et et' O : List Addr} {env env2 : En} {g g' : G} {σ σ2 : L2.St} {H H' : Hp}
theorem Rl.wipe (r : Rl K B et O env g σ H) : ∀ (vs : List Nat), Rl K B et O (wipeE env vs) g (wipe σ vs) H
  | [] => r
  | v :: vs => (r.wipe vs).wipe1 v none
/-- the block's state back to the def's -/
theorem Rl.inner (r : Rl K B et O env g σ H) (fr : Fr [] et et' H H') (i : Rl K B et' O env2 g' σ2 H') : Rl K B et' O env g' σ H' :=
  ⟨i.cel, i.live, i.dB, i.dO, r.len, fun j s e => (r.slot j s e).fr fr (fun a h => (r.dO a h).1), r.sep⟩
theorem wipe_len (σ : L2.St) : ∀ vs : List Nat, (wipe σ vs).length = σ.length
  | [] => rfl
  | v :: vs => by show ((wipe σ vs).set v none).length = _; rw [List.length_set, wipe_len]
theorem wipe_get (σ : L2.St) : ∀ (vs : List Nat) (i : Nat), (wipe σ vs)[i]? = if i ∈ vs ∧ i < σ.length then some none else σ[i]?
  | [], i => by simp [wipe]
  | v :: vs, i => by
    show ((wipe σ vs).set v none)[i]? = _
    rw [List.getElem?_set, wipe_len, wipe_get σ vs i]
    by_cases q : v = i
    · subst q
      simp only [if_true, List.mem_cons, true_or, true_and]
      split
      · rfl
      · rename_i h; exact (List.getElem?_eq_none_iff.mpr (Nat.le_of_not_lt h)).symm
    · rw [if_neg q]
      have : i ≠ v := fun z => q z.symm
      simp only [List.mem_cons, this, false_or]
theorem wipe_agree {ts vs : List Nat} (a : Agree ts (wipe σ vs) σ2) (h : ∀ t ∈ ts, t ∈ vs) : wipe σ2 vs = wipe σ vs := by
  apply List.ext_getElem?
  intro i
  rw [wipe_get, wipe_get]
  have hl : σ2.length = σ.length := by rw [a.1, wipe_len]
  rw [hl]
  split
  · rfl
  · rename_i hn
    by_cases hi : i ∈ vs
    · have hlt : ¬ i < σ.length := fun q => hn ⟨hi, q⟩
      rw [List.getElem?_eq_none_iff.mpr (by rw [hl]; exact Nat.le_of_not_lt hlt), List.getElem?_eq_none_iff.mpr (Nat.le_of_not_lt hlt)]
    · rw [a.2 i (fun q => hi (h i q)), wipe_get, if_neg (fun q => hi q.1)]
end
section
variable {K : PySem.W.Frag} {B : Addr → Prop} {et et' e1 O : List Addr} {env env2 : En} {g g' : G} {σ σ2 : L2.St} {H H1 H' : Hp} {a : Addr}
theorem fr_updA (ha : ∃ vs, H a = some (.lst vs)) {o : HO} : Fr [a] et et H (upd H a o) := by
  obtain ⟨vs, ha⟩ := ha
  refine ⟨⟨[], by simp⟩, fun _ h => .inl h, fun x u e h1 h2 => ?_, fun x xs h => ?_, fun x h => ?_⟩
  · rw [upd_ne (fun q => h2 (by rw [q]; exact List.mem_cons_self))]; exact e
  · have : x ≠ a := fun q => noTup_lst ha xs (by rw [← q]; exact h)
    rcases h with h | ⟨u, h⟩
    · exact .inl (by rw [upd_ne this]; exact h)
    · exact .inr ⟨u, by rw [upd_ne this]; exact h⟩
  · by_cases q : x = a
    · rw [q, upd_same]; exact fun z => (nomatch z)
    · rw [upd_ne q]; exact h
theorem Reps.updB {ds : List P} {vs : List V} (h : Reps K (FF (BU B a) et O) H ds vs) (ha : ∃ vs, H a = some (.lst vs)) (o : HO) : Reps K (FF (BU B a) et O) (upd H a o) ds vs :=
  Reps.mono (O := [a]) (et := et) (fr_updA ha) (fun x q => .inl (.inr (List.mem_singleton.mp q))) (fun x q => .inr (.inl q)) (fun x q => .inl q) ds vs h
/-- a barred list is changed -/
theorem Rl.updB (r : Rl K (BU B a) et O env g σ H) (ha : ∃ vs, H a = some (.lst vs)) (o : HO) : Rl K (BU B a) et O env g σ (upd H a o) := by
  have f : Fr [a] et et H (upd H a o) := fr_updA ha
  have hO : ∀ x ∈ [a], FF (BU B a) et O x := fun x q => .inl (.inr (List.mem_singleton.mp q))
  have he : ∀ x ∈ et, FF (BU B a) et O x := fun x q => .inr (.inl q)
  refine ⟨⟨r.cel.nd, r.cel.len, fun n x ds h1 h2 => ?_⟩, fun x h => f.dom x (r.live x h), r.dB, r.dO, r.len, fun i s e => ?_, r.sep⟩
  · obtain ⟨vs, e, h3⟩ := r.cel.at_ n x ds h1 h2
    have : x ≠ a := fun q => r.dB a (.inr rfl) (by rw [← q]; exact List.mem_of_getElem? h1)
    exact ⟨vs, by rw [upd_ne this]; exact e, h3.updB ha o⟩
  · have z := r.slot i s e
    have ne : ∀ x ∈ O, x ≠ a := fun x h q => (r.dO x h).2 (.inr q)
    cases s with
    | un => trivial
    | sh d => obtain ⟨n, v, e1, r1⟩ := z; exact ⟨n, v, e1, RepD.mono f hO he (fun x q => .inl q) d v (.inr n) r1⟩
    | own d =>
      cases d with
      | list ds => obtain ⟨y, vs, e1, my, h1, h2⟩ := z; exact ⟨y, vs, e1, my, by rw [upd_ne (ne y my)]; exact h1, h2.updB ha o⟩
      | dict ds => obtain ⟨y, vs, e1, my, h1, h2⟩ := z; exact ⟨y, vs, e1, my, by rw [upd_ne (ne y my)]; exact h1, RepKv.mono f hO he (fun x q => .inl q) ds vs h2⟩
      | _ => exact z.elim
theorem Fr.updN (f : Fr [] e1 et H1 H) (h : H1 a = none) (ha : ∃ vs, H a = some (.lst vs)) (o : HO) : Fr [] e1 et H1 (upd H a o) := by
  obtain ⟨vs, ha⟩ := ha
  refine ⟨f.ext, f.new, fun x u e q1 q2 => ?_, fun x xs q => ?_, fun x q => ?_⟩
  · rw [upd_ne (fun z => by rw [z, h] at e; cases e)]; exact f.keep x u e q1 q2
  · have : x ≠ a := fun z => by rw [z] at q; rcases q with q | ⟨u, q⟩ <;> (rw [h] at q; cases q)
    rcases f.tup x xs q with q | ⟨u, q⟩
    · exact .inl (by rw [upd_ne this]; exact q)
    · exact .inr ⟨u, by rw [upd_ne this]; exact q⟩
  · by_cases z : x = a
    · rw [z, upd_same]; exact fun z => (nomatch z)
    · rw [upd_ne z]; exact f.dom x q
end
section
variable {X : Cx} {W : WX} {k : Nat} {iter tg elt : Expr} {ifs : List Expr} {scope : Scope} {own : List (Str × Nat)} {mi : Iv} {f : Ptv} {ts : List Nat} {tt : Tv} {me : Ev} {pos : Pos}
/-- a clause's tests -/
def STs (X : Cx) (W : WX) (ifs : List Expr) (m : Tv) : Prop := PTs X ifs (mT X.K X.mg W m)
theorem pts_imp {ifs : List Expr} {t t' : TT} (h : PTs X ifs t) (hi : ∀ σ H Q, t' σ H Q → t σ H Q) : PTs X ifs t' := ⟨fun pins s σ H Q I q => h.run pins s σ H Q I (hi σ H Q q)⟩
theorem sts_nil : STs X W [] tvYes := pts_imp pts_nil fun σ H Q ⟨B, et, O, env, g, rl, h⟩ => h.here rl rfl
theorem sts_one {e : Expr} (h : ST X W e tt) : STs X W [e] tt := pts_one h
theorem ne_err {α : Type} {r : R α} {e : Exn} {g : G} : r.ne ≠ .err e g := by cases r <;> exact nofun
theorem compL_noErr {tt : Tv} {env0 : En} : ∀ (ds : List D) (g : G) (ex : Exn) (g' : G), compL f tt me env0 ds g ≠ .err ex g'
  | [], g, ex, g', h => (nomatch h)
  | d :: ds, g, ex, g', h => by
    unfold compL at h
    split at h
    · cases h
    · split at h
      · rename_i env1 _
        cases e1 : (tt env1 g).ne with
        | stuck => rw [e1] at h; cases h
        | err _ _ => exact ne_err e1
        | ok b g1 =>
          rw [e1] at h
          dsimp only [R.bind] at h
          split at h
          · cases e2 : (me env1 g1).ne with
            | stuck => rw [e2] at h; cases h
            | err _ _ => exact ne_err e2
            | ok y g2 =>
              rw [e2] at h
              dsimp only at h
              split at h
              · cases e3 : compL f tt me env0 ds g2 with
                | stuck => rw [e3] at h; cases h
                | err _ _ => exact compL_noErr ds g2 _ _ e3
                | ok r g3 => rw [e3] at h; cases h
              · cases h
          · exact compL_noErr ds g1 ex g' h
      · cases h
/-- what is wanted of the rest of the block -/
def CW (K : PySem.W.Frag) (B : Addr → Prop) (O : List Addr) (env : En) (σ : L2.St) (e1 : List Addr) (H1 : Hp) (Dn : Addr) (Q : VK) (r : R (List P)) (ps : List P) : Prop := match r with
  | .ok rest g3 => ∀ H' et' vs, Rl K (BU B Dn) et' O env g3 σ H' → Fr [] e1 et' H1 H' → H' Dn = some (.lst vs) → Reps K (FF (BU B Dn) et' O) H' (ps ++ rest) vs → Q (.ref Dn) H'
  | _ => False
theorem comp_of {vs : List Nat} (hts : ∀ t ∈ ts, t ∈ vs) {σ : L2.St} {H : Hp} {Q : VK} (h : mF X.K X.mg W (eComp mi f tt me vs) σ H Q) :
    tLc (mI false X.K X.mg W mi) (mP X.K ts f) (mT X.K X.mg W0 tt) (mE X.K X.mg W0 me) vs σ H Q := by
  obtain ⟨B, et, O, env, g, rl, h⟩ := h
  refine ⟨B, et, O, env, g, rl, wF.bind h fun ds g1 J H1 e1 ee rl1 fr1 it h1 Dn hD => ?_⟩
  split at h1
  rotate_left
  · exact h1.elim
  rename_i hz
  refine ⟨fun i m H2 => (m = ds.length - i ∧ i ≤ ds.length) ∧ ∃ et2 g2 acc ps, Rl X.K (BU B Dn) et2 O env g2 σ H2 ∧ Fr [] e1 et2 H1 H2 ∧ H2 Dn = some (.lst acc) ∧ acc.length ≤ i ∧ Reps X.K (FF (BU B Dn) et2 O) H2 ps acc ∧
      CW X.K B O env σ e1 H1 Dn Q (compL f tt me (wipeE env vs) (ds.drop i) g2) ps, ⟨ds.length, ⟨by simp, Nat.zero_le _⟩, e1, g1, [], [], rl1.addB hD _, Fr.same (same_new hD), upd_same, Nat.le_refl _, rfl, ?_⟩, ?_⟩
  · rw [List.drop_zero]
    cases e : compL f tt me (wipeE env vs) ds g1 with
    | stuck => rw [e] at h1; exact h1
    | err ex g3 => exact absurd e (compL_noErr ds g1 ex g3)
    | ok r g3 =>
      rw [e] at h1
      intro H' et' us q1 q2 q3 q4
      exact h1 Dn H' et' q1 q2 hD ⟨us, q3, q4⟩
  rintro i m H2 ⟨⟨rfl, hle⟩, et2, g2, acc, ps, rl2, fr2, eD, hl, hr, hc⟩
  have go := it (FF (BU B Dn) et2 O) et2 O H2 ⟨fr2, fun _ q => .inl q⟩ (fun a q => by
      rcases q with (q | q) | q | q
      · exact .inl (.inl q)
      · exact .inr (by rw [q]; exact hD)
      · exact (fr2.new a q).elim (fun z => .inl (.inr (.inl z))) .inr
      · exact .inl (.inr (.inr q))) (fun a q => .inr (.inl q)) i
  by_cases hlt : i < ds.length
  rotate_left
  · have z := Nat.le_of_not_lt hlt
    refine .inl ⟨go.2 (Nat.le_antisymm hle z), ?_⟩
    rw [List.drop_eq_nil_of_le z] at hc
    exact hc H2 et2 acc rl2 fr2 eD (by rw [List.append_nil]; exact hr)
  refine .inr ⟨(go.1 hlt).1, fun H' => ∃ et2 g2 acc ps, Rl X.K (BU B Dn) et2 O env g2 σ H' ∧ Fr [] e1 et2 H1 H' ∧ H' Dn = some (.lst acc) ∧ acc.length ≤ i + 1 ∧ Reps X.K (FF (BU B Dn) et2 O) H' ps acc ∧
      CW X.K B O env σ e1 H1 Dn Q (compL f tt me (wipeE env vs) (ds.drop (i + 1)) g2) ps, fun H' q => ⟨ds.length - (i + 1), by omega, ⟨rfl, hlt⟩, q⟩, fun x H3 hy => ?_⟩
  obtain ⟨sm, hx⟩ := (go.1 hlt).2 x H3 hy
  rw [compL_drop hlt] at hc
  by_cases hbr : (ds[i]).isB = true
  · rw [if_pos hbr] at hc; exact hc.elim
  rw [if_neg hbr] at hc
  split at hc
  rotate_left
  · exact hc.elim
  rename_i env3 e3
  have rl3 := rl2.same sm
  have fr3 : Fr [] e1 et2 H1 H3 := fr2.trans (Fr.same sm)
  have eD3 : H3 Dn = some (.lst acc) := sm _ _ eD
  have hr3 : Reps X.K (FF (BU B Dn) et2 O) H3 ps acc := hr.fr (Fr.same sm)
  have nD : ∀ {et : List Addr} {env : En} {g : G} {σ : L2.St} {H : Hp}, Rl X.K (BU B Dn) et O env g σ H → Dn ∉ et := fun r => r.dB Dn (.inr rfl)
  refine ⟨BU B Dn, et2, O, wipeE env vs, g2, ds[i], rl3.wipe vs, nb_ofB hbr, hx _ (List.getElem?_eq_getElem hlt), env3, e3, fun σ2 rl4 ag => ⟨wipe_agree ag hts, ?_⟩⟩
  refine ⟨BU B Dn, et2, O, env3, g2, rl4, ?_⟩
  cases et' : tt env3 g2 with
  | stuck => rw [et'] at hc; exact hc.elim
  | err ex g3 => rw [et'] at hc; exact hc.elim
  | ok b g3 =>
    rw [et'] at hc
    intro v H4 et4 rl5 fr5 eb
    have eb : b = v := eb
    subst eb
    have hc : CW X.K B O env σ e1 H1 Dn Q (if b = true then (me env3 g3).ne.bind fun y g2 => (match y with
        | .d p => (compL f tt me (wipeE env vs) (ds.drop (i + 1)) g2).bind fun r g3 => .ok (p :: r) g3
        | _ => .stuck) else compL f tt me (wipeE env vs) (ds.drop (i + 1)) g3) ps := hc
    have eD4 : H4 Dn = some (.lst acc) := fr5.keep _ _ eD3 (nD rl3) (fun q => (nomatch q))
    cases b with
    | false => exact ⟨et4, g3, acc, ps, rl3.inner fr5 rl5, fr3.trans fr5, eD4, Nat.le_succ_of_le hl, hr3.fr fr5, hc⟩
    | true =>
      rw [if_pos rfl] at hc ⊢
      refine ⟨BU B Dn, et4, O, env3, g3, rl5, ?_⟩
      cases ey : me env3 g3 with
      | stuck => rw [ey] at hc; exact hc.elim
      | err ex g4 => rw [ey] at hc; exact hc.elim
      | ok y g4 =>
        rw [ey] at hc
        intro v5 H5 et5 rl6 fr6 r6
        cases y with
        | d p =>
          have eD5 : H5 Dn = some (.lst acc) := fr6.keep _ _ eD4 (nD rl5) (fun q => (nomatch q))
          refine ⟨acc, eD5, by omega, et5, g4, acc ++ [v5], ps ++ [p], ?_, ?_, upd_same, by simp; omega, ?_, ?_⟩
          · exact (rl3.inner (fr5.trans fr6) rl6).updB ⟨_, eD5⟩ _
          · exact ((fr3.trans fr5).trans fr6).updN hD ⟨_, eD5⟩ _
          · exact Reps.updB (((hr3.fr fr5).fr fr6).append (Reps.one r6)) ⟨_, eD5⟩ _
          · cases er : compL f tt me (wipeE env vs) (ds.drop (i + 1)) g4 with
            | stuck => have hc : CW X.K B O env σ e1 H1 Dn Q ((compL f tt me (wipeE env vs) (ds.drop (i + 1)) g4).bind fun r g3 => .ok (p :: r) g3) ps := hc
                       rw [er] at hc; exact hc
            | err ex g5 => have hc : CW X.K B O env σ e1 H1 Dn Q ((compL f tt me (wipeE env vs) (ds.drop (i + 1)) g4).bind fun r g3 => .ok (p :: r) g3) ps := hc
                           rw [er] at hc; exact hc
            | ok r g5 =>
              have hc : CW X.K B O env σ e1 H1 Dn Q ((compL f tt me (wipeE env vs) (ds.drop (i + 1)) g4).bind fun r g3 => .ok (p :: r) g3) ps := hc
              rw [er] at hc
              intro H' et' us q1 q2 q3 q4
              exact hc H' et' us q1 q2 q3 (by rw [List.append_assoc] at q4; exact q4)
        | _ => exact hc.elim
/-- [elt for tg in iter if ..] -/
theorem sf_comp (c : Cxt X W k) (hi : SI false X W tg iter mi) (ok : BlkOk X.N X.env.scope scope own)
    (hg : ∀ (s : Shared) (H : Hp) (C : Addr) (cl : List (Str × Addr)) (fp : List Addr), Cxt (X.blk s H scope (compEnvC scope cl C X.env) fp) W0 k → SP (X.blk s H scope (compEnvC scope cl C X.env) fp) tg ts f)
    (ht : ∀ (s : Shared) (H : Hp) (C : Addr) (cl : List (Str × Addr)) (fp : List Addr), Cxt (X.blk s H scope (compEnvC scope cl C X.env) fp) W0 k → STs (X.blk s H scope (compEnvC scope cl C X.env) fp) W0 ifs tt)
    (he : ∀ (s : Shared) (H : Hp) (C : Addr) (cl : List (Str × Addr)) (fp : List Addr), Cxt (X.blk s H scope (compEnvC scope cl C X.env) fp) W0 k → SE (X.blk s H scope (compEnvC scope cl C X.env) fp) W0 elt me)
    (hts : ∀ t ∈ ts, t ∈ own.map (·.2) := by decide) (hs : ∀ x, foldedSetIterable iter X.env x = pure x := by intro _; rfl) :
    SF X W (.ListComp elt [⟨tg, iter, ifs, 0⟩] scope pos) (eComp mi f tt me (own.map (·.2))) :=
  ⟨pe_imp (pe_lc (g := mP X.K ts f) (tt := mT X.K X.mg W0 tt) (te := mE X.K X.mg W0 me) c.calm c.nd hi ok (fun s H C cl fp => hg s H C cl fp (c.blk s H scope _ fp)) (fun s H C cl fp => ht s H C cl fp (c.blk s H scope _ fp)) (fun s H C cl fp => he s H C cl fp (c.blk s H scope _ fp)) hs) fun σ H Q h => comp_of hts h, newR_comp⟩
/-- y = [..] on one line -/
theorem lcAsg {i : Nat} {y : Str} {py spos : Pos} (c : Cxt X W k) (hi : SI false X W tg iter mi) (ok : BlkOk X.N X.env.scope scope own)
    (hg : ∀ (s : Shared) (H : Hp) (C : Addr) (cl : List (Str × Addr)) (fp : List Addr), Cxt (X.blk s H scope (compEnvC scope cl C X.env) fp) W0 k → SP (X.blk s H scope (compEnvC scope cl C X.env) fp) tg ts f)
    (ht : ∀ (s : Shared) (H : Hp) (C : Addr) (cl : List (Str × Addr)) (fp : List Addr), Cxt (X.blk s H scope (compEnvC scope cl C X.env) fp) W0 k → STs (X.blk s H scope (compEnvC scope cl C X.env) fp) W0 ifs tt)
    (he : ∀ (s : Shared) (H : Hp) (C : Addr) (cl : List (Str × Addr)) (fp : List Addr), Cxt (X.blk s H scope (compEnvC scope cl C X.env) fp) W0 k → SE (X.blk s H scope (compEnvC scope cl C X.env) fp) W0 elt me)
    (hts : ∀ t ∈ ts, t ∈ own.map (·.2)) (hy : X.N[i]? = some y) (hyl : X.env.scope.names.lookup y = some .local) (hsw : swapsWith (.ListComp elt [⟨tg, iter, ifs, 0⟩] scope pos) (some (.Name y py)) spos.line X.env = pure true) (hs : ∀ x, foldedSetIterable iter X.env x = pure x) :
    PS X (.Assign [.Name y py] (.ListComp elt [⟨tg, iter, ifs, 0⟩] scope pos) spos) (tAsg (mF X.K X.mg W (eComp mi f tt me (own.map (·.2)))) (gName i)) :=
  ps_imp (ps_setLc (g := mP X.K ts f) (tt := mT X.K X.mg W0 tt) (te := mE X.K X.mg W0 me) c.calm c.nd hy hyl hsw hi ok (fun s H C cl fp => hg s H C cl fp (c.blk s H scope _ fp)) (fun s H C cl fp => ht s H C cl fp (c.blk s H scope _ fp)) (fun s H C cl fp => he s H C cl fp (c.blk s H scope _ fp)) hs) fun D σ H h => comp_of hts h
theorem ss_ownLc {i : Nat} {y : Str} {py spos : Pos} (c : Cxt X W k) (hi : SI false X W tg iter mi) (ok : BlkOk X.N X.env.scope scope own)
    (hg : ∀ (s : Shared) (H : Hp) (C : Addr) (cl : List (Str × Addr)) (fp : List Addr), Cxt (X.blk s H scope (compEnvC scope cl C X.env) fp) W0 k → SP (X.blk s H scope (compEnvC scope cl C X.env) fp) tg ts f)
    (ht : ∀ (s : Shared) (H : Hp) (C : Addr) (cl : List (Str × Addr)) (fp : List Addr), Cxt (X.blk s H scope (compEnvC scope cl C X.env) fp) W0 k → STs (X.blk s H scope (compEnvC scope cl C X.env) fp) W0 ifs tt)
    (he : ∀ (s : Shared) (H : Hp) (C : Addr) (cl : List (Str × Addr)) (fp : List Addr), Cxt (X.blk s H scope (compEnvC scope cl C X.env) fp) W0 k → SE (X.blk s H scope (compEnvC scope cl C X.env) fp) W0 elt me)
    (hts : ∀ t ∈ ts, t ∈ own.map (·.2) := by decide) (hy : X.N[i]? = some y := by rfl) (hyl : X.env.scope.names.lookup y = some .local := by rfl) (hsw : swapsWith (.ListComp elt [⟨tg, iter, ifs, 0⟩] scope pos) (some (.Name y py)) spos.line X.env = pure true := by exact sw_true rfl rfl rfl (by decide +kernel)) (hs : ∀ x, foldedSetIterable iter X.env x = pure x := by intro _; rfl) :
    SS X W (.Assign [.Name y py] (.ListComp elt [⟨tg, iter, ifs, 0⟩] scope pos) spos) (sOwn i (eComp mi f tt me (own.map (·.2)))) :=
  ps_imp (lcAsg c hi ok hg ht he hts hy hyl hsw hs) fun D σ H h => own_of newR_comp h
theorem asgF_of {i : Nat} {m : Ev} {D : Ends} {σ : L2.St} {H : Hp} (hn : NewR m) (h : mS X.K X.mg W (sAsg i m) D σ H) : tAsg (mF X.K X.mg W m) (gName i) D σ H := by
  obtain ⟨B, et, O, env, g, rl, h⟩ := h
  refine ⟨B, et, O, env, g, rl, ?_⟩
  unfold sAsg at h
  have nb : ∀ {a : Addr}, H a = none → ¬ B a := fun {a} q z => rl.live a (.inl z) q
  cases e1 : m env g with
  | stuck => rw [e1] at h; exact h
  | err ex g' =>
    rw [e1] at h
    intro cls od H' et' rl' fr ex'
    refine h cls od σ H' et' rl'.forget ⟨fr.weak fun x h => (nomatch h), fun _ h => (nomatch h)⟩ ?_
    obtain ⟨h1, h2⟩ := ex'
    refine ⟨h1, h2.imp id ?_⟩
    rintro ⟨dx, vs, e1, e2, e3, e4⟩
    exact ⟨dx, vs, e1, e2, e3, e4.weak fun a q => FF.mono (O := []) (fun _ z => z) (fun _ z => z) (fun _ z => by cases z) q⟩
  | ok d g' =>
    rw [e1] at h
    rcases hn _ _ _ _ e1 with ⟨ps, rfl⟩ | ⟨ps, rfl⟩
    · intro a H' et' q1 q2 q3 q4
      exact h _ H' et' O (q1.lessB.set i trivial (cont_rep q1 (nb q3) q4)) (FrS.ofE q2)
    · intro a H' et' q1 q2 q3 q4
      exact h _ H' et' O (q1.lessB.set i trivial (cont_rep q1 (nb q3) q4)) (FrS.ofE q2)
theorem ss_asgLc {i : Nat} {y : Str} {py spos : Pos} (c : Cxt X W k) (hi : SI false X W tg iter mi) (ok : BlkOk X.N X.env.scope scope own)
    (hg : ∀ (s : Shared) (H : Hp) (C : Addr) (cl : List (Str × Addr)) (fp : List Addr), Cxt (X.blk s H scope (compEnvC scope cl C X.env) fp) W0 k → SP (X.blk s H scope (compEnvC scope cl C X.env) fp) tg ts f)
    (ht : ∀ (s : Shared) (H : Hp) (C : Addr) (cl : List (Str × Addr)) (fp : List Addr), Cxt (X.blk s H scope (compEnvC scope cl C X.env) fp) W0 k → STs (X.blk s H scope (compEnvC scope cl C X.env) fp) W0 ifs tt)
    (he : ∀ (s : Shared) (H : Hp) (C : Addr) (cl : List (Str × Addr)) (fp : List Addr), Cxt (X.blk s H scope (compEnvC scope cl C X.env) fp) W0 k → SE (X.blk s H scope (compEnvC scope cl C X.env) fp) W0 elt me)
    (hts : ∀ t ∈ ts, t ∈ own.map (·.2) := by decide) (hy : X.N[i]? = some y := by rfl) (hyl : X.env.scope.names.lookup y = some .local := by rfl) (hsw : swapsWith (.ListComp elt [⟨tg, iter, ifs, 0⟩] scope pos) (some (.Name y py)) spos.line X.env = pure true := by exact sw_true rfl rfl rfl (by decide +kernel)) (hs : ∀ x, foldedSetIterable iter X.env x = pure x := by intro _; rfl) :
    SS X W (.Assign [.Name y py] (.ListComp elt [⟨tg, iter, ifs, 0⟩] scope pos) spos) (sAsg i (eComp mi f tt me (own.map (·.2)))) :=
  ps_imp (lcAsg c hi ok hg ht he hts hy hyl hsw hs) fun D σ H h => asgF_of newR_comp h
end
end Sim
set_option maxRecDepth 512
set_option Elab.async false
set_option linter.all false
set_option maxRecDepth 100000
set_option maxHeartbeats 4000000
namespace Sim
open PySem PySem.Spec PyProof.Rows L2
section
variable {X : Cx} {W : WX} {k : Nat} {e a b c : Expr} {es : List Expr} {m ma mb : Ev} {ms : Evs} {pos p p2 : Pos}
/-! isinstance -/
def tyP : P → String
  | .none => "NoneType"
  | .bool _ => "bool"
  | .int _ => "int"
  | .str _ => "str"
  | .list _ => "list"
  | .tuple _ => "tuple"
  | .dict _ => "dict"
def tyS : D → String
  | .d p => tyP p
  | .cell _ => "list"
  | .scr _ => "list"
  | .nest _ => "list"
  | .bor p => tyP p
theorem rep_ty {K : PySem.W.Frag} {F : Addr → Prop} {H : Hp} {d : P} {v : V} (r : Rep K F H d v) : TyX K H v (.type (tyP d)) := by
  cases d with
  | none => have r : v = .non := r; subst r; exact .base .non
  | bool b => have r : v = .bl b := r; subst r; exact .base (.bl b)
  | int b => have r : v = .int b := r; subst r; exact .base (.int b)
  | str b => have r : v = .str b := r; subst r; exact .base (.str b)
  | list ds => obtain ⟨a, vs, rfl, h1, _, _⟩ := r; exact .base (.lst h1)
  | dict ds =>
    obtain ⟨a, vs, rfl, h1, _, _⟩ := r
    rcases h1 with h1 | ⟨o, h1⟩
    · exact .base (.dK h1)
    · exact .fDict h1
  | tuple ds =>
    obtain ⟨a, vs, rfl, h1, _⟩ := r
    rcases h1 with (h1 | ⟨o, h1⟩) | ⟨o, its, n, h1, h2, _⟩
    · exact .base (.tup h1)
    · exact .fTuple h1
    · exact .kTuple h1 h2
theorem repD_ty {B : Addr → Prop} {et O : List Addr} {env : En} {g : G} {σ : L2.St} {K : PySem.W.Frag} {H : Hp} {d : D} {v : V} (rl : Rl K B et O env g σ H) (hc : ∀ n, d = .cell n → n < g.length) (r : RepD K (FF B et O) H et d v) : TyX K H v (.type (tyS d)) := by
  cases d with
  | d p => exact rep_ty r
  | cell n =>
    obtain ⟨a, rfl, h⟩ := r
    obtain ⟨vs, h1, _⟩ := rl.cel.at_ n a (g[n]'(hc n rfl)) h (List.getElem?_eq_getElem _)
    exact .base (.lst h1)
  | scr n =>
    obtain ⟨a, rfl, (⟨h | ⟨o, h⟩, _⟩ | ⟨o, its, n, h, h2, _⟩)⟩ := r
    · exact .base (.lst h)
    · exact .base (.frz h)
    · exact .kList h h2
  | nest n => obtain ⟨a, vs, rfl, h, _, _⟩ := r; exact .base (.lst h)
  | bor p =>
    cases p with
    | list ds => obtain ⟨a, vs, rfl, h, _, _⟩ := r; exact .base (.lst h)
    | dict ds => obtain ⟨a, vs, rfl, h, _, _⟩ := r; exact .base (.dK h)
    | _ => exact r.elim
def D.noC : D → Bool
  | .cell _ => false
  | _ => true
def eIsi (f : D → Bool) (m : Ev) : Ev := eUn (fun d g => if d.noC then .ok (.d (.bool (f d))) g else .stuck) m
def pInt : P → Bool
  | .int _ => true
  | .bool _ => true
  | _ => false
def pBool : P → Bool
  | .bool _ => true
  | _ => false
def pStr : P → Bool
  | .str _ => true
  | _ => false
def pTupl : P → Bool
  | .tuple _ => true
  | _ => false
def pList : P → Bool
  | .list _ => true
  | _ => false
def pDict : P → Bool
  | .dict _ => true
  | _ => false
/-- a test of a value's type -/
def onP (f : P → Bool) (l : Bool) : D → Bool
  | .d p => f p
  | .bor p => f p
  | _ => l
def isInt : D → Bool := onP pInt false
def isBool : D → Bool := onP pBool false
def isStr : D → Bool := onP pStr false
def isTup : D → Bool := onP pTupl false
def isLst : D → Bool := onP pList true
def isDic : D → Bool := onP pDict false
def KitT (T : String) (f : D → Bool) : Prop := ∀ d, kitB (tyS d) T = some (f d)
theorem kitP {T : String} {f : P → Bool} {l : Bool} (h1 : kitB "NoneType" T = some (f .none)) (h2 : ∀ b, f (.bool b) = f (.bool true)) (h2' : kitB "bool" T = some (f (.bool true))) (h3 : ∀ b, f (.int b) = f (.int 0)) (h3' : kitB "int" T = some (f (.int 0)))
    (h4 : ∀ b, f (.str b) = f (.str Str.empty)) (h4' : kitB "str" T = some (f (.str Str.empty))) (h5 : ∀ b, f (.list b) = f (.list [])) (h5' : kitB "list" T = some (f (.list []))) (h6 : ∀ b, f (.tuple b) = f (.tuple [])) (h6' : kitB "tuple" T = some (f (.tuple [])))
    (h7 : ∀ b, f (.dict b) = f (.dict [])) (h7' : kitB "dict" T = some (f (.dict []))) (h8 : l = f (.list [])) : KitT T (onP f l) := by
  have hp : ∀ p, kitB (tyP p) T = some (f p) := fun p => by
    cases p with
    | none => exact h1
    | bool b => rw [h2]; exact h2'
    | int b => rw [h3]; exact h3'
    | str b => rw [h4]; exact h4'
    | list b => rw [h5]; exact h5'
    | tuple b => rw [h6]; exact h6'
    | dict b => rw [h7]; exact h7'
  intro d
  cases d with
  | d p => exact hp p
  | bor p => exact hp p
  | cell n => rw [show onP f l (.cell n) = l from rfl, h8]; exact h5'
  | scr n => rw [show onP f l (.scr n) = l from rfl, h8]; exact h5'
  | nest n => rw [show onP f l (.nest n) = l from rfl, h8]; exact h5'
theorem kit_int : KitT "int" isInt := kitP (by decide +kernel) (fun _ => rfl) (by decide +kernel) (fun _ => rfl) (by decide +kernel) (fun _ => rfl) (by decide +kernel) (fun _ => rfl) (by decide +kernel) (fun _ => rfl) (by decide +kernel) (fun _ => rfl) (by decide +kernel) rfl
theorem kit_bool : KitT "bool" isBool := kitP (by decide +kernel) (fun _ => rfl) (by decide +kernel) (fun _ => rfl) (by decide +kernel) (fun _ => rfl) (by decide +kernel) (fun _ => rfl) (by decide +kernel) (fun _ => rfl) (by decide +kernel) (fun _ => rfl) (by decide +kernel) rfl
theorem kit_str : KitT "str" isStr := kitP (by decide +kernel) (fun _ => rfl) (by decide +kernel) (fun _ => rfl) (by decide +kernel) (fun _ => rfl) (by decide +kernel) (fun _ => rfl) (by decide +kernel) (fun _ => rfl) (by decide +kernel) (fun _ => rfl) (by decide +kernel) rfl
theorem kit_tup : KitT "tuple" isTup := kitP (by decide +kernel) (fun _ => rfl) (by decide +kernel) (fun _ => rfl) (by decide +kernel) (fun _ => rfl) (by decide +kernel) (fun _ => rfl) (by decide +kernel) (fun _ => rfl) (by decide +kernel) (fun _ => rfl) (by decide +kernel) rfl
theorem kit_lst : KitT "list" isLst := kitP (by decide +kernel) (fun _ => rfl) (by decide +kernel) (fun _ => rfl) (by decide +kernel) (fun _ => rfl) (by decide +kernel) (fun _ => rfl) (by decide +kernel) (fun _ => rfl) (by decide +kernel) (fun _ => rfl) (by decide +kernel) rfl
theorem kit_dic : KitT "dict" isDic := kitP (by decide +kernel) (fun _ => rfl) (by decide +kernel) (fun _ => rfl) (by decide +kernel) (fun _ => rfl) (by decide +kernel) (fun _ => rfl) (by decide +kernel) (fun _ => rfl) (by decide +kernel) (fun _ => rfl) (by decide +kernel) rfl
theorem se_isi {T : String} {x : Str} {f : D → Bool} (hk : KitT T f) (hm : X.mg "isinstance" = none) (hx : X.mg x = none) (ha : SE X W e m) (hg : Gl X "isinstance" := by rfl) (hgx : Gl X x := by rfl) (hvx : bootBuiltins x = some (.type T) := by decide +kernel)
    (hn : x ≠ "__name__" := by decide) (hd : (x == ("__debug__" : Str)) = false := by decide)
    (he : starEach [e, .Name x p2] X.env = (false, eval e X.env) :: starEach [.Name x p2] X.env := by rfl) (he2 : starEach [.Name x p2] X.env = (false, eval (.Name x p2) X.env) :: starEach [] X.env := by rfl) (hpl : (backTo pos (starEach [.Name x p2] X.env)).any (·.1) = false := by rfl) :
    SE X W (.Call (.Name "isinstance" p) [e, .Name x p2] [] pos) (eIsi f m) :=
  pe_imp (pe_callB (he := he) (hpl := hpl) call_isi hg hm (by decide +kernel) (pa_cons ha (pa_cons (pe_bltn (v := .ty T) hgx hx hvx rfl hn hd) pa_nil he2) he)) fun σ H Q ⟨B, et, O, env, g, rl, h⟩ => ⟨B, et, O, env, g, rl, wG.bind h fun d1 g1 v1 H1 e1 ee rl1 fr1 r1 h1 => by
    dsimp only at h1
    split at h1
    · rename_i hc
      exact ⟨v1, .ty T, .type (tyS d1), .type T, f d1, rfl, .ty T, repD_ty rl1 (fun n e => by subst e; cases hc) r1, kit_ty (hk d1), h1.here rl1 rfl⟩
    · exact h1.elim⟩
/-! repr -/
def reprOk (d : P) : Bool := d.canLay0 && d.showable && decide (d.depth ≤ 60) && decide (d.shown.length ≤ sizeLine)
def rReprD (K : PySem.W.Frag) : List V → Hp → VK → Prop := fun xs H Q => ∃ x d, xs = [x] ∧ Dp K H x d ∧ reprOk d = true ∧ Q (.str d.shown) H
theorem reprOk_parts {d : P} (hok : reprOk d = true) : d.canLay0 = true ∧ d.showable = true ∧ d.depth ≤ 60 ∧ d.shown.length ≤ sizeLine := by
  unfold reprOk at hok
  simp only [Bool.and_eq_true, decide_eq_true_eq] at hok
  exact ⟨hok.1.1.1, hok.1.1.2, hok.1.2, hok.2⟩
theorem cr_repr (c : Cxt X W k) : CallR X (.builtin "repr") (rReprD X.K) := by
  intro pins s σ H xs us Q I r h
  obtain ⟨x, d, rfl, dp, hok, q⟩ := h
  obtain ⟨h1, h2, h3, h4⟩ := reprOk_parts hok
  obtain ⟨u, rfl, ru⟩ := r.one
  have hu := c.hr.un
  have big : ∀ {a : Addr}, V.ref a = x → wpAny (model X.prog X.w) X.A (call (.builtin "repr") [.ref a]) (EP X pins σ Q) X.xe s := fun {a} e => by
    subst e
    obtain ⟨as, rd⟩ := Dp.reads I d _ _ dp rfl
    refine repr_of_reads' rd h2 (fun z => ?_) c.gd (by omega) (fun b o q => q) (fun h' u tk hk => ⟨.str d.shown, H, I.kept (t' := tk) hk, ⟨_, rfl⟩, q⟩) h4
    rw [PyData.hasDict_of_canLay d h1] at z; cases z
  cases dp with
  | non =>
    have ru : u = Value.none := ru
    subst ru
    exact PySem.P.repr_of_none ⟨.str _, H, I.tok _, ⟨_, rfl⟩, q⟩
  | bl b =>
    have ru : u = Value.bool b := ru
    subst ru
    exact PySem.P.repr_of_bool ⟨.str _, H, I.tok _, ⟨_, rfl⟩, q⟩
  | int i =>
    obtain ⟨t, rfl⟩ := ru
    exact PySem.P.repr_of_int (by simpa [PyData.showable] using h2) ⟨.str _, H, I.tok _, ⟨_, rfl⟩, q⟩
  | str z =>
    obtain ⟨t, rfl⟩ := ru
    exact PySem.P.repr_of_str ⟨.str _, H, I.tok _, ⟨_, rfl⟩, q⟩ h4
  | lst _ _ =>
    have ru : u = Value.ref _ := ru
    subst ru
    exact big rfl
  | tup _ _ =>
    have ru : u = Value.ref _ := ru
    subst ru
    exact big rfl
def fRepr : List D → M D
  | [x], g => match x.dat with
    | some d => if reprOk d then .ok (.d (.str d.shown)) g else .stuck
    | none => .stuck
  | _, _ => .stuck
theorem ok_repr : OkCall X W fRepr (rReprD X.K) := by
  intro B et O env g σ H xs ds Q rl rx h
  unfold fRepr at h
  split at h
  · split at h
    · rename_i ed
      split at h
      · rename_i hz
        obtain ⟨v, r, rfl, rv, rfl⟩ := rx
        exact ⟨v, _, rfl, dat_dp ed (reprOk_parts hz).1 rv, hz, h.here rl rfl⟩
      · exact h.elim
    · exact h.elim
  · exact h.elim
end
end Sim
set_option maxRecDepth 512
set_option Elab.async false
set_option linter.all false
set_option maxRecDepth 100000
set_option maxHeartbeats 4000000
namespace Sim
open PySem PySem.Spec PyProof.Rows L2
/-- a one-object heap: the script, known to the object -/
def scrH (a : Addr) (u : Obj) (ns : List Int) : Hp := fun b => if b = a then some (.frz u (.lst (ns.map V.int))) else none
theorem scrH_at {a : Addr} {u : Obj} {ns : List Int} : scrH a u ns a = some (.frz u (.lst (ns.map V.int))) := if_pos rfl
theorem scrH_out {a b : Addr} {u : Obj} {ns : List Int} (h : b ≠ a) : scrH a u ns b = none := if_neg h
section
variable {P : Program} {w : World} {K : PySem.W.Frag} {mg mb : Str → Option Value} {k : Nat} {fa a : Addr} {fd : FuncData} {x : Str} {fm : List D → M D} {s₁ : Shared} {vs : List Value} {ns : List Int}
/-- the law's call, where its function gives True -/
theorem law_runs (KX : K.In s₁.heap) (hns : s₁.heap.Ns mainGlobals mg) (hb : s₁.heap.Ns builtinsNs mb) (hbb : ∀ x : Str, x ≠ "__name__" → mb x = bootBuiltins x) (hlim : s₁.heap.NoLimit) (hg : s₁.gens = #[])
    (ha : s₁.heap.get? a = some { cls := .type "list", data := .seq vs.toArray }) (hi : IntsAre vs ns) (hl : ns.length ≤ sizeLine) (hr : Room k callerA)
    (F : ∀ base : Heap, K.In base → base.Ns mainGlobals mg → FnS P w K mg base k fa fd [x] fm) (hbind : ∀ (s : Shared) (u : Value), BindsTo s fd ⟨[u], []⟩ [(x, u)])
    (hv : ∃ g, fm [.scr ns] [] = .ok (.d (.bool true)) g) :
    codeAny (model P w) callerA (.call (.ref fa) ⟨[.ref a], []⟩) (fun r s' => r = .ok (.ret (.bool true)) ∧ OldK s₁.heap s'.heap ∧ s'.os = s₁.os ∧ AllBare s'.gens) s₁ := by
  have core : ∀ (H : Hp), (∀ b, b ≠ a → H b = none) → (∀ o, H a = some o → o = .frz { cls := .type "list", data := .seq vs.toArray } (.lst (ns.map V.int)) ∧ K.lookup a = none) → RepD K (FF B0 [] []) H [] (.scr ns) (.ref a) →
      codeAny (model P w) callerA (.call (.ref fa) ⟨[.ref a], []⟩) (fun r s' => r = .ok (.ret (.bool true)) ∧ OldK s₁.heap s'.heap ∧ s'.os = s₁.os ∧ AllBare s'.gens) s₁ := by
    intro H Hn Ha rp
    have hok : HOk P w H s₁.heap := fun b o e => by
      by_cases q : b = a
      · subst q
        obtain ⟨rfl, _⟩ := Ha o e
        exact ⟨ha, by rw [List.length_map]; exact hl, vs, 0, vals_ints hi, ha⟩
      · exact absurd ((Hn b q).symm.trans e) (fun z => nomatch z)
    have off : ∀ {b : Addr} {o : Obj}, s₁.heap.get? b = some o → H b = none → (hidT s₁.heap H).get? b = some o := fun e n => hidT_get e n
    have nsOff : ∀ {b : Addr} {m : Str → Option Value}, s₁.heap.Ns b m → (hidT s₁.heap H).Ns b m := fun {b m} ⟨o, es, ep, e, d, r⟩ => ⟨o, es, ep, off e (by
      by_cases q : b = a
      · subst q
        rw [ha] at e; cases e
        exact absurd d (fun z => nomatch z)
      · exact Hn b q), d, r⟩
    have kIn : K.In (hidT s₁.heap H) := fun b o e => off (KX b o e) (by
      by_cases q : b = a
      · subst q
        cases z : H b with
        | none => rfl
        | some y => rw [(Ha y z).2] at e; cases e
      · exact Hn b q)
    have md : Mod K mg (hidT s₁.heap H) := ⟨kIn, nsOff hns, ⟨mb, nsOff hb, hbb⟩, let ⟨mc, h1, h2⟩ := hlim; ⟨mc, nsOff h1, h2⟩⟩
    have e0 : Env0 P w K mg (hidT s₁.heap H) callerA [] s₁ H := ⟨rfl, md, fun b o e => of_hidT e, Nat.le_of_eq (hidT_size _ _), trivial, fun b hb => absurd hb (by simp [frs]), hok, .of_eq hg⟩
    obtain ⟨g, eg⟩ := hv
    have sp : spF K mg [x].length fm [.ref a] H (fun v _ => v = .bl true) (fun _ _ _ => False) := by
      refine ⟨rfl, B0, [], [], [.scr ns], rl0, fun d hd => ?_, ⟨.ref a, [], rfl, rp, rfl⟩, ?_⟩
      · rw [List.mem_singleton.mp hd]; trivial
      · rw [eg]; intro v H' et' _ _ r; exact r
    refine codeAny_mono ((F _ kIn (nsOff hns)).run callerA [] s₁ H ⟨[.ref a], []⟩ [.ref a] [.ref a] _ _ hr rfl e0 (hbind s₁ (.ref a)) (.cons rfl .nil) sp) fun r s' h => ?_
    match r, h with
    | .error e, h =>
      obtain ⟨_, _, _, _, _, _, _, _, _, _, _, _, z⟩ := h
      exact z.elim
    | .ok .next, h => exact False.elim h
    | .ok .brk, h => exact False.elim h
    | .ok .cont, h => exact False.elim h
    | .ok (.ret y), ⟨v, H', os, bare, un, hok', r', q⟩ =>
      have q : v = .bl true := q
      subst q
      have r' : y = Value.bool true := r'
      subst r'
      refine ⟨rfl, OldK.of_keep fun b o e => ?_, os, bare⟩
      by_cases hba : b = a
      · subst hba
        cases z : H b with
        | none => exact un.keep b o e z (by simp [frs]) (by simp)
        | some y =>
          obtain ⟨rfl, _⟩ := Ha y z
          obtain ⟨e1, _⟩ := hok _ _ z
          obtain ⟨e2, _⟩ := hok' _ _ (un.frzs _ _ _ z)
          rw [e] at e1; cases e1
          exact e2
      · exact un.keep b o e (Hn b hba) (by simp [frs]) (by simp)
  cases hk : K.lookup a with
  | none =>
    refine core (scrH a { cls := .type "list", data := .seq vs.toArray } ns) (fun b h => scrH_out h) (fun o e => ⟨?_, hk⟩) ⟨a, rfl, .inl ⟨.inr ⟨_, scrH_at⟩, ff0⟩⟩
    exact Option.some.inj (e.symm.trans scrH_at)
  | some o =>
    have e := KX a o hk
    rw [ha] at e
    cases e
    exact core (fun _ => none) (fun _ _ => rfl) (fun o z => nomatch z) ⟨a, rfl, .inr ⟨_, vs.toArray, _, hk, rfl, rfl, rfl, by rw [List.size_toArray, hi.length]; exact hl, by simpa using vals_ints hi⟩⟩
end
/-- what is known of the text stays apart from the script -/
theorem law_end {l : PySem.W.OpenLaw} {n k : Nat} {q : Program} {loose : List Str} {XP : (Str → Option Value) → Heap → Prop} {YP : World → Heap → Prop} {d : DefRec} {x : Str}
    (hn : l.most = some n) (hn2 : n ≤ sizeLine) (hdf : d.params.defaults = []) (hr : Room k callerA)
    (F : ∀ (w : World) (mg : Str → Option Value) (fa : Addr) (h : Heap), YP w h → h.Ns mainGlobals mg → mg d.name = some (.ref fa) →
      ∃ (K : PySem.W.Frag) (fd : FuncData) (fm : List D → M D), K.In h ∧ (∀ (s : Shared) (u : Value), BindsTo s fd ⟨[u], []⟩ [(x, u)]) ∧
        (∀ ns : List Int, ns.length ≤ n → ∃ g, fm [.scr ns] [] = .ok (.d (.bool true)) g) ∧
        ∀ base : Heap, K.In base → base.Ns mainGlobals mg → FnS l.prog w K mg base k fa fd [x] fm) :
    PySem.W.WalkO q loose XP YP l.row.toRowW d [] (fun f vs => PySem.call f vs) := by
  refine Att.attach_call hn hdf fun w s₀ s₁ mg mb fa o pm cd doc a vs ns G Y ho hd hcd hmg hobj hints hlen hg => ?_
  obtain ⟨K, fd, fm, KX, hb, hv, hF⟩ := F w mg fa _ Y G.T.g hmg
  exact law_runs KX G.T.g G.T.b G.T.builtins G.T.nolimit hg hobj hints (Nat.le_trans hlen hn2) hr hF hb (hv ns hlen)
end Sim
set_option maxRecDepth 512
set_option Elab.async false
set_option linter.all false
set_option maxRecDepth 100000
set_option maxHeartbeats 4000000
namespace Sim
open PySem PySem.Spec PyProof.Rows L2
/-! ### sources: a list or a tuple that is walked by its own iterator -/
inductive SKd where | L | T
def SkSq (k : SKd) (K : PySem.W.Frag) (H : Hp) (a : Addr) (xs : List V) : Prop := match k with | .L => SqL K H a xs | .T => SqT K H a xs
def SkIt (k : SKd) (h : Heap) (it a : Addr) (i : Nat) : Prop := match k with | .L => h.IsListIter it a i | .T => h.IsTupleIter it a i
def SkIs (k : SKd) (h : Heap) (a : Addr) (its : Array Value) : Prop := match k with | .L => h.IsList a its | .T => h.IsTuple a its
def skO (k : SKd) (a : Addr) : Obj := match k with | .L => { cls := .type "list_iterator", data := .fields #[.ref a, .int 0 0] } | .T => { cls := .type "tuple_iterator", data := .fields #[.ref a, .int 0 0] }
theorem sk_draws {prog : Program} {w : World} {A : Around} (hh : A.handled = none) (k : SKd) (it a : Addr) (hne : a ≠ it) (its : Array Value) :
    Draws prog w A it [it, a] its.size (fun i v => its[i]? = some v) (fun i h => SkIt k h it a i ∧ SkIs k h a its) := by
  cases k with
  | L => exact Draws.list hh it a hne its
  | T => exact Draws.tuple hh it a hne its
theorem sk_begins (k : SKd) (a : Addr) (its : Array Value) : Begins (.ref a) (skO k a) fun h => SkIs k h a its := by
  cases k with
  | L => exact begins_list a its
  | T => exact begins_tuple a its
theorem sk_it0 {k : SKd} {h : Heap} {it a : Addr} (e : h.get? it = some (skO k a)) : SkIt k h it a 0 := by
  cases k with
  | L => exact ⟨_, e, rfl, rfl⟩
  | T => exact ⟨_, e, rfl, rfl⟩
theorem SkIt.get {k : SKd} {h : Heap} {it a : Addr} {i : Nat} (s : SkIt k h it a i) : ∃ o, h.get? it = some o ∧ ∀ v, o.data ≠ .cell v := by
  cases k with
  | L => obtain ⟨o, e, _, d⟩ := s; exact ⟨o, e, fun v q => by rw [d] at q; cases q⟩
  | T => obtain ⟨o, e, _, d⟩ := s; exact ⟨o, e, fun v q => by rw [d] at q; cases q⟩
theorem SkIt.keep {k : SKd} {h h' : Heap} {it a : Addr} {i : Nat} (s : SkIt k h it a i) (hk : ∀ o, h.get? it = some o → h'.get? it = some o) : SkIt k h' it a i := by
  cases k with
  | L => obtain ⟨o, e, r⟩ := s; exact ⟨o, hk o e, r⟩
  | T => obtain ⟨o, e, r⟩ := s; exact ⟨o, hk o e, r⟩
section
variable {X : Cx} {pins : List (Addr × Obj)} {σ : L2.St} {H : Hp} {s : Shared}
theorem sk_inv {k : SKd} {a : Addr} {xs : List V} (I : Inv X pins σ H s) (h : SkSq k X.K H a xs) : ∃ its : List Value, Vals xs its ∧ SkIs k s.heap a its.toArray ∧ a < s.heap.objs.size := by
  cases k with
  | L =>
    obtain ⟨its, rv, p, _⟩ := I.list h
    exact ⟨its, rv, p.isList, p.lt⟩
  | T =>
    obtain ⟨its, rv, p, _⟩ := I.tuple h
    obtain ⟨o, ho, _⟩ := id p
    exact ⟨its, rv, show s.heap.IsTuple a its.toArray from p, Heap.lt_size ho⟩
theorem sk_inj {k : SKd} {a : Addr} {xs ys : List V} (I : Inv X pins σ H s) (h : SkSq k X.K H a xs) (h' : SkSq k X.K H a ys) : xs = ys := by
  cases k with
  | L => exact I.list_inj h h'
  | T => exact I.tuple_inj h h'
end
/-- two sources, in pairs -/
def Itzs (K : PySem.W.Frag) (k1 k2 : SKd) (a b : Addr) : It :=
  ⟨fun i H => ∃ (xs ys : List V) (x y : V), SkSq k1 K H a xs ∧ SkSq k2 K H b ys ∧ xs[i]? = some x ∧ ys[i]? = some y,
    fun i H v H' => ∃ T x y, v = .ref T ∧ H T = none ∧ H' = upd H T (.tup [x, y]) ∧ (∀ xs, SkSq k1 K H a xs → xs[i]? = some x) ∧ ∀ ys, SkSq k2 K H b ys → ys[i]? = some y,
    fun i H => ∃ xs ys : List V, SkSq k1 K H a xs ∧ SkSq k2 K H b ys ∧ i ≤ xs.length ∧ i ≤ ys.length ∧ (i = xs.length ∨ i = ys.length)⟩
theorem turn_zips {P : Program} {w : World} {K : PySem.W.Frag} {elts : List Expr} {kk : Nat} {tpos : Pos} {k1 k2 : SKd} {a b z TI TO i1 i2 : Addr} (S : ZipSep2 z TI TO i1 i2 [i1, a] [i2, b]) (n1 : a ≠ i1) (n2 : b ≠ i2) :
    Turn P w K (.Tuple elts kk tpos) (Itzs K k1 k2 a b) [z, TI, TO, i1, i2] z (fun i h => IsZip h z TI TO .none ∧ IsTupOf2 h TI (.ref i1) (.ref i2) ∧ (∃ x y, IsTupOf2 h TO x y) ∧ SkIt k1 h i1 a i ∧ SkIt k2 h i2 b i) where
  mem := by simp
  obj := fun i h st c hc => by
    obtain ⟨hz, hTI, ⟨x, y, hTO⟩, h1, h2⟩ := st
    have e' : c = z ∨ c = TI ∨ c = TO ∨ c = i1 ∨ c = i2 := by simpa using hc
    rcases e' with q | q | q | q | q
    · rw [q]; exact ⟨_, hz, fun v q => nomatch q⟩
    · rw [q]; exact ⟨_, hTI, fun v q => nomatch q⟩
    · rw [q]; exact ⟨_, hTO, fun v q => nomatch q⟩
    · rw [q]; exact h1.get
    · rw [q]; exact h2.get
  keep := fun i h h' st k => by
    obtain ⟨hz, hTI, ⟨x, y, hTO⟩, h1, h2⟩ := st
    exact ⟨k z (by simp) _ hz, k TI (by simp) _ hTI, ⟨x, y, k TO (by simp) _ hTO⟩, h1.keep fun o q => k i1 (by simp) o q, h2.keep fun o q => k i2 (by simp) o q⟩
  item := by
    intro X hP hw hK hc i pins s σ H E I hf st hg
    subst hP hw hK
    obtain ⟨hz, hTI, ⟨x0, y0, hTO⟩, h1, h2⟩ := st
    obtain ⟨xs, ys, x, y, hqx, hqy, hx, hy⟩ := hg
    obtain ⟨its, rv, p, _⟩ := sk_inv I hqx
    obtain ⟨its2, rv2, p2, _⟩ := sk_inv I hqy
    obtain ⟨u, hu, ru⟩ := rv.get hx
    obtain ⟨u2, hu2, ru2⟩ := rv2.get hy
    have hi1 : i < its.toArray.size := by simpa using (List.getElem?_eq_some_iff.mp hu).1
    have hi2 : i < its2.toArray.size := by simpa using (List.getElem?_eq_some_iff.mp hu2).1
    have hd : X.A.in1.handled = none := I.ok.hd hc
    have hzl : z < s.heap.objs.size := Heap.lt_size hz
    refine wpAny_pyNext_zipD2_item S (sk_draws hd k1 i1 a n1 its.toArray) (sk_draws hd k2 i2 b n2 its2.toArray) hz hTI hTO ⟨h1, p⟩ ⟨h2, p2⟩ hi1 hi2 fun x1 x2 h' tk e1 e2 z' TO' st1 st2 hT hsz hk => ?_
    have e1 : u = x1 := by
      have : its.toArray[i]? = some x1 := e1
      rw [List.getElem?_toArray, hu] at this; cases this; rfl
    have e2 : u2 = x2 := by
      have : its2.toArray[i]? = some x2 := e2
      rw [List.getElem?_toArray, hu2] at this; cases this; rfl
    subst e1 e2
    refine ⟨_, rfl, wpAny_letOwnedTupleGo_zip (s := { s with heap := h', toks := tk }) z' fun h'' z'' sb => ?_⟩
    have hT2 : h''.get? s.heap.objs.size = some { cls := .type "tuple", data := .seq #[u, u2] } := (sb.2 _ (Nat.ne_of_gt hzl)).trans hT
    have new : ObjOk X.prog X.w (upd H s.heap.objs.size (.tup [x, y])) h'' s.heap.objs.size (.tup [x, y]) :=
      ⟨by show 2 ≤ sizeLine; decide, [u, u2], .cons ru (.cons ru2 .nil), ⟨_, hT2, rfl, _, rfl⟩⟩
    have I1 : Inv X pins σ (upd H s.heap.objs.size (.tup [x, y])) { s with heap := h'', toks := tk } :=
      I.turnedNew (t' := tk) (ch := [z, TI, TO, i1, i2]) (fun c o hb q => (sb.2 c (fun q' => hb (by simp [q']))).trans (hk c o (fun q' => hb (by simp [q'])) (fun q' => hb (by simp [q'])) (fun q' => hb (by simp [q'])) (fun q' => hb (by simp [q'])) q)) hf (Nat.le_refl _) new
    refine ⟨.ref s.heap.objs.size, _, I1, rfl, ⟨_, x, y, rfl, I.hok.fresh (Nat.le_refl _), rfl, fun l hl => by rw [sk_inj I hl hqx]; exact hx, fun l hl => by rw [sk_inj I hl hqy]; exact hy⟩, ⟨z'', ?_, ⟨u, u2, ?_⟩, ?_, ?_⟩, fun c hcm => ?_⟩
    · exact (sb.2 _ S.TIz).trans (hk _ _ S.TIz S.TITO S.TIi1 S.TIi2 hTI)
    · exact (sb.2 _ S.TOz).trans TO'
    · exact st1.1.keep fun o q => (sb.2 _ (Ne.symm S.zi1)).trans q
    · exact st2.1.keep fun o q => (sb.2 _ (Ne.symm S.zi2)).trans q
    · have hlt : c < s.heap.objs.size := by
        have e' : c = z ∨ c = TI ∨ c = TO ∨ c = i1 ∨ c = i2 := by simpa using hcm
        rcases e' with q | q | q | q | q
        · rw [q]; exact hzl
        · rw [q]; exact Heap.lt_size hTI
        · rw [q]; exact Heap.lt_size hTO
        · rw [q]; obtain ⟨_, e1, _⟩ := h1.get; exact Heap.lt_size e1
        · rw [q]; obtain ⟨_, e2, _⟩ := h2.get; exact Heap.lt_size e2
      rw [upd_ne (Nat.ne_of_lt hlt)]
      exact (hf c hcm).1
  done := by
    intro X hP hw hK hc i pins s σ H E I hf st hg
    subst hP hw hK
    obtain ⟨hz, hTI, ⟨x0, y0, hTO⟩, h1, h2⟩ := st
    obtain ⟨xs, ys, hqx, hqy, hl1, hl2, hend⟩ := hg
    obtain ⟨its, rv, p, _⟩ := sk_inv I hqx
    obtain ⟨its2, rv2, p2, _⟩ := sk_inv I hqy
    have l1 := rv.length
    have l2 := rv2.length
    have hd : X.A.in1.handled = none := I.ok.hd hc
    refine wpAny_pyNext_zipD2_end S (sk_draws hd k1 i1 a n1 its.toArray) (sk_draws hd k2 i2 b n2 its2.toArray) hz hTI hTO ⟨h1, p⟩ ⟨h2, p2⟩ (by simp; omega) (by simp; omega) (by simp; omega) fun h' tk hk => ⟨rfl, I.turnedL (t' := tk) (ch := [z, TI, TO, i1, i2]) (fun c o hb q =>
      hk c o (fun q' => hb (by simp [q'])) (fun q' => hb (by simp [q'])) (fun q' => hb (by simp [q'])) (fun q' => hb (by simp [q'])) q) hf⟩
  self := fun A i s Q E st h => wpAny_pyIter_zip st.1 h
def iZips (K : PySem.W.Frag) (ta : TA) : TI := fun σ H R => ta σ H fun vs H1 => ∃ k1 k2 a b xs ys, vs = [.ref a, .ref b] ∧ SkSq k1 K H1 a xs ∧ SkSq k2 K H1 b ys ∧ R (Itzs K k1 k2 a b) H1
theorem pi_zips {X : Cx} {e e2 : Expr} {ta : TA} {p pos tpos : Pos} {elts : List Expr} {kk : Nat} (hg : Gl X "zip") (hm : X.mg "zip" = none) (ha : PA X [e, e2] ta)
    (hs : starEach [e, e2] X.env = (false, eval e X.env) :: starEach [e2] X.env := by rfl) (hpl : (backTo pos (starEach [e2] X.env)).any (·.1) = false := by rfl) :
    PI X (.Tuple elts kk tpos) (.Call (.Name "zip" p) [e, e2] [] pos) (iZips X.K ta) := by
  refine ⟨fun pins s σ H R I h => ?_⟩
  refine Call_ (ld_blt I hg hm PyProof.Rows.boot_zip (PyProof.Rows.callWith_type1 (thn (ha.run pos pins s σ H _ I h) fun us s1 ⟨vs, H1, I1, r1, q1⟩ => ?_) hs hpl))
  obtain ⟨k1, k2, a, b, xs, ys, ex, hqx, hqy, q⟩ := q1
  subst ex
  cases r1 with
  | cons r rr =>
    cases rr with
    | cons r' rr =>
      cases rr
      cases r
      cases r'
      obtain ⟨its, rv, p1, la⟩ := sk_inv I1 hqx
      obtain ⟨its2, rv2, p2, lb⟩ := sk_inv I1 hqy
      have fresh5 : ∀ c, c ∈ [s1.heap.objs.size + 4, s1.heap.objs.size + 2, s1.heap.objs.size + 3, s1.heap.objs.size, s1.heap.objs.size + 1] → FpOk X pins H1 c := fun c hcm => by
        have e' : c = s1.heap.objs.size + 4 ∨ c = s1.heap.objs.size + 2 ∨ c = s1.heap.objs.size + 3 ∨ c = s1.heap.objs.size ∨ c = s1.heap.objs.size + 1 := by simpa using hcm
        have hle : s1.heap.objs.size ≤ c := by
          rcases e' with z | z | z | z | z
          · rw [z]; exact Nat.le_add_right _ _
          · rw [z]; exact Nat.le_add_right _ _
          · rw [z]; exact Nat.le_add_right _ _
          · rw [z]; exact Nat.le_refl _
          · rw [z]; exact Nat.le_add_right _ _
        exact I1.fpOk hle (I1.hok.fresh hle)
      refine zip_begins2 (sk_begins k1 a its.toArray) (sk_begins k2 b its2.toArray) p1 p2 fun h' hz hTI hTO h1 h2 hsz hk => wpAny_pyIter_zip hz ?_
      have I2 : Inv X pins σ H1 { s1 with heap := h' } := I1.kept (t' := s1.toks) hk
      refine ⟨s1.heap.objs.size + 4, [s1.heap.objs.size + 4, s1.heap.objs.size + 2, s1.heap.objs.size + 3, s1.heap.objs.size, s1.heap.objs.size + 1], _, _, H1, rfl, I2, turn_zips (k1 := k1) (k2 := k2) (a := a) (b := b) (zip_sep2 (fp1 := [a]) (fp2 := [b]) (fun c hc => ?_) (fun c hc => ?_)) (Nat.ne_of_lt la) (Nat.ne_of_lt (Nat.lt_succ_of_lt lb)), ⟨hz, hTI, ⟨_, _, hTO⟩, sk_it0 h1, sk_it0 h2⟩, fresh5, q⟩
      · rw [List.mem_singleton.mp hc]; exact la
      · rw [List.mem_singleton.mp hc]; exact lb
/-- a source, each item with its place -/
def Ites (K : PySem.W.Frag) (k : SKd) (a : Addr) : It :=
  ⟨fun i H => ∃ (xs : List V) (x : V), SkSq k K H a xs ∧ xs[i]? = some x, fun i H v H' => ∃ T x, v = .ref T ∧ H T = none ∧ H' = upd H T (.tup [.int (i : Nat), x]) ∧ ∀ xs, SkSq k K H a xs → xs[i]? = some x, fun i H => ∃ xs : List V, SkSq k K H a xs ∧ xs.length = i⟩
theorem turn_enums {P : Program} {w : World} {K : PySem.W.Frag} {elts : List Expr} {kk : Nat} {tpos : Pos} {k : SKd} (a e it : Addr) (n1 : a ≠ it) (n2 : e ≠ a) :
    Turn P w K (.Tuple elts kk tpos) (Ites K k a) [e, it] e (fun i h => (∃ old, IsEnum h e it ((i : Nat) : Int) old) ∧ SkIt k h it a i ∧ e ≠ it) where
  mem := by simp
  obj := fun i h st b hb => by
    obtain ⟨⟨old, he⟩, hi, _⟩ := st
    have e' : b = e ∨ b = it := by simpa using hb
    rcases e' with z | z
    · rw [z]; exact ⟨_, he, fun v q => nomatch q⟩
    · rw [z]; exact hi.get
  keep := fun i h h' st k => let ⟨⟨old, he⟩, hi, hne⟩ := st; ⟨⟨old, k e (by simp) _ he⟩, hi.keep fun o q => k it (by simp) o q, hne⟩
  item := by
    intro X hP hw hK hc i pins s σ H E I hf st hg
    subst hP hw hK
    obtain ⟨⟨old, he⟩, hit, hne⟩ := st
    obtain ⟨xs, x, hq, hx⟩ := hg
    obtain ⟨its, rv, p, _⟩ := sk_inv I hq
    obtain ⟨u, hu, ru⟩ := rv.get hx
    have hi1 : i < its.toArray.size := by simpa using (List.getElem?_eq_some_iff.mp hu).1
    have hel : e < s.heap.objs.size := Heap.lt_size he
    have hil : it < s.heap.objs.size := by obtain ⟨_, q, _⟩ := hit.get; exact Heap.lt_size q
    have hd : X.A.in1.handled = none := I.ok.hd hc
    refine wpAny_pyNext_enum_itemD (sk_draws hd k it a n1 its.toArray) he ⟨hit, p⟩ hi1 hne (by simp [hne, n2]) fun x1 h' tk e1 ho st' hT hsz hk => ?_
    have e1 : u = x1 := by
      have : its.toArray[i]? = some x1 := e1
      rw [List.getElem?_toArray, hu] at this; cases this; rfl
    subst e1
    refine ⟨_, rfl, wpAny_letOwnedTupleGo_enum (s := { s with heap := h', toks := tk + 1 }) ho fun h'' he' sb => ?_⟩
    have hT2 : h''.get? s.heap.objs.size = some { cls := .type "tuple", data := .seq #[.int i tk, u] } := (sb.2 _ (Nat.ne_of_gt hel)).trans hT
    have new : ObjOk X.prog X.w (upd H s.heap.objs.size (.tup [.int (i : Nat), x])) h'' s.heap.objs.size (.tup [.int (i : Nat), x]) :=
      ⟨by show 2 ≤ sizeLine; decide, [.int i tk, u], .cons ⟨_, rfl⟩ (.cons ru .nil), ⟨_, hT2, rfl, _, rfl⟩⟩
    have I1 : Inv X pins σ (upd H s.heap.objs.size (.tup [.int (i : Nat), x])) { s with heap := h'', toks := tk + 1 } :=
      I.turnedNew (ch := [e, it]) (fun b ob hb q => (sb.2 b (fun z => hb (by simp [z]))).trans (hk b ob (fun z => hb (by simp [z])) (fun z => hb (by simp [z])) q)) hf (Nat.le_refl _) new
    refine ⟨.ref s.heap.objs.size, _, I1, rfl, ⟨_, x, rfl, I.hok.fresh (Nat.le_refl _), rfl, fun ys hy => by rw [sk_inj I hy hq]; exact hx⟩, ⟨⟨u, ?_⟩, st'.1.keep fun o q => (sb.2 it (Ne.symm hne)).trans q, hne⟩, fun b hb => ?_⟩
    · have e1 : ((i + 1 : Nat) : Int) = (i : Int) + 1 := by omega
      rw [e1]; exact he'
    · have hb' : b < s.heap.objs.size := by
        have e' : b = e ∨ b = it := by simpa using hb
        rcases e' with z | z
        · rw [z]; exact hel
        · rw [z]; exact hil
      rw [upd_ne (Nat.ne_of_lt hb')]
      exact (hf b hb).1
  done := by
    intro X hP hw hK hc i pins s σ H E I hf st hg
    subst hP hw hK
    obtain ⟨⟨old, he⟩, hit, hne⟩ := st
    obtain ⟨xs, hq, hx⟩ := hg
    obtain ⟨its, rv, p, hz⟩ := sk_inv I hq
    obtain ⟨f0, f1, f2, f3, f4, f5⟩ := hf it (by simp)
    have hl := rv.length
    have hd : X.A.in1.handled = none := I.ok.hd hc
    have hi : i = its.toArray.size := by simp; omega
    subst hi
    exact wpAny_pyNext_enum_endD (sk_draws hd k it a n1 its.toArray) he ⟨hit, p⟩ fun h' eb => ⟨rfl, I.turned (t' := s.toks) (fun b o hb q => eb b o hb q) f0 f1 f3 f4 f5⟩
  self := fun A i s Q E st h => let ⟨⟨_, he⟩, _⟩ := st; wpAny_pyIter_enum he h
def iEnums (K : PySem.W.Frag) (ta : TA) : TI := fun σ H R => ta σ H fun vs H1 => ∃ k a xs, vs = [.ref a] ∧ SkSq k K H1 a xs ∧ R (Ites K k a) H1
end Sim
namespace PySem
open Sem (wp)
theorem meets_enumerate_newB1 {v : Value} {o : Obj} {H : Heap → Prop} (B : Begins v o H) :
    Meets (Builtin.«enumerate.__new__» ⟨[.type "enumerate", v], []⟩) (fun _ R s => H s.heap ∧
      R (.ok (.ret (.ref (s.heap.push o).objs.size))) { s with heap := (s.heap.push o).push { cls := .type "enumerate", data := .fields #[.none, .bool false, .ref s.heap.objs.size, rawInt 0, .none, .none] } }) :=
  .of_wp fun prog w A R s h => by
    obtain ⟨hp, g, d, tk, os⟩ := s; obtain ⟨h1, h⟩ := h
    have hsub := sub_enumerate
    have q1 : ∀ {A' : Around} {E : Value → Shared → Prop} {Q : Value → Shared → Prop}, Q (.ref hp.objs.size) ⟨hp.push o, g, d, tk, os⟩ → wpAny (model prog w) A' (pyIter v) Q E ⟨hp, g, d, tk, os⟩ :=
      fun q => B.iter prog w _ _ ⟨hp, g, d, tk, os⟩ _ h1 q
    wp_walk using q1
    refine wpAny_stack_any fun st => wpAny_pure ?_
    split
    · rename_i c _ _ _ _ _
      cases (c == Value.type "enumerate")
      · wp_walk using q1
        exact ⟨_, rfl, h⟩
      · wp_walk using q1
        exact ⟨_, rfl, h⟩
    · wp_walk using q1
      exact ⟨_, rfl, h⟩
section
variable {prog : Program} {w : World} {A : Around} {E : Value → Shared → Prop} {s : Shared}
theorem enum_begins1 {v : Value} {o : Obj} {H : Heap → Prop} {Q : Value → Shared → Prop} (B : Begins v o H) (h1 : H s.heap)
    (h : ∀ h', IsEnum h' (s.heap.objs.size + 1) s.heap.objs.size 0 .none → h'.get? s.heap.objs.size = some o → h'.objs.size = s.heap.objs.size + 2 →
      (∀ b o, s.heap.get? b = some o → h'.get? b = some o) → Q (.ref (s.heap.objs.size + 1)) { s with heap := h' }) :
    wpAny (model prog w) A (call (.type "enumerate") [v]) Q E s := by
  refine callType_new F.called_enumerate (by decide) (F.typeCall_enumerate_1 _) (F.newCall_enumerate_1 _) (fun obj => F.args_object_init_2 obj _) F.entry_enumerate_new
    (meets_enumerate_newB1 B) ⟨h1, ?_⟩
  have hz : (s.heap.push o).objs.size = s.heap.objs.size + 1 := Heap.size_push ..
  show _ ∧ _
  rw [hz]
  have he : IsEnum ((s.heap.push o).push { cls := .type "enumerate", data := .fields #[.none, .bool false, .ref s.heap.objs.size, rawInt 0, .none, .none] }) (s.heap.objs.size + 1) s.heap.objs.size 0 .none := by
    have := Heap.get?_push_size (s.heap.push o) (o := { cls := .type "enumerate", data := .fields #[.none, .bool false, .ref s.heap.objs.size, rawInt 0, .none, .none] }) rfl
    rw [hz] at this; exact this
  refine ⟨⟨_, he, rfl⟩, h _ he (Heap.get?_push_of_some _ (Heap.get?_push_size _ B.free)) (by rw [Heap.size_push, hz]) fun b o x => Heap.get?_push_of_some _ (Heap.get?_push_of_some _ x)⟩
end
end PySem
namespace Sim
open PySem PySem.Spec PyProof.Rows L2
theorem pi_enums {X : Cx} {e : Expr} {ta : TA} {p pos tpos : Pos} {elts : List Expr} {kk : Nat} (hg : Gl X "enumerate") (hm : X.mg "enumerate" = none) (ha : PA X [e] ta) (hs : starEach [e] X.env = [(false, eval e X.env)] := by rfl) :
    PI X (.Tuple elts kk tpos) (.Call (.Name "enumerate" p) [e] [] pos) (iEnums X.K ta) := by
  refine ⟨fun pins s σ H R I h => ?_⟩
  refine Call_ (ld_blt I hg hm boot_enumerate (PyProof.Rows.callWith_type1 (thn (ha.run pos pins s σ H _ I h) fun us s1 ⟨vs, H1, I1, r1, q1⟩ => ?_) hs rfl))
  obtain ⟨k, a, xs, ex, hq, q⟩ := q1
  subst ex
  cases r1 with
  | cons r rr =>
    cases rr
    cases r
    obtain ⟨its, rv, p', la⟩ := sk_inv I1 hq
    refine enum_begins1 (sk_begins k a its.toArray) p' fun h' he hit hsz hk => wpAny_pyIter_enum he ?_
    have I2 : Inv X pins σ H1 { s1 with heap := h' } := I1.kept (t' := s1.toks) hk
    refine ⟨s1.heap.objs.size + 1, [s1.heap.objs.size + 1, s1.heap.objs.size], _, _, H1, rfl, I2, turn_enums (k := k) a (s1.heap.objs.size + 1) s1.heap.objs.size (Nat.ne_of_lt la) (Nat.ne_of_gt (Nat.lt_succ_of_lt la)), ⟨⟨.none, he⟩, sk_it0 hit, Nat.succ_ne_self _⟩, fun b hb => ?_, q⟩
    have e' : b = s1.heap.objs.size + 1 ∨ b = s1.heap.objs.size := by simpa using hb
    have hle : s1.heap.objs.size ≤ b := by
      rcases e' with z | z
      · rw [z]; exact Nat.le_add_right _ _
      · rw [z]; exact Nat.le_refl _
    exact I1.fpOk hle (I1.hok.fresh hle)
/-! ### on this layer -/
/-- the items of a list or a tuple -/
def seqOf (b : Bool) : D → Option (List P)
  | .d (.list xs) => some xs
  | .d (.tuple xs) => some xs
  | .bor (.list xs) => if b then none else some xs
  | _ => none
def zipD (xs ys : List P) : List D := List.zipWith (fun x y => D.d (.tuple [x, y])) xs ys
def enumD (xs : List P) : List D := xs.zipIdx.map fun p => D.d (.tuple [.int (p.2 : Nat), p.1])
def iZip2 (b : Bool) (m m' : Ev) : Iv := fun env g => (m env g).bind fun d g1 => (m' env g1).bind fun d' g2 => match seqOf b d, seqOf b d' with
  | some xs, some ys => .ok (zipD xs ys) g2
  | _, _ => .stuck
def iEnum1 (b : Bool) (m : Ev) : Iv := fun env g => (m env g).bind fun d g1 => match seqOf b d with
  | some xs => .ok (enumD xs) g1
  | _ => .stuck
/-- a list or tuple as a source that stays -/
structure Src (b : Bool) (K : PySem.W.Frag) (et O : List Addr) (F : Addr → Prop) (H : Hp) (k : SKd) (a : Addr) (xs : List P) (vs : List V) : Prop where
  sq : SkSq k K H a vs
  rp : Reps K F H xs vs
  st : ∀ {et2 O2 : List Addr} {H2 : Hp}, Stp b O O2 et et2 H H2 → SkSq k K H2 a vs
section
variable {K : PySem.W.Frag} {B : Addr → Prop} {et O : List Addr} {H : Hp} {b : Bool}
theorem src_of {d : D} {xs : List P} {v : V} (e : seqOf b d = some xs) (h : RepD K (FF B et O) H et d v) : ∃ k a vs, v = .ref a ∧ Src b K et O (FF B et O) H k a xs vs := by
  have lst : ∀ {a : Addr} {vs : List V}, H a = some (.lst vs) → a ∉ et → (b = true → a ∉ O) → Reps K (FF B et O) H xs vs → Src b K et O (FF B et O) H .L a xs vs := fun {a vs} h1 ne no hr =>
    ⟨.inl (.inl h1), hr, fun {et2 O2 H2} st => by
      have hO : a ∉ (if b = true then O else []) := by
        cases b with
        | true => exact no rfl
        | false => exact fun q => (nomatch q)
      exact .inl (.inl (st.fr.keep a _ h1 ne hO))⟩
  unfold seqOf at e
  split at e
  · cases e
    obtain ⟨a, vs, rfl, q1, q2, q3⟩ := h
    exact ⟨.L, a, vs, rfl, lst q1 (fun z => q2 (.inr (.inl z))) (fun _ z => q2 (.inr (.inr z))) q3⟩
  · cases e
    obtain ⟨a, vs, rfl, q1, q2⟩ := h
    exact ⟨.T, a, vs, rfl, q1, q2, fun {et2 O2 H2} st => q1.elim (fun q => .inl (st.fr.tup _ _ q)) .inr⟩
  · split at e
    · cases e
    · rename_i hb
      cases e
      obtain ⟨a, vs, rfl, q1, q2, q3⟩ := h
      exact ⟨.L, a, vs, rfl, lst q1 q2 (fun z => absurd z hb) q3⟩
  · cases e
theorem Src.fr {k : SKd} {a : Addr} {xs : List P} {vs : List V} {et' : List Addr} {H' : Hp} (s : Src b K et O (FF B et O) H k a xs vs) (fr : Fr [] et et' H H') : Src b K et' O (FF B et' O) H' k a xs vs := by
  have hn : ∀ a, FF B et' O a → FF B et O a ∨ H a = none := fun a q => by
    rcases q with q | q | q
    · exact .inl (.inl q)
    · exact (fr.new a q).imp (fun z => .inr (.inl z)) id
    · exact .inl (.inr (.inr q))
  refine ⟨s.st ⟨fr.weak fun x h => (nomatch h), fun a h => .inl h⟩, Reps.mono fr (fun _ q => (nomatch q)) (fun _ q => .inr (.inl q)) hn _ _ s.rp, fun {et2 O2 H2} st => s.st (O2 := O2) ⟨(fr.weak fun x h => (nomatch h)).trans st.fr, fun a h => (st.own a h).imp id fun q => Classical.byContradiction fun z => fr.dom a z q⟩⟩
theorem Src.item {k : SKd} {a : Addr} {xs : List P} {vs : List V} {F2 : Addr → Prop} {et2 O2 : List Addr} {H2 H3 : Hp} (s : Src b K et O (FF B et O) H k a xs vs) (st : Stp b O O2 et et2 H H2) (hF : ∀ a, F2 a → FF B et O a ∨ H a = none) (sm : Same H2 H3) (he : ∀ a ∈ et2, F2 a)
    {i : Nat} {p : P} {x : V} (ep : xs[i]? = some p) (ex : vs[i]? = some x) : Rep K F2 H3 p x := by
  obtain ⟨v, ev, rv⟩ := s.rp.get ep
  rw [ex] at ev; cases ev
  have r2 : Rep K F2 H2 p x := Rep.mono st.s.fr (fun _ q => .inr (.inr q)) (fun _ q => .inr (.inl q)) hF p x rv
  exact Rep.mono (et := et2) (et' := et2) (O := []) (Fr.same sm) (fun _ q => (nomatch q)) he (fun a q => .inl q) p x r2
theorem itm_zip {k1 k2 : SKd} {a c : Addr} {xs ys : List P} {vs us : List V} (s1 : Src b K et O (FF B et O) H k1 a xs vs) (s2 : Src b K et O (FF B et O) H k2 c ys us) : Itm b K O (FF B et O) H et (zipD xs ys) (Itzs K k1 k2 a c) := by
  intro F2 et2 O2 H2 st hF he i
  have l1 := s1.rp.length
  have l2 := s2.rp.length
  have hl : (zipD xs ys).length = min xs.length ys.length := by unfold zipD; simp
  have q1 := s1.st st
  have q2 := s2.st st
  refine ⟨fun hi => ?_, fun hi => ?_⟩
  · have hi1 : i < vs.length := by omega
    have hi2 : i < us.length := by omega
    refine ⟨⟨vs, us, vs[i], us[i], q1, q2, List.getElem?_eq_getElem hi1, List.getElem?_eq_getElem hi2⟩, fun x H3 y => ?_⟩
    obtain ⟨T, x', y', rfl, hT, rfl, e1, e2⟩ := y
    have sm : Same H2 (upd H2 T (.tup [x', y'])) := same_new hT
    refine ⟨sm, fun d ed => ?_⟩
    have hx1 : i < xs.length := by omega
    have hy1 : i < ys.length := by omega
    have ed' : d = D.d (.tuple [xs[i], ys[i]]) := by
      unfold zipD at ed
      rw [List.getElem?_zipWith, List.getElem?_eq_getElem hx1, List.getElem?_eq_getElem hy1] at ed
      cases ed; rfl
    subst ed'
    exact ⟨T, _, rfl, .inl (.inl upd_same), _, _, rfl, s1.item st hF sm he (List.getElem?_eq_getElem hx1) (e1 _ q1), _, _, rfl, s2.item st hF sm he (List.getElem?_eq_getElem hy1) (e2 _ q2), rfl⟩
  · refine ⟨vs, us, q1, q2, by omega, by omega, by omega⟩
theorem itm_enum {k1 : SKd} {a : Addr} {xs : List P} {vs : List V} (s1 : Src b K et O (FF B et O) H k1 a xs vs) : Itm b K O (FF B et O) H et (enumD xs) (Ites K k1 a) := by
  intro F2 et2 O2 H2 st hF he i
  have l1 := s1.rp.length
  have hl : (enumD xs).length = xs.length := by unfold enumD; simp
  have q1 := s1.st st
  refine ⟨fun hi => ?_, fun hi => ⟨vs, q1, by omega⟩⟩
  have hi1 : i < vs.length := by omega
  refine ⟨⟨vs, vs[i], q1, List.getElem?_eq_getElem hi1⟩, fun x H3 y => ?_⟩
  obtain ⟨T, x', rfl, hT, rfl, e1⟩ := y
  have sm : Same H2 (upd H2 T (.tup [.int (i : Nat), x'])) := same_new hT
  refine ⟨sm, fun d ed => ?_⟩
  have hx1 : i < xs.length := by omega
  have ed' : d = D.d (.tuple [.int (i : Nat), xs[i]]) := by
    unfold enumD at ed
    rw [List.getElem?_map, List.getElem?_zipIdx, List.getElem?_eq_getElem hx1] at ed
    simp at ed
    exact ed.symm
  subst ed'
  exact ⟨T, _, rfl, .inl (.inl upd_same), _, _, rfl, rfl, _, _, rfl, s1.item st hF sm he (List.getElem?_eq_getElem hx1) (e1 _ q1), rfl⟩
end
section
variable {X : Cx} {W : WX} {k : Nat} {e e' tg : Expr} {m m' : Ev} {pos p : Pos}
theorem si_zip {b : Bool} {elts : List Expr} {kk : Nat} {tpos : Pos} (hm : X.mg "zip" = none) (ha : SE X W e m) (hb : SE X W e' m') (hg : Gl X "zip" := by rfl) (hs : starEach [e, e'] X.env = (false, eval e X.env) :: starEach [e'] X.env := by rfl) (hs2 : starEach [e'] X.env = [(false, eval e' X.env)] := by rfl) (hpl : (backTo pos (starEach [e'] X.env)).any (·.1) = false := by rfl) :
    SI b X W (.Tuple elts kk tpos) (.Call (.Name "zip" p) [e, e'] [] pos) (iZip2 b m m') :=
  pi_imp (pi_zips hg hm (pa_cons ha (pa_cons hb pa_nil hs2) hs) hs hpl) fun σ H R ⟨B, et, O, env, g, rl, hq⟩ => ⟨B, et, O, env, g, rl, wG.bind hq fun d1 g1 v1 H1 e1 ee rl1 fr1 r1 h1 => ⟨B, e1, O, env, g1, rl1, wG.bind h1 fun d2 g2 v2 H2 e2 ee2 rl2 fr2 r2 h2 => by
    split at h2
    · rename_i xs ys q1 q2
      obtain ⟨k1, a, vs, rfl, s1⟩ := src_of q1 r1
      obtain ⟨k2, c, us, rfl, s2⟩ := src_of q2 r2
      have s1' := s1.fr fr2
      exact ⟨k1, k2, a, c, vs, us, rfl, s1'.sq, s2.sq, h2.here rl2 (itm_zip s1' s2)⟩
    · exact h2.elim⟩⟩
theorem si_enum {b : Bool} {elts : List Expr} {kk : Nat} {tpos : Pos} (hm : X.mg "enumerate" = none) (ha : SE X W e m) (hg : Gl X "enumerate" := by rfl) (hs : starEach [e] X.env = [(false, eval e X.env)] := by rfl) :
    SI b X W (.Tuple elts kk tpos) (.Call (.Name "enumerate" p) [e] [] pos) (iEnum1 b m) :=
  pi_imp (pi_enums hg hm (pa_cons ha pa_nil hs) hs) fun σ H R ⟨B, et, O, env, g, rl, hq⟩ => ⟨B, et, O, env, g, rl, wG.bind hq fun d1 g1 v1 H1 e1 ee rl1 fr1 r1 h1 => by
    split at h1
    · rename_i xs q1
      obtain ⟨k1, a, vs, rfl, s1⟩ := src_of q1 r1
      exact ⟨k1, a, vs, rfl, s1.sq, h1.here rl1 (itm_enum s1)⟩
    · exact h1.elim⟩
end
end Sim
set_option maxRecDepth 512
set_option Elab.async false
set_option linter.all false
set_option maxRecDepth 100000
set_option maxHeartbeats 4000000
namespace Sim
open PySem PySem.Spec PyProof.Rows L2
/-! ### x in xs -/
def fInB (neg b : Bool) : Bool := if neg then !b else b
def fIn (neg : Bool) (x y : D) : M D := fun g => match x.dat with
  | none => .stuck
  | some px => match y with
    | .d (.list xs) => if SeqAt.shaped px = true ∧ SeqAt.shaped (.list xs) = true then .ok (.d (.bool (fInB neg (xs.any fun z => PyData.eqv z px)))) g else .stuck
    | .bor (.list xs) => if SeqAt.shaped px = true ∧ SeqAt.shaped (.list xs) = true then .ok (.d (.bool (fInB neg (xs.any fun z => PyData.eqv z px)))) g else .stuck
    | .d (.tuple xs) => if pFlat px = true ∧ xs.all pFlat = true then .ok (.d (.bool (fInB neg (xs.any fun z => PyData.eqv z px)))) g else .stuck
    | _ => .stuck
section
variable {K : PySem.W.Frag} {F : Addr → Prop} {H : Hp}
theorem rep_flat {p : P} {v : V} (h : pFlat p = true) (r : Rep K F H p v) : flatV v = true := by
  cases p with
  | none => have r : v = .non := r; subst r; rfl
  | bool b => have r : v = .bl b := r; subst r; rfl
  | int b => have r : v = .int b := r; subst r; rfl
  | str b => have r : v = .str b := r; subst r; rfl
  | _ => cases h
theorem rep_eqV {p q : P} {v u : V} (h : pFlat p = true) (h' : pFlat q = true) (r : Rep K F H p v) (r' : Rep K F H q u) : eqV v u = PyData.eqv p q := by
  cases p with
  | none =>
    have r : v = .non := r; subst r
    cases q with
    | none => have r' : u = .non := r'; subst r'; rfl
    | bool b => have r' : u = .bl b := r'; subst r'; rfl
    | int b => have r' : u = .int b := r'; subst r'; rfl
    | str b => have r' : u = .str b := r'; subst r'; rfl
    | _ => cases h'
  | bool b =>
    have r : v = .bl b := r; subst r
    cases q with
    | none => have r' : u = .non := r'; subst r'; rfl
    | bool b => have r' : u = .bl b := r'; subst r'; rfl
    | int b => have r' : u = .int b := r'; subst r'; rfl
    | str b => have r' : u = .str b := r'; subst r'; rfl
    | _ => cases h'
  | int b =>
    have r : v = .int b := r; subst r
    cases q with
    | none => have r' : u = .non := r'; subst r'; rfl
    | bool b => have r' : u = .bl b := r'; subst r'; rfl
    | int b => have r' : u = .int b := r'; subst r'; rfl
    | str b => have r' : u = .str b := r'; subst r'; rfl
    | _ => cases h'
  | str b =>
    have r : v = .str b := r; subst r
    cases q with
    | none => have r' : u = .non := r'; subst r'; rfl
    | bool b => have r' : u = .bl b := r'; subst r'; rfl
    | int b => have r' : u = .int b := r'; subst r'; rfl
    | str b => have r' : u = .str b := r'; subst r'; rfl
    | _ => cases h'
  | _ => cases h
theorem reps_flat : ∀ {ps : List P} {vs : List V}, ps.all pFlat = true → Reps K F H ps vs → vs.all flatV = true
  | [], _, _, r => by have r : _ = [] := r; subst r; rfl
  | p :: ps, _, h, r => by
    obtain ⟨v, u, rfl, r1, r2⟩ := r
    have h' : pFlat p = true ∧ ps.all pFlat = true := by simpa [List.all_cons] using h
    simp only [List.all_cons, Bool.and_eq_true]
    exact ⟨rep_flat h'.1 r1, reps_flat h'.2 r2⟩
theorem reps_any {q : P} {u : V} (hq : pFlat q = true) (rq : Rep K F H q u) : ∀ {ps : List P} {vs : List V}, ps.all pFlat = true → Reps K F H ps vs → inV u vs = ps.any fun z => PyData.eqv z q
  | [], _, _, r => by have r : _ = [] := r; subst r; rfl
  | p :: ps, _, h, r => by
    obtain ⟨v, w, rfl, r1, r2⟩ := r
    have h' : pFlat p = true ∧ ps.all pFlat = true := by simpa [List.all_cons] using h
    show (eqV v u || inV u w) = (PyData.eqv p q || ps.any fun z => PyData.eqv z q)
    rw [rep_eqV h'.1 hq r1 rq, reps_any hq rq h'.2 r2]
end
section
variable {X : Cx} {W : WX} {k : Nat} {e a b : Expr} {es : List Expr} {m ma mb : Ev} {ms : Evs} {pos : Pos}
def rInA (K : PySem.W.Frag) : R2 := fun x y H Q => rIn K false x y H Q ∨ rInD K x y H Q
def rNotInA (K : PySem.W.Frag) : R2 := fun x y H Q => rIn K true x y H Q ∨ rNotInD K x y H Q
theorem op_inA (hu : X.A.units + 65 < cLine) : OpR X (compareOp .In) (rInA X.K) := op_in_seq.or (op_inD hu)
theorem op_notInA (hu : X.A.units + 65 < cLine) : OpR X (compareOp .NotIn) (rNotInA X.K) := op_notIn_seq.or (op_notInD hu)
theorem pflat_dat {d : D} {p : P} {et : List Addr} {F : Addr → Prop} {H : Hp} {K : PySem.W.Frag} {v : V} (e : d.dat = some p) (h : pFlat p = true) (r : RepD K F H et d v) : Rep K F H p v := by
  cases d with
  | d q => cases e; exact r
  | bor q =>
    cases e
    cases p with
    | list _ => cases h
    | dict _ => cases h
    | _ => exact r.elim
  | cell n => cases e
  | scr n => cases e
  | nest n => cases e
theorem ok_in : OkOp X W (fIn false) (rInA X.K) := by
  intro B et O env g σ H x y dx dy Q rl rx ry h
  unfold fIn at h
  split at h
  · exact h.elim
  · rename_i px ex
    split at h
    · split at h
      · rename_i hc
        exact .inr ⟨_, _, dat_dp ex (SeqAt.canLay_of_shaped hc.1) rx, dat_dp (d := .d (.list _)) rfl (SeqAt.canLay_of_shaped hc.2) ry, hc.1, hc.2, h.here rl rfl⟩
      · exact h.elim
    · split at h
      · rename_i hc
        exact .inr ⟨_, _, dat_dp ex (SeqAt.canLay_of_shaped hc.1) rx, dat_dp (d := .bor (.list _)) rfl (SeqAt.canLay_of_shaped hc.2) ry, hc.1, hc.2, h.here rl rfl⟩
      · exact h.elim
    · split at h
      · rename_i hc
        obtain ⟨p, vs, rfl, h1, h2⟩ := ry
        have rx := pflat_dat ex hc.1 rx
        exact .inl ⟨p, vs, rfl, .inr h1, rep_flat hc.1 rx, reps_flat hc.2 h2, h.here rl (by rw [if_neg (by decide), reps_any hc.1 rx hc.2 h2]; rfl)⟩
      · exact h.elim
    · exact h.elim
theorem ok_notIn : OkOp X W (fIn true) (rNotInA X.K) := by
  intro B et O env g σ H x y dx dy Q rl rx ry h
  unfold fIn at h
  split at h
  · exact h.elim
  · rename_i px ex
    split at h
    · split at h
      · rename_i hc
        exact .inr ⟨_, _, dat_dp ex (SeqAt.canLay_of_shaped hc.1) rx, dat_dp (d := .d (.list _)) rfl (SeqAt.canLay_of_shaped hc.2) ry, hc.1, hc.2, h.here rl rfl⟩
      · exact h.elim
    · split at h
      · rename_i hc
        exact .inr ⟨_, _, dat_dp ex (SeqAt.canLay_of_shaped hc.1) rx, dat_dp (d := .bor (.list _)) rfl (SeqAt.canLay_of_shaped hc.2) ry, hc.1, hc.2, h.here rl rfl⟩
      · exact h.elim
    · split at h
      · rename_i hc
        obtain ⟨p, vs, rfl, h1, h2⟩ := ry
        have rx := pflat_dat ex hc.1 rx
        exact .inl ⟨p, vs, rfl, .inr h1, rep_flat hc.1 rx, reps_flat hc.2 h2, h.here rl (by rw [if_pos rfl, reps_any hc.1 rx hc.2 h2]; rfl)⟩
      · exact h.elim
    · exact h.elim
/-! ### a tuple of numbers of the text's own -/
def KTup (K : PySem.W.Frag) (mg : Str → Option Value) (x : Str) (ns : List Int) : Prop :=
  ∃ (a : Addr) (o : Obj) (its : Array Value) (n : Nat), mg x = some (.ref a) ∧ K.lookup a = some o ∧ o.cls = .type "tuple" ∧ o.data = .seq its n ∧ its.size ≤ sizeLine ∧ Vals (ns.map V.int) its.toList
theorem se_globT {x : Str} {ps : List P} {ns : List Int} (h : KTup X.K X.mg x ns) (hp : ps = ns.map PyData.int := by rfl) (hg : Gl X x := by rfl) (hd : (x == ("__debug__" : Str)) = false := by decide) : SE X W (.Name x pos) (eC (.tuple ps)) := by
  subst hp
  obtain ⟨a, o, its, n, hm, hk, h1, h2, h3, h4⟩ := h
  exact se_glob (v := .ref a) hm rfl (fun F H => ⟨a, _, rfl, .inr ⟨o, its, n, hk, h1, h2, h3, h4⟩, reps_ints ns⟩) hg hd
/-! ### nothing is promised -/
def sStuck : Sv := fun _ _ => .stuck
theorem ss_stuck {ss : List Stmt} : SSs X W ss sStuck := pss_imp (t := fun _ _ _ => False) ⟨fun _ _ _ _ _ _ h => h.elim⟩ fun D σ H ⟨B, et, O, env, g, rl, h⟩ => h
/-! ### a fresh value and what follows -/
theorem fresh_of {K : PySem.W.Frag} {mg : Str → Option Value} {B : Addr → Prop} {et O : List Addr} {env : En} {g : G} {σ : L2.St} {H : Hp} {E : Ends} {r : R D} {kk : P → G → RS} {T : VK} (hn : ∀ d g', r = .ok d g' → (∃ ps, d = .d (.list ps)) ∨ ∃ ps, d = .d (.dict ps))
    (h : wS K mg B W O et H (r.bindS fun d g1 => match d with | .d p => kk p g1 | _ => .stuck) E) (rl : Rl K B et O env g σ H)
    (hk : ∀ p g1 a H' et', r = .ok (.d p) g1 → Rl K (BU B a) et' O env g1 σ H' → Fr [] et et' H H' → H a = none → ¬ B a → Cont K (FF (BU B a) et' O) H' a p → wS K mg B W O et H (kk p g1) E → T (.ref a) H') : wF K mg B O env σ W et H r T := by
  cases e1 : r with
  | stuck => rw [e1] at h; exact h
  | err ex g' =>
    rw [e1] at h
    intro cls od H' et' rl' fr ex'
    refine h cls od σ H' et' rl'.forget ⟨fr.weak fun x h => (nomatch h), fun _ h => (nomatch h)⟩ ?_
    obtain ⟨h1, h2⟩ := ex'
    refine ⟨h1, h2.imp id ?_⟩
    rintro ⟨dx, vs, e1, e2, e3, e4⟩
    exact ⟨dx, vs, e1, e2, e3, e4.weak fun a q => FF.mono (O := []) (fun _ z => z) (fun _ z => z) (fun _ z => by cases z) q⟩
  | ok d g' =>
    rw [e1] at h
    have nb : ∀ {a : Addr}, H a = none → ¬ B a := fun {a} q z => rl.live a (.inl z) q
    rcases hn _ _ e1 with ⟨ps, rfl⟩ | ⟨ps, rfl⟩
    · exact fun a H' et' q1 q2 q3 q4 => hk _ _ a H' et' e1 q1 q2 q3 (nb q3) q4 h
    · exact fun a H' et' q1 q2 q3 q4 => hk _ _ a H' et' e1 q1 q2 q3 (nb q3) q4 h
theorem cont_slot {K : PySem.W.Frag} {B : Addr → Prop} {et O : List Addr} {H : Hp} {a : Addr} {p : P} (q4 : Cont K (FF (BU B a) et O) H a p) : SlotR K (FF B et (a :: O)) et (a :: O) H (.own p) (some (some (.ref a))) := by
  have hF : ∀ x, FF B et (a :: O) x → FF (BU B a) et O x := fun x h => FF.bu.mpr h
  cases p with
  | list ps => obtain ⟨vs, h1, h2⟩ := q4; exact ⟨a, vs, rfl, List.mem_cons_self, h1, h2.weak hF⟩
  | dict ps => obtain ⟨vs, h1, h2⟩ := q4; exact ⟨a, vs, rfl, List.mem_cons_self, h1, RepKv.mono (et := []) (Fr.refl [] [] H) (fun _ q => (nomatch q)) (fun _ q => (nomatch q)) (fun a q => .inl (hF a q)) _ _ h2⟩
  | _ => exact q4.elim
/-- x, y = e, a new list: y's own -/
def sParSO (i j : Nat) (a b : Ev) : Sv := fun env g => (a env g).bindS fun x g1 => if x.isB then .stuck else (b env g1).bindS fun d g2 => match d with
  | .d p => .next ((env.set i (.sh x)).set j (.own p)) g2
  | _ => .stuck
theorem ss_parSO {i j : Nat} {x y : Str} {px py pt : Pos} {kt k2 : Nat} {pt2 : Pos} (c : Cxt X W k) (ha : SE X W a ma) (hb : SF X W b mb) (hi : X.N[i]? = some x := by rfl) (hj : X.N[j]? = some y := by rfl) (hij : i ≠ j := by decide)
    (hx : X.env.scope.names.lookup x = some .local := by rfl) (hy : X.env.scope.names.lookup y = some .local := by rfl)
    (hw : swappedStores [.Tuple [.Name x px, .Name y py] kt pt] (.Tuple [a, b] k2 pt2) X.env = pure (some [x, y]) := by rfl)
    (hs : swapsWithSole [.Tuple [.Name x px, .Name y py] kt pt] (.Tuple [a, b] k2 pt2) pos.line X.env = pure false := by rfl)
    (h1 : starEach [a, b] X.env = (false, eval a X.env) :: starEach [b] X.env := by rfl) (h2 : starEach [b] X.env = [(false, eval b X.env)] := by rfl) :
    SS X W (.Assign [.Tuple [.Name x px, .Name y py] kt pt] (.Tuple [a, b] k2 pt2) pos) (sParSO i j ma mb) :=
  ps_imp (ps_par c.calm c.nd hi hj hij hx hy (pa_cons ha (pa_cons hb.1 pa_nil h2) h1) hw hs) fun D σ H ⟨B, et, O, env, g, rl, h⟩ => ⟨B, et, O, env, g, rl, wS.bind h fun d1 g1 v1 H1 e1 _ rl1 fr1 r1 h1 => by
    by_cases hbb : d1.isB = true
    · rw [if_pos hbb] at h1; exact h1.elim
    rw [if_neg hbb] at h1
    refine ⟨B, e1, O, env, g1, rl1, fresh_of (fun d g' e => hb.2 _ _ _ _ e) h1 rl1 fun p g2 ad H2 e2 eb rl2 fr2 hn nB cn h2 => ?_⟩
    refine ⟨v1, .ref ad, rfl, ?_⟩
    have hR : RepD X.K (FF (BU B ad) e2 O) H2 e2 d1 v1 := RepD.mono fr2 (fun _ q => (nomatch q)) (fun _ q => .inr (.inl q)) (fun x q => by
      rcases q with (q | q) | q | q
      · exact .inl (.inl q)
      · exact .inr (by rw [q]; exact hn)
      · exact (fr2.new x q).imp (fun z => .inr (.inl z)) id
      · exact .inl (.inr (.inr q))) d1 v1 (.inl rfl) r1
    have rl3 := ((rl2.set i (nb_ofB hbb) hR)).take nB j (d := p) (x := none) (cont_slot cn)
    refine h2 _ H2 e2 (ad :: O) rl3 ⟨fr2.weak fun x h => (nomatch h), fun x h => ?_⟩
    rcases List.mem_cons.mp h with q | q
    · exact .inr (by rw [q]; exact hn)
    · exact .inl q⟩
/-! ### fresh lists by operations -/
def OkOpF (X : Cx) (W : WX) (f : D → D → M D) (r : R2) : Prop :=
  ∀ B et O env g σ H x y dx dy Q, Rl X.K B et O env g σ H → RepD X.K (FF B et O) H et dx x → RepD X.K (FF B et O) H et dy y → wF X.K X.mg B O env σ W et H (f dx dy g) Q → r x y H Q
def NewOp (f : D → D → M D) : Prop := ∀ x y g d g', f x y g = .ok d g' → (∃ ps, d = .d (.list ps)) ∨ ∃ ps, d = .d (.dict ps)
theorem newR_op {f : D → D → M D} (h : NewOp f) : NewR (eOp f ma mb) := fun env g d g' e => by
  unfold eOp at e
  cases e1 : ma env g with
  | stuck => rw [e1] at e; cases e
  | err _ _ => rw [e1] at e; cases e
  | ok x g1 =>
    rw [e1] at e
    have e : ((mb env g1).bind fun y g2 => f x y g2) = .ok d g' := e
    cases e2 : mb env g1 with
    | stuck => rw [e2] at e; cases e
    | err _ _ => rw [e2] at e; cases e
    | ok y g2 => rw [e2] at e; exact h _ _ _ _ _ e
theorem sf_op {op : Operator} {f : D → D → M D} {r : R2} (ho : OpR X (binaryOp op) r) (hf : OkOpF X W f r) (hn : NewOp f) (ha : SE X W a ma) (hb : SE X W b mb) : SF X W (.BinOp a op b pos) (eOp f ma mb) :=
  ⟨pe_imp (pe_op ho ha hb) fun σ H Q ⟨B, et, O, env, g, rl, h⟩ => ⟨B, et, O, env, g, rl, wF.bind h fun d1 g1 v1 H1 e1 _ rl1 fr1 r1 h1 => ⟨B, e1, O, env, g1, rl1, wF.bind h1 fun d2 g2 v2 H2 e2 _ rl2 fr2 r2 h2 =>
    hf B e2 O env g2 σ H2 v1 v2 d1 d2 Q rl2 (RepD.fr r1 fr2) r2 h2⟩⟩, newR_op hn⟩
def fRepL : D → D → M D
  | .d (.list xs), .d (.int k), g => if 0 ≤ k ∧ k < 2 ^ 20 ∧ xs.length ≤ 10 then .ok (.d (.list (List.replicate k.toNat xs).flatten)) g else .stuck
  | _, _, _ => .stuck
theorem newOp_rep : NewOp fRepL := fun x y g d g' e => by
  unfold fRepL at e
  split at e
  · split at e
    · cases e; exact .inl ⟨_, rfl⟩
    · cases e
  · cases e
theorem okF_rep : OkOpF X W fRepL rRep := by
  intro B et O env g σ H x y dx dy Q rl rx ry h
  unfold fRepL at h
  split at h
  · rename_i xs kz
    split at h
    · rename_i hz
      obtain ⟨p, vs, rfl, h1, hF, h2⟩ := rx
      have ry : y = .int _ := ry
      subst ry
      have hl : vs.length * kz.toNat ≤ sizeLine := by
        rw [← h2.length, sizeLine_eq]
        have := Nat.mul_le_mul hz.2.2 (show kz.toNat ≤ 2 ^ 20 by omega)
        omega
      refine ⟨p, _, vs, rfl, rfl, h1, by omega, by omega, hl, fun r hr => h.new rl hr ⟨_, upd_same, (h2.rep _).addB hr _⟩⟩
    · exact h.elim
  · exact h.elim
theorem sf_rep (ha : SE X W a ma) (hb : SE X W b mb) : SF X W (.BinOp a .Mult b pos) (eOp fRepL ma mb) := sf_op op_rep okF_rep newOp_rep ha hb
def fCatL : D → D → M D
  | .d (.list xs), .d (.list ys), g => if xs.length + ys.length ≤ sizeLine then .ok (.d (.list (xs ++ ys))) g else .stuck
  | .bor (.list xs), .d (.list ys), g => if xs.length + ys.length ≤ sizeLine then .ok (.d (.list (xs ++ ys))) g else .stuck
  | .d (.list xs), .bor (.list ys), g => if xs.length + ys.length ≤ sizeLine then .ok (.d (.list (xs ++ ys))) g else .stuck
  | _, _, _ => .stuck
theorem newOp_cat : NewOp fCatL := fun x y g d g' e => by
  unfold fCatL at e
  split at e
  · split at e
    · cases e; exact .inl ⟨_, rfl⟩
    · cases e
  · split at e
    · cases e; exact .inl ⟨_, rfl⟩
    · cases e
  · split at e
    · cases e; exact .inl ⟨_, rfl⟩
    · cases e
  · cases e
theorem okF_cat : OkOpF X W fCatL rCat := by
  intro B et O env g σ H x y dx dy Q rl rx ry h
  unfold fCatL at h
  split at h
  · split at h
    · rename_i hz
      obtain ⟨p, vs, rfl, h1, _, h2⟩ := rx
      obtain ⟨q, us, rfl, h3, _, h4⟩ := ry
      exact ⟨p, q, vs, us, rfl, rfl, h1, h3, by rw [← h2.length, ← h4.length]; exact hz, fun r hr => h.new rl hr ⟨_, upd_same, (h2.append h4).addB hr _⟩⟩
    · exact h.elim
  · split at h
    · rename_i hz
      obtain ⟨p, vs, rfl, h1, _, h2⟩ := rx
      obtain ⟨q, us, rfl, h3, _, h4⟩ := ry
      exact ⟨p, q, vs, us, rfl, rfl, h1, h3, by rw [← h2.length, ← h4.length]; exact hz, fun r hr => h.new rl hr ⟨_, upd_same, (h2.append h4).addB hr _⟩⟩
    · exact h.elim
  · split at h
    · rename_i hz
      obtain ⟨p, vs, rfl, h1, _, h2⟩ := rx
      obtain ⟨q, us, rfl, h3, _, h4⟩ := ry
      exact ⟨p, q, vs, us, rfl, rfl, h1, h3, by rw [← h2.length, ← h4.length]; exact hz, fun r hr => h.new rl hr ⟨_, upd_same, (h2.append h4).addB hr _⟩⟩
    · exact h.elim
  · exact h.elim
theorem sf_cat (ha : SE X W a ma) (hb : SE X W b mb) : SF X W (.BinOp a .Add b pos) (eOp fCatL ma mb) := sf_op op_cat okF_cat newOp_cat ha hb
/-! list(xs) -/
def fListF : List D → M D
  | [.d (.list xs)], g => .ok (.d (.list xs)) g
  | [.bor (.list xs)], g => .ok (.d (.list xs)) g
  | [.d (.tuple xs)], g => .ok (.d (.list xs)) g
  | _, _ => .stuck
theorem newR_listF : NewR (eB fListF ms) := fun env g d g' e => by
  unfold eB at e
  cases e1 : ms env g with
  | stuck => rw [e1] at e; cases e
  | err _ _ => rw [e1] at e; cases e
  | ok ds g1 =>
    rw [e1] at e
    have e : fListF ds g1 = .ok d g' := e
    unfold fListF at e
    split at e
    · cases e; exact .inl ⟨_, rfl⟩
    · cases e; exact .inl ⟨_, rfl⟩
    · cases e; exact .inl ⟨_, rfl⟩
    · cases e
theorem sf_list {p : Pos} (hm : X.mg "list" = none) (ha : SA X W (e :: es) ms) (hg : Gl X "list" := by rfl) (he : starEach (e :: es) X.env = (false, eval e X.env) :: starEach es X.env := by rfl) (hpl : (backTo pos (starEach es X.env)).any (·.1) = false := by rfl) : SF X W (.Call (.Name "list" p) (e :: es) [] pos) (eB fListF ms) := by
  refine ⟨pe_imp (pe_callTy call_list_of hg hm (by decide +kernel) ha.1 (he := he) (hpl := hpl)) fun σ H Q ⟨B, et, O, env, g, rl, h⟩ => ⟨B, et, O, env, g, rl, wF.bind h fun d1 g1 v1 H1 e1 _ rl1 fr1 r1 h1 => ?_⟩, newR_listF⟩
  unfold fListF at h1
  split at h1
  · obtain ⟨v, r, rfl, ⟨p, vs, rfl, q1, _, q2⟩, rfl⟩ := r1
    exact ⟨p, vs, rfl, .inl (.inl (.inl q1)), fun l hl => h1.new rl1 hl ⟨_, upd_same, q2.addB hl _⟩⟩
  · obtain ⟨v, r, rfl, ⟨p, vs, rfl, q1, _, q2⟩, rfl⟩ := r1
    exact ⟨p, vs, rfl, .inl (.inl (.inl q1)), fun l hl => h1.new rl1 hl ⟨_, upd_same, q2.addB hl _⟩⟩
  · obtain ⟨v, r, rfl, ⟨p, vs, rfl, q1, q2⟩, rfl⟩ := r1
    exact ⟨p, vs, rfl, .inr q1, fun l hl => h1.new rl1 hl ⟨_, upd_same, q2.addB hl _⟩⟩
  · exact h1.elim
/-! a op b op c op d -/
section
variable {c d : Expr} {op1 op2 op3 : CmpOp} {s1 s2 s3 : R2} {tA tB tC' tD : TE} {mc md : Ev} {f1 f2 f3 : D → D → M D}
def tChain3 (s1 s2 s3 : R2) (tA tB tC' tD : TE) : TE := fun σ H Q => tA σ H fun x H1 => tB σ H1 fun y H2 => s1 x y H2 fun z H3 => ∃ k, z = .bl k ∧ (if k = true then tC' σ H3 fun w H4 => s2 y w H4 fun z' H5 => ∃ k', z' = .bl k' ∧ (if k' = true then tD σ H5 fun w' H6 => s3 w w' H6 Q else Q (.bl false) H5) else Q (.bl false) H3)
theorem pe_chain3 (h1 : OpR X (compareOp op1) s1) (h2 : OpR X (compareOp op2) s2) (h3 : OpR X (compareOp op3) s3) (ha : PE X a tA) (hb : PE X b tB) (hc : PE X c tC') (hd : PE X d tD)
    (hm : lastMarks [op1, op2, op3] [b, c, d] = false := by with_unfolding_all rfl) : PE X (.Compare a [op1, op2, op3] [b, c, d] pos) (tChain3 s1 s2 s3 tA tB tC' tD) := by
  refine ⟨fun pins s σ H Q I h => ?_⟩
  refine Compare_chain (thn (ha.run pins s σ H _ I h) fun v s1 ⟨x, H1, I1, r1, q1⟩ => chain_link (thn (hb.run pins s1 σ H1 _ I1 q1) fun u s2 ⟨y, H2, I2, r2, q2⟩ =>
    thn (h1 pins s2 σ H2 x y v u _ I2 r1 r2 q2) fun d s3 ⟨z, H3, I3, r3, k, e, q3⟩ => ?_)) hm
  subst e
  cases r3
  refine wpAny_truthy_bool ?_
  cases k with
  | false => exact ite_ff ⟨.bl false, H3, I3, rfl, q3⟩
  | true =>
    refine ite_tt (chain_link (thn (hc.run pins s3 σ H3 _ I3 q3) fun w' s4 ⟨z', H4, I4, r4, q4⟩ => thn (h2 pins s4 σ H4 y z' u w' _ I4 r2 r4 q4) fun d' s5 ⟨z5, H5, I5, r5, k', e', q5⟩ => ?_))
    subst e'
    cases r5
    refine wpAny_truthy_bool ?_
    cases k' with
    | false => exact ite_ff ⟨.bl false, H5, I5, rfl, q5⟩
    | true => exact ite_tt (chain_last (thn (hd.run pins s5 σ H5 _ I5 q5) fun w2 s6 ⟨z6, H6, I6, r6, q6⟩ => h3 pins s6 σ H6 z' z6 w' w2 Q I6 r4 r6 q6))
def eChain3 (f1 f2 f3 : D → D → M D) (a b c d : Ev) : Ev := fun env g => (a env g).bind fun x g1 => (b env g1).bind fun y g2 => (f1 x y g2).bind fun z g3 => match z with
  | .d (.bool true) => (c env g3).bind fun w g4 => (f2 y w g4).bind fun z' g5 => (match z' with
    | .d (.bool true) => (d env g5).bind fun w' g6 => f3 w w' g6
    | .d (.bool false) => .ok (.d (.bool false)) g5
    | _ => .stuck)
  | .d (.bool false) => .ok (.d (.bool false)) g3
  | _ => .stuck
theorem se_chain3 (h1 : OpR X (compareOp op1) s1) (k1 : OkOp X W f1 s1) (h2 : OpR X (compareOp op2) s2) (k2 : OkOp X W f2 s2) (h3 : OpR X (compareOp op3) s3) (k3 : OkOp X W f3 s3) (ha : SE X W a ma) (hb : SE X W b mb) (hc : SE X W c mc) (hd : SE X W d md)
    (hm : lastMarks [op1, op2, op3] [b, c, d] = false := by with_unfolding_all rfl) : SE X W (.Compare a [op1, op2, op3] [b, c, d] pos) (eChain3 f1 f2 f3 ma mb mc md) :=
  pe_imp (pe_chain3 h1 h2 h3 ha hb hc hd hm) fun σ H Q ⟨B, et, O, env, g, rl, h⟩ => by
    refine ⟨B, et, O, env, g, rl, wG.bind h fun d1 g1 v1 H1 e1 _ rl1 fr1 r1 h1 => ⟨B, e1, O, env, g1, rl1, wG.bind h1 fun d2 g2 v2 H2 e2 _ rl2 fr2 r2 h2 => ?_⟩⟩
    refine k1 B e2 O env g2 σ H2 v1 v2 d1 d2 _ rl2 (RepD.fr r1 fr2) r2 (wG.bind h2 fun d3 g3 v3 H3 e3 _ rl3 fr3 r3 h3 => ?_)
    split at h3
    · have r3 : v3 = .bl true := r3
      refine ⟨true, r3, ?_⟩
      rw [if_pos rfl]
      refine ⟨B, e3, O, env, g3, rl3, wG.bind h3 fun d4 g4 v4 H4 e4 _ rl4 fr4 r4 h4 => ?_⟩
      refine k2 B e4 O env g4 σ H4 v2 v4 d2 d4 _ rl4 (RepD.fr r2 (fr3.trans fr4)) r4 (wG.bind h4 fun d5 g5 v5 H5 e5 _ rl5 fr5 r5 h5 => ?_)
      split at h5
      · have r5 : v5 = .bl true := r5
        refine ⟨true, r5, ?_⟩
        rw [if_pos rfl]
        refine ⟨B, e5, O, env, g5, rl5, wG.bind h5 fun d6 g6 v6 H6 e6 _ rl6 fr6 r6 h6 => ?_⟩
        exact k3 B e6 O env g6 σ H6 v4 v6 d4 d6 Q rl6 (RepD.fr r4 (fr5.trans fr6)) r6 h6
      · have r5 : v5 = .bl false := r5
        refine ⟨false, r5, ?_⟩
        rw [if_neg (by decide)]
        exact h5.here rl5 rfl
      · exact h5.elim
    · have r3 : v3 = .bl false := r3
      refine ⟨false, r3, ?_⟩
      rw [if_neg (by decide)]
      exact h3.here rl3 rfl
    · exact h3.elim
end
end
end Sim
set_option maxRecDepth 512
set_option Elab.async false
set_option linter.all false
set_option maxRecDepth 100000
set_option maxHeartbeats 4000000
namespace Sim
open PySem PySem.Spec PyProof.Rows L2
/-! ### lists of a frame that are walked and changed: cells -/
section
variable {X : Cx} {W : WX} {k : Nat} {e iter tg : Expr} {body : List Stmt} {m : Ev} {ms : Evs} {f : Ptv} {ts : List Nat} {mb : Sv} {pos : Pos}
def cellOf (d : D) (g : G) : R D := match d with
  | .cell n => .ok (.cell n) g
  | _ => .stuck
def mIC (K : PySem.W.Frag) (mg : Str → Option Value) (W : WX) (m : Ev) : TI := fun σ H R => ∃ B et O env g, Rl K B et O env g σ H ∧
  wG K mg B O env σ W (fun F H et d J => ∃ n a, d = D.cell n ∧ et[n]? = some a ∧ J = Itl K a) et H ((m env g).bind cellOf) R
theorem pi_cell (h : SE X W e m) : PI X tg e (mIC X.K X.mg W m) := by
  refine pi_imp (pi_list h) fun σ H R ⟨B, et, O, env, g, rl, hq⟩ => ?_
  refine ⟨B, et, O, env, g, rl, wG.bind hq fun d1 g1 v1 H1 e1 ee rl1 fr1 r1 h1 => ?_⟩
  cases d1 with
  | cell n =>
    obtain ⟨a, rfl, en⟩ := r1
    obtain ⟨ds, hds⟩ : ∃ ds, g1[n]? = some ds := by
      have hn : n < e1.length := (List.getElem?_eq_some_iff.mp en).1
      exact ⟨_, List.getElem?_eq_getElem (by rw [← rl1.cel.len]; exact hn)⟩
    obtain ⟨vs, ha, _⟩ := rl1.cel.at_ n a ds en hds
    exact ⟨a, rfl, ⟨vs, .inl (.inl ha)⟩, h1.here rl1 ⟨n, a, rfl, en, rfl⟩⟩
  | d p => exact h1.elim
  | scr xs => exact h1.elim
  | nest xs => exact h1.elim
  | bor p => exact h1.elim
def forC (n : Nat) (tg : Ptv) (b : Sv) : Nat → Nat → Sv
  | 0, _ => fun _ _ => .stuck
  | k + 1, i => fun env g => match g[n]? with
    | none => .stuck
    | some xs => match xs[i]? with
      | none => if i = xs.length then .next env g else .stuck
      | some p => match tg (.d p) env with
        | some env1 => (b env1 g).seq (forC n tg b k (i + 1))
        | none => .stuck
def sForC (m : Ev) (tg : Ptv) (b : Sv) : Sv := fun env g => ((m env g).bind cellOf).bindS fun d g1 => match d with
  | .cell n => forC n tg b FUEL 0 env g1
  | _ => .stuck
theorem ss_forC (c : Cxt X W k) (hi : SE X W iter m) (hg : SP X tg ts f) (hb : SSs X W body mb) (hs : ∀ x, foldedSetIterable iter X.env x = pure x := by intro _; rfl) : SS X W (.For tg iter body [] pos) (sForC m f mb) :=
  ps_imp (ps_for c.po c.calm (pi_cell hi) hg hb hs) fun D σ H ⟨B, et, O, env, g, rl, h⟩ => ⟨B, et, O, env, g, rl, wS.bind h fun d1 g1 J H1 e1 _ rl1 fr1 it h1 => by
    obtain ⟨n, a, rfl, en, rfl⟩ := it
    have h1 : wS X.K X.mg B W O e1 H1 (forC n f mb FUEL 0 env g1) D := h1
    refine ⟨fun i q σ H => ∃ et O2 env g, Rl X.K B et O2 env g σ H ∧ FrS O O2 e1 et H1 H ∧ wS X.K X.mg B W O2 et H (forC n f mb q i env g) D, ⟨FUEL, e1, O, env, g1, rl1, FrS.refl O e1 H1, h1⟩, ?_⟩
    rintro i q σ2 H2 ⟨et2, O2, env2, g2, rl2, fs, h2⟩
    cases q with
    | zero => exact h2.elim
    | succ q =>
      unfold forC at h2
      split at h2
      · exact h2.elim
      · rename_i xs gx
        have en2 : et2[n]? = some a := fs.fr.get en
        obtain ⟨vs, ha, hr⟩ := rl2.cel.at_ n a xs en2 gx
        have sq : SqL X.K H2 a vs := .inl (.inl ha)
        split at h2
        · rename_i ex
          split at h2
          · rename_i il
            exact .inl ⟨⟨vs, sq, by rw [← hr.length]; omega⟩, h2.here rl2⟩
          · exact h2.elim
        · rename_i p ex
          obtain ⟨v, ev, rv⟩ := hr.get ex
          refine .inr ⟨⟨vs, v, sq, ev⟩, fun σ' H' => ∃ et O3 env g, Rl X.K B et O3 env g σ' H' ∧ FrS O O3 e1 et H1 H' ∧ wS X.K X.mg B W O3 et H' (forC n f mb q (i + 1) env g) D, fun σ' H' ⟨et, O3, env, g, q1, q2, q3⟩ => ⟨q, by omega, et, O3, env, g, q1, q2, q3⟩, fun x H3 hy => ?_⟩
          obtain ⟨rfl, y⟩ := hy
          have ex : vs[i]? = some x := y vs sq
          rw [ev] at ex; cases ex
          split at h2
          · rename_i env3 e3
            refine ⟨B, et2, O2, env2, g2, .d p, rl2, trivial, rv, env3, e3, fun σ3 rl4 _ => ?_⟩
            refine ⟨B, et2, O2, env3, g2, rl4, ?_⟩
            cases eb : mb env3 g2 with
            | stuck => rw [eb] at h2; exact h2
            | ret d g' => rw [eb] at h2; exact h2
            | err ex g' => rw [eb] at h2; exact h2
            | next env4 g4 =>
              rw [eb] at h2
              intro σ4 H4 e4 O4 rl5 f4
              exact ⟨e4, O4, env4, g4, rl5, fs.trans f4, wS.pre h2 f4⟩
          · exact h2.elim⟩
/-- a method of one argument that changes the name's cell and hands back None -/
def sCell1 (f : List P → D → Option (List P)) (i : Nat) (m : Evs) : Sv := fun env g => match env[i]? with
  | some (.sh (.cell n)) => (m env g).bindS fun ds g1 => (match ds, g1[n]? with
    | [d], some ps => (match f ps d with
      | some qs => .next env (g1.set n qs)
      | none => .stuck)
    | _, _ => .stuck)
  | _ => .stuck
theorem ss_cell1 {i : Nat} {c : Expr} {f : List P → D → Option (List P)} {r : V → List V → Hp → VK → Prop} (hf : OkM1 X f r) (hp : PE X c (tBM X.K "list" r (tVar i) (mA X.K X.mg W ms))) (hs : swapsWith c none pos.line X.env = pure false := by rfl) : SS X W (.Expr c pos) (sCell1 f i ms) := by
  refine ps_imp (ps_expr hp hs) fun D σ H ⟨B, et, O, env, g, rl, h⟩ => ?_
  unfold sCell1 at h
  split at h
  · rename_i n ei
    obtain ⟨_, v0, es, ⟨a, rfl, en⟩⟩ := rl.slot i _ ei
    obtain ⟨ds, hds⟩ : ∃ ds, g[n]? = some ds := by
      have hn : n < et.length := (List.getElem?_eq_some_iff.mp en).1
      exact ⟨_, List.getElem?_eq_getElem (by rw [← rl.cel.len]; exact hn)⟩
    obtain ⟨vs0, h0, _⟩ := rl.cel.at_ n a ds en hds
    refine ⟨.ref a, es, .inl ⟨rfl, vs0, .inl (.inl h0)⟩, B, et, O, env, g, rl, wS.bind h fun d1 g1 v1 H1 e1 _ rl1 fr1 r1 h3 => ?_⟩
    split at h3
    · rename_i d ps eg _
      split at h3
      · rename_i qs eq
        obtain ⟨x, u, rfl, rx, rfl⟩ := r1
        have en1 := fr1.get en
        obtain ⟨vs, ha1, h2⟩ := rl1.cel.at_ n a _ en1 eg
        refine hf (FF B e1 O) e1 H1 a vs ps qs _ x _ ha1 h2 rx eq fun us hu => ?_
        obtain ⟨q1, q2⟩ := rl1.updCell en1 eg ha1 hu
        exact h3 σ _ e1 O q1 (FrS.ofE q2)
      · exact h3.elim
    · exact h3.elim
  · exact h.elim
def fLenC : List D → M D
  | [.cell n], g => match g[n]? with
    | some xs => .ok (.d (.int xs.length)) g
    | none => .stuck
  | _, _ => .stuck
theorem ok_lenC : OkCall X W fLenC (rLen X.K) := by
  intro B et O env g σ H xs ds Q rl rx h
  unfold fLenC at h
  split at h
  · split at h
    · rename_i ys eg
      obtain ⟨v, r, rfl, ⟨a, rfl, en⟩, rfl⟩ := rx
      obtain ⟨vs, ha, hr⟩ := rl.cel.at_ _ a _ en eg
      exact .inl (.inl ⟨a, vs, rfl, .inl (.inl (.inl ha)), by rw [← hr.length]; exact h.here rl rfl⟩)
    · exact h.elim
  · exact h.elim
end
end Sim
set_option maxRecDepth 512
set_option Elab.async false
set_option linter.all false
set_option maxRecDepth 100000
set_option maxHeartbeats 4000000
namespace Sim
open PySem PySem.Spec PyProof.Rows L2
/-! ### a tuple from its end -/
section
variable {prog : Program} {w : World} {A : Around} {E : Value → Shared → Prop} {s : Shared}
theorem sliceRev {sl : Addr} {vl vu vs : Value} {n : Nat} {Q : Int × Int × Nat → Shared → Prop} (hs : s.heap.IsSliceOf sl vl vu vs) (pl : IsPart vl none) (pu : IsPart vu none) (ps : IsPart vs (some (-1)))
    (h : Q ((n : Int) - 1, -1, n) s) : wpAny (model prog w) A (Builtin.Slice.sliceApplied (Value.ref sl) (pure (n : Int))) Q E s := by
  obtain ⟨os, hos, hcs, hds⟩ := id hs
  unfold Builtin.Slice.sliceApplied
  refine wpAny_bind ?_
  unfold Builtin.Slice.sliceFields
  refine wpAny_bind (wpAny_field hos hds rfl (wpAny_bind (wpAny_field hos hds rfl (wpAny_bind (wpAny_field hos hds rfl (wpAny_pure ?_))))))
  refine wpAny_bind (HT.slicePart_ ps ?_)
  dsimp only [Option.getD]
  rw [if_neg (by decide)]
  refine wpAny_bind (HT.slicePart_ pl ?_)
  refine wpAny_bind (HT.slicePart_ pu ?_)
  refine wpAny_bind (wpAny_pure ?_)
  have e1 : Builtin.Slice.sliceAdjust none none (-1) (n : Int) = ((n : Int) - 1, -1) := by
    unfold Builtin.Slice.sliceAdjust
    rfl
  rw [e1]
  dsimp only
  have e2 : Builtin.Slice.slicePlaces ((n : Int) - 1) (-1) (-1) = n := by
    unfold Builtin.Slice.slicePlaces
    rw [if_neg (by decide)]
    rw [show (- -1 : Int) = 1 from rfl, Int.ediv_one]
    split <;> omega
  rw [e2]
  exact wpAny_pure h
theorem pick_rev (items : Array Value) : (List.filterMap (fun k => items[(((items.size : Int) - 1) + (k : Nat) * (-1)).toNat]?) (List.range items.size)).toArray = items.toList.reverse.toArray := by
  congr 1
  have h1 : (List.range items.size).map (fun k => items[(((items.size : Int) - 1) + (k : Nat) * (-1)).toNat]?) = items.toList.reverse.map some := by
    refine List.ext_getElem? fun i => ?_
    rw [List.getElem?_map, List.getElem?_map]
    by_cases hi : i < items.size
    · rw [List.getElem?_range hi, List.getElem?_reverse (by simpa using hi)]
      simp only [Option.map_some, Array.length_toList, Array.getElem?_toList]
      rw [show (((items.size : Int) - 1) + (i : Nat) * (-1)).toNat = items.size - 1 - i by omega]
      rw [Array.getElem?_eq_getElem (by omega)]; rfl
    · rw [List.getElem?_eq_none (by simpa using hi), List.getElem?_eq_none (by simpa using hi)]; rfl
  have h2 : ∀ (l : List Nat) (f : Nat → Option Value) (m : List Value), l.map f = m.map some → l.filterMap f = m := by
    intro l f
    induction l with
    | nil => intro m h; cases m with | nil => rfl | cons _ _ => cases h
    | cons a l ih =>
      intro m h
      cases m with
      | nil => cases h
      | cons b m =>
        rw [List.map_cons, List.map_cons] at h
        injection h with h3 h4
        rw [List.filterMap_cons, h3, ih m h4]
  exact h2 _ _ _ h1
theorem getItem_tuple_rev {t sl : Addr} {items : Array Value} {vl vu vs : Value} {Q : Value → Shared → Prop} (ht : IsTup s.heap t items) (hs : s.heap.IsSliceOf sl vl vu vs) (pl : IsPart vl none) (pu : IsPart vu none) (ps : IsPart vs (some (-1)))
    (h : Q (Value.ref s.heap.objs.size) { heap := s.heap.push { cls := Value.type "tuple", data := Data.seq items.toList.reverse.toArray }, gens := s.gens, drawn := s.drawn, toks := s.toks, os := s.os })
    (hsz : items.size ≤ sizeLine) : wpAny (model prog w) A (getItem (Value.ref t) (Value.ref sl)) Q E s := by
  obtain ⟨os, hos, hcs, hds⟩ := id hs
  have hTs : s.TypeIs (Value.ref sl) "slice" := ⟨os, hos, hcs⟩
  refine wpAny_holding (wpAny_bind (wpAny_sequenceKey (IsTup.typeIs ht) (by decide) (wpAny_bind (wpAny_callSpecial?_slot (IsTup.typeIs ht) slot_tuple_getitem (wpAny_call_entry slot_tuple_getitem (IsTup.typeIs ht) entry_tuple_getitem ?_ (args_tuple_getitem (Value.ref t) (Value.ref sl)))))))
  refine wpAny_bind ?_
  show wpAny _ _ (pure (Value.ref t, [Value.ref sl])) _ _ _
  refine wpAny_pure ?_
  refine wpAny_bind (tupleItemsOf_ ht (wpAny_bind (wpAny_typeOf hTs ?_)))
  rw [if_pos (by decide)]
  refine wpAny_bind (sliceRev hs pl pu ps ?_)
  dsimp only
  rw [if_neg (by simp)]
  rw [pick_rev]
  unfold Builtin.Tuple.tupleExact
  refine wpAny_bind (wpAny_newObj_type (wpAny_pure ⟨_, rfl, wpAny_pure h⟩) (by show (_ : Array Value).size ≤ sizeLine; simpa using hsz))
end
section
variable {X : Cx} {W : WX} {e : Expr} {te : TE} {k : Nat} {p1 p2 p3 pos : Pos}
def tRevT (K : PySem.W.Frag) (te : TE) : TE := fun σ H Q => te σ H fun x H1 => ∃ a xs, x = .ref a ∧ SqT K H1 a xs ∧ ∀ p, H1 p = none → Q (.ref p) (upd H1 p (.tup xs.reverse))
theorem pe_revT (he : PE X e te) : PE X (.Subscript e (.Slice none none (some (.UnaryOp .USub (.Constant (.int 1) k p1) p2)) p3) pos) (tRevT X.K te) :=
  ⟨fun pins s σ H Q I h => Subscript_ (thn (he.run pins s σ H _ I h) fun v s1 ⟨x, H1, I1, r1, q1⟩ => by
    obtain ⟨a, xs, rfl, hx, q⟩ := q1
    cases r1
    have hst := po_some (X := X) (pe_un (pos := p2) un_neg (pe_int (X := X) (i := 1) (j := k) (pos := p1)))
    refine wpAny_Slice (thn (po_none.run pins s1 σ H1 (fun o H2 => o = none ∧ H2 = H1) I1 ⟨rfl, rfl⟩) fun vl s2 ⟨l, H2, I2, pl, el, e2⟩ => ?_)
    subst el e2
    refine thn (po_none.run pins s2 σ H2 (fun o H3 => o = none ∧ H3 = H2) I2 ⟨rfl, rfl⟩) fun vu s3 ⟨u, H3, I3, pu, eu, e3⟩ => ?_
    subst eu e3
    refine thn (hst.run pins s3 σ H3 (fun o H4 => o = some (-1) ∧ H4 = H3) I3 ⟨1, rfl, -1, rfl, rfl, rfl⟩) fun vs s4 ⟨o, H4, I4, ps, eo, e4⟩ => ?_
    subst eo e4
    have I5 := I4.kept (t' := s4.toks) (fun b ob q => Heap.get?_push_of_some { cls := Value.type "slice", data := Data.fields #[vl, vu, vs] } q)
    obtain ⟨its, r, ht, hz⟩ := I5.tuple hx
    have hlen := r.length
    refine tail_any (IsTup.typeIs ht) slot_tuple_getitem.lookup (getItem_tuple_rev ht (Heap.IsSliceOf.new s4.heap vl vu vs) pl pu ps ?_ (by rw [List.size_toArray]; omega)) rfl
    exact ⟨.ref _, upd H4 _ (.tup xs.reverse), I5.laid (fun b ob q => Heap.get?_push_of_some _ q) (Nat.le_refl _) ⟨by rw [List.length_reverse]; exact hz, its.reverse, r.reverse, IsTup.new _ _⟩, rfl, q _ (HOk.fresh I5.hok (Nat.le_refl _))⟩)⟩
theorem pe_or2 {t t' : TE} (h : PE X e t) (h' : PE X e t') : PE X e (fun σ H Q => t σ H Q ∨ t' σ H Q) := ⟨fun pins s σ H Q I q => q.elim (h.run pins s σ H Q I) (h'.run pins s σ H Q I)⟩
theorem Reps.reverse {K : PySem.W.Frag} {F : Addr → Prop} {H : Hp} : ∀ {ds : List P} {vs : List V}, Reps K F H ds vs → Reps K F H ds.reverse vs.reverse
  | [], vs, h => by
    have : vs = [] := h
    subst this; exact rfl
  | d :: ds, vs, h => by
    obtain ⟨v, r, rfl, h1, h2⟩ := h
    rw [List.reverse_cons, List.reverse_cons]
    exact (Reps.reverse h2).append (Reps.one h1)
def fRev (d : D) : M D := fun g => match d with
  | .d (.tuple xs) => .ok (.d (.tuple xs.reverse)) g
  | .d (.list xs) => .ok (.d (.list xs.reverse)) g
  | .bor (.list xs) => .ok (.d (.list xs.reverse)) g
  | _ => .stuck
variable {a : Expr} {ma : Ev}
theorem se_rev (ha : SE X W a ma) : SE X W (.Subscript a (.Slice none none (some (.UnaryOp .USub (.Constant (.int 1) k p1) p2)) p3) pos) (eUn fRev ma) := by
  refine pe_imp (pe_or2 (pe_revT ha) (pe_revL ha)) fun σ H Q ⟨B, et, O, env, g, rl, h⟩ => ?_
  have h : wG X.K X.mg B O env σ W _ et H ((ma env g).bind fun x g1 => fRev x g1) Q := h
  by_cases c : ∃ xs g1, ma env g = .ok (.d (.tuple xs)) g1
  · refine .inl ⟨B, et, O, env, g, rl, wG.bind h fun d1 g1 v1 H1 e1 ee rl1 fr1 r1 h1 => ?_⟩
    obtain ⟨xs, g2, ex⟩ := c
    rw [ex] at ee; cases ee
    obtain ⟨p, vs, rfl, q1, q2⟩ := r1
    exact ⟨p, vs, rfl, q1, fun r hr => wG.new h1 rl1 hr ⟨r, _, rfl, .inl (.inl upd_same), q2.reverse.fr (Fr.same (same_new hr))⟩⟩
  · refine .inr ⟨B, et, O, env, g, rl, wG.bind h fun d1 g1 v1 H1 e1 ee rl1 fr1 r1 h1 => ?_⟩
    unfold fRev at h1
    split at h1
    · exact absurd ⟨_, _, ee⟩ c
    · obtain ⟨p, vs, rfl, q1, _, q2⟩ := r1
      exact ⟨p, vs, rfl, .inl (.inl q1), fun r hr => wG.new h1 rl1 hr ⟨r, _, rfl, upd_same, rl1.nF hr, q2.reverse.fr (Fr.same (same_new hr))⟩⟩
    · obtain ⟨p, vs, rfl, q1, _, q2⟩ := r1
      exact ⟨p, vs, rfl, .inl (.inl q1), fun r hr => wG.new h1 rl1 hr ⟨r, _, rfl, upd_same, rl1.nF hr, q2.reverse.fr (Fr.same (same_new hr))⟩⟩
    · exact h1.elim
/-! is True, is False -/
def fIsB (x y : D) : M D := fun g => match x, y with
  | .d (.bool a), .d (.bool b) => .ok (.d (.bool (decide (a = b)))) g
  | _, _ => .stuck
def fNotB (x y : D) : M D := fun g => match x, y with
  | .d (.bool a), .d (.bool b) => .ok (.d (.bool (!decide (a = b)))) g
  | _, _ => .stuck
theorem ok_isB : OkOp X W fIsB (fun x y H Q => ∃ a b, x = V.bl a ∧ y = V.bl b ∧ Q (V.bl (decide (a = b))) H) := by
  intro B et O env g σ H x y dx dy Q rl rx ry h
  unfold fIsB at h
  split at h
  · have rx : x = .bl _ := rx
    have ry : y = .bl _ := ry
    exact ⟨_, _, rx, ry, h.here rl rfl⟩
  · exact h.elim
theorem ok_notB : OkOp X W fNotB (fun x y H Q => ∃ a b, x = V.bl a ∧ y = V.bl b ∧ Q (V.bl (!decide (a = b))) H) := by
  intro B et O env g σ H x y dx dy Q rl rx ry h
  unfold fNotB at h
  split at h
  · have rx : x = .bl _ := rx
    have ry : y = .bl _ := ry
    exact ⟨_, _, rx, ry, h.here rl rfl⟩
  · exact h.elim
end
end Sim
set_option maxRecDepth 512
set_option Elab.async false
set_option linter.all false
set_option maxRecDepth 100000
set_option maxHeartbeats 4000000
namespace Sim
open PySem PySem.Spec PyProof.Rows L2
/-! ### dicts with keys that are ints or texts -/
def keyEq : P → P → Bool
  | .int i, .int j => decide (i = j)
  | .str x, .str y => decide (x = y)
  | _, _ => false
def keyOf : P → Option Key
  | .int i => some (.inl i)
  | .str x => some (.inr x)
  | _ => none
def getKP (kvs : List (P × P)) (k : P) : Option P := (kvs.find? fun e => keyEq e.1 k).map (·.2)
def putKP (kvs : List (P × P)) (k v : P) : List (P × P) := if (kvs.any fun e => keyEq e.1 k) = true then kvs.map (fun e => if keyEq e.1 k = true then (e.1, v) else e) else kvs ++ [(k, v)]
theorem keyEq_P : ∀ {a b : Key}, keyEq (keyP a) (keyP b) = decide (a = b)
  | .inl i, .inl j => by show decide (i = j) = _; rw [decide_eq_decide]; exact ⟨fun h => by rw [h], fun h => by cases h; rfl⟩
  | .inl i, .inr y => rfl
  | .inr x, .inl j => rfl
  | .inr x, .inr y => by show decide (x = y) = _; rw [decide_eq_decide]; exact ⟨fun h => by rw [h], fun h => by cases h; rfl⟩
theorem keyOf_P {p : P} {k : Key} (h : keyOf p = some k) : p = keyP k := by
  cases p <;> cases h <;> rfl
section
variable {K : PySem.W.Frag} {F : Addr → Prop} {H : Hp} {et : List Addr}
theorem key_rep {p : P} {k : Key} {v : V} (h : keyOf p = some k) (r : Rep K F H p v) : v = kV k := by
  cases p <;> cases h <;> exact r
theorem RepKv.find {k : Key} : ∀ {kvs : List (P × P)} {l : List (Key × V)}, RepKv K F H kvs l → match getKP kvs (keyP k) with | some p => ∃ v, valV l k = some v ∧ Rep K F H p v | none => valV l k = none
  | [], l, h => by have h : l = [] := h; subst h; rfl
  | (a, d) :: r, l, h => by
    obtain ⟨kk, v, l', rfl, rfl, h1, h2⟩ := h
    have ih := RepKv.find (k := k) h2
    unfold getKP at ih ⊢
    rw [List.find?_cons, keyEq_P]
    by_cases e : kk = k
    · rw [decide_eq_true e]
      exact ⟨v, valV_pos e, h1⟩
    · rw [decide_eq_false e, valV_neg (p := (kk, v)) e]
      exact ih
theorem RepKv.isSome {k : Key} {kvs : List (P × P)} {l : List (Key × V)} (h : RepKv K F H kvs l) : (getKP kvs (keyP k)).isSome = (valV l k).isSome := by
  have := h.find (k := k)
  cases e : getKP kvs (keyP k) with
  | none => rw [e] at this; rw [show valV l k = none from this]; rfl
  | some p => rw [e] at this; obtain ⟨v, h1, _⟩ := this; rw [h1]; rfl
theorem RepKv.anyK {k : Key} : ∀ {kvs : List (P × P)} {l : List (Key × V)}, RepKv K F H kvs l → (kvs.any fun e => keyEq e.1 (keyP k)) = l.any fun kv => decide (kv.1 = k)
  | [], l, h => by have h : l = [] := h; subst h; rfl
  | (a, d) :: r, l, h => by
    obtain ⟨kk, v, l', rfl, rfl, h1, h2⟩ := h
    rw [List.any_cons, List.any_cons, RepKv.anyK h2, keyEq_P]
theorem RepKv.repl {k : Key} {p : P} {v : V} (hv : Rep K F H p v) : ∀ {kvs : List (P × P)} {l : List (Key × V)}, RepKv K F H kvs l →
    RepKv K F H (kvs.map fun e => if keyEq e.1 (keyP k) = true then (e.1, p) else e) (l.map fun kv => if kv.1 = k then (kv.1, v) else kv)
  | [], l, h => by have h : l = [] := h; subst h; rfl
  | (a, d) :: r, l, h => by
    obtain ⟨kk, u, l', rfl, rfl, h1, h2⟩ := h
    have ih := RepKv.repl (k := k) hv h2
    rw [List.map_cons, List.map_cons, keyEq_P]
    by_cases e : kk = k
    · rw [decide_eq_true e, if_pos rfl, if_pos e]
      exact ⟨kk, v, _, rfl, rfl, hv, ih⟩
    · rw [decide_eq_false e, if_neg (by decide), if_neg e]
      exact ⟨kk, u, _, rfl, rfl, h1, ih⟩
theorem RepKv.append : ∀ {kvs es : List (P × P)} {l m : List (Key × V)}, RepKv K F H kvs l → RepKv K F H es m → RepKv K F H (kvs ++ es) (l ++ m)
  | [], _, _, _, h, h' => by have h : _ = [] := h; subst h; exact h'
  | (a, d) :: r, _, _, _, h, h' => by
    obtain ⟨kk, u, l', rfl, rfl, h1, h2⟩ := h
    exact ⟨kk, u, _, rfl, rfl, h1, RepKv.append h2 h'⟩
theorem RepKv.put {k : Key} {p : P} {v : V} {kvs : List (P × P)} {l : List (Key × V)} (h : RepKv K F H kvs l) (hv : Rep K F H p v) : RepKv K F H (putKP kvs (keyP k) p) (putK l k v) := by
  unfold putKP putK
  rw [h.anyK]
  split
  · exact h.repl hv
  · exact h.append ⟨k, v, [], rfl, rfl, hv, rfl⟩
end
def D.dic : D → Option (List (P × P))
  | .d (.dict kvs) => some kvs
  | .bor (.dict kvs) => some kvs
  | _ => none
def D.key : D → Option P
  | .d (.int i) => some (.int i)
  | .d (.str x) => some (.str x)
  | _ => none
theorem dic_rep {K : PySem.W.Frag} {F : Addr → Prop} {H : Hp} {et : List Addr} {d : D} {kvs : List (P × P)} {v : V} (e : d.dic = some kvs) (h : RepD K F H et d v) : ∃ a l, v = .ref a ∧ Rd H a (.dK l) ∧ RepKv K F H kvs l := by
  cases d with
  | d p =>
    cases p with
    | dict ds => cases e; obtain ⟨a, l, rfl, h1, _, h2⟩ := h; exact ⟨a, l, rfl, h1, h2⟩
    | _ => cases e
  | bor p =>
    cases p with
    | dict ds => cases e; obtain ⟨a, l, rfl, h1, _, h2⟩ := h; exact ⟨a, l, rfl, .inl h1, h2⟩
    | _ => cases e
  | cell n => cases e
  | scr n => cases e
  | nest n => cases e
theorem dgetR {H : Hp} {a : Addr} {kvs : List (Key × V)} {k : Key} (e : Rd H a (.dK kvs)) : DGet H a (kV k) (valV kvs k) := .inl ⟨kvs, k, e, rfl, rfl⟩
theorem key_repD {K : PySem.W.Frag} {F : Addr → Prop} {H : Hp} {et : List Addr} {d : D} {p : P} {v : V} (e : d.key = some p) (h : RepD K F H et d v) : ∃ k, p = keyP k ∧ v = kV k := by
  cases d with
  | d q =>
    cases q with
    | int i => cases e; exact ⟨.inl i, rfl, h⟩
    | str i => cases e; exact ⟨.inr i, rfl, h⟩
    | _ => cases e
  | _ => cases e
/-- key in d -/
def fInD (neg : Bool) (x y : D) : M D := fun g => match x.key, y.dic with
  | some k, some kvs => .ok (.d (.bool (if neg then !(getKP kvs k).isSome else (getKP kvs k).isSome))) g
  | _, _ => .stuck
/-- d[key] -/
def fIxD (x y : D) : M D := fun g => match x.dic, y.key with
  | some kvs, some k => (match getKP kvs k with | some p => .ok (.d p) g | none => .stuck)
  | _, _ => .stuck
/-- d.get(key, e) -/
def eGet2 (a b c : Ev) : Ev := fun env g => (a env g).bind fun x g1 => (match x.dic with
  | some kvs => (b env g1).bind fun y g2 => (c env g2).bind fun z g3 => (match y.key, z with
    | some k, .d q => .ok (.d ((getKP kvs k).getD q)) g3
    | _, _ => .stuck)
  | none => .stuck)
def eDict0 : Ev := fun _ g => .ok (.d (.dict [])) g
/-- x[key] = e, x an own dict -/
def sPutD (i : Nat) (mk mv : Ev) : Sv := fun env g => (mv env g).bindS fun v g1 => match env[i]? with
  | some (.own (.dict kvs)) => (mk env g1).bindS fun y g2 => (match y.key, v with
    | some k, .d p => if kvs.length < sizeLine then .next (env.set i (.own (.dict (putKP kvs k p)))) g2 else .stuck
    | _, _ => .stuck)
  | _ => .stuck
section
variable {X : Cx} {W : WX} {k : Nat} {e a b o : Expr} {es : List Expr} {m ma mb mo mc : Ev} {ms : Evs} {pos : Pos}
theorem inD_of {σ : L2.St} {H : Hp} {Q : VK} (h : mE X.K X.mg W (eOp (fInD false) ma mb) σ H Q) : tDIn (mE X.K X.mg W ma) (mE X.K X.mg W mb) σ H Q := by
  obtain ⟨B, et, O, env, g, rl, h⟩ := h
  exact ⟨B, et, O, env, g, rl, wG.bind h fun d1 g1 v1 H1 e1 _ rl1 fr1 r1 h1 => ⟨B, e1, O, env, g1, rl1, wG.bind h1 fun d2 g2 v2 H2 e2 _ rl2 fr2 r2 h2 => by
    unfold fInD at h2
    split at h2
    · rename_i kk kvs ek ed
      obtain ⟨ad, l, rfl, h3, h4⟩ := dic_rep ed r2
      obtain ⟨key, rfl, rfl⟩ := key_repD ek (RepD.fr r1 fr2)
      refine ⟨ad, _, rfl, dgetR h3, ?_⟩
      rw [← h4.isSome]
      exact h2.here rl2 rfl
    · exact h2.elim⟩⟩
theorem se_inD {b : Expr} (c : Cxt X W k) (ha : SE X W a ma) (hb : SE X W b mb) (hm : behindInMarks .In b = false := by first | exact nobehind _ (by decide) (by decide) | rfl) : SE X W (.Compare a [.In] [b] pos) (eOp (fInD false) ma mb) :=
  pe_imp (pe_cmp (pc_din (by have := un64 c.hr; omega) ha hb) hm) fun _ _ _ h => inD_of h
theorem st_inD {b : Expr} (c : Cxt X W k) (ha : SE X W a ma) (hb : SE X W b mb) (hm : behindInMarks .In b = false := by first | exact nobehind _ (by decide) (by decide) | rfl) : ST X W (.Compare a [.In] [b] pos) (tv (eOp (fInD false) ma mb)) :=
  pt_imp (pt_cmp (pc_din (by have := un64 c.hr; omega) ha hb) hm) fun _ _ _ h => inD_of (tv_of h)
theorem notInD_of {σ : L2.St} {H : Hp} {Q : VK} (h : mE X.K X.mg W (eOp (fInD true) ma mb) σ H Q) : tDNotIn (mE X.K X.mg W ma) (mE X.K X.mg W mb) σ H Q := by
  obtain ⟨B, et, O, env, g, rl, h⟩ := h
  exact ⟨B, et, O, env, g, rl, wG.bind h fun d1 g1 v1 H1 e1 _ rl1 fr1 r1 h1 => ⟨B, e1, O, env, g1, rl1, wG.bind h1 fun d2 g2 v2 H2 e2 _ rl2 fr2 r2 h2 => by
    unfold fInD at h2
    split at h2
    · rename_i kk kvs ek ed
      obtain ⟨ad, l, rfl, h3, h4⟩ := dic_rep ed r2
      obtain ⟨key, rfl, rfl⟩ := key_repD ek (RepD.fr r1 fr2)
      refine ⟨ad, _, rfl, dgetR h3, ?_⟩
      rw [← h4.isSome]
      exact h2.here rl2 rfl
    · exact h2.elim⟩⟩
theorem se_notInD {b : Expr} (c : Cxt X W k) (ha : SE X W a ma) (hb : SE X W b mb) (hm : behindInMarks .NotIn b = false := by first | exact nobehind _ (by decide) (by decide) | rfl) : SE X W (.Compare a [.NotIn] [b] pos) (eOp (fInD true) ma mb) :=
  pe_imp (pe_cmp (pc_dnotin (by have := un64 c.hr; omega) ha hb) hm) fun _ _ _ h => notInD_of h
theorem st_notInD {b : Expr} (c : Cxt X W k) (ha : SE X W a ma) (hb : SE X W b mb) (hm : behindInMarks .NotIn b = false := by first | exact nobehind _ (by decide) (by decide) | rfl) : ST X W (.Compare a [.NotIn] [b] pos) (tv (eOp (fInD true) ma mb)) :=
  pt_imp (pt_cmp (pc_dnotin (by have := un64 c.hr; omega) ha hb) hm) fun _ _ _ h => notInD_of (tv_of h)
theorem se_ixD {b : Expr} (c : Cxt X W k) (ha : SE X W a ma) (hb : SE X W b mb) (hs : NoSl b := by exact fun _ _ => rfl) : SE X W (.Subscript a b pos) (eOp fIxD ma mb) :=
  pe_imp (pe_dget (by have := un64 c.hr; omega) ha hb hs) fun σ H Q ⟨B, et, O, env, g, rl, h⟩ => ⟨B, et, O, env, g, rl, wG.bind h fun d1 g1 v1 H1 e1 _ rl1 fr1 r1 h1 => ⟨B, e1, O, env, g1, rl1, wG.bind h1 fun d2 g2 v2 H2 e2 _ rl2 fr2 r2 h2 => by
    unfold fIxD at h2
    split at h2
    · rename_i kvs kk ed ek
      obtain ⟨ad, l, rfl, h3, h4⟩ := dic_rep ed (RepD.fr r1 fr2)
      obtain ⟨key, rfl, rfl⟩ := key_repD ek r2
      have hf := h4.find (k := key)
      split at h2
      · rename_i p ep
        rw [ep] at hf
        obtain ⟨v, h5, h6⟩ := hf
        exact ⟨ad, v, rfl, by rw [← h5]; exact dgetR h3, h2.here rl2 h6⟩
      · exact h2.elim
    · exact h2.elim⟩⟩
theorem se_get2 {b d : Expr} {ap cp : Pos} (c : Cxt X W k) (ha : SE X W a ma) (hb : SE X W b mb) (hd : SE X W d mc) (hm : M2 X a "get" ap b d cp := by exact ⟨by rfl, by rfl, by rfl, by rfl⟩) : SE X W (.Call (.Attribute a "get" ap) [b, d] [] cp) (eGet2 ma mb mc) :=
  pe_imp (pe_dget2 (by have := un64 c.hr; omega) ha hb hd hm) fun σ H Q ⟨B, et, O, env, g, rl, h⟩ => ⟨B, et, O, env, g, rl, wG.bind h fun d1 g1 v1 H1 e1 _ rl1 fr1 r1 h1 => by
    split at h1
    rotate_left
    · exact h1.elim
    rename_i kvs ed
    obtain ⟨ad, l, rfl, h3, h4⟩ := dic_rep ed r1
    refine ⟨ad, rfl, .inl ⟨l, h3⟩, B, e1, O, env, g1, rl1, wG.bind h1 fun d2 g2 v2 H2 e2 _ rl2 fr2 r2 h2 => ⟨B, e2, O, env, g2, rl2, wG.bind h2 fun d3 g3 v3 H3 e3 _ rl3 fr3 r3 h3' => ?_⟩⟩
    split at h3'
    rotate_left
    · exact h3'.elim
    rename_i kk q ek _
    obtain ⟨ad', l', ea, h5, h6⟩ := dic_rep ed (RepD.fr r1 (fr2.trans fr3))
    cases ea
    obtain ⟨key, rfl, rfl⟩ := key_repD ek (RepD.fr r2 fr3)
    refine ⟨_, dgetR h5, ?_⟩
    have hf := h6.find (k := key)
    cases ep : getKP kvs (keyP key) with
    | none =>
      rw [ep] at hf h3'
      rw [hf]
      exact h3'.here rl3 r3
    | some p =>
      rw [ep] at hf h3'
      obtain ⟨v, h7, h8⟩ := hf
      rw [h7]
      exact h3'.here rl3 h8⟩
theorem sf_dict0 : SF X W (.Dict [] [] pos) eDict0 :=
  ⟨pe_imp pe_dnewK fun σ H Q ⟨B, et, O, env, g, rl, h⟩ p hp => wF.new h rl hp ⟨[], upd_same, rfl⟩, fun _ _ _ _ h => by cases h; exact .inr ⟨_, rfl⟩⟩
theorem own_dic {K : PySem.W.Frag} {B : Addr → Prop} {et O : List Addr} {env : En} {g : G} {σ : L2.St} {H : Hp} {i : Nat} {ps : List (P × P)} (r : Rl K B et O env g σ H) (ei : env[i]? = some (.own (.dict ps))) :
    ∃ a vs, σ[i]? = some (some (.ref a)) ∧ a ∈ O ∧ H a = some (.dK vs) ∧ RepKv K (FF B et O) H ps vs := r.slot i _ ei
theorem ss_putD {i : Nat} {x : Str} {xp pos' : Pos} (c : Cxt X W k) (ha : SE X W a ma) (hb : SE X W b mb) (hN : X.N[i]? = some x := by rfl) (hv : Vis X.env.scope x := by first | exact .inl rfl | exact .inr (.inl rfl) | exact .inr (.inr rfl))
    (hd : (x == ("__debug__" : Str)) = false := by decide) (hcd : (x == ("__classdict__" : Str)) = false := by decide)
    (hs : swapsWith a (some (.Subscript (.Name x xp) b pos')) pos.line X.env = pure false := by rfl) : SS X W (.Assign [.Subscript (.Name x xp) b pos'] a pos) (sPutD i mb ma) :=
  ps_imp (ps_dput (by have := un64 c.hr; omega) (pe_var (i := i) hN hv hd hcd) hb ha hs) fun D σ H ⟨B, et, O, env, g, rl, h⟩ => ⟨B, et, O, env, g, rl, wS.bind h fun d1 g1 v1 H1 e1 _ rl1 fr1 r1 h1 => by
    split at h1
    rotate_left
    · exact h1.elim
    rename_i kvs ei
    obtain ⟨ad, l, es, ma', h2, h3⟩ := own_dic rl1 ei
    refine ⟨.ref ad, es, B, e1, O, env, g1, rl1, wS.bind h1 fun d2 g2 v2 H2 e2 _ rl2 fr2 r2 h4 => ?_⟩
    split at h4
    rotate_left
    · exact h4.elim
    rename_i kk p ek _
    split at h4
    rotate_left
    · exact h4.elim
    rename_i hz
    obtain ⟨key, rfl, rfl⟩ := key_repD ek r2
    have ha2 : H2 ad = some (.dK l) := fr2.keep _ _ h2 (rl1.dO ad ma').1 (fun q => (nomatch q))
    have h3' := h3.fr fr2
    have f : FrS O O e2 e2 H2 (upd H2 ad (.dK (putK l key v1))) := frS_upd ma' (noTup_dK ha2)
    refine ⟨ad, _, rfl, DPut.k ha2 (by rw [← h3.length]; exact hz), ?_⟩
    exact h4 σ _ e2 O (rl2.updOwn ei es ma' (noTup_dK ha2) ⟨_, upd_same, (h3'.put (RepD.fr (d := .d _) r1 fr2)).frS f⟩) f⟩
end
/-! ### comprehensions with two clauses -/
def compL2 (tg : Ptv) (tt : Tv) (m1 : Iv) (tg1 : Ptv) (tt1 : Tv) (elt : Ev) (vs1 : List Nat) (env0 : En) : List D → G → R (List P)
  | [], g => .ok [] g
  | d :: ds, g => if d.isB then .stuck else match tg d env0 with
    | some env => (tt env g).ne.bind fun b g1 => if b = true then (m1 env g1).ne.bind fun ds1 g2 => (compL tg1 tt1 elt (wipeE env vs1) ds1 g2).bind fun r g3 => (compL2 tg tt m1 tg1 tt1 elt vs1 env0 ds g3).bind fun r' g4 => .ok (r ++ r') g4
        else compL2 tg tt m1 tg1 tt1 elt vs1 env0 ds g1
    | none => .stuck
def eComp2 (m : Iv) (tg : Ptv) (tt : Tv) (m1 : Iv) (tg1 : Ptv) (tt1 : Tv) (elt : Ev) (vs vs1 : List Nat) : Ev := fun env g => (m env g).bind fun ds g1 => (compL2 tg tt m1 tg1 tt1 elt vs1 (wipeE env vs) ds g1).bind fun r g2 => if r.length ≤ sizeLine then .ok (.d (.list r)) g2 else .stuck
theorem compL2_drop {tg : Ptv} {tt : Tv} {m1 : Iv} {tg1 : Ptv} {tt1 : Tv} {elt : Ev} {vs1 : List Nat} {env0 : En} {ds : List D} {i : Nat} (h : i < ds.length) (g : G) : compL2 tg tt m1 tg1 tt1 elt vs1 env0 (ds.drop i) g = (if (ds[i]).isB then R.stuck else match tg ds[i] env0 with
    | some env => (tt env g).ne.bind fun b g1 => if b = true then (m1 env g1).ne.bind fun ds1 g2 => (compL tg1 tt1 elt (wipeE env vs1) ds1 g2).bind fun r g3 => (compL2 tg tt m1 tg1 tt1 elt vs1 env0 (ds.drop (i + 1)) g3).bind fun r' g4 => .ok (r ++ r') g4
        else compL2 tg tt m1 tg1 tt1 elt vs1 env0 (ds.drop (i + 1)) g1
    | none => .stuck) := by
  rw [List.drop_eq_getElem_cons h]; rfl
theorem newR_comp2 {m : Iv} {tg : Ptv} {tt : Tv} {m1 : Iv} {tg1 : Ptv} {tt1 : Tv} {elt : Ev} {vs vs1 : List Nat} : NewR (eComp2 m tg tt m1 tg1 tt1 elt vs vs1) := fun env g d g' e => by
  unfold eComp2 at e
  cases e1 : m env g with
  | stuck => rw [e1] at e; cases e
  | err _ _ => rw [e1] at e; cases e
  | ok ds g1 =>
    rw [e1] at e
    dsimp only [R.bind] at e
    cases e2 : compL2 tg tt m1 tg1 tt1 elt vs1 (wipeE env vs) ds g1 with
    | stuck => rw [e2] at e; cases e
    | err _ _ => rw [e2] at e; cases e
    | ok r g2 =>
      rw [e2] at e
      dsimp only at e
      split at e
      · cases e; exact .inl ⟨_, rfl⟩
      · cases e
section
variable {X : Cx} {W : WX} {k : Nat} {iter tg iter1 tg1 elt : Expr} {ifs ifs1 : List Expr} {scope : Scope} {own : List (Str × Nat)} {mi mi1 : Iv} {f f1 : Ptv} {ts ts1 : List Nat} {tt tt1 : Tv} {me : Ev} {pos : Pos}
theorem compL2_noErr {tt : Tv} {vs1 : List Nat} {env0 : En} : ∀ (ds : List D) (g : G) (ex : Exn) (g' : G), compL2 f tt mi1 f1 tt1 me vs1 env0 ds g ≠ .err ex g'
  | [], g, ex, g', h => (nomatch h)
  | d :: ds, g, ex, g', h => by
    unfold compL2 at h
    split at h
    · cases h
    · split at h
      · rename_i env1 _
        cases e1 : (tt env1 g).ne with
        | stuck => rw [e1] at h; cases h
        | err _ _ => exact ne_err e1
        | ok b g1 =>
          rw [e1] at h
          dsimp only [R.bind] at h
          split at h
          · cases e2 : (mi1 env1 g1).ne with
            | stuck => rw [e2] at h; cases h
            | err _ _ => exact ne_err e2
            | ok y g2 =>
              rw [e2] at h
              dsimp only at h
              cases e3 : compL f1 tt1 me (wipeE env1 vs1) y g2 with
              | stuck => rw [e3] at h; cases h
              | err _ _ => exact compL_noErr _ _ _ _ e3
              | ok r g3 =>
                rw [e3] at h
                dsimp only at h
                cases e4 : compL2 f tt mi1 f1 tt1 me vs1 env0 ds g3 with
                | stuck => rw [e4] at h; cases h
                | err _ _ => exact compL2_noErr _ _ _ _ e4
                | ok r' g4 => rw [e4] at h; cases h
          · exact compL2_noErr ds g1 ex g' h
      · cases h
/-- what is wanted of the rest, lengths told -/
def CV (K : PySem.W.Frag) (B : Addr → Prop) (O : List Addr) (env : En) (σ : L2.St) (e1 : List Addr) (H1 : Hp) (Dn : Addr) (Q : VK) (r : R (List P)) (ps : List P) : Prop := match r with
  | .ok rest g3 => (ps ++ rest).length ≤ sizeLine ∧ ∀ H' et' vs, Rl K (BU B Dn) et' O env g3 σ H' → Fr [] e1 et' H1 H' → H' Dn = some (.lst vs) → Reps K (FF (BU B Dn) et' O) H' (ps ++ rest) vs → Q (.ref Dn) H'
  | _ => False
/-- .. within the inner walk: what is left of it, then the outer rest -/
def CVI (K : PySem.W.Frag) (B : Addr → Prop) (O : List Addr) (env : En) (σ : L2.St) (e1 : List Addr) (H1 : Hp) (Dn : Addr) (Q : VK) (r : R (List P)) (rest : G → R (List P)) (ps : List P) : Prop := match r with
  | .ok r1 g3 => CV K B O env σ e1 H1 Dn Q (rest g3) (ps ++ r1)
  | _ => False
theorem CV.bind {K : PySem.W.Frag} {B : Addr → Prop} {O : List Addr} {env : En} {σ : L2.St} {e1 : List Addr} {H1 : Hp} {Dn : Addr} {Q : VK} {r : R (List P)} {rest : G → R (List P)} {ps : List P}
    (h : CV K B O env σ e1 H1 Dn Q (r.bind fun r g3 => (rest g3).bind fun r' g4 => .ok (r ++ r') g4) ps) : CVI K B O env σ e1 H1 Dn Q r rest ps := by
  cases r with
  | stuck => exact h
  | err _ _ => exact h
  | ok r1 g3 =>
    show CV K B O env σ e1 H1 Dn Q (rest g3) (ps ++ r1)
    have h : CV K B O env σ e1 H1 Dn Q ((rest g3).bind fun r' g4 => .ok (r1 ++ r') g4) ps := h
    cases e : rest g3 with
    | stuck => rw [e] at h; exact h
    | err _ _ => rw [e] at h; exact h
    | ok r2 g4 =>
      rw [e] at h
      obtain ⟨h1, h2⟩ := h
      refine ⟨by rw [List.append_assoc]; exact h1, fun H' et' vs q1 q2 q3 q4 => h2 H' et' vs q1 q2 q3 ?_⟩
      rw [List.append_assoc] at q4; exact q4
theorem CVI.cons {K : PySem.W.Frag} {B : Addr → Prop} {O : List Addr} {env : En} {σ : L2.St} {e1 : List Addr} {H1 : Hp} {Dn : Addr} {Q : VK} {r : R (List P)} {rest : G → R (List P)} {ps : List P} {p : P}
    (h : CVI K B O env σ e1 H1 Dn Q (r.bind fun r g3 => .ok (p :: r) g3) rest ps) : CVI K B O env σ e1 H1 Dn Q r rest (ps ++ [p]) := by
  cases r with
  | stuck => exact h
  | err _ _ => exact h
  | ok r1 g3 =>
    have h : CV K B O env σ e1 H1 Dn Q (rest g3) (ps ++ p :: r1) := h
    show CV K B O env σ e1 H1 Dn Q (rest g3) ((ps ++ [p]) ++ r1)
    rw [List.append_assoc]; exact h
theorem CV.lt {K : PySem.W.Frag} {B : Addr → Prop} {O : List Addr} {env : En} {σ : L2.St} {e1 : List Addr} {H1 : Hp} {Dn : Addr} {Q : VK} {r : R (List P)} {ps : List P} (h : CV K B O env σ e1 H1 Dn Q r ps) : ps.length ≤ sizeLine := by
  cases r with
  | ok r g => exact Nat.le_trans (by rw [List.length_append]; omega) h.1
  | _ => exact h.elim
theorem CVI.lt {K : PySem.W.Frag} {B : Addr → Prop} {O : List Addr} {env : En} {σ : L2.St} {e1 : List Addr} {H1 : Hp} {Dn : Addr} {Q : VK} {r : R (List P)} {rest : G → R (List P)} {ps : List P} {p : P} (h : CVI K B O env σ e1 H1 Dn Q (r.bind fun r g3 => .ok (p :: r) g3) rest ps) : ps.length < sizeLine := by
  have h := CVI.cons h
  cases r with
  | ok r g => have := CV.lt (ps := (ps ++ [p]) ++ r) h; rw [List.length_append, List.length_append, List.length_singleton] at this; omega
  | _ => exact h.elim
theorem Rl.toOwn {K : PySem.W.Frag} {B : Addr → Prop} {et O : List Addr} {env : En} {g : G} {σ : L2.St} {H : Hp} {a : Addr} (r : Rl K (BU B a) et O env g σ H) (nB : ¬ B a) : Rl K B et (a :: O) env g σ H := by
  have hF : ∀ x, FF B et (a :: O) x → FF (BU B a) et O x := fun x h => FF.bu.mpr h
  refine ⟨r.cel.weak hF, fun x h => r.live x (hF x h), fun x h => r.dB x (.inl h), fun x h => ?_, r.len, fun i s e => ?_, r.sep⟩
  · rcases List.mem_cons.mp h with q | q
    · subst q; exact ⟨r.dB x (.inr rfl), nB⟩
    · exact ⟨(r.dO x q).1, fun z => (r.dO x q).2 (.inl z)⟩
  · have z := r.slot i s e
    cases s with
    | un => trivial
    | sh d => obtain ⟨n, v, e1, r1⟩ := z; exact ⟨n, v, e1, RepD.weak hF (fun x q => .inr (.inl q)) r1⟩
    | own d =>
      cases d with
      | list ds => obtain ⟨y, vs, e1, my, h1, h2⟩ := z; exact ⟨y, vs, e1, List.mem_cons_of_mem _ my, h1, h2.weak hF⟩
      | dict ds => obtain ⟨y, vs, e1, my, h1, h2⟩ := z; exact ⟨y, vs, e1, List.mem_cons_of_mem _ my, h1, RepKv.mono (et := []) (Fr.refl [] [] H) (fun _ q => (nomatch q)) (fun _ q => (nomatch q)) (fun a q => .inl (hF a q)) _ _ h2⟩
      | _ => exact z.elim
theorem Rl.unOwn {K : PySem.W.Frag} {B : Addr → Prop} {et O : List Addr} {env env0 : En} {g g0 : G} {σ σ0 : L2.St} {H H0 : Hp} {et0 : List Addr} {a : Addr} (r0 : Rl K (BU B a) et0 O env0 g0 σ0 H0) (r : Rl K B et (a :: O) env g σ H)
    (hs : ∀ (i : Nat) (d : P), env[i]? = some (Sl.own d) → ∃ d', env0[i]? = some (Sl.own d')) (hσ : σ = σ0) : Rl K (BU B a) et O env g σ H := by
  subst hσ
  have hF : ∀ x, FF (BU B a) et O x → FF B et (a :: O) x := fun x h => FF.bu.mp h
  have hna := (r.dO a List.mem_cons_self)
  have ha0 : ∀ x ∈ O, x ≠ a := fun x h q => (r0.dO x h).2 (.inr q)
  have inO : ∀ {i : Nat} {d : P} {y : Addr}, env[i]? = some (.own d) → σ[i]? = some (some (.ref y)) → y ∈ a :: O → y ∈ O := fun {i d y} e1 e2 m => by
    rcases List.mem_cons.mp m with q | q
    · obtain ⟨d', e3⟩ := hs i d e1
      have z := r0.slot i _ e3
      cases d' with
      | list ds => obtain ⟨y', vs, e4, my, _⟩ := z; rw [e2] at e4; cases e4; exact my
      | dict ds => obtain ⟨y', vs, e4, my, _⟩ := z; rw [e2] at e4; cases e4; exact my
      | _ => exact z.elim
    · exact q
  refine ⟨r.cel.weak hF, fun x h => r.live x (hF x h), fun x h => ?_, fun x h => ⟨(r.dO x (List.mem_cons_of_mem _ h)).1, fun z => ?_⟩, r.len, fun i s e => ?_, r.sep⟩
  · rcases h with h | h
    · exact r.dB x h
    · rw [h]; exact hna.1
  · rcases z with z | z
    · exact (r.dO x (List.mem_cons_of_mem _ h)).2 z
    · exact ha0 x h z
  · have z := r.slot i s e
    cases s with
    | un => trivial
    | sh d => obtain ⟨n, v, e1, r1⟩ := z; exact ⟨n, v, e1, RepD.weak hF (fun x q => .inr (.inl q)) r1⟩
    | own d =>
      cases d with
      | list ds => obtain ⟨y, vs, e1, my, h1, h2⟩ := z; exact ⟨y, vs, e1, inO e e1 my, h1, h2.weak hF⟩
      | dict ds => obtain ⟨y, vs, e1, my, h1, h2⟩ := z; exact ⟨y, vs, e1, inO e e1 my, h1, RepKv.mono (et := []) (Fr.refl [] [] H) (fun _ q => (nomatch q)) (fun _ q => (nomatch q)) (fun a q => .inl (hF a q)) _ _ h2⟩
      | _ => exact z.elim
theorem comp2_of {vs vs1 : List Nat} (hts : ∀ t ∈ ts, t ∈ vs) (hts1 : ∀ t ∈ ts1, t ∈ vs1) {σ : L2.St} {H : Hp} {Q : VK} (h : mF X.K X.mg W (eComp2 mi f tt mi1 f1 tt1 me vs vs1) σ H Q) :
    tLc2 (mI false X.K X.mg W mi) (mP X.K ts f) (mT X.K X.mg W0 tt) (mI true X.K X.mg W0 mi1) (mP X.K ts1 f1) (mT X.K X.mg W0 tt1) (mE X.K X.mg W0 me) vs vs1 σ H Q := by
  obtain ⟨B, et, O, env, g, rl, h⟩ := h
  refine ⟨B, et, O, env, g, rl, wF.bind h fun ds g1 J H1 e1 ee rl1 fr1 it h1 Dn hD => ?_⟩
  refine ⟨fun i m H2 => (m = ds.length - i ∧ i ≤ ds.length) ∧ ∃ et2 g2 acc ps, Rl X.K (BU B Dn) et2 O env g2 σ H2 ∧ Fr [] e1 et2 H1 H2 ∧ H2 Dn = some (.lst acc) ∧ Reps X.K (FF (BU B Dn) et2 O) H2 ps acc ∧
      CV X.K B O env σ e1 H1 Dn Q (compL2 f tt mi1 f1 tt1 me vs1 (wipeE env vs) (ds.drop i) g2) ps, ⟨ds.length, ⟨by simp, Nat.zero_le _⟩, e1, g1, [], [], rl1.addB hD _, Fr.same (same_new hD), upd_same, rfl, ?_⟩, ?_⟩
  · rw [List.drop_zero]
    cases e : compL2 f tt mi1 f1 tt1 me vs1 (wipeE env vs) ds g1 with
    | stuck => rw [e] at h1; exact h1
    | err ex g3 => exact absurd e (compL2_noErr ds g1 ex g3)
    | ok r g3 =>
      rw [e] at h1
      dsimp only [R.bind] at h1
      split at h1
      rotate_left
      · exact h1.elim
      rename_i hz
      refine ⟨hz, ?_⟩
      intro H' et' us q1 q2 q3 q4
      exact h1 Dn H' et' q1 q2 hD ⟨us, q3, q4⟩
  rintro i m H2 ⟨⟨rfl, hle⟩, et2, g2, acc, ps, rl2, fr2, eD, hr, hc⟩
  have go := it (FF (BU B Dn) et2 O) et2 O H2 ⟨fr2, fun _ q => .inl q⟩ (fun a q => by
      rcases q with (q | q) | q | q
      · exact .inl (.inl q)
      · exact .inr (by rw [q]; exact hD)
      · exact (fr2.new a q).elim (fun z => .inl (.inr (.inl z))) .inr
      · exact .inl (.inr (.inr q))) (fun a q => .inr (.inl q)) i
  by_cases hlt : i < ds.length
  rotate_left
  · have z := Nat.le_of_not_lt hlt
    refine .inl ⟨go.2 (Nat.le_antisymm hle z), ?_⟩
    rw [List.drop_eq_nil_of_le z] at hc
    exact hc.2 H2 et2 acc rl2 fr2 eD (by rw [List.append_nil]; exact hr)
  refine .inr ⟨(go.1 hlt).1, fun H' => ∃ et2 g2 acc ps, Rl X.K (BU B Dn) et2 O env g2 σ H' ∧ Fr [] e1 et2 H1 H' ∧ H' Dn = some (.lst acc) ∧ Reps X.K (FF (BU B Dn) et2 O) H' ps acc ∧
      CV X.K B O env σ e1 H1 Dn Q (compL2 f tt mi1 f1 tt1 me vs1 (wipeE env vs) (ds.drop (i + 1)) g2) ps, fun H' q => ⟨ds.length - (i + 1), by omega, ⟨rfl, hlt⟩, q⟩, fun x H3 hy => ?_⟩
  obtain ⟨sm, hx⟩ := (go.1 hlt).2 x H3 hy
  rw [compL2_drop hlt] at hc
  by_cases hbr : (ds[i]).isB = true
  · rw [if_pos hbr] at hc; exact hc.elim
  rw [if_neg hbr] at hc
  split at hc
  rotate_left
  · exact hc.elim
  rename_i env3 e3
  have rl3 := rl2.same sm
  have fr3 : Fr [] e1 et2 H1 H3 := fr2.trans (Fr.same sm)
  have eD3 : H3 Dn = some (.lst acc) := sm _ _ eD
  have hr3 : Reps X.K (FF (BU B Dn) et2 O) H3 ps acc := hr.fr (Fr.same sm)
  have nD : ∀ {et : List Addr} {env : En} {g : G} {σ : L2.St} {H : Hp}, Rl X.K (BU B Dn) et O env g σ H → Dn ∉ et := fun r => r.dB Dn (.inr rfl)
  refine ⟨BU B Dn, et2, O, wipeE env vs, g2, ds[i], rl3.wipe vs, nb_ofB hbr, hx _ (List.getElem?_eq_getElem hlt), env3, e3, fun σ2 rl4 ag => ⟨wipe_agree ag hts, ?_⟩⟩
  refine ⟨BU B Dn, et2, O, env3, g2, rl4, ?_⟩
  cases et' : tt env3 g2 with
  | stuck => rw [et'] at hc; exact hc.elim
  | err ex g3 => rw [et'] at hc; exact hc.elim
  | ok b g3 =>
    rw [et'] at hc
    intro v H4 et4 rl5 fr5 eb
    have eb : b = v := eb
    subst eb
    have hc : CV X.K B O env σ e1 H1 Dn Q (if b = true then (mi1 env3 g3).ne.bind fun ds1 g2 => (compL f1 tt1 me (wipeE env3 vs1) ds1 g2).bind fun r g3 => (compL2 f tt mi1 f1 tt1 me vs1 (wipeE env vs) (ds.drop (i + 1)) g3).bind fun r' g4 => .ok (r ++ r') g4
        else compL2 f tt mi1 f1 tt1 me vs1 (wipeE env vs) (ds.drop (i + 1)) g3) ps := hc
    have eD4 : H4 Dn = some (.lst acc) := fr5.keep _ _ eD3 (nD rl3) (fun q => (nomatch q))
    cases b with
    | false => exact ⟨et4, g3, acc, ps, rl3.inner fr5 rl5, fr3.trans fr5, eD4, hr3.fr fr5, hc⟩
    | true =>
      rw [if_pos rfl] at hc ⊢
      have nBD : ¬ B Dn := fun z => rl1.live Dn (.inl z) hD
      refine ⟨B, et4, Dn :: O, env3, g3, rl5.toOwn nBD, ?_⟩
      cases ei : mi1 env3 g3 with
      | stuck => rw [ei] at hc; exact hc.elim
      | err ex g4 => rw [ei] at hc; exact hc.elim
      | ok ds1 g4 =>
        rw [ei] at hc
        intro J1 H5 et5 rl6' fr6 it1
        have rl6 : Rl X.K (BU B Dn) et5 O env3 g4 σ2 H5 := Rl.unOwn rl5 rl6' (fun i d e => ⟨d, e⟩) rfl
        have hc : CV X.K B O env σ e1 H1 Dn Q ((compL f1 tt1 me (wipeE env3 vs1) ds1 g4).bind fun r g3 => (compL2 f tt mi1 f1 tt1 me vs1 (wipeE env vs) (ds.drop (i + 1)) g3).bind fun r' g4 => .ok (r ++ r') g4) ps := hc
        have hc := CV.bind hc
        have eD5 : H5 Dn = some (.lst acc) := fr6.keep _ _ eD4 (nD rl5) (fun q => (nomatch q))
        have fr56 : Fr [] et2 et5 H3 H5 := fr5.trans fr6
        refine ⟨fun j k H6 => (k = ds1.length - j ∧ j ≤ ds1.length) ∧ ∃ et6 g6 acc6 ps6, Rl X.K (BU B Dn) et6 O env g6 σ H6 ∧ Rl X.K (BU B Dn) et6 O env3 g6 σ2 H6 ∧ Fr [Dn] et5 et6 H5 H6 ∧ Fr [] e1 et6 H1 H6 ∧ H6 Dn = some (.lst acc6) ∧ Reps X.K (FF (BU B Dn) et6 O) H6 ps6 acc6 ∧
          CVI X.K B O env σ e1 H1 Dn Q (compL f1 tt1 me (wipeE env3 vs1) (ds1.drop j) g6) (fun g3 => compL2 f tt mi1 f1 tt1 me vs1 (wipeE env vs) (ds.drop (i + 1)) g3) ps6,
          ⟨ds1.length, ⟨by simp, Nat.zero_le _⟩, et5, g4, acc, ps, rl3.inner fr56 rl6, rl6, Fr.refl [Dn] et5 H5, fr3.trans fr56, eD5, hr3.fr fr56, by rw [List.drop_zero]; exact hc⟩, ?_⟩
        rintro j k H6 ⟨⟨rfl, hle1⟩, et6, g6, acc6, ps6, rlo, rl7, fr7, fr7', eD6, hr6, hc6⟩
        have go1 := it1 (FF (BU B Dn) et6 O) et6 (Dn :: O) H6 ⟨fr7.weak (fun x h => .inl (by rw [List.mem_singleton.mp h]; exact List.mem_cons_self)), fun _ q => .inl q⟩ (fun a q => by
          rcases q with (q | q) | q | q
          · exact .inl (.inl q)
          · exact .inl (.inr (.inr (by rw [q]; exact List.mem_cons_self)))
          · exact (fr7.new a q).elim (fun z => .inl (.inr (.inl z))) .inr
          · exact .inl (.inr (.inr (List.mem_cons_of_mem _ q)))) (fun a q => .inr (.inl q)) j
        by_cases hlt1 : j < ds1.length
        rotate_left
        · have z := Nat.le_of_not_lt hlt1
          refine .inl ⟨go1.2 (Nat.le_antisymm hle1 z), ?_⟩
          rw [List.drop_eq_nil_of_le z] at hc6
          have hc6 : CV X.K B O env σ e1 H1 Dn Q (compL2 f tt mi1 f1 tt1 me vs1 (wipeE env vs) (ds.drop (i + 1)) g6) (ps6 ++ []) := hc6
          rw [List.append_nil] at hc6
          exact ⟨et6, g6, acc6, ps6, rlo, fr7', eD6, hr6, hc6⟩
        refine .inr ⟨(go1.1 hlt1).1, fun H' => ∃ et6 g6 acc6 ps6, Rl X.K (BU B Dn) et6 O env g6 σ H' ∧ Rl X.K (BU B Dn) et6 O env3 g6 σ2 H' ∧ Fr [Dn] et5 et6 H5 H' ∧ Fr [] e1 et6 H1 H' ∧ H' Dn = some (.lst acc6) ∧ Reps X.K (FF (BU B Dn) et6 O) H' ps6 acc6 ∧
          CVI X.K B O env σ e1 H1 Dn Q (compL f1 tt1 me (wipeE env3 vs1) (ds1.drop (j + 1)) g6) (fun g3 => compL2 f tt mi1 f1 tt1 me vs1 (wipeE env vs) (ds.drop (i + 1)) g3) ps6, fun H' q => ⟨ds1.length - (j + 1), by omega, ⟨rfl, hlt1⟩, q⟩, fun x1 H7 hy1 => ?_⟩
        obtain ⟨sm1, hx1⟩ := (go1.1 hlt1).2 x1 H7 hy1
        rw [compL_drop hlt1] at hc6
        by_cases hbr1 : (ds1[j]).isB = true
        · rw [if_pos hbr1] at hc6; exact hc6.elim
        rw [if_neg hbr1] at hc6
        split at hc6
        rotate_left
        · exact hc6.elim
        rename_i env8 e8
        have rl8 := rl7.same sm1
        have rlo8 := rlo.same sm1
        have wk : ∀ {e e' : List Addr} {h h' : Hp}, Fr [] e e' h h' → Fr [Dn] e e' h h' := fun z => z.weak fun x q => (nomatch q)
        have fr8 : Fr [Dn] et5 et6 H5 H7 := fr7.trans (Fr.same sm1)
        have fr8' : Fr [] e1 et6 H1 H7 := fr7'.trans (Fr.same sm1)
        have eD7 : H7 Dn = some (.lst acc6) := sm1 _ _ eD6
        have hr7 : Reps X.K (FF (BU B Dn) et6 O) H7 ps6 acc6 := hr6.fr (Fr.same sm1)
        refine ⟨BU B Dn, et6, O, wipeE env3 vs1, g6, ds1[j], rl8.wipe vs1, nb_ofB hbr1, hx1 _ (List.getElem?_eq_getElem hlt1), env8, e8, fun σ3 rl9 ag1 => ⟨wipe_agree ag1 hts1, ?_⟩⟩
        refine ⟨BU B Dn, et6, O, env8, g6, rl9, ?_⟩
        cases et1 : tt1 env8 g6 with
        | stuck => rw [et1] at hc6; exact hc6.elim
        | err ex g3 => rw [et1] at hc6; exact hc6.elim
        | ok b1 g9 =>
          rw [et1] at hc6
          intro v9 H9 et9 rl10 fr10 eb1
          have eb1 : b1 = v9 := eb1
          subst eb1
          have hc6 : CVI X.K B O env σ e1 H1 Dn Q (if b1 = true then (me env8 g9).ne.bind fun y g2 => (match y with
            | .d p => (compL f1 tt1 me (wipeE env3 vs1) (ds1.drop (j + 1)) g2).bind fun r g3 => .ok (p :: r) g3
            | _ => .stuck) else compL f1 tt1 me (wipeE env3 vs1) (ds1.drop (j + 1)) g9) (fun g3 => compL2 f tt mi1 f1 tt1 me vs1 (wipeE env vs) (ds.drop (i + 1)) g3) ps6 := hc6
          have eD9 : H9 Dn = some (.lst acc6) := fr10.keep _ _ eD7 (nD rl8) (fun q => (nomatch q))
          cases b1 with
          | false => exact ⟨et9, g9, acc6, ps6, rlo8.inner fr10 rl10, rl8.inner fr10 rl10, fr8.trans (wk fr10), fr8'.trans fr10, eD9, hr7.fr fr10, hc6⟩
          | true =>
            rw [if_pos rfl] at hc6 ⊢
            refine ⟨BU B Dn, et9, O, env8, g9, rl10, ?_⟩
            cases ey : me env8 g9 with
            | stuck => rw [ey] at hc6; exact hc6.elim
            | err ex g4 => rw [ey] at hc6; exact hc6.elim
            | ok y g10 =>
              rw [ey] at hc6
              intro v5 H10 et10 rl11 fr11 r6
              cases y with
              | d p =>
                have hc6 : CVI X.K B O env σ e1 H1 Dn Q ((compL f1 tt1 me (wipeE env3 vs1) (ds1.drop (j + 1)) g10).bind fun r g3 => .ok (p :: r) g3) (fun g3 => compL2 f tt mi1 f1 tt1 me vs1 (wipeE env vs) (ds.drop (i + 1)) g3) ps6 := hc6
                have eD10 : H10 Dn = some (.lst acc6) := fr11.keep _ _ eD9 (nD rl10) (fun q => (nomatch q))
                have hl := CVI.lt hc6
                rw [hr6.length] at hl
                refine ⟨acc6, eD10, hl, et10, g10, acc6 ++ [v5], ps6 ++ [p], ?_, ?_, ?_, ?_, upd_same, ?_, CVI.cons hc6⟩
                · exact (rlo8.inner (fr10.trans fr11) rl11).updB ⟨_, eD10⟩ _
                · exact (rl8.inner (fr10.trans fr11) rl11).updB ⟨_, eD10⟩ _
                · exact ((fr8.trans (wk fr10)).trans (wk fr11)).trans (fr_updA ⟨_, eD10⟩)
                · exact ((fr8'.trans fr10).trans fr11).updN hD ⟨_, eD10⟩ _
                · exact Reps.updB (((hr7.fr fr10).fr fr11).append (Reps.one r6)) ⟨_, eD10⟩ _
              | _ => exact hc6.elim
/-- [elt for tg in iter if .. for tg1 in iter1 if ..] -/
theorem sf_comp2 {vs1 : List Nat} (c : Cxt X W k) (hi : SI false X W tg iter mi) (ok : BlkOk X.N X.env.scope scope own)
    (hg : ∀ (s : Shared) (H : Hp) (C : Addr) (cl : List (Str × Addr)) (fp : List Addr), Cxt (X.blk s H scope (compEnvC scope cl C X.env) fp) W0 k → SP (X.blk s H scope (compEnvC scope cl C X.env) fp) tg ts f)
    (ht : ∀ (s : Shared) (H : Hp) (C : Addr) (cl : List (Str × Addr)) (fp : List Addr), Cxt (X.blk s H scope (compEnvC scope cl C X.env) fp) W0 k → STs (X.blk s H scope (compEnvC scope cl C X.env) fp) W0 ifs tt)
    (hi1 : ∀ (s : Shared) (H : Hp) (C : Addr) (cl : List (Str × Addr)) (fp : List Addr), Cxt (X.blk s H scope (compEnvC scope cl C X.env) fp) W0 k → SI true (X.blk s H scope (compEnvC scope cl C X.env) fp) W0 tg1 iter1 mi1)
    (hg1 : ∀ (s : Shared) (H : Hp) (C : Addr) (cl : List (Str × Addr)) (fp : List Addr), Cxt (X.blk s H scope (compEnvC scope cl C X.env) fp) W0 k → SP (X.blk s H scope (compEnvC scope cl C X.env) fp) tg1 ts1 f1)
    (ht1 : ∀ (s : Shared) (H : Hp) (C : Addr) (cl : List (Str × Addr)) (fp : List Addr), Cxt (X.blk s H scope (compEnvC scope cl C X.env) fp) W0 k → STs (X.blk s H scope (compEnvC scope cl C X.env) fp) W0 ifs1 tt1)
    (he : ∀ (s : Shared) (H : Hp) (C : Addr) (cl : List (Str × Addr)) (fp : List Addr), Cxt (X.blk s H scope (compEnvC scope cl C X.env) fp) W0 k → SE (X.blk s H scope (compEnvC scope cl C X.env) fp) W0 elt me)
    (hv : ∀ i ∈ vs1, i ∈ own.map (·.2) := by decide) (hts : ∀ t ∈ ts, t ∈ own.map (·.2) := by decide) (hts1 : ∀ t ∈ ts1, t ∈ vs1 := by decide) (hs : ∀ x, foldedSetIterable iter X.env x = pure x := by intro _; rfl) (hs1 : ∀ env x, foldedSetIterable iter1 env x = pure x := by intro _ _; rfl) :
    SF X W (.ListComp elt [⟨tg, iter, ifs, 0⟩, ⟨tg1, iter1, ifs1, 0⟩] scope pos) (eComp2 mi f tt mi1 f1 tt1 me (own.map (·.2)) vs1) :=
  ⟨pe_imp (pe_lc2 (g := mP X.K ts f) (tt := mT X.K X.mg W0 tt) (te := mE X.K X.mg W0 me) (wi1 := mI true X.K X.mg W0 mi1) (g1 := mP X.K ts1 f1) (tt1 := mT X.K X.mg W0 tt1) c.calm c.nd hi ok hv (fun s H C cl fp => hg s H C cl fp (c.blk s H scope _ fp)) (fun s H C cl fp => ht s H C cl fp (c.blk s H scope _ fp))
    (fun s H C cl fp => hi1 s H C cl fp (c.blk s H scope _ fp)) (fun s H C cl fp => hg1 s H C cl fp (c.blk s H scope _ fp)) (fun s H C cl fp => ht1 s H C cl fp (c.blk s H scope _ fp)) (fun s H C cl fp => he s H C cl fp (c.blk s H scope _ fp)) hs hs1) fun σ H Q h => comp2_of hts hts1 h, newR_comp2⟩
theorem lc2Asg {vs1 : List Nat} {i : Nat} {y : Str} {py spos : Pos} (c : Cxt X W k) (hi : SI false X W tg iter mi) (ok : BlkOk X.N X.env.scope scope own)
    (hg : ∀ (s : Shared) (H : Hp) (C : Addr) (cl : List (Str × Addr)) (fp : List Addr), Cxt (X.blk s H scope (compEnvC scope cl C X.env) fp) W0 k → SP (X.blk s H scope (compEnvC scope cl C X.env) fp) tg ts f)
    (ht : ∀ (s : Shared) (H : Hp) (C : Addr) (cl : List (Str × Addr)) (fp : List Addr), Cxt (X.blk s H scope (compEnvC scope cl C X.env) fp) W0 k → STs (X.blk s H scope (compEnvC scope cl C X.env) fp) W0 ifs tt)
    (hi1 : ∀ (s : Shared) (H : Hp) (C : Addr) (cl : List (Str × Addr)) (fp : List Addr), Cxt (X.blk s H scope (compEnvC scope cl C X.env) fp) W0 k → SI true (X.blk s H scope (compEnvC scope cl C X.env) fp) W0 tg1 iter1 mi1)
    (hg1 : ∀ (s : Shared) (H : Hp) (C : Addr) (cl : List (Str × Addr)) (fp : List Addr), Cxt (X.blk s H scope (compEnvC scope cl C X.env) fp) W0 k → SP (X.blk s H scope (compEnvC scope cl C X.env) fp) tg1 ts1 f1)
    (ht1 : ∀ (s : Shared) (H : Hp) (C : Addr) (cl : List (Str × Addr)) (fp : List Addr), Cxt (X.blk s H scope (compEnvC scope cl C X.env) fp) W0 k → STs (X.blk s H scope (compEnvC scope cl C X.env) fp) W0 ifs1 tt1)
    (he : ∀ (s : Shared) (H : Hp) (C : Addr) (cl : List (Str × Addr)) (fp : List Addr), Cxt (X.blk s H scope (compEnvC scope cl C X.env) fp) W0 k → SE (X.blk s H scope (compEnvC scope cl C X.env) fp) W0 elt me)
    (hv : ∀ i ∈ vs1, i ∈ own.map (·.2)) (hts : ∀ t ∈ ts, t ∈ own.map (·.2)) (hts1 : ∀ t ∈ ts1, t ∈ vs1)
    (hy : X.N[i]? = some y) (hyl : X.env.scope.names.lookup y = some .local) (hsw : swapsWith (.ListComp elt [⟨tg, iter, ifs, 0⟩, ⟨tg1, iter1, ifs1, 0⟩] scope pos) (some (.Name y py)) spos.line X.env = pure true) (hs : ∀ x, foldedSetIterable iter X.env x = pure x) (hs1 : ∀ env x, foldedSetIterable iter1 env x = pure x) :
    PS X (.Assign [.Name y py] (.ListComp elt [⟨tg, iter, ifs, 0⟩, ⟨tg1, iter1, ifs1, 0⟩] scope pos) spos) (tAsg (mF X.K X.mg W (eComp2 mi f tt mi1 f1 tt1 me (own.map (·.2)) vs1)) (gName i)) :=
  ps_imp (ps_setLc2 (g := mP X.K ts f) (tt := mT X.K X.mg W0 tt) (te := mE X.K X.mg W0 me) (wi1 := mI true X.K X.mg W0 mi1) (g1 := mP X.K ts1 f1) (tt1 := mT X.K X.mg W0 tt1) c.calm c.nd hy hyl hsw hi ok hv (fun s H C cl fp => hg s H C cl fp (c.blk s H scope _ fp)) (fun s H C cl fp => ht s H C cl fp (c.blk s H scope _ fp))
    (fun s H C cl fp => hi1 s H C cl fp (c.blk s H scope _ fp)) (fun s H C cl fp => hg1 s H C cl fp (c.blk s H scope _ fp)) (fun s H C cl fp => ht1 s H C cl fp (c.blk s H scope _ fp)) (fun s H C cl fp => he s H C cl fp (c.blk s H scope _ fp)) hs hs1) fun D σ H h => comp2_of hts hts1 h
theorem ss_ownLc2 {vs1 : List Nat} {i : Nat} {y : Str} {py spos : Pos} (c : Cxt X W k) (hi : SI false X W tg iter mi) (ok : BlkOk X.N X.env.scope scope own)
    (hg : ∀ (s : Shared) (H : Hp) (C : Addr) (cl : List (Str × Addr)) (fp : List Addr), Cxt (X.blk s H scope (compEnvC scope cl C X.env) fp) W0 k → SP (X.blk s H scope (compEnvC scope cl C X.env) fp) tg ts f)
    (ht : ∀ (s : Shared) (H : Hp) (C : Addr) (cl : List (Str × Addr)) (fp : List Addr), Cxt (X.blk s H scope (compEnvC scope cl C X.env) fp) W0 k → STs (X.blk s H scope (compEnvC scope cl C X.env) fp) W0 ifs tt)
    (hi1 : ∀ (s : Shared) (H : Hp) (C : Addr) (cl : List (Str × Addr)) (fp : List Addr), Cxt (X.blk s H scope (compEnvC scope cl C X.env) fp) W0 k → SI true (X.blk s H scope (compEnvC scope cl C X.env) fp) W0 tg1 iter1 mi1)
    (hg1 : ∀ (s : Shared) (H : Hp) (C : Addr) (cl : List (Str × Addr)) (fp : List Addr), Cxt (X.blk s H scope (compEnvC scope cl C X.env) fp) W0 k → SP (X.blk s H scope (compEnvC scope cl C X.env) fp) tg1 ts1 f1)
    (ht1 : ∀ (s : Shared) (H : Hp) (C : Addr) (cl : List (Str × Addr)) (fp : List Addr), Cxt (X.blk s H scope (compEnvC scope cl C X.env) fp) W0 k → STs (X.blk s H scope (compEnvC scope cl C X.env) fp) W0 ifs1 tt1)
    (he : ∀ (s : Shared) (H : Hp) (C : Addr) (cl : List (Str × Addr)) (fp : List Addr), Cxt (X.blk s H scope (compEnvC scope cl C X.env) fp) W0 k → SE (X.blk s H scope (compEnvC scope cl C X.env) fp) W0 elt me)
    (hv : ∀ i ∈ vs1, i ∈ own.map (·.2) := by decide) (hts : ∀ t ∈ ts, t ∈ own.map (·.2) := by decide) (hts1 : ∀ t ∈ ts1, t ∈ vs1 := by decide)
    (hy : X.N[i]? = some y := by rfl) (hyl : X.env.scope.names.lookup y = some .local := by rfl) (hsw : swapsWith (.ListComp elt [⟨tg, iter, ifs, 0⟩, ⟨tg1, iter1, ifs1, 0⟩] scope pos) (some (.Name y py)) spos.line X.env = pure true := by exact sw_true rfl rfl rfl (by decide +kernel))
    (hs : ∀ x, foldedSetIterable iter X.env x = pure x := by intro _; rfl) (hs1 : ∀ env x, foldedSetIterable iter1 env x = pure x := by intro _ _; rfl) :
    SS X W (.Assign [.Name y py] (.ListComp elt [⟨tg, iter, ifs, 0⟩, ⟨tg1, iter1, ifs1, 0⟩] scope pos) spos) (sOwn i (eComp2 mi f tt mi1 f1 tt1 me (own.map (·.2)) vs1)) :=
  ps_imp (lc2Asg c hi ok hg ht hi1 hg1 ht1 he hv hts hts1 hy hyl hsw hs hs1) fun D σ H h => own_of newR_comp2 h
theorem ss_asgLc2 {vs1 : List Nat} {i : Nat} {y : Str} {py spos : Pos} (c : Cxt X W k) (hi : SI false X W tg iter mi) (ok : BlkOk X.N X.env.scope scope own)
    (hg : ∀ (s : Shared) (H : Hp) (C : Addr) (cl : List (Str × Addr)) (fp : List Addr), Cxt (X.blk s H scope (compEnvC scope cl C X.env) fp) W0 k → SP (X.blk s H scope (compEnvC scope cl C X.env) fp) tg ts f)
    (ht : ∀ (s : Shared) (H : Hp) (C : Addr) (cl : List (Str × Addr)) (fp : List Addr), Cxt (X.blk s H scope (compEnvC scope cl C X.env) fp) W0 k → STs (X.blk s H scope (compEnvC scope cl C X.env) fp) W0 ifs tt)
    (hi1 : ∀ (s : Shared) (H : Hp) (C : Addr) (cl : List (Str × Addr)) (fp : List Addr), Cxt (X.blk s H scope (compEnvC scope cl C X.env) fp) W0 k → SI true (X.blk s H scope (compEnvC scope cl C X.env) fp) W0 tg1 iter1 mi1)
    (hg1 : ∀ (s : Shared) (H : Hp) (C : Addr) (cl : List (Str × Addr)) (fp : List Addr), Cxt (X.blk s H scope (compEnvC scope cl C X.env) fp) W0 k → SP (X.blk s H scope (compEnvC scope cl C X.env) fp) tg1 ts1 f1)
    (ht1 : ∀ (s : Shared) (H : Hp) (C : Addr) (cl : List (Str × Addr)) (fp : List Addr), Cxt (X.blk s H scope (compEnvC scope cl C X.env) fp) W0 k → STs (X.blk s H scope (compEnvC scope cl C X.env) fp) W0 ifs1 tt1)
    (he : ∀ (s : Shared) (H : Hp) (C : Addr) (cl : List (Str × Addr)) (fp : List Addr), Cxt (X.blk s H scope (compEnvC scope cl C X.env) fp) W0 k → SE (X.blk s H scope (compEnvC scope cl C X.env) fp) W0 elt me)
    (hv : ∀ i ∈ vs1, i ∈ own.map (·.2) := by decide) (hts : ∀ t ∈ ts, t ∈ own.map (·.2) := by decide) (hts1 : ∀ t ∈ ts1, t ∈ vs1 := by decide)
    (hy : X.N[i]? = some y := by rfl) (hyl : X.env.scope.names.lookup y = some .local := by rfl) (hsw : swapsWith (.ListComp elt [⟨tg, iter, ifs, 0⟩, ⟨tg1, iter1, ifs1, 0⟩] scope pos) (some (.Name y py)) spos.line X.env = pure true := by exact sw_true rfl rfl rfl (by decide +kernel))
    (hs : ∀ x, foldedSetIterable iter X.env x = pure x := by intro _; rfl) (hs1 : ∀ env x, foldedSetIterable iter1 env x = pure x := by intro _ _; rfl) :
    SS X W (.Assign [.Name y py] (.ListComp elt [⟨tg, iter, ifs, 0⟩, ⟨tg1, iter1, ifs1, 0⟩] scope pos) spos) (sAsg i (eComp2 mi f tt mi1 f1 tt1 me (own.map (·.2)) vs1)) :=
  ps_imp (lc2Asg c hi ok hg ht hi1 hg1 ht1 he hv hts hts1 hy hyl hsw hs hs1) fun D σ H h => asgF_of newR_comp2 h
end
end Sim
set_option maxRecDepth 512
set_option Elab.async false
set_option linter.all false
set_option maxRecDepth 100000
set_option maxHeartbeats 4000000
namespace Sim
open PySem PySem.Spec PyProof.Rows L2
/-! ### isinstance with two classes -/
def eIsi2 (f f' : D → Bool) (m : Ev) : Ev := eUn (fun d g => if d.noC then .ok (.d (.bool (f d || f' d))) g else .stuck) m
section
variable {X : Cx} {W : WX} {k : Nat} {e a b : Expr} {es : List Expr} {m ma mb : Ev} {ms : Evs} {p p2 p3 pos pt : Pos} {kk : Nat}
theorem se_isi2 {T T' : String} {x x' : Str} {f f' : D → Bool} (hk : KitT T f) (hk' : KitT T' f') (hm : X.mg "isinstance" = none) (hx : X.mg x = none) (hx' : X.mg x' = none) (ha : SE X W e m) (hg : Gl X "isinstance" := by rfl) (hgx : Gl X x := by rfl) (hgx' : Gl X x' := by rfl)
    (hvx : bootBuiltins x = some (.type T) := by decide +kernel) (hvx' : bootBuiltins x' = some (.type T') := by decide +kernel)
    (hn : x ≠ "__name__" := by decide) (hd : (x == ("__debug__" : Str)) = false := by decide) (hn' : x' ≠ "__name__" := by decide) (hd' : (x' == ("__debug__" : Str)) = false := by decide)
    (he : starEach [e, .Tuple [.Name x p2, .Name x' p3] kk pt] X.env = (false, eval e X.env) :: starEach [.Tuple [.Name x p2, .Name x' p3] kk pt] X.env := by rfl)
    (he2 : starEach [.Tuple [.Name x p2, .Name x' p3] kk pt] X.env = (false, eval (.Tuple [.Name x p2, .Name x' p3] kk pt) X.env) :: starEach [] X.env := by rfl)
    (he3 : starEach [.Name x p2, .Name x' p3] X.env = (false, eval (.Name x p2) X.env) :: starEach [.Name x' p3] X.env := by rfl)
    (he4 : starEach [.Name x' p3] X.env = (false, eval (.Name x' p3) X.env) :: starEach [] X.env := by rfl)
    (hpl : (backTo pos (starEach [.Tuple [.Name x p2, .Name x' p3] kk pt] X.env)).any (·.1) = false := by rfl) :
    SE X W (.Call (.Name "isinstance" p) [e, .Tuple [.Name x p2, .Name x' p3] kk pt] [] pos) (eIsi2 f f' m) :=
  pe_imp (pe_callB (he := he) (hpl := hpl) call_isiT hg hm (by decide +kernel) (pa_cons ha (pa_cons (pe_tup (pa_cons (pe_bltn (v := .ty T) hgx hx hvx rfl hn hd) (pa_cons (pe_bltn (v := .ty T') hgx' hx' hvx' rfl hn' hd') pa_nil he4) he3)) pa_nil he2) he)) fun σ H Q ⟨B, et, O, env, g, rl, h⟩ => ⟨B, et, O, env, g, rl, wG.bind h fun d1 g1 v1 H1 e1 ee rl1 fr1 r1 h1 => by
    dsimp only at h1
    split at h1
    rotate_left
    · exact h1.elim
    rename_i hc
    refine ⟨small100 (by simp), fun pp hp => ?_⟩
    have rl2 := rl1.same (same_new (o := .tup [.ty T, .ty T']) hp)
    have r2 := RepD.fr r1 (Fr.same (O := []) (et := e1) (same_new (o := .tup [.ty T, .ty T']) hp))
    refine ⟨v1, pp, _, .type (tyS d1), [.type T, .type T'], f d1 || f' d1, rfl, upd_same, .cons (.ty T) (.cons (.ty T') .nil), repD_ty rl2 (fun n e => by subst e; cases hc) r2, ?_, h1.new rl1 hp rfl⟩
    refine kitAny_cons (kit_ty (hk d1)) (fun e1 => ?_) (fun e1 => by rw [e1]; rfl)
    refine kitAny_cons (kit_ty (hk' d1)) (fun e2 => ?_) (fun e2 => by rw [e2, Bool.or_true])
    rw [e1, e2]; rfl⟩
/-! ### a, b = a new one, a new one -/
theorem Rl.give {K : PySem.W.Frag} {B : Addr → Prop} {et O : List Addr} {env : En} {g : G} {σ : L2.St} {H : Hp} {a : Addr} (r : Rl K B et O env g σ H) (m : a ∈ O) (i : Nat) {d : P} (h : SlotR K (FF B et O) et O H (.own d) (some (some (.ref a))))
    (hno : ∀ (j : Nat) (e : P), env[j]? = some (Sl.own e) → σ[j]? ≠ some (some (.ref a))) : Rl K B et O (env.set i (.own d)) g (σ.set i (some (.ref a))) H := by
  refine ⟨r.cel, r.live, r.dB, r.dO, by simp [r.len], fun j s e => ?_, fun j l d1 e1 b q1 q2 q3 q4 => ?_⟩
  · by_cases q : i = j
    · subst q
      rw [List.getElem?_set] at e
      simp only [if_true] at e
      split at e
      · rename_i hlt
        cases e
        rw [List.getElem?_set]
        simp only [if_true]
        rw [if_pos (by rw [r.len]; exact hlt)]
        exact h
      · cases e
    · rw [List.getElem?_set_ne q] at e
      rw [List.getElem?_set_ne q]
      exact r.slot j s e
  · have at_i : ∀ {b : Addr}, (σ.set i (some (.ref a)))[i]? = some (some (.ref b)) → b = a := fun {b} z => by
      rw [List.getElem?_set] at z
      simp only [if_true] at z
      split at z <;> cases z; rfl
    by_cases c1 : i = j
    · by_cases c2 : i = l
      · rw [← c1, ← c2]
      · subst c1
        have : b = a := at_i q3
        subst this
        rw [List.getElem?_set_ne c2] at q2 q4
        exact absurd q4 (hno l _ q2)
    · by_cases c2 : i = l
      · subst c2
        have : b = a := at_i q4
        subst this
        rw [List.getElem?_set_ne c1] at q1 q3
        exact absurd q3 (hno j _ q1)
      · rw [List.getElem?_set_ne c1] at q1 q3
        rw [List.getElem?_set_ne c2] at q2 q4
        exact r.sep j l d1 e1 b q1 q2 q3 q4
theorem slot_mono {K : PySem.W.Frag} {F F' : Addr → Prop} {O O' et et' : List Addr} {H H' : Hp} {a : Addr} {d : P} (h : SlotR K F et O H (.own d) (some (some (.ref a)))) (fr : Fr [] et et' H H') (ha : a ∉ et) (he : ∀ a ∈ et, F a) (hF : ∀ a, F' a → F a ∨ H a = none) (hO : a ∈ O') : SlotR K F' et' O' H' (.own d) (some (some (.ref a))) := by
  cases d with
  | list ds => obtain ⟨y, vs, e1, my, h1, h2⟩ := h; cases e1; exact ⟨a, vs, rfl, hO, fr.keep _ _ h1 ha (fun q => nomatch q), Reps.mono fr (fun _ q => nomatch q) he hF _ _ h2⟩
  | dict ds => obtain ⟨y, vs, e1, my, h1, h2⟩ := h; cases e1; exact ⟨a, vs, rfl, hO, fr.keep _ _ h1 ha (fun q => nomatch q), RepKv.mono fr (fun _ q => nomatch q) he hF _ _ h2⟩
  | _ => exact h.elim
def sParOO (i j : Nat) (a b : Ev) : Sv := fun env g => (a env g).bindS fun x g1 => match x with
  | .d p => (b env g1).bindS fun y g2 => (match y with
    | .d p2 => .next ((env.set i (.own p)).set j (.own p2)) g2
    | _ => .stuck)
  | _ => .stuck
theorem ss_parOO {i j : Nat} {x y : Str} {px py pt : Pos} {kt k2 : Nat} {pt2 : Pos} (c : Cxt X W k) (ha : SF X W a ma) (hb : SF X W b mb) (hi : X.N[i]? = some x := by rfl) (hj : X.N[j]? = some y := by rfl) (hij : i ≠ j := by decide)
    (hx : X.env.scope.names.lookup x = some .local := by rfl) (hy : X.env.scope.names.lookup y = some .local := by rfl)
    (hw : swappedStores [.Tuple [.Name x px, .Name y py] kt pt] (.Tuple [a, b] k2 pt2) X.env = pure (some [x, y]) := by rfl)
    (hs : swapsWithSole [.Tuple [.Name x px, .Name y py] kt pt] (.Tuple [a, b] k2 pt2) pos.line X.env = pure false := by rfl)
    (h1 : starEach [a, b] X.env = (false, eval a X.env) :: starEach [b] X.env := by rfl) (h2 : starEach [b] X.env = [(false, eval b X.env)] := by rfl) :
    SS X W (.Assign [.Tuple [.Name x px, .Name y py] kt pt] (.Tuple [a, b] k2 pt2) pos) (sParOO i j ma mb) :=
  ps_imp (ps_par c.calm c.nd hi hj hij hx hy (pa_cons ha.1 (pa_cons hb.1 pa_nil h2) h1) hw hs) fun D σ H ⟨B, et, O, env, g, rl, h⟩ => ⟨B, et, O, env, g, rl, fresh_of (fun d g' e => ha.2 _ _ _ _ e) h rl fun p g1 ad H1 e1 ea rl1 fr1 hn nB cn h1 => by
    have rl1' := rl1.toOwn nB
    have hF1 : FrS O (ad :: O) et e1 H H1 := ⟨fr1.weak fun x h => (nomatch h), fun x h => by
      rcases List.mem_cons.mp h with q | q
      · exact .inr (by rw [q]; exact hn)
      · exact .inl q⟩
    have h1 := wS.pre h1 hF1
    have hAd : H1 ad ≠ none := rl1.live ad (.inl (.inr rfl))
    have cs := cont_slot cn
    have adn : ad ∉ e1 := rl1.dB ad (.inr rfl)
    have hno : ∀ (j : Nat) (e : P), env[j]? = some (Sl.own e) → σ[j]? ≠ some (some (.ref ad)) := fun j e h3 h4 => by
      have z := rl.slot j _ h3
      have : ad ∈ O := by
        cases e with
        | list ds => obtain ⟨y', vs, e4, my, _⟩ := z; rw [h4] at e4; cases e4; exact my
        | dict ds => obtain ⟨y', vs, e4, my, _⟩ := z; rw [h4] at e4; cases e4; exact my
        | _ => exact z.elim
      exact rl.live ad (.inr (.inr this)) hn
    refine ⟨B, e1, ad :: O, env, g1, rl1', fresh_of (fun d g' e => hb.2 _ _ _ _ e) h1 rl1' fun p2 g2 bd H2 e2 eb rl2 fr2 hn2 nB2 cn2 h2 => ?_⟩
    refine ⟨.ref ad, .ref bd, rfl, ?_⟩
    have cs2 : SlotR X.K (FF (BU B bd) e2 (ad :: O)) e2 (ad :: O) H2 (.own p) (some (some (.ref ad))) :=
      slot_mono cs fr2 adn (fun a q => .inr (.inl q)) (fun x q => by
        rcases q with (q | q) | q | q
        · exact .inl (.inl q)
        · exact .inr (by rw [q]; exact hn2)
        · exact (fr2.new x q).imp (fun z => .inr (.inl z)) id
        · exact .inl (.inr (.inr q))) List.mem_cons_self
    have rl3 := ((rl2.give List.mem_cons_self i cs2 hno).take nB2 j (d := p2) (x := none) (cont_slot cn2))
    refine h2 _ H2 e2 (bd :: ad :: O) rl3 ⟨fr2.weak fun x h => (nomatch h), fun x h => ?_⟩
    rcases List.mem_cons.mp h with q | q
    · exact .inr (by rw [q]; exact hn2)
    · exact .inl q⟩
/-- x, y = a new list, e: x's own -/
def sParOS (i j : Nat) (a b : Ev) : Sv := fun env g => (a env g).bindS fun x g1 => match x with
  | .d p => (b env g1).bindS fun y g2 => if y.isB then .stuck else .next ((env.set i (.own p)).set j (.sh y)) g2
  | _ => .stuck
theorem ss_parOS {i j : Nat} {x y : Str} {px py pt : Pos} {kt k2 : Nat} {pt2 : Pos} (c : Cxt X W k) (ha : SF X W a ma) (hb : SE X W b mb) (hi : X.N[i]? = some x := by rfl) (hj : X.N[j]? = some y := by rfl) (hij : i ≠ j := by decide)
    (hx : X.env.scope.names.lookup x = some .local := by rfl) (hy : X.env.scope.names.lookup y = some .local := by rfl)
    (hw : swappedStores [.Tuple [.Name x px, .Name y py] kt pt] (.Tuple [a, b] k2 pt2) X.env = pure (some [x, y]) := by rfl)
    (hs : swapsWithSole [.Tuple [.Name x px, .Name y py] kt pt] (.Tuple [a, b] k2 pt2) pos.line X.env = pure false := by rfl)
    (h1 : starEach [a, b] X.env = (false, eval a X.env) :: starEach [b] X.env := by rfl) (h2 : starEach [b] X.env = [(false, eval b X.env)] := by rfl) :
    SS X W (.Assign [.Tuple [.Name x px, .Name y py] kt pt] (.Tuple [a, b] k2 pt2) pos) (sParOS i j ma mb) :=
  ps_imp (ps_par c.calm c.nd hi hj hij hx hy (pa_cons ha.1 (pa_cons hb pa_nil h2) h1) hw hs) fun D σ H ⟨B, et, O, env, g, rl, h⟩ => ⟨B, et, O, env, g, rl, fresh_of (fun d g' e => ha.2 _ _ _ _ e) h rl fun p g1 ad H1 e1 ea rl1 fr1 hn nB cn h1 => by
    have rl1' := rl1.toOwn nB
    have hF1 : FrS O (ad :: O) et e1 H H1 := ⟨fr1.weak fun x h => (nomatch h), fun x h => by
      rcases List.mem_cons.mp h with q | q
      · exact .inr (by rw [q]; exact hn)
      · exact .inl q⟩
    have h1 := wS.pre h1 hF1
    have cs := cont_slot cn
    have adn : ad ∉ e1 := rl1.dB ad (.inr rfl)
    have hno : ∀ (j : Nat) (e : P), env[j]? = some (Sl.own e) → σ[j]? ≠ some (some (.ref ad)) := fun j e h3 h4 => by
      have z := rl.slot j _ h3
      have : ad ∈ O := by
        cases e with
        | list ds => obtain ⟨y', vs, e4, my, _⟩ := z; rw [h4] at e4; cases e4; exact my
        | dict ds => obtain ⟨y', vs, e4, my, _⟩ := z; rw [h4] at e4; cases e4; exact my
        | _ => exact z.elim
      exact rl.live ad (.inr (.inr this)) hn
    refine ⟨B, e1, ad :: O, env, g1, rl1', wS.bind h1 fun d2 g2 v2 H2 e2 _ rl2 fr2 r2 h2 => ?_⟩
    by_cases hbb : d2.isB = true
    · rw [if_pos hbb] at h2; exact h2.elim
    rw [if_neg hbb] at h2
    refine ⟨.ref ad, v2, rfl, ?_⟩
    have cs2 : SlotR X.K (FF B e2 (ad :: O)) e2 (ad :: O) H2 (.own p) (some (some (.ref ad))) :=
      slot_mono cs fr2 adn (fun a q => .inr (.inl q)) (fun x q => by
        rcases q with q | q | q
        · exact .inl (.inl q)
        · exact (fr2.new x q).imp (fun z => .inr (.inl z)) id
        · exact .inl (.inr (.inr q))) List.mem_cons_self
    exact h2.here ((rl2.give List.mem_cons_self i cs2 hno).set j (nb_ofB hbb) r2)⟩
/-- .. where a name is a cell: a tuple is built and taken apart -/
theorem ss_parOSt {i j : Nat} {x y : Str} {px py pt : Pos} {kt k2 : Nat} {pt2 : Pos} (c : Cxt X W k) (ha : SF X W a ma) (hb : SE X W b mb) (hi : X.N[i]? = some x := by rfl) (hj : X.N[j]? = some y := by rfl) (hij : i ≠ j := by decide)
    (hx : Loc X.env.scope x := by first | exact .inl rfl | exact .inr rfl) (hfx : X.fn x = true ∨ X.env.scope.names.lookup x = some .local := by first | exact .inl rfl | exact .inr rfl)
    (hy : Loc X.env.scope y := by first | exact .inl rfl | exact .inr rfl) (hfy : X.fn y = true ∨ X.env.scope.names.lookup y = some .local := by first | exact .inl rfl | exact .inr rfl)
    (hw : swappedStores [.Tuple [.Name x px, .Name y py] kt pt] (.Tuple [a, b] k2 pt2) X.env = pure none := by rfl)
    (hs : swapsWithSole [.Tuple [.Name x px, .Name y py] kt pt] (.Tuple [a, b] k2 pt2) pos.line X.env = pure false := by rfl)
    (h0 : (assignEach [.Tuple [.Name x px, .Name y py] kt pt] X.env).map (·.2) = [assign (.Tuple [.Name x px, .Name y py] kt pt) X.env] := by rfl)
    (hn : (assignEach [.Name x px, .Name y py] X.env).length = 2 := by rfl) (hst : (assignEach [.Name x px, .Name y py] X.env).findIdx? (·.1) = none := by rfl)
    (hs1 : (assignEach [.Name x px, .Name y py] X.env).map (·.2) = assign (.Name x px) X.env :: (assignEach [.Name y py] X.env).map (·.2) := by rfl)
    (hs2 : (assignEach [.Name y py] X.env).map (·.2) = assign (.Name y py) X.env :: (assignEach [] X.env).map (·.2) := by rfl)
    (h1 : starEach [a, b] X.env = (false, eval a X.env) :: starEach [b] X.env := by rfl) (h2 : starEach [b] X.env = [(false, eval b X.env)] := by rfl) :
    SS X W (.Assign [.Tuple [.Name x px, .Name y py] kt pt] (.Tuple [a, b] k2 pt2) pos) (sParOS i j ma mb) :=
  ps_imp (ps_asg (pe_tup (pa_cons ha.1 (pa_cons hb pa_nil h2) h1)) (pg_tup c.calm (pgs_cons (pg_name c.nd hi hx hfx) (pgs_cons (pg_name c.nd hj hy hfy) pgs_nil hs2) hs1) hn hst) hs hw h0) fun D σ H ⟨B, et, O, env, g, rl, h⟩ => ⟨B, et, O, env, g, rl, fresh_of (fun d g' e => ha.2 _ _ _ _ e) h rl fun p g1 ad H1 e1 ea rl1 fr1 hn nB cn h1 => by
    have rl1' := rl1.toOwn nB
    have hF1 : FrS O (ad :: O) et e1 H H1 := ⟨fr1.weak fun x h => (nomatch h), fun x h => by
      rcases List.mem_cons.mp h with q | q
      · exact .inr (by rw [q]; exact hn)
      · exact .inl q⟩
    have h1 := wS.pre h1 hF1
    have cs := cont_slot cn
    have adn : ad ∉ e1 := rl1.dB ad (.inr rfl)
    have hno : ∀ (j : Nat) (e : P), env[j]? = some (Sl.own e) → σ[j]? ≠ some (some (.ref ad)) := fun j e h3 h4 => by
      have z := rl.slot j _ h3
      have : ad ∈ O := by
        cases e with
        | list ds => obtain ⟨y', vs, e4, my, _⟩ := z; rw [h4] at e4; cases e4; exact my
        | dict ds => obtain ⟨y', vs, e4, my, _⟩ := z; rw [h4] at e4; cases e4; exact my
        | _ => exact z.elim
      exact rl.live ad (.inr (.inr this)) hn
    refine ⟨B, e1, ad :: O, env, g1, rl1', wS.bind h1 fun d2 g2 v2 H2 e2 _ rl2 fr2 r2 h2 => ?_⟩
    by_cases hbb : d2.isB = true
    · rw [if_pos hbb] at h2; exact h2.elim
    rw [if_neg hbb] at h2
    have cs2 : SlotR X.K (FF B e2 (ad :: O)) e2 (ad :: O) H2 (.own p) (some (some (.ref ad))) :=
      slot_mono cs fr2 adn (fun a q => .inr (.inl q)) (fun x q => by
        rcases q with q | q | q
        · exact .inl (.inl q)
        · exact (fr2.new x q).imp (fun z => .inr (.inl z)) id
        · exact .inl (.inr (.inr q))) List.mem_cons_self
    refine ⟨by show 2 ≤ sizeLine; unfold sizeLine; decide, fun p hp => ⟨p, [.ref ad, v2], rfl, .inl (.inl upd_same), rfl, .ref ad, [v2], rfl, v2, [], rfl, rfl, ?_⟩⟩
    exact h2 _ _ e2 (ad :: O) (((rl2.give List.mem_cons_self i cs2 hno).set j (nb_ofB hbb) r2).same (same_new hp)) (FrS.ofE (Fr.same (same_new hp)))⟩
/-! ### pop -/
def popLast (ps : List P) : Option (P × List P) := match ps[ps.length - 1]? with
  | some p => some (p, ps.dropLast)
  | none => none
def popHead : List P → Option (P × List P)
  | p :: r => some (p, r)
  | [] => none
def sPop (i : Nat) (pf : List P → Option (P × List P)) (m : Tgv) : Sv := fun env g => match env[i]? with
  | some (.own (.list ps)) => (match pf ps with
    | some (p, qs) => m (.d p) (env.set i (.own (.list qs))) g
    | none => .stuck)
  | _ => .stuck
theorem Reps.dropLast {K : PySem.W.Frag} {F : Addr → Prop} {H : Hp} {ds : List P} {vs : List V} (h : Reps K F H ds vs) : Reps K F H ds.dropLast vs.dropLast := by
  rw [List.dropLast_eq_take, List.dropLast_eq_take, h.length]
  exact h.take _
variable {tg : Expr} {mt : Tgv}
theorem ss_popLast {i : Nat} {x : Str} {xp ap cp : Pos} (hN : X.N[i]? = some x := by rfl) (hg : SG X W tg mt) (hr : NoRet mt)
    (hv : Vis X.env.scope x := by first | exact .inl rfl | exact .inr (.inl rfl) | exact .inr (.inr rfl)) (hd : (x == ("__debug__" : Str)) = false := by decide) (hcd : (x == ("__classdict__" : Str)) = false := by decide)
    (hbase : attributeBase (.Name x xp) "pop" X.env (eval (.Name x xp) X.env) = eval (.Name x xp) X.env := by rfl) (hline : (ap.endLine == cp.line) = true := by rfl)
    (hs : swapsWithSole [tg] (.Call (.Attribute (.Name x xp) "pop" ap) [] [] cp) pos.line X.env = pure false := by rfl) (hw : swappedStores [tg] (.Call (.Attribute (.Name x xp) "pop" ap) [] [] cp) X.env = pure none := by rfl)
    (h1 : (assignEach [tg] X.env).map (·.2) = [assign tg X.env] := by rfl) : SS X W (.Assign [tg] (.Call (.Attribute (.Name x xp) "pop" ap) [] [] cp) pos) (sPop i popLast mt) :=
  ps_imp (ps_asg (pe_bm0 PySem.F.plainAttrs_list PySem.F.slot_list_pop PySem.F.type_list_pop mt_pop (pe_var (i := i) hN hv hd hcd) hbase hline) hg hs hw h1) fun D σ H ⟨B, et, O, env, g, rl, h⟩ => by
    unfold sPop at h
    split at h
    rotate_left
    · exact h.elim
    rename_i ps ei
    obtain ⟨a, vs, es, ma, h1, h2⟩ := own_lst rl ei
    split at h
    rotate_left
    · exact h.elim
    rename_i p qs eq
    unfold popLast at eq
    split at eq
    rotate_left
    · cases eq
    rename_i p' ep
    cases eq
    obtain ⟨v, ev, rv⟩ := h2.get ep
    refine ⟨.ref a, es, .inl ⟨rfl, vs, .inl (.inl h1)⟩, a, vs, v, rfl, rfl, h1, by rw [← h2.length]; exact ev, ?_⟩
    have f : FrS O O et et H (upd H a (.lst vs.dropLast)) := frS_upd ma (noTup_lst h1)
    exact ⟨B, et, O, _, g, .d p, rl.updOwn (d' := .list ps.dropLast) ei es ma (noTup_lst h1) ⟨_, upd_same, h2.dropLast.frS f⟩, trivial, Rep.frS rv f, wS_rt (wS.pre h f) (fun d g => hr _ _ _ d g) fun _ _ q => q⟩
theorem ss_popHead {i : Nat} {x : Str} {xp ap cp zp : Pos} {j : Nat} (hN : X.N[i]? = some x := by rfl) (hg : SG X W tg mt) (hr : NoRet mt)
    (hv : Vis X.env.scope x := by first | exact .inl rfl | exact .inr (.inl rfl) | exact .inr (.inr rfl)) (hd : (x == ("__debug__" : Str)) = false := by decide) (hcd : (x == ("__classdict__" : Str)) = false := by decide)
    (hbase : attributeBase (.Name x xp) "pop" X.env (eval (.Name x xp) X.env) = eval (.Name x xp) X.env := by rfl)
    (hfew : ((backTo cp (starEach [.Constant (.int 0) j zp] X.env)).all (fun x => !x.1) && (backToKw cp (keywordEach [] X.env)).all (fun x => x.1.isSome)
      && decide (([.Constant (.int 0) j zp] : List Expr).length + ([] : List Keyword).length + (if ([] : List Keyword).isEmpty then 0 else 1) < 30)) = true := by rfl)
    (hline : (ap.endLine == cp.line) = true := by rfl) (hsa : starEach [.Constant (.int 0) j zp] X.env = (false, eval (.Constant (.int 0) j zp) X.env) :: starEach [] X.env := by rfl) (hplain : (backTo cp (starEach [] X.env)).any (·.1) = false := by rfl)
    (hs : swapsWithSole [tg] (.Call (.Attribute (.Name x xp) "pop" ap) [.Constant (.int 0) j zp] [] cp) pos.line X.env = pure false := by rfl) (hw : swappedStores [tg] (.Call (.Attribute (.Name x xp) "pop" ap) [.Constant (.int 0) j zp] [] cp) X.env = pure none := by rfl)
    (h1 : (assignEach [tg] X.env).map (·.2) = [assign tg X.env] := by rfl) : SS X W (.Assign [tg] (.Call (.Attribute (.Name x xp) "pop" ap) [.Constant (.int 0) j zp] [] cp) pos) (sPop i popHead mt) :=
  ps_imp (ps_asg (pe_bm PySem.F.plainAttrs_list PySem.F.slot_list_pop PySem.F.type_list_pop mt_popAt (pe_var (i := i) hN hv hd hcd) (pa_cons pe_int pa_nil hsa) hbase hfew hline hsa hplain) hg hs hw h1) fun D σ H ⟨B, et, O, env, g, rl, h⟩ => by
    unfold sPop at h
    split at h
    rotate_left
    · exact h.elim
    rename_i ps ei
    obtain ⟨a, vs, es, ma, h1, h2⟩ := own_lst rl ei
    split at h
    rotate_left
    · exact h.elim
    rename_i p qs eq
    cases ps with
    | nil => cases eq
    | cons p' r' =>
      cases eq
      obtain ⟨v, r, rfl, rv, rr⟩ := h2
      refine ⟨.ref a, es, .inl ⟨rfl, _, .inl (.inl h1)⟩, a, _, 0, 0, v, rfl, rfl, h1, by decide, by decide, ?_, rfl, ?_⟩
      · unfold seqIndex?
        simp
      have f : FrS O O et et H (upd H a (.lst r)) := frS_upd ma (noTup_lst h1)
      exact ⟨B, et, O, _, g, .d p, rl.updOwn (d' := .list qs) ei es ma (noTup_lst h1) ⟨_, upd_same, rr.frS f⟩, trivial, Rep.frS rv f, wS_rt (wS.pre h f) (fun d g => hr _ _ _ d g) fun _ _ q => q⟩
end
end Sim
set_option maxRecDepth 512
set_option Elab.async false
set_option linter.all false
set_option maxRecDepth 100000
set_option maxHeartbeats 400000
namespace Sim
open PySem PySem.Spec PyProof.Rows L2
/-! ### three sources, side by side -/
def It3 (K : PySem.W.Frag) (k1 k2 k3 : SKd) (a b d : Addr) : It :=
  ⟨fun i H => ∃ (xs ys zs : List V) (x y u : V), SkSq k1 K H a xs ∧ SkSq k2 K H b ys ∧ SkSq k3 K H d zs ∧ xs[i]? = some x ∧ ys[i]? = some y ∧ zs[i]? = some u,
    fun i H v H' => ∃ T x y u, v = .ref T ∧ H T = none ∧ H' = upd H T (.tup [x, y, u]) ∧ (∀ xs, SkSq k1 K H a xs → xs[i]? = some x) ∧ (∀ ys, SkSq k2 K H b ys → ys[i]? = some y) ∧ ∀ zs, SkSq k3 K H d zs → zs[i]? = some u,
    fun i H => ∃ xs ys zs : List V, SkSq k1 K H a xs ∧ SkSq k2 K H b ys ∧ SkSq k3 K H d zs ∧ i ≤ xs.length ∧ i ≤ ys.length ∧ i ≤ zs.length ∧ (i = xs.length ∨ i = ys.length ∨ i = zs.length)⟩
theorem mem6 {c z1 z2 z3 z4 z5 z6 : Addr} (h : c ∈ [z1, z2, z3, z4, z5, z6]) : c = z1 ∨ c = z2 ∨ c = z3 ∨ c = z4 ∨ c = z5 ∨ c = z6 := by simpa using h
theorem turn_z3 {P : Program} {w : World} {K : PySem.W.Frag} {elts : List Expr} {kk : Nat} {tpos : Pos} {k1 k2 k3 : SKd} {a b d zz A1 A2 j1 j2 j3 : Addr} (S : ZipSep3 zz A1 A2 j1 j2 j3 [j1, a] [j2, b] [j3, d]) (n1 : a ≠ j1) (n2 : b ≠ j2) (n3 : d ≠ j3) :
    Turn P w K (.Tuple elts kk tpos) (It3 K k1 k2 k3 a b d) [zz, A1, A2, j1, j2, j3] zz (fun i h => IsZip h zz A1 A2 .none ∧ IsTupOf3 h A1 (.ref j1) (.ref j2) (.ref j3) ∧ (∃ x y u, IsTupOf3 h A2 x y u) ∧ SkIt k1 h j1 a i ∧ SkIt k2 h j2 b i ∧ SkIt k3 h j3 d i) where
  mem := List.mem_cons_self
  obj := fun i h st c hc => by
    obtain ⟨hz, hI, ⟨x, y, u, hO⟩, h1, h2, h3⟩ := st
    rcases mem6 hc with q | q | q | q | q | q <;> subst q
    · exact ⟨_, hz, nofun⟩
    · exact ⟨_, hI, nofun⟩
    · exact ⟨_, hO, nofun⟩
    · exact h1.get
    · exact h2.get
    · exact h3.get
  keep := fun i h h' st k => by
    obtain ⟨hz, hI, ⟨x, y, u, hO⟩, h1, h2, h3⟩ := st
    have m : ∀ c, c = zz ∨ c = A1 ∨ c = A2 ∨ c = j1 ∨ c = j2 ∨ c = j3 → c ∈ [zz, A1, A2, j1, j2, j3] := fun c q => by simpa using q
    refine ⟨k zz (m _ (.inl rfl)) _ hz, k A1 (m _ (.inr (.inl rfl))) _ hI, ⟨x, y, u, k A2 (m _ (.inr (.inr (.inl rfl)))) _ hO⟩, h1.keep fun o q => ?_, h2.keep fun o q => ?_, h3.keep fun o q => ?_⟩
    · exact k j1 (m _ (.inr (.inr (.inr (.inl rfl))))) o q
    · exact k j2 (m _ (.inr (.inr (.inr (.inr (.inl rfl)))))) o q
    · exact k j3 (m _ (.inr (.inr (.inr (.inr (.inr rfl)))))) o q
  item := by
    intro X hP hw hK hc i pins s σ H E I hf st hg
    subst hP hw hK
    obtain ⟨hz, hI, ⟨x0, y0, u0, hO⟩, h1, h2, h3⟩ := st
    obtain ⟨xs, ys, zs, x, y, u, hqx, hqy, hqz, hx, hy, hu⟩ := hg
    obtain ⟨l1, rv1, p1, _⟩ := sk_inv I hqx
    obtain ⟨l2, rv2, p2, _⟩ := sk_inv I hqy
    obtain ⟨l3, rv3, p3, _⟩ := sk_inv I hqz
    obtain ⟨w1, hw1, rw1⟩ := rv1.get hx
    obtain ⟨w2, hw2, rw2⟩ := rv2.get hy
    obtain ⟨w3, hw3, rw3⟩ := rv3.get hu
    have b1 : i < l1.toArray.size := by simpa using (List.getElem?_eq_some_iff.mp hw1).1
    have b2 : i < l2.toArray.size := by simpa using (List.getElem?_eq_some_iff.mp hw2).1
    have b3 : i < l3.toArray.size := by simpa using (List.getElem?_eq_some_iff.mp hw3).1
    have hd : X.A.in1.handled = none := I.ok.hd hc
    have hzl : zz < s.heap.objs.size := Heap.lt_size hz
    refine wpAny_pyNext_zipD3_item S (sk_draws hd k1 j1 a n1 l1.toArray) (sk_draws hd k2 j2 b n2 l2.toArray) (sk_draws hd k3 j3 d n3 l3.toArray) hz hI hO ⟨h1, p1⟩ ⟨h2, p2⟩ ⟨h3, p3⟩ b1 b2 b3 fun v1 v2 v3 h' tk e1 e2 e3 z' O' st1 st2 st3 hT hsz hk => ?_
    have e1 : w1 = v1 := by
      have e1 : l1.toArray[i]? = some v1 := e1
      rw [List.getElem?_toArray, hw1] at e1; exact Option.some.inj e1
    have e2 : w2 = v2 := by
      have e2 : l2.toArray[i]? = some v2 := e2
      rw [List.getElem?_toArray, hw2] at e2; exact Option.some.inj e2
    have e3 : w3 = v3 := by
      have e3 : l3.toArray[i]? = some v3 := e3
      rw [List.getElem?_toArray, hw3] at e3; exact Option.some.inj e3
    subst e1 e2 e3
    refine ⟨_, rfl, wpAny_letOwnedTupleGo_zip (s := { s with heap := h', toks := tk }) z' fun h'' z'' sb => ?_⟩
    have hT2 : h''.get? s.heap.objs.size = some { cls := .type "tuple", data := .seq #[w1, w2, w3] } := (sb.2 _ (Nat.ne_of_gt hzl)).trans hT
    have new : ObjOk X.prog X.w (upd H s.heap.objs.size (.tup [x, y, u])) h'' s.heap.objs.size (.tup [x, y, u]) :=
      ⟨by show 3 ≤ sizeLine; decide, [w1, w2, w3], .cons rw1 (.cons rw2 (.cons rw3 .nil)), ⟨_, hT2, rfl, _, rfl⟩⟩
    have out : ∀ c, c ∉ [zz, A1, A2, j1, j2, j3] → c ≠ zz ∧ c ≠ A2 ∧ c ≠ j1 ∧ c ≠ j2 ∧ c ≠ j3 := fun c hb =>
      ⟨fun q => hb (by simp [q]), fun q => hb (by simp [q]), fun q => hb (by simp [q]), fun q => hb (by simp [q]), fun q => hb (by simp [q])⟩
    have I1 : Inv X pins σ (upd H s.heap.objs.size (.tup [x, y, u])) { s with heap := h'', toks := tk } :=
      I.turnedNew (t' := tk) (ch := [zz, A1, A2, j1, j2, j3]) (fun c o hb q => by
        obtain ⟨q1, q2, q3, q4, q5⟩ := out c hb
        exact (sb.2 c q1).trans (hk c o q1 q2 q3 q4 q5 q)) hf (Nat.le_refl _) new
    refine ⟨.ref s.heap.objs.size, _, I1, rfl, ⟨_, x, y, u, rfl, I.hok.fresh (Nat.le_refl _), rfl, fun l hl => ?_, fun l hl => ?_, fun l hl => ?_⟩, ⟨z'', ?_, ⟨w1, w2, w3, ?_⟩, ?_, ?_, ?_⟩, fun c hcm => ?_⟩
    · rw [sk_inj I hl hqx]; exact hx
    · rw [sk_inj I hl hqy]; exact hy
    · rw [sk_inj I hl hqz]; exact hu
    · exact (sb.2 _ S.TIz).trans (hk _ _ S.TIz S.TITO S.TIi1 S.TIi2 S.TIi3 hI)
    · exact (sb.2 _ S.TOz).trans O'
    · exact st1.1.keep fun o q => (sb.2 _ (Ne.symm S.zi1)).trans q
    · exact st2.1.keep fun o q => (sb.2 _ (Ne.symm S.zi2)).trans q
    · exact st3.1.keep fun o q => (sb.2 _ (Ne.symm S.zi3)).trans q
    · have hlt : c < s.heap.objs.size := by
        rcases mem6 hcm with q | q | q | q | q | q <;> subst q
        · exact hzl
        · exact Heap.lt_size hI
        · exact Heap.lt_size hO
        · obtain ⟨_, e, _⟩ := h1.get; exact Heap.lt_size e
        · obtain ⟨_, e, _⟩ := h2.get; exact Heap.lt_size e
        · obtain ⟨_, e, _⟩ := h3.get; exact Heap.lt_size e
      rw [upd_ne (Nat.ne_of_lt hlt)]
      exact (hf c hcm).1
  done := by
    intro X hP hw hK hc i pins s σ H E I hf st hg
    subst hP hw hK
    obtain ⟨hz, hI, ⟨x0, y0, u0, hO⟩, h1, h2, h3⟩ := st
    obtain ⟨xs, ys, zs, hqx, hqy, hqz, q1, q2, q3, hend⟩ := hg
    obtain ⟨l1, rv1, p1, _⟩ := sk_inv I hqx
    obtain ⟨l2, rv2, p2, _⟩ := sk_inv I hqy
    obtain ⟨l3, rv3, p3, _⟩ := sk_inv I hqz
    have m1 := rv1.length
    have m2 := rv2.length
    have m3 := rv3.length
    have hd : X.A.in1.handled = none := I.ok.hd hc
    refine wpAny_pyNext_zipD3_end S (sk_draws hd k1 j1 a n1 l1.toArray) (sk_draws hd k2 j2 b n2 l2.toArray) (sk_draws hd k3 j3 d n3 l3.toArray) hz hI hO ⟨h1, p1⟩ ⟨h2, p2⟩ ⟨h3, p3⟩ (by simp; omega) (by simp; omega) (by simp; omega) (by simp; omega) fun h' tk hk => ⟨rfl, I.turnedL (t' := tk) (ch := [zz, A1, A2, j1, j2, j3]) (fun c o hb q => ?_) hf⟩
    exact hk c o (fun q' => hb (by simp [q'])) (fun q' => hb (by simp [q'])) (fun q' => hb (by simp [q'])) (fun q' => hb (by simp [q'])) (fun q' => hb (by simp [q'])) q
  self := fun A i s Q E st h => wpAny_pyIter_zip st.1 h
def iZ3 (K : PySem.W.Frag) (ta : TA) : TI := fun σ H R => ta σ H fun vs H1 => ∃ k1 k2 k3 a b d xs ys zs, vs = [.ref a, .ref b, .ref d] ∧ SkSq k1 K H1 a xs ∧ SkSq k2 K H1 b ys ∧ SkSq k3 K H1 d zs ∧ R (It3 K k1 k2 k3 a b d) H1
theorem pi_z3 {X : Cx} {e e2 e3 : Expr} {ta : TA} {p pos tpos : Pos} {elts : List Expr} {kk : Nat} (hg : Gl X "zip") (hm : X.mg "zip" = none) (ha : PA X [e, e2, e3] ta)
    (hs : starEach [e, e2, e3] X.env = (false, eval e X.env) :: starEach [e2, e3] X.env := by rfl) (hpl : (backTo pos (starEach [e2, e3] X.env)).any (·.1) = false := by rfl) :
    PI X (.Tuple elts kk tpos) (.Call (.Name "zip" p) [e, e2, e3] [] pos) (iZ3 X.K ta) := by
  refine ⟨fun pins s σ H R I h => ?_⟩
  refine Call_ (ld_blt I hg hm PyProof.Rows.boot_zip (PyProof.Rows.callWith_type1 (thn (ha.run pos pins s σ H _ I h) fun us s1 ⟨vs, H1, I1, r1, q1⟩ => ?_) hs hpl))
  obtain ⟨k1, k2, k3, a, b, d, xs, ys, zs, ex, hqx, hqy, hqz, q⟩ := q1
  subst ex
  cases r1 with
  | cons r rr =>
    cases rr with
    | cons r' rr =>
      cases rr with
      | cons r'' rr =>
        cases rr
        cases r
        cases r'
        cases r''
        obtain ⟨l1, rv1, p1, la⟩ := sk_inv I1 hqx
        obtain ⟨l2, rv2, p2, lb⟩ := sk_inv I1 hqy
        obtain ⟨l3, rv3, p3, ld⟩ := sk_inv I1 hqz
        have fresh : ∀ c, c ∈ [s1.heap.objs.size + 5, s1.heap.objs.size + 3, s1.heap.objs.size + 4, s1.heap.objs.size, s1.heap.objs.size + 1, s1.heap.objs.size + 2] → FpOk X pins H1 c := fun c hcm => by
          have hle : s1.heap.objs.size ≤ c := by
            rcases mem6 hcm with z | z | z | z | z | z <;> rw [z] <;> first | exact Nat.le_refl _ | exact Nat.le_add_right _ _
          exact I1.fpOk hle (I1.hok.fresh hle)
        refine zip_begins3 (sk_begins k1 a l1.toArray) (sk_begins k2 b l2.toArray) (sk_begins k3 d l3.toArray) p1 p2 p3 ?_
        intro h' hz hI hO h1 h2 h3 hsz hk
        refine wpAny_pyIter_zip hz ?_
        have I2 : Inv X pins σ H1 { s1 with heap := h' } := I1.kept (t' := s1.toks) hk
        refine ⟨s1.heap.objs.size + 5, [s1.heap.objs.size + 5, s1.heap.objs.size + 3, s1.heap.objs.size + 4, s1.heap.objs.size, s1.heap.objs.size + 1, s1.heap.objs.size + 2], _, _, H1, rfl, I2, turn_z3 (k1 := k1) (k2 := k2) (k3 := k3) (a := a) (b := b) (d := d) (zip_sep3 (fp1 := [a]) (fp2 := [b]) (fp3 := [d]) (fun c hc => ?_) (fun c hc => ?_) (fun c hc => ?_)) (Nat.ne_of_lt la) (Nat.ne_of_lt (Nat.lt_add_right 1 lb)) (Nat.ne_of_lt (Nat.lt_add_right 2 ld)), ⟨hz, hI, ⟨_, _, _, hO⟩, sk_it0 h1, sk_it0 h2, sk_it0 h3⟩, fresh, q⟩
        · rw [List.mem_singleton.mp hc]; exact la
        · rw [List.mem_singleton.mp hc]; exact lb
        · rw [List.mem_singleton.mp hc]; exact ld
def zip3P : List P → List P → List P → List P
  | x :: xs, y :: ys, z :: zs => .tuple [x, y, z] :: zip3P xs ys zs
  | _, _, _ => []
theorem zip3P_get : ∀ {xs ys zs : List P} {i : Nat}, (zip3P xs ys zs)[i]? = match xs[i]?, ys[i]?, zs[i]? with | some x, some y, some z => some (.tuple [x, y, z]) | _, _, _ => none
  | [], ys, zs, i => by simp [zip3P]
  | x :: xs, [], zs, i => by
    cases h : (x :: xs)[i]? <;> simp [zip3P]
  | x :: xs, y :: ys, [], i => by
    cases h : (x :: xs)[i]? <;> cases h' : (y :: ys)[i]? <;> simp [zip3P]
  | x :: xs, y :: ys, z :: zs, 0 => by simp [zip3P]
  | x :: xs, y :: ys, z :: zs, i + 1 => by simp [zip3P, zip3P_get]
theorem zip3P_len : ∀ {xs ys zs : List P}, (zip3P xs ys zs).length = min xs.length (min ys.length zs.length)
  | [], ys, zs => by simp [zip3P]
  | x :: xs, [], zs => by simp [zip3P]
  | x :: xs, y :: ys, [] => by simp [zip3P]
  | x :: xs, y :: ys, z :: zs => by simp [zip3P, zip3P_len]
def iZip3 (b : Bool) (m m' m'' : Ev) : Iv := fun env g => (m env g).bind fun d g1 => (m' env g1).bind fun d' g2 => (m'' env g2).bind fun d'' g3 => match seqOf b d, seqOf b d', seqOf b d'' with
  | some xs, some ys, some zs => .ok ((zip3P xs ys zs).map D.d) g3
  | _, _, _ => .stuck
section
variable {K : PySem.W.Frag} {B : Addr → Prop} {et O : List Addr} {H : Hp} {b : Bool}
theorem itm_z3 {k1 k2 k3 : SKd} {a c d : Addr} {xs ys zs : List P} {vs us ws : List V} (s1 : Src b K et O (FF B et O) H k1 a xs vs) (s2 : Src b K et O (FF B et O) H k2 c ys us) (s3 : Src b K et O (FF B et O) H k3 d zs ws) :
    Itm b K O (FF B et O) H et ((zip3P xs ys zs).map D.d) (It3 K k1 k2 k3 a c d) := by
  intro F2 et2 O2 H2 st hF he i
  have l1 := s1.rp.length
  have l2 := s2.rp.length
  have l3 := s3.rp.length
  have hl : ((zip3P xs ys zs).map D.d).length = min xs.length (min ys.length zs.length) := by rw [List.length_map, zip3P_len]
  have q1 := s1.st st
  have q2 := s2.st st
  have q3 := s3.st st
  refine ⟨fun hi => ?_, fun hi => ⟨vs, us, ws, q1, q2, q3, by omega, by omega, by omega, by omega⟩⟩
  have g1 : i < vs.length := by omega
  have g2 : i < us.length := by omega
  have g3 : i < ws.length := by omega
  refine ⟨⟨vs, us, ws, vs[i], us[i], ws[i], q1, q2, q3, List.getElem?_eq_getElem g1, List.getElem?_eq_getElem g2, List.getElem?_eq_getElem g3⟩, fun x H3 y => ?_⟩
  obtain ⟨T, x', y', z', rfl, hT, rfl, e1, e2, e3⟩ := y
  have sm : Same H2 (upd H2 T (.tup [x', y', z'])) := same_new hT
  refine ⟨sm, fun e ed => ?_⟩
  have f1 := List.getElem?_eq_getElem (show i < xs.length by omega)
  have f2 := List.getElem?_eq_getElem (show i < ys.length by omega)
  have f3 := List.getElem?_eq_getElem (show i < zs.length by omega)
  rw [List.getElem?_map, zip3P_get, f1, f2, f3] at ed
  cases ed
  exact ⟨T, _, rfl, .inl (.inl upd_same), _, _, rfl, s1.item st hF sm he f1 (e1 _ q1), _, _, rfl, s2.item st hF sm he f2 (e2 _ q2), _, _, rfl, s3.item st hF sm he f3 (e3 _ q3), rfl⟩
end
section
variable {X : Cx} {W : WX} {k : Nat} {e e' e'' tg a b : Expr} {m m' m'' ma mb : Ev} {pos p p2 pos2 : Pos}
theorem si_zip3 {b : Bool} {elts : List Expr} {kk : Nat} {tpos : Pos} (hm : X.mg "zip" = none) (ha : SE X W e m) (hb : SE X W e' m') (hc : SE X W e'' m'') (hg : Gl X "zip" := by rfl) (hs : starEach [e, e', e''] X.env = (false, eval e X.env) :: starEach [e', e''] X.env := by rfl)
    (hs2 : starEach [e', e''] X.env = (false, eval e' X.env) :: starEach [e''] X.env := by rfl) (hs3 : starEach [e''] X.env = [(false, eval e'' X.env)] := by rfl) (hpl : (backTo pos (starEach [e', e''] X.env)).any (·.1) = false := by rfl) :
    SI b X W (.Tuple elts kk tpos) (.Call (.Name "zip" p) [e, e', e''] [] pos) (iZip3 b m m' m'') :=
  pi_imp (pi_z3 hg hm (pa_cons ha (pa_cons hb (pa_cons hc pa_nil hs3) hs2) hs) hs hpl) fun σ H R ⟨B, et, O, env, g, rl, hq⟩ => ⟨B, et, O, env, g, rl, wG.bind hq fun d1 g1 v1 H1 e1 ee rl1 fr1 r1 h1 => ⟨B, e1, O, env, g1, rl1, wG.bind h1 fun d2 g2 v2 H2 e2 ee2 rl2 fr2 r2 h2 =>
    ⟨B, e2, O, env, g2, rl2, wG.bind h2 fun d3 g3 v3 H3 e3 ee3 rl3 fr3 r3 h3 => by
      split at h3
      · rename_i xs ys zs q1 q2 q3
        obtain ⟨k1, a, vs, rfl, s1⟩ := src_of q1 r1
        obtain ⟨k2, c, us, rfl, s2⟩ := src_of q2 r2
        obtain ⟨k3, d, ws, rfl, s3⟩ := src_of q3 r3
        have s1' := (s1.fr fr2).fr fr3
        have s2' := s2.fr fr3
        exact ⟨k1, k2, k3, a, c, d, vs, us, ws, rfl, s1'.sq, s2'.sq, s3.sq, h3.here rl3 (itm_z3 s1' s2' s3)⟩
      · exact h3.elim⟩⟩⟩
/-! ### list(range(n)) -/
def eLRange (m : Ev) : Ev := fun env g => (m env g).bind fun d g1 => match d with
  | .d (.int j) => if -1000 ≤ j ∧ j ≤ 1000 then .ok (.d (.list ((List.range j.toNat).map fun i => .int (i : Nat)))) g1 else .stuck
  | _ => .stuck
theorem newR_lrange : NewR (eLRange m) := fun env g d g' e => by
  unfold eLRange at e
  cases e1 : m env g with
  | stuck => rw [e1] at e; cases e
  | err _ _ => rw [e1] at e; cases e
  | ok d1 g1 =>
    rw [e1] at e
    dsimp only [R.bind] at e
    split at e
    · split at e
      · cases e; exact .inl ⟨_, rfl⟩
      · cases e
    · cases e
theorem sf_listRange (c : Cxt X W k) (hm : X.mg "list" = none) (hm2 : X.mg "range" = none) (ha : SE X W a ma) (hg : Gl X "list" := by rfl) (hg2 : Gl X "range" := by rfl)
    (na : starEach [a] X.env = (false, eval a X.env) :: starEach [] X.env := by rfl)
    (na2 : starEach [.Call (.Name "range" p2) [a] [] pos2] X.env = (false, eval (.Call (.Name "range" p2) [a] [] pos2) X.env) :: starEach [] X.env := by rfl) :
    SF X W (.Call (.Name "list" p) [.Call (.Name "range" p2) [a] [] pos2] [] pos) (eLRange ma) :=
  ⟨pe_imp (pe_listRg c.calm hg hm (prg_1 hg2 hm2 ha na) na2) fun σ H Q ⟨B, et, O, env, g, rl, h⟩ => ⟨B, et, O, env, g, rl, wF.bind h fun d1 g1 v1 H1 e1 ee rl1 fr1 r1 h1 => by
    split at h1
    rotate_left
    · exact h1.elim
    rename_i j
    split at h1
    rotate_left
    · exact h1.elim
    rename_i hj
    have r1 : v1 = .int j := r1
    refine ⟨j, r1, ?_, fun q hq => h1.new rl1 hq ?_⟩
    · exact ⟨by omega, by omega, by omega, by omega, by omega⟩
    · refine ⟨_, upd_same, ?_⟩
      have e : rgV 0 j = ((List.range j.toNat).map fun i => ((i : Nat) : Int)).map V.int := by
        unfold rgV
        rw [List.map_map, Int.sub_zero]
        exact List.map_congr_left fun i _ => by show V.int (0 + (i : Nat)) = V.int (i : Nat); rw [Int.zero_add]
      rw [e, show ((List.range j.toNat).map fun i => PyData.int (i : Nat)) = ((List.range j.toNat).map fun i => ((i : Nat) : Int)).map PyData.int by rw [List.map_map]; rfl]
      exact reps_ints _⟩, newR_lrange⟩
end
end Sim
set_option maxRecDepth 512
set_option Elab.async false
set_option linter.all false
set_option maxRecDepth 100000
set_option maxHeartbeats 400000
namespace Sim
open PySem PySem.Spec PyProof.Rows L2
theorem tuple_mul1 (l : Addr) (items : Array Value) (n : Nat) (u : Tok) (dd : Option Addr) (sl : Array (Option Value)) :
    Meets (Builtin.«tuple.__mul__» ⟨[.ref l, .int 1 u], []⟩) (fun _ R s => s.heap.get? l = some { cls := .type "tuple", dict := dd, data := .seq items n, slots := sl } ∧ R (.ok (.ret (.ref l))) s) :=
  .of_wp fun prog w A R s h => by
    obtain ⟨hp, g, d, tk, os⟩ := s
    obtain ⟨hl, h⟩ := h
    have f1 := AutoSeq1.idx_int
    wp_walk using wpAny_loadPart' hl
    exact ⟨_, rfl, h⟩
theorem tuple_mul0 (l : Addr) (items : Array Value) (n : Nat) (k : Int) (u : Tok) (dd : Option Addr) (sl : Array (Option Value)) (hk : k ≤ 0) (hk2 : -(2 ^ 62) ≤ k) (hi : items.isEmpty = false) :
    Meets (Builtin.«tuple.__mul__» ⟨[.ref l, .int k u], []⟩) (fun _ R s => s.heap.get? l = some { cls := .type "tuple", dict := dd, data := .seq items n, slots := sl } ∧
      R (.ok (.ret (Value.ref s.heap.objs.size))) { s with heap := s.heap.push { cls := Value.type "tuple", data := Data.seq #[] }, toks := s.toks }) :=
  .of_wp fun prog w A R s h => by
    obtain ⟨hp, g, d, tk, os⟩ := s
    obtain ⟨hl, h⟩ := h
    have f1 := AutoSeq1.idx_int
    have c0 : (decide (k < -(2 ^ 63)) || decide (k ≥ 2 ^ 63)) = false := by rw [decide_eq_false (by omega), decide_eq_false (by omega)]; rfl
    have c1 : (items.isEmpty || k == 1) = false := by rw [hi, Bool.false_or]; exact beq_eq_false_iff_ne.mpr (by omega)
    wp_walk using wpAny_loadPart' hl
    repeat (first
      | (refine wpAny_ite_false (decide_eq_false (by rw [c0]; exact Bool.false_ne_true)) ?_; wp_walk using wpAny_loadPart' hl)
      | (refine wpAny_ite_false (decide_eq_false (by rw [c1]; exact Bool.false_ne_true)) ?_; wp_walk using wpAny_loadPart' hl))
    exact ⟨_, rfl, h⟩
/-- a tuple, once or not at all -/
def rRep1 (K : PySem.W.Frag) : R2 := fun x y H Q => ∃ l xs, x = .ref l ∧ y = .int 1 ∧ SqT K H l xs ∧ Q (.ref l) H
def rRep0 (K : PySem.W.Frag) : R2 := fun x y H Q => ∃ l k xs, x = .ref l ∧ y = .int k ∧ k ≤ 0 ∧ -(2 ^ 62) ≤ k ∧ SqT K H l xs ∧ xs ≠ [] ∧ ∀ p, H p = none → Q (.ref p) (upd H p (.tup []))
section
variable {X : Cx}
theorem op_rep1 : OpR X (binaryOp .Mult) (rRep1 X.K) := by
  intro pins s σ H x y v u Q I rx ry h
  obtain ⟨l, xs, rfl, rfl, hT, q⟩ := h
  cases rx
  obtain ⟨t, rfl⟩ := ry
  obtain ⟨its, r, ⟨⟨cls, dd, data, sl⟩, ho, hc, n, hd⟩, hs⟩ := I.tuple hT
  simp only at hc hd
  subst hc hd
  exact wpAny_binaryOp_repeat_ref (T := "tuple") (U := "int") (by decide) ⟨_, ho, rfl⟩ (fun s' => typeIs_int s' 1 t) noFill_tuple_mul F.fills_int_mul F.slot_int_rmul repeat_tuple F.slot_int_index.lookup
    (call_meets F.slot_int_rmul (typeIs_int s 1 t) F.entry_int_rmul (F.args_int_rmul_2 _ _) (int_rmul_tuple 1 t l its.toArray n dd sl)
      ⟨ho, rfl, ⟨_, ho, rfl⟩, call_meets F.slot_tuple_mul ⟨_, ho, rfl⟩ F.entry_tuple_mul (F.args_tuple_mul_2 _ _) (tuple_mul1 l its.toArray n t dd sl) ⟨ho, ⟨.ref l, H, I, rfl, q⟩⟩⟩)
theorem op_rep0 : OpR X (binaryOp .Mult) (rRep0 X.K) := by
  intro pins s σ H x y v u Q I rx ry h
  obtain ⟨l, k, xs, rfl, rfl, hk, hk2, hT, hne, q⟩ := h
  cases rx
  obtain ⟨t, rfl⟩ := ry
  obtain ⟨its, r, ⟨⟨cls, dd, data, sl⟩, ho, hc, n, hd⟩, hs⟩ := I.tuple hT
  simp only at hc hd
  subst hc hd
  have hi : its.toArray.isEmpty = false := by
    cases its with
    | nil => exact absurd (List.eq_nil_of_length_eq_zero r.length) hne
    | cons a b => rfl
  exact wpAny_binaryOp_repeat_ref (T := "tuple") (U := "int") (by decide) ⟨_, ho, rfl⟩ (fun s' => typeIs_int s' k t) noFill_tuple_mul F.fills_int_mul F.slot_int_rmul repeat_tuple F.slot_int_index.lookup
    (call_meets F.slot_int_rmul (typeIs_int s k t) F.entry_int_rmul (F.args_int_rmul_2 _ _) (int_rmul_tuple k t l its.toArray n dd sl)
      ⟨ho, rfl, ⟨_, ho, rfl⟩, call_meets F.slot_tuple_mul ⟨_, ho, rfl⟩ F.entry_tuple_mul (F.args_tuple_mul_2 _ _) (tuple_mul0 l its.toArray n k t dd sl hk hk2 hi) ⟨ho,
        ⟨.ref s.heap.objs.size, _, I.laid (t' := s.toks) (o := .tup []) (fun b ob q => Heap.get?_push_of_some _ q) (Nat.le_refl _) ⟨Nat.zero_le _, [], .nil, IsTup.new _ _⟩, rfl, q _ (I.hok.fresh (Nat.le_refl _))⟩⟩⟩)
end
/-- a tuple by an int, whatever the int -/
def fMulT : D → D → M D := fun x y g => match x, y with
  | .d (.tuple xs), .d (.int k) => if xs ≠ [] ∧ -(2 ^ 62) ≤ k ∧ k ≤ 1000 ∧ xs.length ≤ 1000 then .ok (.d (.tuple (List.replicate k.toNat xs).flatten)) g else .stuck
  | _, _ => .stuck
def rMulT (K : PySem.W.Frag) : R2 := fun x y H Q => rRep1 K x y H Q ∨ rRep0 K x y H Q ∨ rRepT K x y H Q
section
variable {X : Cx} {W : WX} {a b : Expr} {ma mb : Ev} {pos : Pos}
theorem op_mulT : OpR X (binaryOp .Mult) (rMulT X.K) := op_rep1.or (op_rep0.or op_repT)
theorem ok_mulT : OkOp X W fMulT (rMulT X.K) := by
  intro B et O env g σ H x y dx dy Q rl rx ry h
  unfold fMulT at h
  split at h
  rotate_left
  · exact h.elim
  rename_i xs k
  split at h
  rotate_left
  · exact h.elim
  rename_i hc
  obtain ⟨p, vs, rfl, h1, h2⟩ := rx
  have ry : y = .int k := ry
  subst ry
  have hl := h2.length
  have hne : vs ≠ [] := fun e => hc.1 ((h2.nil_iff).mp e)
  by_cases k1 : k = 1
  · subst k1
    refine .inl ⟨p, vs, rfl, rfl, h1, ?_⟩
    rw [show (List.replicate (1 : Int).toNat xs).flatten = xs by simp] at h
    exact h.here rl ⟨p, vs, rfl, h1, h2⟩
  · by_cases k0 : k ≤ 0
    · refine .inr (.inl ⟨p, k, vs, rfl, rfl, k0, hc.2.1, h1, hne, fun u hu => ?_⟩)
      rw [show k.toNat = 0 by omega] at h
      exact h.new rl hu ⟨u, [], rfl, .inl (.inl upd_same), rfl⟩
    · refine .inr (.inr ⟨p, k, vs, rfl, rfl, h1, hne, by omega, by omega, by omega, fun u hu => ?_⟩)
      exact h.new rl hu ⟨u, _, rfl, .inl (.inl upd_same), (h2.rep k.toNat).fr (Fr.same (same_new hu))⟩
theorem se_mulT (ha : SE X W a ma) (hb : SE X W b mb) : SE X W (.BinOp a .Mult b pos) (eOp fMulT ma mb) := se_op op_mulT ok_mulT ha hb
end
/-! ### the keys of a dict, in order -/
def fSortedD : List D → M D
  | [x], g => match x.dic with
    | some kvs => (match intsOf (kvs.map (·.1)) with
      | some ks => if ks.length < 64 then .ok (.d (.list ((sortI ks).map PyData.int))) g else .stuck
      | none => .stuck)
    | none => .stuck
  | _, _ => .stuck
theorem keys_rep {K : PySem.W.Frag} {F : Addr → Prop} {H : Hp} : ∀ {kvs : List (P × P)} {l : List (Key × V)} {ks : List Int}, kvs.map (·.1) = ks.map PyData.int → RepKv K F H kvs l → l.map (·.1) = ks.map Sum.inl
  | [], l, [], _, h => by
    have h : l = [] := h
    rw [h]; rfl
  | [], _, _ :: _, e, _ => by cases e
  | (k, d) :: r, l, [], e, _ => by cases e
  | (k, d) :: r, l, i :: ks, e, h => by
    obtain ⟨kk, v, l', rfl, h1, h2, h3⟩ := h
    rw [List.map_cons, List.map_cons, List.cons.injEq] at e
    have e1 : k = .int i := e.1
    have : kk = .inl i := by
      cases kk with
      | inl j => rw [e1] at h1; cases h1; rfl
      | inr x => rw [e1] at h1; cases h1
    rw [List.map_cons, List.map_cons, keys_rep e.2 h3, this]
section
variable {X : Cx} {W : WX}
theorem ok_sortedD : OkCall X W fSortedD (fun xs H Q => ∃ (a : Addr) (kvs : List (Key × V)) (ks : List Int), xs = [.ref a] ∧ Rd H a (.dK kvs) ∧ kvs.map (·.1) = ks.map Sum.inl ∧ ks.length < 64 ∧
    ∀ (ys : List Int) (p : Addr), ys.Perm ks → ys.Pairwise (· ≤ ·) → H p = none → Q (.ref p) (upd H p (.lst (ys.map V.int)))) := by
  intro B et O env g σ H xs ds Q rl rx h
  unfold fSortedD at h
  split at h
  · obtain ⟨v, r, rfl, rv, rfl⟩ := rx
    split at h
    · rename_i kvs e
      split at h
      · rename_i ks e2
        split at h
        · rename_i h64
          obtain ⟨a, l, rfl, h1, h2⟩ := dic_rep e rv
          refine ⟨a, l, ks, rfl, h1, keys_rep (intsOf_map e2) h2, h64, fun ys p hp hw hl => ?_⟩
          have : ys = sortI ks := sorted_unique (hp.trans (sortI_perm ks).symm) hw (sortI_le ks)
          subst this
          exact h.new rl hl ⟨p, _, rfl, upd_same, rl.nF hl, reps_ints _⟩
        · exact h.elim
      · exact h.elim
    · exact h.elim
  · exact h.elim
end
end Sim
set_option maxRecDepth 512
set_option Elab.async false
set_option linter.all false
set_option maxRecDepth 100000
set_option maxHeartbeats 4000000
namespace Sim
open PySem PySem.Spec PyProof.Rows L2
/-! ### a dict that is locked while it is walked -/
/-- the heaps differ in the lock at d alone -/
structure Lk (d : Addr) (l : List (Key × V)) (H H2 : Hp) : Prop where
  ne : ∀ b, b ≠ d → H2 b = H b
  rd : Rd H d (.dK l)
  rd2 : Rd H2 d (.dK l)
theorem Lk.symm {d : Addr} {l : List (Key × V)} {H H2 : Hp} (k : Lk d l H H2) : Lk d l H2 H := ⟨fun b h => (k.ne b h).symm, k.rd2, k.rd⟩
theorem lk_lock {d : Addr} {l : List (Key × V)} {H : Hp} {od : Obj} (h : H d = some (.dK l)) : Lk d l H (upd H d (.frz od (.dK l))) := ⟨fun b hb => upd_ne hb, .inl h, .inr ⟨od, upd_same⟩⟩
theorem lk_unlock {d : Addr} {l : List (Key × V)} {H : Hp} {od : Obj} (h : H d = some (.frz od (.dK l))) : Lk d l H (upd H d (.dK l)) := ⟨fun b hb => upd_ne hb, .inr ⟨od, h⟩, .inl upd_same⟩
section
variable {K : PySem.W.Frag} {F : Addr → Prop} {d : Addr} {l : List (Key × V)} {H H2 : Hp}
theorem Lk.lst (k : Lk d l H H2) {a : Addr} {vs : List V} (h : H a = some (.lst vs)) : H2 a = some (.lst vs) := by
  rw [k.ne a ?_]; · exact h
  rintro rfl
  rcases k.rd with q | ⟨o, q⟩ <;> (rw [h] at q; cases q)
theorem Lk.rdl (k : Lk d l H H2) {a : Addr} {vs : List V} (h : Rd H a (.lst vs)) : Rd H2 a (.lst vs) := by
  have : a ≠ d := by
    rintro rfl
    rcases h with h | ⟨o, h⟩ <;> rcases k.rd with q | ⟨o2, q⟩ <;> (rw [h] at q; cases q)
  unfold Rd
  rw [k.ne a this]; exact h
theorem Lk.rdt (k : Lk d l H H2) {a : Addr} {vs : List V} (h : Rd H a (.tup vs)) : Rd H2 a (.tup vs) := by
  have : a ≠ d := by
    rintro rfl
    rcases h with h | ⟨o, h⟩ <;> rcases k.rd with q | ⟨o2, q⟩ <;> (rw [h] at q; cases q)
  unfold Rd
  rw [k.ne a this]; exact h
theorem Lk.rdk (k : Lk d l H H2) {a : Addr} {vs : List (Key × V)} (h : Rd H a (.dK vs)) : Rd H2 a (.dK vs) := by
  by_cases e : a = d
  · subst e
    have : vs = l := by
      rcases h with h | ⟨o, h⟩ <;> rcases k.rd with q | ⟨o2, q⟩ <;> (rw [h] at q; cases q) <;> rfl
    subst this
    exact k.rd2
  · unfold Rd
    rw [k.ne a e]; exact h
theorem Lk.dom (k : Lk d l H H2) {a : Addr} (h : H a ≠ none) : H2 a ≠ none := by
  by_cases e : a = d
  · subst e; exact rd_dom k.rd2
  · rw [k.ne a e]; exact h
mutual
theorem Rep.lk (k : Lk d l H H2) : ∀ (p : P) (v : V), Rep K F H p v → Rep K F H2 p v
  | .none, v, h => h
  | .bool b, v, h => h
  | .int i, v, h => h
  | .str x, v, h => h
  | .tuple ds, v, h => by
    obtain ⟨a, vs, rfl, h1, h2⟩ := h
    exact ⟨a, vs, rfl, h1.imp k.rdt id, Reps.lk k ds vs h2⟩
  | .list ds, v, h => by
    obtain ⟨a, vs, rfl, h1, h2, h3⟩ := h
    exact ⟨a, vs, rfl, k.lst h1, h2, Reps.lk k ds vs h3⟩
  | .dict kvs, v, h => by
    obtain ⟨a, vs, rfl, h1, h2, h3⟩ := h
    exact ⟨a, vs, rfl, k.rdk h1, h2, RepKv.lk k kvs vs h3⟩
theorem Reps.lk (k : Lk d l H H2) : ∀ (ds : List P) (vs : List V), Reps K F H ds vs → Reps K F H2 ds vs
  | [], _, h => h
  | p :: ds, _, h => by
    obtain ⟨v, r, rfl, h1, h2⟩ := h
    exact ⟨v, r, rfl, Rep.lk k p v h1, Reps.lk k ds r h2⟩
theorem RepKv.lk (k : Lk d l H H2) : ∀ (ds : List (P × P)) (vs : List (Key × V)), RepKv K F H ds vs → RepKv K F H2 ds vs
  | [], _, h => h
  | (q, p) :: ds, _, h => by
    obtain ⟨kk, v, r, rfl, hk, h1, h2⟩ := h
    exact ⟨kk, v, r, rfl, hk, Rep.lk k p v h1, RepKv.lk k ds r h2⟩
end
theorem RepD.lk {et : List Addr} (k : Lk d l H H2) : ∀ (x : D) (v : V), x.nb → RepD K F H et x v → RepD K F H2 et x v
  | .d p, v, _, h => Rep.lk k p v h
  | .cell n, v, _, h => h
  | .scr xs, v, _, h => by
    obtain ⟨a, rfl, h1⟩ := h
    exact ⟨a, rfl, h1.imp (fun ⟨h1, h2⟩ => ⟨k.rdl h1, h2⟩) id⟩
  | .nest ns, v, _, h => by
    obtain ⟨a, vs, rfl, h1, h2, h3⟩ := h
    exact ⟨a, vs, rfl, k.lst h1, h2, h3⟩
  | .bor p, v, hn, h => hn.elim
variable {B : Addr → Prop} {et et' O O' : List Addr} {env : En} {g : G} {σ : L2.St} {H' H2' : Hp}
theorem Rl.lk (k : Lk d l H H2) (hd : ¬ FF B et O d) (r : Rl K B et O env g σ H) : Rl K B et O env g σ H2 := by
  have hO : ∀ {a : Addr}, a ∈ O → a ≠ d := fun {a} h e => hd (.inr (.inr (e ▸ h)))
  refine ⟨⟨r.cel.nd, r.cel.len, fun n a ds h1 h2 => ?_⟩, fun a h => k.dom (r.live a h), r.dB, r.dO, r.len, fun i s h => ?_, r.sep⟩
  · obtain ⟨vs, h3, h4⟩ := r.cel.at_ n a ds h1 h2
    exact ⟨vs, k.lst h3, Reps.lk k ds vs h4⟩
  · have z := r.slot i s h
    cases s with
    | un => trivial
    | sh x =>
      obtain ⟨hn, v, e, h1⟩ := z
      exact ⟨hn, v, e, RepD.lk k x v hn h1⟩
    | own p =>
      cases p with
      | list ds =>
        obtain ⟨a, vs, e, m, h1, h2⟩ := z
        exact ⟨a, vs, e, m, k.lst h1, Reps.lk k ds vs h2⟩
      | dict ds =>
        obtain ⟨a, vs, e, m, h1, h2⟩ := z
        exact ⟨a, vs, e, m, by rw [k.ne a (hO m)]; exact h1, RepKv.lk k ds vs h2⟩
      | _ => exact z
theorem FrS.lk (k : Lk d l H H2) (k' : Lk d l H' H2') (e : H2 d = H2' d) (f : FrS O O' et et' H H') : FrS O O' et et' H2 H2' := by
  have hn : ∀ {a : Addr}, H a = none → H2 a = none := fun {a} h => by
    rw [k.ne a (fun e => rd_dom k.rd (e ▸ h))]; exact h
  refine ⟨⟨f.fr.ext, fun a h => (f.fr.new a h).imp id hn, fun a o h h1 h2 => ?_, fun a xs h => k'.rdt (f.fr.tup a xs (k.symm.rdt h)), fun a h => k'.dom (f.fr.dom a (k.symm.dom h))⟩, fun a h => (f.own a h).imp id hn⟩
  by_cases z : a = d
  · subst z; rw [← e]; exact h
  · rw [k'.ne a z]
    exact f.fr.keep a o (by rw [← k.ne a z]; exact h) h1 h2
end
/-! for k, v in x.items(): .. -/
def kvT (kvs : List (P × P)) : List D := kvs.map fun e => .d (.tuple [e.1, e.2])
theorem rep_key {K : PySem.W.Frag} {F : Addr → Prop} {H : Hp} : ∀ {k : Key}, Rep K F H (keyP k) (kV k)
  | .inl _ => rfl
  | .inr _ => rfl
theorem RepKv.get {K : PySem.W.Frag} {F : Addr → Prop} {H : Hp} : ∀ {kvs : List (P × P)} {l : List (Key × V)} {i : Nat} {e : P × P}, RepKv K F H kvs l → kvs[i]? = some e → ∃ k v, l[i]? = some (k, v) ∧ e.1 = keyP k ∧ Rep K F H e.2 v
  | [], _, i, e, _, h => by simp at h
  | (q, p) :: r, l, 0, e, h, he => by
    obtain ⟨kk, v, l', rfl, hk, h1, _⟩ := h
    cases he
    exact ⟨kk, v, rfl, hk, h1⟩
  | (q, p) :: r, l, i + 1, e, h, he => by
    obtain ⟨kk, v, l', rfl, _, _, h2⟩ := h
    rw [List.getElem?_cons_succ] at he
    obtain ⟨k', v', e1, e2⟩ := RepKv.get (i := i) h2 he
    exact ⟨k', v', by rw [List.getElem?_cons_succ]; exact e1, e2⟩
section
variable {K : PySem.W.Frag} {mg : Str → Option Value} {B : Addr → Prop} {et O : List Addr} {H : Hp} {W : WX}
theorem itm_items {d : Addr} {od : Obj} {kvs : List (P × P)} {l : List (Key × V)} (h : H d = some (.frz od (.dK l))) (ne : d ∉ et) (no : d ∉ O) (hr : RepKv K (FF B et O) H kvs l) : Itm true K O (FF B et O) H et (kvT kvs) (Iti d od l) := by
  intro F2 et2 O2 H2 st hF he i
  have h2 : H2 d = some (.frz od (.dK l)) := st.fr.keep d _ h ne no
  have hl := hr.length
  have hk : (kvT kvs).length = l.length := by unfold kvT; rw [List.length_map]; exact hl
  refine ⟨fun hi => ⟨⟨h2, by omega⟩, fun x H3 y => ?_⟩, fun hi => ⟨h2, by omega⟩⟩
  obtain ⟨T, kk, v, e, rfl, hT, rfl⟩ := y
  refine ⟨same_new hT, fun d' ed => ?_⟩
  unfold kvT at ed
  rw [List.getElem?_map] at ed
  obtain ⟨p, ep, rfl⟩ := Option.map_eq_some_iff.mp ed
  obtain ⟨kk', v', e', ek, rv⟩ := hr.get ep
  rw [e] at e'
  cases e'
  refine ⟨T, [kV kk, v], rfl, .inl (.inl upd_same), kV kk, [v], rfl, by rw [ek]; exact rep_key, v, [], rfl, ?_, rfl⟩
  have r2 : Rep K F2 H2 p.2 v := Rep.mono st.s.fr (fun _ q => .inr (.inr q)) (fun _ q => .inr (.inl q)) hF p.2 v rv
  exact Rep.mono (Fr.same (O := []) (et := []) (same_new hT)) (fun _ q => nomatch q) (fun _ q => nomatch q) (fun _ q => .inl q) p.2 v r2
def RS.ne : RS → RS
  | .err _ _ => .stuck
  | r => r
/-- a lock's ends -/
def lkEnds (D : Ends) (d : Addr) (od : Obj) (u : HO) : Ends := ⟨fun σ' H' => H' d = some (.frz od u) ∧ D.nx σ' (upd H' d u), fun v H' => H' d = some (.frz od u) ∧ D.rt v (upd H' d u), fun σ' H' => H' d = some (.frz od u) ∧ D.bk σ' (upd H' d u), fun σ' H' => H' d = some (.frz od u) ∧ D.ct σ' (upd H' d u)⟩
theorem wS.lk {d : Addr} {l : List (Key × V)} {od : Obj} {r : RS} {D : Ends} (hd : H d = some (.dK l)) (hF : ¬ FF B et O d) (h : wS K mg B W O et H r.ne D) : wS K mg B W O et (upd H d (.frz od (.dK l))) r (lkEnds D d od (.dK l)) := by
  have k0 := lk_lock (od := od) hd
  have hkeep : ∀ {et' O' : List Addr} {H' : Hp}, FrS O O' et et' (upd H d (.frz od (.dK l))) H' → H' d = some (.frz od (.dK l)) ∧ ¬ FF B et' O' d := fun {et' O' H'} f =>
    ⟨f.fr.keep d _ upd_same (fun q => hF (.inr (.inl q))) (fun q => hF (.inr (.inr q))), fun q => (FF.stepS f q).elim hF fun z => by rw [upd_same] at z; cases z⟩
  cases r with
  | stuck => exact h
  | err ex g' => exact h.elim
  | next env' g' =>
    intro σ' H' et' O' rl f
    obtain ⟨h1, h2⟩ := hkeep f
    exact ⟨h1, h σ' _ et' O' (rl.lk (lk_unlock h1) h2) (FrS.lk k0.symm (lk_unlock h1) (by rw [hd, upd_same]) f)⟩
  | ret x g' =>
    intro v H' et' rl f hn rp
    obtain ⟨h1, h2⟩ := hkeep f
    exact ⟨h1, h v _ et' (rl.lk (lk_unlock h1) h2) (FrS.lk k0.symm (lk_unlock h1) (by rw [hd, upd_same]) f) hn (RepD.lk (lk_unlock h1) x v hn rp)⟩
end
def sForI (i : Nat) (f : Ptv) (b : Sv) : Sv := fun env g => match env[i]? with
  | some (.sh (.d (.dict kvs))) => (forL f b (kvT kvs) env g).ne
  | _ => .stuck
section
variable {X : Cx} {W : WX} {k : Nat} {body : List Stmt} {mb : Sv} {f : Ptv} {ts : List Nat} {pos : Pos}
theorem ps_or {st : Stmt} {t t' : TS} (h : PS X st t) (h' : PS X st t') : PS X st (fun D σ H => t D σ H ∨ t' D σ H) := ⟨fun pins s σ H D I q => q.elim (h.run pins s σ H D I) (h'.run pins s σ H D I)⟩
theorem forI_core {i : Nat} {D : Ends} {σ : L2.St} {H : Hp} {B : Addr → Prop} {et O : List Addr} {env : En} {g : G} {d : Addr} {od : Obj} {kvs : List (P × P)} {l : List (Key × V)} (rl : Rl X.K B et O env g σ H) (es : σ[i]? = some (some (.ref d)))
    (hd : H d = some (.frz od (.dK l))) (hF : ¬ FF B et O d) (hr : RepKv X.K (FF B et O) H kvs l) (h1 : wS X.K X.mg B W O et H (forL f mb (kvT kvs) env g) D) : tFor (iItems (tVar i)) (mP X.K ts f) (mS X.K X.mg W mb) D σ H := by
  have it := itm_items hd (fun q => hF (.inr (.inl q))) (fun q => hF (.inr (.inr q))) hr
  refine ⟨.ref d, es, d, od, l, rfl, hd, ?_⟩
  generalize kvT kvs = ds at it h1
  refine ⟨fun i m σ H' => (m = ds.length - i ∧ i ≤ ds.length) ∧ ∃ et' O2 env g, Rl X.K B et' O2 env g σ H' ∧ FrS O O2 et et' H H' ∧ wS X.K X.mg B W O2 et' H' (forL f mb (ds.drop i) env g) D, ⟨ds.length, ⟨by simp, Nat.zero_le _⟩, et, O, env, g, rl, FrS.refl O et H, h1⟩, ?_⟩
  rintro i m σ2 H2 ⟨⟨rfl, hle⟩, et2, O2, env2, g2, rl2, fs, h2⟩
  have go := it (FF B et2 O2) et2 O2 H2 ⟨fs.fr, fs.own⟩ (fun a q => FF.stepS fs q) (fun a q => .inr (.inl q)) i
  by_cases hlt : i < ds.length
  · refine .inr ⟨(go.1 hlt).1, fun σ' H' => ∃ et' O3 env g, Rl X.K B et' O3 env g σ' H' ∧ FrS O O3 et et' H H' ∧ wS X.K X.mg B W O3 et' H' (forL f mb (ds.drop (i + 1)) env g) D, fun σ' H' ⟨et', O3, env, g, q1, q2, q3⟩ => ⟨ds.length - (i + 1), by omega, ⟨rfl, hlt⟩, et', O3, env, g, q1, q2, q3⟩, fun x H3 hy => ?_⟩
    obtain ⟨sm, hx⟩ := (go.1 hlt).2 x H3 hy
    rw [forL_drop hlt] at h2
    by_cases hbr : (ds[i]).isB = true
    · rw [if_pos hbr] at h2; exact h2.elim
    · rw [if_neg hbr] at h2
      have rl3 := rl2.same sm
      have f3 : FrS O2 O2 et2 et2 H2 H3 := ⟨Fr.same sm, fun _ q => .inl q⟩
      split at h2
      · rename_i env3 e3
        refine ⟨B, et2, O2, env2, g2, ds[i], rl3, nb_ofB hbr, hx _ (List.getElem?_eq_getElem hlt), env3, e3, fun σ3 rl4 _ => ?_⟩
        refine ⟨B, et2, O2, env3, g2, rl4, ?_⟩
        have h3 := wS.pre h2 f3
        cases eb : mb env3 g2 with
        | stuck => rw [eb] at h3; exact h3
        | ret d g' => rw [eb] at h3; exact h3
        | err ex g' => rw [eb] at h3; exact h3
        | next env4 g4 =>
          rw [eb] at h3
          intro σ4 H4 e4 O4 rl5 f4
          exact ⟨e4, O4, env4, g4, rl5, (fs.trans f3).trans f4, wS.pre h3 f4⟩
      · exact h2.elim
  · have z := Nat.le_of_not_lt hlt
    refine .inl ⟨go.2 (Nat.le_antisymm hle z), ?_⟩
    rw [List.drop_eq_nil_of_le z] at h2
    exact h2.here rl2
theorem ss_forI {i : Nat} {x : Str} {px ap cp tpos : Pos} {elts : List Expr} {kk : Nat} (c : Cxt X W k) (hg : SP X (.Tuple elts kk tpos) ts f) (hb : SSs X W body mb) (hN : X.N[i]? = some x := by rfl) (hv : Vis X.env.scope x := by first | exact .inl rfl | exact .inr (.inl rfl) | exact .inr (.inr rfl))
    (hd0 : (x == ("__debug__" : Str)) = false := by decide) (hcd : (x == ("__classdict__" : Str)) = false := by decide)
    (hbase : attributeBase (.Name x px) "items" X.env (eval (.Name x px) X.env) = eval (.Name x px) X.env := by rfl) (hline : (ap.endLine == cp.line) = true := by rfl)
    (hs : ∀ y, foldedSetIterable (.Call (.Attribute (.Name x px) "items" ap) [] [] cp) X.env y = pure y := by intro _; rfl) :
    SS X W (.For (.Tuple elts kk tpos) (.Call (.Attribute (.Name x px) "items" ap) [] [] cp) body [] pos) (sForI i f mb) :=
  have p := ps_for (pos := pos) c.po c.calm (pi_items (pe_var hN hv hd0 hcd) hbase hline) hg hb hs
  ps_imp (ps_or (ps_lock p) p) fun D σ H ⟨B, et, O, env, g, rl, h⟩ => by
    unfold sForI at h
    split at h
    · rename_i kvs ei
      obtain ⟨_, v, es, d, l, rfl, h1, hF, hr⟩ := rl.slot i _ ei
      rcases h1 with h1 | ⟨od, h1⟩
      · left
        refine ⟨d, .dK l, h1, trivial, fun od => ?_⟩
        have k0 := lk_lock (od := od) h1
        exact forI_core (rl.lk k0 hF) es upd_same hF (RepKv.lk k0 kvs l hr) (wS.lk h1 hF h)
      · right
        refine forI_core rl es h1 hF hr ?_
        cases e : forL f mb (kvT kvs) env g with
        | stuck => rw [e] at h; exact h
        | err ex g' => rw [e] at h; exact h.elim
        | next env' g' => rw [e] at h; exact h
        | ret x g' => rw [e] at h; exact h
    · exact h.elim
end
/-! {i: j} of two whole numbers -/
def eDictI (i j : Int) : Ev := fun _ g => .ok (.d (.dict [(.int i, .int j)])) g
section
variable {X : Cx} {W : WX} {pos : Pos}
theorem sf_dictI {i j : Int} {a b : _} {p1 p2 : Pos} : SF X W (.Dict [some (.Constant (.int i) a p1)] [.Constant (.int j) b p2] pos) (eDictI i j) :=
  ⟨pe_imp (pe_disp (pps_cons pe_int pe_int pps_nil) rfl rfl (by simp) (by simp)) fun σ H Q ⟨B, et, O, env, g, rl, h⟩ p hp => by
    refine ⟨upd_same, [(.inl i, .int j)], rfl, by simp, ?_⟩
    rw [upd_upd]
    exact wF.new h rl hp ⟨[(.inl i, .int j)], upd_same, .inl i, .int j, [], rfl, rfl, rfl, rfl⟩, fun _ _ _ _ h => by cases h; exact .inr ⟨_, rfl⟩⟩
end
end Sim
set_option maxRecDepth 512
set_option Elab.async false
set_option linter.all false
set_option maxRecDepth 100000
set_option maxHeartbeats 4000000
namespace Sim
open PySem PySem.Spec PyProof.Rows L2
/-! ### a list that a call hands back is new, where the call is handed no list -/
mutual
def noL : P → Bool
  | .list _ => false
  | .dict _ => false
  | .tuple ds => noLs ds
  | .none => true
  | .bool _ => true
  | .int _ => true
  | .str _ => true
def noLs : List P → Bool
  | [] => true
  | d :: ds => noL d && noLs ds
end
def noLD : D → Bool
  | .d p => noL p
  | _ => false
section
variable {K : PySem.W.Frag} {F F' : Addr → Prop} {H : Hp}
mutual
theorem Rep.noL : ∀ {d : P} {v : V}, Sim.noL d = true → Rep K F H d v → Rep K F' H d v
  | .none, _, _, h => h
  | .bool _, _, _, h => h
  | .int _, _, _, h => h
  | .str _, _, _, h => h
  | .tuple ds, v, hd, h => by
    obtain ⟨a, vs, rfl, h1, h2⟩ := h
    exact ⟨a, vs, rfl, h1, Reps.noL (by simpa [Sim.noL] using hd) h2⟩
  | .list ds, v, hd, h => by simp [Sim.noL] at hd
  | .dict ds, v, hd, h => by simp [Sim.noL] at hd
theorem Reps.noL : ∀ {ds : List P} {vs : List V}, Sim.noLs ds = true → Reps K F H ds vs → Reps K F' H ds vs
  | [], _, _, h => h
  | d :: ds, _, hd, h => by
    obtain ⟨v, r, rfl, h1, h2⟩ := h
    have hd' : Sim.noL d = true ∧ Sim.noLs ds = true := by simpa [Sim.noLs] using hd
    exact ⟨v, r, rfl, Rep.noL hd'.1 h1, Reps.noL hd'.2 h2⟩
end
theorem RepDs.noL {et et' : List Addr} : ∀ {ds : List D} {vs : List V}, ds.all noLD = true → RepDs K F H et ds vs → RepDs K F' H et' ds vs
  | [], _, _, h => h
  | d :: ds, _, hd, h => by
    obtain ⟨v, r, rfl, h1, h2⟩ := h
    have hd' : noLD d = true ∧ ds.all noLD = true := by simpa [List.all_cons] using hd
    refine ⟨v, r, rfl, ?_, RepDs.noL hd'.2 h2⟩
    cases d with
    | d p => exact Rep.noL (d := p) hd'.1 h1
    | _ => exact nomatch hd'.1
end
/-- the call's list becomes a cell -/
def callCell (fm : List D → M D) (ds : List D) : M D := fun g =>
  if ds.all noLD then (match fm ds [] with
    | .ok (.d (.list ps)) _ => if noLs ps then .ok (.cell g.length) (g ++ [ps]) else .stuck
    | _ => .stuck) else .stuck
section
variable {K : PySem.W.Frag} {mg : Str → Option Value} {B : Addr → Prop} {O et et' : List Addr} {env : En} {σ : L2.St} {g g' : G} {H H' : Hp} {W : WX}
/-- a new cell out of a list that was not there before -/
theorem Rl.cellOf (r : Rl K B et O env g σ H) (fr : Fr [] [] et' H H') {a : Addr} {ps : List P} {us : List V} (hn : H a = none) (ha : H' a = some (.lst us)) (hu : ∀ F, Reps K F H' ps us) :
    Rl K B (et ++ [a]) O env (g ++ [ps]) σ H' ∧ Fr [] et (et ++ [a]) H H' := by
  have f : Fr [] et (et ++ [a]) H H' := ⟨⟨[a], rfl⟩, fun x h => by
    rcases List.mem_append.mp h with q | q
    · exact .inl q
    · exact .inr (by rw [List.mem_singleton.mp q]; exact hn), fun x o e _ _ => fr.keep x o e (fun h => nomatch h) (fun h => nomatch h), fr.tup, fr.dom⟩
  have np : a ∉ et := fun q => r.live a (.inr (.inl q)) hn
  refine ⟨r.call f ⟨?_, by simp [r.cel.len], fun j x ds h1 h2 => ?_⟩ (fun x h => ?_), f⟩
  · exact List.nodup_append.mpr ⟨r.cel.nd, by simp, fun y hy b hb => by rw [List.mem_singleton.mp hb]; exact fun z => np (by rw [← z]; exact hy)⟩
  · by_cases q : j < et.length
    · rw [List.getElem?_append_left q] at h1
      rw [List.getElem?_append_left (by rw [← r.cel.len]; exact q)] at h2
      obtain ⟨ws, e, h3⟩ := r.cells.at_ j x ds h1 h2
      exact ⟨ws, fr.keep _ _ e (fun h => nomatch h) (fun h => nomatch h), h3.fr f⟩
    · rw [List.getElem?_append_right (Nat.le_of_not_lt q)] at h1
      rw [List.getElem?_append_right (by rw [← r.cel.len]; exact Nat.le_of_not_lt q), ← r.cel.len] at h2
      have z : j - et.length = 0 := by
        have := (List.getElem?_eq_some_iff.mp h1).1
        simp at this; omega
      rw [z] at h1 h2
      cases h1; cases h2
      exact ⟨us, ha, hu _⟩
  · rcases List.mem_append.mp h with q | q
    · exact f.dom x (r.live x (.inr (.inl q)))
    · rw [List.mem_singleton.mp q, ha]; exact fun z => nomatch z
theorem sp_ofC {n : Nat} {fm : List D → M D} {ds : List D} {vs : List V} {Q : VK} (r : Rl K B et O env g σ H) (rp : RepDs K (FF B et O) H et ds vs) (hl : vs.length = n) (h : wG K mg B O env σ W (rD K) et H (callCell fm ds g) Q) :
    spF K mg n fm vs H Q (WE W σ) := by
  refine ⟨hl, ?_⟩
  unfold callCell at h
  split at h
  · rename_i hc
    refine ⟨fun a => H a ≠ none, [], [], ds, ?_, ?_, rp.noL hc, ?_⟩
    · refine ⟨⟨List.nodup_nil, rfl, fun n a ds h => by simp at h⟩, fun a q => ?_, fun a _ q => (nomatch q), fun _ q => (nomatch q), rfl, fun i s q => by simp at q, fun i j d e a q => by simp at q⟩
      rcases q with q | q | q
      · exact q
      · exact nomatch q
      · exact nomatch q
    · intro d hd
      have := List.all_eq_true.mp hc d hd
      cases d <;> first | trivial | cases this
    · cases e : fm ds [] with
      | stuck => rw [e] at h; exact h
      | err _ _ => rw [e] at h; exact h.elim
      | ok d g1 =>
        rw [e] at h
        cases d with
        | d p =>
          cases p with
          | list ps =>
            dsimp only at h
            split at h
            · rename_i hp
              intro v H' et' rl fr rv
              obtain ⟨a, us, rfl, ha, hf, hu⟩ := rv
              have hn : H a = none := Classical.byContradiction fun q => hf (.inl q)
              obtain ⟨q1, q2⟩ := r.cellOf fr hn ha (fun F => hu.noL hp)
              refine h (.ref a) H' (et ++ [a]) q1 q2 ⟨a, rfl, ?_⟩
              rw [← r.cel.len, List.getElem?_append_right (Nat.le_refl _), Nat.sub_self]; rfl
            · exact h.elim
          | _ => exact h.elim
        | _ => exact h.elim
  · exact h.elim
end
section
variable {X : Cx} {W : WX} {e : Expr} {es : List Expr} {ms mk : Evs} {x : Str} {p pos : Pos} {k : Nat} {f : Addr} {fd : FuncData} {ps ks : List Str} {fm : List D → M D}
def eCallC (fm : List D → M D) (ms : Evs) : Ev := eB (callCell fm) ms
theorem se_callC (F : FnS X.prog X.w X.K X.mg X.base k f fd ps fm) (c : Cxt X W k) (hm : X.mg x = some (.ref f)) (hk : PySem.W.keepIn X.K (.ref f) = true) (hb : Binds X.K fd ps []) (ha : SA X W (e :: es) ms) (hl : (e :: es).length = ps.length := by rfl)
    (hg : Gl X x := by rfl) (hd : (x == ("__debug__" : Str)) = false := by decide) (he : starEach (e :: es) X.env = (false, eval e X.env) :: starEach es X.env := by rfl) (hpl : (backTo pos (starEach es X.env)).any (·.1) = false := by rfl) :
    SE X W (.Call (.Name x p) (e :: es) [] pos) (eCallC fm ms) := by
  refine ⟨fun pins s σ H Q I h => ?_⟩
  refine wpAny_Call_Name_kw (ld_glob I hg hm ?_ hd)
  have h2 : tCB (fun vs H1 Q => vs.length = ps.length ∧ spF X.K X.mg ps.length fm vs H1 Q (WE W σ)) (mA X.K X.mg W ms) σ H Q := by
    obtain ⟨B, et, O, env, g, rl, h⟩ := h
    refine ⟨B, et, O, env, g, rl, wG.bind h fun d1 g1 v1 H1 e1 ee rl1 fr1 r1 h1 => ?_⟩
    have hl1 : v1.length = ps.length := by rw [← r1.length, ha.2 _ _ _ _ ee]; exact hl
    exact ⟨hl1, sp_ofC rl1 r1 hl1 h1⟩
  refine PySem.W.callWith_K (h₀ := X.base) I.ok.mod.kin hk (thn (ha.1.run pos pins s σ H _ I h2) fun us s1 ⟨vs, H1, I1, r, hl1, q⟩ => ⟨I1.kIn, ?_⟩) he hpl
  have hb1 := hb s1 us I1.kIn (by rw [List.append_nil, ← r.length]; exact hl1)
  rw [List.append_nil] at hb1
  exact wp_of_code (args := ⟨us, []⟩) (run_f F c hb1 I1 r q)
def eCallCK (fm : List D → M D) (pi : List Nat) (ms mk : Evs) : Ev := fun env g => (ms env g).bind fun xs g1 => (mk env g1).bind fun ys g2 => callCell fm (perm pi (xs ++ ys)) g2
theorem se_callCK0 {kws : List Keyword} {pi : List Nat} (F : FnS X.prog X.w X.K X.mg X.base k f fd ps fm) (c : Cxt X W k) (hm : X.mg x = some (.ref f)) (hk : PySem.W.keepIn X.K (.ref f) = true) (hb : BindK X.K fd ps ks 0 kws.length pi) (hkw : SK X W kws mk)
    (hpi : ∀ i ∈ pi, i < kws.length := by decide) (hpl2 : pi.length = ps.length := by rfl)
    (hall : (backToKw pos (keywordEach kws X.env)).all (·.1.isSome) = true := by rfl) (hks : (backToKw pos (keywordEach kws X.env)).filterMap (·.1) = ks := by rfl)
    (hg : Gl X x := by rfl) (hd : (x == ("__debug__" : Str)) = false := by decide)
    (hpl : ((backTo pos (starEach [] X.env)).any (·.1) || (backToKw pos (keywordEach kws X.env)).any (·.1.isNone)) = false := by rfl) :
    SE X W (.Call (.Name x p) [] kws pos) (eCallCK fm pi aNil mk) := by
  refine ⟨fun pins s σ H Q I h => ?_⟩
  refine wpAny_Call_Name_kw (ld_glob I hg hm ?_ hd)
  have h2 : mA X.K X.mg W mk σ H fun zs H2 => zs.length = kws.length ∧ spF X.K X.mg ps.length fm (perm pi zs) H2 Q (WE W σ) := by
    obtain ⟨B, et, O, env, g, rl, h⟩ := h
    refine ⟨B, et, O, env, g, rl, wG.bind (r := mk env g) (k := fun ys g2 => callCell fm (perm pi ([] ++ ys)) g2) h fun d2 g2 v2 H2 e2 ee2 rl2 fr2 r2 h2 => ?_⟩
    have l2 : v2.length = kws.length := by rw [← r2.length, hkw.2 _ _ _ _ ee2]
    refine ⟨l2, sp_ofC rl2 (reps_perm r2 pi) ?_ h2⟩
    rw [perm_len, hpl2]
    intro i hi
    rw [l2]; exact hpi i hi
  refine PySem.W.callWith_KW0 (h₀ := X.base) I.ok.mod.kin hk hall (thn (hkw.1.run pos pins s σ H _ I h2) fun ws s2 ⟨zs, H2, I2, rz, l2, q2⟩ => ⟨I2.kIn, ?_⟩) hpl
  rw [hks]
  exact wp_of_code (args := ⟨[], ks.zip ws⟩) (run_f F c (hb s2 [] ws I2.kIn rfl (by rw [← rz.length]; exact l2)) I2 (vals_perm rz pi) q2)
theorem se_fC {k' : Nat} {st : Stmt} (G : Fn X.prog X.w X.K X.mg X.base k x st ps fm) (c : Cxt X W k') (ha : SA X W (e :: es) ms) (hk : k ≤ k' := by first | decide | omega) (hl : (e :: es).length = ps.length := by rfl)
    (hg : Gl X x := by rfl) (hd : (x == ("__debug__" : Str)) = false := by decide) (he : starEach (e :: es) X.env = (false, eval e X.env) :: starEach es X.env := by rfl) (hpl : (backTo pos (starEach es X.env)).any (·.1) = false := by rfl) :
    SE X W (.Call (.Name x p) (e :: es) [] pos) (eCallC fm ms) := by
  obtain ⟨f, fd, h1, h2, h3, h4⟩ := G
  exact se_callC h4 (c.mono hk) h1 h2.kp h3 ha hl hg hd he hpl
theorem se_fCK0 {k' : Nat} {st : Stmt} {kws : List Keyword} {pi : List Nat} (G : Fn X.prog X.w X.K X.mg X.base k x st ps fm) (c : Cxt X W k') (hkw : SK X W kws mk)
    (h : ∀ (kV doc pm : Value) (an : Option Addr) (cdv ct : Value) (us ws : List Value), us.length = 0 → ws.length = kws.length → bindArgs (PySem.W.fnOf x x (defArgs st) (defBody st) (defScope st) .none kV doc pm an cdv ct) ⟨us, ks.zip ws⟩ = pure (ps.zip (perm pi (us ++ ws))))
    (hk : k ≤ k' := by first | decide | omega) (hpi : ∀ i ∈ pi, i < kws.length := by decide) (hpl2 : pi.length = ps.length := by rfl)
    (hall : (backToKw pos (keywordEach kws X.env)).all (·.1.isSome) = true := by rfl) (hks : (backToKw pos (keywordEach kws X.env)).filterMap (·.1) = ks := by rfl)
    (hg : Gl X x := by rfl) (hd : (x == ("__debug__" : Str)) = false := by decide)
    (hpl : ((backTo pos (starEach [] X.env)).any (·.1) || (backToKw pos (keywordEach kws X.env)).any (·.1.isNone)) = false := by rfl) :
    SE X W (.Call (.Name x p) [] kws pos) (eCallCK fm pi aNil mk) := by
  obtain ⟨f, fd, h1, h2, h3, h4⟩ := G
  exact se_callCK0 h4 (c.mono hk) h1 h2.kp (bindK_of h2 h) hkw hpi hpl2 hall hks hg hd hpl
/-! ### a list of cells -/
def cellsOf : List D → Option (List Nat)
  | [] => some []
  | .cell n :: r => (cellsOf r).map (n :: ·)
  | _ :: _ => none
theorem cells_nest {K : PySem.W.Frag} {F : Addr → Prop} {H : Hp} {et : List Addr} : ∀ {ds : List D} {ns : List Nat} {vs : List V}, cellsOf ds = some ns → RepDs K F H et ds vs → NestR et ns vs
  | [], _, _, e, h => by cases e; exact h
  | .cell n :: r, ns, vs, e, h => by
    obtain ⟨v, u, rfl, ⟨a, rfl, h1⟩, h2⟩ := h
    simp only [cellsOf, Option.map_eq_some_iff] at e
    obtain ⟨q, e1, rfl⟩ := e
    exact ⟨a, u, rfl, h1, cells_nest e1 h2⟩
  | .d _ :: _, _, _, e, _ => nomatch e
  | .scr _ :: _, _, _, e, _ => nomatch e
  | .bor _ :: _, _, _, e, _ => nomatch e
  | .nest _ :: _, _, _, e, _ => nomatch e
def eNest (ms : Evs) : Ev := fun env g => (ms env g).bind fun ds g1 => match cellsOf ds with
  | some ns => .ok (.nest ns) g1
  | none => .stuck
theorem se_nest (ha : SA X W es ms) (hl : es.length ≤ 100 := by decide) : SE X W (.List es pos) (eNest ms) := by
  refine pe_imp (pe_lst ha.1) fun σ H Q ⟨B, et, O, env, g, rl, h⟩ => ⟨B, et, O, env, g, rl, wG.bind h fun d1 g1 v1 H1 e1 ee rl1 fr1 r1 h1 => ?_⟩
  split at h1
  · rename_i ps e
    have rp := cells_nest e r1
    refine ⟨by rw [← r1.length, ha.2 _ _ _ _ ee]; exact small100 hl, fun p hp => ?_⟩
    exact h1.new rl1 hp ⟨p, v1, rfl, upd_same, rl1.nF hp, rp⟩
  · exact h1.elim
theorem NestR.length {et : List Addr} : ∀ {ns : List Nat} {vs : List V}, NestR et ns vs → ns.length = vs.length
  | [], _, h => by have h : _ = [] := h; subst h; rfl
  | _ :: _, _, ⟨_, _, e, _, h⟩ => by subst e; simp [NestR.length h]
theorem NestR.get {et : List Addr} : ∀ {ns : List Nat} {vs : List V} {i n : Nat}, NestR et ns vs → ns[i]? = some n → ∃ a, vs[i]? = some (.ref a) ∧ et[n]? = some a
  | [], _, _, _, _, e => by simp at e
  | _ :: _, _, 0, _, ⟨a, _, e, h1, _⟩, q => by
    subst e
    simp at q; subst q
    exact ⟨a, rfl, h1⟩
  | _ :: _, _, i + 1, _, ⟨a, r, e, _, h2⟩, q => by
    subst e
    simp at q
    obtain ⟨b, h3, h4⟩ := NestR.get h2 q
    exact ⟨b, by simpa using h3, h4⟩
theorem NestR.atI {et : List Addr} {ns : List Nat} {vs : List V} {i : Int} {n : Nat} (h : NestR et ns vs) (e : L2.atI ns i = some n) : ∃ a, L2.atI vs i = some (.ref a) ∧ et[n]? = some a := by
  unfold L2.atI at e ⊢
  rw [← h.length]
  cases q : ixN ns.length i with
  | none => rw [q] at e; cases e
  | some j => rw [q] at e; exact h.get e
def fIxN : D → D → M D
  | .nest ns, .d (.int i), g => match atI ns i with
    | some n => .ok (.cell n) g
    | none => .stuck
  | _, _, _ => .stuck
theorem ok_ixN : OkOp X W fIxN (rIx X.K) := by
  intro B et O env g σ H x y dx dy Q rl rx ry h
  unfold fIxN at h
  split at h
  · obtain ⟨p, vs, rfl, h1, _, h2⟩ := rx
    split at h
    · rename_i e
      obtain ⟨a, ev, ea⟩ := h2.atI e
      exact .inl ⟨p, vs, _, .ref a, rfl, ry, .inl (.inl h1), ev, h.here rl ⟨a, rfl, ea⟩⟩
    · exact h.elim
  · exact h.elim
theorem se_ixN {a b : Expr} {ma mb : Ev} (ha : SE X W a ma) (hb : SE X W b mb) (hs : PlainIx b := by exact fun _ _ => rfl) : SE X W (.Subscript a b pos) (eOp fIxN ma mb) :=
  pe_imp (pe_ix ix_seq ha hb hs) fun _ _ _ h => top_of ok_ixN h
def nestP (g : G) : List Nat → Option (List P)
  | [] => some []
  | n :: ns => match g[n]? with
    | some ps => (nestP g ns).map (.list ps :: ·)
    | none => none
theorem nest_dp {B : Addr → Prop} {et O : List Addr} {env : En} {g : G} {σ : L2.St} {K : PySem.W.Frag} {H : Hp} (rl : Rl K B et O env g σ H) : ∀ {ns : List Nat} {vs : List V} {ps : List P}, NestR et ns vs → nestP g ns = some ps → PyData.canLayAll0 ps = true → DpAll K H vs ps
  | [], _, _, h, e, _ => by
    have h : _ = [] := h
    subst h
    cases e
    exact .nil
  | n :: ns, _, ps, ⟨a, r, e1, h1, h2⟩, e, hl => by
    subst e1
    unfold nestP at e
    split at e
    · rename_i qs eg
      simp only [Option.map_eq_some_iff] at e
      obtain ⟨t, e2, rfl⟩ := e
      obtain ⟨vs, ha, hr⟩ := rl.cel.at_ n a _ h1 eg
      have hl' : PyData.canLayAll0 qs = true ∧ PyData.canLayAll0 t = true := by simpa [PyData.canLayAll0, PyData.canLay0] using hl
      exact .cons (.lst (.inl (.inl ha)) (Reps.dp hl'.1 hr)) (nest_dp rl h2 e2 hl'.2)
    · cases e
def fReprN : List D → M D
  | [.nest ns], g => match nestP g ns with
    | some ps => if reprOk (.list ps) then .ok (.d (.str (PyData.list ps).shown)) g else .stuck
    | none => .stuck
  | _, _ => .stuck
theorem ok_reprN : OkCall X W fReprN (rReprD X.K) := by
  intro B et O env g σ H xs ds Q rl rx h
  unfold fReprN at h
  split at h
  · split at h
    · rename_i ps en
      split at h
      · rename_i hz
        obtain ⟨v, r, rfl, ⟨a, vs, rfl, ha, _, hn⟩, rfl⟩ := rx
        exact ⟨_, _, rfl, .lst (.inl (.inl ha)) (nest_dp rl hn en (by simpa [PyData.canLay0] using (reprOk_parts hz).1)), hz, h.here rl rfl⟩
      · exact h.elim
    · exact h.elim
  · exact h.elim
/-- a method of one argument that changes a cell that an expression tells -/
def sCellM (f : List P → D → Option (List P)) (m : Ev) (ms : Evs) : Sv := fun env g => (m env g).bindS fun d g1 => match d with
  | .cell n => (ms env g1).bindS fun ds g2 => (match ds, g2[n]? with
    | [d], some ps => (match f ps d with
      | some qs => .next env (g2.set n qs)
      | none => .stuck)
    | _, _ => .stuck)
  | _ => .stuck
theorem ss_cellM {c : Expr} {m : Ev} {f : List P → D → Option (List P)} {r : V → List V → Hp → VK → Prop} (hf : OkM1 X f r) (hp : PE X c (tBM X.K "list" r (mE X.K X.mg W m) (mA X.K X.mg W ms))) (hs : swapsWith c none pos.line X.env = pure false := by rfl) : SS X W (.Expr c pos) (sCellM f m ms) := by
  refine ps_imp (ps_expr hp hs) fun D σ H ⟨B, et, O, env, g, rl, h⟩ => ?_
  refine ⟨B, et, O, env, g, rl, wS.bind h fun d0 g0 v0 H0 e0 _ rl0 fr0 r0 h0 => ?_⟩
  cases d0 with
  | cell n =>
    obtain ⟨a, rfl, en⟩ := r0
    obtain ⟨ds, hds⟩ : ∃ ds, g0[n]? = some ds := by
      have hn : n < e0.length := (List.getElem?_eq_some_iff.mp en).1
      exact ⟨_, List.getElem?_eq_getElem (by rw [← rl0.cel.len]; exact hn)⟩
    obtain ⟨vs0, h00, _⟩ := rl0.cel.at_ n a ds en hds
    refine ⟨.inl ⟨rfl, vs0, .inl (.inl h00)⟩, B, e0, O, env, g0, rl0, wS.bind h0 fun d1 g1 v1 H1 e1 _ rl1 fr1 r1 h3 => ?_⟩
    split at h3
    · rename_i d ps eg _
      split at h3
      · rename_i qs eq
        obtain ⟨x, u, rfl, rx, rfl⟩ := r1
        have en1 := fr1.get en
        obtain ⟨vs, ha1, h2⟩ := rl1.cel.at_ n a _ en1 eg
        refine hf (FF B e1 O) e1 H1 a vs ps qs _ x _ ha1 h2 rx eq fun us hu => ?_
        obtain ⟨q1, q2⟩ := rl1.updCell en1 eg ha1 hu
        exact h3 σ _ e1 O q1 (FrS.ofE q2)
      · exact h3.elim
    · exact h3.elim
  | _ => exact h0.elim
end
end Sim
set_option maxRecDepth 512
set_option Elab.async false
set_option linter.all false
set_option maxRecDepth 100000
set_option maxHeartbeats 4000000
namespace Sim
open PySem PySem.Spec PyProof.Rows L2
/-! ### set(xs), xs a list of ints -/
section
variable {P : Program} {w : World} {A : Around} {E : Value → Shared → Prop} {s : Shared}
abbrev emptyS (w : World) : Obj := { cls := .type "set", dict := none, data := .set #[] 0 (.fresh 0 0 (!w.params.followText "set-order")) }
/-- the set's making tells how its table is laid -/
theorem set_made (x : Value) {R : Value → Shared → Prop} (hr : R (.ref s.heap.objs.size) { s with heap := s.heap.push (emptyS w) }) : codeAny (model P w) A (.call (.builtin "set.__new__") ⟨[.type "set", x], []⟩) (wants R E) s := by
  apply codeAny_of_tree
  show wpAny _ A.in1 (checkBuiltinCall "set.__new__" ⟨[.type "set", x], []⟩ >>= fun _ => again (.builtin "set.__new__" ⟨[.type "set", x], []⟩)) _ _ s
  apply wpAny_bind
  apply wpAny_of_eq (F.newCall_set_1 x)
  refine wpAny_pure ⟨plainId_quiet F.plain_set_new _, codeAny_builtin F.entry_set_new (?_ : wpAny _ _ _ _ _ _)⟩
  rw [Around.under_plainId F.plain_set_new _]
  unfold Builtin.«set.__new__» Builtin.Frozenset.newClass
  have sub := sub_set_self
  cases s
  dsimp only
  wp_walk
  apply wpAny_askSetting
  apply wpAny_pure
  dsimp only
  simp only [newObj]
  exact wpAny_bind (wpAny_alloc (wpAny_pure (wpAny_pure hr)))
theorem take_mem {ns : List Int} {i : Nat} (h : i < ns.length) (j : Int) : (decide (j ∈ ns.take i) || decide (j = ns.getD i 0)) = decide (j ∈ ns.take (i + 1)) := by
  rw [List.take_add_one, List.getElem?_eq_getElem h, List.getD_eq_getElem?_getD, List.getElem?_eq_getElem h, Bool.eq_iff_iff]
  simp only [Bool.or_eq_true, decide_eq_true_eq, List.mem_append, Option.toList_some, List.mem_singleton, Option.getD_some]
variable {R : Result → Shared → Prop} {I : Addr} {fp wr : List Addr} {G : Array GenState → Array GenState → Prop} {Pv : Nat → Value → Prop} {St : Nat → Shared → Prop}
/-- the members are put in, one by one -/
theorem set_grows {ns : List Int} (W : WalksS P w A.in1 I fp wr G ns.length Pv St) {S : Addr} (apart : S ∉ fp) (hin : ∀ i v, Pv i v → ∃ t, v = .int (ns.getD i 0) t) (room : ns.length + 1 < scanBound) (todo : Nat) :
    ∀ (i m : Nat) (s : Shared), i + todo = ns.length → St i s → m ≤ i → SetR w s.heap S (fun j => decide (j ∈ ns.take i)) m →
      (∀ (s' : Shared) (m' : Nat), m' ≤ ns.length → Moved (S :: wr) G s s' → SetR w s'.heap S (fun j => decide (j ∈ ns)) m' → R (.ok (.ret .none)) s') →
      codeAny (model P w) A (.builtin "set.update.loop" ⟨[.ref S, .ref I], []⟩) R s := by
  have nw : S ∉ wr := fun z => apart (W.sub S z)
  have more : ∀ b, b ∈ wr → b ∈ S :: wr := fun b z => List.mem_cons_of_mem S z
  induction todo with
  | zero =>
    intro i m s hi st hm set fin
    have hi : i = ns.length := hi
    subst hi
    apply codeAny_builtin F.entry_set_update_loop
    rw [Around.under_plainId F.plain_set_update_loop _]
    show wpAny _ A.in1 (pyNext (Value.ref I) >>= _) _ _ s
    apply wpAny_bind
    refine W.done s _ _ st fun s1 mv => ?_
    show wpAny (model P w) A.in1 (ret Value.none) _ _ s1
    apply wpAny_pure
    rw [List.take_length] at set
    exact fin s1 m hm (mv.mono more) (set.at fun o => mv.heap S o nw)
  | succ todo ih =>
    intro i m s hi st hm set fin
    have lt : i < ns.length := by omega
    apply codeAny_builtin F.entry_set_update_loop
    rw [Around.under_plainId F.plain_set_update_loop _]
    show wpAny _ A.in1 (pyNext (Value.ref I) >>= _) _ _ s
    apply wpAny_bind
    refine W.item i s _ _ lt st fun v s1 pv st1 mv => ?_
    obtain ⟨t, rfl⟩ := hin i v pv
    have set1 := set.at fun o => mv.heap S o nw
    show wpAny (model P w) A.in1 (holding [Value.int (ns.getD i 0) t] (setAdd S (.int (ns.getD i 0) t)) >>= _) _ _ s1
    apply wpAny_bind
    apply wpAny_holding
    unfold setAdd
    apply wpAny_holding
    apply wpAny_bind
    refine (intKind P w).pyHash (intKind_is P w (ns.getD i 0) t) ?_
    refine setR_add_hashed (s := { s1 with toks := s1.toks + 1 }) set1 (by omega) fun h2 sb set2 => ?_
    have set3 := set2.congr fun k => (take_mem lt k).symm
    refine wpAny_pure ⟨plainId_quiet F.plain_set_update_loop _, ?_⟩
    have fr : St (i + 1) { s1 with heap := h2, toks := s1.toks + 1 } := W.frame (i + 1) s1 h2 (s1.toks + 1) st1 (Nat.le_succ _) fun b hb o e => (sb.2 b fun z => apart (z ▸ hb)).trans e
    refine ih (i + 1) _ { s1 with heap := h2, toks := s1.toks + 1 } (by omega) fr ?_ set3 fun s2 m' hm' mv' set' => fin s2 m' hm' ?_ set'
    · split <;> omega
    · exact Moved.trans W.gtrans ((mv.mono more).then_heap (Nat.le_succ _) fun b o hb e => (sb.2 b fun z => hb (z ▸ List.mem_cons_self)).trans e) mv'
end
section
variable {P : Program} {w : World} {A : Around} {E : Value → Shared → Prop} {s : Shared}
/-- what is left behind -/
def SetLeft (w : World) (s : Shared) (ns : List Int) (s2 : Shared) : Prop :=
  ∃ (h' : Heap) (tk m : Nat), s2 = { s with heap := h', toks := tk } ∧ m ≤ ns.length ∧ SetR w h' s.heap.objs.size (fun j => decide (j ∈ ns)) m ∧ ∀ b o, s.heap.get? b = some o → h'.get? b = some o
set_option maxRecDepth 100000 in
set_option maxHeartbeats 8000000 in
theorem set_filled {l : Addr} {items : Array Value} {ns : List Int} (idle : A.handled = none) (hl : s.heap.IsList l items) (hi : IntsAre items.toList ns) (room : ns.length + 1 < scanBound) :
    codeAny (model P w) A (.call (.builtin "set.__init__") ⟨[.ref s.heap.objs.size, .ref l], []⟩) (wants (fun r s2 => r = .none ∧ SetLeft w s ns s2) E) { s with heap := s.heap.push (emptyS w) } := by
  have big : (s.heap.push (emptyS w)).objs.size = s.heap.objs.size + 1 := Heap.size_push _ _
  have here : (s.heap.push (emptyS w)).get? s.heap.objs.size = some (emptyS w) := Heap.get?_push_size _ rfl
  have ty : Shared.TypeIs { s with heap := s.heap.push (emptyS w) } (.ref s.heap.objs.size) "set" := ⟨_, here, rfl⟩
  have len : items.size = ns.length := by
    have : items.toList.length = ns.length := by
      clear room hl
      generalize items.toList = us at hi
      induction hi with
      | nil => rfl
      | cons _ _ _ ih => simp [ih]
    rw [← this, Array.length_toList]
  refine codeAny_call_builtin F.called_set.init.plain F.entry_set_init (check_set_init_1 ty ?_)
  obtain ⟨⟨oc, od, oda, osl⟩, at_, e1, e2, e3⟩ := hl
  dsimp only at e1 e3
  subst e1 e3
  have old : l < s.heap.objs.size := Heap.lt_size at_
  have at2 : (s.heap.push (emptyS w)).get? l = some { cls := .type "list", dict := od, data := .seq items e2, slots := osl } := Heap.get?_push_of_some _ at_
  have lst : (s.heap.push (emptyS w)).IsList l items := ⟨_, at2, rfl, e2, rfl⟩
  have q1 := F.sub_list_set
  have q2 := F.sub_list_frozenset
  have q3 : (Value.type "list" == Value.type "dict") = false := by decide
  unfold Builtin.«set.__init__» noKeywords Builtin.Frozenset.updateFrom
  generalize hIter : pyIter = it
  wp_walk
  subst hIter
  apply wpAny_pyIter_list lst
  apply wpAny_bind
  apply wpAny_runValue
  have idle3 : A.in1.in1.handled = none := by simp [idle]
  have ne1 : l ≠ (s.heap.push (emptyS w)).objs.size := Nat.ne_of_lt (by rw [big]; exact Nat.lt_succ_of_lt old)
  have apart : s.heap.objs.size ∉ [(s.heap.push (emptyS w)).objs.size, l] := by
    intro z
    simp only [List.mem_cons, List.not_mem_nil, or_false] at z
    rcases z with z | z
    · exact absurd (z.trans big) (Nat.ne_of_lt (Nat.lt_succ_self _))
    · exact absurd z (Nat.ne_of_gt old)
  have W := (Walks.list (prog := P) (w := w) idle3 (s.heap.push (emptyS w)).objs.size l ne1 items).toS
  rw [len] at W
  refine set_grows W apart (fun i v hv => PyProof.Rows.IntsAre.int_at hi i v (by rw [Array.getElem?_toList]; exact hv)) room ns.length 0 0 _ (Nat.zero_add _) ?_ (Nat.le_refl _) ?_ fun s1 m hm mv set => ?_
  · exact ⟨⟨_, Heap.get?_push_size _ rfl, rfl, rfl⟩, lst.push _⟩
  · have e := (setR_fresh (h := s.heap) w).at (h' := (s.heap.push (emptyS w)).push { cls := .type "list_iterator", data := .fields #[.ref l, .int 0 0] }) fun o z => Heap.get?_push_of_some _ z
    exact e.congr fun k => by simp
  · obtain ⟨h1, g1, d1, t1, o1⟩ := s1
    have eg : g1 = s.gens := mv.gens
    have ed : d1 = s.drawn := mv.drawn
    have eo : o1 = s.os := mv.os
    subst eg ed eo
    show wpAny _ _ _ _ _ _
    apply wpAny_pure
    show wpAny _ _ (ret Value.none) _ _ _
    refine wpAny_pure ⟨rfl, h1, t1, m, rfl, hm, set, fun b o e => ?_⟩
    have lt := Heap.lt_size e
    refine mv.heap b o (fun z => ?_) (Heap.get?_push_of_some _ (Heap.get?_push_of_some _ e))
    simp only [List.mem_cons, List.not_mem_nil, or_false] at z
    rcases z with z | z
    · exact absurd z (Nat.ne_of_lt lt)
    · exact absurd (z.trans big) (Nat.ne_of_lt (Nat.lt_succ_of_lt lt))
end
section
variable {P : Program} {w : World} {A : Around} {E : Value → Shared → Prop} {s : Shared}
set_option maxRecDepth 100000 in
set_option maxHeartbeats 8000000 in
/-- set(xs) -/
theorem call_setL {l : Addr} {items : Array Value} {ns : List Int} {Q : Value → Shared → Prop} (idle : A.handled = none) (hl : s.heap.IsList l items) (hi : IntsAre items.toList ns) (room : ns.length + 1 < scanBound)
    (hq : ∀ s2, SetLeft w s ns s2 → Q (.ref s.heap.objs.size) s2) : wpAny (model P w) A (call (.type "set") [.ref l]) Q E s := by
  obtain ⟨c, tl, hmro⟩ := F.called_set.mro
  have hmade := F.called_set.made
  have hsub := F.called_set.sub
  apply wpAny_call
  apply codeAny_of_tree
  show wpAny _ _ (callAny (.type "set") _) _ _ _
  refine wpAny_pure ⟨Code.quiet_builtin _ (by decide +kernel), codeAny_builtin F.entry_type_call (?_ : wpAny _ _ _ _ _ _)⟩
  rw [Around.under_plain (weight_type_call_type "set" [.ref l] []) rfl]
  have q1 := F.called_set.notType
  have q2 := F.called_set.canCreate
  have q3 := F.typeCall_set_1 (.ref l)
  repeat (any_goals (first | assumption | wp_step))
  refine codeAny_mono (set_made (.ref l) (E := E) (R := fun x s1 => x = .ref s.heap.objs.size ∧ s1 = { s with heap := s.heap.push (emptyS w) }) ⟨rfl, rfl⟩) fun r s1 hr => ?_
  match r, hr with
  | .error e, hr => exact hr
  | .ok (.ret x), hr =>
    obtain ⟨rfl, rfl⟩ := hr
    have q4 : Shared.TypeIs { s with heap := s.heap.push (emptyS w) } (.ref s.heap.objs.size) "set" := ⟨_, Heap.get?_push_size _ rfl, rfl⟩
    have q5 := F.called_set.init.lookup
    have q6 := F.called_set.init.bind (.ref s.heap.objs.size)
    repeat (any_goals (first | assumption | wp_step))
    refine codeAny_mono (set_filled (E := E) idle hl hi room) fun r2 s2 hr2 => ?_
    match r2, hr2 with
    | .error e, hr2 => exact hr2
    | .ok (.ret y), hr2 =>
      obtain ⟨rfl, left⟩ := hr2
      repeat (any_goals (first | assumption | wp_step))
      exact hq _ left
    | .ok .next, hr2 => exact hr2.elim
    | .ok .brk, hr2 => exact hr2.elim
    | .ok .cont, hr2 => exact hr2.elim
  | .ok .next, hr => exact hr.elim
  | .ok .brk, hr => exact hr.elim
  | .ok .cont, hr => exact hr.elim
end
section
variable {X : Cx} {W : WX} {k : Nat}
/-- set(xs), xs a list of fewer than 64 ints -/
def rSetL (K : PySem.W.Frag) (w : World) : List V → Hp → VK → Prop := fun xs H Q => ∃ (l : Addr) (ns : List Int), xs = [.ref l] ∧ SqL K H l (ns.map V.int) ∧ ns.length < 64 ∧
  ∀ (p : Addr) (m : Nat), H p = none → m ≤ ns.length → Q (.ref p) (upd H p (SetO w p (fun j => decide (j ∈ ns)) m))
theorem cr_setL (calm : X.calm = true) : CallR X (.type "set") (rSetL X.K X.w) := by
  intro pins s σ H xs us Q I r h
  obtain ⟨l, ns, rfl, hl, h64, q⟩ := h
  rw [Vals.ref1 r]
  obtain ⟨its, rv, pl, hz⟩ := I.list hl
  refine call_setL (I.ok.hd calm) pl.isList (by simpa using RZ.intsAre_vals rv) (by unfold scanBound; omega) fun s2 left => ?_
  obtain ⟨h2, tk, m, rfl, hm, set, keep⟩ := left
  have hn := I.hok.fresh (Nat.le_refl s.heap.objs.size)
  exact ⟨.ref s.heap.objs.size, _, I.laid (t' := tk) keep (Nat.le_refl _) (setO_new set), rfl, q _ m hn hm⟩
/-- each once -/
def dd : List Int → List Int
  | [] => []
  | a :: l => if a ∈ dd l then dd l else a :: dd l
theorem mem_dd {k : Int} : ∀ {l : List Int}, k ∈ dd l ↔ k ∈ l
  | [] => Iff.rfl
  | a :: l => by
    unfold dd
    split
    · rename_i h
      rw [mem_dd, List.mem_cons]
      exact ⟨.inr, fun h' => h'.elim (fun e => by rw [e]; exact mem_dd.mp h) id⟩
    · rw [List.mem_cons, List.mem_cons, mem_dd]
theorem nodup_dd : ∀ {l : List Int}, (dd l).Nodup
  | [] => List.nodup_nil
  | a :: l => by
    unfold dd
    split
    · exact nodup_dd
    · rename_i h
      exact List.nodup_cons.mpr ⟨h, nodup_dd⟩
theorem dd_nodup : ∀ {l : List Int}, l.Nodup → dd l = l
  | [], _ => rfl
  | a :: l, h => by
    obtain ⟨h1, h2⟩ := List.nodup_cons.mp h
    unfold dd
    rw [if_neg (fun q => h1 (mem_dd.mp q)), dd_nodup h2]
def eSortSet (m : Ev) : Ev := fun env g => (m env g).bind fun x g1 => match x.lst.bind intsOf with
  | some ns => if ns.length < 64 then .ok (.d (.list ((sortI (dd ns)).map PyData.int))) g1 else .stuck
  | none => .stuck
variable {e : Expr} {m : Ev} {p p2 pos pos2 : Pos}
theorem se_sortSet (c : Cxt X W k) (hm : X.mg "sorted" = none) (hm2 : X.mg "set" = none) (ha : SE X W e m) (hg : Gl X "sorted" := by rfl) (hg2 : Gl X "set" := by rfl)
    (na : starEach [e] X.env = (false, eval e X.env) :: starEach [] X.env := by rfl) (na2 : starEach [.Call (.Name "set" p2) [e] [] pos2] X.env = (false, eval (.Call (.Name "set" p2) [e] [] pos2) X.env) :: starEach [] X.env := by rfl) :
    SE X W (.Call (.Name "sorted" p) [.Call (.Name "set" p2) [e] [] pos2] [] pos) (eSortSet m) := by
  refine pe_imp (pe_callB (he := na2) (hn := by decide) (hdb := by decide) (cr_sortedSet c.calm) hg hm (by decide +kernel) (pa_cons (pe_callTy (he := na) (hn := by decide) (hdb := by decide) (cr_setL c.calm) hg2 hm2 (by decide +kernel) (pa_cons ha pa_nil na)) pa_nil na2)) fun σ H Q ⟨B, et, O, env, g, rl, h⟩ => ?_
  refine ⟨B, et, O, env, g, rl, wG.bind h fun d1 g1 v1 H1 e1 ee rl1 fr1 r1 h1 => ?_⟩
  split at h1
  rotate_left
  · exact h1.elim
  rename_i ns en
  split at h1
  rotate_left
  · exact h1.elim
  rename_i hc
  obtain ⟨a, rfl, ha1⟩ := lstI_rep en r1
  refine ⟨a, ns, rfl, .inl (.inl ha1), hc, fun q j hq hj => ?_⟩
  refine ⟨q, _, j, rfl, upd_same, by omega, fun ns' p' hs hmem hlen hp' => ?_⟩
  have hn' : ns'.Nodup := hs.imp fun h => Int.ne_of_lt h
  have hpm : ns'.Perm (dd ns) := (List.perm_ext_iff_of_nodup hn' nodup_dd).mpr fun k => by rw [hmem, mem_dd]; simp
  have hu : ns' = sortI (dd ns) := sorted_unique (hpm.trans (sortI_perm (dd ns)).symm) (hs.imp fun h => Int.le_of_lt h) (sortI_le (dd ns))
  subst hu
  have hnp : H1 p' = none := by
    by_cases z : p' = q
    · rw [z]; exact hq
    · rw [← hp', upd_ne z]
  have sm : Same H1 (upd (upd H1 q (SetO X.w q (fun j => decide (j ∈ ns)) j)) p' (.lst ((sortI (dd ns)).map V.int))) := fun b o e => by
    rw [upd_ne (ne_of_none e hnp), upd_ne (ne_of_none e hq)]; exact e
  exact h1 (.ref p') _ e1 (rl1.same sm) (Fr.same sm) ⟨p', _, rfl, upd_same, rl1.nF hnp, reps_ints _⟩
end
section
variable {X : Cx} {W : WX} {k : Nat} {a b d : Expr} {ma mb md : Ev} {pos : Pos}
/-- x, y, z = e, a new list, a new list: a tuple is built and taken apart -/
def sParSOO (i j l : Nat) (a b d : Ev) : Sv := fun env g => (a env g).bindS fun x g0 => if x.isB then .stuck else (b env g0).bindS fun y g1 => match y with
  | .d p => (d env g1).bindS fun z g2 => (match z with
    | .d p2 => .next (((env.set i (.sh x)).set j (.own p)).set l (.own p2)) g2
    | _ => .stuck)
  | _ => .stuck
theorem ss_parSOOt {i j l : Nat} {x y z : Str} {px py pz pt : Pos} {kt k2 : Nat} {pt2 : Pos} (c : Cxt X W k) (ha : SE X W a ma) (hb : SF X W b mb) (hd : SF X W d md) (hi : X.N[i]? = some x := by rfl) (hj : X.N[j]? = some y := by rfl) (hl : X.N[l]? = some z := by rfl) (hij : i ≠ j := by decide) (hil : i ≠ l := by decide)
    (hx : Loc X.env.scope x := by first | exact .inl rfl | exact .inr rfl) (hfx : X.fn x = true ∨ X.env.scope.names.lookup x = some .local := by first | exact .inl rfl | exact .inr rfl)
    (hy : Loc X.env.scope y := by first | exact .inl rfl | exact .inr rfl) (hfy : X.fn y = true ∨ X.env.scope.names.lookup y = some .local := by first | exact .inl rfl | exact .inr rfl)
    (hz : Loc X.env.scope z := by first | exact .inl rfl | exact .inr rfl) (hfz : X.fn z = true ∨ X.env.scope.names.lookup z = some .local := by first | exact .inl rfl | exact .inr rfl)
    (hw : swappedStores [.Tuple [.Name x px, .Name y py, .Name z pz] kt pt] (.Tuple [a, b, d] k2 pt2) X.env = pure none := by rfl)
    (hs : swapsWithSole [.Tuple [.Name x px, .Name y py, .Name z pz] kt pt] (.Tuple [a, b, d] k2 pt2) pos.line X.env = pure false := by rfl)
    (h0 : (assignEach [.Tuple [.Name x px, .Name y py, .Name z pz] kt pt] X.env).map (·.2) = [assign (.Tuple [.Name x px, .Name y py, .Name z pz] kt pt) X.env] := by rfl)
    (hn : (assignEach [.Name x px, .Name y py, .Name z pz] X.env).length = 3 := by rfl) (hst : (assignEach [.Name x px, .Name y py, .Name z pz] X.env).findIdx? (·.1) = none := by rfl)
    (hs1 : (assignEach [.Name x px, .Name y py, .Name z pz] X.env).map (·.2) = assign (.Name x px) X.env :: (assignEach [.Name y py, .Name z pz] X.env).map (·.2) := by rfl)
    (hs2 : (assignEach [.Name y py, .Name z pz] X.env).map (·.2) = assign (.Name y py) X.env :: (assignEach [.Name z pz] X.env).map (·.2) := by rfl)
    (hs3 : (assignEach [.Name z pz] X.env).map (·.2) = assign (.Name z pz) X.env :: (assignEach [] X.env).map (·.2) := by rfl)
    (h1 : starEach [a, b, d] X.env = (false, eval a X.env) :: starEach [b, d] X.env := by rfl) (h2 : starEach [b, d] X.env = (false, eval b X.env) :: starEach [d] X.env := by rfl) (h3 : starEach [d] X.env = [(false, eval d X.env)] := by rfl) :
    SS X W (.Assign [.Tuple [.Name x px, .Name y py, .Name z pz] kt pt] (.Tuple [a, b, d] k2 pt2) pos) (sParSOO i j l ma mb md) :=
  ps_imp (ps_asg (pe_tup (pa_cons ha (pa_cons hb.1 (pa_cons hd.1 pa_nil h3) h2) h1)) (pg_tup c.calm (pgs_cons (pg_name c.nd hi hx hfx) (pgs_cons (pg_name c.nd hj hy hfy) (pgs_cons (pg_name c.nd hl hz hfz) pgs_nil hs3) hs2) hs1) hn hst) hs hw h0) fun D σ H ⟨B, et, O, env, g, rl, h⟩ => ⟨B, et, O, env, g, rl, wS.bind h fun d0 g0 v0 H0 e0 _ rl0 fr0 r0 h00 => by
    by_cases hbb : d0.isB = true
    · rw [if_pos hbb] at h00; exact h00.elim
    rw [if_neg hbb] at h00
    refine ⟨B, e0, O, env, g0, rl0, fresh_of (fun d g' e => hb.2 _ _ _ _ e) h00 rl0 fun p g1 ad H1 e1 ea rl1 fr1 hn nB cn h1 => ?_⟩
    have rl1' := rl1.toOwn nB
    have hF1 : FrS O (ad :: O) e0 e1 H0 H1 := ⟨fr1.weak fun x h => (nomatch h), fun x h => by
      rcases List.mem_cons.mp h with q | q
      · exact .inr (by rw [q]; exact hn)
      · exact .inl q⟩
    have h1 := wS.pre h1 hF1
    have cs := cont_slot cn
    have adn : ad ∉ e1 := rl1.dB ad (.inr rfl)
    have hno : ∀ (j : Nat) (e : P), env[j]? = some (Sl.own e) → σ[j]? ≠ some (some (.ref ad)) := fun j e h3 h4 => by
      have z := rl0.slot j _ h3
      have : ad ∈ O := by
        cases e with
        | list ds => obtain ⟨y', vs, e4, my, _⟩ := z; rw [h4] at e4; cases e4; exact my
        | dict ds => obtain ⟨y', vs, e4, my, _⟩ := z; rw [h4] at e4; cases e4; exact my
        | _ => exact z.elim
      exact rl0.live ad (.inr (.inr this)) hn
    refine ⟨B, e1, ad :: O, env, g1, rl1', fresh_of (fun d g' e => hd.2 _ _ _ _ e) h1 rl1' fun p2 g2 bd H2 e2 eb rl2 fr2 hn2 nB2 cn2 h2 => ?_⟩
    have cs2 : SlotR X.K (FF (BU B bd) e2 (ad :: O)) e2 (ad :: O) H2 (.own p) (some (some (.ref ad))) :=
      slot_mono cs fr2 adn (fun a q => .inr (.inl q)) (fun x q => by
        rcases q with (q | q) | q | q
        · exact .inl (.inl q)
        · exact .inr (by rw [q]; exact hn2)
        · exact (fr2.new x q).imp (fun z => .inr (.inl z)) id
        · exact .inl (.inr (.inr q))) List.mem_cons_self
    have fr12 := fr1.trans fr2
    have r0' : RepD X.K (FF (BU B bd) e2 (ad :: O)) H2 e2 d0 v0 :=
      RepD.mono fr12 (fun _ q => (nomatch q)) (fun a q => .inr (.inl q)) (fun x q => by
        rcases q with (q | q) | q | q
        · exact .inl (.inl q)
        · exact .inr (Classical.byContradiction fun z => fr1.dom x z (by rw [q]; exact hn2))
        · exact (fr12.new x q).imp (fun z => .inr (.inl z)) id
        · rcases List.mem_cons.mp q with q | q
          · exact .inr (by rw [q]; exact hn)
          · exact .inl (.inr (.inr q))) d0 v0 (.inl rfl) r0
    have rl2s := rl2.set i (nb_ofB hbb) r0'
    have hno' : ∀ (m : Nat) (e : P), (env.set i (Sl.sh d0))[m]? = some (Sl.own e) → (σ.set i (some v0))[m]? ≠ some (some (.ref ad)) := fun m e h3 => by
      by_cases q : i = m
      · subst q
        rw [List.getElem?_set] at h3
        simp only [if_true] at h3
        split at h3 <;> cases h3
      · rw [List.getElem?_set_ne q] at h3 ⊢
        exact hno m e h3
    have rl3 := ((rl2s.give List.mem_cons_self j cs2 hno').take nB2 l (d := p2) (x := none) (cont_slot cn2))
    refine ⟨by show 3 ≤ sizeLine; unfold sizeLine; decide, fun p hp => ⟨p, [v0, .ref ad, .ref bd], rfl, .inl (.inl upd_same), rfl, v0, [.ref ad, .ref bd], rfl, .ref ad, [.ref bd], rfl, .ref bd, [], rfl, rfl, ?_⟩⟩
    have f2 : FrS (ad :: O) (bd :: ad :: O) e1 e2 H1 H2 := ⟨fr2.weak fun x h => (nomatch h), fun x h => by
      rcases List.mem_cons.mp h with q | q
      · exact .inr (by rw [q]; exact hn2)
      · exact .inl q⟩
    exact h2 _ _ e2 (bd :: ad :: O) (rl3.same (same_new hp)) (f2.trans (FrS.ofE (Fr.same (same_new hp))))⟩
end
end Sim
set_option maxRecDepth 512
set_option Elab.async false
set_option linter.all false
set_option maxRecDepth 100000
set_option maxHeartbeats 4000000
/-! enumerate over a zip: the inner zip's tuple is still out when the next one is asked for -/
namespace PySem
open Sem (wp)
/-- a zip, whatever it knows of the tuple that it gave out last -/
abbrev IsZipM (h : Heap) (z TI TO : Addr) (m f : Value) : Prop :=
  h.get? z = some { cls := .type "zip", dict := none, data := .fields #[m, f, .bool false, .ref TI, .ref TO], slots := #[] }
def MarkOk (m f : Value) : Prop := (m = .none ∨ ∃ T : Addr, m = rawInt T) ∧ ∃ b, f = .bool b
section
variable {prog : Program} {w : World} {A : Around} {E : Value → Shared → Prop} {s : Shared} {z TI TO i1 i2 : Addr} {fp1 fp2 : List Addr} {n1 n2 i : Nat} {P1 P2 : Nat → Value → Prop} {St1 St2 : Nat → Heap → Prop} {a1 a2 m f : Value}
theorem alive_any {a : Addr} {Q : Option Obj → Shared → Prop} (h : Q (s.heap.get? a) s) : wpAny (model prog w) A (loadIfAlive a) Q E s := fun _ _ _ => h
theorem wpAny_freeM {Q : Bool → Shared → Prop} (hm : MarkOk m f) (hz : IsZipM s.heap z TI TO m f)
    (h : ∀ b h' f', MarkOk m f' → IsZipM h' z TI TO m f' → Heap.SameBut z s.heap h' → Q b { s with heap := h' }) : wpAny (model prog w) A (Builtin.SmallTypes.ownedTupleIsFree (.ref z)) Q E s := by
  obtain ⟨hm1, b, rfl⟩ := hm
  unfold Builtin.SmallTypes.ownedTupleIsFree
  rcases hm1 with rfl | ⟨T, rfl⟩
  · refine wpAny_bind (wpAny_field hz rfl (x := .none) rfl (wpAny_pure ?_))
    exact h true s.heap _ ⟨.inl rfl, b, rfl⟩ hz (Heap.SameBut.refl _ _)
  · refine wpAny_bind (wpAny_field hz rfl (x := rawInt T) rfl ?_)
    show wpAny _ _ (loadIfAlive ((T : Int).toNat) >>= _) _ _ _
    rw [Int.toNat_natCast]
    refine wpAny_bind (alive_any ?_)
    cases s.heap.get? T with
    | none =>
      simp only [Option.isNone_none, if_true]
      exact wpAny_pure (h true s.heap _ ⟨.inr ⟨T, rfl⟩, b, rfl⟩ hz (Heap.SameBut.refl _ _))
    | some oT =>
      simp only [Option.isNone_some, Bool.false_eq_true, if_false]
      refine wpAny_bind (wpAny_field hz rfl (x := .bool b) rfl ?_)
      cases b with
      | true =>
        rw [if_neg (show ¬ ((Value.bool true != Value.bool true) = true) from Bool.false_ne_true)]
        exact wpAny_pure (h false s.heap _ ⟨.inr ⟨T, rfl⟩, _, rfl⟩ hz (Heap.SameBut.refl _ _))
      | false =>
        rw [if_pos (show (Value.bool false != Value.bool true) = true from rfl)]
        exact wpAny_bind (wpAny_setField_rec hz (by simp) fun h₁ hz₁ hs₁ => wpAny_pure (h false h₁ _ ⟨.inr ⟨T, rfl⟩, _, rfl⟩ hz₁ hs₁))
theorem zipM_next_item {Q : Value → Shared → Prop} (S : ZipSep2 z TI TO i1 i2 fp1 fp2) (D1 : Draws prog w A i1 fp1 n1 P1 St1) (D2 : Draws prog w A i2 fp2 n2 P2 St2) (hm : MarkOk m f)
    (hz : IsZipM s.heap z TI TO m f) (hTI : IsTupOf2 s.heap TI (.ref i1) (.ref i2)) (hTO : IsTupOf2 s.heap TO a1 a2) (st1 : St1 i s.heap) (st2 : St2 i s.heap) (hlt1 : i < n1) (hlt2 : i < n2)
    (hQ : ∀ x1 x2 h' tk m' f' b1 b2, P1 i x1 → P2 i x2 → MarkOk m' f' → IsZipM h' z TI TO m' f' → IsTupOf2 h' TO b1 b2 → St1 (i + 1) h' → St2 (i + 1) h' → IsTupOf2 h' s.heap.objs.size x1 x2 → h'.objs.size = s.heap.objs.size + 1 →
      (∀ c o, c ≠ z → c ≠ TO → c ≠ i1 → c ≠ i2 → s.heap.get? c = some o → h'.get? c = some o) → Q (.ref s.heap.objs.size) { s with heap := h', toks := tk }) :
    wpAny (model prog w) A (Builtin.«zip.__next__» ⟨[.ref z], []⟩) (fun fin s' => ∃ v, fin = .done (.ret v) ∧ Q v s') E s := by
  obtain ⟨hp, g, d, tk0, os⟩ := s
  show wpAny _ _ (field (.ref z) 2 >>= _) _ _ _
  refine wpAny_bind (wpAny_field hz rfl (x := .bool false) rfl ?_)
  show wpAny _ _ (field (.ref z) 3 >>= _) _ _ _
  refine wpAny_bind (wpAny_field hz rfl (x := .ref TI) rfl ?_)
  refine wpAny_bind (wpAny_seqItems hTI rfl ?_)
  show wpAny _ _ (Builtin.SmallTypes.ownedTupleIsFree (.ref z) >>= _) _ _ _
  refine wpAny_bind (wpAny_freeM hm hz fun fr g00 f' hm' hz00 hs00 => ?_)
  replace hs00 : Heap.SameBut z hp g00 := hs00
  cases fr with
  | true =>
    simp only [if_true]
    refine wpAny_bind (wpAny_rule ?_)
    refine wpAny_bind (wpAny_field (s := ⟨g00, g, d, tk0, os⟩) hz00 rfl (x := .ref TO) rfl ?_)
    refine wpAny_bind (wpAny_setField_rec (s := ⟨g00, g, d, tk0, os⟩) hz00 (by simp) fun g0 hz0 hs0' => ?_)
    replace hz0 : IsZipM g0 z TI TO .ellipsis f' := hz0
    replace hs0' : Heap.SameBut z g00 g0 := hs0'
    have hs0 : Heap.SameBut z hp g0 := ⟨hs0'.1.trans hs00.1, fun c hc => (hs0'.2 c hc).trans (hs00.2 c hc)⟩
    refine wpAny_bind ?_
    simp only [List.zipIdx_cons, List.zipIdx_nil, List.forIn_cons, List.forIn_nil]
    refine wpAny_bind (wpAny_bind (wpAny_onRaise ?_))
    show wpAny _ _ (Builtin.SmallTypes.nextOf (.ref i1) >>= _) _ _ ⟨g0, g, d, tk0, os⟩
    refine wpAny_bind (D1.item i _ _ _ hlt1 (D1.over st1 hs0 S.zf1) fun x1 p1 tk1 hx1 sn1 hp1 => wpAny_pure ?_)
    replace hp1 : Heap.SameBut i1 g0 p1 := hp1
    have hU1 : IsTupOf2 p1 TO a1 a2 := hp1.extBut _ _ S.Ti1 (hs0.extBut _ _ S.TOz hTO)
    refine wpAny_bind (wpAny_seqItems (s := ⟨p1, g, d, tk1, os⟩) hU1 rfl ?_)
    refine wpAny_bind (updateSeq_IsTupOf2 (s := ⟨p1, g, d, tk1, os⟩) hU1 fun g1 hT1 hs1 => ?_)
    replace hT1 : IsTupOf2 g1 TO x1 a2 := hT1
    replace hs1 : Heap.SameBut TO p1 g1 := hs1
    refine wpAny_bind (wpAny_letGo (wpAny_pure ?_))
    refine wpAny_bind (wpAny_bind (wpAny_onRaise ?_))
    show wpAny _ _ (Builtin.SmallTypes.nextOf (.ref i2) >>= _) _ _ ⟨g1, g, d, tk1, os⟩
    refine wpAny_bind (D2.item i _ _ _ hlt2 (D2.over (D2.over (D2.over st2 hs0 S.zf2) hp1 S.sep1_2) hs1 S.Tf2) fun x2 p2 tk2 hx2 sn2 hp2 => wpAny_pure ?_)
    replace hp2 : Heap.SameBut i2 g1 p2 := hp2
    have hU2 : IsTupOf2 p2 TO x1 a2 := hp2.extBut _ _ S.Ti2 hT1
    refine wpAny_bind (wpAny_seqItems (s := ⟨p2, g, d, tk2, os⟩) hU2 rfl ?_)
    refine wpAny_bind (updateSeq_IsTupOf2 (s := ⟨p2, g, d, tk2, os⟩) hU2 fun g2 hT2 hs2 => ?_)
    replace hT2 : IsTupOf2 g2 TO x1 x2 := hT2
    replace hs2 : Heap.SameBut TO p2 g2 := hs2
    refine wpAny_bind (wpAny_letGo (wpAny_pure (wpAny_pure ?_)))
    refine wpAny_bind (wpAny_seqItems (s := ⟨g2, g, d, tk2, os⟩) hT2 rfl ?_)
    refine wpAny_bind (wpAny_newTuple ?_)
    have hsz : g2.objs.size = hp.objs.size := by rw [hs2.1, hp2.1, hs1.1, hp1.1, hs0.1]
    have hzz : IsZipM g2 z TI TO .ellipsis f' := (hs2.extBut _ _ S.TOz.symm (hp2.extBut _ _ S.zi2 (hs1.extBut _ _ S.TOz.symm (hp1.extBut _ _ S.zi1 hz0))))
    have hkk : ∀ c o, c ≠ z → c ≠ TO → c ≠ i1 → c ≠ i2 → hp.get? c = some o → g2.get? c = some o := fun c o cz cT c1 c2 e =>
      (hs2.extBut _ _ cT (hp2.extBut _ _ c2 (hs1.extBut _ _ cT (hp1.extBut _ _ c1 (hs0.extBut _ _ cz e)))))
    have hj1 : St1 (i + 1) g2 := (D1.over (D1.over (D1.over sn1 hs1 S.Tf1) hp2 S.sep2_1) hs2 S.Tf1)
    have hj2 : St2 (i + 1) g2 := (D2.over sn2 hs2 S.Tf2)
    have hzlt : z < g2.objs.size := Heap.lt_size hzz
    show wpAny _ _ (Builtin.SmallTypes.ownedTupleHandOut (.ref z) (.ref g2.objs.size) >>= _) _ _ ⟨g2.push { cls := .type "tuple", data := .seq #[x1, x2] }, g, d, tk2, os⟩
    refine wpAny_bind ?_
    unfold Builtin.SmallTypes.ownedTupleHandOut
    have hz₆ : IsZipM (g2.push { cls := .type "tuple", data := .seq #[x1, x2] }) z TI TO .ellipsis f' := Heap.get?_push_of_some _ hzz
    refine wpAny_bind (wpAny_setField_rec hz₆ (by simp) fun h₇ hz₇ hs₇ => ?_)
    replace hz₇ : IsZipM h₇ z TI TO (rawInt g2.objs.size) f' := hz₇
    refine wpAny_setField_rec hz₇ (by simp) fun h₈ hz₈ hs₈ => ?_
    replace hz₈ : IsZipM h₈ z TI TO (rawInt g2.objs.size) (.bool false) := hz₈
    replace hs₇ : Heap.SameBut z (g2.push { cls := .type "tuple", data := .seq #[x1, x2] }) h₇ := hs₇
    replace hs₈ : Heap.SameBut z h₇ h₈ := hs₈
    have up : ∀ c o, c ≠ z → g2.get? c = some o → h₈.get? c = some o := fun c o c1 e => hs₈.extBut _ _ c1 (hs₇.extBut _ _ c1 (Heap.get?_push_of_some _ e))
    have hT₈ : IsTupOf2 h₈ g2.objs.size x1 x2 := hs₈.extBut _ _ (Nat.ne_of_gt hzlt) (hs₇.extBut _ _ (Nat.ne_of_gt hzlt) (Heap.get?_push_size _ rfl))
    have hz8 : h₈.objs.size = g2.objs.size + 1 := by rw [hs₈.1, hs₇.1, Heap.size_push]
    rw [hsz] at hz₈ hT₈ hz8
    refine wpAny_pure ⟨_, rfl, ?_⟩
    show Q (.ref g2.objs.size) ⟨h₈, g, d, tk2, os⟩
    rw [hsz]
    exact hQ x1 x2 h₈ tk2 _ _ _ _ hx1 hx2 ⟨.inr ⟨_, rfl⟩, _, rfl⟩ hz₈ (up _ _ S.TOz hT2) (D1.frame _ _ _ hj1 fun b hb o e => up b o (fun q => S.zf1 (q ▸ hb)) e) (D2.frame _ _ _ hj2 fun b hb o e => up b o (fun q => S.zf2 (q ▸ hb)) e) hT₈ hz8 fun c o cz cT c1 c2 e => up c o cz (hkk c o cz cT c1 c2 e)
  | false =>
    simp only [Bool.false_eq_true, if_false]
    refine wpAny_bind ?_
    rw [← Array.forIn_toList]
    simp only [List.forIn_cons, List.forIn_nil]
    refine wpAny_bind (wpAny_bind (wpAny_holding ?_))
    show wpAny _ _ (Builtin.SmallTypes.nextOf (.ref i1) >>= _) _ _ ⟨g00, g, d, tk0, os⟩
    refine wpAny_bind (D1.item i _ _ _ hlt1 (D1.over st1 hs00 S.zf1) fun x1 p1 tk1 hx1 sn1 hp1 => wpAny_pure ?_)
    replace hp1 : Heap.SameBut i1 g00 p1 := hp1
    refine wpAny_pure ?_
    refine wpAny_bind (wpAny_bind (wpAny_holding ?_))
    show wpAny _ _ (Builtin.SmallTypes.nextOf (.ref i2) >>= _) _ _ ⟨p1, g, d, tk1, os⟩
    refine wpAny_bind (D2.item i _ _ _ hlt2 (D2.over (D2.over st2 hs00 S.zf2) hp1 S.sep1_2) fun x2 p2 tk2 hx2 sn2 hp2 => wpAny_pure ?_)
    replace hp2 : Heap.SameBut i2 p1 p2 := hp2
    refine wpAny_pure (wpAny_pure ?_)
    show wpAny _ _ (newTuple [x1, x2] >>= _) _ _ ⟨p2, g, d, tk2, os⟩
    refine wpAny_bind (wpAny_newTuple ?_)
    have hsz : p2.objs.size = hp.objs.size := by rw [hp2.1, hp1.1, hs00.1]
    have hzz : IsZipM p2 z TI TO m f' := hp2.extBut _ _ S.zi2 (hp1.extBut _ _ S.zi1 hz00)
    have hkk : ∀ c o, c ≠ z → c ≠ i1 → c ≠ i2 → hp.get? c = some o → p2.get? c = some o := fun c o cz c1 c2 e => hp2.extBut _ _ c2 (hp1.extBut _ _ c1 (hs00.extBut _ _ cz e))
    have hj1 : St1 (i + 1) p2 := D1.over sn1 hp2 S.sep2_1
    have hTT : IsTupOf2 (p2.push { cls := .type "tuple", data := .seq #[x1, x2] }) p2.objs.size x1 x2 := Heap.get?_push_size _ rfl
    have hz4 : (p2.push { cls := .type "tuple", data := .seq #[x1, x2] }).objs.size = p2.objs.size + 1 := Heap.size_push ..
    refine wpAny_pure ⟨_, rfl, ?_⟩
    show Q (.ref p2.objs.size) ⟨p2.push { cls := .type "tuple", data := .seq #[x1, x2] }, g, d, tk2, os⟩
    rw [hsz] at hTT hz4 ⊢
    exact hQ x1 x2 _ tk2 _ _ _ _ hx1 hx2 hm' (Heap.get?_push_of_some _ hzz) (Heap.get?_push_of_some _ (hkk _ _ S.TOz S.Ti1 S.Ti2 hTO)) (D1.frame _ _ _ hj1 fun b hb o e => Heap.get?_push_of_some _ e) (D2.frame _ _ _ sn2 fun b hb o e => Heap.get?_push_of_some _ e) hTT hz4 fun c o cz _ c1 c2 e => Heap.get?_push_of_some _ (hkk c o cz c1 c2 e)
theorem zipM_next_end {Q : Fin → Shared → Prop} (S : ZipSep2 z TI TO i1 i2 fp1 fp2) (D1 : Draws prog w A i1 fp1 n1 P1 St1) (D2 : Draws prog w A i2 fp2 n2 P2 St2) (hm : MarkOk m f)
    (hz : IsZipM s.heap z TI TO m f) (hTI : IsTupOf2 s.heap TI (.ref i1) (.ref i2)) (hTO : IsTupOf2 s.heap TO a1 a2) (st1 : St1 i s.heap) (st2 : St2 i s.heap) (hle1 : i ≤ n1) (hle2 : i ≤ n2) (hend : i = n1 ∨ i = n2)
    (hE : ∀ h' tk e, (∀ c o, c ≠ z → c ≠ TO → c ≠ i1 → c ≠ i2 → s.heap.get? c = some o → h'.get? c = some o) → (∃ o, h'.get? e = some o ∧ o.cls = .type "StopIteration") → E (.ref e) { s with heap := h', toks := tk }) :
    wpAny (model prog w) A (Builtin.«zip.__next__» ⟨[.ref z], []⟩) Q E s := by
  obtain ⟨hp, g, d, tk0, os⟩ := s
  show wpAny _ _ (field (.ref z) 2 >>= _) _ _ _
  refine wpAny_bind (wpAny_field hz rfl (x := .bool false) rfl ?_)
  show wpAny _ _ (field (.ref z) 3 >>= _) _ _ _
  refine wpAny_bind (wpAny_field hz rfl (x := .ref TI) rfl ?_)
  refine wpAny_bind (wpAny_seqItems hTI rfl ?_)
  show wpAny _ _ (Builtin.SmallTypes.ownedTupleIsFree (.ref z) >>= _) _ _ _
  refine wpAny_bind (wpAny_freeM hm hz fun fr g00 f' hm' hz00 hs00 => ?_)
  replace hs00 : Heap.SameBut z hp g00 := hs00
  cases fr with
  | true =>
    simp only [if_true]
    refine wpAny_bind (wpAny_rule ?_)
    refine wpAny_bind (wpAny_field (s := ⟨g00, g, d, tk0, os⟩) hz00 rfl (x := .ref TO) rfl ?_)
    refine wpAny_bind (wpAny_setField_rec (s := ⟨g00, g, d, tk0, os⟩) hz00 (by simp) fun g0 hz0 hs0' => ?_)
    replace hz0 : IsZipM g0 z TI TO .ellipsis f' := hz0
    replace hs0' : Heap.SameBut z g00 g0 := hs0'
    have hs0 : Heap.SameBut z hp g0 := ⟨hs0'.1.trans hs00.1, fun c hc => (hs0'.2 c hc).trans (hs00.2 c hc)⟩
    refine wpAny_bind ?_
    simp only [List.zipIdx_cons, List.zipIdx_nil, List.forIn_cons, List.forIn_nil]
    refine wpAny_bind (wpAny_bind (wpAny_onRaise ?_))
    show wpAny _ _ (Builtin.SmallTypes.nextOf (.ref i1) >>= _) _ _ ⟨g0, g, d, tk0, os⟩
    by_cases hlt1 : i < n1
    · refine wpAny_bind (D1.item i _ _ _ hlt1 (D1.over st1 hs0 S.zf1) fun x1 p1 tk1 hx1 sn1 hp1 => wpAny_pure ?_)
      replace hp1 : Heap.SameBut i1 g0 p1 := hp1
      have hU1 : IsTupOf2 p1 TO a1 a2 := hp1.extBut _ _ S.Ti1 (hs0.extBut _ _ S.TOz hTO)
      refine wpAny_bind (wpAny_seqItems (s := ⟨p1, g, d, tk1, os⟩) hU1 rfl ?_)
      refine wpAny_bind (updateSeq_IsTupOf2 (s := ⟨p1, g, d, tk1, os⟩) hU1 fun g1 hT1 hs1 => ?_)
      replace hT1 : IsTupOf2 g1 TO x1 a2 := hT1
      replace hs1 : Heap.SameBut TO p1 g1 := hs1
      refine wpAny_bind (wpAny_letGo (wpAny_pure ?_))
      have hi2 : i = n2 := by omega
      refine wpAny_bind (wpAny_bind (wpAny_onRaise ?_))
      show wpAny _ _ (Builtin.SmallTypes.nextOf (.ref i2) >>= _) _ _ ⟨g1, g, d, tk1, os⟩
      refine wpAny_bind (D2.done ⟨g1, g, d, tk1, os⟩ _ _ (by rw [← hi2]; exact (D2.over (D2.over (D2.over st2 hs0 S.zf2) hp1 S.sep1_2) hs1 S.Tf2)) fun q e hq he => ?_)
      replace hq : Heap.ExtBut i2 g1 q := hq
      obtain ⟨oe, hoe, hce⟩ := he
      replace hoe : q.get? e = some oe := hoe
      have hzq : IsZipM q z TI TO .ellipsis f' := hq _ _ S.zi2 (hs1.extBut _ _ S.TOz.symm (hp1.extBut _ _ S.zi1 hz0))
      have hez : e ≠ z := fun x => by subst x; rw [hzq] at hoe; cases hoe; simp at hce
      refine wpAny_setField_rec (s := ⟨q, g, d, tk1, os⟩) hzq (by simp) fun q' _ hq' => ?_
      replace hq' : Heap.SameBut z q q' := hq'
      exact hE q' tk1 e (fun c o cz cT c1 c2 x => hq'.extBut _ _ cz (hq _ _ c2 (hs1.extBut _ _ cT (hp1.extBut _ _ c1 (hs0.extBut _ _ cz x))))) ⟨oe, hq'.extBut _ _ hez hoe, hce⟩
    · have hi1 : i = n1 := by omega
      refine wpAny_bind (D1.done ⟨g0, g, d, tk0, os⟩ _ _ (by rw [← hi1]; exact (D1.over st1 hs0 S.zf1)) fun q e hq he => ?_)
      replace hq : Heap.ExtBut i1 g0 q := hq
      obtain ⟨oe, hoe, hce⟩ := he
      replace hoe : q.get? e = some oe := hoe
      have hzq : IsZipM q z TI TO .ellipsis f' := hq _ _ S.zi1 hz0
      have hez : e ≠ z := fun x => by subst x; rw [hzq] at hoe; cases hoe; simp at hce
      refine wpAny_setField_rec (s := ⟨q, g, d, tk0, os⟩) hzq (by simp) fun q' _ hq' => ?_
      replace hq' : Heap.SameBut z q q' := hq'
      exact hE q' tk0 e (fun c o cz cT c1 c2 x => hq'.extBut _ _ cz (hq _ _ c1 (hs0.extBut _ _ cz x))) ⟨oe, hq'.extBut _ _ hez hoe, hce⟩
  | false =>
    simp only [Bool.false_eq_true, if_false]
    refine wpAny_bind ?_
    rw [← Array.forIn_toList]
    simp only [List.forIn_cons, List.forIn_nil]
    refine wpAny_bind (wpAny_bind (wpAny_holding ?_))
    show wpAny _ _ (Builtin.SmallTypes.nextOf (.ref i1) >>= _) _ _ ⟨g00, g, d, tk0, os⟩
    by_cases hlt1 : i < n1
    · refine wpAny_bind (D1.item i _ _ _ hlt1 (D1.over st1 hs00 S.zf1) fun x1 p1 tk1 hx1 sn1 hp1 => wpAny_pure ?_)
      replace hp1 : Heap.SameBut i1 g00 p1 := hp1
      refine wpAny_pure ?_
      have hi2 : i = n2 := by omega
      refine wpAny_bind (wpAny_bind (wpAny_holding ?_))
      show wpAny _ _ (Builtin.SmallTypes.nextOf (.ref i2) >>= _) _ _ ⟨p1, g, d, tk1, os⟩
      refine wpAny_bind (D2.done ⟨p1, g, d, tk1, os⟩ _ _ (by rw [← hi2]; exact (D2.over (D2.over st2 hs00 S.zf2) hp1 S.sep1_2)) fun q e hq he => ?_)
      exact hE q tk1 e (fun c o cz cT c1 c2 x => hq _ _ c2 (hp1.extBut _ _ c1 (hs00.extBut _ _ cz x))) he
    · have hi1 : i = n1 := by omega
      refine wpAny_bind (D1.done ⟨g00, g, d, tk0, os⟩ _ _ (by rw [← hi1]; exact (D1.over st1 hs00 S.zf1)) fun q e hq he => ?_)
      exact hE q tk0 e (fun c o cz cT c1 c2 x => hq _ _ c1 (hs00.extBut _ _ cz x)) he
theorem nextOf_zipM_item {Q : Value → Shared → Prop} (S : ZipSep2 z TI TO i1 i2 fp1 fp2) (D1 : Draws prog w A.in1 i1 fp1 n1 P1 St1) (D2 : Draws prog w A.in1 i2 fp2 n2 P2 St2) (hm : MarkOk m f)
    (hz : IsZipM s.heap z TI TO m f) (hTI : IsTupOf2 s.heap TI (.ref i1) (.ref i2)) (hTO : IsTupOf2 s.heap TO a1 a2) (st1 : St1 i s.heap) (st2 : St2 i s.heap) (hlt1 : i < n1) (hlt2 : i < n2)
    (hQ : ∀ x1 x2 h' tk m' f' b1 b2, P1 i x1 → P2 i x2 → MarkOk m' f' → IsZipM h' z TI TO m' f' → IsTupOf2 h' TO b1 b2 → St1 (i + 1) h' → St2 (i + 1) h' → IsTupOf2 h' s.heap.objs.size x1 x2 → h'.objs.size = s.heap.objs.size + 1 →
      (∀ c o, c ≠ z → c ≠ TO → c ≠ i1 → c ≠ i2 → s.heap.get? c = some o → h'.get? c = some o) → Q (.ref s.heap.objs.size) { s with heap := h', toks := tk }) :
    wpAny (model prog w) A (Builtin.SmallTypes.nextOf (.ref z)) Q E s := by
  have hT : s.TypeIs (.ref z) "zip" := ⟨_, hz, rfl⟩
  unfold Builtin.SmallTypes.nextOf
  exact wpAny_bind (wpAny_callSpecial?_slot (name := Str.ofString "__next__") hT F.slot_zip_next
    (wpAny_call_entry F.slot_zip_next hT F.entry_zip_next
      (zipM_next_item S D1 D2 hm hz hTI hTO st1 st2 hlt1 hlt2 fun x1 x2 h' tk m' f' b1 b2 y1 y2 c1 c2 d1 d2 b5 b6 b7 b8 => wpAny_pure (hQ x1 x2 h' tk m' f' b1 b2 y1 y2 c1 c2 d1 d2 b5 b6 b7 b8)) (F.args_zip_next_1 _)))
theorem nextOf_zipM_end {Q : Value → Shared → Prop} (S : ZipSep2 z TI TO i1 i2 fp1 fp2) (D1 : Draws prog w A.in1 i1 fp1 n1 P1 St1) (D2 : Draws prog w A.in1 i2 fp2 n2 P2 St2) (hm : MarkOk m f)
    (hz : IsZipM s.heap z TI TO m f) (hTI : IsTupOf2 s.heap TI (.ref i1) (.ref i2)) (hTO : IsTupOf2 s.heap TO a1 a2) (st1 : St1 i s.heap) (st2 : St2 i s.heap) (hle1 : i ≤ n1) (hle2 : i ≤ n2) (hend : i = n1 ∨ i = n2)
    (hE : ∀ h' tk e, (∀ c o, c ≠ z → c ≠ TO → c ≠ i1 → c ≠ i2 → s.heap.get? c = some o → h'.get? c = some o) → (∃ o, h'.get? e = some o ∧ o.cls = .type "StopIteration") → E (.ref e) { s with heap := h', toks := tk }) :
    wpAny (model prog w) A (Builtin.SmallTypes.nextOf (.ref z)) Q E s := by
  have hT : s.TypeIs (.ref z) "zip" := ⟨_, hz, rfl⟩
  unfold Builtin.SmallTypes.nextOf
  exact wpAny_bind (wpAny_callSpecial?_slot (name := Str.ofString "__next__") hT F.slot_zip_next
    (wpAny_call_entry F.slot_zip_next hT F.entry_zip_next
      (zipM_next_end S D1 D2 hm hz hTI hTO st1 st2 hle1 hle2 hend hE) (F.args_zip_next_1 _)))
/-- the next of an enumerate over any iterator: what its own next does is told by hin -/
theorem enum_next_over {e it : Addr} {c : Int} {old : Value} {Q : Option Value → Shared → Prop} (he : IsEnum s.heap e it c old)
    (hin : ∀ (Q' : Value → Shared → Prop) (E' : Value → Shared → Prop), (∀ x h1 tk1, IsEnum h1 e it c old →
      (∀ h', (let T := h1.objs.size; IsEnumOut h' e it (c + 1) x T ∧ h'.get? T = some { cls := .type "tuple", data := .seq #[.int c tk1, x] } ∧ h'.objs.size = T + 1 ∧ (∀ b o, b ≠ e → h1.get? b = some o → h'.get? b = some o)) →
        Q (some (.ref h1.objs.size)) { s with heap := h', toks := tk1 + 1 }) → Q' x { s with heap := h1, toks := tk1 }) → wpAny (model prog w) A.in1 (Builtin.SmallTypes.nextOf (.ref it)) Q' E' s) :
    wpAny (model prog w) A (pyNext (.ref e)) Q E s := by
  have hT : s.TypeIs (.ref e) "enumerate" := ⟨_, he, rfl⟩
  unfold pyNext
  refine wpAny_bind (wpAny_attempt (wpAny_callSpecial?_slot (name := Str.ofString "__next__") hT F.slot_enumerate_next
    (wpAny_call_entry F.slot_enumerate_next hT F.entry_enumerate_next ?_ (F.args_enumerate_next_1 _))))
  obtain ⟨hp, g, d, tk₀, os⟩ := s
  show wpAny _ _ (field (.ref e) 2 >>= _) _ _ _
  refine wpAny_bind (wpAny_field he rfl (x := .ref it) rfl ?_)
  refine wpAny_bind (hin _ _ fun x h₁ tk he₁ hQ => ?_)
  show wpAny _ _ (field (.ref e) 3 >>= _) _ _ ⟨h₁, g, d, tk, os⟩
  refine wpAny_bind (wpAny_field he₁ rfl (x := rawInt c) rfl ?_)
  show wpAny _ _ (field (.ref e) 4 >>= _) _ _ ⟨h₁, g, d, tk, os⟩
  refine wpAny_bind (wpAny_field he₁ rfl (x := .none) rfl ?_)
  show wpAny _ _ (mkInt c >>= _) _ _ ⟨h₁, g, d, tk, os⟩
  refine wpAny_bind (wpAny_mkInt ?_)
  show wpAny _ _ (setField (.ref e) 3 (rawInt (c + 1)) >>= _) _ _ ⟨h₁, g, d, tk + 1, os⟩
  refine wpAny_bind (wpAny_setField_rec he₁ (by simp) fun h₂ he₂ hs₂ => ?_)
  replace hs₂ : Heap.SameBut e h₁ h₂ := hs₂
  replace he₂ : IsEnum h₂ e it (c + 1) old := he₂
  show wpAny _ _ (setField (.ref e) 4 .none >>= _) _ _ ⟨h₂, g, d, tk + 1, os⟩
  refine wpAny_bind (wpAny_setField_rec he₂ (by simp) fun h₃ he₃ hs₃ => ?_)
  replace hs₃ : Heap.SameBut e h₂ h₃ := hs₃
  replace he₃ : IsEnum h₃ e it (c + 1) old := he₃
  show wpAny _ _ (newTuple [.int c tk, x] >>= _) _ _ ⟨h₃, g, d, tk + 1, os⟩
  refine wpAny_bind (wpAny_newTuple ?_)
  have he₄ : IsEnum (h₃.push { cls := .type "tuple", data := .seq #[.int c tk, x] }) e it (c + 1) old := Heap.get?_push_of_some _ he₃
  generalize hh₄ : h₃.push { cls := .type "tuple", data := .seq #[.int c tk, x] } = h₄ at he₄
  have hsz : h₃.objs.size = h₁.objs.size := by rw [hs₃.1, hs₂.1]
  have hel : e < h₁.objs.size := Heap.lt_size he₁
  have ht₄ : h₄.get? h₁.objs.size = some { cls := .type "tuple", data := .seq #[.int c tk, x] } := by rw [← hh₄, ← hsz]; exact Heap.get?_push_size _ rfl
  have hz₄ : h₄.objs.size = h₁.objs.size + 1 := by rw [← hh₄, Heap.size_push, hsz]
  have hk₄ : ∀ b o, b ≠ e → h₁.get? b = some o → h₄.get? b = some o := fun b o hbe hb => by
    rw [← hh₄]; exact Heap.get?_push_of_some _ (hs₃.extBut b o hbe (hs₂.extBut b o hbe hb))
  show wpAny _ _ (Builtin.SmallTypes.ownedTupleIsFree (.ref e) >>= _) _ _ ⟨h₄, g, d, tk + 1, os⟩
  rw [hsz]
  clear hh₄ he₃ hs₃ he₂ hs₂ hsz h₃ h₂
  refine wpAny_bind ?_
  · unfold Builtin.SmallTypes.ownedTupleIsFree
    refine wpAny_bind (wpAny_field he₄ rfl (x := .none) rfl (wpAny_pure ?_))
    simp only [if_true]
    refine wpAny_bind (wpAny_rule ?_)
    refine wpAny_bind (wpAny_field he₄ rfl (x := old) rfl ?_)
    refine wpAny_bind (wpAny_setField_rec he₄ (by simp) fun h₅ he₅ hs₅ => ?_)
    replace hs₅ : Heap.SameBut e h₄ h₅ := hs₅
    replace he₅ : IsEnum h₅ e it (c + 1) x := he₅
    show wpAny _ _ (Builtin.SmallTypes.ownedTupleHandOut (.ref e) (.ref h₁.objs.size) >>= _) _ _ ⟨h₅, g, d, tk + 1, os⟩
    refine wpAny_bind ?_
    · unfold Builtin.SmallTypes.ownedTupleHandOut
      refine wpAny_bind (wpAny_setField_rec he₅ (by simp) fun h₆ he₆ hs₆ => ?_)
      replace hs₆ : Heap.SameBut e h₅ h₆ := hs₆
      replace he₆ : IsEnumOut h₆ e it (c + 1) x h₁.objs.size := he₆
      refine wpAny_setField_rec he₆ (by simp) fun h₇ he₇ hs₇ => ?_
      replace hs₇ : Heap.SameBut e h₆ h₇ := hs₇
      replace he₇ : IsEnumOut h₇ e it (c + 1) x h₁.objs.size := he₇
      refine wpAny_bind (wpAny_letGo (wpAny_pure ⟨_, rfl, wpAny_pure (hQ h₇ ⟨he₇, ?_, ?_, ?_⟩)⟩))
      · exact hs₇.extBut _ _ (Nat.ne_of_gt hel) (hs₆.extBut _ _ (Nat.ne_of_gt hel) (hs₅.extBut _ _ (Nat.ne_of_gt hel) ht₄))
      · rw [hs₇.1, hs₆.1, hs₅.1, hz₄]
      · exact fun b o hbe hb => hs₇.extBut b o hbe (hs₆.extBut b o hbe (hs₅.extBut b o hbe (hk₄ b o hbe hb)))
theorem enum_end_over {e it : Addr} {c : Int} {old : Value} {Q : Option Value → Shared → Prop} (he : IsEnum s.heap e it c old)
    (hin : ∀ (Q' : Value → Shared → Prop) (E' : Value → Shared → Prop), (∀ h' tk x, (∃ o, h'.get? x = some o ∧ o.cls = .type "StopIteration") → Q none { s with heap := h', toks := tk } → E' (.ref x) { s with heap := h', toks := tk }) → wpAny (model prog w) A.in1 (Builtin.SmallTypes.nextOf (.ref it)) Q' E' s) :
    wpAny (model prog w) A (pyNext (.ref e)) Q E s := by
  have hT : s.TypeIs (.ref e) "enumerate" := ⟨_, he, rfl⟩
  unfold pyNext
  refine wpAny_bind (wpAny_attempt (wpAny_callSpecial?_slot (name := Str.ofString "__next__") hT F.slot_enumerate_next
    (wpAny_call_entry F.slot_enumerate_next hT F.entry_enumerate_next ?_ (F.args_enumerate_next_1 _))))
  show wpAny _ _ (field (.ref e) 2 >>= _) _ _ _
  refine wpAny_bind (wpAny_field he rfl (x := .ref it) rfl ?_)
  refine wpAny_bind (hin _ _ fun h' tk x hx' hq => ?_)
  obtain ⟨o, ho, hc⟩ := hx'
  refine wpAny_bind (wpAny_isInstance (T := "StopIteration") (b := true) ⟨o, ho, hc⟩ isSubtype_stop ?_)
  exact wpAny_pure hq
end
end PySem
namespace Sim
open PySem PySem.Spec PyProof.Rows L2
/-- two sources in pairs, each pair with its place -/
def Itez (K : PySem.W.Frag) (k1 k2 : SKd) (a b : Addr) : It :=
  ⟨fun i H => ∃ (xs ys : List V) (x y : V), SkSq k1 K H a xs ∧ SkSq k2 K H b ys ∧ xs[i]? = some x ∧ ys[i]? = some y,
    fun i H v H' => ∃ T T2 x y, v = .ref T2 ∧ H T = none ∧ upd H T (.tup [x, y]) T2 = none ∧ H' = upd (upd H T (.tup [x, y])) T2 (.tup [.int (i : Nat), .ref T]) ∧ (∀ xs, SkSq k1 K H a xs → xs[i]? = some x) ∧ ∀ ys, SkSq k2 K H b ys → ys[i]? = some y,
    fun i H => ∃ xs ys : List V, SkSq k1 K H a xs ∧ SkSq k2 K H b ys ∧ i ≤ xs.length ∧ i ≤ ys.length ∧ (i = xs.length ∨ i = ys.length)⟩
def EzSt (k1 k2 : SKd) (a b e z TI TO i1 i2 : Addr) (i : Nat) (h : Heap) : Prop :=
  (∃ old, IsEnum h e z ((i : Nat) : Int) old) ∧ (∃ m f, MarkOk m f ∧ IsZipM h z TI TO m f) ∧ IsTupOf2 h TI (.ref i1) (.ref i2) ∧ (∃ x y, IsTupOf2 h TO x y) ∧ SkIt k1 h i1 a i ∧ SkIt k2 h i2 b i
theorem fpok_upd {X : Cx} {pins : List (Addr × Obj)} {H : Hp} {b T : Addr} {o : HO} (h : FpOk X pins H b) (n : b ≠ T) : FpOk X pins (upd H T o) b := ⟨by rw [upd_ne n]; exact h.1, h.2⟩
theorem turn_ez {P : Program} {w : World} {K : PySem.W.Frag} {elts : List Expr} {kk : Nat} {tpos : Pos} {k1 k2 : SKd} {a b e z TI TO i1 i2 : Addr} (S : ZipSep2 z TI TO i1 i2 [i1, a] [i2, b]) (n1 : a ≠ i1) (n2 : b ≠ i2)
    (ne : e ∉ [z, TI, TO, i1, i2]) (nea : e ≠ a) (neb : e ≠ b) :
    Turn P w K (.Tuple elts kk tpos) (Itez K k1 k2 a b) [e, z, TI, TO, i1, i2] e (EzSt k1 k2 a b e z TI TO i1 i2) where
  mem := List.mem_cons_self
  obj := fun i h st c hc => by
    obtain ⟨⟨old, he⟩, ⟨m, f, hm, hz⟩, hTI, ⟨x, y, hTO⟩, h1, h2⟩ := st
    rcases mem6 hc with q | q | q | q | q | q <;> subst q
    · exact ⟨_, he, nofun⟩
    · exact ⟨_, hz, nofun⟩
    · exact ⟨_, hTI, nofun⟩
    · exact ⟨_, hTO, nofun⟩
    · exact h1.get
    · exact h2.get
  keep := fun i h h' st k => by
    obtain ⟨⟨old, he⟩, ⟨m, f, hm, hz⟩, hTI, ⟨x, y, hTO⟩, h1, h2⟩ := st
    have mm : ∀ c, c = e ∨ c = z ∨ c = TI ∨ c = TO ∨ c = i1 ∨ c = i2 → c ∈ [e, z, TI, TO, i1, i2] := fun c q => by simpa using q
    exact ⟨⟨old, k e (mm _ (.inl rfl)) _ he⟩, ⟨m, f, hm, k z (mm _ (.inr (.inl rfl))) _ hz⟩, k TI (mm _ (.inr (.inr (.inl rfl)))) _ hTI, ⟨x, y, k TO (mm _ (.inr (.inr (.inr (.inl rfl))))) _ hTO⟩, h1.keep fun o q => k i1 (mm _ (.inr (.inr (.inr (.inr (.inl rfl)))))) o q, h2.keep fun o q => k i2 (mm _ (.inr (.inr (.inr (.inr (.inr rfl)))))) o q⟩
  item := by
    intro X hP hw hK hc i pins s σ H E I hf st hg
    subst hP hw hK
    obtain ⟨⟨old, he⟩, ⟨m, f, hm, hz⟩, hTI, ⟨x0, y0, hTO⟩, h1, h2⟩ := st
    obtain ⟨xs, ys, x, y, hqx, hqy, hx, hy⟩ := hg
    obtain ⟨its, rv, p, _⟩ := sk_inv I hqx
    obtain ⟨its2, rv2, p2, _⟩ := sk_inv I hqy
    obtain ⟨u, hu, ru⟩ := rv.get hx
    obtain ⟨u2, hu2, ru2⟩ := rv2.get hy
    have hi1 : i < its.toArray.size := by simpa using (List.getElem?_eq_some_iff.mp hu).1
    have hi2 : i < its2.toArray.size := by simpa using (List.getElem?_eq_some_iff.mp hu2).1
    have hd : X.A.in1.in1.handled = none := I.ok.hd hc
    have nez : e ≠ z := fun q => ne (by simp [q])
    have neTI : e ≠ TI := fun q => ne (by simp [q])
    have neTO : e ≠ TO := fun q => ne (by simp [q])
    have nei1 : e ≠ i1 := fun q => ne (by simp [q])
    have nei2 : e ≠ i2 := fun q => ne (by simp [q])
    have lte : e < s.heap.objs.size := Heap.lt_size he
    have ltz : z < s.heap.objs.size := Heap.lt_size hz
    refine enum_next_over he fun Q' E' hQ' => ?_
    refine nextOf_zipM_item S (sk_draws hd k1 i1 a n1 its.toArray) (sk_draws hd k2 i2 b n2 its2.toArray) hm hz hTI hTO ⟨h1, p⟩ ⟨h2, p2⟩ hi1 hi2 fun x1 x2 h' tk m' f' b1 b2 e1 e2 hm' z' TO' st1 st2 hT hsz hk => ?_
    have e1 : u = x1 := by
      have : its.toArray[i]? = some x1 := e1
      rw [List.getElem?_toArray, hu] at this; cases this; rfl
    have e2 : u2 = x2 := by
      have : its2.toArray[i]? = some x2 := e2
      rw [List.getElem?_toArray, hu2] at this; cases this; rfl
    subst e1 e2
    have he' : IsEnum h' e z ((i : Nat) : Int) old := hk _ _ nez neTO nei1 nei2 he
    have hTI' : IsTupOf2 h' TI (.ref i1) (.ref i2) := hk _ _ S.TIz S.TITO S.TIi1 S.TIi2 hTI
    refine hQ' _ _ _ he' fun h3 hh => ?_
    obtain ⟨ho3, hT3, hsz3, hk3⟩ := hh
    refine ⟨_, rfl, wpAny_letOwnedTupleGo_enum (s := { s with heap := h3, toks := tk + 1 }) ho3 fun h4 he4 sb => ?_⟩
    have hTn : s.heap.objs.size ≠ e := Nat.ne_of_gt lte
    have new1 : ObjOk X.prog X.w (upd H s.heap.objs.size (.tup [x, y])) h' s.heap.objs.size (.tup [x, y]) :=
      ⟨by show 2 ≤ sizeLine; decide, [u, u2], .cons ru (.cons ru2 .nil), ⟨_, hT, rfl, _, rfl⟩⟩
    have I1 : Inv X pins σ (upd H s.heap.objs.size (.tup [x, y])) { s with heap := h', toks := tk } :=
      I.turnedNew (t' := tk) (ch := [e, z, TI, TO, i1, i2]) (fun c o hb q => hk c o (fun q' => hb (by simp [q'])) (fun q' => hb (by simp [q'])) (fun q' => hb (by simp [q'])) (fun q' => hb (by simp [q'])) q) hf (Nat.le_refl _) new1
    have lt6 : ∀ c, c ∈ [e, z, TI, TO, i1, i2] → c < s.heap.objs.size := fun c hcm => by
      rcases mem6 hcm with q | q | q | q | q | q <;> subst q
      · exact lte
      · exact ltz
      · exact Heap.lt_size hTI
      · exact Heap.lt_size hTO
      · obtain ⟨_, e1, _⟩ := h1.get; exact Heap.lt_size e1
      · obtain ⟨_, e2, _⟩ := h2.get; exact Heap.lt_size e2
    have hf1 : ∀ c ∈ [e, z, TI, TO, i1, i2], FpOk X pins (upd H s.heap.objs.size (.tup [x, y])) c := fun c hcm => fpok_upd (hf c hcm) (Nat.ne_of_lt (lt6 c hcm))
    have lt' : e < h'.objs.size := Heap.lt_size he'
    have hT4 : h4.get? h'.objs.size = some { cls := .type "tuple", data := .seq #[.int ((i : Nat) : Int) tk, .ref s.heap.objs.size] } := (sb.2 _ (Nat.ne_of_gt lt')).trans hT3
    have new2 : ObjOk X.prog X.w (upd (upd H s.heap.objs.size (.tup [x, y])) h'.objs.size (.tup [.int (i : Nat), .ref s.heap.objs.size])) h4 h'.objs.size (.tup [.int (i : Nat), .ref s.heap.objs.size]) :=
      ⟨by show 2 ≤ sizeLine; decide, [.int ((i : Nat) : Int) tk, .ref s.heap.objs.size], .cons ⟨_, rfl⟩ (.cons rfl .nil), ⟨_, hT4, rfl, _, rfl⟩⟩
    have I2 : Inv X pins σ (upd (upd H s.heap.objs.size (.tup [x, y])) h'.objs.size (.tup [.int (i : Nat), .ref s.heap.objs.size])) { s with heap := h4, toks := tk + 1 } :=
      I1.turnedNew (t' := tk + 1) (ch := [e, z, TI, TO, i1, i2]) (fun c o hb q => (sb.2 c (fun q' => hb (by simp [q']))).trans (hk3 c o (fun q' => hb (by simp [q'])) q)) hf1 (Nat.le_refl _) new2
    have up : ∀ c o, c ≠ e → h'.get? c = some o → h4.get? c = some o := fun c o hce q => (sb.2 c hce).trans (hk3 c o hce q)
    refine ⟨.ref h'.objs.size, _, I2, rfl, ⟨_, _, x, y, rfl, I.hok.fresh (Nat.le_refl _), I1.hok.fresh (Nat.le_refl _), rfl, fun l hl => by rw [sk_inj I hl hqx]; exact hx, fun l hl => by rw [sk_inj I hl hqy]; exact hy⟩, ⟨⟨.ref s.heap.objs.size, ?_⟩, ⟨m', f', hm', up _ _ (Ne.symm nez) z'⟩, up _ _ (Ne.symm neTI) hTI', ⟨_, _, up _ _ (Ne.symm neTO) TO'⟩, ?_, ?_⟩, fun c hcm => ?_⟩
    · have e1 : ((i + 1 : Nat) : Int) = (i : Int) + 1 := by omega
      rw [e1]; exact he4
    · exact st1.1.keep fun o q => up _ _ (Ne.symm nei1) q
    · exact st2.1.keep fun o q => up _ _ (Ne.symm nei2) q
    · have l1 := lt6 c hcm
      have l2 : c < h'.objs.size := by rw [hsz]; exact Nat.lt_succ_of_lt l1
      rw [upd_ne (Nat.ne_of_lt l2), upd_ne (Nat.ne_of_lt l1)]
      exact (hf c hcm).1
  done := by
    intro X hP hw hK hc i pins s σ H E I hf st hg
    subst hP hw hK
    obtain ⟨⟨old, he⟩, ⟨m, f, hm, hz⟩, hTI, ⟨x0, y0, hTO⟩, h1, h2⟩ := st
    obtain ⟨xs, ys, hqx, hqy, hl1, hl2, hend⟩ := hg
    obtain ⟨its, rv, p, _⟩ := sk_inv I hqx
    obtain ⟨its2, rv2, p2, _⟩ := sk_inv I hqy
    have l1 := rv.length
    have l2 := rv2.length
    have hd : X.A.in1.in1.handled = none := I.ok.hd hc
    refine enum_end_over he fun Q' E' hE' => ?_
    refine nextOf_zipM_end S (sk_draws hd k1 i1 a n1 its.toArray) (sk_draws hd k2 i2 b n2 its2.toArray) hm hz hTI hTO ⟨h1, p⟩ ⟨h2, p2⟩ (by simp; omega) (by simp; omega) (by simp; omega) fun h' tk x hk hx => hE' h' tk x hx ⟨rfl, I.turnedL (t' := tk) (ch := [e, z, TI, TO, i1, i2]) (fun c o hb q =>
      hk c o (fun q' => hb (by simp [q'])) (fun q' => hb (by simp [q'])) (fun q' => hb (by simp [q'])) (fun q' => hb (by simp [q'])) q) hf⟩
  self := fun A i s Q E st h => let ⟨⟨_, he⟩, _⟩ := st; wpAny_pyIter_enum he h
def iEzs (K : PySem.W.Frag) (ta : TA) : TI := fun σ H R => ta σ H fun vs H1 => ∃ k1 k2 a b xs ys, vs = [.ref a, .ref b] ∧ SkSq k1 K H1 a xs ∧ SkSq k2 K H1 b ys ∧ R (Itez K k1 k2 a b) H1
end Sim
namespace PySem
open Sem (wp)
theorem meets_enumerate_newZ {z TI TO : Addr} {m : Value} :
    Meets (Builtin.«enumerate.__new__» ⟨[.type "enumerate", .ref z], []⟩) (fun _ R s => IsZip s.heap z TI TO m ∧
      R (.ok (.ret (.ref s.heap.objs.size))) { s with heap := s.heap.push { cls := .type "enumerate", data := .fields #[.none, .bool false, .ref z, rawInt 0, .none, .none] } }) :=
  .of_wp fun prog w A R s h => by
    obtain ⟨hp, g, d, tk, os⟩ := s; obtain ⟨h1, h⟩ := h
    have hsub := sub_enumerate
    have q1 : ∀ {A' : Around} {E : Value → Shared → Prop} {Q : Value → Shared → Prop}, Q (.ref z) ⟨hp, g, d, tk, os⟩ → wpAny (model prog w) A' (pyIter (.ref z)) Q E ⟨hp, g, d, tk, os⟩ :=
      fun q => wpAny_pyIter_zip h1 q
    wp_walk using q1
    refine wpAny_stack_any fun st => wpAny_pure ?_
    split
    · rename_i c _ _ _ _ _
      cases (c == Value.type "enumerate")
      · wp_walk using q1
        exact ⟨_, rfl, h⟩
      · wp_walk using q1
        exact ⟨_, rfl, h⟩
    · wp_walk using q1
      exact ⟨_, rfl, h⟩
section
variable {prog : Program} {w : World} {A : Around} {E : Value → Shared → Prop} {s : Shared}
theorem enum_beginsZ {z TI TO : Addr} {m : Value} {Q : Value → Shared → Prop} (h1 : IsZip s.heap z TI TO m)
    (h : ∀ h', IsEnum h' s.heap.objs.size z 0 .none → (∀ b o, s.heap.get? b = some o → h'.get? b = some o) → Q (.ref s.heap.objs.size) { s with heap := h' }) :
    wpAny (model prog w) A (call (.type "enumerate") [.ref z]) Q E s := by
  refine callType_new F.called_enumerate (by decide) (F.typeCall_enumerate_1 _) (F.newCall_enumerate_1 _) (fun obj => F.args_object_init_2 obj _) F.entry_enumerate_new
    meets_enumerate_newZ ⟨h1, ?_⟩
  have he : IsEnum (s.heap.push { cls := .type "enumerate", data := .fields #[.none, .bool false, .ref z, rawInt 0, .none, .none] }) s.heap.objs.size z 0 .none := Heap.get?_push_size s.heap rfl
  exact ⟨⟨_, he, rfl⟩, h _ he fun b o x => Heap.get?_push_of_some _ x⟩
end
end PySem
namespace Sim
open PySem PySem.Spec PyProof.Rows L2
theorem pi_ez {X : Cx} {e e2 : Expr} {ta : TA} {p pos p2 pos2 tpos : Pos} {elts : List Expr} {kk : Nat} (hg : Gl X "zip") (hm : X.mg "zip" = none) (hg2 : Gl X "enumerate") (hm2 : X.mg "enumerate" = none) (ha : PA X [e, e2] ta)
    (hs : starEach [e, e2] X.env = (false, eval e X.env) :: starEach [e2] X.env := by rfl) (hpl : (backTo pos (starEach [e2] X.env)).any (·.1) = false := by rfl)
    (hs2 : starEach [.Call (.Name "zip" p) [e, e2] [] pos] X.env = [(false, eval (.Call (.Name "zip" p) [e, e2] [] pos) X.env)] := by rfl) :
    PI X (.Tuple elts kk tpos) (.Call (.Name "enumerate" p2) [.Call (.Name "zip" p) [e, e2] [] pos] [] pos2) (iEzs X.K ta) := by
  refine ⟨fun pins s σ H R I h => ?_⟩
  refine Call_ (ld_blt I hg2 hm2 boot_enumerate (PyProof.Rows.callWith_type1 (E := X.xe) ?_ hs2 rfl))
  rw [hs2]
  show wpAny _ _ (spliced ((false, eval (.Call (.Name "zip" p) [e, e2] [] pos) X.env) :: [])) _ _ s
  refine Calls.spliced_cons ?_
  refine Call_ (ld_blt I hg hm PyProof.Rows.boot_zip (PyProof.Rows.callWith_type1 (thn (ha.run pos pins s σ H _ I h) fun us s1 ⟨vs, H1, I1, r1, q1⟩ => ?_) hs hpl))
  obtain ⟨k1, k2, a, b, xs, ys, ex, hqx, hqy, q⟩ := q1
  subst ex
  cases r1 with
  | cons r rr =>
    cases rr with
    | cons r' rr =>
      cases rr
      cases r
      cases r'
      obtain ⟨its, rv, p1, la⟩ := sk_inv I1 hqx
      obtain ⟨its2, rv2, p2, lb⟩ := sk_inv I1 hqy
      refine zip_begins2 (sk_begins k1 a its.toArray) (sk_begins k2 b its2.toArray) p1 p2 fun h' hz hTI hTO h1 h2 hsz hk => ?_
      have I2 : Inv X pins σ H1 { s1 with heap := h' } := I1.kept (t' := s1.toks) hk
      refine Calls.spliced_nil ?_
      refine enum_beginsZ (s := { s1 with heap := h' }) hz fun h2' he hk2 => wpAny_pyIter_enum he ?_
      have I3 : Inv X pins σ H1 { s1 with heap := h2' } := I2.kept (t' := s1.toks) hk2
      have fresh6 : ∀ c, c ∈ [h'.objs.size, s1.heap.objs.size + 4, s1.heap.objs.size + 2, s1.heap.objs.size + 3, s1.heap.objs.size, s1.heap.objs.size + 1] → FpOk X pins H1 c := fun c hcm => by
        have hle : s1.heap.objs.size ≤ c := by
          rcases mem6 hcm with z | z | z | z | z | z <;> rw [z]
          · rw [hsz]; exact Nat.le_add_right _ _
          · exact Nat.le_add_right _ _
          · exact Nat.le_add_right _ _
          · exact Nat.le_add_right _ _
          · exact Nat.le_refl _
          · exact Nat.le_add_right _ _
        exact I1.fpOk hle (I1.hok.fresh hle)
      refine ⟨h'.objs.size, [h'.objs.size, s1.heap.objs.size + 4, s1.heap.objs.size + 2, s1.heap.objs.size + 3, s1.heap.objs.size, s1.heap.objs.size + 1], _, _, H1, rfl, I3, turn_ez (k1 := k1) (k2 := k2) (a := a) (b := b) (zip_sep2 (fp1 := [a]) (fp2 := [b]) (fun c hc => ?_) (fun c hc => ?_)) (Nat.ne_of_lt la) (Nat.ne_of_lt (Nat.lt_succ_of_lt lb)) ?_ ?_ ?_, ⟨⟨_, he⟩, ⟨.none, .bool false, ⟨.inl rfl, _, rfl⟩, hk2 _ _ hz⟩, hk2 _ _ hTI, ⟨_, _, hk2 _ _ hTO⟩, (sk_it0 h1).keep fun o q => hk2 _ _ q, (sk_it0 h2).keep fun o q => hk2 _ _ q⟩, fresh6, q⟩
      · rw [List.mem_singleton.mp hc]; exact la
      · rw [List.mem_singleton.mp hc]; exact lb
      · intro hc
        have e' : h'.objs.size = s1.heap.objs.size + 4 ∨ h'.objs.size = s1.heap.objs.size + 2 ∨ h'.objs.size = s1.heap.objs.size + 3 ∨ h'.objs.size = s1.heap.objs.size ∨ h'.objs.size = s1.heap.objs.size + 1 := by simpa using hc
        omega
      · exact Nat.ne_of_gt (Nat.lt_of_lt_of_le la (by rw [hsz]; exact Nat.le_add_right _ _))
      · exact Nat.ne_of_gt (Nat.lt_of_lt_of_le lb (by rw [hsz]; exact Nat.le_add_right _ _))
/-! ### on this layer -/
def ezD (xs ys : List P) : List D := enumD (List.zipWith (fun x y => .tuple [x, y]) xs ys)
def iEnumZ (b : Bool) (m m' : Ev) : Iv := fun env g => (m env g).bind fun d g1 => (m' env g1).bind fun d' g2 => match seqOf b d, seqOf b d' with
  | some xs, some ys => .ok (ezD xs ys) g2
  | _, _ => .stuck
section
variable {K : PySem.W.Frag} {B : Addr → Prop} {et O : List Addr} {H : Hp} {b : Bool}
theorem itm_ez {k1 k2 : SKd} {a c : Addr} {xs ys : List P} {vs us : List V} (s1 : Src b K et O (FF B et O) H k1 a xs vs) (s2 : Src b K et O (FF B et O) H k2 c ys us) : Itm b K O (FF B et O) H et (ezD xs ys) (Itez K k1 k2 a c) := by
  intro F2 et2 O2 H2 st hF he i
  have l1 := s1.rp.length
  have l2 := s2.rp.length
  have hl : (ezD xs ys).length = min xs.length ys.length := by unfold ezD enumD; simp
  have q1 := s1.st st
  have q2 := s2.st st
  refine ⟨fun hi => ?_, fun hi => ?_⟩
  · have hi1 : i < vs.length := by omega
    have hi2 : i < us.length := by omega
    refine ⟨⟨vs, us, vs[i], us[i], q1, q2, List.getElem?_eq_getElem hi1, List.getElem?_eq_getElem hi2⟩, fun x H3 y => ?_⟩
    obtain ⟨T, T2, x', y', rfl, hT, hT2, rfl, e1, e2⟩ := y
    have sm1 : Same H2 (upd H2 T (.tup [x', y'])) := same_new hT
    have sm : Same H2 (upd (upd H2 T (.tup [x', y'])) T2 (.tup [.int (i : Nat), .ref T])) := sm1.trans (same_new hT2)
    have hne : T ≠ T2 := fun q => by subst q; rw [upd_same] at hT2; cases hT2
    refine ⟨sm, fun d ed => ?_⟩
    have hx1 : i < xs.length := by omega
    have hy1 : i < ys.length := by omega
    have ed' : d = D.d (.tuple [.int (i : Nat), .tuple [xs[i], ys[i]]]) := by
      unfold ezD enumD at ed
      rw [List.getElem?_map, List.getElem?_zipIdx, List.getElem?_zipWith, List.getElem?_eq_getElem hx1, List.getElem?_eq_getElem hy1] at ed
      simp at ed
      exact ed.symm
    subst ed'
    refine ⟨T2, _, rfl, .inl (.inl upd_same), _, _, rfl, rfl, _, _, rfl, ⟨T, _, rfl, .inl (.inl ?_), _, _, rfl, s1.item st hF sm he (List.getElem?_eq_getElem hx1) (e1 _ q1), _, _, rfl, s2.item st hF sm he (List.getElem?_eq_getElem hy1) (e2 _ q2), rfl⟩, rfl⟩
    rw [upd_ne hne]
    exact upd_same
  · refine ⟨vs, us, q1, q2, by omega, by omega, by omega⟩
end
section
variable {X : Cx} {W : WX} {k : Nat} {e e' tg : Expr} {m m' : Ev} {pos p pos2 p2 : Pos}
theorem si_enumZ {b : Bool} {elts : List Expr} {kk : Nat} {tpos : Pos} (hm2 : X.mg "enumerate" = none) (hm : X.mg "zip" = none) (ha : SE X W e m) (hb : SE X W e' m') (hg : Gl X "zip" := by rfl) (hg2 : Gl X "enumerate" := by rfl) (hs : starEach [e, e'] X.env = (false, eval e X.env) :: starEach [e'] X.env := by rfl) (hs2 : starEach [e'] X.env = [(false, eval e' X.env)] := by rfl) (hpl : (backTo pos (starEach [e'] X.env)).any (·.1) = false := by rfl)
    (hs3 : starEach [.Call (.Name "zip" p) [e, e'] [] pos] X.env = [(false, eval (.Call (.Name "zip" p) [e, e'] [] pos) X.env)] := by rfl) :
    SI b X W (.Tuple elts kk tpos) (.Call (.Name "enumerate" p2) [.Call (.Name "zip" p) [e, e'] [] pos] [] pos2) (iEnumZ b m m') :=
  pi_imp (pi_ez hg hm hg2 hm2 (pa_cons ha (pa_cons hb pa_nil hs2) hs) hs hpl hs3) fun σ H R ⟨B, et, O, env, g, rl, hq⟩ => ⟨B, et, O, env, g, rl, wG.bind hq fun d1 g1 v1 H1 e1 ee rl1 fr1 r1 h1 => ⟨B, e1, O, env, g1, rl1, wG.bind h1 fun d2 g2 v2 H2 e2 ee2 rl2 fr2 r2 h2 => by
    split at h2
    · rename_i xs ys q1 q2
      obtain ⟨k1, a, vs, rfl, s1⟩ := src_of q1 r1
      obtain ⟨k2, c, us, rfl, s2⟩ := src_of q2 r2
      have s1' := s1.fr fr2
      exact ⟨k1, k2, a, c, vs, us, rfl, s1'.sq, s2.sq, h2.here rl2 (itm_ez s1' s2)⟩
    · exact h2.elim⟩⟩
end
end Sim
namespace Sim
open PySem PySem.Spec PyProof.Rows L2
/-! ### len(set(xs)), xs a tuple of ints -/
def tupInts : D → Option (List Int)
  | .d (.tuple xs) => intsOf xs
  | _ => none
def eLenSet (m : Ev) : Ev := fun env g => (m env g).bind fun x g1 => match tupInts x with
  | some ns => if ns.length < 64 then .ok (.d (.int (dd ns).length)) g1 else .stuck
  | none => .stuck
theorem setR_size {w : World} {h : Heap} {a : Addr} {ns : List Int} {n : Nat} (R : SetR w h a (fun j => decide (j ∈ ns)) n) : n = (dd ns).length := by
  obtain ⟨o, es, ep, t, _, _, _, _, hn, hk, _, _, hs, _⟩ := R
  have hp : (es.toList.map L2.keyOf).Perm (dd ns) := (List.perm_ext_iff_of_nodup hn nodup_dd).mpr fun k => by rw [← hk, mem_dd]; simp
  rw [← hs, ← hp.length_eq, List.length_map, Array.length_toList]
section
variable {X : Cx} {W : WX} {k : Nat} {a : Expr} {m : Ev} {p p2 q pos : Pos}
def tLenSetT (K : PySem.W.Frag) (ta : TE) : TE := fun σ H Q => ta σ H fun x H1 => ∃ (l : Addr) (ns : List Int), x = V.ref l ∧ SqT K H1 l (ns.map V.int) ∧ ns.length < 64 ∧ Q (.int (dd ns).length) H1
theorem pe_lenSetT {ta : TE} (hc : X.calm = true) (hg : Gl X "len") (hm : X.mg "len" = none) (hg2 : Gl X "set") (hm2 : X.mg "set" = none) (ha : PE X a ta)
    (na : starEach [a] X.env = (false, eval a X.env) :: starEach [] X.env := by rfl) : PE X (.Call (.Name "len" p) [.Call (.Name "set" p2) [a] [] q] [] pos) (tLenSetT X.K ta) := by
  refine ⟨fun pins s σ H Q I h => ?_⟩
  refine Call_ (ld_blt I hg hm PySem.boot_len ?_)
  refine PyProof.Rows.callWith_builtin1 (PyProof.Rows.args_cons ?_ rfl) rfl rfl
  refine Call_ (ld_blt I hg2 hm2 PyProof.Rows.boot_set ?_)
  refine PyProof.Rows.callWith_type1 (PyProof.Rows.args_cons (thn (ha.run pins s σ H _ I h) fun v s1 ⟨x, H1, I1, r1, q1⟩ => PyProof.Rows.args_nil ?_) na) na rfl
  obtain ⟨l, ns, rfl, hq, h1, q1⟩ := q1
  cases r1
  obtain ⟨its, r, pl, hz⟩ := I1.tuple hq
  refine call_set_tupI ns (I1.ok.hd hc) (show s1.heap.IsTuple l its.toArray from pl) (by simpa using r.ints) (by unfold scanBound; omega) fun h' tk c hS hcl hk => ?_
  have hn := setR_size hS
  refine PyProof.Rows.args_nil ?_
  obtain ⟨o, es, ep, t, ho, hex, hd, _, _, _, hlt, hf, hes, _⟩ := hS
  have I2 : Inv X pins σ H1 { s1 with heap := h', toks := tk } := I1.kept fun b o e => hk b o e
  refine call_len_set ho hex hd hf (by omega) ⟨.int (dd ns).length, H1, I2.tok _, ⟨_, by rw [← hn, hes]⟩, q1⟩
theorem se_lenSet (c : Cxt X W k) (hm : X.mg "len" = none) (hm2 : X.mg "set" = none) (ha : SE X W a m) (hg : Gl X "len" := by rfl) (hg2 : Gl X "set" := by rfl)
    (na : starEach [a] X.env = (false, eval a X.env) :: starEach [] X.env := by rfl) :
    SE X W (.Call (.Name "len" p) [.Call (.Name "set" p2) [a] [] q] [] pos) (eLenSet m) :=
  pe_imp (pe_lenSetT c.calm hg hm hg2 hm2 ha na) fun σ H Q ⟨B, et, O, env, g, rl, h⟩ => ⟨B, et, O, env, g, rl, wG.bind h fun d1 g1 v1 H1 e1 ee rl1 fr1 r1 h1 => by
    split at h1
    rotate_left
    · exact h1.elim
    rename_i ns en
    split at h1
    rotate_left
    · exact h1.elim
    rename_i hc
    unfold tupInts at en
    split at en
    rotate_left
    · cases en
    rw [intsOf_map en] at r1
    obtain ⟨l, vs, rfl, hq, hr⟩ := r1
    rw [hr.ints] at hq
    exact ⟨l, ns, rfl, hq, hc, h1.here rl1 rfl⟩⟩
end
end Sim
set_option maxRecDepth 512
set_option Elab.async false
set_option linter.all false
set_option maxRecDepth 100000
set_option maxHeartbeats 4000000
/-! list(zip(a, b)): all pairs, each a new tuple -/
namespace PySem
open Sem (wp)
section
variable {prog : Program} {w : World} {A : Around} {E : Value → Shared → Prop} {s : Shared} {z TI TO i1 i2 : Addr} {fp1 fp2 : List Addr} {n1 n2 i : Nat} {P1 P2 : Nat → Value → Prop} {St1 St2 : Nat → Heap → Prop} {a1 a2 m f : Value}
theorem F.zip_no_len : typeLookup (Value.type "zip") (Str.ofString "__len__") = pure none := by rfl
theorem F.zip_no_hint : typeLookup (Value.type "zip") (Str.ofString "__length_hint__") = pure none := by rfl
theorem pyNext_zipM_item {Q : Option Value → Shared → Prop} (S : ZipSep2 z TI TO i1 i2 fp1 fp2) (D1 : Draws prog w A.in1 i1 fp1 n1 P1 St1) (D2 : Draws prog w A.in1 i2 fp2 n2 P2 St2) (hm : MarkOk m f)
    (hz : IsZipM s.heap z TI TO m f) (hTI : IsTupOf2 s.heap TI (.ref i1) (.ref i2)) (hTO : IsTupOf2 s.heap TO a1 a2) (st1 : St1 i s.heap) (st2 : St2 i s.heap) (hlt1 : i < n1) (hlt2 : i < n2)
    (hQ : ∀ x1 x2 h' tk m' f' b1 b2, P1 i x1 → P2 i x2 → MarkOk m' f' → IsZipM h' z TI TO m' f' → IsTupOf2 h' TO b1 b2 → St1 (i + 1) h' → St2 (i + 1) h' → IsTupOf2 h' s.heap.objs.size x1 x2 → h'.objs.size = s.heap.objs.size + 1 →
      (∀ c o, c ≠ z → c ≠ TO → c ≠ i1 → c ≠ i2 → s.heap.get? c = some o → h'.get? c = some o) → Q (some (.ref s.heap.objs.size)) { s with heap := h', toks := tk }) :
    wpAny (model prog w) A (pyNext (.ref z)) Q E s := by
  have hT : s.TypeIs (.ref z) "zip" := ⟨_, hz, rfl⟩
  unfold pyNext
  refine wpAny_bind (wpAny_attempt (wpAny_callSpecial?_slot (name := Str.ofString "__next__") hT F.slot_zip_next
    (wpAny_call_entry F.slot_zip_next hT F.entry_zip_next
      (zipM_next_item S D1 D2 hm hz hTI hTO st1 st2 hlt1 hlt2 fun x1 x2 h' tk m' f' b1 b2 y1 y2 c1 c2 d1 d2 b5 b6 b7 b8 => ?_) (F.args_zip_next_1 _))))
  exact wpAny_pure (hQ x1 x2 h' tk m' f' b1 b2 y1 y2 c1 c2 d1 d2 b5 b6 b7 b8)
theorem pyNext_zipM_end {Q : Option Value → Shared → Prop} (S : ZipSep2 z TI TO i1 i2 fp1 fp2) (D1 : Draws prog w A.in1 i1 fp1 n1 P1 St1) (D2 : Draws prog w A.in1 i2 fp2 n2 P2 St2) (hm : MarkOk m f)
    (hz : IsZipM s.heap z TI TO m f) (hTI : IsTupOf2 s.heap TI (.ref i1) (.ref i2)) (hTO : IsTupOf2 s.heap TO a1 a2) (st1 : St1 i s.heap) (st2 : St2 i s.heap) (hle1 : i ≤ n1) (hle2 : i ≤ n2) (hend : i = n1 ∨ i = n2)
    (hQ : ∀ h' tk, (∀ c o, c ≠ z → c ≠ TO → c ≠ i1 → c ≠ i2 → s.heap.get? c = some o → h'.get? c = some o) → Q none { s with heap := h', toks := tk }) :
    wpAny (model prog w) A (pyNext (.ref z)) Q E s := by
  have hT : s.TypeIs (.ref z) "zip" := ⟨_, hz, rfl⟩
  unfold pyNext
  refine wpAny_bind (wpAny_attempt (wpAny_callSpecial?_slot (name := Str.ofString "__next__") hT F.slot_zip_next
    (wpAny_call_entry F.slot_zip_next hT F.entry_zip_next
      (zipM_next_end S D1 D2 hm hz hTI hTO st1 st2 hle1 hle2 hend fun h' tk e hk hx => ?_) (F.args_zip_next_1 _))))
  obtain ⟨o, ho, hc⟩ := hx
  refine wpAny_bind (wpAny_isInstance (T := "StopIteration") (b := true) ⟨o, ho, hc⟩ isSubtype_stop ?_)
  exact wpAny_pure (hQ h' tk hk)
end
/-- a list begun -/
abbrev IsLst (h : Heap) (S : Addr) (acc : Array Value) (c : Nat) : Prop := h.get? S = some { cls := .type "list", data := .seq acc c }
section
variable {prog : Program} {w : World} {A : Around} {E : Value → Shared → Prop} {s : Shared} {S z : Addr} {acc : Array Value} {c : Nat} {res : Value} {R : Result → Shared → Prop}
theorem listUpdate_push {v : Value} {Q : Unit → Shared → Prop} (h : IsLst s.heap S acc c) (hl : acc.size ≤ sizeLine) (hQ : ∀ h' c', IsLst h' S (acc.push v) c' → Heap.SameBut S s.heap h' → Q () { s with heap := h' }) :
    wpAny (model prog w) A (Builtin.List.listUpdate (.ref S) fun x => x.push v) Q E s := by
  refine wpAny_updateSeq h rfl ?_ hl (by rw [Array.size_push]; omega)
  have e := Heap.get?_update_self (h := s.heap) (Obj.mapSeq fun x => x.push v) h rfl
  exact hQ _ _ e (Heap.SameBut.update _ _ _)
theorem listUpdate_pop {Q : Unit → Shared → Prop} (h : IsLst s.heap S acc c) (hl : acc.size ≤ sizeLine) (hQ : ∀ h' c', IsLst h' S acc.pop c' → Heap.SameBut S s.heap h' → Q () { s with heap := h' }) :
    wpAny (model prog w) A (Builtin.List.listUpdate (.ref S) fun x => x.pop) Q E s := by
  refine wpAny_updateSeq h rfl ?_ hl (by rw [Array.size_pop]; omega)
  have e := Heap.get?_update_self (h := s.heap) (Obj.mapSeq fun x => x.pop) h rfl
  exact hQ _ _ e (Heap.SameBut.update _ _ _)
/-- one turn of a list's growing -/
theorem ext_turn (hS : IsLst s.heap S acc c) (hn : ∀ (Q : Option Value → Shared → Prop) (E : Value → Shared → Prop),
      (∀ s', R (.ok (.ret res)) s' → Q none s') → (∀ v s' acc' c', IsLst s'.heap S acc' c' → acc'.size ≤ sizeLine →
        (∀ h' c'', IsLst h' S (acc'.push v) c'' → Heap.SameBut S s'.heap h' → codeAny (model prog w) A (Code.builtin "list.extend.loop" ⟨[.ref S, .ref z, res], []⟩) R { s' with heap := h' }) → Q (some v) s') →
      wpAny (model prog w) A.in1 (pyNext (.ref z)) Q E s) :
    codeAny (model prog w) A (Code.builtin "list.extend.loop" ⟨[.ref S, .ref z, res], []⟩) R s := by
  refine codeAny_builtin F.entry_extend_loop ?_
  show wpAny _ A.in1 (pyNext (.ref z) >>= _) _ _ _
  refine wpAny_bind (hn _ _ (fun s' h => ?_) fun v s' acc' c' hl hsz h => ?_)
  · exact wpAny_pure h
  · refine wpAny_bind (listUpdate_push hl hsz fun h' c'' hl' sb => ?_)
    exact wpAny_pure ⟨plainId_quiet F.plain_extend_loop _, h h' c'' hl' sb⟩
end
end PySem
namespace PySem
open Sem (wp)
section
variable {prog : Program} {w : World} {A : Around} {E : Value → Shared → Prop} {s : Shared} {z TI TO : Addr} {m f : Value}
theorem listItems_at {S : Addr} {acc : Array Value} {c : Nat} {Q : Array Value → Shared → Prop} (h : IsLst s.heap S acc c) (hQ : Q acc s) : wpAny (model prog w) A (Builtin.List.listItems (.ref S)) Q E s := by
  unfold Builtin.List.listItems
  exact wpAny_bind (wpAny_seqItems h rfl (wpAny_pure hQ))
theorem hint_zip {Q : Bool → Shared → Prop} (hz : IsZipM s.heap z TI TO m f) (hQ : Q true s) : wpAny (model prog w) A (Builtin.List.listLengthHint (.ref z)) Q E s := by
  have hT : s.TypeIs (.ref z) "zip" := ⟨_, hz, rfl⟩
  unfold Builtin.List.listLengthHint
  refine wpAny_bind (wpAny_specialOf hT F.zip_no_len ?_)
  show wpAny _ _ (specialOf (.ref z) (Str.ofString "__length_hint__") >>= _) _ _ _
  exact wpAny_bind (wpAny_specialOf hT F.zip_no_hint (wpAny_pure hQ))
/-- list(it), it a zip: what the loop is asked for -/
theorem call_list_zip {Q : Value → Shared → Prop} (hz : IsZip s.heap z TI TO m)
    (h : ∀ h' c, IsLst h' s.heap.objs.size #[] c → (∀ b o, b ≠ s.heap.objs.size → s.heap.get? b = some o → h'.get? b = some o) →
      codeAny (model prog w) A.in1 (Code.builtin "list.extend.loop" ⟨[.ref s.heap.objs.size, .ref z, .none], []⟩) (wants (fun r s₂ => r = Value.none ∧ Q (.ref s.heap.objs.size) s₂) E) { s with heap := h' }) :
    wpAny (model prog w) A (call (.type "list") [.ref z]) Q E s := by
  refine callType_codes F.called_list (F.typeCall_list_1 _) F.entry_list_init (code_list_new _ (Q₁ := fun v s1 => v = .ref s.heap.objs.size ∧ s1 = { s with heap := s.heap.push { cls := .type "list", data := .seq #[] } }) ⟨rfl, rfl⟩) fun obj s₁ hq => ?_
  obtain ⟨rfl, rfl⟩ := hq
  have hS : IsLst (s.heap.push { cls := .type "list", data := .seq #[] }) s.heap.objs.size #[] 0 := Heap.get?_push_size _ rfl
  have hz' : IsZip (s.heap.push { cls := .type "list", data := .seq #[] }) z TI TO m := Heap.get?_push_of_some _ hz
  refine ⟨⟨_, hS, rfl⟩, F.args_list_init_2 _ _, ?_⟩
  show wpAny _ _ (Builtin.List.listItems (.ref s.heap.objs.size) >>= _) _ _ _
  refine wpAny_bind (listItems_at hS ?_)
  refine wpAny_bind (wpAny_updateSeq (f := fun _ => #[]) hS rfl ?_ (by show 0 ≤ _; omega) (by show 0 ≤ _; omega))
  have hS2 : IsLst ((s.heap.push { cls := .type "list", data := .seq #[] }).update s.heap.objs.size (Obj.mapSeq fun _ => #[])) s.heap.objs.size #[] _ := Heap.get?_update_self (Obj.mapSeq fun _ => #[]) hS rfl
  have sb2 : Heap.SameBut s.heap.objs.size _ ((s.heap.push { cls := .type "list", data := .seq #[] }).update s.heap.objs.size (Obj.mapSeq fun _ => #[])) := Heap.SameBut.update (s.heap.push { cls := .type "list", data := .seq #[] }) s.heap.objs.size (Obj.mapSeq fun _ => #[])
  generalize (s.heap.push { cls := .type "list", data := .seq #[] }).update s.heap.objs.size (Obj.mapSeq fun _ => #[]) = h2 at hS2 sb2
  have hzlt : z < s.heap.objs.size := Heap.lt_size hz
  have hz2 : IsZip h2 z TI TO m := sb2.extBut _ _ (Nat.ne_of_lt hzlt) hz'
  refine wpAny_bind (wpAny_letGo ?_)
  show wpAny _ _ (Builtin.List.listExtendWith (.ref s.heap.objs.size) (.ref z) .none) _ _ _
  unfold Builtin.List.listExtendWith
  refine wpAny_bind (wpAny_typeOf_ref hz2 ?_)
  rw [show (Builtin.List.listSameRef (.ref s.heap.objs.size) (.ref z)) = false from by
    show (s.heap.objs.size == z) = false
    exact beq_false_of_ne (Nat.ne_of_gt hzlt)]
  rw [if_neg (show ¬ ((false || (Value.type "zip" == Value.type "list") || (Value.type "zip" == Value.type "tuple")) = true) by decide)]
  refine wpAny_bind (wpAny_pyIter_zip hz2 ?_)
  refine wpAny_bind (wpAny_holding (hint_zip hz2 ?_))
  rw [if_pos (by simp)]
  refine wpAny_bind (wpAny_rule ?_)
  unfold Builtin.List.listTouch
  refine wpAny_bind (wpAny_bind (listUpdate_push hS2 (by show 0 ≤ _; omega) fun h3 c3 hS3 sb3 => ?_))
  refine listUpdate_pop hS3 (by show 1 ≤ _; decide) fun h4 c4 hS4 sb4 => ?_
  refine wpAny_pure ⟨plainId_quiet F.plain_extend_loop _, ?_⟩
  refine h h4 c4 hS4 fun b o hb e => ?_
  have sb3 : Heap.SameBut s.heap.objs.size h2 h3 := sb3
  have sb4 : Heap.SameBut s.heap.objs.size h3 h4 := sb4
  exact sb4.extBut _ _ hb (sb3.extBut _ _ hb (sb2.extBut _ _ hb (Heap.get?_push_of_some _ e)))
end
end PySem
namespace Sim
open PySem PySem.Spec PyProof.Rows L2
def ZSt (k1 k2 : SKd) (a b z TI TO i1 i2 : Addr) (i : Nat) (h : Heap) : Prop :=
  (∃ m f, MarkOk m f ∧ IsZipM h z TI TO m f) ∧ IsTupOf2 h TI (.ref i1) (.ref i2) ∧ (∃ x y, IsTupOf2 h TO x y) ∧ SkIt k1 h i1 a i ∧ SkIt k2 h i2 b i
theorem ZSt.keep {k1 k2 : SKd} {a b z TI TO i1 i2 : Addr} {i : Nat} {h h' : Heap} (st : ZSt k1 k2 a b z TI TO i1 i2 i h) (k : ∀ c ∈ [z, TI, TO, i1, i2], ∀ o, h.get? c = some o → h'.get? c = some o) : ZSt k1 k2 a b z TI TO i1 i2 i h' := by
  obtain ⟨⟨m, f, hm, hz⟩, hTI, ⟨x, y, hTO⟩, h1, h2⟩ := st
  exact ⟨⟨m, f, hm, k z (by simp) _ hz⟩, k TI (by simp) _ hTI, ⟨x, y, k TO (by simp) _ hTO⟩, h1.keep fun o q => k i1 (by simp) o q, h2.keep fun o q => k i2 (by simp) o q⟩
theorem sk_up {k : SKd} {K : PySem.W.Frag} {H H' : Hp} {a : Addr} {xs : List V} (h : SkSq k K H a xs) (e : ∀ o, H a = some o → H' a = some o) : SkSq k K H' a xs := by
  cases k with
  | L =>
    rcases h with (h | ⟨o, h⟩) | h
    · exact .inl (.inl (e _ h))
    · exact .inl (.inr ⟨o, e _ h⟩)
    · exact .inr h
  | T =>
    rcases h with (h | ⟨o, h⟩) | h
    · exact .inl (.inl (e _ h))
    · exact .inl (.inr ⟨o, e _ h⟩)
    · exact .inr h
theorem vals_refs : ∀ {Ts : List Addr}, Vals (Ts.map V.ref) (Ts.map Value.ref)
  | [] => .nil
  | _ :: _ => .cons rfl vals_refs
/-- the tuples so far -/
def PairsAt (H : Hp) (Ts : List Addr) (xs ys : List V) : Prop := ∀ (j : Nat) (T : Addr), Ts[j]? = some T → ∃ x y, H T = some (.tup [x, y]) ∧ xs[j]? = some x ∧ ys[j]? = some y
theorem lz_loop {X : Cx} {pins : List (Addr × Obj)} {σ : L2.St} {k1 k2 : SKd} {a b z TI TO i1 i2 S : Addr} {xs ys : List V} {R : Result → Shared → Prop} {A : Around} {H0 : Hp}
    (Sp : ZipSep2 z TI TO i1 i2 [i1, a] [i2, b]) (n1 : a ≠ i1) (n2 : b ≠ i2) (nS : S ∉ [z, TI, TO, i1, i2]) (nSa : S ≠ a) (nSb : S ≠ b) (hA : A.handled = none) (hlen : min xs.length ys.length ≤ 16777216) (hc : X.calm = true)
    (hR : ∀ H' s' Ts, Inv X pins σ H' s' → H' S = some (.lst (Ts.map V.ref)) → Ts.length = min xs.length ys.length → PairsAt H' Ts xs ys → (∀ c o, H0 c = some o → H' c = some o) → R (.ok (.ret .none)) s') :
    ∀ (k i : Nat) (H : Hp) (s : Shared) (c : Nat) (Ts : List Addr), min xs.length ys.length - i = k → i ≤ min xs.length ys.length → Inv X pins σ H s → (∀ d ∈ [z, TI, TO, i1, i2], FpOk X pins H d) → ZSt k1 k2 a b z TI TO i1 i2 i s.heap →
      IsLst s.heap S (Ts.map Value.ref).toArray c → H S = some (.lst (Ts.map V.ref)) → Ts.length = i → PairsAt H Ts xs ys → (∀ T ∈ Ts, T ≠ S) → SkSq k1 X.K H a xs → SkSq k2 X.K H b ys → (∀ d o, H0 d = some o → d ≠ S ∧ H d = some o) →
      codeAny (model X.prog X.w) A (Code.builtin "list.extend.loop" ⟨[.ref S, .ref z, .none], []⟩) R s := by
  intro k
  induction k with
  | zero =>
    intro i H s c Ts hk hi I hf st hS HS hT hP hTS hqx hqy hK
    obtain ⟨⟨m, f, hm, hz⟩, hTI, ⟨x0, y0, hTO⟩, h1, h2⟩ := st
    obtain ⟨its, rv, p, _⟩ := sk_inv I hqx
    obtain ⟨its2, rv2, p2, _⟩ := sk_inv I hqy
    have l1 := rv.length
    have l2 := rv2.length
    refine ext_turn hS fun Q E hQ0 hQ1 => ?_
    refine pyNext_zipM_end Sp (sk_draws (A := A.in1.in1) hA k1 i1 a n1 its.toArray) (sk_draws (A := A.in1.in1) hA k2 i2 b n2 its2.toArray) hm hz hTI hTO ⟨h1, p⟩ ⟨h2, p2⟩ (by simp; omega) (by simp; omega) (by simp; omega) fun h' tk hkk => hQ0 _ ?_
    refine hR H _ Ts (I.turnedL (t' := tk) (ch := [z, TI, TO, i1, i2]) (fun d o hb q => hkk d o (fun e => hb (by simp [e])) (fun e => hb (by simp [e])) (fun e => hb (by simp [e])) (fun e => hb (by simp [e])) q) hf) HS (by omega) hP fun d o e => (hK d o e).2
  | succ k ih =>
    intro i H s c Ts hk hi I hf st hS HS hT hP hTS hqx hqy hK
    obtain ⟨⟨m, f, hm, hz⟩, hTI, ⟨x0, y0, hTO⟩, h1, h2⟩ := st
    obtain ⟨its, rv, p, _⟩ := sk_inv I hqx
    obtain ⟨its2, rv2, p2, _⟩ := sk_inv I hqy
    have hx : xs[i]? = some xs[i] := List.getElem?_eq_getElem (by omega)
    have hy : ys[i]? = some ys[i] := List.getElem?_eq_getElem (by omega)
    generalize xs[i] = x at hx
    generalize ys[i] = y at hy
    obtain ⟨u, hu, ru⟩ := rv.get hx
    obtain ⟨u2, hu2, ru2⟩ := rv2.get hy
    have hi1 : i < its.toArray.size := by simpa using (List.getElem?_eq_some_iff.mp hu).1
    have hi2 : i < its2.toArray.size := by simpa using (List.getElem?_eq_some_iff.mp hu2).1
    have nSz : S ≠ z := fun q => nS (by simp [q])
    have nSTI : S ≠ TI := fun q => nS (by simp [q])
    have nSTO : S ≠ TO := fun q => nS (by simp [q])
    have nSi1 : S ≠ i1 := fun q => nS (by simp [q])
    have nSi2 : S ≠ i2 := fun q => nS (by simp [q])
    have ltS : S < s.heap.objs.size := Heap.lt_size hS
    refine ext_turn hS fun Q E hQ0 hQ1 => ?_
    refine pyNext_zipM_item Sp (sk_draws (A := A.in1.in1) hA k1 i1 a n1 its.toArray) (sk_draws (A := A.in1.in1) hA k2 i2 b n2 its2.toArray) hm hz hTI hTO ⟨h1, p⟩ ⟨h2, p2⟩ hi1 hi2 fun x1 x2 h' tk m' f' b1 b2 e1 e2 hm' z' TO' st1 st2 hTt hsz hkk => ?_
    have e1 : u = x1 := by
      have : its.toArray[i]? = some x1 := e1
      rw [List.getElem?_toArray, hu] at this; cases this; rfl
    have e2 : u2 = x2 := by
      have : its2.toArray[i]? = some x2 := e2
      rw [List.getElem?_toArray, hu2] at this; cases this; rfl
    subst e1 e2
    have hS' : IsLst h' S (Ts.map Value.ref).toArray c := hkk _ _ nSz nSTO nSi1 nSi2 hS
    have hTI' : IsTupOf2 h' TI (.ref i1) (.ref i2) := hkk _ _ Sp.TIz Sp.TITO Sp.TIi1 Sp.TIi2 hTI
    have hfr : H s.heap.objs.size = none := I.hok.fresh (Nat.le_refl _)
    have nST : S ≠ s.heap.objs.size := Nat.ne_of_lt ltS
    have new1 : ObjOk X.prog X.w (upd H s.heap.objs.size (.tup [x, y])) h' s.heap.objs.size (.tup [x, y]) :=
      ⟨by show 2 ≤ sizeLine; decide, [u, u2], .cons ru (.cons ru2 .nil), ⟨_, hTt, rfl, _, rfl⟩⟩
    have I1 : Inv X pins σ (upd H s.heap.objs.size (.tup [x, y])) { s with heap := h', toks := tk } :=
      I.turnedNew (t' := tk) (ch := [z, TI, TO, i1, i2]) (fun d o hb q => hkk d o (fun e => hb (by simp [e])) (fun e => hb (by simp [e])) (fun e => hb (by simp [e])) (fun e => hb (by simp [e])) q) hf (Nat.le_refl _) new1
    have lt5 : ∀ d, d ∈ [z, TI, TO, i1, i2] → d < s.heap.objs.size := fun d hd => by
      simp at hd
      rcases hd with q | q | q | q | q <;> subst q
      · exact Heap.lt_size hz
      · exact Heap.lt_size hTI
      · exact Heap.lt_size hTO
      · obtain ⟨_, e1, _⟩ := h1.get; exact Heap.lt_size e1
      · obtain ⟨_, e2, _⟩ := h2.get; exact Heap.lt_size e2
    have HS1 : upd H s.heap.objs.size (.tup [x, y]) S = some (.lst (Ts.map V.ref)) := by rw [upd_ne nST]; exact HS
    refine hQ1 _ _ _ _ hS' (by simp [sizeLine]; omega) fun h'' c'' hS'' sb => ?_
    have sb : Heap.SameBut S h' h'' := sb
    have hS2 : IsLst h'' S ((Ts ++ [s.heap.objs.size]).map Value.ref).toArray c'' := by
      have : ((Ts ++ [s.heap.objs.size]).map Value.ref).toArray = (Ts.map Value.ref).toArray.push (.ref s.heap.objs.size) := by simp
      rw [this]; exact hS''
    have hlt2 : (Ts ++ [s.heap.objs.size]).length ≤ sizeLine := by simp [sizeLine]; omega
    have objL : ObjOk X.prog X.w (upd (upd H s.heap.objs.size (.tup [x, y])) S (.lst ((Ts ++ [s.heap.objs.size]).map V.ref))) h'' S (.lst ((Ts ++ [s.heap.objs.size]).map V.ref)) :=
      ⟨by rw [List.length_map]; exact hlt2, (Ts ++ [s.heap.objs.size]).map Value.ref, c'', vals_refs, hS2⟩
    have I2 : Inv X pins σ (upd (upd H s.heap.objs.size (.tup [x, y])) S (.lst ((Ts ++ [s.heap.objs.size]).map V.ref))) { s with heap := h'', toks := tk } :=
      I1.write (t' := tk) (x := S) (e := S) (by rw [HS1]; trivial) (.inl rfl) (fun d u hd q => sb.extBut _ _ hd q) ⟨_, hS''⟩ objL
    have up : ∀ T o, T ≠ S → upd H s.heap.objs.size (.tup [x, y]) T = some o → upd (upd H s.heap.objs.size (.tup [x, y])) S (.lst ((Ts ++ [s.heap.objs.size]).map V.ref)) T = some o := fun T o hT e => by rw [upd_ne hT]; exact e
    have up0 : ∀ T o, T ≠ S → H T = some o → upd (upd H s.heap.objs.size (.tup [x, y])) S (.lst ((Ts ++ [s.heap.objs.size]).map V.ref)) T = some o := fun T o hT e => up T o hT (by
      have : T ≠ s.heap.objs.size := fun q => by rw [q, hfr] at e; cases e
      rw [upd_ne this]; exact e)
    refine ih (i + 1) _ _ c'' (Ts ++ [s.heap.objs.size]) (by omega) (by omega) I2 (fun d hd => ?_) ⟨⟨m', f', hm', sb.extBut _ _ (Ne.symm nSz) z'⟩, sb.extBut _ _ (Ne.symm nSTI) hTI', ⟨_, _, sb.extBut _ _ (Ne.symm nSTO) TO'⟩, st1.1.keep fun o q => sb.extBut _ _ (Ne.symm nSi1) q, st2.1.keep fun o q => sb.extBut _ _ (Ne.symm nSi2) q⟩ hS2 upd_same (by rw [List.length_append, hT]; rfl) (fun j T hj => ?_) (fun T hTm => ?_) ?_ ?_ fun d o e => ⟨(hK d o e).1, up0 d o (hK d o e).1 (hK d o e).2⟩
    · exact fpok_upd (fpok_upd (hf d hd) (Nat.ne_of_lt (lt5 d hd))) (fun q => nS (q ▸ hd))
    · by_cases hjl : j < Ts.length
      · rw [List.getElem?_append_left hjl] at hj
        obtain ⟨x', y', q1, q2, q3⟩ := hP j T hj
        exact ⟨x', y', up0 _ _ (hTS T (List.mem_of_getElem? hj)) q1, q2, q3⟩
      · have hj2 : j = Ts.length := by
          have := (List.getElem?_eq_some_iff.mp hj).1
          rw [List.length_append] at this
          simp at this; omega
        subst hj2
        rw [List.getElem?_append_right (Nat.le_refl _), Nat.sub_self] at hj
        cases hj
        rw [hT]
        exact ⟨x, y, up _ _ (Ne.symm nST) upd_same, hx, hy⟩
    · rcases List.mem_append.mp hTm with q | q
      · exact hTS T q
      · rw [List.mem_singleton.mp q]; exact Ne.symm nST
    · exact sk_up hqx fun o e => up0 _ _ (Ne.symm nSa) e
    · exact sk_up hqy fun o e => up0 _ _ (Ne.symm nSb) e
end Sim
namespace Sim
open PySem PySem.Spec PyProof.Rows L2
def tListZip (K : PySem.W.Frag) (ta : TA) : TE := fun σ H Q => ta σ H fun vs H1 => ∃ k1 k2 a b xs ys, vs = [V.ref a, V.ref b] ∧ SkSq k1 K H1 a xs ∧ SkSq k2 K H1 b ys ∧ min xs.length ys.length ≤ 16777216 ∧
  ∀ S Ts H2, H1 S = none → (∀ c o, H1 c = some o → H2 c = some o) → H2 S = some (.lst (Ts.map V.ref)) → Ts.length = min xs.length ys.length → PairsAt H2 Ts xs ys → Q (.ref S) H2
theorem pe_listZip {X : Cx} {e e2 : Expr} {ta : TA} {p pos p2 pos2 : Pos} (hc : X.calm = true) (hg : Gl X "zip") (hm : X.mg "zip" = none) (hg2 : Gl X "list") (hm2 : X.mg "list" = none) (ha : PA X [e, e2] ta)
    (hs : starEach [e, e2] X.env = (false, eval e X.env) :: starEach [e2] X.env := by rfl) (hpl : (backTo pos (starEach [e2] X.env)).any (·.1) = false := by rfl)
    (hs2 : starEach [.Call (.Name "zip" p) [e, e2] [] pos] X.env = [(false, eval (.Call (.Name "zip" p) [e, e2] [] pos) X.env)] := by rfl) :
    PE X (.Call (.Name "list" p2) [.Call (.Name "zip" p) [e, e2] [] pos] [] pos2) (tListZip X.K ta) := by
  refine ⟨fun pins s σ H Q I h => ?_⟩
  refine Call_ (ld_blt I hg2 hm2 PyProof.Rows.boot_list (PyProof.Rows.callWith_type1 (E := X.xe) ?_ hs2 rfl))
  rw [hs2]
  show wpAny _ _ (spliced ((false, eval (.Call (.Name "zip" p) [e, e2] [] pos) X.env) :: [])) _ _ s
  refine Calls.spliced_cons ?_
  refine Call_ (ld_blt I hg hm PyProof.Rows.boot_zip (PyProof.Rows.callWith_type1 (thn (ha.run pos pins s σ H _ I h) fun us s1 ⟨vs, H1, I1, r1, q1⟩ => ?_) hs hpl))
  obtain ⟨k1, k2, a, b, xs, ys, ex, hqx, hqy, hlen, q⟩ := q1
  subst ex
  cases r1 with
  | cons r rr =>
    cases rr with
    | cons r' rr =>
      cases rr
      cases r
      cases r'
      obtain ⟨its, rv, p1, la⟩ := sk_inv I1 hqx
      obtain ⟨its2, rv2, p2, lb⟩ := sk_inv I1 hqy
      refine zip_begins2 (sk_begins k1 a its.toArray) (sk_begins k2 b its2.toArray) p1 p2 fun h' hz hTI hTO h1 h2 hsz hk => ?_
      have I2 : Inv X pins σ H1 { s1 with heap := h' } := I1.kept (t' := s1.toks) hk
      refine Calls.spliced_nil ?_
      refine call_list_zip (s := { s1 with heap := h' }) hz fun h2' c hS hk2 => ?_
      replace hS : IsLst h2' h'.objs.size #[] c := hS
      replace hk2 : ∀ b o, b ≠ h'.objs.size → h'.get? b = some o → h2'.get? b = some o := hk2
      have up : ∀ b o, h'.get? b = some o → h2'.get? b = some o := fun b o e => hk2 b o (Nat.ne_of_lt (Heap.lt_size e)) e
      have I3 : Inv X pins σ (upd H1 h'.objs.size (.lst [])) { s1 with heap := h2' } := I2.laid (t' := s1.toks) up (Nat.le_refl _) ⟨by decide, [], c, .nil, hS⟩
      have frS : H1 h'.objs.size = none := I2.hok.fresh (Nat.le_refl _)
      have hle : ∀ d, d ∈ [s1.heap.objs.size + 4, s1.heap.objs.size + 2, s1.heap.objs.size + 3, s1.heap.objs.size, s1.heap.objs.size + 1] → s1.heap.objs.size ≤ d ∧ d < h'.objs.size := fun d hd => by
        simp at hd
        omega
      refine lz_loop (A := X.A.in1) (R := wants (fun r s₂ => r = Value.none ∧ EP X pins σ Q (.ref h'.objs.size) s₂) X.xe) (k1 := k1) (k2 := k2) (a := a) (b := b) (z := s1.heap.objs.size + 4) (TI := s1.heap.objs.size + 2) (TO := s1.heap.objs.size + 3) (i1 := s1.heap.objs.size) (i2 := s1.heap.objs.size + 1) (S := h'.objs.size) (xs := xs) (ys := ys) (H0 := H1)
        (zip_sep2 (fp1 := [a]) (fp2 := [b]) (fun c hc => ?_) (fun c hc => ?_)) (Nat.ne_of_lt la) (Nat.ne_of_lt (Nat.lt_succ_of_lt lb)) (fun hm => Nat.lt_irrefl _ (hle _ hm).2) (Nat.ne_of_gt (Nat.lt_of_lt_of_le la (by omega))) (Nat.ne_of_gt (Nat.lt_of_lt_of_le lb (by omega))) (I.ok.hd hc) hlen hc
        (fun H' s' Ts I' e1 e2 e3 e4 => ⟨rfl, ?_⟩) _ 0 (upd H1 h'.objs.size (.lst [])) _ c [] rfl (Nat.zero_le _) I3 (fun d hd => ?_) ?_ hS upd_same rfl (fun j T hj => by simp at hj) (fun T hT => by simp at hT) ?_ ?_ fun d o e => ?_
      · rw [List.mem_singleton.mp hc]; exact la
      · rw [List.mem_singleton.mp hc]; exact lb
      · exact ⟨.ref h'.objs.size, H', I', rfl, q _ _ _ frS e4 e1 e2 e3⟩
      · exact fpok_upd (I1.fpOk (hle d hd).1 (I1.hok.fresh (hle d hd).1)) (Nat.ne_of_lt (hle d hd).2)
      · exact ⟨⟨.none, .bool false, ⟨.inl rfl, _, rfl⟩, up _ _ hz⟩, up _ _ hTI, ⟨_, _, up _ _ hTO⟩, (sk_it0 h1).keep fun o q => up _ _ q, (sk_it0 h2).keep fun o q => up _ _ q⟩
      · exact sk_up hqx fun o e => by rw [upd_ne (fun z => by rw [z, frS] at e; cases e)]; exact e
      · exact sk_up hqy fun o e => by rw [upd_ne (fun z => by rw [z, frS] at e; cases e)]; exact e
      · have hne : d ≠ h'.objs.size := fun z => by rw [z, frS] at e; cases e
        exact ⟨hne, by rw [upd_ne hne]; exact e⟩
/-! ### on this layer -/
theorem reps_mk {K : PySem.W.Frag} {F : Addr → Prop} {H : Hp} : ∀ {ps : List P} {vs : List V}, ps.length = vs.length → (∀ (i : Nat) (p : P) (v : V), ps[i]? = some p → vs[i]? = some v → Rep K F H p v) → Reps K F H ps vs
  | [], [], _, _ => rfl
  | [], _ :: _, h, _ => by simp at h
  | _ :: _, [], h, _ => by simp at h
  | p :: ps, v :: vs, h, hi => ⟨v, vs, rfl, hi 0 p v rfl rfl, reps_mk (by simpa using h) fun i p' v' e1 e2 => hi (i + 1) p' v' (by simpa using e1) (by simpa using e2)⟩
def eListZip (m m' : Ev) : Ev := fun env g => (m env g).bind fun d g1 => (m' env g1).bind fun d' g2 => match seqOf false d, seqOf false d' with
  | some xs, some ys => if min xs.length ys.length ≤ 16777216 then .ok (.d (.list (List.zipWith (fun x y => .tuple [x, y]) xs ys))) g2 else .stuck
  | _, _ => .stuck
section
variable {X : Cx} {W : WX} {k : Nat} {e e' : Expr} {m m' : Ev} {pos p pos2 p2 : Pos}
theorem se_listZip (c : Cxt X W k) (hm2 : X.mg "list" = none) (hm : X.mg "zip" = none) (ha : SE X W e m) (hb : SE X W e' m') (hg : Gl X "zip" := by rfl) (hg2 : Gl X "list" := by rfl) (hs : starEach [e, e'] X.env = (false, eval e X.env) :: starEach [e'] X.env := by rfl) (hs2 : starEach [e'] X.env = [(false, eval e' X.env)] := by rfl) (hpl : (backTo pos (starEach [e'] X.env)).any (·.1) = false := by rfl)
    (hs3 : starEach [.Call (.Name "zip" p) [e, e'] [] pos] X.env = [(false, eval (.Call (.Name "zip" p) [e, e'] [] pos) X.env)] := by rfl) :
    SE X W (.Call (.Name "list" p2) [.Call (.Name "zip" p) [e, e'] [] pos] [] pos2) (eListZip m m') :=
  pe_imp (pe_listZip c.calm hg hm hg2 hm2 (pa_cons ha (pa_cons hb pa_nil hs2) hs) hs hpl hs3) fun σ H Q ⟨B, et, O, env, g, rl, hq⟩ => ⟨B, et, O, env, g, rl, wG.bind hq fun d1 g1 v1 H1 e1 ee rl1 fr1 r1 h1 => ⟨B, e1, O, env, g1, rl1, wG.bind h1 fun d2 g2 v2 H2 e2 ee2 rl2 fr2 r2 h2 => by
    split at h2
    · rename_i xs ys q1 q2
      obtain ⟨k1, a, vs, rfl, s1⟩ := src_of q1 r1
      obtain ⟨k2, c, us, rfl, s2⟩ := src_of q2 r2
      have s1' := s1.fr fr2
      split at h2
      rotate_left
      · exact h2.elim
      rename_i hln
      have l1 := s1'.rp.length
      have l2 := s2.rp.length
      refine ⟨k1, k2, a, c, vs, us, rfl, s1'.sq, s2.sq, by omega, fun S Ts H3 hS hk hL hT hP => ?_⟩
      have sm : Same H2 H3 := fun b o e => hk b o e
      refine h2 _ _ e2 (rl2.same sm) (Fr.same sm) ⟨S, Ts.map V.ref, rfl, hL, rl2.nF hS, ?_⟩
      refine reps_mk (by rw [List.length_zipWith, List.length_map]; omega) fun i p v ep ev => ?_
      rw [List.getElem?_map] at ev
      cases eT : Ts[i]? with
      | none => rw [eT] at ev; cases ev
      | some T =>
        rw [eT] at ev; cases ev
        obtain ⟨x, y, q1, q2, q3⟩ := hP i T eT
        rw [List.getElem?_zipWith] at ep
        cases ex : xs[i]? with
        | none => rw [ex] at ep; simp at ep
        | some xp =>
          cases ey : ys[i]? with
          | none => rw [ex, ey] at ep; simp at ep
          | some yp =>
            rw [ex, ey] at ep
            simp at ep
            subst ep
            obtain ⟨v1, f1, r1'⟩ := s1'.rp.get ex
            obtain ⟨v2, f2, r2'⟩ := s2.rp.get ey
            rw [q2] at f1; cases f1
            rw [q3] at f2; cases f2
            have mk : ∀ {p : P} {v : V}, Rep X.K (FF B e2 O) H2 p v → Rep X.K (FF B e2 O) H3 p v := fun {p v} r => Rep.mono (O := []) (Fr.same sm) (fun _ q => nomatch q) (fun a q => .inr (.inl q)) (fun a q => .inl q) p v r
            exact ⟨T, _, rfl, .inl (.inl q1), _, _, rfl, mk r1', _, _, rfl, mk r2', rfl⟩
    · exact h2.elim⟩⟩
end
end Sim
set_option maxRecDepth 512
set_option Elab.async false
set_option linter.all false
set_option maxRecDepth 100000
set_option maxHeartbeats 4000000
namespace Sim
open PySem PySem.Spec PyProof.Rows L2
inductive Tg1 {α : Type} (Q : α → G → Prop) : Type | mk
inductive Tg2 (A B : Prop) : Type | mk
def stop {α : Type} (Q : α → G → Prop) (_ : Tg1 Q) : α → G → Prop := Q
section
variable {Qd : D → G → Prop} {env : En} {g : G}
/-- a slot's value -/
def lkW : En → Nat → (D → Prop) → Prop
  | .sh d :: _, 0, Q => Q d
  | .own p :: _, 0, Q => Q (.bor p)
  | _ :: r, n + 1, Q => lkW r n Q
  | _, _, _ => False
theorem lk_sh {d : D} {r : En} {Q : D → Prop} : lkW (.sh d :: r) 0 Q = Q d := rfl
theorem lk_own {d : P} {r : En} {Q : D → Prop} : lkW (.own d :: r) 0 Q = Q (.bor d) := rfl
theorem lk_succ {s : Sl} {r : En} {n : Nat} {Q : D → Prop} : lkW (s :: r) (n + 1) Q = lkW r n Q := by cases s <;> rfl
theorem lk_eq : ∀ (env : En) (n : Nat) (Q : D → Prop), lkW env n Q = (match env[n]? with | some (.sh d) => Q d | some (.own p) => Q (.bor p) | _ => False)
  | [], n, Q => by simp [lkW]
  | s :: r, 0, Q => by cases s <;> rfl
  | s :: r, n + 1, Q => by rw [lk_succ, lk_eq r n Q]; simp
end
/-! ### what a function gives, as a wish -/
def R.wp0 {α : Type} (r : R α) (Q : α → G → Prop) : Prop := match r with
  | .ok a g => Q a g
  | _ => False
def RS.wp0 (r : RS) (Qn : En → G → Prop) (Qr : D → G → Prop) : Prop := match r with
  | .next env g => Qn env g
  | .ret d g => Qr d g
  | _ => False
def cnd0 (t : Bool) (A B : Prop) (_ : Tg2 A B) : Prop := if t = true then A else B
namespace Old
section
variable {α β : Type} {Q : α → G → Prop} {Qd : D → G → Prop} {Qn : En → G → Prop} {Qr : D → G → Prop} {env : En} {g : G} {i j k : Int}
theorem R.wp0_ok {a : α} : (R.ok a g).wp0 Q = Q a g := rfl
theorem R.wp0_stuck : (R.stuck : R α).wp0 Q = False := rfl
theorem R.wp0_bind {r : R β} {f : β → G → R α} : (r.bind f).wp0 Q = r.wp0 fun a g => (f a g).wp0 Q := by cases r <;> rfl
theorem R.wp0_bindS {r : R β} {f : β → G → RS} : (r.bindS f).wp0 Qn Qr = r.wp0 fun a g => (f a g).wp0 Qn Qr := by cases r <;> rfl
theorem RS.wp0_seq {r : RS} {f : En → G → RS} : (r.seq f).wp0 Qn Qr = r.wp0 (fun e g => (f e g).wp0 Qn Qr) Qr := by cases r <;> rfl
theorem RS.wp0_next : (RS.next env g).wp0 Qn Qr = Qn env g := rfl
theorem RS.wp0_ret {d : D} : (RS.ret d g).wp0 Qn Qr = Qr d g := rfl
theorem RS.wp0_stuck : (RS.stuck).wp0 Qn Qr = False := rfl
theorem R.wp0_mono {r : R α} {Q' : α → G → Prop} (h : r.wp0 Q) (hi : ∀ a g, Q a g → Q' a g) : r.wp0 Q' := by cases r <;> first | exact hi _ _ h | exact h.elim
theorem RS.wp0_mono {r : RS} {Qn' : En → G → Prop} {Qr' : D → G → Prop} (h : r.wp0 Qn Qr) (h1 : ∀ a g, Qn a g → Qn' a g) (h2 : ∀ a g, Qr a g → Qr' a g) : r.wp0 Qn' Qr' := by cases r <;> first | exact h1 _ _ h | exact h2 _ _ h | exact h.elim
theorem R.of_wp {r : R α} (h : r.wp0 Q) : ∃ a g, r = .ok a g ∧ Q a g := by cases r <;> first | exact ⟨_, _, rfl, h⟩ | exact h.elim
theorem R.wp0_ne {r : R α} : r.ne.wp0 Q = r.wp0 Q := by cases r <;> rfl
theorem cnd_true {A B : Prop} {x : Tg2 A B} : cnd0 true A B x = A := by unfold cnd0; rw [if_pos rfl]
theorem cnd_false {A B : Prop} {x : Tg2 A B} : cnd0 false A B x = B := by unfold cnd0; rw [if_neg (by decide)]
theorem cnd_i {t : Bool} {A B : Prop} {x : Tg2 A B} (h1 : t = true → A) (h2 : t = false → B) : cnd0 t A B x := by
  cases t
  · rw [cnd_false]; exact h2 rfl
  · rw [cnd_true]; exact h1 rfl
theorem cnd_p {t : Bool} {A B : Prop} {x : Tg2 A B} (h : t = true) (h1 : A) : cnd0 t A B x := by subst h; rw [cnd_true]; exact h1
theorem cnd_n {t : Bool} {A B : Prop} {x : Tg2 A B} (h : t = false) (h1 : B) : cnd0 t A B x := by subst h; rw [cnd_false]; exact h1
/-! constructs -/
theorem w_C {d : P} : (eC d env g).wp0 Qd = Qd (.d d) g := rfl
theorem w_var {n : Nat} : (eVar n env g).wp0 Qd = lkW env n (fun d => Qd d g) := by
  rw [lk_eq]
  unfold eVar
  cases h : env[n]? with
  | none => rfl
  | some s => cases s <;> rfl
theorem w_op {f : D → D → M D} {a b : Ev} : (eOp f a b env g).wp0 Qd = (a env g).wp0 fun x g1 => (b env g1).wp0 fun y g2 => (f x y g2).wp0 Qd := by
  unfold eOp; rw [R.wp0_bind]; congr 1; funext x g1; rw [R.wp0_bind]
theorem w_un {f : D → M D} {a : Ev} : (eUn f a env g).wp0 Qd = (a env g).wp0 fun x g1 => (f x g1).wp0 Qd := by unfold eUn; rw [R.wp0_bind]
theorem w_isi {f : D → Bool} {a : Ev} : (eIsi f a env g).wp0 Qd = (a env g).wp0 fun x g1 => (x.noC = true ∧ Qd (.d (.bool (f x))) g1) := by
  unfold eIsi; rw [w_un]; congr 1; funext x g1
  cases h : x.noC with
  | true => rw [if_pos rfl]; simp only [true_and]; rfl
  | false => rw [if_neg (by decide)]; simp only [Bool.false_eq_true, false_and]; rfl
theorem w_b {f : List D → M D} {a : Evs} : (eB f a env g).wp0 Qd = (a env g).wp0 fun xs g1 => (f xs g1).wp0 Qd := by unfold eB; rw [R.wp0_bind]
theorem w_nil {Q : List D → G → Prop} : (aNil env g).wp0 Q = Q [] g := rfl
theorem w_cons {a : Ev} {r : Evs} {Q : List D → G → Prop} : (aCons a r env g).wp0 Q = (a env g).wp0 fun x g1 => (r env g1).wp0 fun xs g2 => Q (x :: xs) g2 := by
  unfold aCons; rw [R.wp0_bind]; congr 1; funext x g1; rw [R.wp0_bind]; rfl
theorem w_tup {a : Evs} : (eTup a env g).wp0 Qd = (a env g).wp0 fun xs g1 => (match dats xs with | some ps => Qd (.d (.tuple ps)) g1 | none => False) := by
  unfold eTup; rw [w_b]; congr 1; funext xs g1; cases dats xs <;> rfl
theorem w_lst {a : Evs} : (eLst a env g).wp0 Qd = (a env g).wp0 fun xs g1 => (match dats xs with | some ps => Qd (.d (.list ps)) g1 | none => False) := by
  unfold eLst; rw [w_b]; congr 1; funext xs g1; cases dats xs <;> rfl
theorem w_not {a : Ev} : (eNot a env g).wp0 Qd = (a env g).wp0 fun x g1 => (match x with | .d (.bool b) => Qd (.d (.bool (!b))) g1 | _ => False) := by
  unfold eNot; rw [w_un]; congr 1; funext x g1
  cases x with
  | d p => cases p <;> rfl
  | _ => rfl
theorem w_and {a b : Ev} : (eAnd a b env g).wp0 Qd = (a env g).wp0 fun x g1 => (match x with | .d (.bool t) => cnd0 t ((b env g1).wp0 Qd) (Qd (.d (.bool false)) g1) .mk | _ => False) := by
  unfold eAnd; rw [R.wp0_bind]; congr 1; funext x g1
  cases x with
  | d p => cases p with
    | bool t => cases t <;> rfl
    | _ => rfl
  | _ => rfl
theorem w_or {a b : Ev} : (eOr a b env g).wp0 Qd = (a env g).wp0 fun x g1 => (match x with | .d (.bool t) => cnd0 t (Qd (.d (.bool true)) g1) ((b env g1).wp0 Qd) .mk | _ => False) := by
  unfold eOr; rw [R.wp0_bind]; congr 1; funext x g1
  cases x with
  | d p => cases p with
    | bool t => cases t <;> rfl
    | _ => rfl
  | _ => rfl
theorem w_ifE {c : Tv} {a b : Ev} : (eIf c a b env g).wp0 Qd = (c env g).wp0 fun t g1 => cnd0 t ((a env g1).wp0 Qd) ((b env g1).wp0 Qd) .mk := by
  unfold eIf; rw [R.wp0_bind]; congr 1; funext x g1; cases x <;> rfl
theorem w_chain {f f' : D → D → M D} {a b c : Ev} : (eChain f f' a b c env g).wp0 Qd = (a env g).wp0 fun x g1 => (b env g1).wp0 fun y g2 => (f x y g2).wp0 fun z g3 => (match z with | .d (.bool t) => cnd0 t ((c env g3).wp0 fun w g4 => (f' y w g4).wp0 Qd) (Qd (.d (.bool false)) g3) .mk | _ => False) := by
  unfold eChain; rw [R.wp0_bind]; congr 1; funext x g1; rw [R.wp0_bind]; congr 1; funext y g2; rw [R.wp0_bind]; congr 1; funext z g3
  cases z with
  | d p => cases p with
    | bool t => cases t <;> first | rfl | exact R.wp0_bind
    | _ => rfl
  | _ => rfl
theorem w_tv {a : Ev} {Q : Bool → G → Prop} : (tv a env g).wp0 Q = (a env g).wp0 fun x g1 => (match x with | .d (.bool t) => Q t g1 | _ => False) := by
  unfold tv; rw [R.wp0_bind]; congr 1; funext x g1
  cases x with
  | d p => cases p <;> rfl
  | _ => rfl
theorem w_tvAnd {a b : Tv} {Q : Bool → G → Prop} : (tvAnd a b env g).wp0 Q = (a env g).wp0 fun t g1 => cnd0 t ((b env g1).wp0 Q) (Q false g1) .mk := by
  unfold tvAnd; rw [R.wp0_bind]; congr 1; funext x g1; cases x <;> rfl
theorem w_tvOr {a b : Tv} {Q : Bool → G → Prop} : (tvOr a b env g).wp0 Q = (a env g).wp0 fun t g1 => cnd0 t (Q true g1) ((b env g1).wp0 Q) .mk := by
  unfold tvOr; rw [R.wp0_bind]; congr 1; funext x g1; cases x <;> rfl
theorem w_tvNot {a : Tv} {Q : Bool → G → Prop} : (tvNot a env g).wp0 Q = (a env g).wp0 fun t g1 => Q (!t) g1 := by unfold tvNot; rw [R.wp0_bind]; rfl
theorem w_tvYes {Q : Bool → G → Prop} : (tvYes env g).wp0 Q = Q true g := rfl
theorem w_call {f : List D → M D} {a : Evs} : (eCall f a env g).wp0 Qd = (a env g).wp0 fun xs g1 => (callD f xs g1).wp0 (stop Qd .mk) := by unfold eCall; rw [w_b]; rfl
theorem w_callK {f : List D → M D} {pi : List Nat} {a b : Evs} : (eCallK f pi a b env g).wp0 Qd = (a env g).wp0 fun xs g1 => (b env g1).wp0 fun ys g2 => (callD f (perm pi (xs ++ ys)) g2).wp0 (stop Qd .mk) := by
  unfold eCallK; rw [R.wp0_bind]; congr 1; funext x g1; rw [R.wp0_bind]; rfl
/-- a call with no own object among its arguments -/
theorem callD_nb {f : List D → M D} {ds : List D} (h : ds.any D.isB = false) : callD f ds g = f ds g := by unfold callD; rw [if_neg (by rw [h]; decide)]
theorem w_sl {a : Ev} {lo hi : Op} : (eSl a lo hi env g).wp0 Qd = (a env g).wp0 fun x g1 => (lo env g1).wp0 fun l g2 => (hi env g2).wp0 fun u g3 => (fSl x l u g3).wp0 Qd := by
  unfold eSl; rw [R.wp0_bind]; congr 1; funext x g1; rw [R.wp0_bind]; congr 1; funext y g2; rw [R.wp0_bind]
theorem w_oNo {Q : Option Int → G → Prop} : (oNo env g).wp0 Q = Q none g := rfl
theorem w_oSome {a : Ev} {Q : Option Int → G → Prop} : (oSome a env g).wp0 Q = (a env g).wp0 fun x g1 => (match x with | .d (.int i) => Q (some i) g1 | _ => False) := by
  unfold oSome; rw [R.wp0_bind]; congr 1; funext x g1
  cases x with
  | d p => cases p <;> rfl
  | _ => rfl
theorem w_newCell {a : Evs} : (eNewCell a env g).wp0 Qd = (a env g).wp0 fun xs g1 => (match dats xs with | some ps => Qd (.cell g1.length) (g1 ++ [ps]) | none => False) := by
  unfold eNewCell; rw [R.wp0_bind]; congr 1; funext xs g1; cases dats xs <;> rfl
theorem w_comp {m : Iv} {tg : Ptv} {tt : Tv} {elt : Ev} {vs : List Nat} : (eComp m tg tt elt vs env g).wp0 Qd = (m env g).wp0 fun ds g1 => (ds.length < sizeLine ∧ (compL tg tt elt (wipeE env vs) ds g1).wp0 fun r g2 => Qd (.d (.list r)) g2) := by
  unfold eComp; rw [R.wp0_bind]; congr 1; funext ds g1
  by_cases h : ds.length < sizeLine
  · rw [if_pos h, R.wp0_bind]; simp only [h, true_and]; rfl
  · rw [if_neg h]; simp only [h, false_and]; rfl
/-! statements -/
theorem w_next : (sNext env g).wp0 Qn Qr = Qn env g := rfl
theorem w_seq {a b : Sv} : (sSeq a b env g).wp0 Qn Qr = (a env g).wp0 (fun e g1 => (b e g1).wp0 Qn Qr) Qr := RS.wp0_seq
theorem w_ret {a : Ev} : (sRet a env g).wp0 Qn Qr = (a env g).wp0 fun d g1 => (d.isB = false ∧ Qr d g1) := by
  unfold sRet; rw [R.wp0_bindS]; congr 1; funext d g1
  cases h : d.isB with
  | true => rw [if_pos rfl]; simp only [Bool.true_eq_false, false_and]; rfl
  | false => rw [if_neg (by decide)]; simp only [true_and]; rfl
theorem w_retN : (sRetN env g).wp0 Qn Qr = Qr (.d .none) g := rfl
theorem w_never : (sNever env g).wp0 Qn Qr = False := rfl
theorem w_expr {a : Ev} : (sExpr a env g).wp0 Qn Qr = (a env g).wp0 fun _ g1 => Qn env g1 := by unfold sExpr; rw [R.wp0_bindS]; rfl
theorem w_if {c : Tv} {a b : Sv} : (sIf c a b env g).wp0 Qn Qr = (c env g).wp0 fun t g1 => cnd0 t ((a env g1).wp0 Qn Qr) ((b env g1).wp0 Qn Qr) .mk := by
  unfold sIf; rw [R.wp0_bindS]; congr 1; funext x g1; cases x <;> rfl
theorem w_asg {n : Nat} {a : Ev} : (sAsg n a env g).wp0 Qn Qr = (a env g).wp0 fun d g1 => (d.isB = false ∧ Qn (env.set n (.sh d)) g1) := by
  unfold sAsg; rw [R.wp0_bindS]; congr 1; funext d g1
  cases h : d.isB with
  | true => rw [if_pos rfl]; simp only [Bool.true_eq_false, false_and]; rfl
  | false => rw [if_neg (by decide)]; simp only [true_and]; rfl
theorem w_own {n : Nat} {a : Ev} : (sOwn n a env g).wp0 Qn Qr = (a env g).wp0 fun d g1 => (match d with | .d p => Qn (env.set n (.own p)) g1 | _ => False) := by
  unfold sOwn; rw [R.wp0_bindS]; congr 1; funext d g1; cases d <;> rfl
theorem w_freeze {n : Nat} : (sFreeze n env g).wp0 Qn Qr = (match env[n]? with | some (.own d) => Qn (env.set n (.sh (.d d))) g | _ => False) := by
  unfold sFreeze
  cases env[n]? with
  | none => rfl
  | some s => cases s <;> rfl
theorem w_own1 {f : List P → D → Option (List P)} {n : Nat} {m : Evs} : (sOwn1 f n m env g).wp0 Qn Qr = (match env[n]? with
  | some (.own (.list ps)) => (m env g).wp0 fun ds g1 => (match ds with
    | [d] => (match f ps d with | some qs => Qn (env.set n (.own (.list qs))) g1 | none => False)
    | _ => False)
  | _ => False) := by
  unfold sOwn1
  cases env[n]? with
  | none => rfl
  | some s =>
    cases s with
    | own p =>
      cases p with
      | list ps =>
        show ((m env g).bindS fun ds g1 => _).wp0 Qn Qr = _
        rw [R.wp0_bindS]; congr 1; funext ds g1
        match ds with
        | [] => rfl
        | [d] =>
          dsimp only
          cases f ps d <;> rfl
        | _ :: _ :: _ => rfl
      | _ => rfl
    | _ => rfl
theorem w_par {n m : Nat} {a : Evs} : (sPar n m a env g).wp0 Qn Qr = (a env g).wp0 fun ds g1 => (match ds with | [x, y] => ((x.isB || y.isB) = false ∧ Qn ((env.set n (.sh x)).set m (.sh y)) g1) | _ => False) := by
  unfold sPar; rw [R.wp0_bindS]; congr 1; funext ds g1
  match ds with
  | [] => rfl
  | [_] => rfl
  | [x, y] =>
    dsimp only
    cases h : (x.isB || y.isB) with
    | true => rw [if_pos rfl]; simp only [Bool.true_eq_false, false_and]; rfl
    | false => rw [if_neg (by decide)]; simp only [true_and]; rfl
  | _ :: _ :: _ :: _ => rfl
theorem w_par3 {n m l : Nat} {a : Evs} : (sPar3 n m l a env g).wp0 Qn Qr = (a env g).wp0 fun ds g1 => (match ds with | [x, y, z] => ((x.isB || y.isB || z.isB) = false ∧ Qn (((env.set n (.sh x)).set m (.sh y)).set l (.sh z)) g1) | _ => False) := by
  unfold sPar3; rw [R.wp0_bindS]; congr 1; funext ds g1
  match ds with
  | [] => rfl
  | [_] => rfl
  | [_, _] => rfl
  | [x, y, z] =>
    dsimp only
    cases h : (x.isB || y.isB || z.isB) with
    | true => rw [if_pos rfl]; simp only [Bool.true_eq_false, false_and]; rfl
    | false => rw [if_neg (by decide)]; simp only [true_and]; rfl
  | _ :: _ :: _ :: _ :: _ => rfl
theorem w_asgT {a : Ev} {m : Tgv} : (sAsgT a m env g).wp0 Qn Qr = (a env g).wp0 fun d g1 => (d.isB = false ∧ (m d env g1).wp0 Qn Qr) := by
  unfold sAsgT; rw [R.wp0_bindS]; congr 1; funext d g1
  cases h : d.isB with
  | true => rw [if_pos rfl]; simp only [Bool.true_eq_false, false_and]; rfl
  | false => rw [if_neg (by decide)]; simp only [true_and]
theorem w_tP {f : Ptv} {d : D} : (tP f d env g).wp0 Qn Qr = (match f d env with | some env' => Qn env' g | none => False) := by
  unfold tP; cases f d env <;> rfl
theorem w_aug {n : Nat} {f : D → D → M D} {a : Ev} : (sAug n f a env g).wp0 Qn Qr = (match env[n]? with | some (.sh x) => (a env g).wp0 fun y g1 => (f x y g1).wp0 fun d g2 => (d.isB = false ∧ Qn (env.set n (.sh d)) g2) | _ => False) := by
  unfold sAug
  cases env[n]? with
  | none => rfl
  | some s =>
    cases s with
    | sh x =>
      show ((a env g).bindS fun y g1 => _).wp0 Qn Qr = _
      rw [R.wp0_bindS]; dsimp only; congr 1; funext y g1; rw [R.wp0_bindS]; congr 1; funext d g2
      cases h : d.isB with
      | true => rw [if_pos rfl]; simp only [Bool.true_eq_false, false_and]; rfl
      | false => rw [if_neg (by decide)]; simp only [true_and]; rfl
    | _ => rfl
theorem w_for {m : Iv} {tg : Ptv} {b : Sv} : (sFor m tg b env g).wp0 Qn Qr = (m env g).wp0 fun ds g1 => (forL tg b ds env g1).wp0 Qn Qr := by unfold sFor; rw [R.wp0_bindS]
theorem w_forNil {tg : Ptv} {b : Sv} : (forL tg b [] env g).wp0 Qn Qr = Qn env g := rfl
theorem w_forCons {tg : Ptv} {b : Sv} {d : D} {ds : List D} : (forL tg b (d :: ds) env g).wp0 Qn Qr = (d.isB = false ∧ (match tg d env with | some env1 => (b env1 g).wp0 (fun e g1 => (forL tg b ds e g1).wp0 Qn Qr) Qr | none => False)) := by
  show (if d.isB then RS.stuck else match tg d env with | some env1 => (b env1 g).seq (forL tg b ds) | none => .stuck).wp0 Qn Qr = _
  cases h : d.isB with
  | true => rw [if_pos rfl]; simp only [Bool.true_eq_false, false_and]; rfl
  | false =>
    rw [if_neg (by decide)]; simp only [true_and]
    cases tg d env with
    | none => rfl
    | some e => exact RS.wp0_seq
theorem w_fn {n : Nat} {m : Sv} {ds : List D} : (fnOfB n m ds g).wp0 Qd = (m (startE n ds) g).wp0 (fun _ g1 => Qd (.d .none) g1) (fun d g1 => d.isB = false ∧ Qd d g1) := by
  unfold fnOfB
  cases m (startE n ds) g with
  | stuck => rfl
  | err _ _ => rfl
  | next e g1 => rfl
  | ret d g1 =>
    show (if d.isB then R.stuck else .ok d g1).wp0 Qd = (d.isB = false ∧ Qd d g1)
    cases h : d.isB with
    | true => rw [if_pos rfl]; simp only [Bool.true_eq_false, false_and]; rfl
    | false => rw [if_neg (by decide)]; simp only [true_and]; rfl
theorem w_iSeq {b : Bool} {m : Ev} {Q : List D → G → Prop} : (iSeq b m env g).wp0 Q = (m env g).wp0 fun d g1 => (match d with
  | .d (.list xs) => Q (xs.map D.d) g1
  | .d (.tuple xs) => Q (xs.map D.d) g1
  | .bor (.list xs) => (b = false ∧ Q (xs.map D.d) g1)
  | _ => False) := by
  unfold iSeq; rw [R.wp0_bind]; congr 1; funext d g1
  cases d with
  | d p => cases p <;> rfl
  | bor p =>
    cases p with
    | list xs =>
      cases b
      · simp only [true_and]; rfl
      · simp only [Bool.true_eq_false, false_and]; rfl
    | _ => rfl
  | _ => rfl
theorem wpL_ite {c : Prop} [Decidable c] {a : List D} {Q : List D → G → Prop} : ((if c then R.ok a g else .stuck).wp0 Q) = (c ∧ Q a g) := by
  by_cases h : c
  · rw [if_pos h]; simp only [h, true_and]; rfl
  · rw [if_neg h]; simp only [h, false_and]; rfl
theorem w_range1 {m : Ev} {Q : List D → G → Prop} : (iRange1 m env g).wp0 Q = (m env g).wp0 fun d g1 => (match d with
  | .d (.int j) => ((-(2 ^ 62) ≤ j ∧ j < 2 ^ 62) ∧ Q (ints0 0 j.toNat) g1)
  | _ => False) := by
  unfold iRange1; rw [R.wp0_bind]; congr 1; funext d g1
  cases d with
  | d p =>
    cases p with
    | int j => exact wpL_ite
    | _ => rfl
  | _ => rfl
theorem w_range2 {m m' : Ev} {Q : List D → G → Prop} : (iRange2 m m' env g).wp0 Q = (m env g).wp0 fun d g1 => (m' env g1).wp0 fun d' g2 => (match d, d' with
  | .d (.int i), .d (.int j) => ((-(2 ^ 62) ≤ i ∧ i < 2 ^ 62 ∧ -(2 ^ 62) ≤ j ∧ j < 2 ^ 62) ∧ Q (ints0 i (j - i).toNat) g2)
  | _, _ => False) := by
  unfold iRange2; rw [R.wp0_bind]; congr 1; funext d g1; rw [R.wp0_bind]; congr 1; funext d' g2
  cases d with
  | d p =>
    cases p with
    | int i =>
      cases d' with
      | d p' =>
        cases p' with
        | int j => exact wpL_ite
        | _ => rfl
      | _ => rfl
    | _ => rfl
  | _ => rfl
/-! operations -/
theorem o_add : (fAdd (.d (.int i)) (.d (.int j)) g).wp0 Qd = Qd (.d (.int (i + j))) g := rfl
theorem o_sub : (fSub (.d (.int i)) (.d (.int j)) g).wp0 Qd = Qd (.d (.int (i - j))) g := rfl
theorem o_addI : (fAddI (.d (.int i)) (.d (.int j)) g).wp0 Qd = Qd (.d (.int (i + j))) g := rfl
theorem o_neg : (fNeg (.d (.int i)) g).wp0 Qd = Qd (.d (.int (-i))) g := rfl
theorem wp_ite {c : Prop} [Decidable c] {a : D} : ((if c then R.ok a g else .stuck).wp0 Qd) = (c ∧ Qd a g) := by
  by_cases h : c
  · rw [if_pos h]; simp only [h, true_and]; rfl
  · rw [if_neg h]; simp only [h, false_and]; rfl
theorem o_mul : (fMulA (.d (.int i)) (.d (.int j)) g).wp0 Qd = (((-(2 ^ 64) < i ∧ i < 2 ^ 64) ∨ (-(2 ^ 64) < j ∧ j < 2 ^ 64)) ∧ Qd (.d (.int (i * j))) g) := by unfold fMulA; exact wp_ite
theorem o_mod : (fMod (.d (.int i)) (.d (.int j)) g).wp0 Qd = (0 < j ∧ Qd (.d (.int (i % j))) g) := by unfold fMod; exact wp_ite
theorem o_div : (fDiv (.d (.int i)) (.d (.int j)) g).wp0 Qd = ((0 < j ∧ j < 1073741824) ∧ Qd (.d (.int (i / j))) g) := by unfold fDiv; exact wp_ite
theorem o_pow : (fPow (.d (.int i)) (.d (.int j)) g).wp0 Qd = ((0 ≤ j ∧ j ≤ 1000000 ∧ i.natAbs < 2 ^ 64) ∧ Qd (.d (.int (i ^ j.toNat))) g) := by unfold fPow; exact wp_ite
theorem o_lt : (fLt (.d (.int i)) (.d (.int j)) g).wp0 Qd = Qd (.d (.bool (decide (i < j)))) g := rfl
theorem o_le : (fLe (.d (.int i)) (.d (.int j)) g).wp0 Qd = Qd (.d (.bool (decide (i ≤ j)))) g := rfl
theorem o_gt : (fGt (.d (.int i)) (.d (.int j)) g).wp0 Qd = Qd (.d (.bool (decide (j < i)))) g := rfl
theorem o_ge : (fGe (.d (.int i)) (.d (.int j)) g).wp0 Qd = Qd (.d (.bool (decide (j ≤ i)))) g := rfl
theorem shaped_int : SeqAt.shaped (.int i) = true := rfl
theorem eqv_int : PyData.eqv (.int i) (.int j) = decide (i = j) := by unfold PyData.eqv; rfl
theorem o_eq : (fEq (.d (.int i)) (.d (.int j)) g).wp0 Qd = Qd (.d (.bool (decide (i = j)))) g := by
  show ((if SeqAt.shaped (.int i) = true ∧ SeqAt.shaped (.int j) = true then R.ok (D.d (.bool (PyData.eqv (.int i) (.int j)))) g else .stuck).wp0 Qd) = _
  rw [wp_ite, eqv_int]; simp only [shaped_int, and_self, true_and]
theorem o_ne : (fNe (.d (.int i)) (.d (.int j)) g).wp0 Qd = Qd (.d (.bool (!decide (i = j)))) g := by
  show ((if SeqAt.shaped (.int i) = true ∧ SeqAt.shaped (.int j) = true then R.ok (D.d (.bool (!PyData.eqv (.int i) (.int j)))) g else .stuck).wp0 Qd) = _
  rw [wp_ite, eqv_int]; simp only [shaped_int, and_self, true_and]
theorem o_eqG {x y : P} : (fEq (.d x) (.d y) g).wp0 Qd = ((SeqAt.shaped x = true ∧ SeqAt.shaped y = true) ∧ Qd (.d (.bool (PyData.eqv x y))) g) := wp_ite
theorem o_neG {x y : P} : (fNe (.d x) (.d y) g).wp0 Qd = ((SeqAt.shaped x = true ∧ SeqAt.shaped y = true) ∧ Qd (.d (.bool (!PyData.eqv x y))) g) := wp_ite
theorem o_ixT {xs : List P} : (fIx (.d (.tuple xs)) (.d (.int i)) g).wp0 Qd = (match atI xs i with | some p => Qd (.d p) g | none => False) := by
  show (match atI xs i with | some p => R.ok (D.d p) g | none => .stuck).wp0 Qd = _
  cases atI xs i <;> rfl
theorem o_ixL {xs : List P} : (fIx (.d (.list xs)) (.d (.int i)) g).wp0 Qd = (match atI xs i with | some p => Qd (.d p) g | none => False) := by
  show (match atI xs i with | some p => R.ok (D.d p) g | none => .stuck).wp0 Qd = _
  cases atI xs i <;> rfl
theorem o_ixB {xs : List P} : (fIx (.bor (.list xs)) (.d (.int i)) g).wp0 Qd = (match atI xs i with | some p => Qd (.d p) g | none => False) := by
  show (match atI xs i with | some p => R.ok (D.d p) g | none => .stuck).wp0 Qd = _
  cases atI xs i <;> rfl
theorem o_ixS {xs : List Int} : (fIx (.scr xs) (.d (.int i)) g).wp0 Qd = (match atI xs i with | some p => Qd (.d (.int p)) g | none => False) := by
  show (match atI xs i with | some p => R.ok (D.d (.int p)) g | none => .stuck).wp0 Qd = _
  cases atI xs i <;> rfl
theorem o_ixC {n : Nat} : (fIx (.cell n) (.d (.int i)) g).wp0 Qd = (match g[n]? with | some xs => (match atI xs i with | some p => Qd (.d p) g | none => False) | none => False) := by
  show (match g[n]? with | some xs => (match atI xs i with | some p => R.ok (D.d p) g | none => .stuck) | none => .stuck).wp0 Qd = _
  cases g[n]? with
  | none => rfl
  | some xs => cases h : atI xs i <;> simp only [h] <;> rfl
end
end Old
inductive R.wp {α : Type} (r : R α) (Q : α → G → Prop) : Prop
  | mk (a : α) (g : G) : r = .ok a g → Q a g → R.wp r Q
inductive RS.wp (r : RS) (Qn : En → G → Prop) (Qr : D → G → Prop) : Prop
  | nx (e : En) (g : G) : r = .next e g → Qn e g → RS.wp r Qn Qr
  | rt (d : D) (g : G) : r = .ret d g → Qr d g → RS.wp r Qn Qr
inductive cnd (t : Bool) (A B : Prop) (x : Tg2 A B) : Prop
  | yes : t = true → A → cnd t A B x
  | no : t = false → B → cnd t A B x
theorem R.wpE {α : Type} : @R.wp α = @R.wp0 α := by
  funext r Q
  apply propext
  constructor
  · rintro ⟨a, g, h, q⟩; subst h; exact q
  · intro h
    cases r with
    | ok a g => exact ⟨a, g, rfl, h⟩
    | _ => exact h.elim
theorem RS.wpE : @RS.wp = @RS.wp0 := by
  funext r Qn Qr
  apply propext
  constructor
  · intro h
    cases h with
    | nx e g h q => subst h; exact q
    | rt e g h q => subst h; exact q
  · intro h
    cases r with
    | next a g => exact .nx a g rfl h
    | ret a g => exact .rt a g rfl h
    | _ => exact h.elim
theorem cndE : @cnd = @cnd0 := by
  funext t A B x
  apply propext
  constructor
  · intro h
    cases h with
    | yes h q => subst h; show (if true = true then A else B); rw [if_pos rfl]; exact q
    | no h q => subst h; show (if false = true then A else B); rw [if_neg (by decide)]; exact q
  · intro h
    cases t with
    | true => exact .yes rfl (by unfold cnd0 at h; rw [if_pos rfl] at h; exact h)
    | false => exact .no rfl (by unfold cnd0 at h; rw [if_neg (by decide)] at h; exact h)
section
variable {α β : Type} {Q : α → G → Prop} {Qd : D → G → Prop} {Qn : En → G → Prop} {Qr : D → G → Prop} {env : En} {g : G} {i j k : Int}
theorem R.wp_ok {a : α} : (R.ok a g).wp Q = Q a g := by
  repeat rw [R.wpE]
  try rw [RS.wpE]
  try rw [cndE]
  exact Old.R.wp0_ok
theorem R.wp_stuck : (R.stuck : R α).wp Q = False := by
  repeat rw [R.wpE]
  try rw [RS.wpE]
  try rw [cndE]
  exact Old.R.wp0_stuck
theorem R.wp_bind {r : R β} {f : β → G → R α} : (r.bind f).wp Q = r.wp fun a g => (f a g).wp Q := by
  repeat rw [R.wpE]
  try rw [RS.wpE]
  try rw [cndE]
  exact Old.R.wp0_bind
theorem R.wp_bindS {r : R β} {f : β → G → RS} : (r.bindS f).wp Qn Qr = r.wp fun a g => (f a g).wp Qn Qr := by
  repeat rw [R.wpE]
  try rw [RS.wpE]
  try rw [cndE]
  exact Old.R.wp0_bindS
theorem RS.wp_seq {r : RS} {f : En → G → RS} : (r.seq f).wp Qn Qr = r.wp (fun e g => (f e g).wp Qn Qr) Qr := by
  repeat rw [R.wpE]
  try rw [RS.wpE]
  try rw [cndE]
  exact Old.RS.wp0_seq
theorem RS.wp_next : (RS.next env g).wp Qn Qr = Qn env g := by
  repeat rw [R.wpE]
  try rw [RS.wpE]
  try rw [cndE]
  exact Old.RS.wp0_next
theorem RS.wp_ret {d : D} : (RS.ret d g).wp Qn Qr = Qr d g := by
  repeat rw [R.wpE]
  try rw [RS.wpE]
  try rw [cndE]
  exact Old.RS.wp0_ret
theorem RS.wp_stuck : (RS.stuck).wp Qn Qr = False := by
  repeat rw [R.wpE]
  try rw [RS.wpE]
  try rw [cndE]
  exact Old.RS.wp0_stuck
theorem R.wp_mono {r : R α} {Q' : α → G → Prop} (h : r.wp Q) (hi : ∀ a g, Q a g → Q' a g) : r.wp Q' := by
  obtain ⟨a, g, e, q⟩ := h
  exact ⟨a, g, e, hi _ _ q⟩
theorem RS.wp_mono {r : RS} {Qn' : En → G → Prop} {Qr' : D → G → Prop} (h : r.wp Qn Qr) (h1 : ∀ a g, Qn a g → Qn' a g) (h2 : ∀ a g, Qr a g → Qr' a g) : r.wp Qn' Qr' := by
  cases h with
  | nx e g h q => exact .nx e g h (h1 _ _ q)
  | rt e g h q => exact .rt e g h (h2 _ _ q)
theorem R.of_wp {r : R α} (h : r.wp Q) : ∃ a g, r = .ok a g ∧ Q a g := by
  obtain ⟨a, g, e, q⟩ := h
  exact ⟨a, g, e, q⟩
theorem R.wp_ne {r : R α} : r.ne.wp Q = r.wp Q := by
  repeat rw [R.wpE]
  try rw [RS.wpE]
  try rw [cndE]
  exact Old.R.wp0_ne
theorem cnd_true {A B : Prop} {x : Tg2 A B} : cnd true A B x = A := by
  rw [cndE]
  exact Old.cnd_true
theorem cnd_false {A B : Prop} {x : Tg2 A B} : cnd false A B x = B := by
  rw [cndE]
  exact Old.cnd_false
theorem cnd_i {t : Bool} {A B : Prop} {x : Tg2 A B} (h1 : t = true → A) (h2 : t = false → B) : cnd t A B x := by
  cases t with
  | true => exact .yes rfl (h1 rfl)
  | false => exact .no rfl (h2 rfl)
theorem cnd_p {t : Bool} {A B : Prop} {x : Tg2 A B} (h : t = true) (h1 : A) : cnd t A B x := .yes h h1
theorem cnd_n {t : Bool} {A B : Prop} {x : Tg2 A B} (h : t = false) (h1 : B) : cnd t A B x := .no h h1
theorem w_C {d : P} : (eC d env g).wp Qd = Qd (.d d) g := by
  repeat rw [R.wpE]
  try rw [RS.wpE]
  try rw [cndE]
  exact Old.w_C
theorem w_var {n : Nat} : (eVar n env g).wp Qd = lkW env n (fun d => Qd d g) := by
  repeat rw [R.wpE]
  try rw [RS.wpE]
  try rw [cndE]
  exact Old.w_var
theorem w_op {f : D → D → M D} {a b : Ev} : (eOp f a b env g).wp Qd = (a env g).wp fun x g1 => (b env g1).wp fun y g2 => (f x y g2).wp Qd := by
  repeat rw [R.wpE]
  try rw [RS.wpE]
  try rw [cndE]
  exact Old.w_op
theorem w_un {f : D → M D} {a : Ev} : (eUn f a env g).wp Qd = (a env g).wp fun x g1 => (f x g1).wp Qd := by
  repeat rw [R.wpE]
  try rw [RS.wpE]
  try rw [cndE]
  exact Old.w_un
theorem w_isi {f : D → Bool} {a : Ev} : (eIsi f a env g).wp Qd = (a env g).wp fun x g1 => (x.noC = true ∧ Qd (.d (.bool (f x))) g1) := by
  repeat rw [R.wpE]
  try rw [RS.wpE]
  try rw [cndE]
  exact Old.w_isi
theorem w_b {f : List D → M D} {a : Evs} : (eB f a env g).wp Qd = (a env g).wp fun xs g1 => (f xs g1).wp Qd := by
  repeat rw [R.wpE]
  try rw [RS.wpE]
  try rw [cndE]
  exact Old.w_b
theorem w_nil {Q : List D → G → Prop} : (aNil env g).wp Q = Q [] g := by
  repeat rw [R.wpE]
  try rw [RS.wpE]
  try rw [cndE]
  exact Old.w_nil
theorem w_cons {a : Ev} {r : Evs} {Q : List D → G → Prop} : (aCons a r env g).wp Q = (a env g).wp fun x g1 => (r env g1).wp fun xs g2 => Q (x :: xs) g2 := by
  repeat rw [R.wpE]
  try rw [RS.wpE]
  try rw [cndE]
  exact Old.w_cons
theorem w_tup {a : Evs} : (eTup a env g).wp Qd = (a env g).wp fun xs g1 => (match dats xs with | some ps => Qd (.d (.tuple ps)) g1 | none => False) := by
  repeat rw [R.wpE]
  try rw [RS.wpE]
  try rw [cndE]
  exact Old.w_tup
theorem w_lst {a : Evs} : (eLst a env g).wp Qd = (a env g).wp fun xs g1 => (match dats xs with | some ps => Qd (.d (.list ps)) g1 | none => False) := by
  repeat rw [R.wpE]
  try rw [RS.wpE]
  try rw [cndE]
  exact Old.w_lst
theorem w_not {a : Ev} : (eNot a env g).wp Qd = (a env g).wp fun x g1 => (match x with | .d (.bool b) => Qd (.d (.bool (!b))) g1 | _ => False) := by
  repeat rw [R.wpE]
  try rw [RS.wpE]
  try rw [cndE]
  exact Old.w_not
theorem w_and {a b : Ev} : (eAnd a b env g).wp Qd = (a env g).wp fun x g1 => (match x with | .d (.bool t) => cnd t ((b env g1).wp Qd) (Qd (.d (.bool false)) g1) .mk | _ => False) := by
  repeat rw [R.wpE]
  try rw [RS.wpE]
  try rw [cndE]
  exact Old.w_and
theorem w_or {a b : Ev} : (eOr a b env g).wp Qd = (a env g).wp fun x g1 => (match x with | .d (.bool t) => cnd t (Qd (.d (.bool true)) g1) ((b env g1).wp Qd) .mk | _ => False) := by
  repeat rw [R.wpE]
  try rw [RS.wpE]
  try rw [cndE]
  exact Old.w_or
theorem w_ifE {c : Tv} {a b : Ev} : (eIf c a b env g).wp Qd = (c env g).wp fun t g1 => cnd t ((a env g1).wp Qd) ((b env g1).wp Qd) .mk := by
  repeat rw [R.wpE]
  try rw [RS.wpE]
  try rw [cndE]
  exact Old.w_ifE
theorem w_chain {f f' : D → D → M D} {a b c : Ev} : (eChain f f' a b c env g).wp Qd = (a env g).wp fun x g1 => (b env g1).wp fun y g2 => (f x y g2).wp fun z g3 => (match z with | .d (.bool t) => cnd t ((c env g3).wp fun w g4 => (f' y w g4).wp Qd) (Qd (.d (.bool false)) g3) .mk | _ => False) := by
  repeat rw [R.wpE]
  try rw [RS.wpE]
  try rw [cndE]
  exact Old.w_chain
theorem w_tv {a : Ev} {Q : Bool → G → Prop} : (tv a env g).wp Q = (a env g).wp fun x g1 => (match x with | .d (.bool t) => Q t g1 | _ => False) := by
  repeat rw [R.wpE]
  try rw [RS.wpE]
  try rw [cndE]
  exact Old.w_tv
theorem w_tvAnd {a b : Tv} {Q : Bool → G → Prop} : (tvAnd a b env g).wp Q = (a env g).wp fun t g1 => cnd t ((b env g1).wp Q) (Q false g1) .mk := by
  repeat rw [R.wpE]
  try rw [RS.wpE]
  try rw [cndE]
  exact Old.w_tvAnd
theorem w_tvOr {a b : Tv} {Q : Bool → G → Prop} : (tvOr a b env g).wp Q = (a env g).wp fun t g1 => cnd t (Q true g1) ((b env g1).wp Q) .mk := by
  repeat rw [R.wpE]
  try rw [RS.wpE]
  try rw [cndE]
  exact Old.w_tvOr
theorem w_tvNot {a : Tv} {Q : Bool → G → Prop} : (tvNot a env g).wp Q = (a env g).wp fun t g1 => Q (!t) g1 := by
  repeat rw [R.wpE]
  try rw [RS.wpE]
  try rw [cndE]
  exact Old.w_tvNot
theorem w_tvYes {Q : Bool → G → Prop} : (tvYes env g).wp Q = Q true g := by
  repeat rw [R.wpE]
  try rw [RS.wpE]
  try rw [cndE]
  exact Old.w_tvYes
theorem w_call {f : List D → M D} {a : Evs} : (eCall f a env g).wp Qd = (a env g).wp fun xs g1 => (callD f xs g1).wp (stop Qd .mk) := by
  repeat rw [R.wpE]
  try rw [RS.wpE]
  try rw [cndE]
  exact Old.w_call
theorem w_callK {f : List D → M D} {pi : List Nat} {a b : Evs} : (eCallK f pi a b env g).wp Qd = (a env g).wp fun xs g1 => (b env g1).wp fun ys g2 => (callD f (perm pi (xs ++ ys)) g2).wp (stop Qd .mk) := by
  repeat rw [R.wpE]
  try rw [RS.wpE]
  try rw [cndE]
  exact Old.w_callK
theorem w_sl {a : Ev} {lo hi : Op} : (eSl a lo hi env g).wp Qd = (a env g).wp fun x g1 => (lo env g1).wp fun l g2 => (hi env g2).wp fun u g3 => (fSl x l u g3).wp Qd := by
  repeat rw [R.wpE]
  try rw [RS.wpE]
  try rw [cndE]
  exact Old.w_sl
theorem w_oNo {Q : Option Int → G → Prop} : (oNo env g).wp Q = Q none g := by
  repeat rw [R.wpE]
  try rw [RS.wpE]
  try rw [cndE]
  exact Old.w_oNo
theorem w_oSome {a : Ev} {Q : Option Int → G → Prop} : (oSome a env g).wp Q = (a env g).wp fun x g1 => (match x with | .d (.int i) => Q (some i) g1 | _ => False) := by
  repeat rw [R.wpE]
  try rw [RS.wpE]
  try rw [cndE]
  exact Old.w_oSome
theorem w_newCell {a : Evs} : (eNewCell a env g).wp Qd = (a env g).wp fun xs g1 => (match dats xs with | some ps => Qd (.cell g1.length) (g1 ++ [ps]) | none => False) := by
  repeat rw [R.wpE]
  try rw [RS.wpE]
  try rw [cndE]
  exact Old.w_newCell
theorem w_comp {m : Iv} {tg : Ptv} {tt : Tv} {elt : Ev} {vs : List Nat} : (eComp m tg tt elt vs env g).wp Qd = (m env g).wp fun ds g1 => (ds.length < sizeLine ∧ (compL tg tt elt (wipeE env vs) ds g1).wp fun r g2 => Qd (.d (.list r)) g2) := by
  repeat rw [R.wpE]
  try rw [RS.wpE]
  try rw [cndE]
  exact Old.w_comp
theorem w_next : (sNext env g).wp Qn Qr = Qn env g := by
  repeat rw [R.wpE]
  try rw [RS.wpE]
  try rw [cndE]
  exact Old.w_next
theorem w_seq {a b : Sv} : (sSeq a b env g).wp Qn Qr = (a env g).wp (fun e g1 => (b e g1).wp Qn Qr) Qr := by
  repeat rw [R.wpE]
  try rw [RS.wpE]
  try rw [cndE]
  exact Old.w_seq
theorem w_ret {a : Ev} : (sRet a env g).wp Qn Qr = (a env g).wp fun d g1 => (d.isB = false ∧ Qr d g1) := by
  repeat rw [R.wpE]
  try rw [RS.wpE]
  try rw [cndE]
  exact Old.w_ret
theorem w_retN : (sRetN env g).wp Qn Qr = Qr (.d .none) g := by
  repeat rw [R.wpE]
  try rw [RS.wpE]
  try rw [cndE]
  exact Old.w_retN
theorem w_never : (sNever env g).wp Qn Qr = False := by
  repeat rw [R.wpE]
  try rw [RS.wpE]
  try rw [cndE]
  exact Old.w_never
theorem w_expr {a : Ev} : (sExpr a env g).wp Qn Qr = (a env g).wp fun _ g1 => Qn env g1 := by
  repeat rw [R.wpE]
  try rw [RS.wpE]
  try rw [cndE]
  exact Old.w_expr
theorem w_if {c : Tv} {a b : Sv} : (sIf c a b env g).wp Qn Qr = (c env g).wp fun t g1 => cnd t ((a env g1).wp Qn Qr) ((b env g1).wp Qn Qr) .mk := by
  repeat rw [R.wpE]
  try rw [RS.wpE]
  try rw [cndE]
  exact Old.w_if
theorem w_asg {n : Nat} {a : Ev} : (sAsg n a env g).wp Qn Qr = (a env g).wp fun d g1 => (d.isB = false ∧ Qn (env.set n (.sh d)) g1) := by
  repeat rw [R.wpE]
  try rw [RS.wpE]
  try rw [cndE]
  exact Old.w_asg
theorem w_own {n : Nat} {a : Ev} : (sOwn n a env g).wp Qn Qr = (a env g).wp fun d g1 => (match d with | .d p => Qn (env.set n (.own p)) g1 | _ => False) := by
  repeat rw [R.wpE]
  try rw [RS.wpE]
  try rw [cndE]
  exact Old.w_own
theorem w_freeze {n : Nat} : (sFreeze n env g).wp Qn Qr = (match env[n]? with | some (.own d) => Qn (env.set n (.sh (.d d))) g | _ => False) := by
  repeat rw [R.wpE]
  try rw [RS.wpE]
  try rw [cndE]
  exact Old.w_freeze
theorem w_own1 {f : List P → D → Option (List P)} {n : Nat} {m : Evs} : (sOwn1 f n m env g).wp Qn Qr = (match env[n]? with
  | some (.own (.list ps)) => (m env g).wp fun ds g1 => (match ds with
    | [d] => (match f ps d with | some qs => Qn (env.set n (.own (.list qs))) g1 | none => False)
    | _ => False)
  | _ => False) := by
  repeat rw [R.wpE]
  try rw [RS.wpE]
  try rw [cndE]
  exact Old.w_own1
theorem w_par {n m : Nat} {a : Evs} : (sPar n m a env g).wp Qn Qr = (a env g).wp fun ds g1 => (match ds with | [x, y] => ((x.isB || y.isB) = false ∧ Qn ((env.set n (.sh x)).set m (.sh y)) g1) | _ => False) := by
  repeat rw [R.wpE]
  try rw [RS.wpE]
  try rw [cndE]
  exact Old.w_par
theorem w_par3 {n m l : Nat} {a : Evs} : (sPar3 n m l a env g).wp Qn Qr = (a env g).wp fun ds g1 => (match ds with | [x, y, z] => ((x.isB || y.isB || z.isB) = false ∧ Qn (((env.set n (.sh x)).set m (.sh y)).set l (.sh z)) g1) | _ => False) := by
  repeat rw [R.wpE]
  try rw [RS.wpE]
  try rw [cndE]
  exact Old.w_par3
theorem w_asgT {a : Ev} {m : Tgv} : (sAsgT a m env g).wp Qn Qr = (a env g).wp fun d g1 => (d.isB = false ∧ (m d env g1).wp Qn Qr) := by
  repeat rw [R.wpE]
  try rw [RS.wpE]
  try rw [cndE]
  exact Old.w_asgT
theorem w_tP {f : Ptv} {d : D} : (tP f d env g).wp Qn Qr = (match f d env with | some env' => Qn env' g | none => False) := by
  repeat rw [R.wpE]
  try rw [RS.wpE]
  try rw [cndE]
  exact Old.w_tP
theorem w_aug {n : Nat} {f : D → D → M D} {a : Ev} : (sAug n f a env g).wp Qn Qr = (match env[n]? with | some (.sh x) => (a env g).wp fun y g1 => (f x y g1).wp fun d g2 => (d.isB = false ∧ Qn (env.set n (.sh d)) g2) | _ => False) := by
  repeat rw [R.wpE]
  try rw [RS.wpE]
  try rw [cndE]
  exact Old.w_aug
theorem w_for {m : Iv} {tg : Ptv} {b : Sv} : (sFor m tg b env g).wp Qn Qr = (m env g).wp fun ds g1 => (forL tg b ds env g1).wp Qn Qr := by
  repeat rw [R.wpE]
  try rw [RS.wpE]
  try rw [cndE]
  exact Old.w_for
theorem w_forNil {tg : Ptv} {b : Sv} : (forL tg b [] env g).wp Qn Qr = Qn env g := by
  repeat rw [R.wpE]
  try rw [RS.wpE]
  try rw [cndE]
  exact Old.w_forNil
theorem w_forCons {tg : Ptv} {b : Sv} {d : D} {ds : List D} : (forL tg b (d :: ds) env g).wp Qn Qr = (d.isB = false ∧ (match tg d env with | some env1 => (b env1 g).wp (fun e g1 => (forL tg b ds e g1).wp Qn Qr) Qr | none => False)) := by
  repeat rw [R.wpE]
  try rw [RS.wpE]
  try rw [cndE]
  exact Old.w_forCons
theorem w_fn {n : Nat} {m : Sv} {ds : List D} : (fnOfB n m ds g).wp Qd = (m (startE n ds) g).wp (fun _ g1 => Qd (.d .none) g1) (fun d g1 => d.isB = false ∧ Qd d g1) := by
  repeat rw [R.wpE]
  try rw [RS.wpE]
  try rw [cndE]
  exact Old.w_fn
theorem w_iSeq {b : Bool} {m : Ev} {Q : List D → G → Prop} : (iSeq b m env g).wp Q = (m env g).wp fun d g1 => (match d with
  | .d (.list xs) => Q (xs.map D.d) g1
  | .d (.tuple xs) => Q (xs.map D.d) g1
  | .bor (.list xs) => (b = false ∧ Q (xs.map D.d) g1)
  | _ => False) := by
  repeat rw [R.wpE]
  try rw [RS.wpE]
  try rw [cndE]
  exact Old.w_iSeq
theorem wpL_ite {c : Prop} [Decidable c] {a : List D} {Q : List D → G → Prop} : ((if c then R.ok a g else .stuck).wp Q) = (c ∧ Q a g) := by
  repeat rw [R.wpE]
  try rw [RS.wpE]
  try rw [cndE]
  exact Old.wpL_ite
theorem w_range1 {m : Ev} {Q : List D → G → Prop} : (iRange1 m env g).wp Q = (m env g).wp fun d g1 => (match d with
  | .d (.int j) => ((-(2 ^ 62) ≤ j ∧ j < 2 ^ 62) ∧ Q (ints0 0 j.toNat) g1)
  | _ => False) := by
  repeat rw [R.wpE]
  try rw [RS.wpE]
  try rw [cndE]
  exact Old.w_range1
theorem w_range2 {m m' : Ev} {Q : List D → G → Prop} : (iRange2 m m' env g).wp Q = (m env g).wp fun d g1 => (m' env g1).wp fun d' g2 => (match d, d' with
  | .d (.int i), .d (.int j) => ((-(2 ^ 62) ≤ i ∧ i < 2 ^ 62 ∧ -(2 ^ 62) ≤ j ∧ j < 2 ^ 62) ∧ Q (ints0 i (j - i).toNat) g2)
  | _, _ => False) := by
  repeat rw [R.wpE]
  try rw [RS.wpE]
  try rw [cndE]
  exact Old.w_range2
theorem o_add : (fAdd (.d (.int i)) (.d (.int j)) g).wp Qd = Qd (.d (.int (i + j))) g := by
  repeat rw [R.wpE]
  try rw [RS.wpE]
  try rw [cndE]
  exact Old.o_add
theorem o_sub : (fSub (.d (.int i)) (.d (.int j)) g).wp Qd = Qd (.d (.int (i - j))) g := by
  repeat rw [R.wpE]
  try rw [RS.wpE]
  try rw [cndE]
  exact Old.o_sub
theorem o_addI : (fAddI (.d (.int i)) (.d (.int j)) g).wp Qd = Qd (.d (.int (i + j))) g := by
  repeat rw [R.wpE]
  try rw [RS.wpE]
  try rw [cndE]
  exact Old.o_addI
theorem o_neg : (fNeg (.d (.int i)) g).wp Qd = Qd (.d (.int (-i))) g := by
  repeat rw [R.wpE]
  try rw [RS.wpE]
  try rw [cndE]
  exact Old.o_neg
theorem wp_ite {c : Prop} [Decidable c] {a : D} : ((if c then R.ok a g else .stuck).wp Qd) = (c ∧ Qd a g) := by
  repeat rw [R.wpE]
  try rw [RS.wpE]
  try rw [cndE]
  exact Old.wp_ite
theorem o_mul : (fMulA (.d (.int i)) (.d (.int j)) g).wp Qd = (((-(2 ^ 64) < i ∧ i < 2 ^ 64) ∨ (-(2 ^ 64) < j ∧ j < 2 ^ 64)) ∧ Qd (.d (.int (i * j))) g) := by
  repeat rw [R.wpE]
  try rw [RS.wpE]
  try rw [cndE]
  exact Old.o_mul
theorem o_mod : (fMod (.d (.int i)) (.d (.int j)) g).wp Qd = (0 < j ∧ Qd (.d (.int (i % j))) g) := by
  repeat rw [R.wpE]
  try rw [RS.wpE]
  try rw [cndE]
  exact Old.o_mod
theorem o_div : (fDiv (.d (.int i)) (.d (.int j)) g).wp Qd = ((0 < j ∧ j < 1073741824) ∧ Qd (.d (.int (i / j))) g) := by
  repeat rw [R.wpE]
  try rw [RS.wpE]
  try rw [cndE]
  exact Old.o_div
theorem o_pow : (fPow (.d (.int i)) (.d (.int j)) g).wp Qd = ((0 ≤ j ∧ j ≤ 1000000 ∧ i.natAbs < 2 ^ 64) ∧ Qd (.d (.int (i ^ j.toNat))) g) := by
  repeat rw [R.wpE]
  try rw [RS.wpE]
  try rw [cndE]
  exact Old.o_pow
theorem o_lt : (fLt (.d (.int i)) (.d (.int j)) g).wp Qd = Qd (.d (.bool (decide (i < j)))) g := by
  repeat rw [R.wpE]
  try rw [RS.wpE]
  try rw [cndE]
  exact Old.o_lt
theorem o_le : (fLe (.d (.int i)) (.d (.int j)) g).wp Qd = Qd (.d (.bool (decide (i ≤ j)))) g := by
  repeat rw [R.wpE]
  try rw [RS.wpE]
  try rw [cndE]
  exact Old.o_le
theorem o_gt : (fGt (.d (.int i)) (.d (.int j)) g).wp Qd = Qd (.d (.bool (decide (j < i)))) g := by
  repeat rw [R.wpE]
  try rw [RS.wpE]
  try rw [cndE]
  exact Old.o_gt
theorem o_ge : (fGe (.d (.int i)) (.d (.int j)) g).wp Qd = Qd (.d (.bool (decide (j ≤ i)))) g := by
  repeat rw [R.wpE]
  try rw [RS.wpE]
  try rw [cndE]
  exact Old.o_ge
theorem o_eq : (fEq (.d (.int i)) (.d (.int j)) g).wp Qd = Qd (.d (.bool (decide (i = j)))) g := by
  repeat rw [R.wpE]
  try rw [RS.wpE]
  try rw [cndE]
  exact Old.o_eq
theorem o_ne : (fNe (.d (.int i)) (.d (.int j)) g).wp Qd = Qd (.d (.bool (!decide (i = j)))) g := by
  repeat rw [R.wpE]
  try rw [RS.wpE]
  try rw [cndE]
  exact Old.o_ne
theorem o_eqG {x y : P} : (fEq (.d x) (.d y) g).wp Qd = ((SeqAt.shaped x = true ∧ SeqAt.shaped y = true) ∧ Qd (.d (.bool (PyData.eqv x y))) g) := by
  repeat rw [R.wpE]
  try rw [RS.wpE]
  try rw [cndE]
  exact Old.o_eqG
theorem o_neG {x y : P} : (fNe (.d x) (.d y) g).wp Qd = ((SeqAt.shaped x = true ∧ SeqAt.shaped y = true) ∧ Qd (.d (.bool (!PyData.eqv x y))) g) := by
  repeat rw [R.wpE]
  try rw [RS.wpE]
  try rw [cndE]
  exact Old.o_neG
theorem o_ixT {xs : List P} : (fIx (.d (.tuple xs)) (.d (.int i)) g).wp Qd = (match atI xs i with | some p => Qd (.d p) g | none => False) := by
  repeat rw [R.wpE]
  try rw [RS.wpE]
  try rw [cndE]
  exact Old.o_ixT
theorem o_ixL {xs : List P} : (fIx (.d (.list xs)) (.d (.int i)) g).wp Qd = (match atI xs i with | some p => Qd (.d p) g | none => False) := by
  repeat rw [R.wpE]
  try rw [RS.wpE]
  try rw [cndE]
  exact Old.o_ixL
theorem o_ixB {xs : List P} : (fIx (.bor (.list xs)) (.d (.int i)) g).wp Qd = (match atI xs i with | some p => Qd (.d p) g | none => False) := by
  repeat rw [R.wpE]
  try rw [RS.wpE]
  try rw [cndE]
  exact Old.o_ixB
theorem o_ixS {xs : List Int} : (fIx (.scr xs) (.d (.int i)) g).wp Qd = (match atI xs i with | some p => Qd (.d (.int p)) g | none => False) := by
  repeat rw [R.wpE]
  try rw [RS.wpE]
  try rw [cndE]
  exact Old.o_ixS
theorem o_ixC {n : Nat} : (fIx (.cell n) (.d (.int i)) g).wp Qd = (match g[n]? with | some xs => (match atI xs i with | some p => Qd (.d p) g | none => False) | none => False) := by
  repeat rw [R.wpE]
  try rw [RS.wpE]
  try rw [cndE]
  exact Old.o_ixC
theorem callD_nb {f : List D → M D} {ds : List D} (h : ds.any D.isB = false) : callD f ds g = f ds g := Old.callD_nb h
theorem shaped_int : SeqAt.shaped (.int i) = true := Old.shaped_int
theorem eqv_int : PyData.eqv (.int i) (.int j) = decide (i = j) := Old.eqv_int
end
end Sim
set_option maxRecDepth 512
set_option Elab.async false
set_option linter.all false
set_option maxHeartbeats 4000000
namespace Sim
open PySem PySem.Spec PyProof.Rows L2
section
variable {α β : Type} {Q : α → G → Prop} {Qd : D → G → Prop} {Qn : En → G → Prop} {Qr : D → G → Prop} {env : En} {g : G} {i j k : Int}
abbrev I (n : Nat) : D := .d (.int (n : Int))
theorem stop_ap {t : Tg1 Q} {a : α} : stop Q t a g = Q a g := rfl
theorem whileN_wp {c : Tv} {b : Sv} (Inv : Nat → En → G → Prop)
    (step : ∀ n e g, Inv n e g → (c e g).wp fun t g1 => cnd t ((b e g1).wp (fun e' g2 => ∃ m, m < n ∧ Inv m e' g2) Qr) (Qn e g1) .mk) :
    ∀ (F n : Nat), n < F → ∀ e g, Inv n e g → (whileN c b F e g).wp Qn Qr := by
  intro F
  induction F with
  | zero => intro n h; omega
  | succ F ih =>
    intro n hn e g hi
    show ((c e g).bindS fun x g1 => if x = true then (b e g1).seq (whileN c b F) else .next e g1).wp Qn Qr
    rw [R.wp_bindS]
    refine R.wp_mono (step n e g hi) fun t g1 hc => ?_
    cases hc with
    | yes h hb =>
      subst h
      rw [if_pos rfl, RS.wp_seq]
      exact RS.wp_mono hb (fun e' g2 ⟨m, hm, hi'⟩ => ih m (by omega) e' g2 hi') (fun d g h => h)
    | no h hq =>
      subst h
      rw [if_neg (by decide), RS.wp_next]
      exact hq
theorem w_while {c : Tv} {b : Sv} (Inv : Nat → En → G → Prop) (n : Nat) (hn : n < FUEL) (h0 : Inv n env g)
    (step : ∀ n e g, Inv n e g → (c e g).wp fun t g1 => cnd t ((b e g1).wp (fun e' g2 => ∃ m, m < n ∧ Inv m e' g2) Qr) (Qn e g1) .mk) :
    (sWhile c b env g).wp Qn Qr := whileN_wp Inv step FUEL n hn env g h0
theorem forL_wp {tg : Ptv} {b : Sv} (Inv : Nat → En → G → Prop) (ds : List D)
    (step : ∀ i e g d, ds[i]? = some d → Inv i e g → (d.isB = false ∧ ∃ e1, tg d e = some e1 ∧ (b e1 g).wp (fun e' g2 => Inv (i + 1) e' g2) Qr)) :
    ∀ (i : Nat), i ≤ ds.length → ∀ e g, Inv i e g → (∀ e g, Inv ds.length e g → Qn e g) → (forL tg b (ds.drop i) e g).wp Qn Qr := by
  intro i hi
  induction h : ds.length - i generalizing i with
  | zero =>
    intro e g hI hf
    rw [List.drop_of_length_le (by omega), w_forNil]
    have : i = ds.length := by omega
    subst this; exact hf e g hI
  | succ k ih =>
    intro e g hI hf
    have hlt : i < ds.length := by omega
    rw [List.drop_eq_getElem_cons hlt, w_forCons]
    obtain ⟨h1, e1, h2, h3⟩ := step i e g ds[i] (by simp [hlt]) hI
    refine ⟨h1, ?_⟩
    rw [h2]
    exact RS.wp_mono h3 (fun e' g2 hI' => ih (i + 1) (by omega) (by omega) e' g2 hI' hf) (fun d g h => h)
theorem w_forL {tg : Ptv} {b : Sv} {ds : List D} (Inv : Nat → En → G → Prop) (h0 : Inv 0 env g)
    (step : ∀ i e g d, ds[i]? = some d → Inv i e g → (d.isB = false ∧ ∃ e1, tg d e = some e1 ∧ (b e1 g).wp (fun e' g2 => Inv (i + 1) e' g2) Qr))
    (hf : ∀ e g, Inv ds.length e g → Qn e g) : (forL tg b ds env g).wp Qn Qr := forL_wp Inv ds step 0 (by omega) env g h0 hf
theorem compL_wp {tg : Ptv} {tt : Tv} {elt : Ev} (Inv : Nat → List P → G → Prop) (ds : List D)
    (step : ∀ i ps g d, ds[i]? = some d → Inv i ps g → (d.isB = false ∧ ∃ e1, tg d env = some e1 ∧ (tt e1 g).wp fun t g1 => cnd t ((elt e1 g1).wp fun y g2 => ∃ p, y = .d p ∧ Inv (i + 1) (ps ++ [p]) g2) (Inv (i + 1) ps g1) .mk)) :
    ∀ (i : Nat), i ≤ ds.length → ∀ ps g, Inv i ps g → (compL tg tt elt env (ds.drop i) g).wp fun r g' => Inv ds.length (ps ++ r) g' := by
  intro i hi
  induction h : ds.length - i generalizing i with
  | zero =>
    intro ps g hI
    rw [List.drop_of_length_le (by omega)]
    have : i = ds.length := by omega
    subst this
    show (R.ok [] g).wp _
    rw [R.wp_ok, List.append_nil]; exact hI
  | succ k ih =>
    intro ps g hI
    have hlt : i < ds.length := by omega
    rw [List.drop_eq_getElem_cons hlt]
    obtain ⟨h1, e1, h2, h3⟩ := step i ps g ds[i] (by simp [hlt]) hI
    show (if (ds[i]).isB then R.stuck else match tg ds[i] env with
     | some e => (tt e g).ne.bind fun b g1 => if b = true then (elt e g1).ne.bind fun y g2 => (match y with
         | .d p => (compL tg tt elt env (ds.drop (i + 1)) g2).bind fun r g3 => .ok (p :: r) g3
         | _ => .stuck) else compL tg tt elt env (ds.drop (i + 1)) g1
     | none => .stuck).wp _
    rw [if_neg (by rw [h1]; decide), h2]
    show ((tt e1 g).ne.bind _).wp _
    rw [R.wp_bind, R.wp_ne]
    refine R.wp_mono h3 fun t g1 hc => ?_
    cases hc with
    | no ht hq =>
      subst ht
      rw [if_neg (by decide)]
      exact ih (i + 1) (by omega) (by omega) ps g1 hq
    | yes ht hq =>
      subst ht
      rw [if_pos rfl, R.wp_bind, R.wp_ne]
      refine R.wp_mono hq fun y g2 hy => ?_
      obtain ⟨p, hp, hI2⟩ := hy
      subst hp
      show ((compL tg tt elt env (ds.drop (i + 1)) g2).bind fun r g3 => .ok (p :: r) g3).wp _
      rw [R.wp_bind]
      refine R.wp_mono (ih (i + 1) (by omega) (by omega) (ps ++ [p]) g2 hI2) fun r g3 hr => ?_
      rw [R.wp_ok]
      rw [List.append_assoc] at hr
      exact hr
theorem w_compL {tg : Ptv} {tt : Tv} {elt : Ev} {ds : List D} {Q : List P → G → Prop} (Inv : Nat → List P → G → Prop) (h0 : Inv 0 [] g)
    (step : ∀ i ps g d, ds[i]? = some d → Inv i ps g → (d.isB = false ∧ ∃ e1, tg d env = some e1 ∧ (tt e1 g).wp fun t g1 => cnd t ((elt e1 g1).wp fun y g2 => ∃ p, y = .d p ∧ Inv (i + 1) (ps ++ [p]) g2) (Inv (i + 1) ps g1) .mk))
    (hf : ∀ r g, Inv ds.length r g → Q r g) : (compL tg tt elt env ds g).wp Q := by
  have := compL_wp Inv ds step 0 (by omega) [] g h0
  exact R.wp_mono this fun r g' h => hf r g' (by simpa using h)
theorem ints0_len {lo : Int} {n : Nat} : (ints0 lo n).length = n := by simp [ints0]
theorem ints0_get {lo : Int} {n i : Nat} {d : D} (h : (ints0 lo n)[i]? = some d) : i < n ∧ d = .d (.int (lo + (i : Nat))) := by
  have hi : i < n := by
    rcases Nat.lt_or_ge i n with h1 | h1
    · exact h1
    · rw [List.getElem?_eq_none (by rw [ints0_len]; exact h1)] at h; cases h
  refine ⟨hi, ?_⟩
  unfold ints0 at h
  rw [List.getElem?_map, List.getElem?_range hi] at h
  cases h; rfl
/-! a call with no own object, in the form in which the evaluator stops -/
theorem w_call0 {f : List D → M D} {ds : List D} (hb : ds.any D.isB = false) (h : (f ds g).wp Qd) : (callD f ds g).wp (stop Qd .mk) := by rw [callD_nb hb]; exact h
/-! further operations -/
theorem w_tTup {n : Nat} {r : List P → Sv} {ps : List P} : (tTupT n r (.d (.tuple ps)) env g).wp Qn Qr = (ps.length = n ∧ (r ps env g).wp Qn Qr) := by
  show (if ps.length = n then r ps env g else RS.stuck).wp Qn Qr = _
  by_cases h : ps.length = n
  · rw [if_pos h]; simp only [h, true_and]
  · rw [if_neg h]; simp only [h, false_and]; rw [RS.wp_stuck]
theorem w_tNil : (tsNil [] env g).wp Qn Qr = Qn env g := by
  show (RS.next env g).wp Qn Qr = _
  rw [RS.wp_next]
theorem w_tCons {a : Tgv} {r : List P → Sv} {d : P} {ds : List P} : (tsCons a r (d :: ds) env g).wp Qn Qr = (a (.d d) env g).wp (fun e g1 => (r ds e g1).wp Qn Qr) Qr := by
  show ((a (.d d) env g).seq (r ds)).wp Qn Qr = _
  rw [RS.wp_seq]
theorem w_tName {i : Nat} {d : D} : (tName i d env g).wp Qn Qr = Qn (env.set i (.sh d)) g := by
  show (RS.next _ g).wp Qn Qr = _
  rw [RS.wp_next]
theorem w_setOwn {i : Nat} {m : Ev} {d : P} {ps : List P} (h : env[i]? = some (.own (.list ps))) : (tSetIx i m (.d d) env g).wp Qn Qr = (m env g).wp fun j g1 => (match j with
    | .d (.int k) => (match setP ps k d with | some qs => Qn (env.set i (.own (.list qs))) g1 | none => False)
    | _ => False) := by
  unfold tSetIx
  rw [h]
  show ((m env g).bindS _).wp Qn Qr = _
  rw [R.wp_bindS]
  congr 1; funext j g1
  cases j with
  | d p =>
    cases p with
    | int k =>
      dsimp only
      cases setP ps k d with
      | none => exact RS.wp_stuck
      | some qs => exact RS.wp_next
    | _ => exact RS.wp_stuck
  | _ => exact RS.wp_stuck
theorem w_setCell {i n : Nat} {m : Ev} {d : P} (h : env[i]? = some (.sh (.cell n))) : (tSetIx i m (.d d) env g).wp Qn Qr = (m env g).wp fun j g1 => (match j, g1[n]? with
    | .d (.int k), some ps => (match setP ps k d with | some qs => Qn env (g1.set n qs) | none => False)
    | _, _ => False) := by
  unfold tSetIx
  rw [h]
  show ((m env g).bindS _).wp Qn Qr = _
  rw [R.wp_bindS]
  congr 1; funext j g1
  cases j with
  | d p =>
    cases p with
    | int k =>
      cases hg : g1[n]? with
      | none => exact RS.wp_stuck
      | some ps =>
        dsimp only
        cases setP ps k d with
        | none => exact RS.wp_stuck
        | some qs => exact RS.wp_next
    | _ => exact RS.wp_stuck
  | _ => exact RS.wp_stuck
theorem o_int : (fInt [.d (.int i)] g).wp Qd = Qd (.d (.int i)) g := by show (R.ok _ g).wp _ = _; rw [R.wp_ok]
theorem o_intB {b : Bool} : (fInt [.d (.bool b)] g).wp Qd = Qd (.d (.int (if b then 1 else 0))) g := by show (R.ok _ g).wp _ = _; rw [R.wp_ok]
theorem o_abs : (fAbs [.d (.int i)] g).wp Qd = Qd (.d (.int (if i < 0 then -i else i))) g := by show (R.ok _ g).wp _ = _; rw [R.wp_ok]
theorem o_max2 : (fMax [.d (.int i), .d (.int j)] g).wp Qd = Qd (.d (.int (if j > i then j else i))) g := by show (R.ok _ g).wp _ = _; rw [R.wp_ok]
theorem o_min2 : (fMin [.d (.int i), .d (.int j)] g).wp Qd = Qd (.d (.int (if j < i then j else i))) g := by show (R.ok _ g).wp _ = _; rw [R.wp_ok]
theorem o_lenT {xs : List P} : (fLen [.d (.tuple xs)] g).wp Qd = Qd (.d (.int xs.length)) g := by show (R.ok _ g).wp _ = _; rw [R.wp_ok]
theorem o_lenL {xs : List P} : (fLen [.d (.list xs)] g).wp Qd = Qd (.d (.int xs.length)) g := by show (R.ok _ g).wp _ = _; rw [R.wp_ok]
theorem o_lenB {xs : List P} : (fLen [.bor (.list xs)] g).wp Qd = Qd (.d (.int xs.length)) g := by show (R.ok _ g).wp _ = _; rw [R.wp_ok]
theorem o_lenS {xs : List Int} : (fLen [.scr xs] g).wp Qd = Qd (.d (.int xs.length)) g := by show (R.ok _ g).wp _ = _; rw [R.wp_ok]
theorem o_divmod : (fDivmod [.d (.int i), .d (.int j)] g).wp Qd = ((0 < j ∧ j < 1073741824) ∧ Qd (.d (.tuple [.int (i / j), .int (i % j)])) g) := by
  show (if 0 < j ∧ j < 1073741824 then R.ok _ g else .stuck).wp Qd = _
  by_cases h : 0 < j ∧ j < 1073741824
  · rw [if_pos h, R.wp_ok]; simp only [h, true_and, and_self]
  · rw [if_neg h, R.wp_stuck]; simp only [h, false_and]
theorem o_slT {xs : List P} {lo hi : Option Int} : (fSl (.d (.tuple xs)) lo hi g).wp Qd = Qd (.d (.tuple (cutP xs lo hi))) g := by show (R.ok _ g).wp _ = _; rw [R.wp_ok]
theorem o_slL {xs : List P} {lo hi : Option Int} : (fSl (.d (.list xs)) lo hi g).wp Qd = Qd (.d (.list (cutP xs lo hi))) g := by show (R.ok _ g).wp _ = _; rw [R.wp_ok]
theorem o_slB {xs : List P} {lo hi : Option Int} : (fSl (.bor (.list xs)) lo hi g).wp Qd = Qd (.d (.list (cutP xs lo hi))) g := by show (R.ok _ g).wp _ = _; rw [R.wp_ok]
theorem o_all {d : D} {ps : List P} {bs : List Bool} (h : d.lst = some ps) (hb : blsOf ps = some bs) : (fAll [d] g).wp Qd = Qd (.d (.bool (bs.all id))) g := by
  show (match d.lst.bind blsOf with | some ns => R.ok (D.d (.bool (ns.all id))) g | none => .stuck).wp Qd = _
  rw [h]
  show (match blsOf ps with | some ns => R.ok (D.d (.bool (ns.all id))) g | none => .stuck).wp Qd = _
  rw [hb]
  exact R.wp_ok
theorem o_repr {p : P} : (fRepr [.d p] g).wp Qd = (reprOk p = true ∧ Qd (.d (.str p.shown)) g) := by
  show (if reprOk p = true then R.ok (D.d (.str p.shown)) g else .stuck).wp Qd = _
  by_cases h : reprOk p = true
  · rw [if_pos h, R.wp_ok]; simp only [h, true_and]
  · rw [if_neg h, R.wp_stuck]; simp only [h, false_and]; simp
theorem ixN_nat {k n : Nat} (h : n < k) : ixN k (n : Int) = some n := by
  unfold ixN
  rw [if_pos (by omega), if_pos (by omega)]; simp
theorem atI_nat {γ : Type} {xs : List γ} {n : Nat} : atI xs (n : Int) = xs[n]? := by
  unfold atI
  rcases Nat.lt_or_ge n xs.length with h | h
  · rw [ixN_nat h]; rfl
  · rw [List.getElem?_eq_none h]
    have : ixN xs.length (n : Int) = none := by
      unfold ixN
      rw [if_pos (by omega), if_neg (by omega)]
    rw [this]; rfl
theorem setP_nat {ps : List P} {n : Nat} {p : P} (h : n < ps.length) : setP ps (n : Int) p = some (ps.set n p) := by
  unfold setP; rw [ixN_nat h]; rfl
/-! the tests of types -/
theorem isInt_none  : isInt (.d .none) = false := rfl
theorem isInt_bool {x : Bool} : isInt (.d (.bool x)) = true := rfl
theorem isInt_int {x : Int} : isInt (.d (.int x)) = true := rfl
theorem isInt_str {x : Str} : isInt (.d (.str x)) = false := rfl
theorem isInt_list {x : List P} : isInt (.d (.list x)) = false := rfl
theorem isInt_tuple {x : List P} : isInt (.d (.tuple x)) = false := rfl
theorem isInt_dict {x : List (P × P)} : isInt (.d (.dict x)) = false := rfl
theorem isInt_bL {x : List P} : isInt (.bor (.list x)) = false := rfl
theorem isInt_cell {x : Nat} : isInt (.cell x) = false := rfl
theorem isInt_scr {x : List Int} : isInt (.scr x) = false := rfl
theorem isBool_none  : isBool (.d .none) = false := rfl
theorem isBool_bool {x : Bool} : isBool (.d (.bool x)) = true := rfl
theorem isBool_int {x : Int} : isBool (.d (.int x)) = false := rfl
theorem isBool_str {x : Str} : isBool (.d (.str x)) = false := rfl
theorem isBool_list {x : List P} : isBool (.d (.list x)) = false := rfl
theorem isBool_tuple {x : List P} : isBool (.d (.tuple x)) = false := rfl
theorem isBool_dict {x : List (P × P)} : isBool (.d (.dict x)) = false := rfl
theorem isBool_bL {x : List P} : isBool (.bor (.list x)) = false := rfl
theorem isBool_cell {x : Nat} : isBool (.cell x) = false := rfl
theorem isBool_scr {x : List Int} : isBool (.scr x) = false := rfl
theorem isStr_none  : isStr (.d .none) = false := rfl
theorem isStr_bool {x : Bool} : isStr (.d (.bool x)) = false := rfl
theorem isStr_int {x : Int} : isStr (.d (.int x)) = false := rfl
theorem isStr_str {x : Str} : isStr (.d (.str x)) = true := rfl
theorem isStr_list {x : List P} : isStr (.d (.list x)) = false := rfl
theorem isStr_tuple {x : List P} : isStr (.d (.tuple x)) = false := rfl
theorem isStr_dict {x : List (P × P)} : isStr (.d (.dict x)) = false := rfl
theorem isStr_bL {x : List P} : isStr (.bor (.list x)) = false := rfl
theorem isStr_cell {x : Nat} : isStr (.cell x) = false := rfl
theorem isStr_scr {x : List Int} : isStr (.scr x) = false := rfl
theorem isTup_none  : isTup (.d .none) = false := rfl
theorem isTup_bool {x : Bool} : isTup (.d (.bool x)) = false := rfl
theorem isTup_int {x : Int} : isTup (.d (.int x)) = false := rfl
theorem isTup_str {x : Str} : isTup (.d (.str x)) = false := rfl
theorem isTup_list {x : List P} : isTup (.d (.list x)) = false := rfl
theorem isTup_tuple {x : List P} : isTup (.d (.tuple x)) = true := rfl
theorem isTup_dict {x : List (P × P)} : isTup (.d (.dict x)) = false := rfl
theorem isTup_bL {x : List P} : isTup (.bor (.list x)) = false := rfl
theorem isTup_cell {x : Nat} : isTup (.cell x) = false := rfl
theorem isTup_scr {x : List Int} : isTup (.scr x) = false := rfl
theorem isLst_none  : isLst (.d .none) = false := rfl
theorem isLst_bool {x : Bool} : isLst (.d (.bool x)) = false := rfl
theorem isLst_int {x : Int} : isLst (.d (.int x)) = false := rfl
theorem isLst_str {x : Str} : isLst (.d (.str x)) = false := rfl
theorem isLst_list {x : List P} : isLst (.d (.list x)) = true := rfl
theorem isLst_tuple {x : List P} : isLst (.d (.tuple x)) = false := rfl
theorem isLst_dict {x : List (P × P)} : isLst (.d (.dict x)) = false := rfl
theorem isLst_bL {x : List P} : isLst (.bor (.list x)) = true := rfl
theorem isLst_cell {x : Nat} : isLst (.cell x) = true := rfl
theorem isLst_scr {x : List Int} : isLst (.scr x) = true := rfl
theorem isDic_none  : isDic (.d .none) = false := rfl
theorem isDic_bool {x : Bool} : isDic (.d (.bool x)) = false := rfl
theorem isDic_int {x : Int} : isDic (.d (.int x)) = false := rfl
theorem isDic_str {x : Str} : isDic (.d (.str x)) = false := rfl
theorem isDic_list {x : List P} : isDic (.d (.list x)) = false := rfl
theorem isDic_tuple {x : List P} : isDic (.d (.tuple x)) = false := rfl
theorem isDic_dict {x : List (P × P)} : isDic (.d (.dict x)) = true := rfl
theorem isDic_bL {x : List P} : isDic (.bor (.list x)) = false := rfl
theorem isDic_cell {x : Nat} : isDic (.cell x) = false := rfl
theorem isDic_scr {x : List Int} : isDic (.scr x) = false := rfl
theorem eqv_str {x y : Str} : PyData.eqv (.str x) (.str y) = decide (x = y) := by
  unfold PyData.eqv
  by_cases h : x = y
  · subst h; simp
  · rw [decide_eq_false h]; exact beq_eq_false_iff_ne.mpr h
theorem eqv_bool {x y : Bool} : PyData.eqv (.bool x) (.bool y) = (x == y) := by unfold PyData.eqv; rfl
theorem shaped_str {x : Str} : SeqAt.shaped (.str x) = PyData.strOk x := by
  unfold SeqAt.shaped
  show (PyData.strOk x && decide (PyData.depth (.str x) ≤ 64)) = _
  rw [show PyData.depth (.str x) = 0 from rfl]; simp
theorem shaped_bool {x : Bool} : SeqAt.shaped (.bool x) = true := rfl
theorem o_eqS {x y : Str} : (fEq (.d (.str x)) (.d (.str y)) g).wp Qd = ((PyData.strOk x = true ∧ PyData.strOk y = true) ∧ Qd (.d (.bool (decide (x = y)))) g) := by
  rw [o_eqG, eqv_str]; simp only [shaped_str]
theorem o_neS {x y : Str} : (fNe (.d (.str x)) (.d (.str y)) g).wp Qd = ((PyData.strOk x = true ∧ PyData.strOk y = true) ∧ Qd (.d (.bool (!decide (x = y)))) g) := by
  rw [o_neG, eqv_str]; simp only [shaped_str]
theorem o_eqB {x y : Bool} : (fEq (.d (.bool x)) (.d (.bool y)) g).wp Qd = Qd (.d (.bool (x == y))) g := by
  rw [o_eqG, eqv_bool]; simp only [shaped_bool, and_self, true_and]
theorem o_neB {x y : Bool} : (fNe (.d (.bool x)) (.d (.bool y)) g).wp Qd = Qd (.d (.bool (!(x == y)))) g := by
  rw [o_neG, eqv_bool]; simp only [shaped_bool, and_self, true_and]
/-! loops over given lists -/
theorem w_forCons' {tg : Ptv} {b : Sv} {d : D} {ds : List D} : (forL tg b (d :: ds) env g).wp Qn Qr = (d.isB = false ∧ (match tg d env with | some env1 => (b env1 g).wp (fun e g1 => (forL tg b ds e g1).wp Qn Qr) Qr | none => False)) := w_forCons
theorem w_compNil {tg : Ptv} {tt : Tv} {elt : Ev} {Q : List P → G → Prop} : (compL tg tt elt env [] g).wp Q = Q [] g := by show (R.ok [] g).wp Q = _; rw [R.wp_ok]
theorem w_compCons {tg : Ptv} {tt : Tv} {elt : Ev} {d : D} {ds : List D} {Q : List P → G → Prop} : (compL tg tt elt env (d :: ds) g).wp Q = (d.isB = false ∧ (match tg d env with
    | some e => (tt e g).wp fun t g1 => cnd t ((elt e g1).wp fun y g2 => (match y with | .d p => (compL tg tt elt env ds g2).wp fun r g3 => Q (p :: r) g3 | _ => False)) ((compL tg tt elt env ds g1).wp Q) .mk
    | none => False)) := by
  show (if d.isB then R.stuck else match tg d env with
     | some e => (tt e g).ne.bind fun b g1 => if b = true then (elt e g1).ne.bind fun y g2 => (match y with
         | .d p => (compL tg tt elt env ds g2).bind fun r g3 => .ok (p :: r) g3
         | _ => .stuck) else compL tg tt elt env ds g1
     | none => .stuck).wp Q = _
  cases h : d.isB with
  | true => rw [if_pos rfl, R.wp_stuck]; simp only [Bool.true_eq_false, false_and]
  | false =>
    rw [if_neg (by decide)]; simp only [true_and]
    cases tg d env with
    | none => exact R.wp_stuck
    | some e =>
      dsimp only
      rw [R.wp_bind, R.wp_ne]
      congr 1; funext t g1
      cases t with
      | false => rw [cnd_false]; rfl
      | true =>
        rw [cnd_true, if_pos rfl, R.wp_bind, R.wp_ne]
        congr 1; funext y g2
        cases y with
        | d p =>
          dsimp only
          rw [R.wp_bind]
          congr 1; funext r g3
          exact R.wp_ok
        | _ => exact R.wp_stuck
theorem p_name {i : Nat} {d : D} : pName i d env = some (env.set i (.sh d)) := rfl
theorem p_tupL {n : Nat} {r : Ptvs} {ps : List P} : pTup n r (.d (.list ps)) env = if ps.length = n then r ps env else none := rfl
theorem p_tup {n : Nat} {r : Ptvs} {ps : List P} : pTup n r (.d (.tuple ps)) env = if ps.length = n then r ps env else none := rfl
theorem p_cons {a : Ptv} {r : Ptvs} {d : P} {ds : List P} : psCons a r (d :: ds) env = (a (.d d) env).bind (r ds) := rfl
theorem p_nil : psNil [] env = some env := rfl
theorem wipe_nil : wipeE env [] = env := rfl
theorem wipe_cons {v : Nat} {vs : List Nat} : wipeE env (v :: vs) = (wipeE env vs).set v .un := rfl
theorem bls_nil : blsOf [] = some [] := rfl
theorem bls_cons {b : Bool} {r : List P} : blsOf (.bool b :: r) = (blsOf r).map (b :: ·) := rfl
theorem ints_nil : intsOf [] = some [] := rfl
theorem ints_cons {b : Int} {r : List P} : intsOf (.int b :: r) = (intsOf r).map (b :: ·) := rfl
theorem o_allL {ps : List P} : (fAll [.d (.list ps)] g).wp Qd = (match blsOf ps with | some bs => Qd (.d (.bool (bs.all id))) g | none => False) := by
  show (match blsOf ps with | some ns => R.ok (D.d (.bool (ns.all id))) g | none => .stuck).wp Qd = _
  cases blsOf ps with
  | none => exact R.wp_stuck
  | some bs => exact R.wp_ok
theorem o_anyL {ps : List P} : (fAny [.d (.list ps)] g).wp Qd = (match blsOf ps with | some bs => Qd (.d (.bool (bs.any id))) g | none => False) := by
  show (match blsOf ps with | some ns => R.ok (D.d (.bool (ns.any id))) g | none => .stuck).wp Qd = _
  cases blsOf ps with
  | none => exact R.wp_stuck
  | some bs => exact R.wp_ok
theorem bls_all : ∀ {ps : List P}, (∀ p ∈ ps, p = .bool true) → ∃ bs, blsOf ps = some bs ∧ bs.all id = true
  | [], _ => ⟨[], rfl, rfl⟩
  | p :: ps, h => by
    obtain ⟨bs, h1, h2⟩ := bls_all (ps := ps) fun q hq => h q (List.mem_cons_of_mem _ hq)
    have := h p List.mem_cons_self
    subst this
    exact ⟨true :: bs, by rw [bls_cons, h1]; rfl, by rw [List.all_cons, h2]; rfl⟩
/-- all of a list of truths -/
theorem o_all_true {ps : List P} (hp : ∀ p ∈ ps, p = .bool true) (h : Qd (.d (.bool true)) g) : (fAll [.d (.list ps)] g).wp Qd := by
  obtain ⟨bs, h1, h2⟩ := bls_all hp
  rw [o_allL, h1]; dsimp only; rw [h2]; exact h
theorem wpB_ite {c : Prop} [Decidable c] {a : List P} {Q : List P → G → Prop} : ((if c then R.ok a g else .stuck).wp Q) = (c ∧ Q a g) := by
  by_cases h : c
  · rw [if_pos h, R.wp_ok]; simp only [h, true_and]
  · rw [if_neg h, R.wp_stuck]; simp only [h, false_and]
theorem all_get {ps : List P} {Pr : P → Prop} (h : ∀ (i : Nat) (p : P), ps[i]? = some p → Pr p) : ∀ p ∈ ps, Pr p := fun p hp => by
  obtain ⟨i, hi, e⟩ := List.getElem_of_mem hp
  exact h i p (by rw [List.getElem?_eq_getElem hi, e])
theorem atI_lit {γ : Type} {xs : List γ} {n : Nat} : atI xs (no_index (OfNat.ofNat n : Int)) = xs[(OfNat.ofNat n : Nat)]? := atI_nat
theorem setP_lit {ps : List P} {n : Nat} {p : P} : setP ps (no_index (OfNat.ofNat n : Int)) p = if (OfNat.ofNat n : Nat) < ps.length then some (ps.set (OfNat.ofNat n : Nat) p) else none := by
  show setP ps ((n : Nat) : Int) p = if n < ps.length then some (ps.set n p) else none
  by_cases h : n < ps.length
  · rw [setP_nat h, if_pos h]
  · rw [if_neg h]
    unfold setP ixN
    rw [if_pos (by omega), if_neg (by omega)]; rfl
theorem isB_d {p : P} : D.isB (.d p) = false := rfl
theorem isB_cell {n : Nat} : D.isB (.cell n) = false := rfl
theorem isB_scr {xs : List Int} : D.isB (.scr xs) = false := rfl
theorem isB_bor {p : P} : D.isB (.bor p) = true := rfl
theorem noC_d {p : P} : D.noC (.d p) = true := rfl
theorem noC_cell {n : Nat} : D.noC (.cell n) = false := rfl
theorem noC_scr {xs : List Int} : D.noC (.scr xs) = true := rfl
theorem noC_bor {p : P} : D.noC (.bor p) = true := rfl
theorem cnd_not {t : Bool} {A B : Prop} {x : Tg2 A B} : cnd (!t) A B x = cnd t B A .mk := by
  cases t
  · rw [Bool.not_false, cnd_true, cnd_false]
  · rw [Bool.not_true, cnd_true, cnd_false]
/-! what repr takes -/
def okS (x : Str) : Prop := ∀ c ∈ x.cps.toList, c < 0x110000
theorem okS.ok {x : Str} (h : okS x) : PyData.strOk x = true := by
  unfold PyData.strOk
  rw [Array.all_eq_true_iff_forall_mem]
  intro c hc
  exact decide_eq_true (h c (Array.mem_toList_iff.mpr hc))
theorem okS.of {x : Str} (h : PyData.strOk x = true) : okS x := by
  unfold PyData.strOk at h
  rw [Array.all_eq_true_iff_forall_mem] at h
  intro c hc
  exact of_decide_eq_true (h c (Array.mem_toList_iff.mp hc))
theorem okS.app {x y : Str} (h : okS x) (h' : okS y) : okS (x ++ y) := by
  intro c hc
  rw [mem_cps_append] at hc
  exact hc.elim (h c) (h' c)
theorem okS.frm : ∀ (ts : List Str) (k : Nat) (acc : Str), okS acc → (∀ t ∈ ts, okS t) → okS (textFrom k acc ts)
  | [], _, _, h, _ => h
  | t :: ts, k, acc, h, h' => okS.frm ts (k + 1) _ ((h.app (by split <;> exact .of (by decide +kernel))).app (h' t List.mem_cons_self)) fun u hu => h' u (List.mem_cons_of_mem _ hu)
theorem okS.list {ts : List Str} (h : ∀ t ∈ ts, okS t) : okS (listText ts) := by
  unfold listText
  exact (okS.frm ts 0 _ (.of (by decide +kernel)) h).app (.of (by decide +kernel))
theorem okS.join {s : Str} (hs : okS s) : ∀ {ts : List Str}, (∀ t ∈ ts, okS t) → okS (Str.join s ts)
  | [], _ => okS.of (x := Str.empty) (by decide +kernel)
  | [x], h => h x List.mem_cons_self
  | x :: y :: r, h => ((h x List.mem_cons_self).app hs).app (okS.join hs (ts := y :: r) fun u hu => h u (List.mem_cons_of_mem _ hu))
theorem okS.tuple {ts : List Str} (h : ∀ t ∈ ts, okS t) : okS (tupleText ts) := by
  unfold tupleText
  refine (okS.app (.of (by decide +kernel)) (okS.join (.of (by decide +kernel)) h)).app ?_
  split <;> exact .of (by decide +kernel)
theorem okS.int {i : Int} : okS (PyData.int i).shown := by
  intro c hc
  rcases Nat.lt_or_ge c 0x110000 with h | h
  · exact h
  · exact absurd hc (shown_int_free' ⟨by omega, by omega⟩ i)
structure RO (d : P) (n w : Nat) : Prop where
  c : d.canLay0 = true
  s : d.showable = true
  i : d.intsShort 13 = true
  dp : d.depth ≤ n
  wt : d.weight ≤ w
  t : okS d.shown
structure ROs (d : List P) (n w : Nat) : Prop where
  c : PyData.canLayAll0 d = true
  s : PyData.showableAll d = true
  i : PyData.intsShortAll 13 d = true
  dp : PyData.depthAll d ≤ n
  wt : PyData.weightAll d ≤ w
  t : ∀ t ∈ PyData.shownAll d, okS t
theorem RO.ok {d : P} {n w : Nat} (h : RO d n w) (hn : n ≤ 60 := by decide) (hw : w ≤ 1000000 := by decide) : reprOk d = true := by
  have h3 : PyData.layable0 d = true := by
    unfold PyData.layable0
    rw [h.c, decide_eq_true (by have := h.dp; omega), decide_eq_true (by have := h.wt; omega)]; rfl
  unfold reprOk
  rw [h.c, h.s, decide_eq_true (by have := h.dp; omega), decide_eq_true (PyData.shown_fits_of_layable0 (B := 13) (by decide) (by decide) h3 h.i)]; rfl
theorem RO.int {i : Int} {n : Nat} (h : i.natAbs < 1000000000000) : RO (.int i) n 40 := by
  have hl : i.natAbs.log2 < 40 := by
    rcases Nat.eq_zero_or_pos i.natAbs with h0 | h0
    · rw [h0]; decide
    · exact (Nat.log2_lt (by omega)).mpr (by omega)
  refine ⟨rfl, ?_, ?_, Nat.zero_le _, ?_, okS.int⟩
  · show decide (i.natAbs.log2 < 1920) = true
    exact decide_eq_true (by omega)
  · show decide ((PyData.shown (.int i)).length ≤ 13) = true
    exact decide_eq_true (PyData.shown_int_le (by omega))
  · show (if i == 0 then 0 else i.natAbs.log2 + 1) ≤ 40
    split <;> omega
theorem RO.nat {i : Nat} {n : Nat} (h : i < 1000000000000) : RO (.int (i : Int)) n 40 := RO.int (by omega)
theorem RO.bool {b : Bool} {n : Nat} : RO (.bool b) n 0 := ⟨rfl, rfl, rfl, Nat.zero_le _, Nat.zero_le _, .of (by cases b <;> decide +kernel)⟩
theorem RO.none {n : Nat} : RO .none n 0 := ⟨rfl, rfl, rfl, Nat.zero_le _, Nat.zero_le _, .of (by decide +kernel)⟩
theorem RO.str {x : Str} {n : Nat} (h : PyData.strOk x = true) (h' : PyData.strOk (PyData.shown (.str x)) = true) : RO (.str x) n x.cps.size := ⟨h, rfl, rfl, Nat.zero_le _, Nat.le_refl _, .of h'⟩
theorem RO.list {ds : List P} {n w : Nat} (h : ROs ds n w) : RO (.list ds) (n + 1) w := ⟨h.c, h.s, h.i, Nat.succ_le_succ h.dp, h.wt, okS.list h.t⟩
theorem RO.tuple {ds : List P} {n w : Nat} (h : ROs ds n w) : RO (.tuple ds) (n + 1) w := ⟨h.c, h.s, h.i, Nat.succ_le_succ h.dp, h.wt, okS.tuple h.t⟩
theorem ROs.nil {n : Nat} : ROs [] n 0 := ⟨rfl, rfl, rfl, Nat.zero_le _, Nat.le_refl _, fun _ h => nomatch h⟩
theorem ROs.cons {d : P} {ds : List P} {n w w' : Nat} (h : RO d n w) (h' : ROs ds n w') : ROs (d :: ds) n (w + 1 + w') := by
  refine ⟨?_, ?_, ?_, ?_, ?_, fun t ht => (List.mem_cons.mp ht).elim (fun e => e ▸ h.t) (h'.t t)⟩
  · show (d.canLay0 && PyData.canLayAll0 ds) = true
    rw [h.c, h'.c]; rfl
  · show (d.showable && PyData.showableAll ds) = true
    rw [h.s, h'.s]; rfl
  · show (d.intsShort 13 && PyData.intsShortAll 13 ds) = true
    rw [h.i, h'.i]; rfl
  · show max d.depth (PyData.depthAll ds) ≤ n
    have := h.dp; have := h'.dp; omega
  · show d.weight + 1 + PyData.weightAll ds ≤ w + 1 + w'
    have := h.wt; have := h'.wt; omega
theorem ROs.all {n w : Nat} : ∀ {ds : List P}, (∀ d ∈ ds, RO d n w) → ROs ds n ((w + 1) * ds.length)
  | [], _ => ROs.nil
  | d :: ds, h => by
    have := ROs.cons (h d List.mem_cons_self) (ROs.all (ds := ds) fun e he => h e (List.mem_cons_of_mem _ he))
    rw [show (w + 1) * (d :: ds).length = w + 1 + (w + 1) * ds.length by rw [List.length_cons, Nat.mul_succ]; omega]
    exact this
theorem RO.lift {d : P} {n n' w w' : Nat} (h : RO d n w) (hn : n ≤ n') (hw : w ≤ w') : RO d n' w' := ⟨h.c, h.s, h.i, Nat.le_trans h.dp hn, Nat.le_trans h.wt hw, h.t⟩
theorem startE_eq {n : Nat} {ds : List D} : startE n ds = ds.map Sl.sh ++ List.replicate (n - ds.length) Sl.un := rfl
theorem eqv_tup2 {a b c d : Int} : PyData.eqv (.tuple [.int a, .int b]) (.tuple [.int c, .int d]) = (decide (a = c) && decide (b = d)) := by
  simp only [PyData.eqv, PyData.eqvAll, Bool.and_true]; rfl
theorem shaped_tup2 {a b : Int} : SeqAt.shaped (.tuple [.int a, .int b]) = true := rfl
theorem o_eqT2 {a b c d : Int} : (fEq (.d (.tuple [.int a, .int b])) (.d (.tuple [.int c, .int d])) g).wp Qd = Qd (.d (.bool (decide (a = c) && decide (b = d)))) g := by
  rw [o_eqG, eqv_tup2]; simp only [shaped_tup2, and_self, true_and]
theorem o_neT2 {a b c d : Int} : (fNe (.d (.tuple [.int a, .int b])) (.d (.tuple [.int c, .int d])) g).wp Qd = Qd (.d (.bool (!(decide (a = c) && decide (b = d))))) g := by
  rw [o_neG, eqv_tup2]; simp only [shaped_tup2, and_self, true_and]
theorem o_tupleL {xs : List P} : (fTuple [.d (.list xs)] g).wp Qd = Qd (.d (.tuple xs)) g := by show (R.ok _ g).wp _ = _; rw [R.wp_ok]
theorem o_tupleB {xs : List P} : (fTuple [.bor (.list xs)] g).wp Qd = Qd (.d (.tuple xs)) g := by show (R.ok _ g).wp _ = _; rw [R.wp_ok]
theorem o_tupleT {xs : List P} : (fTuple [.d (.tuple xs)] g).wp Qd = Qd (.d (.tuple xs)) g := by show (R.ok _ g).wp _ = _; rw [R.wp_ok]
theorem ints_map : ∀ {ns : List Int}, intsOf (ns.map PyData.int) = some ns
  | [] => rfl
  | n :: ns => by rw [List.map_cons, Sim.ints_cons, ints_map]; rfl
theorem o_sumL {ns : List Int} : (fSum [.d (.list (ns.map PyData.int))] g).wp Qd = Qd (.d (.int ns.sum)) g := by
  show (match intsOf (ns.map PyData.int) with | some ns => R.ok (D.d (.int ns.sum)) g | none => .stuck).wp Qd = _
  rw [ints_map]; exact R.wp_ok
theorem o_sumT {ns : List Int} : (fSum [.d (.tuple (ns.map PyData.int))] g).wp Qd = Qd (.d (.int ns.sum)) g := by
  show (match intsOf (ns.map PyData.int) with | some ns => R.ok (D.d (.int ns.sum)) g | none => .stuck).wp Qd = _
  rw [ints_map]; exact R.wp_ok
theorem o_addT {xs ys : List P} : (fAdd (.d (.tuple xs)) (.d (.tuple ys)) g).wp Qd = (xs.length + ys.length ≤ sizeLine ∧ Qd (.d (.tuple (xs ++ ys))) g) := by
  show (if xs.length + ys.length ≤ sizeLine then R.ok (D.d (.tuple (xs ++ ys))) g else .stuck).wp Qd = _
  by_cases h : xs.length + ys.length ≤ sizeLine
  · rw [if_pos h, R.wp_ok]; simp only [h, true_and]
  · rw [if_neg h, R.wp_stuck]; simp only [h, false_and]
theorem o_addL {xs ys : List P} : (fAdd (.d (.list xs)) (.d (.list ys)) g).wp Qd = (xs.length + ys.length ≤ sizeLine ∧ Qd (.d (.list (xs ++ ys))) g) := by
  show (if xs.length + ys.length ≤ sizeLine then R.ok (D.d (.list (xs ++ ys))) g else .stuck).wp Qd = _
  by_cases h : xs.length + ys.length ≤ sizeLine
  · rw [if_pos h, R.wp_ok]; simp only [h, true_and]
  · rw [if_neg h, R.wp_stuck]; simp only [h, false_and]
theorem ext_d {ps qs : List P} : extP ps (.d (.list qs)) = if ps.length + qs.length ≤ sizeLine then some (ps ++ qs) else none := rfl
theorem app_d {ps : List P} {p : P} : appP ps (.d p) = if ps.length < sizeLine then some (ps ++ [p]) else none := rfl
/-! a comprehension whose items are plain functions -/
theorem w_compM {α : Type} {tg : Ptv} {elt : Ev} {ds : List D} {R : List P → G → Prop} {l : List α} {to : α → D} {F : α → P} (hds : ds = l.map to)
    (step : ∀ a ∈ l, (to a).isB = false ∧ ∃ e1, tg (to a) env = some e1 ∧ (elt e1 g).wp fun y g' => y = .d (F a) ∧ g' = g) (h : R (l.map F) g) : (compL tg tvYes elt env ds g).wp R := by
  subst hds
  refine w_compL (fun j ps g' => g' = g ∧ ps = (l.take j).map F) ⟨rfl, rfl⟩ ?_ ?_
  · rintro j ps g' d hd ⟨rfl, rfl⟩
    rw [List.getElem?_map] at hd
    cases ha : l[j]? with
    | none => rw [ha] at hd; cases hd
    | some a =>
      rw [ha] at hd; cases hd
      obtain ⟨h1, e1, h2, h3⟩ := step a (List.mem_of_getElem? ha)
      refine ⟨h1, e1, h2, ?_⟩
      show (Sim.R.ok true g').wp _
      rw [Sim.R.wp_ok]
      refine .yes rfl (Sim.R.wp_mono h3 fun y g2 hy => ?_)
      obtain ⟨rfl, rfl⟩ := hy
      refine ⟨_, rfl, rfl, ?_⟩
      rw [List.take_succ, ha]
      simp
  · rintro r g' ⟨rfl, rfl⟩
    rw [List.length_map, List.take_length]
    exact h
theorem bls_mapB {α : Type} {f : α → Bool} : ∀ {l : List α}, blsOf (l.map fun a => PyData.bool (f a)) = some (l.map f)
  | [] => rfl
  | a :: l => by
    rw [List.map_cons, Sim.bls_cons, bls_mapB]; rfl
theorem all_mapT {α : Type} {l : List α} : (l.map fun _ => true).all id = true := by
  induction l with
  | nil => rfl
  | cons a l ih => rw [List.map_cons, List.all_cons, ih]; rfl
theorem ints0_map {lo : Int} {n : Nat} : ints0 lo n = (List.range n).map fun i => D.d (.int (lo + (i : Nat))) := rfl
end
end Sim
set_option maxRecDepth 512
set_option Elab.async false
set_option linter.all false
set_option maxHeartbeats 4000000
namespace Sim
open PySem PySem.Spec PyProof.Rows L2
section
variable {α β : Type} {Q : α → G → Prop} {Qd : D → G → Prop} {Qn : En → G → Prop} {Qr : D → G → Prop} {env : En} {g : G} {i j k : Int}
theorem w_chain3 {f1 f2 f3 : D → D → M D} {a b c d : Ev} : (eChain3 f1 f2 f3 a b c d env g).wp Qd = (a env g).wp fun x g1 => (b env g1).wp fun y g2 => (f1 x y g2).wp fun z g3 => (match z with
    | .d (.bool t) => cnd t ((c env g3).wp fun w g4 => (f2 y w g4).wp fun z' g5 => (match z' with
      | .d (.bool t') => cnd t' ((d env g5).wp fun w' g6 => (f3 w w' g6).wp Qd) (Qd (.d (.bool false)) g5) .mk
      | _ => False)) (Qd (.d (.bool false)) g3) .mk
    | _ => False) := by
  unfold eChain3
  rw [R.wp_bind]; congr 1; funext x g1
  rw [R.wp_bind]; congr 1; funext y g2
  rw [R.wp_bind]; congr 1; funext z g3
  cases z with
  | d p =>
    cases p with
    | bool t =>
      cases t with
      | false => dsimp only; rw [cnd_false, R.wp_ok]
      | true =>
        dsimp only; rw [cnd_true, R.wp_bind]; congr 1; funext w g4
        rw [R.wp_bind]; congr 1; funext z g5
        cases z with
        | d p =>
          cases p with
          | bool t =>
            cases t with
            | false => dsimp only; rw [cnd_false, R.wp_ok]
            | true => dsimp only; rw [cnd_true, R.wp_bind]
          | _ => exact R.wp_stuck
        | _ => exact R.wp_stuck
    | _ => exact R.wp_stuck
  | _ => exact R.wp_stuck
theorem w_zip2 {b : Bool} {m m' : Ev} {Q : List D → G → Prop} : (iZip2 b m m' env g).wp Q = (m env g).wp fun d g1 => (m' env g1).wp fun d' g2 => (match seqOf b d, seqOf b d' with | some xs, some ys => Q (zipD xs ys) g2 | _, _ => False) := by
  unfold iZip2
  rw [R.wp_bind]; congr 1; funext x g1
  rw [R.wp_bind]; congr 1; funext y g2
  cases seqOf b x with
  | none => exact R.wp_stuck
  | some xs =>
    cases seqOf b y with
    | none => exact R.wp_stuck
    | some ys => exact R.wp_ok
theorem w_enum1 {b : Bool} {m : Ev} {Q : List D → G → Prop} : (iEnum1 b m env g).wp Q = (m env g).wp fun d g1 => (match seqOf b d with | some xs => Q (enumD xs) g1 | _ => False) := by
  unfold iEnum1
  rw [R.wp_bind]; congr 1; funext x g1
  cases seqOf b x with
  | none => exact R.wp_stuck
  | some xs => exact R.wp_ok
theorem seqOf_l {b : Bool} {xs : List P} : seqOf b (.d (.list xs)) = some xs := rfl
theorem seqOf_t {b : Bool} {xs : List P} : seqOf b (.d (.tuple xs)) = some xs := rfl
theorem seqOf_b {xs : List P} : seqOf false (.bor (.list xs)) = some xs := rfl
theorem zipD_len {xs ys : List P} : (zipD xs ys).length = min xs.length ys.length := by unfold zipD; simp
theorem enumD_len {xs : List P} : (enumD xs).length = xs.length := by unfold enumD; simp
theorem zipD_cons {x y : P} {xs ys : List P} : zipD (x :: xs) (y :: ys) = .d (.tuple [x, y]) :: zipD xs ys := rfl
theorem zipD_nil {ys : List P} : zipD [] ys = [] := by unfold zipD; simp
theorem zipD_nil2 {ys : List P} : zipD ys [] = [] := by unfold zipD; simp
theorem zipD_map {α β : Type} {f : α → P} {h : β → P} : ∀ {l : List α} {m : List β}, zipD (l.map f) (m.map h) = (l.zip m).map fun a => D.d (.tuple [f a.1, h a.2])
  | [], _ => by simp [zipD]
  | _ :: _, [] => by simp [zipD]
  | a :: l, b :: m => by
    rw [List.map_cons, List.map_cons, zipD_cons, zipD_map, List.zip_cons_cons, List.map_cons]
theorem enumD_map {α : Type} {f : α → P} {l : List α} : enumD (l.map f) = l.zipIdx.map fun a => D.d (.tuple [.int (a.2 : Nat), f a.1]) := by
  unfold enumD
  rw [List.zipIdx_map, List.map_map]; rfl
theorem w_parSO {n m : Nat} {a b : Ev} : (sParSO n m a b env g).wp Qn Qr = (a env g).wp fun x g1 => (x.isB = false ∧ (b env g1).wp fun d g2 => (match d with | .d p => Qn ((env.set n (.sh x)).set m (.own p)) g2 | _ => False)) := by
  unfold sParSO
  rw [R.wp_bindS]; congr 1; funext x g1
  cases hb : x.isB with
  | true => simp only [if_true, RS.wp_stuck, Bool.true_eq_false, false_and]
  | false =>
    simp only [Bool.false_eq_true, if_false, true_and]
    rw [R.wp_bindS]; congr 1; funext d g2
    cases d with
    | d p => exact RS.wp_next
    | _ => exact RS.wp_stuck
theorem o_inT {neg : Bool} {px : P} {xs : List P} : (fIn neg (.d px) (.d (.tuple xs)) g).wp Qd = ((pFlat px = true ∧ xs.all pFlat = true) ∧ Qd (.d (.bool (fInB neg (xs.any fun z => PyData.eqv z px)))) g) := by
  show (if pFlat px = true ∧ xs.all pFlat = true then R.ok (D.d (.bool (fInB neg (xs.any fun z => PyData.eqv z px)))) g else .stuck).wp Qd = _
  by_cases h : pFlat px = true ∧ xs.all pFlat = true
  · rw [if_pos h, R.wp_ok]; simp only [h, and_self, true_and]
  · rw [if_neg h, R.wp_stuck]; simp only [h, false_and]
theorem o_inL {neg : Bool} {px : P} {xs : List P} : (fIn neg (.d px) (.d (.list xs)) g).wp Qd = ((SeqAt.shaped px = true ∧ SeqAt.shaped (.list xs) = true) ∧ Qd (.d (.bool (fInB neg (xs.any fun z => PyData.eqv z px)))) g) := by
  show (if SeqAt.shaped px = true ∧ SeqAt.shaped (.list xs) = true then R.ok (D.d (.bool (fInB neg (xs.any fun z => PyData.eqv z px)))) g else .stuck).wp Qd = _
  by_cases h : SeqAt.shaped px = true ∧ SeqAt.shaped (.list xs) = true
  · rw [if_pos h, R.wp_ok]; simp only [h, and_self, true_and]
  · rw [if_neg h, R.wp_stuck]; simp only [h, false_and]
theorem o_inB {neg : Bool} {px : P} {xs : List P} : (fIn neg (.d px) (.bor (.list xs)) g).wp Qd = ((SeqAt.shaped px = true ∧ SeqAt.shaped (.list xs) = true) ∧ Qd (.d (.bool (fInB neg (xs.any fun z => PyData.eqv z px)))) g) := by
  show (if SeqAt.shaped px = true ∧ SeqAt.shaped (.list xs) = true then R.ok (D.d (.bool (fInB neg (xs.any fun z => PyData.eqv z px)))) g else .stuck).wp Qd = _
  by_cases h : SeqAt.shaped px = true ∧ SeqAt.shaped (.list xs) = true
  · rw [if_pos h, R.wp_ok]; simp only [h, and_self, true_and]
  · rw [if_neg h, R.wp_stuck]; simp only [h, false_and]
theorem fInB_f {b : Bool} : fInB false b = b := rfl
theorem fInB_t {b : Bool} : fInB true b = !b := rfl
theorem flat_int {i : Int} : pFlat (.int i) = true := rfl
theorem flat_str {s : Str} : pFlat (.str s) = true := rfl
theorem flat_bool {b : Bool} : pFlat (.bool b) = true := rfl
theorem flat_none : pFlat .none = true := rfl
theorem o_repL {xs : List P} : (fRepL (.d (.list xs)) (.d (.int k)) g).wp Qd = ((0 ≤ k ∧ k < 2 ^ 20 ∧ xs.length ≤ 10) ∧ Qd (.d (.list (List.replicate k.toNat xs).flatten)) g) := by
  show (if 0 ≤ k ∧ k < 2 ^ 20 ∧ xs.length ≤ 10 then R.ok (D.d (.list (List.replicate k.toNat xs).flatten)) g else .stuck).wp Qd = _
  by_cases h : 0 ≤ k ∧ k < 2 ^ 20 ∧ xs.length ≤ 10
  · rw [if_pos h, R.wp_ok]; simp only [h, and_self, true_and]
  · rw [if_neg h, R.wp_stuck]; simp only [h, false_and]
theorem o_mulL {xs : List P} : (fMulA (.d (.list xs)) (.d (.int k)) g).wp Qd = ((0 ≤ k ∧ k < 2 ^ 20 ∧ xs.length ≤ 10) ∧ Qd (.d (.list (List.replicate k.toNat xs).flatten)) g) := by
  show (if 0 ≤ k ∧ k < 2 ^ 20 ∧ xs.length ≤ 10 then R.ok (D.d (.list (List.replicate k.toNat xs).flatten)) g else .stuck).wp Qd = _
  by_cases h : 0 ≤ k ∧ k < 2 ^ 20 ∧ xs.length ≤ 10
  · rw [if_pos h, R.wp_ok]; simp only [h, and_self, true_and]
  · rw [if_neg h, R.wp_stuck]; simp only [h, false_and]
theorem rep_one {n : Nat} {x : P} : (List.replicate n [x]).flatten = List.replicate n x := by
  induction n with
  | zero => rfl
  | succ n ih => rw [List.replicate_succ, List.flatten_cons, ih]; rfl
theorem o_catL {xs ys : List P} : (fCatL (.d (.list xs)) (.d (.list ys)) g).wp Qd = (xs.length + ys.length ≤ sizeLine ∧ Qd (.d (.list (xs ++ ys))) g) := by
  show (if xs.length + ys.length ≤ sizeLine then R.ok (D.d (.list (xs ++ ys))) g else .stuck).wp Qd = _
  by_cases h : xs.length + ys.length ≤ sizeLine
  · rw [if_pos h, R.wp_ok]; simp only [h, true_and]
  · rw [if_neg h, R.wp_stuck]; simp only [h, false_and]
theorem o_catBL {xs ys : List P} : (fCatL (.bor (.list xs)) (.d (.list ys)) g).wp Qd = (xs.length + ys.length ≤ sizeLine ∧ Qd (.d (.list (xs ++ ys))) g) := by
  show (if xs.length + ys.length ≤ sizeLine then R.ok (D.d (.list (xs ++ ys))) g else .stuck).wp Qd = _
  by_cases h : xs.length + ys.length ≤ sizeLine
  · rw [if_pos h, R.wp_ok]; simp only [h, true_and]
  · rw [if_neg h, R.wp_stuck]; simp only [h, false_and]
theorem o_catLB {xs ys : List P} : (fCatL (.d (.list xs)) (.bor (.list ys)) g).wp Qd = (xs.length + ys.length ≤ sizeLine ∧ Qd (.d (.list (xs ++ ys))) g) := by
  show (if xs.length + ys.length ≤ sizeLine then R.ok (D.d (.list (xs ++ ys))) g else .stuck).wp Qd = _
  by_cases h : xs.length + ys.length ≤ sizeLine
  · rw [if_pos h, R.wp_ok]; simp only [h, true_and]
  · rw [if_neg h, R.wp_stuck]; simp only [h, false_and]
theorem o_listFL {xs : List P} : (fListF [.d (.list xs)] g).wp Qd = Qd (.d (.list xs)) g := by show (R.ok _ g).wp _ = _; rw [R.wp_ok]
theorem o_listFB {xs : List P} : (fListF [.bor (.list xs)] g).wp Qd = Qd (.d (.list xs)) g := by show (R.ok _ g).wp _ = _; rw [R.wp_ok]
theorem o_listFT {xs : List P} : (fListF [.d (.tuple xs)] g).wp Qd = Qd (.d (.list xs)) g := by show (R.ok _ g).wp _ = _; rw [R.wp_ok]
theorem o_eqNil {a : P} {l : List P} : (fEq (.d (.tuple (a :: l))) (.d (.tuple [])) g).wp Qd = (SeqAt.shaped (.tuple (a :: l)) = true ∧ Qd (.d (.bool false)) g) := by
  rw [o_eqG]
  have : SeqAt.shaped (.tuple []) = true := rfl
  simp only [this, and_true]
  rfl
theorem o_reprB {p : P} : (fRepr [.bor p] g).wp Qd = (reprOk p = true ∧ Qd (.d (.str p.shown)) g) := by
  show (if reprOk p = true then R.ok (D.d (.str p.shown)) g else .stuck).wp Qd = _
  by_cases h : reprOk p = true
  · rw [if_pos h, R.wp_ok]; simp only [h, true_and]
  · rw [if_neg h, R.wp_stuck]; simp only [h, false_and]; simp
theorem atI_m1 {γ : Type} {a b : γ} : atI [a, b] (-1) = some b := rfl
theorem atI_m1c {γ : Type} {a b c : γ} : atI [a, b, c] (-1) = some c := rfl
theorem w_compFM {α : Type} {tg : Ptv} {tt : Tv} {elt : Ev} {ds : List D} {R : List P → G → Prop} {l : List α} {to : α → D} {F : α → P} {f : α → Bool} (hds : ds = l.map to)
    (step : ∀ a ∈ l, (to a).isB = false ∧ ∃ e1, tg (to a) env = some e1 ∧ (tt e1 g).wp fun t g1 => g1 = g ∧ t = f a ∧ (f a = true → (elt e1 g).wp fun y g' => y = .d (F a) ∧ g' = g)) (h : R ((l.filter f).map F) g) : (compL tg tt elt env ds g).wp R := by
  subst hds
  refine w_compL (fun j ps g' => g' = g ∧ ps = ((l.take j).filter f).map F) ⟨rfl, rfl⟩ ?_ ?_
  · rintro j ps g' d hd ⟨rfl, rfl⟩
    rw [List.getElem?_map] at hd
    cases ha : l[j]? with
    | none => rw [ha] at hd; cases hd
    | some a =>
      rw [ha] at hd; cases hd
      obtain ⟨h1, e1, h2, h3⟩ := step a (List.mem_of_getElem? ha)
      refine ⟨h1, e1, h2, Sim.R.wp_mono h3 fun t g1 ht => ?_⟩
      obtain ⟨rfl, rfl, h4⟩ := ht
      have e : (l.take (j + 1)).filter f = (l.take j).filter f ++ [a].filter f := by
        rw [List.take_succ, ha, List.filter_append]; rfl
      cases hf : f a with
      | true =>
        refine .yes rfl (Sim.R.wp_mono (h4 hf) fun y g2 hy => ?_)
        obtain ⟨rfl, rfl⟩ := hy
        refine ⟨_, rfl, rfl, ?_⟩
        rw [e, List.filter_cons, hf]
        simp
      | false =>
        refine .no rfl ⟨rfl, ?_⟩
        rw [e, List.filter_cons, hf]
        simp
  · rintro r g' ⟨rfl, rfl⟩
    rw [List.length_map, List.take_length]
    exact h
theorem cut_take {xs : List P} {n : Nat} : cutP xs none (some (n : Int)) = xs.take n := by
  unfold cutP
  rw [HT.sIx_none, HT.sIx_nat, Nat.sub_zero, List.drop_zero]
  rcases Nat.le_total n xs.length with h | h
  · rw [Nat.min_eq_left h]
  · rw [Nat.min_eq_right h, List.take_length, List.take_of_length_le h]
theorem cut_drop {xs : List P} {n : Nat} : cutP xs (some (n : Int)) none = xs.drop n := by
  unfold cutP
  rw [HT.sIx_nat]
  show (xs.drop (min n xs.length)).take (xs.length - min n xs.length) = _
  rw [List.take_of_length_le (by rw [List.length_drop]; omega)]
  rcases Nat.le_total n xs.length with h | h
  · rw [Nat.min_eq_left h]
  · rw [Nat.min_eq_right h, List.drop_length, List.drop_of_length_le h]
theorem o_neBG {x y : P} : (fNe (.bor x) (.d y) g).wp Qd = ((SeqAt.shaped x = true ∧ SeqAt.shaped y = true) ∧ Qd (.d (.bool (!PyData.eqv x y))) g) := by
  show (if SeqAt.shaped x = true ∧ SeqAt.shaped y = true then R.ok (D.d (.bool (!PyData.eqv x y))) g else .stuck).wp Qd = _
  by_cases h : SeqAt.shaped x = true ∧ SeqAt.shaped y = true
  · rw [if_pos h, R.wp_ok]; simp only [h, and_self, true_and]
  · rw [if_neg h, R.wp_stuck]; simp only [h, false_and]
theorem o_eqBG {x y : P} : (fEq (.bor x) (.d y) g).wp Qd = ((SeqAt.shaped x = true ∧ SeqAt.shaped y = true) ∧ Qd (.d (.bool (PyData.eqv x y))) g) := by
  show (if SeqAt.shaped x = true ∧ SeqAt.shaped y = true then R.ok (D.d (.bool (PyData.eqv x y))) g else .stuck).wp Qd = _
  by_cases h : SeqAt.shaped x = true ∧ SeqAt.shaped y = true
  · rw [if_pos h, R.wp_ok]; simp only [h, and_self, true_and]
  · rw [if_neg h, R.wp_stuck]; simp only [h, false_and]
theorem shaped_nilL : SeqAt.shaped (.list []) = true := rfl
theorem o_neLnn : (fNe (.d (.list [])) (.d (.list [])) g).wp Qd = Qd (.d (.bool false)) g := by
  rw [o_neG]; simp only [shaped_nilL, and_self, true_and]; rfl
theorem o_neLcn {a : P} {l : List P} : (fNe (.d (.list (a :: l))) (.d (.list [])) g).wp Qd = (SeqAt.shaped (.list (a :: l)) = true ∧ Qd (.d (.bool true)) g) := by
  rw [o_neG]; simp only [shaped_nilL, and_true]; rfl
theorem o_neBnn : (fNe (.bor (.list [])) (.d (.list [])) g).wp Qd = Qd (.d (.bool false)) g := by
  rw [o_neBG]; simp only [shaped_nilL, and_self, true_and]; rfl
theorem o_neBcn {a : P} {l : List P} : (fNe (.bor (.list (a :: l))) (.d (.list [])) g).wp Qd = (SeqAt.shaped (.list (a :: l)) = true ∧ Qd (.d (.bool true)) g) := by
  rw [o_neBG]; simp only [shaped_nilL, and_true]; rfl
/-! the bounds in figures -/
theorem c64 : (2 : Int) ^ 64 = 18446744073709551616 := by decide +kernel
theorem c62 : (2 : Int) ^ 62 = 4611686018427387904 := by decide +kernel
theorem o_mulX : (fMulA (.d (.int i)) (.d (.int j)) g).wp Qd = (((-18446744073709551616 < i ∧ i < 18446744073709551616) ∨ (-18446744073709551616 < j ∧ j < 18446744073709551616)) ∧ Qd (.d (.int (i * j))) g) := by
  rw [o_mul, c64]
theorem w_range1X {m : Ev} {Q : List D → G → Prop} : (iRange1 m env g).wp Q = (m env g).wp fun d g1 => (match d with
  | .d (.int j) => ((-4611686018427387904 ≤ j ∧ j < 4611686018427387904) ∧ Q (ints0 0 j.toNat) g1)
  | _ => False) := by
  rw [w_range1, c62] <;> rfl
theorem w_range2X {m m' : Ev} {Q : List D → G → Prop} : (iRange2 m m' env g).wp Q = (m env g).wp fun d g1 => (m' env g1).wp fun d' g2 => (match d, d' with
  | .d (.int i), .d (.int j) => ((-4611686018427387904 ≤ i ∧ i < 4611686018427387904 ∧ -4611686018427387904 ≤ j ∧ j < 4611686018427387904) ∧ Q (ints0 i (j - i).toNat) g2)
  | _, _ => False) := by
  rw [w_range2, c62] <;> rfl
theorem o_powX {i j : Int} : (fPow (.d (.int i)) (.d (.int j)) g).wp Qd = ((0 ≤ j ∧ j ≤ 1000000 ∧ i.natAbs < 18446744073709551616) ∧ Qd (.d (.int (i ^ j.toNat))) g) := by
  rw [o_pow]
theorem lk_shX {d : D} {r : En} {Q : D → Prop} : lkW (.sh d :: r) 0 Q = Q d := by
  rw [lk_eq]; rfl
theorem lk_ownX {d : P} {r : En} {Q : D → Prop} : lkW (.own d :: r) 0 Q = Q (.bor d) := by
  rw [lk_eq]; rfl
end
end Sim
set_option maxRecDepth 512
set_option Elab.async false
set_option linter.all false
set_option maxHeartbeats 4000000
namespace Sim
open PySem PySem.Spec PyProof.Rows L2
section
variable {env : En} {g : G} {Qd : D → G → Prop} {Qn : En → G → Prop} {Qr : D → G → Prop}
theorem o_isNd {p : P} : (fIs (.d p) (.d .none) g).wp Qd = Qd (.d (.bool (match p with | .none => true | _ => false))) g := by
  cases p <;> (show (R.ok _ g).wp _ = _; rw [R.wp_ok])
theorem o_notNd {p : P} : (fIsNot (.d p) (.d .none) g).wp Qd = Qd (.d (.bool (match p with | .none => false | _ => true))) g := by
  cases p <;> (show (R.ok _ g).wp _ = _; rw [R.wp_ok])
theorem o_listL {xs : List P} : (fList [.d (.list xs)] g).wp Qd = Qd (.d (.list xs)) g := by show (R.ok _ g).wp _ = _; rw [R.wp_ok]
theorem o_listB {xs : List P} : (fList [.bor (.list xs)] g).wp Qd = Qd (.d (.list xs)) g := by show (R.ok _ g).wp _ = _; rw [R.wp_ok]
theorem o_listT {xs : List P} : (fList [.d (.tuple xs)] g).wp Qd = Qd (.d (.list xs)) g := by show (R.ok _ g).wp _ = _; rw [R.wp_ok]
theorem o_revT {xs : List P} : (fRev (.d (.tuple xs)) g).wp Qd = Qd (.d (.tuple xs.reverse)) g := by show (R.ok _ g).wp _ = _; rw [R.wp_ok]
theorem o_revL {xs : List P} : (fRev (.d (.list xs)) g).wp Qd = Qd (.d (.list xs.reverse)) g := by show (R.ok _ g).wp _ = _; rw [R.wp_ok]
theorem o_revB {xs : List P} : (fRev (.bor (.list xs)) g).wp Qd = Qd (.d (.list xs.reverse)) g := by show (R.ok _ g).wp _ = _; rw [R.wp_ok]
theorem o_isBB {a b : Bool} : (fIsB (.d (.bool a)) (.d (.bool b)) g).wp Qd = Qd (.d (.bool (decide (a = b)))) g := by show (R.ok _ g).wp _ = _; rw [R.wp_ok]
theorem o_notBB {a b : Bool} : (fNotB (.d (.bool a)) (.d (.bool b)) g).wp Qd = Qd (.d (.bool (!decide (a = b)))) g := by show (R.ok _ g).wp _ = _; rw [R.wp_ok]
theorem callD_b {f : List D → M D} {ds : List D} (hb : ds.any D.isB = true) (hc : ds.any D.isC = false) : callD f ds g = (match f (ds.map D.unb) [] with
    | .ok d _ => if d.flat then .ok d g else .stuck
    | _ => .stuck) := by
  unfold callD
  rw [if_pos hb, if_neg (by rw [hc]; decide)] <;> (cases f (ds.map D.unb) [] <;> rfl)
/-- a call that an own list is lent to -/
theorem w_callB {f : List D → M D} {ds ds' : List D} (hb : ds.any D.isB = true) (hc : ds.any D.isC = false) (hd : ds.map D.unb = ds') (h : (f ds' []).wp fun d _ => d.flat = true ∧ Qd d g) : (callD f ds g).wp (stop Qd .mk) := by
  subst hd
  rw [callD_b hb hc]
  obtain ⟨d, g', e, h1, h2⟩ := R.of_wp h
  rw [e]
  dsimp only
  rw [if_pos h1, R.wp_ok, stop_ap]
  exact h2
theorem o_lenC {n : Nat} : (fLenC [.cell n] g).wp Qd = (match g[n]? with | some xs => Qd (.d (.int xs.length)) g | none => False) := by
  show (match g[n]? with | some xs => R.ok (D.d (.int xs.length)) g | none => .stuck).wp Qd = _
  cases g[n]? with
  | none => show R.stuck.wp Qd = _; rw [R.wp_stuck]
  | some xs => show (R.ok _ g).wp Qd = _; rw [R.wp_ok]
theorem w_cell1 {f : List P → D → Option (List P)} {i n : Nat} {m : Evs} (h : env[i]? = some (.sh (.cell n))) : (sCell1 f i m env g).wp Qn Qr = (m env g).wp fun ds g1 => (match ds, g1[n]? with
    | [d], some ps => (match f ps d with | some qs => Qn env (g1.set n qs) | none => False)
    | _, _ => False) := by
  unfold sCell1
  rw [h]
  dsimp only
  rw [R.wp_bindS]
  congr 1; funext ds g1
  match ds with
  | [] => show RS.stuck.wp _ _ = _; rw [RS.wp_stuck]
  | [d] =>
    cases g1[n]? with
    | none => show RS.stuck.wp _ _ = _; rw [RS.wp_stuck]
    | some ps =>
      dsimp only
      cases f ps d with
      | none => show RS.stuck.wp _ _ = _; rw [RS.wp_stuck]
      | some qs => show (RS.next _ _).wp _ _ = _; rw [RS.wp_next]
  | _ :: _ :: _ => show RS.stuck.wp _ _ = _; rw [RS.wp_stuck]
theorem w_forC {m : Ev} {tg : Ptv} {b : Sv} {Q : D → G → Prop} : (sForC m tg b env g).wp Qn Qr = (m env g).wp fun d g1 => (match d with | .cell n => (forC n tg b FUEL 0 env g1).wp Qn Qr | _ => False) := by
  unfold sForC
  rw [R.wp_bindS, R.wp_bind]
  congr 1; funext d g1
  cases d with
  | cell n => show (R.ok _ g1).wp _ = _; rw [R.wp_ok]
  | _ => show R.stuck.wp _ = _; rw [R.wp_stuck]
theorem w_forCL {n : Nat} {tg : Ptv} {b : Sv} {xs : List P} (Inv : Nat → En → G → Prop) (h0 : Inv 0 env g) (hg : ∀ i e g, Inv i e g → g[n]? = some xs)
    (step : ∀ i e g p, xs[i]? = some p → Inv i e g → ∃ e1, tg (.d p) e = some e1 ∧ (b e1 g).wp (fun e' g2 => Inv (i + 1) e' g2) Qr)
    (hf : ∀ e g, Inv xs.length e g → Qn e g) (hl : xs.length < FUEL) : (forC n tg b FUEL 0 env g).wp Qn Qr := by
  have key : ∀ (k i : Nat), i + k > xs.length → i ≤ xs.length → ∀ env g, Inv i env g → (forC n tg b k i env g).wp Qn Qr := by
    intro k
    induction k with
    | zero => intro i h1 h2; omega
    | succ k ih =>
      intro i h1 h2 env g hi
      unfold forC
      rw [hg i env g hi]
      dsimp only
      cases hx : xs[i]? with
      | none =>
        have : xs.length ≤ i := List.getElem?_eq_none_iff.mp hx
        have : i = xs.length := by omega
        subst this
        dsimp only
        rw [if_pos rfl, RS.wp_next]
        exact hf _ _ hi
      | some p =>
        dsimp only
        obtain ⟨e1, h3, h4⟩ := step i env g p hx hi
        rw [h3]
        dsimp only
        rw [RS.wp_seq]
        have : i < xs.length := (List.getElem?_eq_some_iff.mp hx).1
        exact RS.wp_mono h4 (fun e' g' h => ih (i + 1) (by omega) (by omega) e' g' h) (fun _ _ h => h)
  exact key FUEL 0 (by omega) (Nat.zero_le _) env g h0
end
/-! two ways join again -/
theorem cnd_joinP {α : Type} {b : Bool} {r1 r2 : R α} {Q P : α → G → Prop} {x : Tg2 (r1.wp Q) (r2.wp Q)} (h1 : b = true → r1.wp P) (h2 : b = false → r2.wp P) (h : ∀ d g, P d g → Q d g) : cnd b (r1.wp Q) (r2.wp Q) x :=
  cnd_i (fun e => R.wp_mono (h1 e) h) fun e => R.wp_mono (h2 e) h
theorem cnd_join {α : Type} {b : Bool} {r1 r2 : R α} {Q : α → G → Prop} {x : Tg2 (r1.wp Q) (r2.wp Q)} (d : α) (g : G) (h1 : b = true → r1.wp fun d' g' => d' = d ∧ g' = g) (h2 : b = false → r2.wp fun d' g' => d' = d ∧ g' = g) (h : Q d g) : cnd b (r1.wp Q) (r2.wp Q) x :=
  cnd_joinP h1 h2 fun _ _ q => by obtain ⟨rfl, rfl⟩ := q; exact h
theorem cnd_joinS {b : Bool} {r1 r2 : RS} {Qn Pn : En → G → Prop} {Qr : D → G → Prop} {x : Tg2 (r1.wp Qn Qr) (r2.wp Qn Qr)} (h1 : b = true → r1.wp Pn Qr) (h2 : b = false → r2.wp Pn Qr) (h : ∀ e g, Pn e g → Qn e g) : cnd b (r1.wp Qn Qr) (r2.wp Qn Qr) x :=
  cnd_i (fun e => RS.wp_mono (h1 e) h fun _ _ q => q) fun e => RS.wp_mono (h2 e) h fun _ _ q => q
end Sim
set_option maxRecDepth 512
set_option Elab.async false
set_option linter.all false
set_option maxHeartbeats 4000000
namespace Sim
open PySem PySem.Spec PyProof.Rows L2
section
variable {Qd : D → G → Prop} {Qn : En → G → Prop} {Qr : D → G → Prop} {env : En} {g : G} {kvs : List (P × P)} {i : Int} {x : Str}
theorem o_inD {neg : Bool} {d e : D} : (fInD neg d e g).wp Qd = (match d.key, e.dic with | some k, some kvs => Qd (.d (.bool (fInB neg (getKP kvs k).isSome))) g | _, _ => False) := by
  unfold fInD
  cases d.key with
  | none => exact R.wp_stuck
  | some k =>
    cases e.dic with
    | none => exact R.wp_stuck
    | some kvs => dsimp only; rw [R.wp_ok]; cases neg <;> rfl
theorem o_ixD {d e : D} : (fIxD d e g).wp Qd = (match d.dic, e.key with | some kvs, some k => (match getKP kvs k with | some p => Qd (.d p) g | none => False) | _, _ => False) := by
  unfold fIxD
  cases d.dic with
  | none => exact R.wp_stuck
  | some kvs =>
    cases e.key with
    | none => exact R.wp_stuck
    | some k =>
      dsimp only
      cases getKP kvs k with
      | none => exact R.wp_stuck
      | some p => exact R.wp_ok
theorem w_get2 {a b c : Ev} : (eGet2 a b c env g).wp Qd = (a env g).wp fun x g1 => (match x.dic with
  | some kvs => (b env g1).wp fun y g2 => (c env g2).wp fun z g3 => (match y.key, z with
    | some k, .d q => Qd (.d ((getKP kvs k).getD q)) g3
    | _, _ => False)
  | none => False) := by
  unfold eGet2
  rw [R.wp_bind]; congr 1; funext x g1
  cases x.dic with
  | none => exact R.wp_stuck
  | some kvs =>
    dsimp only
    rw [R.wp_bind]; congr 1; funext y g2
    rw [R.wp_bind]; congr 1; funext z g3
    cases y.key with
    | none => exact R.wp_stuck
    | some k =>
      cases z with
      | d q => exact R.wp_ok
      | _ => exact R.wp_stuck
theorem w_dict0 : (eDict0 env g).wp Qd = Qd (.d (.dict [])) g := by show (R.ok _ g).wp _ = _; rw [R.wp_ok]
theorem w_putD {n : Nat} {mk mv : Ev} : (sPutD n mk mv env g).wp Qn Qr = (mv env g).wp fun v g1 => (match env[n]? with
  | some (.own (.dict kvs)) => (mk env g1).wp fun y g2 => (match y.key, v with
    | some k, .d p => (kvs.length < sizeLine ∧ Qn (env.set n (.own (.dict (putKP kvs k p)))) g2)
    | _, _ => False)
  | _ => False) := by
  unfold sPutD
  rw [R.wp_bindS]; congr 1; funext v g1
  cases env[n]? with
  | none => exact RS.wp_stuck
  | some sl =>
    cases sl with
    | own p =>
      cases p with
      | dict kvs =>
        dsimp only
        rw [R.wp_bindS]; congr 1; funext y g2
        cases y.key with
        | none => exact RS.wp_stuck
        | some k =>
          cases v with
          | d p =>
            dsimp only
            split
            · rw [RS.wp_next]; simp only [*, true_and]
            · rw [RS.wp_stuck]; simp only [*, false_and]
          | _ => exact RS.wp_stuck
      | _ => exact RS.wp_stuck
    | _ => exact RS.wp_stuck
theorem w_comp2 {m : Iv} {tg : Ptv} {tt : Tv} {m1 : Iv} {tg1 : Ptv} {tt1 : Tv} {elt : Ev} {vs vs1 : List Nat} : (eComp2 m tg tt m1 tg1 tt1 elt vs vs1 env g).wp Qd = (m env g).wp fun ds g1 => (compL2 tg tt m1 tg1 tt1 elt vs1 (wipeE env vs) ds g1).wp fun r g2 => (r.length ≤ sizeLine ∧ Qd (.d (.list r)) g2) := by
  unfold eComp2
  rw [R.wp_bind]; congr 1; funext ds g1
  rw [R.wp_bind]; congr 1; funext r g2
  split
  · rw [R.wp_ok]; simp only [*, true_and]
  · rw [R.wp_stuck]; simp only [*, false_and]
theorem w_isi2 {f f' : D → Bool} {a : Ev} : (eIsi2 f f' a env g).wp Qd = (a env g).wp fun x g1 => (x.noC = true ∧ Qd (.d (.bool (f x || f' x))) g1) := by
  unfold eIsi2; rw [w_un]; congr 1; funext x g1
  cases h : x.noC with
  | true => rw [if_pos rfl, R.wp_ok]; simp only [true_and]
  | false => rw [if_neg (by decide), R.wp_stuck]; simp only [Bool.false_eq_true, false_and]
theorem w_parOO {n m : Nat} {a b : Ev} : (sParOO n m a b env g).wp Qn Qr = (a env g).wp fun x g1 => (match x with
  | .d p => (b env g1).wp fun y g2 => (match y with | .d p2 => Qn ((env.set n (.own p)).set m (.own p2)) g2 | _ => False)
  | _ => False) := by
  unfold sParOO
  rw [R.wp_bindS]; congr 1; funext x g1
  cases x with
  | d p =>
    dsimp only
    rw [R.wp_bindS]; congr 1; funext y g2
    cases y with
    | d p2 => exact RS.wp_next
    | _ => exact RS.wp_stuck
  | _ => exact RS.wp_stuck
theorem w_parOS {n m : Nat} {a b : Ev} : (sParOS n m a b env g).wp Qn Qr = (a env g).wp fun x g1 => (match x with
  | .d p => (b env g1).wp fun y g2 => (y.isB = false ∧ Qn ((env.set n (.own p)).set m (.sh y)) g2)
  | _ => False) := by
  unfold sParOS
  rw [R.wp_bindS]; congr 1; funext x g1
  cases x with
  | d p =>
    dsimp only
    rw [R.wp_bindS]; congr 1; funext y g2
    cases h : y.isB with
    | true => rw [if_pos rfl, RS.wp_stuck]; simp only [Bool.true_eq_false, false_and]
    | false => rw [if_neg (by decide), RS.wp_next]; simp only [true_and]
  | _ => exact RS.wp_stuck
theorem w_pop {n : Nat} {pf : List P → Option (P × List P)} {m : Tgv} : (sPop n pf m env g).wp Qn Qr = (match env[n]? with
  | some (.own (.list ps)) => (match pf ps with
    | some (p, qs) => (m (.d p) (env.set n (.own (.list qs))) g).wp Qn Qr
    | none => False)
  | _ => False) := by
  unfold sPop
  cases env[n]? with
  | none => exact RS.wp_stuck
  | some sl =>
    cases sl with
    | own p =>
      cases p with
      | list ps =>
        dsimp only
        cases pf ps with
        | none => exact RS.wp_stuck
        | some a => rfl
      | _ => exact RS.wp_stuck
    | _ => exact RS.wp_stuck
theorem w_lrange {a : Ev} : (eLRange a env g).wp Qd = (a env g).wp fun d g1 => (match d with
  | .d (.int j) => ((-1000 ≤ j ∧ j ≤ 1000) ∧ Qd (.d (.list ((List.range j.toNat).map fun i => .int (i : Nat)))) g1)
  | _ => False) := by
  unfold eLRange
  rw [R.wp_bind]; congr 1; funext d g1
  cases d with
  | d p =>
    cases p with
    | int j =>
      dsimp only
      split
      · rw [R.wp_ok]; simp only [*, and_self, true_and]
      · rw [R.wp_stuck]; simp only [*, false_and]
    | _ => exact R.wp_stuck
  | _ => exact R.wp_stuck
theorem w_zip3 {b : Bool} {m m' m'' : Ev} {Q : List D → G → Prop} : (iZip3 b m m' m'' env g).wp Q = (m env g).wp fun d g1 => (m' env g1).wp fun d' g2 => (m'' env g2).wp fun d'' g3 => (match seqOf b d, seqOf b d', seqOf b d'' with | some xs, some ys, some zs => Q ((zip3P xs ys zs).map D.d) g3 | _, _, _ => False) := by
  unfold iZip3
  rw [R.wp_bind]; congr 1; funext x g1
  rw [R.wp_bind]; congr 1; funext y g2
  rw [R.wp_bind]; congr 1; funext z g3
  cases seqOf b x with
  | none => exact R.wp_stuck
  | some xs =>
    cases seqOf b y with
    | none => exact R.wp_stuck
    | some ys =>
      cases seqOf b z with
      | none => exact R.wp_stuck
      | some zs => exact R.wp_ok
theorem zip3_map {α : Type} {f h u : α → P} : ∀ {l : List α}, zip3P (l.map f) (l.map h) (l.map u) = l.map fun a => .tuple [f a, h a, u a]
  | [] => rfl
  | a :: l => by rw [List.map_cons, List.map_cons, List.map_cons, List.map_cons]; show _ :: zip3P _ _ _ = _; rw [zip3_map]
theorem o_mulT {xs : List P} {k : Int} : (fMulT (.d (.tuple xs)) (.d (.int k)) g).wp Qd = ((xs ≠ [] ∧ -4611686018427387904 ≤ k ∧ k ≤ 1000 ∧ xs.length ≤ 1000) ∧ Qd (.d (.tuple (List.replicate k.toNat xs).flatten)) g) := by
  unfold fMulT
  dsimp only
  rw [show (-(2 ^ 62) : Int) = -4611686018427387904 by decide +kernel]
  split
  · rw [R.wp_ok]; simp only [*, and_self, true_and]; simp_all
  · rename_i h; rw [R.wp_stuck]; simp only [h, false_and]
theorem key_i : D.key (.d (.int i)) = some (.int i) := rfl
theorem key_s : D.key (.d (.str x)) = some (.str x) := rfl
theorem dic_d : D.dic (.d (.dict kvs)) = some kvs := rfl
theorem dic_b : D.dic (.bor (.dict kvs)) = some kvs := rfl
theorem popHead_c {p : P} {r : List P} : popHead (p :: r) = some (p, r) := rfl
theorem popLast_s {p : P} {r : List P} : popLast (r ++ [p]) = some (p, r) := by
  unfold popLast
  rw [List.length_append, List.length_singleton, Nat.add_sub_cancel, List.getElem?_append_right (Nat.le_refl _), Nat.sub_self, List.dropLast_concat]; rfl
theorem w_compL2 {tg : Ptv} {tt : Tv} {m1 : Iv} {tg1 : Ptv} {tt1 : Tv} {elt : Ev} {vs1 : List Nat} {ds : List D} {Q : List P → G → Prop} (Inv : Nat → List P → G → Prop) (h0 : Inv 0 [] g)
    (step : ∀ (j : Nat) (ps : List P) (g' : G) (d : D), ds[j]? = some d → Inv j ps g' → d.isB = false ∧ ∃ e1, tg d env = some e1 ∧ (tt e1 g').wp fun b g1 => cnd b ((m1 e1 g1).wp fun ds1 g2 => (compL tg1 tt1 elt (wipeE e1 vs1) ds1 g2).wp fun r g3 => Inv (j + 1) (ps ++ r) g3) (Inv (j + 1) ps g1) .mk)
    (h : ∀ r g', Inv ds.length r g' → Q r g') : (compL2 tg tt m1 tg1 tt1 elt vs1 env ds g).wp Q := by
  have key : ∀ (es : List D) (j : Nat) (ps : List P) (g' : G), ds.drop j = es → j ≤ ds.length → Inv j ps g' → (compL2 tg tt m1 tg1 tt1 elt vs1 env es g').wp fun r g2 => Inv ds.length (ps ++ r) g2 := by
    intro es
    induction es with
    | nil =>
      intro j ps g' hd hj hi
      have hle : ds.length ≤ j := by
        have := congrArg List.length hd
        rw [List.length_drop, List.length_nil] at this; omega
      show (R.ok [] g').wp _
      rw [R.wp_ok, List.append_nil, show ds.length = j by omega]; exact hi
    | cons d es ih =>
      intro j ps g' hd hj hi
      have hget : ds[j]? = some d := by
        have : (ds.drop j)[0]? = some d := by rw [hd]; rfl
        rw [List.getElem?_drop, Nat.add_zero] at this; exact this
      obtain ⟨h1, e1, h2, h3⟩ := step j ps g' d hget hi
      have hd' : ds.drop (j + 1) = es := by
        rw [← List.drop_drop, hd]; rfl
      unfold compL2
      rw [h1, if_neg (by decide), h2]
      dsimp only
      rw [R.wp_bind, R.wp_ne]
      refine R.wp_mono h3 fun b g1 h4 => ?_
      cases b with
      | false =>
        rw [if_neg (by decide)]
        rw [cnd_false] at h4
        exact ih (j + 1) ps g1 hd' (by have := (List.getElem?_eq_some_iff.mp hget).1; omega) h4
      | true =>
        rw [if_pos rfl, R.wp_bind, R.wp_ne]
        rw [cnd_true] at h4
        refine R.wp_mono h4 fun ds1 g2 h5 => ?_
        rw [R.wp_bind]
        refine R.wp_mono h5 fun r g3 h6 => ?_
        rw [R.wp_bind]
        refine R.wp_mono (ih (j + 1) (ps ++ r) g3 hd' (by have := (List.getElem?_eq_some_iff.mp hget).1; omega) h6) fun r' g4 h7 => ?_
        rw [R.wp_ok, ← List.append_assoc]; exact h7
  refine R.wp_mono (key ds 0 [] g rfl (Nat.zero_le _) h0) fun r g' h1 => h r g' (by rw [List.nil_append] at h1; exact h1)
end
section
variable {g : G} {Qd : D → G → Prop}
theorem w_sortedD {d : D} {kvs : List (P × P)} {ks : List Int} (hd : d.dic = some kvs) (hk : kvs.map (·.1) = ks.map PyData.int) (hl : ks.length < 64) (h : Qd (.d (.list ((sortI ks).map PyData.int))) g) : (fSortedD [d] g).wp Qd := by
  unfold fSortedD
  dsimp only
  rw [hd]
  dsimp only
  rw [hk, intsOf_of]
  dsimp only
  rw [if_pos hl, R.wp_ok]; exact h
end
section
variable {env : En} {g : G} {Qd : D → G → Prop} {Qn : En → G → Prop} {Qr : D → G → Prop}
theorem RS.wp_ne {r : RS} : r.ne.wp Qn Qr = r.wp Qn Qr := by
  cases r with
  | err e g =>
    apply propext
    constructor
    · intro h; cases h with
      | nx _ _ e _ => cases e
      | rt _ _ e _ => cases e
    · intro h; cases h with
      | nx _ _ e _ => cases e
      | rt _ _ e _ => cases e
  | _ => rfl
theorem w_forI {i : Nat} {f : Ptv} {b : Sv} : (sForI i f b env g).wp Qn Qr = (match env[i]? with
  | some (.sh (.d (.dict kvs))) => (forL f b (kvT kvs) env g).wp Qn Qr
  | _ => False) := by
  unfold sForI
  cases env[i]? with
  | none => exact RS.wp_stuck
  | some s =>
    cases s with
    | sh x =>
      cases x with
      | d p =>
        cases p with
        | dict kvs => exact RS.wp_ne
        | _ => exact RS.wp_stuck
      | _ => exact RS.wp_stuck
    | _ => exact RS.wp_stuck
theorem w_dictI {i j : Int} : (eDictI i j env g).wp Qd = Qd (.d (.dict [(.int i, .int j)])) g := by show (R.ok _ g).wp _ = _; rw [R.wp_ok]
end
section
variable {Qd : D → G → Prop} {Qn : En → G → Prop} {Qr : D → G → Prop} {env : En} {g : G} {i : Int}
theorem w_callC {f : List D → M D} {a : Evs} : (eCallC f a env g).wp Qd = (a env g).wp fun xs g1 => (callCell f xs g1).wp (stop Qd .mk) := by
  unfold eCallC eB
  rw [R.wp_bind]; rfl
theorem w_callCK {f : List D → M D} {pi : List Nat} {a b : Evs} : (eCallCK f pi a b env g).wp Qd = (a env g).wp fun xs g1 => (b env g1).wp fun ys g2 => (callCell f (perm pi (xs ++ ys)) g2).wp (stop Qd .mk) := by
  unfold eCallCK
  rw [R.wp_bind]; congr 1; funext xs g1
  rw [R.wp_bind]; rfl
/-- a call whose list becomes a cell -/
theorem w_callC0 {f : List D → M D} {ds : List D} (hb : ds.all noLD = true) (h : (f ds []).wp fun d _ => ∃ ps, d = .d (.list ps) ∧ noLs ps = true ∧ Qd (.cell g.length) (g ++ [ps])) : (callCell f ds g).wp (stop Qd .mk) := by
  unfold callCell
  rw [if_pos hb]
  obtain ⟨d, g1, e, ps, rfl, hp, hq⟩ := h
  rw [e]
  dsimp only
  rw [if_pos hp, R.wp_ok]; exact hq
theorem w_nest {a : Evs} : (eNest a env g).wp Qd = (a env g).wp fun xs g1 => (match cellsOf xs with | some ns => Qd (.nest ns) g1 | none => False) := by
  unfold eNest
  rw [R.wp_bind]; congr 1; funext xs g1
  cases cellsOf xs with
  | none => exact R.wp_stuck
  | some ns => exact R.wp_ok
theorem o_ixN {ns : List Nat} : (fIxN (.nest ns) (.d (.int i)) g).wp Qd = (match atI ns i with | some n => Qd (.cell n) g | none => False) := by
  unfold fIxN
  dsimp only
  cases atI ns i with
  | none => exact R.wp_stuck
  | some n => exact R.wp_ok
theorem o_reprN {ns : List Nat} : (fReprN [.nest ns] g).wp Qd = (match nestP g ns with | some ps => (reprOk (.list ps) = true ∧ Qd (.d (.str (PyData.list ps).shown)) g) | none => False) := by
  unfold fReprN
  dsimp only
  cases nestP g ns with
  | none => exact R.wp_stuck
  | some ps =>
    dsimp only
    by_cases h : reprOk (.list ps) = true
    · rw [if_pos h, R.wp_ok]; simp only [h, true_and]
    · rw [if_neg h, R.wp_stuck]; simp only [h, false_and]; simp
theorem w_cellM {f : List P → D → Option (List P)} {m : Ev} {ms : Evs} : (sCellM f m ms env g).wp Qn Qr = (m env g).wp fun d g1 => (match d with
  | .cell n => (ms env g1).wp fun ds g2 => (match ds with
    | [d] => (match g2[n]? with
      | some ps => (match f ps d with | some qs => Qn env (g2.set n qs) | none => False)
      | none => False)
    | _ => False)
  | _ => False) := by
  unfold sCellM
  rw [R.wp_bindS]; congr 1; funext d g1
  cases d with
  | cell n =>
    dsimp only
    rw [R.wp_bindS]; congr 1; funext ds g2
    match ds with
    | [] => exact RS.wp_stuck
    | [d] =>
      dsimp only
      cases g2[n]? with
      | none => exact RS.wp_stuck
      | some ps =>
        dsimp only
        cases f ps d with
        | none => exact RS.wp_stuck
        | some qs => exact RS.wp_next
    | _ :: _ :: _ => exact RS.wp_stuck
  | _ => exact RS.wp_stuck
theorem w_sortSet {m : Ev} : (eSortSet m env g).wp Qd = (m env g).wp fun x g1 => (match x.lst.bind intsOf with | some ns => (ns.length < 64 ∧ Qd (.d (.list ((sortI (dd ns)).map PyData.int))) g1) | none => False) := by
  unfold eSortSet
  rw [R.wp_bind]; congr 1; funext x g1
  cases x.lst.bind intsOf with
  | none => exact R.wp_stuck
  | some ns =>
    dsimp only
    by_cases h : ns.length < 64
    · rw [if_pos h, R.wp_ok]; simp only [h, true_and]
    · rw [if_neg h, R.wp_stuck]; simp only [h, false_and]
theorem w_lenSet {m : Ev} : (eLenSet m env g).wp Qd = (m env g).wp fun x g1 => (match tupInts x with | some ns => (ns.length < 64 ∧ Qd (.d (.int (dd ns).length)) g1) | none => False) := by
  unfold eLenSet
  rw [R.wp_bind]; congr 1; funext x g1
  cases tupInts x with
  | none => exact R.wp_stuck
  | some ns =>
    dsimp only
    by_cases h : ns.length < 64
    · rw [if_pos h, R.wp_ok]; simp only [h, true_and]
    · rw [if_neg h, R.wp_stuck]; simp only [h, false_and]
theorem w_enumZ {b : Bool} {m m' : Ev} {Q : List D → G → Prop} : (iEnumZ b m m' env g).wp Q = (m env g).wp fun d g1 => (m' env g1).wp fun d' g2 => (match seqOf b d, seqOf b d' with | some xs, some ys => Q (ezD xs ys) g2 | _, _ => False) := by
  unfold iEnumZ
  rw [R.wp_bind]; congr 1; funext x g1
  rw [R.wp_bind]; congr 1; funext y g2
  cases seqOf b x with
  | none => exact R.wp_stuck
  | some xs =>
    cases seqOf b y with
    | none => exact R.wp_stuck
    | some ys => exact R.wp_ok
theorem w_listZip {m m' : Ev} : (eListZip m m' env g).wp Qd = (m env g).wp fun d g1 => (m' env g1).wp fun d' g2 => (match seqOf false d, seqOf false d' with | some xs, some ys => (min xs.length ys.length ≤ 16777216 ∧ Qd (.d (.list (List.zipWith (fun x y => .tuple [x, y]) xs ys))) g2) | _, _ => False) := by
  unfold eListZip
  rw [R.wp_bind]; congr 1; funext x g1
  rw [R.wp_bind]; congr 1; funext y g2
  cases seqOf false x with
  | none => exact R.wp_stuck
  | some xs =>
    cases seqOf false y with
    | none => exact R.wp_stuck
    | some ys =>
      dsimp only
      by_cases h : min xs.length ys.length ≤ 16777216
      · rw [if_pos h, R.wp_ok]; simp only [h, true_and]
      · rw [if_neg h, R.wp_stuck]; simp only [h, false_and]
theorem w_parSOO {n m l : Nat} {a b d : Ev} : (sParSOO n m l a b d env g).wp Qn Qr = (a env g).wp fun x g0 => (x.isB = false ∧ (b env g0).wp fun y g1 => (match y with
  | .d p => (d env g1).wp fun z g2 => (match z with | .d p2 => Qn (((env.set n (.sh x)).set m (.own p)).set l (.own p2)) g2 | _ => False)
  | _ => False)) := by
  unfold sParSOO
  rw [R.wp_bindS]; congr 1; funext x g0
  cases hb : x.isB with
  | true => simp only [if_true]; rw [RS.wp_stuck]; simp
  | false =>
    simp only [Bool.false_eq_true, if_false, true_and]
    rw [R.wp_bindS]; congr 1; funext y g1
    cases y with
    | d p =>
      dsimp only
      rw [R.wp_bindS]; congr 1; funext z g2
      cases z with
      | d p2 => exact RS.wp_next
      | _ => exact RS.wp_stuck
    | _ => exact RS.wp_stuck
theorem isB_nest {ns : List Nat} : D.isB (.nest ns) = false := rfl
theorem noC_nest {ns : List Nat} : D.noC (.nest ns) = true := rfl
end
end Sim
set_option maxRecDepth 512
set_option Elab.async false
set_option linter.all false
set_option maxHeartbeats 4000000
namespace Sim
open PySem PySem.Spec PyProof.Rows L2
/-- a def of the text, from what the memory shows -/
theorem top_mk {K : PySem.W.Frag} {mg : Str → Option Value} {h : Heap} (X : K.In h) (G : h.Ns mainGlobals mg) {x : Str} {st : Stmt} {f : Addr} {oc : Value} {od an : Option Addr} {osl : Array (Option Value)} {kV doc pm cdv ct : Value}
    (a : PySem.W.nsIn K mainGlobals x = some (some (.ref f)))
    (l : K.lookup f = some ⟨oc, od, .func (PySem.W.fnOf x x (defArgs st) (defBody st) (defScope st) .none kV doc pm an cdv ct), osl⟩)
    (c : PySem.W.codeIn K cdv x = true) (k : PySem.W.keepIn K (.ref f) = true) : TopF K mg x st := ⟨f, _, PySem.W.mg_of X G a, fun_mk l c k⟩
theorem con_mk {K : PySem.W.Frag} {mg : Str → Option Value} {h : Heap} (X : K.In h) (G : h.Ns mainGlobals mg) {x : Str} {v : Tok → Value} {u : Value}
    (a : PySem.W.nsIn K mainGlobals x = some (some u)) (e : ∃ t, u = v t) : ∃ t, mg x = some (v t) := e.elim fun t q => ⟨t, q ▸ PySem.W.mg_of X G a⟩
theorem conT_mk {K : PySem.W.Frag} {mg : Str → Option Value} {h : Heap} (X : K.In h) (G : h.Ns mainGlobals mg) {x : Str} {a : Addr} {ns : List Int} {od : Option Addr} {its : Array Value} {n : Nat} {sl : Array (Option Value)}
    (q : PySem.W.nsIn K mainGlobals x = some (some (.ref a))) (l : K.lookup a = some ⟨.type "tuple", od, .seq its n, sl⟩) (v : Vals (ns.map V.int) its.toList) (hs : its.size ≤ sizeLine) : KTup K mg x ns :=
  ⟨a, _, its, n, PySem.W.mg_of X G q, l, rfl, rfl, hs, v⟩
/-- the law's end over the defs of the text -/
theorem law_tops {l : PySem.W.OpenLaw} {n k : Nat} {q : Program} {loose : List Str} {XP : (Str → Option Value) → Heap → Prop} {YP : World → Heap → Prop} {d : DefRec} {x : Str}
    (hn : l.most = some n) (hn2 : n ≤ sizeLine) (hdf : d.params.defaults = []) (hr : Room k callerA)
    (F : ∀ (w : World) (mg : Str → Option Value) (h : Heap), YP w h → h.Ns mainGlobals mg →
      ∃ (K : PySem.W.Frag) (st : Stmt) (fm : List D → M D), K.In h ∧ (∀ ns : List Int, ns.length ≤ n → ∃ g, fm [.scr ns] [] = .ok (.d (.bool true)) g) ∧
        (∀ (kV doc pm : Value) (an : Option Addr) (cdv ct u : Value), bindArgs (PySem.W.fnOf d.name d.name (defArgs st) (defBody st) (defScope st) .none kV doc pm an cdv ct) ⟨[u], []⟩ = pure [(x, u)]) ∧
        ∀ base : Heap, Fn l.prog w K mg base k d.name st [x] fm) :
    PySem.W.WalkO q loose XP YP l.row.toRowW d [] (fun f vs => PySem.call f vs) := by
  refine law_end (x := x) hn hn2 hdf hr fun w mg fa h Y G hfa => ?_
  obtain ⟨K, st, fm, KX, hv, hbd, hF⟩ := F w mg h Y G
  obtain ⟨f, fd, h1, h2, h3, h4⟩ := hF h
  have e : f = fa := by
    have := h1.symm.trans hfa
    cases this; rfl
  subst e
  refine ⟨K, fd, fm, KX, fun s u => ?_, hv, fun base _ _ => ?_⟩
  · obtain ⟨oc, od, kV, doc, pm, an, cdv, ct, osl, rfl, lk, hcd⟩ := h2.ex
    exact .of_eq (hbd _ _ _ _ _ _ _)
  · obtain ⟨f', fd', g1, g2, g3, g4⟩ := hF base
    have e : f' = f := by
      have := g1.symm.trans h1
      cases this; rfl
    subst e
    obtain ⟨oc, od, kV, doc, pm, an, cdv, ct, osl, e1, lk, hcd⟩ := h2.ex
    obtain ⟨oc', od', kV', doc', pm', an', cdv', ct', osl', e1', lk', hcd'⟩ := g2.ex
    rw [lk] at lk'
    have : fd = fd' := by injection lk' with e; injection e with _ _ e _; injection e
    rw [this]; exact g4
end Sim
set_option Elab.async false
set_option linter.all false
set_option maxRecDepth 100000
set_option maxHeartbeats 4000000
namespace k70
open PySem PySem.Spec PyProof.Rows L2 Sim
def m__law_pot : Sv := (sSeq (sAsg 2 (eIf (tv (eOp fLt (eVar 1) (eB fLen (aCons (eVar 0) aNil)))) (eB fAbs (aCons (eOp fIx (eVar 0) (eVar 1)) aNil)) (eOp fAdd (eOp fMulA (eC (.int 2341)) (eVar 1)) (eC (.int 1223)))))
  (sRet (eNewCell (aCons (eB fMax (aCons (eC (.int 0)) (aCons (eOp fSub (eVar 2) (eOp fPow (eC (.int 10)) (eC (.int 18)))) aNil))) (aCons (eOp fAdd (eOp fMod (eB fInt (aCons (eOp fAdd (eOp fAdd (eOp fMulA (eOp fMod (eB fInt (aCons (eVar 2) aNil)) (eC (.int 2147483549))) (eC (.int 40014))) (eOp fMulA (eC (.int 3571)) (eVar 1))) (eC (.int 1973))) aNil)) (eC (.int 2147483563))) (eC (.int 1))) aNil)))))
def fn__law_pot : List D → M D := fnOfB 3 m__law_pot
def m__law_draw : Sv := (sSeq (sIf (tv (eOp fGt (eOp fIx (eVar 0) (eC (.int 0))) (eC (.int 0))))
  (sSeq (sAsgT (eB fDivmod (aCons (eOp fIx (eVar 0) (eC (.int 0))) (aCons (eVar 1) aNil))) (tTupT 2 (tsCons (tSetIx 0 (eC (.int 0))) (tsCons (tName 2) tsNil))))
  (sRet (eVar 2)))
  sNext)
  (sSeq (sAsgT (eOp fMod (eB fInt (aCons (eOp fAdd (eOp fMulA (eOp fIx (eVar 0) (eC (.int 1))) (eC (.int 40692))) (eC (.int 7477))) aNil)) (eC (.int 2147483587))) (tSetIx 0 (eC (.int 1))))
  (sRet (eOp fMod (eB fInt (aCons (eOp fDiv (eOp fMod (eB fInt (aCons (eOp fMulA (eOp fIx (eVar 0) (eC (.int 1))) (eOp fIx (eVar 0) (eC (.int 1)))) aNil)) (eC (.int 2147483549))) (eC (.int 17))) aNil)) (eVar 1)))))
def fn__law_draw : List D → M D := fnOfB 3 m__law_draw
def m__law_power : Sv := (sSeq (sAsg 3 (eC (.int 1)))
  (sSeq (sFor (iRange1 (eVar 2)) (pName 4)
  (sAsg 3 (eOp fMod (eB fInt (aCons (eOp fMulA (eVar 3) (eVar 1)) aNil)) (eOp fIx (eVar 0) (eC (.int 1))))))
  (sRet (eVar 3))))
def fn__law_power : List D → M D := fnOfB 5 m__law_power
def m__law_element : Sv := (sRet (eCall fn__law_power (aCons (eVar 1) (aCons (eOp fIx (eVar 1) (eC (.int 3))) (aCons (eCall fn__law_draw (aCons (eVar 0) (aCons (eOp fIx (eVar 1) (eC (.int 2))) aNil))) aNil)))))
def fn__law_element : List D → M D := fnOfB 2 m__law_element
def m__law_pick : Sv := (sRet (eOp fIx (eVar 1) (eCall fn__law_draw (aCons (eVar 0) (aCons (eB fLen (aCons (eVar 1) aNil)) aNil)))))
def fn__law_pick : List D → M D := fnOfB 2 m__law_pick
def m__law_group : Sv := (sRet (eOp fAdd (eTup (aCons (eC (.str (PySem.Str.ofString "group"))) aNil)) (eCall fn__law_pick (aCons (eVar 0) (aCons (eLst (aCons (eTup (aCons (eC (.int 23)) (aCons (eC (.int 11)) (aCons (eC (.int 2)) aNil)))) (aCons (eTup (aCons (eC (.int 47)) (aCons (eC (.int 23)) (aCons (eC (.int 2)) aNil)))) (aCons (eTup (aCons (eC (.int 11)) (aCons (eC (.int 5)) (aCons (eC (.int 3)) aNil)))) (aCons (eTup (aCons (eC (.int 7)) (aCons (eC (.int 3)) (aCons (eC (.int 2)) aNil)))) (aCons (eTup (aCons (eC (.int 607)) (aCons (eC (.int 101)) (aCons (eC (.int 64)) aNil)))) (aCons (eTup (aCons (eC (.int 23)) (aCons (eC (.int 11)) (aCons (eC (.int 3)) aNil)))) (aCons (eTup (aCons (eC (.int 3)) (aCons (eC (.int 2)) (aCons (eC (.int 2)) aNil)))) aNil)))))))) aNil)))))
def fn__law_group : List D → M D := fnOfB 1 m__law_group
def m__law_product : Sv := (sSeq (sAsg 3 (eC (.int 1)))
  (sSeq (sFor (iZip2 true (eVar 1) (eVar 2)) (pTup 2 (psCons (pName 4) (psCons (pName 5) psNil)))
  (sAsg 3 (eOp fMod (eB fInt (aCons (eOp fMulA (eVar 3) (eCall fn__law_power (aCons (eVar 0) (aCons (eVar 4) (aCons (eVar 5) aNil))))) aNil)) (eOp fIx (eVar 0) (eC (.int 1))))))
  (sRet (eVar 3))))
def fn__law_product : List D → M D := fnOfB 6 m__law_product
def m__law_check : Sv := (sSeq (sAsg 2 (eB fTuple (aCons (eComp (iRange1 (eOp fAdd (eC (.int 1)) (eCall fn__law_draw (aCons (eVar 0) (aCons (eC (.int 4)) aNil))))) (pName 5) tvYes (eCall fn__law_element (aCons (eVar 0) (aCons (eVar 1) aNil))) [5]) aNil)))
  (sSeq (sAsg 3 (eB fTuple (aCons (eComp (iSeq false (eVar 2)) (pName 5) tvYes (eCall fn__law_draw (aCons (eVar 0) (aCons (eOp fIx (eVar 1) (eC (.int 2))) aNil))) [5]) aNil)))
  (sSeq (sAsg 4 (eCall fn__law_product (aCons (eVar 1) (aCons (eVar 2) (aCons (eVar 3) aNil)))))
  (sSeq (sIf (tv (eOp fEq (eCall fn__law_draw (aCons (eVar 0) (aCons (eC (.int 3)) aNil))) (eC (.int 0))))
  (sAsg 4 (eOp fMod (eB fInt (aCons (eOp fMulA (eVar 4) (eCall fn__law_element (aCons (eVar 0) (aCons (eVar 1) aNil)))) aNil)) (eOp fIx (eVar 1) (eC (.int 1)))))
  sNext)
  (sRet (eTup (aCons (eC (.str (PySem.Str.ofString "check"))) (aCons (eVar 2) (aCons (eVar 3) (aCons (eVar 4) aNil))))))))))
def fn__law_check : List D → M D := fnOfB 6 m__law_check
def m__law_lot : Sv := (sRet (eB fTuple (aCons (eComp (iRange1 (eOp fAdd (eC (.int 1)) (eCall fn__law_draw (aCons (eVar 0) (aCons (eVar 2) aNil))))) (pName 3) tvYes (eCall fn__law_check (aCons (eVar 0) (aCons (eVar 1) aNil))) [3]) aNil)))
def fn__law_lot : List D → M D := fnOfB 4 m__law_lot
def m__law_log : Sv := (sSeq (sAsg 2 (eC (.int 1)))
  (sSeq (sFor (iRange1 (eOp fIx (eVar 0) (eC (.int 2)))) (pName 3)
  (sSeq (sIf (tv (eOp fEq (eVar 2) (eVar 1)))
  (sRet (eVar 3))
  sNext)
  (sAsg 2 (eOp fMod (eB fInt (aCons (eOp fMulA (eVar 2) (eOp fIx (eVar 0) (eC (.int 3)))) aNil)) (eOp fIx (eVar 0) (eC (.int 1)))))))
  (sRet (eC (.int 0)))))
def fn__law_log : List D → M D := fnOfB 4 m__law_log
def m__law_fault : Sv := (sRet (eOp fMod (eB fInt (aCons (eOp fSub (eCall fn__law_log (aCons (eVar 0) (aCons (eCall fn__law_product (aCons (eVar 0) (aCons (eOp fIx (eVar 1) (eC (.int 1))) (aCons (eOp fIx (eVar 1) (eC (.int 2))) aNil)))) aNil))) (eCall fn__law_log (aCons (eVar 0) (aCons (eOp fIx (eVar 1) (eC (.int 3))) aNil)))) aNil)) (eOp fIx (eVar 0) (eC (.int 2)))))
def fn__law_fault : List D → M D := fnOfB 2 m__law_fault
def m__law_batch : Sv := (sRet (eOp fMod (eB fSum (aCons (eComp (iZip2 false (eVar 1) (eVar 2)) (pTup 2 (psCons (pName 3) (psCons (pName 4) psNil))) tvYes (eOp fMulA (eCall fn__law_fault (aCons (eVar 0) (aCons (eVar 3) aNil))) (eVar 4)) [3, 4]) aNil)) (eOp fIx (eVar 0) (eC (.int 2)))))
def fn__law_batch : List D → M D := fnOfB 5 m__law_batch
def m__law_merged : Sv := (sSeq (sOwn 3 eDict0)
  (sSeq (sFor (iZip2 true (eVar 1) (eVar 2)) (pTup 2 (psCons (pName 4) (psCons (pName 5) psNil)))
  (sFor (iSeq true (eOp fAdd (eListZip (eOp fIx (eVar 4) (eC (.int 1))) (eOp fIx (eVar 4) (eC (.int 2)))) (eLst (aCons (eTup (aCons (eOp fIx (eVar 4) (eC (.int 3))) (aCons (eUn fNeg (eC (.int 1))) aNil))) aNil)))) (pTup 2 (psCons (pName 6) (psCons (pName 7) psNil)))
  (sPutD 3 (eVar 6) (eOp fMod (eB fInt (aCons (eOp fAdd (eGet2 (eVar 3) (eVar 6) (eC (.int 0))) (eOp fMulA (eVar 5) (eVar 7))) aNil)) (eOp fIx (eVar 0) (eC (.int 2)))))))
  (sRet (eB fTuple (aCons (eComp (iSeq false (eB fSortedD (aCons (eVar 3) aNil))) (pName 8) (tv (eOp fNe (eOp fIxD (eVar 3) (eVar 8)) (eC (.int 0)))) (eTup (aCons (eVar 8) (aCons (eOp fIxD (eVar 3) (eVar 8)) aNil))) [8]) aNil)))))
def fn__law_merged : List D → M D := fnOfB 9 m__law_merged
def m__law_weights : Sv := (sRet (eB fTuple (aCons (eComp (iSeq false (eVar 2)) (pName 3) tvYes (eCall fn__law_draw (aCons (eVar 0) (aCons (eOp fIx (eVar 1) (eC (.int 2))) aNil))) [3]) aNil)))
def fn__law_weights : List D → M D := fnOfB 4 m__law_weights
def m_powered : Sv := (sSeq (sAsg 3 (eC (.int 1)))
  (sSeq (sWhile (tv (eOp fGt (eVar 1) (eC (.int 0))))
  (sSeq (sIf (tv (eOp fEq (eOp fMod (eVar 1) (eC (.int 2))) (eC (.int 1))))
  (sAsg 3 (eOp fMod (eOp fMulA (eVar 3) (eVar 0)) (eVar 2)))
  sNext)
  (sPar 0 1 (aCons (eOp fMod (eOp fMulA (eVar 0) (eVar 0)) (eVar 2)) (aCons (eOp fDiv (eVar 1) (eC (.int 2))) aNil)))))
  (sRet (eVar 3))))
def fn_powered : List D → M D := fnOfB 4 m_powered
def m_power_of : Sv := (sRet (eCall fn_powered (aCons (eVar 1) (aCons (eVar 2) (aCons (eOp fIx (eVar 0) (eC (.int 1))) aNil)))))
def fn_power_of : List D → M D := fnOfB 3 m_power_of
def m_times_of : Sv := (sRet (eOp fMod (eOp fMulA (eVar 1) (eVar 2)) (eOp fIx (eVar 0) (eC (.int 1)))))
def fn_times_of : List D → M D := fnOfB 3 m_times_of
def m_product_of : Sv := (sSeq (sAsg 3 (eC (.int 1)))
  (sSeq (sFor (iZip2 true (eVar 1) (eVar 2)) (pTup 2 (psCons (pName 4) (psCons (pName 5) psNil)))
  (sAsg 3 (eCall fn_times_of (aCons (eVar 0) (aCons (eVar 3) (aCons (eCall fn_power_of (aCons (eVar 0) (aCons (eVar 4) (aCons (eVar 5) aNil)))) aNil))))))
  (sRet (eVar 3))))
def fn_product_of : List D → M D := fnOfB 6 m_product_of
def m_under_of : Sv := (sRet (eCall fn_powered (aCons (eVar 1) (aCons (eOp fSub (eOp fIx (eVar 0) (eC (.int 2))) (eC (.int 1))) (aCons (eOp fIx (eVar 0) (eC (.int 1))) aNil)))))
def fn_under_of : List D → M D := fnOfB 2 m_under_of
def m_fault_of : Sv := (sRet (eCall fn_times_of (aCons (eVar 0) (aCons (eCall fn_product_of (aCons (eVar 0) (aCons (eOp fIx (eVar 1) (eC (.int 1))) (aCons (eOp fIx (eVar 1) (eC (.int 2))) aNil)))) (aCons (eCall fn_under_of (aCons (eVar 0) (aCons (eOp fIx (eVar 1) (eC (.int 3))) aNil))) aNil)))))
def fn_fault_of : List D → M D := fnOfB 2 m_fault_of
def m_faults_of : Sv := (sRet (eComp (iSeq false (eVar 1)) (pName 2) tvYes (eCall fn_fault_of (aCons (eVar 0) (aCons (eVar 2) aNil))) [2]))
def fn_faults_of : List D → M D := fnOfB 3 m_faults_of
def m_batch_of : Sv := (sRet (eCall fn_product_of (aCons (eVar 0) (aCons (eCall fn_faults_of (aCons (eVar 0) (aCons (eVar 1) aNil))) (aCons (eVar 2) aNil)))))
def fn_batch_of : List D → M D := fnOfB 3 m_batch_of
def m_is_integer : Sv := (sRet (eAnd (eIsi isInt (eVar 0)) (eNot (eIsi isBool (eVar 0)))))
def fn_is_integer : List D → M D := fnOfB 1 m_is_integer
def m_is_prime : Sv := (sSeq (sIf (tv (eOp fLt (eVar 0) (eC (.int 2))))
  (sRet (eC (.bool false)))
  sNext)
  (sSeq (sAsg 1 (eC (.int 2)))
  (sSeq (sWhile (tv (eOp fLe (eOp fMulA (eVar 1) (eVar 1)) (eVar 0)))
  (sSeq (sIf (tv (eOp fEq (eOp fMod (eVar 0) (eVar 1)) (eC (.int 0))))
  (sRet (eC (.bool false)))
  sNext)
  (sAug 1 fAddI (eC (.int 1)))))
  (sRet (eC (.bool true))))))
def fn_is_prime : List D → M D := fnOfB 2 m_is_prime
def m_is_row : Sv := (sRet (eAnd (eIsi isTup (eVar 0)) (eOp fEq (eB fLen (aCons (eVar 0) aNil)) (eVar 1))))
def fn_is_row : List D → M D := fnOfB 2 m_is_row
def m_is_group_of : Sv := (sSeq (sIf (tvOr (tvNot (tv (eCall fn_is_row (aCons (eVar 0) (aCons (eC (.int 4)) aNil))))) (tvOr (tvNot (tv (eIsi isStr (eOp fIx (eVar 0) (eC (.int 0)))))) (tv (eOp fNe (eOp fIx (eVar 0) (eC (.int 0))) (eC (.str (PySem.Str.ofString "group")))))))
  (sRet (eC (.bool false)))
  sNext)
  (sSeq (sAsgT (eSl (eVar 0) (oSome (eC (.int 1))) oNo) (tP (pTup 3 (psCons (pName 1) (psCons (pName 2) (psCons (pName 3) psNil))))))
  (sSeq (sIf (tvOr (tvNot (tv (eB fAll (aCons (eComp (iSeq false (eTup (aCons (eVar 1) (aCons (eVar 2) (aCons (eVar 3) aNil))))) (pName 4) tvYes (eCall fn_is_integer (aCons (eVar 4) aNil)) [4]) aNil)))) (tvOr (tv (eOp fGt (eVar 1) (eC (.int 999983)))) (tvOr (tv (eOp fGt (eVar 2) (eC (.int 9973)))) (tvNot (tv (eChain fLe fLt (eC (.int 2)) (eVar 3) (eVar 1)))))))
  (sRet (eC (.bool false)))
  sNext)
  (sSeq (sIf (tvOr (tvNot (tv (eCall fn_is_prime (aCons (eVar 1) aNil)))) (tvOr (tvNot (tv (eCall fn_is_prime (aCons (eVar 2) aNil)))) (tv (eOp fNe (eOp fMod (eOp fSub (eVar 1) (eC (.int 1))) (eVar 2)) (eC (.int 0))))))
  (sRet (eC (.bool false)))
  sNext)
  (sRet (eOp fEq (eCall fn_powered (aCons (eVar 3) (aCons (eVar 2) (aCons (eVar 1) aNil)))) (eC (.int 1))))))))
def fn_is_group_of : List D → M D := fnOfB 5 m_is_group_of
def m_want_group : Sv := (sSeq (sIf (tvNot (tv (eCall fn_is_group_of (aCons (eVar 0) aNil))))
  sNever
  sNext)
  (sRet (eVar 0)))
def fn_want_group : List D → M D := fnOfB 1 m_want_group
def m_is_element_of : Sv := (sRet (eAnd (eCall fn_is_integer (aCons (eVar 1) aNil)) (eAnd (eChain fLe fLt (eC (.int 1)) (eVar 1) (eOp fIx (eVar 0) (eC (.int 1)))) (eOp fEq (eCall fn_powered (aCons (eVar 1) (aCons (eOp fIx (eVar 0) (eC (.int 2))) (aCons (eOp fIx (eVar 0) (eC (.int 1))) aNil)))) (eC (.int 1))))))
def fn_is_element_of : List D → M D := fnOfB 2 m_is_element_of
def m_are_elements : Sv := (sRet (eAnd (eCall fn_is_row (aCons (eVar 1) (aCons (eVar 2) aNil))) (eB fAll (aCons (eComp (iSeq false (eVar 1)) (pName 3) tvYes (eCall fn_is_element_of (aCons (eVar 0) (aCons (eVar 3) aNil))) [3]) aNil))))
def fn_are_elements : List D → M D := fnOfB 4 m_are_elements
def m_is_count : Sv := (sRet (eAnd (eCall fn_is_integer (aCons (eVar 0) aNil)) (eOp fGe (eVar 0) (eC (.int 0)))))
def fn_is_count : List D → M D := fnOfB 1 m_is_count
def m_is_below : Sv := (sRet (eAnd (eCall fn_is_count (aCons (eVar 0) aNil)) (eOp fLt (eVar 0) (eVar 1))))
def fn_is_below : List D → M D := fnOfB 2 m_is_below
def m_are_numbers : Sv := (sRet (eAnd (eCall fn_is_row (aCons (eVar 0) (aCons (eVar 1) aNil))) (eB fAll (aCons (eComp (iSeq false (eVar 0)) (pName 3) tvYes (eCall fn_is_below (aCons (eVar 3) (aCons (eVar 2) aNil))) [3]) aNil))))
def fn_are_numbers : List D → M D := fnOfB 4 m_are_numbers
def m_is_check_of : Sv := (sSeq (sIf (tvOr (tvNot (tv (eCall fn_is_row (aCons (eVar 1) (aCons (eC (.int 4)) aNil))))) (tvOr (tvNot (tv (eIsi isStr (eOp fIx (eVar 1) (eC (.int 0)))))) (tvOr (tv (eOp fNe (eOp fIx (eVar 1) (eC (.int 0))) (eC (.str (PySem.Str.ofString "check"))))) (tvNot (tv (eIsi isTup (eOp fIx (eVar 1) (eC (.int 1)))))))))
  (sRet (eC (.bool false)))
  sNext)
  (sSeq (sAsg 2 (eB fLen (aCons (eOp fIx (eVar 1) (eC (.int 1))) aNil)))
  (sSeq (sIf (tvOr (tvNot (tv (eChain fLe fLe (eC (.int 1)) (eVar 2) (eC (.int 5))))) (tvOr (tvNot (tv (eCall fn_are_elements (aCons (eVar 0) (aCons (eOp fIx (eVar 1) (eC (.int 1))) (aCons (eVar 2) aNil)))))) (tvNot (tv (eCall fn_is_element_of (aCons (eVar 0) (aCons (eOp fIx (eVar 1) (eC (.int 3))) aNil)))))))
  (sRet (eC (.bool false)))
  sNext)
  (sRet (eCall fn_are_numbers (aCons (eOp fIx (eVar 1) (eC (.int 2))) (aCons (eVar 2) (aCons (eOp fIx (eVar 0) (eC (.int 2))) aNil))))))))
def fn_is_check_of : List D → M D := fnOfB 3 m_is_check_of
def m_is_lot_of : Sv := (sSeq (sIf (tvOr (tvNot (tv (eIsi isTup (eVar 1)))) (tvNot (tv (eChain fLe fLe (eC (.int 1)) (eB fLen (aCons (eVar 1) aNil)) (eC (.int 16))))))
  (sRet (eC (.bool false)))
  sNext)
  (sRet (eB fAll (aCons (eComp (iSeq false (eVar 1)) (pName 2) tvYes (eCall fn_is_check_of (aCons (eVar 0) (aCons (eVar 2) aNil))) [2]) aNil))))
def fn_is_lot_of : List D → M D := fnOfB 3 m_is_lot_of
def m_want_lot : Sv := (sSeq (sIf (tvNot (tv (eCall fn_is_lot_of (aCons (eVar 0) (aCons (eVar 1) aNil)))))
  sNever
  sNext)
  (sRet (eVar 1)))
def fn_want_lot : List D → M D := fnOfB 2 m_want_lot
def m_want_weights : Sv := (sSeq (sIf (tvNot (tv (eCall fn_are_numbers (aCons (eVar 2) (aCons (eB fLen (aCons (eVar 1) aNil)) (aCons (eOp fIx (eVar 0) (eC (.int 2))) aNil))))))
  sNever
  sNext)
  (sRet (eVar 2)))
def fn_want_weights : List D → M D := fnOfB 3 m_want_weights
def m_want_weighed : Sv := (sSeq (sExpr (eCall fn_want_lot (aCons (eCall fn_want_group (aCons (eVar 0) aNil)) (aCons (eVar 1) aNil))))
  (sExpr (eCall fn_want_weights (aCons (eVar 0) (aCons (eVar 1) (aCons (eVar 2) aNil))))))
def fn_want_weighed : List D → M D := fnOfB 3 m_want_weighed
def m_batch : Sv := (sSeq (sExpr (eCall fn_want_weighed (aCons (eVar 0) (aCons (eVar 1) (aCons (eVar 2) aNil)))))
  (sRet (eCall fn_batch_of (aCons (eVar 0) (aCons (eVar 1) (aCons (eVar 2) aNil))))))
def fn_batch : List D → M D := fnOfB 3 m_batch
def m_merged_of : Sv := (sSeq (sOwn 3 eDict0)
  (sSeq (sFor (iZip2 true (eVar 1) (eVar 2)) (pTup 2 (psCons (pName 4) (psCons (pName 5) psNil)))
  (sSeq (sFor (iZip2 true (eOp fIx (eVar 4) (eC (.int 1))) (eOp fIx (eVar 4) (eC (.int 2)))) (pTup 2 (psCons (pName 6) (psCons (pName 7) psNil)))
  (sPutD 3 (eVar 6) (eOp fMod (eOp fAdd (eGet2 (eVar 3) (eVar 6) (eC (.int 0))) (eOp fMulA (eVar 5) (eVar 7))) (eOp fIx (eVar 0) (eC (.int 2))))))
  (sPutD 3 (eOp fIx (eVar 4) (eC (.int 3))) (eOp fMod (eOp fSub (eGet2 (eVar 3) (eOp fIx (eVar 4) (eC (.int 3))) (eC (.int 0))) (eVar 5)) (eOp fIx (eVar 0) (eC (.int 2)))))))
  (sRet (eB fTuple (aCons (eComp (iSeq false (eB fSortedD (aCons (eVar 3) aNil))) (pName 8) (tv (eOp fNe (eOp fIxD (eVar 3) (eVar 8)) (eC (.int 0)))) (eTup (aCons (eVar 8) (aCons (eOp fIxD (eVar 3) (eVar 8)) aNil))) [8]) aNil)))))
def fn_merged_of : List D → M D := fnOfB 9 m_merged_of
def m_merged : Sv := (sSeq (sExpr (eCall fn_want_weighed (aCons (eVar 0) (aCons (eVar 1) (aCons (eVar 2) aNil)))))
  (sRet (eCall fn_merged_of (aCons (eVar 0) (aCons (eVar 1) (aCons (eVar 2) aNil))))))
def fn_merged : List D → M D := fnOfB 3 m_merged
def m_log_of : Sv := (sSeq (sAsgT (eTup (aCons (eC (.int 1)) (aCons (eC (.int 0)) aNil))) (tP (pTup 2 (psCons (pName 2) (psCons (pName 3) psNil)))))
  (sSeq (sWhile (tv (eOp fNe (eVar 2) (eVar 1)))
  (sPar 2 3 (aCons (eOp fMod (eOp fMulA (eVar 2) (eOp fIx (eVar 0) (eC (.int 3)))) (eOp fIx (eVar 0) (eC (.int 1)))) (aCons (eOp fAdd (eVar 3) (eC (.int 1))) aNil))))
  (sRet (eVar 3))))
def fn_log_of : List D → M D := fnOfB 4 m_log_of
def m_only_weight_of : Sv := (sSeq (sIf (tv (eOp fEq (eCall fn_fault_of (aCons (eVar 0) (aCons (eOp fIx (eVar 1) (eVar 3)) aNil))) (eC (.int 1))))
  (sRet (eC .none))
  sNext)
  (sSeq (sAsg 4 (eB fTuple (aCons (eComp (iEnum1 false (eVar 2)) (pTup 2 (psCons (pName 6) (psCons (pName 7) psNil))) tvYes (eIf (tv (eOp fEq (eVar 6) (eVar 3))) (eC (.int 0)) (eVar 7)) [6, 7]) aNil)))
  (sSeq (sAsg 5 (eCall fn_log_of (aCons (eVar 0) (aCons (eCall fn_under_of (aCons (eVar 0) (aCons (eCall fn_batch_of (aCons (eVar 0) (aCons (eVar 1) (aCons (eVar 4) aNil)))) aNil))) aNil))))
  (sRet (eOp fMod (eOp fMulA (eVar 5) (eCall fn_powered (aCons (eCall fn_log_of (aCons (eVar 0) (aCons (eCall fn_fault_of (aCons (eVar 0) (aCons (eOp fIx (eVar 1) (eVar 3)) aNil))) aNil))) (aCons (eOp fSub (eOp fIx (eVar 0) (eC (.int 2))) (eC (.int 2))) (aCons (eOp fIx (eVar 0) (eC (.int 2))) aNil))))) (eOp fIx (eVar 0) (eC (.int 2))))))))
def fn_only_weight_of : List D → M D := fnOfB 8 m_only_weight_of
def m_only_weight : Sv := (sSeq (sExpr (eCall fn_want_weighed (aCons (eVar 0) (aCons (eVar 1) (aCons (eVar 2) aNil)))))
  (sSeq (sIf (tvNot (tv (eCall fn_is_below (aCons (eVar 3) (aCons (eB fLen (aCons (eVar 1) aNil)) aNil)))))
  sNever
  sNext)
  (sRet (eCall fn_only_weight_of (aCons (eVar 0) (aCons (eVar 1) (aCons (eVar 2) (aCons (eVar 3) aNil))))))))
def fn_only_weight : List D → M D := fnOfB 4 m_only_weight
def m_passes : Sv := (sSeq (sExpr (eCall fn_want_weighed (aCons (eVar 0) (aCons (eVar 1) (aCons (eVar 2) aNil)))))
  (sRet (eOp fEq (eCall fn_batch_of (aCons (eVar 0) (aCons (eVar 1) (aCons (eVar 2) aNil)))) (eC (.int 1)))))
def fn_passes : List D → M D := fnOfB 3 m_passes
def m_want_element : Sv := (sSeq (sIf (tvNot (tv (eCall fn_is_element_of (aCons (eVar 0) (aCons (eVar 1) aNil)))))
  sNever
  sNext)
  (sRet (eVar 1)))
def fn_want_element : List D → M D := fnOfB 2 m_want_element
def m_times : Sv := (sSeq (sExpr (eCall fn_want_element (aCons (eCall fn_want_group (aCons (eVar 0) aNil)) (aCons (eVar 1) aNil))))
  (sRet (eCall fn_times_of (aCons (eVar 0) (aCons (eVar 1) (aCons (eCall fn_want_element (aCons (eVar 0) (aCons (eVar 2) aNil))) aNil))))))
def fn_times : List D → M D := fnOfB 3 m_times
def m__law_lot_right : Sv := (sSeq (sAsgT (eTup (aCons (eCall fn__law_weights (aCons (eVar 0) (aCons (eVar 1) (aCons (eVar 2) aNil)))) (aCons (eCall fn__law_weights (aCons (eVar 0) (aCons (eVar 1) (aCons (eVar 2) aNil)))) aNil))) (tP (pTup 2 (psCons (pName 7) (psCons (pName 8) psNil)))))
  (sSeq (sAsg 3 (eCall fn__law_power (aCons (eVar 1) (aCons (eOp fIx (eVar 1) (eC (.int 3))) (aCons (eCall fn__law_batch (aCons (eVar 1) (aCons (eVar 2) (aCons (eVar 7) aNil)))) aNil)))))
  (sSeq (sAsg 4 (eLst (aCons (eCall fn_batch (aCons (eVar 1) (aCons (eVar 2) (aCons (eVar 7) aNil)))) (aCons (eCallK fn_batch [2, 1, 0] aNil (aCons (eVar 7) (aCons (eVar 2) (aCons (eVar 1) aNil)))) (aCons (eCall fn_passes (aCons (eVar 1) (aCons (eVar 2) (aCons (eVar 7) aNil)))) (aCons (eCallK fn_passes [2, 1, 0] aNil (aCons (eVar 7) (aCons (eVar 2) (aCons (eVar 1) aNil)))) aNil))))))
  (sSeq (sIf (tv (eOp fNe (eB fRepr (aCons (eVar 4) aNil)) (eB fRepr (aCons (eLst (aCons (eVar 3) (aCons (eVar 3) (aCons (eOp fEq (eVar 3) (eC (.int 1))) (aCons (eOp fEq (eVar 3) (eC (.int 1))) aNil))))) aNil))))
  (sRet (eC (.bool false)))
  sNext)
  (sSeq (sAsg 5 (eCall fn__law_merged (aCons (eVar 1) (aCons (eVar 2) (aCons (eVar 7) aNil)))))
  (sSeq (sIf (tv (eOp fNe (eB fRepr (aCons (eLst (aCons (eCall fn_merged (aCons (eVar 1) (aCons (eVar 2) (aCons (eVar 7) aNil)))) (aCons (eCallK fn_merged [2, 1, 0] aNil (aCons (eVar 7) (aCons (eVar 2) (aCons (eVar 1) aNil)))) aNil))) aNil)) (eB fRepr (aCons (eLst (aCons (eVar 5) (aCons (eVar 5) aNil))) aNil))))
  (sRet (eC (.bool false)))
  sNext)
  (sSeq (sIf (tv (eOp fNe (eCall fn__law_product (aCons (eVar 1) (aCons (eComp (iSeq false (eVar 5)) (pName 14) tvYes (eOp fIx (eVar 14) (eC (.int 0))) [14]) (aCons (eComp (iSeq false (eVar 5)) (pName 14) tvYes (eOp fIx (eVar 14) (eC (.int 1))) [14]) aNil)))) (eVar 3)))
  (sRet (eC (.bool false)))
  sNext)
  (sSeq (sAsg 6 (eB fTuple (aCons (eComp (iZip2 false (eVar 7) (eVar 8)) (pTup 2 (psCons (pName 15) (psCons (pName 16) psNil))) tvYes (eOp fMod (eB fInt (aCons (eOp fAdd (eVar 15) (eVar 16)) aNil)) (eOp fIx (eVar 1) (eC (.int 2)))) [15, 16]) aNil)))
  (sSeq (sIf (tvOr (tv (eOp fNe (eCall fn_batch (aCons (eVar 1) (aCons (eVar 2) (aCons (eVar 6) aNil)))) (eCall fn_times (aCons (eVar 1) (aCons (eVar 3) (aCons (eCall fn_batch (aCons (eVar 1) (aCons (eVar 2) (aCons (eVar 8) aNil)))) aNil)))))) (tv (eOp fNe (eCall fn_batch (aCons (eVar 1) (aCons (eOp fAdd (eVar 2) (eVar 2)) (aCons (eOp fAdd (eVar 7) (eVar 8)) aNil)))) (eCall fn_batch (aCons (eVar 1) (aCons (eVar 2) (aCons (eVar 6) aNil)))))))
  (sRet (eC (.bool false)))
  sNext)
  (sSeq (sFor (iEnum1 true (eVar 2)) (pTup 2 (psCons (pName 9) (psCons (pName 10) psNil)))
  (sSeq (sAsg 11 (eComp (iRange1 (eOp fIx (eVar 1) (eC (.int 2)))) (pName 13) (tv (eOp fEq (eCall fn__law_batch (aCons (eVar 1) (aCons (eVar 2) (aCons (eOp fAdd (eOp fAdd (eSl (eVar 7) oNo (oSome (eVar 9))) (eTup (aCons (eVar 13) aNil))) (eSl (eVar 7) (oSome (eOp fAdd (eVar 9) (eC (.int 1)))) oNo)) aNil)))) (eC (.int 0)))) (eVar 13) [13]))
  (sSeq (sAsg 12 (eIf (tv (eOp fNe (eCall fn__law_fault (aCons (eVar 1) (aCons (eVar 10) aNil))) (eC (.int 0)))) (eOp fIx (eVar 11) (eC (.int 0))) (eC .none)))
  (sSeq (sIf (tvAnd (tv (eOp fIsNot (eVar 12) (eC .none))) (tv (eOp fNe (eB fLen (aCons (eVar 11) aNil)) (eC (.int 1)))))
  (sRet (eC (.bool false)))
  sNext)
  (sSeq (sIf (tv (eOp fNe (eB fRepr (aCons (eLst (aCons (eCall fn_only_weight (aCons (eVar 1) (aCons (eVar 2) (aCons (eVar 7) (aCons (eVar 9) aNil))))) (aCons (eCallK fn_only_weight [3, 2, 1, 0] aNil (aCons (eVar 9) (aCons (eVar 7) (aCons (eVar 2) (aCons (eVar 1) aNil))))) aNil))) aNil)) (eB fRepr (aCons (eLst (aCons (eVar 12) (aCons (eVar 12) aNil))) aNil))))
  (sRet (eC (.bool false)))
  sNext)
  (sIf (tvAnd (tv (eOp fIsNot (eVar 12) (eC .none))) (tv (eOp fNotB (eCall fn_passes (aCons (eVar 1) (aCons (eVar 2) (aCons (eOp fAdd (eOp fAdd (eSl (eVar 7) oNo (oSome (eVar 9))) (eTup (aCons (eVar 12) aNil))) (eSl (eVar 7) (oSome (eOp fAdd (eVar 9) (eC (.int 1)))) oNo)) aNil)))) (eC (.bool true)))))
  (sRet (eC (.bool false)))
  sNext))))))
  (sRet (eC (.bool true)))))))))))))
def fn__law_lot_right : List D → M D := fnOfB 17 m__law_lot_right
def m__law_right : Sv := (sSeq (sAsg 1 (eCall fn__law_group (aCons (eVar 0) aNil)))
  (sSeq (sAsg 2 (eCall fn__law_lot (aCons (eVar 0) (aCons (eVar 1) (aCons (eC (.int 5)) aNil)))))
  (sSeq (sIf (tv (eOp fEq (eCall fn__law_draw (aCons (eVar 0) (aCons (eC (.int 2)) aNil))) (eC (.int 0))))
  (sAsg 2 (eOp fAdd (eVar 2) (eB fTuple (aCons (eLst (aCons (eTup (aCons (eC (.str (PySem.Str.ofString "check"))) (aCons (eOp fIx (eOp fIx (eVar 2) (eC (.int 0))) (eC (.int 1))) (aCons (eOp fIx (eOp fIx (eVar 2) (eC (.int 0))) (eC (.int 2))) (aCons (eCall fn__law_element (aCons (eVar 0) (aCons (eVar 1) aNil))) aNil))))) aNil)) aNil))))
  sNext)
  (sSeq (sAsg 3 (eB fRepr (aCons (eVar 2) aNil)))
  (sRet (eAnd (eCall fn__law_lot_right (aCons (eVar 0) (aCons (eVar 1) (aCons (eVar 2) aNil)))) (eOp fEq (eB fRepr (aCons (eVar 2) aNil)) (eVar 3))))))))
def fn__law_right : List D → M D := fnOfB 4 m__law_right
def m_law : Sv := (sRet (eB fAll (aCons (eComp (iRange1 (eB fMax (aCons (eC (.int 1)) (aCons (eB fMin (aCons (eC (.int 2)) (aCons (eB fLen (aCons (eVar 0) aNil)) aNil))) aNil)))) (pName 1) tvYes (eCall fn__law_right (aCons (eCall fn__law_pot (aCons (eVar 0) (aCons (eVar 1) aNil))) aNil)) [1]) aNil)))
def fn_law : List D → M D := fnOfB 2 m_law
end k70
set_option Elab.async false
set_option linter.all false
set_option maxRecDepth 100000
set_option maxHeartbeats 4000000
namespace k70
open PySem PySem.Spec PyProof.Rows L2 Sim
def topS (i : Nat) : Stmt := PySem.Challenge.pw_showneither_k70_whole_batches_and_merged.main.body.getD i (.Pass ⟨0, 0, 0, 0⟩)
abbrev st__law_pot : Stmt := topS 52
abbrev st__law_draw : Stmt := topS 53
abbrev st__law_power : Stmt := topS 56
abbrev st__law_element : Stmt := topS 57
abbrev st__law_pick : Stmt := topS 54
abbrev st__law_group : Stmt := topS 55
abbrev st__law_product : Stmt := topS 59
abbrev st__law_check : Stmt := topS 60
abbrev st__law_lot : Stmt := topS 61
abbrev st__law_log : Stmt := topS 58
abbrev st__law_fault : Stmt := topS 62
abbrev st__law_batch : Stmt := topS 64
abbrev st__law_merged : Stmt := topS 65
abbrev st__law_weights : Stmt := topS 63
abbrev st_powered : Stmt := topS 17
abbrev st_power_of : Stmt := topS 21
abbrev st_times_of : Stmt := topS 20
abbrev st_product_of : Stmt := topS 31
abbrev st_under_of : Stmt := topS 22
abbrev st_fault_of : Stmt := topS 38
abbrev st_faults_of : Stmt := topS 39
abbrev st_batch_of : Stmt := topS 44
abbrev st_is_integer : Stmt := topS 8
abbrev st_is_prime : Stmt := topS 16
abbrev st_is_row : Stmt := topS 11
abbrev st_is_group_of : Stmt := topS 18
abbrev st_want_group : Stmt := topS 24
abbrev st_is_element_of : Stmt := topS 19
abbrev st_are_elements : Stmt := topS 30
abbrev st_is_count : Stmt := topS 9
abbrev st_is_below : Stmt := topS 10
abbrev st_are_numbers : Stmt := topS 28
abbrev st_is_check_of : Stmt := topS 36
abbrev st_is_lot_of : Stmt := topS 37
abbrev st_want_lot : Stmt := topS 40
abbrev st_want_weights : Stmt := topS 42
abbrev st_want_weighed : Stmt := topS 43
abbrev st_batch : Stmt := topS 47
abbrev st_merged_of : Stmt := topS 45
abbrev st_merged : Stmt := topS 49
abbrev st_log_of : Stmt := topS 23
abbrev st_only_weight_of : Stmt := topS 46
abbrev st_only_weight : Stmt := topS 50
abbrev st_passes : Stmt := topS 48
abbrev st_want_element : Stmt := topS 25
abbrev st_times : Stmt := topS 26
abbrev st__law_lot_right : Stmt := topS 66
abbrev st__law_right : Stmt := topS 67
abbrev st_law : Stmt := topS 68
structure Tops (K : PySem.W.Frag) (mg : Str → Option Value) : Prop where
  f__law_pot : TopF K mg "_law_pot" st__law_pot
  f__law_draw : TopF K mg "_law_draw" st__law_draw
  f__law_power : TopF K mg "_law_power" st__law_power
  f__law_element : TopF K mg "_law_element" st__law_element
  f__law_pick : TopF K mg "_law_pick" st__law_pick
  f__law_group : TopF K mg "_law_group" st__law_group
  f__law_product : TopF K mg "_law_product" st__law_product
  f__law_check : TopF K mg "_law_check" st__law_check
  f__law_lot : TopF K mg "_law_lot" st__law_lot
  f__law_log : TopF K mg "_law_log" st__law_log
  f__law_fault : TopF K mg "_law_fault" st__law_fault
  f__law_batch : TopF K mg "_law_batch" st__law_batch
  f__law_merged : TopF K mg "_law_merged" st__law_merged
  f__law_weights : TopF K mg "_law_weights" st__law_weights
  f_powered : TopF K mg "powered" st_powered
  f_power_of : TopF K mg "power_of" st_power_of
  f_times_of : TopF K mg "times_of" st_times_of
  f_product_of : TopF K mg "product_of" st_product_of
  f_under_of : TopF K mg "under_of" st_under_of
  f_fault_of : TopF K mg "fault_of" st_fault_of
  f_faults_of : TopF K mg "faults_of" st_faults_of
  f_batch_of : TopF K mg "batch_of" st_batch_of
  f_is_integer : TopF K mg "is_integer" st_is_integer
  f_is_prime : TopF K mg "is_prime" st_is_prime
  f_is_row : TopF K mg "is_row" st_is_row
  f_is_group_of : TopF K mg "is_group_of" st_is_group_of
  f_want_group : TopF K mg "want_group" st_want_group
  f_is_element_of : TopF K mg "is_element_of" st_is_element_of
  f_are_elements : TopF K mg "are_elements" st_are_elements
  f_is_count : TopF K mg "is_count" st_is_count
  f_is_below : TopF K mg "is_below" st_is_below
  f_are_numbers : TopF K mg "are_numbers" st_are_numbers
  f_is_check_of : TopF K mg "is_check_of" st_is_check_of
  f_is_lot_of : TopF K mg "is_lot_of" st_is_lot_of
  f_want_lot : TopF K mg "want_lot" st_want_lot
  f_want_weights : TopF K mg "want_weights" st_want_weights
  f_want_weighed : TopF K mg "want_weighed" st_want_weighed
  f_batch : TopF K mg "batch" st_batch
  f_merged_of : TopF K mg "merged_of" st_merged_of
  f_merged : TopF K mg "merged" st_merged
  f_log_of : TopF K mg "log_of" st_log_of
  f_only_weight_of : TopF K mg "only_weight_of" st_only_weight_of
  f_only_weight : TopF K mg "only_weight" st_only_weight
  f_passes : TopF K mg "passes" st_passes
  f_want_element : TopF K mg "want_element" st_want_element
  f_times : TopF K mg "times" st_times
  f__law_lot_right : TopF K mg "_law_lot_right" st__law_lot_right
  f__law_right : TopF K mg "_law_right" st__law_right
  f_law : TopF K mg "law" st_law
  b_abs : mg "abs" = none
  b_all : mg "all" = none
  b_bool : mg "bool" = none
  b_divmod : mg "divmod" = none
  b_enumerate : mg "enumerate" = none
  b_int : mg "int" = none
  b_isinstance : mg "isinstance" = none
  b_len : mg "len" = none
  b_list : mg "list" = none
  b_max : mg "max" = none
  b_min : mg "min" = none
  b_range : mg "range" = none
  b_repr : mg "repr" = none
  b_sorted : mg "sorted" = none
  b_str : mg "str" = none
  b_sum : mg "sum" = none
  b_tuple : mg "tuple" = none
  b_zip : mg "zip" = none
  c_CHECK : ∃ t, mg "CHECK" = some (.str (PySem.Str.ofString "check") t)
  c_GROUP : ∃ t, mg "GROUP" = some (.str (PySem.Str.ofString "group") t)
  c_MOST_BASES : ∃ t, mg "MOST_BASES" = some (.int 5 t)
  c_MOST_CHECKS : ∃ t, mg "MOST_CHECKS" = some (.int 16 t)
  c_MOST_P : ∃ t, mg "MOST_P" = some (.int 999983 t)
  c_MOST_Q : ∃ t, mg "MOST_Q" = some (.int 9973 t)
section
variable {P : Program} {w : World} {K : PySem.W.Frag} {mg : Str → Option Value} {base : Heap}
theorem sc__law_pot : FnScope ["script", "k", "cell"] ["script", "k"] (defScope st__law_pot) := ⟨rfl, rfl, rfl, by decide +kernel, rfl, by decide +kernel, by decide +kernel⟩
theorem g__law_pot (T : Tops K mg) : Fn P w K mg base 1 "_law_pot" st__law_pot ["script", "k"] fn__law_pot := by
  refine fn_mk T.f__law_pot sc__law_pot (fun _ _ _ _ _ _ us hl => match us, hl with | [_, _], _ => rfl) (fun b e1 e2 e3 e4 e5 c => ?_)
  subst e1 e2 e3 e4 e5
  exact (ss_cons (ss_asg c (se_if (st_cmp op_lt ok_lt (se_var (i := 1)) (se_blt cr_lenA ok_len T.b_len (sa_cons (se_var (i := 0)) sa_nil))) (se_blt call_abs ok_abs T.b_abs (sa_cons (se_ix (se_var (i := 0)) (se_var (i := 1))) sa_nil)) (se_add (se_mul se_int (se_var (i := 1))) se_int)) (i := 2))
    (ss_one (ss_ret (se_newCell (sa_cons (se_blt ((call_max2 c.calm).or (cr_max c.calm)) ok_max T.b_max (sa_cons se_int (sa_cons (se_sub (se_var (i := 2)) (se_pow se_int se_int)) sa_nil))) (sa_cons (se_add (se_mod (se_bty call_int1 ok_intc T.b_int (sa_cons (se_add (se_add (se_mul (se_mod (se_bty call_int1 ok_intc T.b_int (sa_cons (se_var (i := 2)) sa_nil)) se_int) se_int) (se_mul se_int (se_var (i := 1)))) se_int) sa_nil)) se_int) se_int) sa_nil))))))
theorem sc__law_draw : FnScope ["pot", "many", "digit"] ["pot", "many"] (defScope st__law_draw) := ⟨rfl, rfl, rfl, by decide +kernel, rfl, by decide +kernel, by decide +kernel⟩
theorem g__law_draw (T : Tops K mg) : Fn P w K mg base 1 "_law_draw" st__law_draw ["pot", "many"] fn__law_draw := by
  refine fn_mk T.f__law_draw sc__law_draw (fun _ _ _ _ _ _ us hl => match us, hl with | [_, _], _ => rfl) (fun b e1 e2 e3 e4 e5 c => ?_)
  subst e1 e2 e3 e4 e5
  exact (ss_cons (ss_if (st_cmp op_gt ok_gt (se_ix (se_var (i := 0)) se_int) se_int)
    (ss_cons (ss_asgT (se_blt call_divmod ok_divmod T.b_divmod (sa_cons (se_ix (se_var (i := 0)) se_int) (sa_cons (se_var (i := 1)) sa_nil))) (sg_tup (n := 2) c (sgs_cons (sg_setIx (i := 0) se_int) (sgs_cons (sg_name (i := 2) c) sgs_nil))) (noRet_tup (noRets_cons noRet_setIx (noRets_cons noRet_name noRets_nil))))
    (ss_one (ss_ret (se_var (i := 2)))))
    ss_nil)
    (ss_cons (ss_asgT (se_mod (se_bty call_int1 ok_intc T.b_int (sa_cons (se_add (se_mul (se_ix (se_var (i := 0)) se_int) se_int) se_int) sa_nil)) se_int) (sg_setIx (i := 0) se_int) noRet_setIx)
    (ss_one (ss_ret (se_mod (se_bty call_int1 ok_intc T.b_int (sa_cons (se_div (se_mod (se_bty call_int1 ok_intc T.b_int (sa_cons (se_mul (se_ix (se_var (i := 0)) se_int) (se_ix (se_var (i := 0)) se_int)) sa_nil)) se_int) se_int) sa_nil)) (se_var (i := 1)))))))
theorem sc__law_power : FnScope ["group", "base", "number", "found", "turn"] ["group", "base", "number"] (defScope st__law_power) := ⟨rfl, rfl, rfl, by decide +kernel, rfl, by decide +kernel, by decide +kernel⟩
theorem g__law_power (T : Tops K mg) : Fn P w K mg base 1 "_law_power" st__law_power ["group", "base", "number"] fn__law_power := by
  refine fn_mk T.f__law_power sc__law_power (fun _ _ _ _ _ _ us hl => match us, hl with | [_, _, _], _ => rfl) (fun b e1 e2 e3 e4 e5 c => ?_)
  subst e1 e2 e3 e4 e5
  exact (ss_cons (ss_asg c se_int (i := 3))
    (ss_cons (ss_for c (si_range1 T.b_range (se_var (i := 2))) (sp_name (i := 4) c)
    (ss_one (ss_asg c (se_mod (se_bty call_int1 ok_intc T.b_int (sa_cons (se_mul (se_var (i := 3)) (se_var (i := 1))) sa_nil)) (se_ix (se_var (i := 0)) se_int)) (i := 3))))
    (ss_one (ss_ret (se_var (i := 3))))))
theorem sc__law_element : FnScope ["pot", "group"] ["pot", "group"] (defScope st__law_element) := ⟨rfl, rfl, rfl, by decide +kernel, rfl, by decide +kernel, by decide +kernel⟩
theorem g__law_element (T : Tops K mg) : Fn P w K mg base 2 "_law_element" st__law_element ["pot", "group"] fn__law_element := by
  refine fn_mk T.f__law_element sc__law_element (fun _ _ _ _ _ _ us hl => match us, hl with | [_, _], _ => rfl) (fun b e1 e2 e3 e4 e5 c => ?_)
  subst e1 e2 e3 e4 e5
  exact (ss_one (ss_ret (se_f (g__law_power T) c (sa_cons (se_var (i := 1)) (sa_cons (se_ix (se_var (i := 1)) se_int) (sa_cons (se_f (g__law_draw T) c (sa_cons (se_var (i := 0)) (sa_cons (se_ix (se_var (i := 1)) se_int) sa_nil))) sa_nil))))))
theorem sc__law_pick : FnScope ["pot", "some"] ["pot", "some"] (defScope st__law_pick) := ⟨rfl, rfl, rfl, by decide +kernel, rfl, by decide +kernel, by decide +kernel⟩
theorem g__law_pick (T : Tops K mg) : Fn P w K mg base 2 "_law_pick" st__law_pick ["pot", "some"] fn__law_pick := by
  refine fn_mk T.f__law_pick sc__law_pick (fun _ _ _ _ _ _ us hl => match us, hl with | [_, _], _ => rfl) (fun b e1 e2 e3 e4 e5 c => ?_)
  subst e1 e2 e3 e4 e5
  exact (ss_one (ss_ret (se_ix (se_var (i := 1)) (se_f (g__law_draw T) c (sa_cons (se_var (i := 0)) (sa_cons (se_blt cr_lenA ok_len T.b_len (sa_cons (se_var (i := 1)) sa_nil)) sa_nil))))))
theorem sc__law_group : FnScope ["pot"] ["pot"] (defScope st__law_group) := ⟨rfl, rfl, rfl, by decide +kernel, rfl, by decide +kernel, by decide +kernel⟩
theorem g__law_group (T : Tops K mg) : Fn P w K mg base 3 "_law_group" st__law_group ["pot"] fn__law_group := by
  refine fn_mk T.f__law_group sc__law_group (fun _ _ _ _ _ _ us hl => match us, hl with | [_], _ => rfl) (fun b e1 e2 e3 e4 e5 c => ?_)
  subst e1 e2 e3 e4 e5
  exact (ss_one (ss_ret (se_add (se_tup (sa_cons se_str sa_nil)) (se_f (g__law_pick T) c (sa_cons (se_var (i := 0)) (sa_cons (se_lst (sa_cons (se_tup (sa_cons se_int (sa_cons se_int (sa_cons se_int sa_nil)))) (sa_cons (se_tup (sa_cons se_int (sa_cons se_int (sa_cons se_int sa_nil)))) (sa_cons (se_tup (sa_cons se_int (sa_cons se_int (sa_cons se_int sa_nil)))) (sa_cons (se_tup (sa_cons se_int (sa_cons se_int (sa_cons se_int sa_nil)))) (sa_cons (se_tup (sa_cons se_int (sa_cons se_int (sa_cons se_int sa_nil)))) (sa_cons (se_tup (sa_cons se_int (sa_cons se_int (sa_cons se_int sa_nil)))) (sa_cons (se_tup (sa_cons se_int (sa_cons se_int (sa_cons se_int sa_nil)))) sa_nil)))))))) sa_nil))))))
theorem sc__law_product : FnScope ["group", "bases", "numbers", "found", "base", "number"] ["group", "bases", "numbers"] (defScope st__law_product) := ⟨rfl, rfl, rfl, by decide +kernel, rfl, by decide +kernel, by decide +kernel⟩
theorem g__law_product (T : Tops K mg) : Fn P w K mg base 2 "_law_product" st__law_product ["group", "bases", "numbers"] fn__law_product := by
  refine fn_mk T.f__law_product sc__law_product (fun _ _ _ _ _ _ us hl => match us, hl with | [_, _, _], _ => rfl) (fun b e1 e2 e3 e4 e5 c => ?_)
  subst e1 e2 e3 e4 e5
  exact (ss_cons (ss_asg c se_int (i := 3))
    (ss_cons (ss_for c (si_zip T.b_zip (se_var (i := 1)) (se_var (i := 2))) (sp_tup (n := 2) c (sps_cons (sp_name (i := 4) c) (sps_cons (sp_name (i := 5) c) sps_nil)))
    (ss_one (ss_asg c (se_mod (se_bty call_int1 ok_intc T.b_int (sa_cons (se_mul (se_var (i := 3)) (se_f (g__law_power T) c (sa_cons (se_var (i := 0)) (sa_cons (se_var (i := 4)) (sa_cons (se_var (i := 5)) sa_nil))))) sa_nil)) (se_ix (se_var (i := 0)) se_int)) (i := 3))))
    (ss_one (ss_ret (se_var (i := 3))))))
theorem sc__law_check : FnScope ["pot", "group", "bases", "numbers", "target", "base"] ["pot", "group"] (defScope st__law_check) := ⟨rfl, rfl, rfl, by decide +kernel, rfl, by decide +kernel, by decide +kernel⟩
theorem g__law_check (T : Tops K mg) : Fn P w K mg base 3 "_law_check" st__law_check ["pot", "group"] fn__law_check := by
  refine fn_mk T.f__law_check sc__law_check (fun _ _ _ _ _ _ us hl => match us, hl with | [_, _], _ => rfl) (fun b e1 e2 e3 e4 e5 c => ?_)
  subst e1 e2 e3 e4 e5
  exact (ss_cons (ss_asg c (se_bty call_tuple_of ok_tuple T.b_tuple (sa_cons (se_of (sf_comp (own := [("base", 5)]) c (si_range1 T.b_range (se_add se_int (se_f (g__law_draw T) c (sa_cons (se_var (i := 0)) (sa_cons se_int sa_nil))))) (blkOk_by (by rfl)) (fun _ _ _ _ _ c => (sp_name (i := 5) c)) (fun _ _ _ _ _ c => sts_nil) (fun _ _ _ _ _ c => (se_f (g__law_element T) c (sa_cons (se_var (i := 0)) (sa_cons (se_var (i := 1)) sa_nil)))))) sa_nil)) (i := 2))
    (ss_cons (ss_asg c (se_bty call_tuple_of ok_tuple T.b_tuple (sa_cons (se_of (sf_comp (own := [("base", 5)]) c (si_seq (se_var (i := 2))) (blkOk_by (by rfl)) (fun _ _ _ _ _ c => (sp_name (i := 5) c)) (fun _ _ _ _ _ c => sts_nil) (fun _ _ _ _ _ c => (se_f (g__law_draw T) c (sa_cons (se_var (i := 0)) (sa_cons (se_ix (se_var (i := 1)) se_int) sa_nil)))))) sa_nil)) (i := 3))
    (ss_cons (ss_asg c (se_f (g__law_product T) c (sa_cons (se_var (i := 1)) (sa_cons (se_var (i := 2)) (sa_cons (se_var (i := 3)) sa_nil)))) (i := 4))
    (ss_cons (ss_if (st_cmp (op_eqD (un64 c.hr)) ok_eq (se_f (g__law_draw T) c (sa_cons (se_var (i := 0)) (sa_cons se_int sa_nil))) se_int)
    (ss_one (ss_asg c (se_mod (se_bty call_int1 ok_intc T.b_int (sa_cons (se_mul (se_var (i := 4)) (se_f (g__law_element T) c (sa_cons (se_var (i := 0)) (sa_cons (se_var (i := 1)) sa_nil)))) sa_nil)) (se_ix (se_var (i := 1)) se_int)) (i := 4)))
    ss_nil)
    (ss_one (ss_ret (se_tup (sa_cons se_str (sa_cons (se_var (i := 2)) (sa_cons (se_var (i := 3)) (sa_cons (se_var (i := 4)) sa_nil)))))))))))
theorem sc__law_lot : FnScope ["pot", "group", "most", "turn"] ["pot", "group", "most"] (defScope st__law_lot) := ⟨rfl, rfl, rfl, by decide +kernel, rfl, by decide +kernel, by decide +kernel⟩
theorem g__law_lot (T : Tops K mg) : Fn P w K mg base 4 "_law_lot" st__law_lot ["pot", "group", "most"] fn__law_lot := by
  refine fn_mk T.f__law_lot sc__law_lot (fun _ _ _ _ _ _ us hl => match us, hl with | [_, _, _], _ => rfl) (fun b e1 e2 e3 e4 e5 c => ?_)
  subst e1 e2 e3 e4 e5
  exact (ss_one (ss_ret (se_bty call_tuple_of ok_tuple T.b_tuple (sa_cons (se_of (sf_comp (own := [("turn", 3)]) c (si_range1 T.b_range (se_add se_int (se_f (g__law_draw T) c (sa_cons (se_var (i := 0)) (sa_cons (se_var (i := 2)) sa_nil))))) (blkOk_by (by rfl)) (fun _ _ _ _ _ c => (sp_name (i := 3) c)) (fun _ _ _ _ _ c => sts_nil) (fun _ _ _ _ _ c => (se_f (g__law_check T) c (sa_cons (se_var (i := 0)) (sa_cons (se_var (i := 1)) sa_nil)))))) sa_nil))))
theorem sc__law_log : FnScope ["group", "element", "here", "found"] ["group", "element"] (defScope st__law_log) := ⟨rfl, rfl, rfl, by decide +kernel, rfl, by decide +kernel, by decide +kernel⟩
theorem g__law_log (T : Tops K mg) : Fn P w K mg base 1 "_law_log" st__law_log ["group", "element"] fn__law_log := by
  refine fn_mk T.f__law_log sc__law_log (fun _ _ _ _ _ _ us hl => match us, hl with | [_, _], _ => rfl) (fun b e1 e2 e3 e4 e5 c => ?_)
  subst e1 e2 e3 e4 e5
  exact (ss_cons (ss_asg c se_int (i := 2))
    (ss_cons (ss_for c (si_range1 T.b_range (se_ix (se_var (i := 0)) se_int)) (sp_name (i := 3) c)
    (ss_cons (ss_if (st_cmp (op_eqD (un64 c.hr)) ok_eq (se_var (i := 2)) (se_var (i := 1)))
    (ss_one (ss_ret (se_var (i := 3))))
    ss_nil)
    (ss_one (ss_asg c (se_mod (se_bty call_int1 ok_intc T.b_int (sa_cons (se_mul (se_var (i := 2)) (se_ix (se_var (i := 0)) se_int)) sa_nil)) (se_ix (se_var (i := 0)) se_int)) (i := 2)))))
    (ss_one (ss_ret se_int))))
theorem sc__law_fault : FnScope ["group", "check"] ["group", "check"] (defScope st__law_fault) := ⟨rfl, rfl, rfl, by decide +kernel, rfl, by decide +kernel, by decide +kernel⟩
theorem g__law_fault (T : Tops K mg) : Fn P w K mg base 3 "_law_fault" st__law_fault ["group", "check"] fn__law_fault := by
  refine fn_mk T.f__law_fault sc__law_fault (fun _ _ _ _ _ _ us hl => match us, hl with | [_, _], _ => rfl) (fun b e1 e2 e3 e4 e5 c => ?_)
  subst e1 e2 e3 e4 e5
  exact (ss_one (ss_ret (se_mod (se_bty call_int1 ok_intc T.b_int (sa_cons (se_sub (se_f (g__law_log T) c (sa_cons (se_var (i := 0)) (sa_cons (se_f (g__law_product T) c (sa_cons (se_var (i := 0)) (sa_cons (se_ix (se_var (i := 1)) se_int) (sa_cons (se_ix (se_var (i := 1)) se_int) sa_nil)))) sa_nil))) (se_f (g__law_log T) c (sa_cons (se_var (i := 0)) (sa_cons (se_ix (se_var (i := 1)) se_int) sa_nil)))) sa_nil)) (se_ix (se_var (i := 0)) se_int))))
theorem sc__law_batch : FnScope ["group", "lot", "weights", "check", "weight"] ["group", "lot", "weights"] (defScope st__law_batch) := ⟨rfl, rfl, rfl, by decide +kernel, rfl, by decide +kernel, by decide +kernel⟩
theorem g__law_batch (T : Tops K mg) : Fn P w K mg base 4 "_law_batch" st__law_batch ["group", "lot", "weights"] fn__law_batch := by
  refine fn_mk T.f__law_batch sc__law_batch (fun _ _ _ _ _ _ us hl => match us, hl with | [_, _, _], _ => rfl) (fun b e1 e2 e3 e4 e5 c => ?_)
  subst e1 e2 e3 e4 e5
  exact (ss_one (ss_ret (se_mod (se_blt ((cr_sum c.calm).or (cr_sumT c.calm)) ok_sum T.b_sum (sa_cons (se_of (sf_comp (own := [("check", 3), ("weight", 4)]) c (si_zip T.b_zip (se_var (i := 1)) (se_var (i := 2))) (blkOk_by (by rfl)) (fun _ _ _ _ _ c => (sp_tup (n := 2) c (sps_cons (sp_name (i := 3) c) (sps_cons (sp_name (i := 4) c) sps_nil)))) (fun _ _ _ _ _ c => sts_nil) (fun _ _ _ _ _ c => (se_mul (se_f (g__law_fault T) c (sa_cons (se_var (i := 0)) (sa_cons (se_var (i := 3)) sa_nil))) (se_var (i := 4)))))) sa_nil)) (se_ix (se_var (i := 0)) se_int))))
theorem sc__law_merged : FnScope ["group", "lot", "weights", "found", "check", "weight", "base", "number", "element"] ["group", "lot", "weights"] (defScope st__law_merged) := ⟨rfl, rfl, rfl, by decide +kernel, rfl, by decide +kernel, by decide +kernel⟩
theorem g__law_merged (T : Tops K mg) : Fn P w K mg base 1 "_law_merged" st__law_merged ["group", "lot", "weights"] fn__law_merged := by
  refine fn_mk T.f__law_merged sc__law_merged (fun _ _ _ _ _ _ us hl => match us, hl with | [_, _, _], _ => rfl) (fun b e1 e2 e3 e4 e5 c => ?_)
  subst e1 e2 e3 e4 e5
  exact (ss_cons (ss_own c sf_dict0 (i := 3))
    (ss_cons (ss_for c (si_zip T.b_zip (se_var (i := 1)) (se_var (i := 2))) (sp_tup (n := 2) c (sps_cons (sp_name (i := 4) c) (sps_cons (sp_name (i := 5) c) sps_nil)))
    (ss_one (ss_for c (si_seq (se_add (se_listZip c T.b_list T.b_zip (se_ix (se_var (i := 4)) se_int) (se_ix (se_var (i := 4)) se_int)) (se_lst (sa_cons (se_tup (sa_cons (se_ix (se_var (i := 4)) se_int) (sa_cons (se_neg se_int) sa_nil))) sa_nil)))) (sp_tup (n := 2) c (sps_cons (sp_name (i := 6) c) (sps_cons (sp_name (i := 7) c) sps_nil)))
    (ss_one (ss_putD (i := 3) c (se_mod (se_bty call_int1 ok_intc T.b_int (sa_cons (se_add (se_get2 c (se_var (i := 3)) (se_var (i := 6)) se_int) (se_mul (se_var (i := 5)) (se_var (i := 7)))) sa_nil)) (se_ix (se_var (i := 0)) se_int)) (se_var (i := 6)))))))
    (ss_one (ss_ret (se_bty call_tuple_of ok_tuple T.b_tuple (sa_cons (se_of (sf_comp (own := [("element", 8)]) c (si_seq (se_blt (call_sortedDI c.calm) ok_sortedD T.b_sorted (sa_cons (se_var (i := 3)) sa_nil))) (blkOk_by (by rfl)) (fun _ _ _ _ _ c => (sp_name (i := 8) c)) (fun _ _ _ _ _ c => (sts_one (st_cmp (op_neD (un64 c.hr)) ok_ne (se_ixD c (se_var (i := 3)) (se_var (i := 8))) se_int))) (fun _ _ _ _ _ c => (se_tup (sa_cons (se_var (i := 8)) (sa_cons (se_ixD c (se_var (i := 3)) (se_var (i := 8))) sa_nil)))))) sa_nil))))))
theorem sc__law_weights : FnScope ["pot", "group", "lot", "check"] ["pot", "group", "lot"] (defScope st__law_weights) := ⟨rfl, rfl, rfl, by decide +kernel, rfl, by decide +kernel, by decide +kernel⟩
theorem g__law_weights (T : Tops K mg) : Fn P w K mg base 2 "_law_weights" st__law_weights ["pot", "group", "lot"] fn__law_weights := by
  refine fn_mk T.f__law_weights sc__law_weights (fun _ _ _ _ _ _ us hl => match us, hl with | [_, _, _], _ => rfl) (fun b e1 e2 e3 e4 e5 c => ?_)
  subst e1 e2 e3 e4 e5
  exact (ss_one (ss_ret (se_bty call_tuple_of ok_tuple T.b_tuple (sa_cons (se_of (sf_comp (own := [("check", 3)]) c (si_seq (se_var (i := 2))) (blkOk_by (by rfl)) (fun _ _ _ _ _ c => (sp_name (i := 3) c)) (fun _ _ _ _ _ c => sts_nil) (fun _ _ _ _ _ c => (se_f (g__law_draw T) c (sa_cons (se_var (i := 0)) (sa_cons (se_ix (se_var (i := 1)) se_int) sa_nil)))))) sa_nil))))
theorem sc_powered : FnScope ["base", "number", "modulus", "found"] ["base", "number", "modulus"] (defScope st_powered) := ⟨rfl, rfl, rfl, by decide +kernel, rfl, by decide +kernel, by decide +kernel⟩
theorem g_powered (T : Tops K mg) : Fn P w K mg base 1 "powered" st_powered ["base", "number", "modulus"] fn_powered := by
  refine fn_mk T.f_powered sc_powered (fun _ _ _ _ _ _ us hl => match us, hl with | [_, _, _], _ => rfl) (fun b e1 e2 e3 e4 e5 c => ?_)
  subst e1 e2 e3 e4 e5
  exact (ss_cons (ss_asg c se_int (i := 3))
    (ss_cons (ss_while c (st_cmp op_gt ok_gt (se_var (i := 1)) se_int)
    (ss_cons (ss_if (st_cmp (op_eqD (un64 c.hr)) ok_eq (se_mod (se_var (i := 1)) se_int) se_int)
    (ss_one (ss_asg c (se_mod (se_mul (se_var (i := 3)) (se_var (i := 0))) (se_var (i := 2))) (i := 3)))
    ss_nil)
    (ss_one (ss_par c (sa_cons (se_mod (se_mul (se_var (i := 0)) (se_var (i := 0))) (se_var (i := 2))) (sa_cons (se_div (se_var (i := 1)) se_int) sa_nil)) (i := 0) (j := 1)))))
    (ss_one (ss_ret (se_var (i := 3))))))
theorem sc_power_of : FnScope ["group", "element", "number"] ["group", "element", "number"] (defScope st_power_of) := ⟨rfl, rfl, rfl, by decide +kernel, rfl, by decide +kernel, by decide +kernel⟩
theorem g_power_of (T : Tops K mg) : Fn P w K mg base 2 "power_of" st_power_of ["group", "element", "number"] fn_power_of := by
  refine fn_mk T.f_power_of sc_power_of (fun _ _ _ _ _ _ us hl => match us, hl with | [_, _, _], _ => rfl) (fun b e1 e2 e3 e4 e5 c => ?_)
  subst e1 e2 e3 e4 e5
  exact (ss_one (ss_ret (se_f (g_powered T) c (sa_cons (se_var (i := 1)) (sa_cons (se_var (i := 2)) (sa_cons (se_ix (se_var (i := 0)) se_int) sa_nil))))))
theorem sc_times_of : FnScope ["group", "element", "other"] ["group", "element", "other"] (defScope st_times_of) := ⟨rfl, rfl, rfl, by decide +kernel, rfl, by decide +kernel, by decide +kernel⟩
theorem g_times_of (T : Tops K mg) : Fn P w K mg base 1 "times_of" st_times_of ["group", "element", "other"] fn_times_of := by
  refine fn_mk T.f_times_of sc_times_of (fun _ _ _ _ _ _ us hl => match us, hl with | [_, _, _], _ => rfl) (fun b e1 e2 e3 e4 e5 c => ?_)
  subst e1 e2 e3 e4 e5
  exact (ss_one (ss_ret (se_mod (se_mul (se_var (i := 1)) (se_var (i := 2))) (se_ix (se_var (i := 0)) se_int))))
theorem sc_product_of : FnScope ["group", "bases", "numbers", "found", "base", "number"] ["group", "bases", "numbers"] (defScope st_product_of) := ⟨rfl, rfl, rfl, by decide +kernel, rfl, by decide +kernel, by decide +kernel⟩
theorem g_product_of (T : Tops K mg) : Fn P w K mg base 3 "product_of" st_product_of ["group", "bases", "numbers"] fn_product_of := by
  refine fn_mk T.f_product_of sc_product_of (fun _ _ _ _ _ _ us hl => match us, hl with | [_, _, _], _ => rfl) (fun b e1 e2 e3 e4 e5 c => ?_)
  subst e1 e2 e3 e4 e5
  exact (ss_cons (ss_asg c se_int (i := 3))
    (ss_cons (ss_for c (si_zip T.b_zip (se_var (i := 1)) (se_var (i := 2))) (sp_tup (n := 2) c (sps_cons (sp_name (i := 4) c) (sps_cons (sp_name (i := 5) c) sps_nil)))
    (ss_one (ss_asg c (se_f (g_times_of T) c (sa_cons (se_var (i := 0)) (sa_cons (se_var (i := 3)) (sa_cons (se_f (g_power_of T) c (sa_cons (se_var (i := 0)) (sa_cons (se_var (i := 4)) (sa_cons (se_var (i := 5)) sa_nil)))) sa_nil)))) (i := 3))))
    (ss_one (ss_ret (se_var (i := 3))))))
theorem sc_under_of : FnScope ["group", "element"] ["group", "element"] (defScope st_under_of) := ⟨rfl, rfl, rfl, by decide +kernel, rfl, by decide +kernel, by decide +kernel⟩
theorem g_under_of (T : Tops K mg) : Fn P w K mg base 2 "under_of" st_under_of ["group", "element"] fn_under_of := by
  refine fn_mk T.f_under_of sc_under_of (fun _ _ _ _ _ _ us hl => match us, hl with | [_, _], _ => rfl) (fun b e1 e2 e3 e4 e5 c => ?_)
  subst e1 e2 e3 e4 e5
  exact (ss_one (ss_ret (se_f (g_powered T) c (sa_cons (se_var (i := 1)) (sa_cons (se_sub (se_ix (se_var (i := 0)) se_int) se_int) (sa_cons (se_ix (se_var (i := 0)) se_int) sa_nil))))))
theorem sc_fault_of : FnScope ["group", "check"] ["group", "check"] (defScope st_fault_of) := ⟨rfl, rfl, rfl, by decide +kernel, rfl, by decide +kernel, by decide +kernel⟩
theorem g_fault_of (T : Tops K mg) : Fn P w K mg base 4 "fault_of" st_fault_of ["group", "check"] fn_fault_of := by
  refine fn_mk T.f_fault_of sc_fault_of (fun _ _ _ _ _ _ us hl => match us, hl with | [_, _], _ => rfl) (fun b e1 e2 e3 e4 e5 c => ?_)
  subst e1 e2 e3 e4 e5
  exact (ss_one (ss_ret (se_f (g_times_of T) c (sa_cons (se_var (i := 0)) (sa_cons (se_f (g_product_of T) c (sa_cons (se_var (i := 0)) (sa_cons (se_ix (se_var (i := 1)) se_int) (sa_cons (se_ix (se_var (i := 1)) se_int) sa_nil)))) (sa_cons (se_f (g_under_of T) c (sa_cons (se_var (i := 0)) (sa_cons (se_ix (se_var (i := 1)) se_int) sa_nil))) sa_nil))))))
theorem sc_faults_of : FnScope ["group", "lot", "check"] ["group", "lot"] (defScope st_faults_of) := ⟨rfl, rfl, rfl, by decide +kernel, rfl, by decide +kernel, by decide +kernel⟩
theorem g_faults_of (T : Tops K mg) : Fn P w K mg base 5 "faults_of" st_faults_of ["group", "lot"] fn_faults_of := by
  refine fn_mk T.f_faults_of sc_faults_of (fun _ _ _ _ _ _ us hl => match us, hl with | [_, _], _ => rfl) (fun b e1 e2 e3 e4 e5 c => ?_)
  subst e1 e2 e3 e4 e5
  exact (ss_one (ss_ret (se_of (sf_comp (own := [("check", 2)]) c (si_seq (se_var (i := 1))) (blkOk_by (by rfl)) (fun _ _ _ _ _ c => (sp_name (i := 2) c)) (fun _ _ _ _ _ c => sts_nil) (fun _ _ _ _ _ c => (se_f (g_fault_of T) c (sa_cons (se_var (i := 0)) (sa_cons (se_var (i := 2)) sa_nil))))))))
theorem sc_batch_of : FnScope ["group", "lot", "weights"] ["group", "lot", "weights"] (defScope st_batch_of) := ⟨rfl, rfl, rfl, by decide +kernel, rfl, by decide +kernel, by decide +kernel⟩
theorem g_batch_of (T : Tops K mg) : Fn P w K mg base 6 "batch_of" st_batch_of ["group", "lot", "weights"] fn_batch_of := by
  refine fn_mk T.f_batch_of sc_batch_of (fun _ _ _ _ _ _ us hl => match us, hl with | [_, _, _], _ => rfl) (fun b e1 e2 e3 e4 e5 c => ?_)
  subst e1 e2 e3 e4 e5
  exact (ss_one (ss_ret (se_f (g_product_of T) c (sa_cons (se_var (i := 0)) (sa_cons (se_f (g_faults_of T) c (sa_cons (se_var (i := 0)) (sa_cons (se_var (i := 1)) sa_nil))) (sa_cons (se_var (i := 2)) sa_nil))))))
theorem sc_is_integer : FnScope ["value"] ["value"] (defScope st_is_integer) := ⟨rfl, rfl, rfl, by decide +kernel, rfl, by decide +kernel, by decide +kernel⟩
theorem g_is_integer (T : Tops K mg) : Fn P w K mg base 1 "is_integer" st_is_integer ["value"] fn_is_integer := by
  refine fn_mk T.f_is_integer sc_is_integer (fun _ _ _ _ _ _ us hl => match us, hl with | [_], _ => rfl) (fun b e1 e2 e3 e4 e5 c => ?_)
  subst e1 e2 e3 e4 e5
  exact (ss_one (ss_ret (se_and (se_isi kit_int T.b_isinstance T.b_int (se_var (i := 0))) (se_one (se_not (se_isi kit_bool T.b_isinstance T.b_bool (se_var (i := 0))))))))
theorem sc_is_prime : FnScope ["number", "divisor"] ["number"] (defScope st_is_prime) := ⟨rfl, rfl, rfl, by decide +kernel, rfl, by decide +kernel, by decide +kernel⟩
theorem g_is_prime (T : Tops K mg) : Fn P w K mg base 1 "is_prime" st_is_prime ["number"] fn_is_prime := by
  refine fn_mk T.f_is_prime sc_is_prime (fun _ _ _ _ _ _ us hl => match us, hl with | [_], _ => rfl) (fun b e1 e2 e3 e4 e5 c => ?_)
  subst e1 e2 e3 e4 e5
  exact (ss_cons (ss_if (st_cmp op_lt ok_lt (se_var (i := 0)) se_int)
    (ss_one (ss_ret se_bl))
    ss_nil)
    (ss_cons (ss_asg c se_int (i := 1))
    (ss_cons (ss_while c (st_cmp op_le ok_le (se_mul (se_var (i := 1)) (se_var (i := 1))) (se_var (i := 0)))
    (ss_cons (ss_if (st_cmp (op_eqD (un64 c.hr)) ok_eq (se_mod (se_var (i := 0)) (se_var (i := 1))) se_int)
    (ss_one (ss_ret se_bl))
    ss_nil)
    (ss_one (ss_aug c iop_add ok_addI se_int (i := 1)))))
    (ss_one (ss_ret se_bl)))))
theorem sc_is_row : FnScope ["value", "many"] ["value", "many"] (defScope st_is_row) := ⟨rfl, rfl, rfl, by decide +kernel, rfl, by decide +kernel, by decide +kernel⟩
theorem g_is_row (T : Tops K mg) : Fn P w K mg base 1 "is_row" st_is_row ["value", "many"] fn_is_row := by
  refine fn_mk T.f_is_row sc_is_row (fun _ _ _ _ _ _ us hl => match us, hl with | [_, _], _ => rfl) (fun b e1 e2 e3 e4 e5 c => ?_)
  subst e1 e2 e3 e4 e5
  exact (ss_one (ss_ret (se_and (se_isi kit_tup T.b_isinstance T.b_tuple (se_var (i := 0))) (se_one (se_cmp (op_eqD (un64 c.hr)) ok_eq (se_blt cr_lenA ok_len T.b_len (sa_cons (se_var (i := 0)) sa_nil)) (se_var (i := 1)))))))
theorem sc_is_group_of : FnScope ["value", "p", "q", "g", "one"] ["value"] (defScope st_is_group_of) := ⟨rfl, rfl, rfl, by decide +kernel, rfl, by decide +kernel, by decide +kernel⟩
theorem g_is_group_of (T : Tops K mg) : Fn P w K mg base 2 "is_group_of" st_is_group_of ["value"] fn_is_group_of := by
  refine fn_mk T.f_is_group_of sc_is_group_of (fun _ _ _ _ _ _ us hl => match us, hl with | [_], _ => rfl) (fun b e1 e2 e3 e4 e5 c => ?_)
  subst e1 e2 e3 e4 e5
  exact (ss_cons (ss_if (st_sw (sw_or (st_not (st_val (se_f (g_is_row T) c (sa_cons (se_var (i := 0)) (sa_cons se_int sa_nil))))) (sw_or (st_not (st_val (se_isi kit_str T.b_isinstance T.b_str (se_ix (se_var (i := 0)) se_int)))) (sw_or1 (st_cmp (op_neD (un64 c.hr)) ok_ne (se_ix (se_var (i := 0)) se_int) (let ⟨_, h⟩ := T.c_GROUP; se_glob (v := (.str (PySem.Str.ofString "group"))) h ⟨_, rfl⟩ (fun _ _ => rfl)))))))
    (ss_one (ss_ret se_bl))
    ss_nil)
    (ss_cons (ss_asgT (se_sl (se_var (i := 0)) (so_some se_int) so_no) (sg_P (sp_tup (n := 3) c (sps_cons (sp_name (i := 1) c) (sps_cons (sp_name (i := 2) c) (sps_cons (sp_name (i := 3) c) sps_nil))))) noRet_P)
    (ss_cons (ss_if (st_sw (sw_or (st_not (st_val (se_blt (cr_all c.calm) ok_all T.b_all (sa_cons (se_of (sf_comp (own := [("one", 4)]) c (si_seq (se_tup (sa_cons (se_var (i := 1)) (sa_cons (se_var (i := 2)) (sa_cons (se_var (i := 3)) sa_nil))))) (blkOk_by (by rfl)) (fun _ _ _ _ _ c => (sp_name (i := 4) c)) (fun _ _ _ _ _ c => sts_nil) (fun _ _ _ _ _ c => (se_f (g_is_integer T) c (sa_cons (se_var (i := 4)) sa_nil))))) sa_nil)))) (sw_or (st_cmp op_gt ok_gt (se_var (i := 1)) (let ⟨_, h⟩ := T.c_MOST_P; se_glob (v := (.int 999983)) h ⟨_, rfl⟩ (fun _ _ => rfl))) (sw_or (st_cmp op_gt ok_gt (se_var (i := 2)) (let ⟨_, h⟩ := T.c_MOST_Q; se_glob (v := (.int 9973)) h ⟨_, rfl⟩ (fun _ _ => rfl))) (sw_or1 (st_not (st_chain op_le ok_le op_lt ok_lt se_int (se_var (i := 3)) (se_var (i := 1)))))))))
    (ss_one (ss_ret se_bl))
    ss_nil)
    (ss_cons (ss_if (st_sw (sw_or (st_not (st_val (se_f (g_is_prime T) c (sa_cons (se_var (i := 1)) sa_nil)))) (sw_or (st_not (st_val (se_f (g_is_prime T) c (sa_cons (se_var (i := 2)) sa_nil)))) (sw_or1 (st_cmp (op_neD (un64 c.hr)) ok_ne (se_mod (se_sub (se_var (i := 1)) se_int) (se_var (i := 2))) se_int)))))
    (ss_one (ss_ret se_bl))
    ss_nil)
    (ss_one (ss_ret (se_cmp (op_eqD (un64 c.hr)) ok_eq (se_f (g_powered T) c (sa_cons (se_var (i := 3)) (sa_cons (se_var (i := 2)) (sa_cons (se_var (i := 1)) sa_nil)))) se_int)))))))
theorem sc_want_group : FnScope ["value"] ["value"] (defScope st_want_group) := ⟨rfl, rfl, rfl, by decide +kernel, rfl, by decide +kernel, by decide +kernel⟩
theorem g_want_group (T : Tops K mg) : Fn P w K mg base 3 "want_group" st_want_group ["value"] fn_want_group := by
  refine fn_mk T.f_want_group sc_want_group (fun _ _ _ _ _ _ us hl => match us, hl with | [_], _ => rfl) (fun b e1 e2 e3 e4 e5 c => ?_)
  subst e1 e2 e3 e4 e5
  exact (ss_cons (ss_if (st_not (st_val (se_f (g_is_group_of T) c (sa_cons (se_var (i := 0)) sa_nil))))
    (ss_one ss_never)
    ss_nil)
    (ss_one (ss_ret (se_var (i := 0)))))
theorem sc_is_element_of : FnScope ["group", "value"] ["group", "value"] (defScope st_is_element_of) := ⟨rfl, rfl, rfl, by decide +kernel, rfl, by decide +kernel, by decide +kernel⟩
theorem g_is_element_of (T : Tops K mg) : Fn P w K mg base 2 "is_element_of" st_is_element_of ["group", "value"] fn_is_element_of := by
  refine fn_mk T.f_is_element_of sc_is_element_of (fun _ _ _ _ _ _ us hl => match us, hl with | [_, _], _ => rfl) (fun b e1 e2 e3 e4 e5 c => ?_)
  subst e1 e2 e3 e4 e5
  exact (ss_one (ss_ret (se_and (se_f (g_is_integer T) c (sa_cons (se_var (i := 1)) sa_nil)) (se_and (se_chain op_le ok_le op_lt ok_lt se_int (se_var (i := 1)) (se_ix (se_var (i := 0)) se_int)) (se_one (se_cmp (op_eqD (un64 c.hr)) ok_eq (se_f (g_powered T) c (sa_cons (se_var (i := 1)) (sa_cons (se_ix (se_var (i := 0)) se_int) (sa_cons (se_ix (se_var (i := 0)) se_int) sa_nil)))) se_int))))))
theorem sc_are_elements : FnScope ["group", "value", "many", "one"] ["group", "value", "many"] (defScope st_are_elements) := ⟨rfl, rfl, rfl, by decide +kernel, rfl, by decide +kernel, by decide +kernel⟩
theorem g_are_elements (T : Tops K mg) : Fn P w K mg base 3 "are_elements" st_are_elements ["group", "value", "many"] fn_are_elements := by
  refine fn_mk T.f_are_elements sc_are_elements (fun _ _ _ _ _ _ us hl => match us, hl with | [_, _, _], _ => rfl) (fun b e1 e2 e3 e4 e5 c => ?_)
  subst e1 e2 e3 e4 e5
  exact (ss_one (ss_ret (se_and (se_f (g_is_row T) c (sa_cons (se_var (i := 1)) (sa_cons (se_var (i := 2)) sa_nil))) (se_one (se_blt (cr_all c.calm) ok_all T.b_all (sa_cons (se_of (sf_comp (own := [("one", 3)]) c (si_seq (se_var (i := 1))) (blkOk_by (by rfl)) (fun _ _ _ _ _ c => (sp_name (i := 3) c)) (fun _ _ _ _ _ c => sts_nil) (fun _ _ _ _ _ c => (se_f (g_is_element_of T) c (sa_cons (se_var (i := 0)) (sa_cons (se_var (i := 3)) sa_nil)))))) sa_nil))))))
theorem sc_is_count : FnScope ["value"] ["value"] (defScope st_is_count) := ⟨rfl, rfl, rfl, by decide +kernel, rfl, by decide +kernel, by decide +kernel⟩
theorem g_is_count (T : Tops K mg) : Fn P w K mg base 2 "is_count" st_is_count ["value"] fn_is_count := by
  refine fn_mk T.f_is_count sc_is_count (fun _ _ _ _ _ _ us hl => match us, hl with | [_], _ => rfl) (fun b e1 e2 e3 e4 e5 c => ?_)
  subst e1 e2 e3 e4 e5
  exact (ss_one (ss_ret (se_and (se_f (g_is_integer T) c (sa_cons (se_var (i := 0)) sa_nil)) (se_one (se_cmp op_ge ok_ge (se_var (i := 0)) se_int)))))
theorem sc_is_below : FnScope ["value", "many"] ["value", "many"] (defScope st_is_below) := ⟨rfl, rfl, rfl, by decide +kernel, rfl, by decide +kernel, by decide +kernel⟩
theorem g_is_below (T : Tops K mg) : Fn P w K mg base 3 "is_below" st_is_below ["value", "many"] fn_is_below := by
  refine fn_mk T.f_is_below sc_is_below (fun _ _ _ _ _ _ us hl => match us, hl with | [_, _], _ => rfl) (fun b e1 e2 e3 e4 e5 c => ?_)
  subst e1 e2 e3 e4 e5
  exact (ss_one (ss_ret (se_and (se_f (g_is_count T) c (sa_cons (se_var (i := 0)) sa_nil)) (se_one (se_cmp op_lt ok_lt (se_var (i := 0)) (se_var (i := 1)))))))
theorem sc_are_numbers : FnScope ["value", "many", "q", "number"] ["value", "many", "q"] (defScope st_are_numbers) := ⟨rfl, rfl, rfl, by decide +kernel, rfl, by decide +kernel, by decide +kernel⟩
theorem g_are_numbers (T : Tops K mg) : Fn P w K mg base 4 "are_numbers" st_are_numbers ["value", "many", "q"] fn_are_numbers := by
  refine fn_mk T.f_are_numbers sc_are_numbers (fun _ _ _ _ _ _ us hl => match us, hl with | [_, _, _], _ => rfl) (fun b e1 e2 e3 e4 e5 c => ?_)
  subst e1 e2 e3 e4 e5
  exact (ss_one (ss_ret (se_and (se_f (g_is_row T) c (sa_cons (se_var (i := 0)) (sa_cons (se_var (i := 1)) sa_nil))) (se_one (se_blt (cr_all c.calm) ok_all T.b_all (sa_cons (se_of (sf_comp (own := [("number", 3)]) c (si_seq (se_var (i := 0))) (blkOk_by (by rfl)) (fun _ _ _ _ _ c => (sp_name (i := 3) c)) (fun _ _ _ _ _ c => sts_nil) (fun _ _ _ _ _ c => (se_f (g_is_below T) c (sa_cons (se_var (i := 3)) (sa_cons (se_var (i := 2)) sa_nil)))))) sa_nil))))))
theorem sc_is_check_of : FnScope ["group", "value", "many"] ["group", "value"] (defScope st_is_check_of) := ⟨rfl, rfl, rfl, by decide +kernel, rfl, by decide +kernel, by decide +kernel⟩
theorem g_is_check_of (T : Tops K mg) : Fn P w K mg base 5 "is_check_of" st_is_check_of ["group", "value"] fn_is_check_of := by
  refine fn_mk T.f_is_check_of sc_is_check_of (fun _ _ _ _ _ _ us hl => match us, hl with | [_, _], _ => rfl) (fun b e1 e2 e3 e4 e5 c => ?_)
  subst e1 e2 e3 e4 e5
  exact (ss_cons (ss_if (st_sw (sw_or (st_not (st_val (se_f (g_is_row T) c (sa_cons (se_var (i := 1)) (sa_cons se_int sa_nil))))) (sw_or (st_not (st_val (se_isi kit_str T.b_isinstance T.b_str (se_ix (se_var (i := 1)) se_int)))) (sw_or (st_cmp (op_neD (un64 c.hr)) ok_ne (se_ix (se_var (i := 1)) se_int) (let ⟨_, h⟩ := T.c_CHECK; se_glob (v := (.str (PySem.Str.ofString "check"))) h ⟨_, rfl⟩ (fun _ _ => rfl))) (sw_or1 (st_not (st_val (se_isi kit_tup T.b_isinstance T.b_tuple (se_ix (se_var (i := 1)) se_int)))))))))
    (ss_one (ss_ret se_bl))
    ss_nil)
    (ss_cons (ss_asg c (se_blt cr_lenA ok_len T.b_len (sa_cons (se_ix (se_var (i := 1)) se_int) sa_nil)) (i := 2))
    (ss_cons (ss_if (st_sw (sw_or (st_not (st_chain op_le ok_le op_le ok_le se_int (se_var (i := 2)) (let ⟨_, h⟩ := T.c_MOST_BASES; se_glob (v := (.int 5)) h ⟨_, rfl⟩ (fun _ _ => rfl)))) (sw_or (st_not (st_val (se_f (g_are_elements T) c (sa_cons (se_var (i := 0)) (sa_cons (se_ix (se_var (i := 1)) se_int) (sa_cons (se_var (i := 2)) sa_nil)))))) (sw_or1 (st_not (st_val (se_f (g_is_element_of T) c (sa_cons (se_var (i := 0)) (sa_cons (se_ix (se_var (i := 1)) se_int) sa_nil)))))))))
    (ss_one (ss_ret se_bl))
    ss_nil)
    (ss_one (ss_ret (se_f (g_are_numbers T) c (sa_cons (se_ix (se_var (i := 1)) se_int) (sa_cons (se_var (i := 2)) (sa_cons (se_ix (se_var (i := 0)) se_int) sa_nil)))))))))
theorem sc_is_lot_of : FnScope ["group", "value", "one"] ["group", "value"] (defScope st_is_lot_of) := ⟨rfl, rfl, rfl, by decide +kernel, rfl, by decide +kernel, by decide +kernel⟩
theorem g_is_lot_of (T : Tops K mg) : Fn P w K mg base 6 "is_lot_of" st_is_lot_of ["group", "value"] fn_is_lot_of := by
  refine fn_mk T.f_is_lot_of sc_is_lot_of (fun _ _ _ _ _ _ us hl => match us, hl with | [_, _], _ => rfl) (fun b e1 e2 e3 e4 e5 c => ?_)
  subst e1 e2 e3 e4 e5
  exact (ss_cons (ss_if (st_sw (sw_or (st_not (st_val (se_isi kit_tup T.b_isinstance T.b_tuple (se_var (i := 1))))) (sw_or1 (st_not (st_chain op_le ok_le op_le ok_le se_int (se_blt cr_lenA ok_len T.b_len (sa_cons (se_var (i := 1)) sa_nil)) (let ⟨_, h⟩ := T.c_MOST_CHECKS; se_glob (v := (.int 16)) h ⟨_, rfl⟩ (fun _ _ => rfl)))))))
    (ss_one (ss_ret se_bl))
    ss_nil)
    (ss_one (ss_ret (se_blt (cr_all c.calm) ok_all T.b_all (sa_cons (se_of (sf_comp (own := [("one", 2)]) c (si_seq (se_var (i := 1))) (blkOk_by (by rfl)) (fun _ _ _ _ _ c => (sp_name (i := 2) c)) (fun _ _ _ _ _ c => sts_nil) (fun _ _ _ _ _ c => (se_f (g_is_check_of T) c (sa_cons (se_var (i := 0)) (sa_cons (se_var (i := 2)) sa_nil)))))) sa_nil)))))
theorem sc_want_lot : FnScope ["group", "value"] ["group", "value"] (defScope st_want_lot) := ⟨rfl, rfl, rfl, by decide +kernel, rfl, by decide +kernel, by decide +kernel⟩
theorem g_want_lot (T : Tops K mg) : Fn P w K mg base 7 "want_lot" st_want_lot ["group", "value"] fn_want_lot := by
  refine fn_mk T.f_want_lot sc_want_lot (fun _ _ _ _ _ _ us hl => match us, hl with | [_, _], _ => rfl) (fun b e1 e2 e3 e4 e5 c => ?_)
  subst e1 e2 e3 e4 e5
  exact (ss_cons (ss_if (st_not (st_val (se_f (g_is_lot_of T) c (sa_cons (se_var (i := 0)) (sa_cons (se_var (i := 1)) sa_nil)))))
    (ss_one ss_never)
    ss_nil)
    (ss_one (ss_ret (se_var (i := 1)))))
theorem sc_want_weights : FnScope ["group", "lot", "value"] ["group", "lot", "value"] (defScope st_want_weights) := ⟨rfl, rfl, rfl, by decide +kernel, rfl, by decide +kernel, by decide +kernel⟩
theorem g_want_weights (T : Tops K mg) : Fn P w K mg base 5 "want_weights" st_want_weights ["group", "lot", "value"] fn_want_weights := by
  refine fn_mk T.f_want_weights sc_want_weights (fun _ _ _ _ _ _ us hl => match us, hl with | [_, _, _], _ => rfl) (fun b e1 e2 e3 e4 e5 c => ?_)
  subst e1 e2 e3 e4 e5
  exact (ss_cons (ss_if (st_not (st_val (se_f (g_are_numbers T) c (sa_cons (se_var (i := 2)) (sa_cons (se_blt cr_lenA ok_len T.b_len (sa_cons (se_var (i := 1)) sa_nil)) (sa_cons (se_ix (se_var (i := 0)) se_int) sa_nil))))))
    (ss_one ss_never)
    ss_nil)
    (ss_one (ss_ret (se_var (i := 2)))))
theorem sc_want_weighed : FnScope ["group", "lot", "weights"] ["group", "lot", "weights"] (defScope st_want_weighed) := ⟨rfl, rfl, rfl, by decide +kernel, rfl, by decide +kernel, by decide +kernel⟩
theorem g_want_weighed (T : Tops K mg) : Fn P w K mg base 8 "want_weighed" st_want_weighed ["group", "lot", "weights"] fn_want_weighed := by
  refine fn_mk T.f_want_weighed sc_want_weighed (fun _ _ _ _ _ _ us hl => match us, hl with | [_, _, _], _ => rfl) (fun b e1 e2 e3 e4 e5 c => ?_)
  subst e1 e2 e3 e4 e5
  exact (ss_cons (ss_expr (se_f (g_want_lot T) c (sa_cons (se_f (g_want_group T) c (sa_cons (se_var (i := 0)) sa_nil)) (sa_cons (se_var (i := 1)) sa_nil))))
    (ss_one (ss_expr (se_f (g_want_weights T) c (sa_cons (se_var (i := 0)) (sa_cons (se_var (i := 1)) (sa_cons (se_var (i := 2)) sa_nil)))))))
theorem sc_batch : FnScope ["group", "lot", "weights"] ["group", "lot", "weights"] (defScope st_batch) := ⟨rfl, rfl, rfl, by decide +kernel, rfl, by decide +kernel, by decide +kernel⟩
theorem g_batch (T : Tops K mg) : Fn P w K mg base 9 "batch" st_batch ["group", "lot", "weights"] fn_batch := by
  refine fn_mk T.f_batch sc_batch (fun _ _ _ _ _ _ us hl => match us, hl with | [_, _, _], _ => rfl) (fun b e1 e2 e3 e4 e5 c => ?_)
  subst e1 e2 e3 e4 e5
  exact (ss_cons (ss_expr (se_f (g_want_weighed T) c (sa_cons (se_var (i := 0)) (sa_cons (se_var (i := 1)) (sa_cons (se_var (i := 2)) sa_nil)))))
    (ss_one (ss_ret (se_f (g_batch_of T) c (sa_cons (se_var (i := 0)) (sa_cons (se_var (i := 1)) (sa_cons (se_var (i := 2)) sa_nil)))))))
theorem sc_merged_of : FnScope ["group", "lot", "weights", "found", "check", "weight", "base", "number", "element"] ["group", "lot", "weights"] (defScope st_merged_of) := ⟨rfl, rfl, rfl, by decide +kernel, rfl, by decide +kernel, by decide +kernel⟩
theorem g_merged_of (T : Tops K mg) : Fn P w K mg base 1 "merged_of" st_merged_of ["group", "lot", "weights"] fn_merged_of := by
  refine fn_mk T.f_merged_of sc_merged_of (fun _ _ _ _ _ _ us hl => match us, hl with | [_, _, _], _ => rfl) (fun b e1 e2 e3 e4 e5 c => ?_)
  subst e1 e2 e3 e4 e5
  exact (ss_cons (ss_own c sf_dict0 (i := 3))
    (ss_cons (ss_for c (si_zip T.b_zip (se_var (i := 1)) (se_var (i := 2))) (sp_tup (n := 2) c (sps_cons (sp_name (i := 4) c) (sps_cons (sp_name (i := 5) c) sps_nil)))
    (ss_cons (ss_for c (si_zip T.b_zip (se_ix (se_var (i := 4)) se_int) (se_ix (se_var (i := 4)) se_int)) (sp_tup (n := 2) c (sps_cons (sp_name (i := 6) c) (sps_cons (sp_name (i := 7) c) sps_nil)))
    (ss_one (ss_putD (i := 3) c (se_mod (se_add (se_get2 c (se_var (i := 3)) (se_var (i := 6)) se_int) (se_mul (se_var (i := 5)) (se_var (i := 7)))) (se_ix (se_var (i := 0)) se_int)) (se_var (i := 6)))))
    (ss_one (ss_putD (i := 3) c (se_mod (se_sub (se_get2 c (se_var (i := 3)) (se_ix (se_var (i := 4)) se_int) se_int) (se_var (i := 5))) (se_ix (se_var (i := 0)) se_int)) (se_ix (se_var (i := 4)) se_int)))))
    (ss_one (ss_ret (se_bty call_tuple_of ok_tuple T.b_tuple (sa_cons (se_of (sf_comp (own := [("element", 8)]) c (si_seq (se_blt (call_sortedDI c.calm) ok_sortedD T.b_sorted (sa_cons (se_var (i := 3)) sa_nil))) (blkOk_by (by rfl)) (fun _ _ _ _ _ c => (sp_name (i := 8) c)) (fun _ _ _ _ _ c => (sts_one (st_cmp (op_neD (un64 c.hr)) ok_ne (se_ixD c (se_var (i := 3)) (se_var (i := 8))) se_int))) (fun _ _ _ _ _ c => (se_tup (sa_cons (se_var (i := 8)) (sa_cons (se_ixD c (se_var (i := 3)) (se_var (i := 8))) sa_nil)))))) sa_nil))))))
theorem sc_merged : FnScope ["group", "lot", "weights"] ["group", "lot", "weights"] (defScope st_merged) := ⟨rfl, rfl, rfl, by decide +kernel, rfl, by decide +kernel, by decide +kernel⟩
theorem g_merged (T : Tops K mg) : Fn P w K mg base 9 "merged" st_merged ["group", "lot", "weights"] fn_merged := by
  refine fn_mk T.f_merged sc_merged (fun _ _ _ _ _ _ us hl => match us, hl with | [_, _, _], _ => rfl) (fun b e1 e2 e3 e4 e5 c => ?_)
  subst e1 e2 e3 e4 e5
  exact (ss_cons (ss_expr (se_f (g_want_weighed T) c (sa_cons (se_var (i := 0)) (sa_cons (se_var (i := 1)) (sa_cons (se_var (i := 2)) sa_nil)))))
    (ss_one (ss_ret (se_f (g_merged_of T) c (sa_cons (se_var (i := 0)) (sa_cons (se_var (i := 1)) (sa_cons (se_var (i := 2)) sa_nil)))))))
theorem sc_log_of : FnScope ["group", "element", "found", "number"] ["group", "element"] (defScope st_log_of) := ⟨rfl, rfl, rfl, by decide +kernel, rfl, by decide +kernel, by decide +kernel⟩
theorem g_log_of (T : Tops K mg) : Fn P w K mg base 1 "log_of" st_log_of ["group", "element"] fn_log_of := by
  refine fn_mk T.f_log_of sc_log_of (fun _ _ _ _ _ _ us hl => match us, hl with | [_, _], _ => rfl) (fun b e1 e2 e3 e4 e5 c => ?_)
  subst e1 e2 e3 e4 e5
  exact (ss_cons (ss_asgT (se_tup (sa_cons se_int (sa_cons se_int sa_nil))) (sg_P (sp_tup (n := 2) c (sps_cons (sp_name (i := 2) c) (sps_cons (sp_name (i := 3) c) sps_nil)))) noRet_P)
    (ss_cons (ss_while c (st_cmp (op_neD (un64 c.hr)) ok_ne (se_var (i := 2)) (se_var (i := 1)))
    (ss_one (ss_par c (sa_cons (se_mod (se_mul (se_var (i := 2)) (se_ix (se_var (i := 0)) se_int)) (se_ix (se_var (i := 0)) se_int)) (sa_cons (se_add (se_var (i := 3)) se_int) sa_nil)) (i := 2) (j := 3))))
    (ss_one (ss_ret (se_var (i := 3))))))
theorem sc_only_weight_of : FnScope ["group", "lot", "weights", "place", "others", "rest", "at", "weight"] ["group", "lot", "weights", "place"] (defScope st_only_weight_of) := ⟨rfl, rfl, rfl, by decide +kernel, rfl, by decide +kernel, by decide +kernel⟩
theorem g_only_weight_of (T : Tops K mg) : Fn P w K mg base 7 "only_weight_of" st_only_weight_of ["group", "lot", "weights", "place"] fn_only_weight_of := by
  refine fn_mk T.f_only_weight_of sc_only_weight_of (fun _ _ _ _ _ _ us hl => match us, hl with | [_, _, _, _], _ => rfl) (fun b e1 e2 e3 e4 e5 c => ?_)
  subst e1 e2 e3 e4 e5
  exact (ss_cons (ss_if (st_cmp (op_eqD (un64 c.hr)) ok_eq (se_f (g_fault_of T) c (sa_cons (se_var (i := 0)) (sa_cons (se_ix (se_var (i := 1)) (se_var (i := 3))) sa_nil))) se_int)
    (ss_one (ss_ret se_non))
    ss_nil)
    (ss_cons (ss_asg c (se_bty call_tuple_of ok_tuple T.b_tuple (sa_cons (se_of (sf_comp (own := [("at", 6), ("weight", 7)]) c (si_enum T.b_enumerate (se_var (i := 2))) (blkOk_by (by rfl)) (fun _ _ _ _ _ c => (sp_tup (n := 2) c (sps_cons (sp_name (i := 6) c) (sps_cons (sp_name (i := 7) c) sps_nil)))) (fun _ _ _ _ _ c => sts_nil) (fun _ _ _ _ _ c => (se_if (st_cmp (op_eqD (un64 c.hr)) ok_eq (se_var (i := 6)) (se_var (i := 3))) se_int (se_var (i := 7)))))) sa_nil)) (i := 4))
    (ss_cons (ss_asg c (se_f (g_log_of T) c (sa_cons (se_var (i := 0)) (sa_cons (se_f (g_under_of T) c (sa_cons (se_var (i := 0)) (sa_cons (se_f (g_batch_of T) c (sa_cons (se_var (i := 0)) (sa_cons (se_var (i := 1)) (sa_cons (se_var (i := 4)) sa_nil)))) sa_nil))) sa_nil))) (i := 5))
    (ss_one (ss_ret (se_mod (se_mul (se_var (i := 5)) (se_f (g_powered T) c (sa_cons (se_f (g_log_of T) c (sa_cons (se_var (i := 0)) (sa_cons (se_f (g_fault_of T) c (sa_cons (se_var (i := 0)) (sa_cons (se_ix (se_var (i := 1)) (se_var (i := 3))) sa_nil))) sa_nil))) (sa_cons (se_sub (se_ix (se_var (i := 0)) se_int) se_int) (sa_cons (se_ix (se_var (i := 0)) se_int) sa_nil))))) (se_ix (se_var (i := 0)) se_int)))))))
theorem sc_only_weight : FnScope ["group", "lot", "weights", "place"] ["group", "lot", "weights", "place"] (defScope st_only_weight) := ⟨rfl, rfl, rfl, by decide +kernel, rfl, by decide +kernel, by decide +kernel⟩
theorem g_only_weight (T : Tops K mg) : Fn P w K mg base 9 "only_weight" st_only_weight ["group", "lot", "weights", "place"] fn_only_weight := by
  refine fn_mk T.f_only_weight sc_only_weight (fun _ _ _ _ _ _ us hl => match us, hl with | [_, _, _, _], _ => rfl) (fun b e1 e2 e3 e4 e5 c => ?_)
  subst e1 e2 e3 e4 e5
  exact (ss_cons (ss_expr (se_f (g_want_weighed T) c (sa_cons (se_var (i := 0)) (sa_cons (se_var (i := 1)) (sa_cons (se_var (i := 2)) sa_nil)))))
    (ss_cons (ss_if (st_not (st_val (se_f (g_is_below T) c (sa_cons (se_var (i := 3)) (sa_cons (se_blt cr_lenA ok_len T.b_len (sa_cons (se_var (i := 1)) sa_nil)) sa_nil)))))
    (ss_one ss_never)
    ss_nil)
    (ss_one (ss_ret (se_f (g_only_weight_of T) c (sa_cons (se_var (i := 0)) (sa_cons (se_var (i := 1)) (sa_cons (se_var (i := 2)) (sa_cons (se_var (i := 3)) sa_nil)))))))))
theorem sc_passes : FnScope ["group", "lot", "weights"] ["group", "lot", "weights"] (defScope st_passes) := ⟨rfl, rfl, rfl, by decide +kernel, rfl, by decide +kernel, by decide +kernel⟩
theorem g_passes (T : Tops K mg) : Fn P w K mg base 9 "passes" st_passes ["group", "lot", "weights"] fn_passes := by
  refine fn_mk T.f_passes sc_passes (fun _ _ _ _ _ _ us hl => match us, hl with | [_, _, _], _ => rfl) (fun b e1 e2 e3 e4 e5 c => ?_)
  subst e1 e2 e3 e4 e5
  exact (ss_cons (ss_expr (se_f (g_want_weighed T) c (sa_cons (se_var (i := 0)) (sa_cons (se_var (i := 1)) (sa_cons (se_var (i := 2)) sa_nil)))))
    (ss_one (ss_ret (se_cmp (op_eqD (un64 c.hr)) ok_eq (se_f (g_batch_of T) c (sa_cons (se_var (i := 0)) (sa_cons (se_var (i := 1)) (sa_cons (se_var (i := 2)) sa_nil)))) se_int))))
theorem sc_want_element : FnScope ["group", "value"] ["group", "value"] (defScope st_want_element) := ⟨rfl, rfl, rfl, by decide +kernel, rfl, by decide +kernel, by decide +kernel⟩
theorem g_want_element (T : Tops K mg) : Fn P w K mg base 3 "want_element" st_want_element ["group", "value"] fn_want_element := by
  refine fn_mk T.f_want_element sc_want_element (fun _ _ _ _ _ _ us hl => match us, hl with | [_, _], _ => rfl) (fun b e1 e2 e3 e4 e5 c => ?_)
  subst e1 e2 e3 e4 e5
  exact (ss_cons (ss_if (st_not (st_val (se_f (g_is_element_of T) c (sa_cons (se_var (i := 0)) (sa_cons (se_var (i := 1)) sa_nil)))))
    (ss_one ss_never)
    ss_nil)
    (ss_one (ss_ret (se_var (i := 1)))))
theorem sc_times : FnScope ["group", "element", "other_element"] ["group", "element", "other_element"] (defScope st_times) := ⟨rfl, rfl, rfl, by decide +kernel, rfl, by decide +kernel, by decide +kernel⟩
theorem g_times (T : Tops K mg) : Fn P w K mg base 4 "times" st_times ["group", "element", "other_element"] fn_times := by
  refine fn_mk T.f_times sc_times (fun _ _ _ _ _ _ us hl => match us, hl with | [_, _, _], _ => rfl) (fun b e1 e2 e3 e4 e5 c => ?_)
  subst e1 e2 e3 e4 e5
  exact (ss_cons (ss_expr (se_f (g_want_element T) c (sa_cons (se_f (g_want_group T) c (sa_cons (se_var (i := 0)) sa_nil)) (sa_cons (se_var (i := 1)) sa_nil))))
    (ss_one (ss_ret (se_f (g_times_of T) c (sa_cons (se_var (i := 0)) (sa_cons (se_var (i := 1)) (sa_cons (se_f (g_want_element T) c (sa_cons (se_var (i := 0)) (sa_cons (se_var (i := 2)) sa_nil))) sa_nil)))))))
theorem sc__law_lot_right : FnScope ["pot", "group", "lot", "due", "told", "rows", "both", "weights", "others", "place", "check", "some", "only", "number", "row", "one", "other"] ["pot", "group", "lot"] (defScope st__law_lot_right) := ⟨rfl, rfl, rfl, by decide +kernel, rfl, by decide +kernel, by decide +kernel⟩
theorem g__law_lot_right (T : Tops K mg) : Fn P w K mg base 10 "_law_lot_right" st__law_lot_right ["pot", "group", "lot"] fn__law_lot_right := by
  refine fn_mk T.f__law_lot_right sc__law_lot_right (fun _ _ _ _ _ _ us hl => match us, hl with | [_, _, _], _ => rfl) (fun b e1 e2 e3 e4 e5 c => ?_)
  subst e1 e2 e3 e4 e5
  exact (ss_cons (ss_asgT (se_tup (sa_cons (se_f (g__law_weights T) c (sa_cons (se_var (i := 0)) (sa_cons (se_var (i := 1)) (sa_cons (se_var (i := 2)) sa_nil)))) (sa_cons (se_f (g__law_weights T) c (sa_cons (se_var (i := 0)) (sa_cons (se_var (i := 1)) (sa_cons (se_var (i := 2)) sa_nil)))) sa_nil))) (sg_P (sp_tup (n := 2) c (sps_cons (sp_name (i := 7) c) (sps_cons (sp_name (i := 8) c) sps_nil)))) noRet_P)
    (ss_cons (ss_asg c (se_f (g__law_power T) c (sa_cons (se_var (i := 1)) (sa_cons (se_ix (se_var (i := 1)) se_int) (sa_cons (se_f (g__law_batch T) c (sa_cons (se_var (i := 1)) (sa_cons (se_var (i := 2)) (sa_cons (se_var (i := 7)) sa_nil)))) sa_nil)))) (i := 3))
    (ss_cons (ss_asg c (se_lst (sa_cons (se_f (g_batch T) c (sa_cons (se_var (i := 1)) (sa_cons (se_var (i := 2)) (sa_cons (se_var (i := 7)) sa_nil)))) (sa_cons (se_fK0 (pi := [2, 1, 0]) (g_batch T) c (sk_cons (se_var (i := 7)) (sk_cons (se_var (i := 2)) (sk_cons (se_var (i := 1)) sk_nil))) (fun _ _ _ _ _ _ us ws h1 h2 => match us, ws, h1, h2 with | [], [_, _, _], _, _ => rfl)) (sa_cons (se_f (g_passes T) c (sa_cons (se_var (i := 1)) (sa_cons (se_var (i := 2)) (sa_cons (se_var (i := 7)) sa_nil)))) (sa_cons (se_fK0 (pi := [2, 1, 0]) (g_passes T) c (sk_cons (se_var (i := 7)) (sk_cons (se_var (i := 2)) (sk_cons (se_var (i := 1)) sk_nil))) (fun _ _ _ _ _ _ us ws h1 h2 => match us, ws, h1, h2 with | [], [_, _, _], _, _ => rfl)) sa_nil))))) (i := 4))
    (ss_cons (ss_if (st_cmp (op_neD (un64 c.hr)) ok_ne (se_blt (cr_repr c) ok_repr T.b_repr (sa_cons (se_var (i := 4)) sa_nil)) (se_blt (cr_repr c) ok_repr T.b_repr (sa_cons (se_lst (sa_cons (se_var (i := 3)) (sa_cons (se_var (i := 3)) (sa_cons (se_cmp (op_eqD (un64 c.hr)) ok_eq (se_var (i := 3)) se_int) (sa_cons (se_cmp (op_eqD (un64 c.hr)) ok_eq (se_var (i := 3)) se_int) sa_nil))))) sa_nil)))
    (ss_one (ss_ret se_bl))
    ss_nil)
    (ss_cons (ss_asg c (se_f (g__law_merged T) c (sa_cons (se_var (i := 1)) (sa_cons (se_var (i := 2)) (sa_cons (se_var (i := 7)) sa_nil)))) (i := 5))
    (ss_cons (ss_if (st_cmp (op_neD (un64 c.hr)) ok_ne (se_blt (cr_repr c) ok_repr T.b_repr (sa_cons (se_lst (sa_cons (se_f (g_merged T) c (sa_cons (se_var (i := 1)) (sa_cons (se_var (i := 2)) (sa_cons (se_var (i := 7)) sa_nil)))) (sa_cons (se_fK0 (pi := [2, 1, 0]) (g_merged T) c (sk_cons (se_var (i := 7)) (sk_cons (se_var (i := 2)) (sk_cons (se_var (i := 1)) sk_nil))) (fun _ _ _ _ _ _ us ws h1 h2 => match us, ws, h1, h2 with | [], [_, _, _], _, _ => rfl)) sa_nil))) sa_nil)) (se_blt (cr_repr c) ok_repr T.b_repr (sa_cons (se_lst (sa_cons (se_var (i := 5)) (sa_cons (se_var (i := 5)) sa_nil))) sa_nil)))
    (ss_one (ss_ret se_bl))
    ss_nil)
    (ss_cons (ss_if (st_cmp (op_neD (un64 c.hr)) ok_ne (se_f (g__law_product T) c (sa_cons (se_var (i := 1)) (sa_cons (se_of (sf_comp (own := [("row", 14)]) c (si_seq (se_var (i := 5))) (blkOk_by (by rfl)) (fun _ _ _ _ _ c => (sp_name (i := 14) c)) (fun _ _ _ _ _ c => sts_nil) (fun _ _ _ _ _ c => (se_ix (se_var (i := 14)) se_int)))) (sa_cons (se_of (sf_comp (own := [("row", 14)]) c (si_seq (se_var (i := 5))) (blkOk_by (by rfl)) (fun _ _ _ _ _ c => (sp_name (i := 14) c)) (fun _ _ _ _ _ c => sts_nil) (fun _ _ _ _ _ c => (se_ix (se_var (i := 14)) se_int)))) sa_nil)))) (se_var (i := 3)))
    (ss_one (ss_ret se_bl))
    ss_nil)
    (ss_cons (ss_asg c (se_bty call_tuple_of ok_tuple T.b_tuple (sa_cons (se_of (sf_comp (own := [("one", 15), ("other", 16)]) c (si_zip T.b_zip (se_var (i := 7)) (se_var (i := 8))) (blkOk_by (by rfl)) (fun _ _ _ _ _ c => (sp_tup (n := 2) c (sps_cons (sp_name (i := 15) c) (sps_cons (sp_name (i := 16) c) sps_nil)))) (fun _ _ _ _ _ c => sts_nil) (fun _ _ _ _ _ c => (se_mod (se_bty call_int1 ok_intc T.b_int (sa_cons (se_add (se_var (i := 15)) (se_var (i := 16))) sa_nil)) (se_ix (se_var (i := 1)) se_int))))) sa_nil)) (i := 6))
    (ss_cons (ss_if (st_sw (sw_or (st_cmp (op_neD (un64 c.hr)) ok_ne (se_f (g_batch T) c (sa_cons (se_var (i := 1)) (sa_cons (se_var (i := 2)) (sa_cons (se_var (i := 6)) sa_nil)))) (se_f (g_times T) c (sa_cons (se_var (i := 1)) (sa_cons (se_var (i := 3)) (sa_cons (se_f (g_batch T) c (sa_cons (se_var (i := 1)) (sa_cons (se_var (i := 2)) (sa_cons (se_var (i := 8)) sa_nil)))) sa_nil))))) (sw_or1 (st_cmp (op_neD (un64 c.hr)) ok_ne (se_f (g_batch T) c (sa_cons (se_var (i := 1)) (sa_cons (se_add (se_var (i := 2)) (se_var (i := 2))) (sa_cons (se_add (se_var (i := 7)) (se_var (i := 8))) sa_nil)))) (se_f (g_batch T) c (sa_cons (se_var (i := 1)) (sa_cons (se_var (i := 2)) (sa_cons (se_var (i := 6)) sa_nil))))))))
    (ss_one (ss_ret se_bl))
    ss_nil)
    (ss_cons (ss_for c (si_enum T.b_enumerate (se_var (i := 2))) (sp_tup (n := 2) c (sps_cons (sp_name (i := 9) c) (sps_cons (sp_name (i := 10) c) sps_nil)))
    (ss_cons (ss_asgLc (i := 11) (own := [("number", 13)]) c (si_range1 T.b_range (se_ix (se_var (i := 1)) se_int)) (blkOk_by (by rfl)) (fun _ _ _ _ _ c => (sp_name (i := 13) c)) (fun _ _ _ _ _ c => (sts_one (st_cmp (op_eqD (un64 c.hr)) ok_eq (se_f (g__law_batch T) c (sa_cons (se_var (i := 1)) (sa_cons (se_var (i := 2)) (sa_cons (se_add (se_add (se_sl (se_var (i := 7)) so_no (so_some (se_var (i := 9)))) (se_tup (sa_cons (se_var (i := 13)) sa_nil))) (se_sl (se_var (i := 7)) (so_some (se_add (se_var (i := 9)) se_int)) so_no)) sa_nil)))) se_int))) (fun _ _ _ _ _ c => (se_var (i := 13))))
    (ss_cons (ss_asg c (se_if (st_cmp (op_neD (un64 c.hr)) ok_ne (se_f (g__law_fault T) c (sa_cons (se_var (i := 1)) (sa_cons (se_var (i := 10)) sa_nil))) se_int) (se_ix (se_var (i := 11)) se_int) se_non) (i := 12))
    (ss_cons (ss_if (st_sw (sw_and (st_cmp op_notN ok_isNot (se_var (i := 12)) se_non) (sw_and1 (st_cmp (op_neD (un64 c.hr)) ok_ne (se_blt cr_lenA ok_len T.b_len (sa_cons (se_var (i := 11)) sa_nil)) se_int))))
    (ss_one (ss_ret se_bl))
    ss_nil)
    (ss_cons (ss_if (st_cmp (op_neD (un64 c.hr)) ok_ne (se_blt (cr_repr c) ok_repr T.b_repr (sa_cons (se_lst (sa_cons (se_f (g_only_weight T) c (sa_cons (se_var (i := 1)) (sa_cons (se_var (i := 2)) (sa_cons (se_var (i := 7)) (sa_cons (se_var (i := 9)) sa_nil))))) (sa_cons (se_fK0 (pi := [3, 2, 1, 0]) (g_only_weight T) c (sk_cons (se_var (i := 9)) (sk_cons (se_var (i := 7)) (sk_cons (se_var (i := 2)) (sk_cons (se_var (i := 1)) sk_nil)))) (fun _ _ _ _ _ _ us ws h1 h2 => match us, ws, h1, h2 with | [], [_, _, _, _], _, _ => rfl)) sa_nil))) sa_nil)) (se_blt (cr_repr c) ok_repr T.b_repr (sa_cons (se_lst (sa_cons (se_var (i := 12)) (sa_cons (se_var (i := 12)) sa_nil))) sa_nil)))
    (ss_one (ss_ret se_bl))
    ss_nil)
    (ss_one (ss_if (st_sw (sw_and (st_cmp op_notN ok_isNot (se_var (i := 12)) se_non) (sw_and1 (st_cmp op_isnot_bl ok_notB (se_f (g_passes T) c (sa_cons (se_var (i := 1)) (sa_cons (se_var (i := 2)) (sa_cons (se_add (se_add (se_sl (se_var (i := 7)) so_no (so_some (se_var (i := 9)))) (se_tup (sa_cons (se_var (i := 12)) sa_nil))) (se_sl (se_var (i := 7)) (so_some (se_add (se_var (i := 9)) se_int)) so_no)) sa_nil)))) se_bl))))
    (ss_one (ss_ret se_bl))
    ss_nil)))))))
    (ss_one (ss_ret se_bl))))))))))))
theorem sc__law_right : FnScope ["pot", "group", "lot", "shown"] ["pot"] (defScope st__law_right) := ⟨rfl, rfl, rfl, by decide +kernel, rfl, by decide +kernel, by decide +kernel⟩
theorem g__law_right (T : Tops K mg) : Fn P w K mg base 11 "_law_right" st__law_right ["pot"] fn__law_right := by
  refine fn_mk T.f__law_right sc__law_right (fun _ _ _ _ _ _ us hl => match us, hl with | [_], _ => rfl) (fun b e1 e2 e3 e4 e5 c => ?_)
  subst e1 e2 e3 e4 e5
  exact (ss_cons (ss_asg c (se_f (g__law_group T) c (sa_cons (se_var (i := 0)) sa_nil)) (i := 1))
    (ss_cons (ss_asg c (se_f (g__law_lot T) c (sa_cons (se_var (i := 0)) (sa_cons (se_var (i := 1)) (sa_cons se_int sa_nil)))) (i := 2))
    (ss_cons (ss_if (st_cmp (op_eqD (un64 c.hr)) ok_eq (se_f (g__law_draw T) c (sa_cons (se_var (i := 0)) (sa_cons se_int sa_nil))) se_int)
    (ss_one (ss_asg c (se_add (se_var (i := 2)) (se_bty call_tuple_of ok_tuple T.b_tuple (sa_cons (se_lst (sa_cons (se_tup (sa_cons se_str (sa_cons (se_ix (se_ix (se_var (i := 2)) se_int) se_int) (sa_cons (se_ix (se_ix (se_var (i := 2)) se_int) se_int) (sa_cons (se_f (g__law_element T) c (sa_cons (se_var (i := 0)) (sa_cons (se_var (i := 1)) sa_nil))) sa_nil))))) sa_nil)) sa_nil))) (i := 2)))
    ss_nil)
    (ss_cons (ss_asg c (se_blt (cr_repr c) ok_repr T.b_repr (sa_cons (se_var (i := 2)) sa_nil)) (i := 3))
    (ss_one (ss_ret (se_and (se_f (g__law_lot_right T) c (sa_cons (se_var (i := 0)) (sa_cons (se_var (i := 1)) (sa_cons (se_var (i := 2)) sa_nil)))) (se_one (se_cmp (op_eqD (un64 c.hr)) ok_eq (se_blt (cr_repr c) ok_repr T.b_repr (sa_cons (se_var (i := 2)) sa_nil)) (se_var (i := 3)))))))))))
theorem sc_law : FnScope ["script", "k"] ["script"] (defScope st_law) := ⟨rfl, rfl, rfl, by decide +kernel, rfl, by decide +kernel, by decide +kernel⟩
theorem g_law (T : Tops K mg) : Fn P w K mg base 12 "law" st_law ["script"] fn_law := by
  refine fn_mk T.f_law sc_law (fun _ _ _ _ _ _ us hl => match us, hl with | [_], _ => rfl) (fun b e1 e2 e3 e4 e5 c => ?_)
  subst e1 e2 e3 e4 e5
  exact (ss_one (ss_ret (se_blt (cr_all c.calm) ok_all T.b_all (sa_cons (se_of (sf_comp (own := [("k", 1)]) c (si_range1 T.b_range (se_blt ((call_max2 c.calm).or (cr_max c.calm)) ok_max T.b_max (sa_cons se_int (sa_cons (se_blt ((call_min2 c.calm).or (cr_min c.calm)) ok_min T.b_min (sa_cons se_int (sa_cons (se_blt cr_lenA ok_len T.b_len (sa_cons (se_var (i := 0)) sa_nil)) sa_nil))) sa_nil)))) (blkOk_by (by rfl)) (fun _ _ _ _ _ c => (sp_name (i := 1) c)) (fun _ _ _ _ _ c => sts_nil) (fun _ _ _ _ _ c => (se_f (g__law_right T) c (sa_cons (se_f (g__law_pot T) c (sa_cons (se_var (i := 0)) (sa_cons (se_var (i := 1)) sa_nil))) sa_nil))))) sa_nil))))
end
end k70
set_option maxRecDepth 4000
namespace k70
open PySem PySem.Spec PyProof.Rows L2 Sim
/-! ### powered: powers modulo m -/
theorem pow_step (f b n m : Nat) (h : n % 2 = 1) : (f * b % m) * (b * b % m) ^ (n / 2) % m = f * b ^ n % m := by
  have e : n = 2 * (n / 2) + 1 := by omega
  conv => rhs; rw [e, Nat.pow_succ, Nat.pow_mul, Nat.pow_two]
  rw [Nat.mul_mod, Nat.mod_mod, Nat.pow_mod, Nat.mod_mod, ← Nat.pow_mod, ← Nat.mul_mod, Nat.mul_assoc, Nat.mul_comm b]
theorem pow_step0 (f b n m : Nat) (h : n % 2 ≠ 1) : f * (b * b % m) ^ (n / 2) % m = f * b ^ n % m := by
  have e : n = 2 * (n / 2) := by omega
  conv => rhs; rw [e, Nat.pow_mul, Nat.pow_two]
  rw [Nat.mul_mod, Nat.pow_mod, Nat.mod_mod, ← Nat.pow_mod, ← Nat.mul_mod]
local macro_rules | `(tactic| walk_at "ev_792ec_1") => `(tactic| simp only [↓w_C, ↓w_var, ↓w_op, ↓w_un, ↓w_isi, ↓w_b, ↓w_nil, ↓w_cons, ↓w_tup, ↓w_lst, ↓w_not, ↓w_and, ↓w_or, ↓w_ifE, ↓w_chain, ↓w_tv, ↓w_tvAnd, ↓w_tvOr, ↓w_tvNot, ↓w_tvYes, ↓w_call, ↓w_callK, ↓w_sl, ↓w_oNo, ↓w_oSome, ↓w_newCell, ↓w_comp, ↓Sim.w_next, ↓w_seq, ↓w_ret, ↓w_retN, ↓w_never, ↓w_expr, ↓w_if, ↓w_asg, ↓w_own, ↓w_freeze, ↓w_own1, ↓w_par, ↓w_par3, ↓w_asgT, ↓w_tP, ↓w_aug, ↓w_for, ↓w_forNil, ↓w_iSeq, ↓w_range1X, ↓w_range2X, ↓lk_shX, ↓lk_ownX, ↓lk_succ, ↓stop_ap, ↓w_tTup, ↓w_tNil, ↓w_tCons, ↓w_tName, ↓o_add, ↓o_sub, ↓o_addI, ↓o_neg, ↓o_mulX, ↓o_mod, ↓o_div, ↓o_powX, ↓o_lt, ↓o_le, ↓o_gt, ↓o_ge, ↓o_eq, ↓o_ne, ↓o_ixT, ↓o_ixL, ↓o_ixB, ↓o_ixS, ↓o_ixC, ↓o_int, ↓o_abs, ↓o_max2, ↓o_min2, ↓o_lenT, ↓o_lenL, ↓o_lenB, ↓o_lenS, ↓o_divmod, ↓o_slT, ↓o_slL, ↓o_slB, ↓o_repr, ↓o_eqS, ↓o_neS, ↓o_eqB, ↓o_neB, ↓w_forCons, ↓w_compNil, ↓w_compCons, ↓o_allL, ↓o_anyL, ↓o_eqT2, ↓o_neT2, ↓o_tupleL, ↓o_tupleB, ↓o_tupleT, ↓o_sumL, ↓o_addT, ↓o_addL, ↓w_chain3, ↓w_zip2, ↓w_enum1, ↓w_parSO, ↓o_inT, ↓o_inL, ↓o_inB, ↓o_repL, ↓o_mulL, ↓o_catL, ↓o_catBL, ↓o_catLB, ↓o_listFL, ↓o_listFB, ↓o_listFT, ↓o_eqNil, ↓o_reprB, ↓o_neLnn, ↓o_neLcn, ↓o_neBnn, ↓o_neBcn, ↓R.wp_ok, ↓w_get2, ↓w_dict0, ↓w_forI, ↓w_dictI, ↓w_putD, ↓w_comp2, ↓w_isi2, ↓w_parOO, ↓w_parOS, ↓w_pop, ↓w_lrange, ↓w_zip3, ↓o_mulT, ↓o_inD, ↓o_ixD, ↓w_callC, ↓w_callCK, ↓w_nest, ↓o_ixN, ↓o_reprN, ↓w_cellM, ↓w_sortSet, ↓w_lenSet, ↓w_enumZ, ↓w_listZip, ↓w_parSOO,
  startE_eq, List.reduceReplicate, Nat.reduceSub, p_name, p_tup, p_tupL, p_cons, p_nil, wipe_nil, wipe_cons, bls_nil, bls_cons, Sim.ints_nil, Sim.ints_cons, List.all_cons, List.all_nil, List.any_cons, List.any_nil, id, Bool.and_true, Bool.true_and, Option.bind_some, perm, List.filterMap_cons_some, List.filterMap_nil, List.filterMap_cons, List.nil_append, List.cons_append, atI_lit, setP_lit, Sim.atI_nat, Nat.reduceLT, Int.cast_ofNat_Int, Int.natCast_zero, Int.natCast_one, Int.reduceEq, Int.reduceToNat, isInt_none, isInt_bool, isInt_int, isInt_str, isInt_list, isInt_tuple, isInt_dict, isInt_bL, isInt_cell, isInt_scr, isBool_none, isBool_bool, isBool_int, isBool_str, isBool_list, isBool_tuple, isBool_dict, isBool_bL, isBool_cell, isBool_scr, isStr_none, isStr_bool, isStr_int, isStr_str, isStr_list, isStr_tuple, isStr_dict, isStr_bL, isStr_cell, isStr_scr, isTup_none, isTup_bool, isTup_int, isTup_str, isTup_list, isTup_tuple, isTup_dict, isTup_bL, isTup_cell, isTup_scr, isLst_none, isLst_bool, isLst_int, isLst_str, isLst_list, isLst_tuple, isLst_dict, isLst_bL, isLst_cell, isLst_scr, isDic_none, isDic_bool, isDic_int, isDic_str, isDic_list, isDic_tuple, isDic_dict, isDic_bL, isDic_cell, isDic_scr, cnd_not, cnd_true, cnd_false, dats, isB_d, isB_cell, isB_scr, isB_bor, noC_d, noC_cell, noC_scr, noC_bor, List.map_cons, List.map_nil, sizeLine, Option.map_some, List.getElem?_cons_zero, List.getElem?_cons_succ, List.set_cons_zero, List.set_cons_succ, Bool.or_false, Bool.false_or, Bool.or_self, Bool.false_eq_true, Bool.not_true, Bool.not_false, decide_true, decide_false, true_and, and_true, and_self, if_true, if_false, reduceIte, Int.reduceLT, Int.reduceLE, Int.reduceNeg, Int.reducePow, Nat.reducePow, List.length_cons, List.length_nil, Nat.reduceAdd, Int.reduceAdd, Int.reduceSub, Int.reduceMul, seqOf_l, seqOf_t, seqOf_b, zipD_len, enumD_len, zipD_cons, zipD_nil, zipD_nil2, fInB_f, fInB_t, flat_int, flat_str, flat_bool, flat_none, atI_m1, atI_m1c, List.length_map, bls_mapB, all_mapT, key_i, key_s, dic_d, dic_b, popHead_c, cellsOf, isB_nest, noC_nest])
theorem s_powered {b n m : Nat} {g : G} {Q : D → G → Prop} (hm : 1 < m) (hm2 : m < 2 ^ 31) (hb : b < m) (hn : n < 1000000) (h : Q (I (b ^ n % m)) g) : (fn_powered [I b, I n, I m] g).wp Q := by
  unfold fn_powered
  rw [w_fn]
  show RS.wp (m_powered [.sh (I b), .sh (I n), .sh (I m), .un] g) _ _
  unfold m_powered
  walk_at "ev_792ec_1"
  refine w_while (fun k e g' => g' = g ∧ ∃ b' f, e = [.sh (I b'), .sh (I k), .sh (I m), .sh (I f)] ∧ b' < m ∧ f < m ∧ f * b' ^ k % m = b ^ n % m) n (by unfold FUEL; omega) ⟨rfl, b, 1, rfl, hb, hm, by rw [Nat.one_mul]⟩ ?_
  rintro k e g' ⟨rfl, b', f, rfl, hb', hf, hv⟩
  walk_at "ev_792ec_1"
  refine cnd_i (fun hk => ?_) (fun hk => ?_)
  · have hk := of_decide_eq_true hk
    have hk0 : 0 < k := by omega
    walk_at "ev_792ec_1"
    refine cnd_i (fun h2 => ?_) (fun h2 => ?_)
    · have h2 := of_decide_eq_true h2
      walk_at "ev_792ec_1"
      refine ⟨by omega, by omega, by omega, by omega, k / 2, by omega, b' * b' % m, f * b' % m, ?_, Nat.mod_lt _ (by omega), Nat.mod_lt _ (by omega), ?_⟩
      · push_cast; rfl
      · rw [pow_step _ _ _ _ (by omega)]; exact hv
    · have h2 := of_decide_eq_false h2
      walk_at "ev_792ec_1"
      refine ⟨by omega, by omega, k / 2, by omega, b' * b' % m, f, ?_, Nat.mod_lt _ (by omega), hf, ?_⟩
      · push_cast; rfl
      · rw [pow_step0 _ _ _ _ (by omega)]; exact hv
  · have hk := of_decide_eq_false hk
    have hk0 : k = 0 := by omega
    subst hk0
    walk_at "ev_792ec_1"
    rw [Nat.pow_zero, Nat.mul_one, Nat.mod_eq_of_lt hf] at hv
    subst hv
    exact h
/-! ### primes, groups, elements -/
def PrimeN (n : Nat) : Prop := 2 ≤ n ∧ ∀ d, 2 ≤ d → d * d ≤ n → n % d ≠ 0
def primeB (n : Nat) : Bool := decide (2 ≤ n) && (List.range 1000).all fun d => decide (d < 2) || decide (n < d * d) || !decide (n % d = 0)
theorem primeB_iff {n : Nat} (hn : n < 1000000) : primeB n = true ↔ PrimeN n := by
  unfold primeB PrimeN
  simp only [Bool.and_eq_true, decide_eq_true_eq, List.all_eq_true, List.mem_range, Bool.or_eq_true, Bool.not_eq_true', decide_eq_false_iff_not]
  constructor
  · rintro ⟨h1, h2⟩
    refine ⟨h1, fun d hd hdn => ?_⟩
    have hd1 : d < 1000 := by
      rcases Nat.lt_or_ge d 1000 with h | h
      · exact h
      · have := Nat.mul_le_mul h h
        omega
    rcases h2 d hd1 with (h | h) | h
    · omega
    · omega
    · exact h
  · rintro ⟨h1, h2⟩
    refine ⟨h1, fun d hd => ?_⟩
    by_cases ha : d < 2
    · exact .inl (.inl ha)
    · by_cases hb : n < d * d
      · exact .inl (.inr hb)
      · exact .inr (h2 d (by omega) (by omega))
theorem PrimeN.gcd {q e : Nat} (hq : PrimeN q) (he : 0 < e) (he2 : e < q) : Nat.gcd e q = 1 := by
  have h1 : Nat.gcd e q ∣ q := Nat.gcd_dvd_right e q
  have h2 : Nat.gcd e q ≤ e := Nat.gcd_le_left q he
  have h3 : 0 < Nat.gcd e q := Nat.gcd_pos_of_pos_left q he
  rcases Nat.lt_or_ge 1 (Nat.gcd e q) with h | h
  · exfalso
    obtain ⟨c, hc⟩ := h1
    have hc2 : 2 ≤ c := by
      rcases Nat.lt_or_ge c 2 with h' | h'
      · have : c = 0 ∨ c = 1 := by omega
        rcases this with rfl | rfl
        · rw [Nat.mul_zero] at hc; omega
        · rw [Nat.mul_one] at hc; omega
      · exact h'
    rcases Nat.le_total (Nat.gcd e q) c with hl | hl
    · have := Nat.mul_le_mul_left (Nat.gcd e q) hl
      exact hq.2 _ h (by omega) (by conv => lhs; lhs; rw [hc]
                                    exact Nat.mul_mod_right _ _)
    · have := Nat.mul_le_mul_right c hl
      exact hq.2 c hc2 (by omega) (by conv => lhs; lhs; rw [hc]
                                      exact Nat.mul_mod_left _ _)
  · omega
/-- what a group's numbers must be -/
structure Grp (p q g : Nat) : Prop where
  p1 : p ≤ 999983
  q1 : q ≤ 9973
  g1 : 2 ≤ g
  g2 : g < p
  pp : PrimeN p
  pq : PrimeN q
  dv : (p - 1) % q = 0
  od : g ^ q % p = 1
theorem pow_one_mod {g p a k : Nat} (h : g ^ a % p = 1) (hp : 1 < p) : (g ^ a) ^ k % p = 1 := by
  rw [Nat.pow_mod, h, Nat.one_pow, Nat.mod_eq_of_lt hp]
theorem pow_add_one {g p a b : Nat} (h : g ^ a % p = 1) (hp : 1 < p) : g ^ (a + b) % p = g ^ b % p := by
  rw [Nat.pow_add, Nat.mul_mod, h, Nat.one_mul, Nat.mod_mod]
theorem pow_mod_q {g p q n : Nat} (h : g ^ q % p = 1) (hp : 1 < p) : g ^ (n % q) % p = g ^ n % p := by
  conv => rhs; rw [← Nat.div_add_mod n q, Nat.pow_add, Nat.pow_mul, Nat.mul_mod, pow_one_mod h hp, Nat.one_mul, Nat.mod_mod]
theorem gcd_one {g p : Nat} (hp : 1 < p) : ∀ a b, g ^ a % p = 1 → g ^ b % p = 1 → g ^ (Nat.gcd a b) % p = 1 := by
  intro a
  induction a using Nat.strongRecOn with
  | ind a ih =>
    intro b ha hb
    rcases Nat.eq_zero_or_pos a with rfl | h
    · rw [Nat.gcd_zero_left]; exact hb
    · rw [Nat.gcd_rec]
      exact ih (b % a) (Nat.mod_lt _ h) a (by rw [pow_mod_q ha hp]; exact hb) ha
/-- the powers below q differ -/
theorem Grp.inj {p q g i j : Nat} (G : Grp p q g) (hi : i ≤ j) (hj : j < q) (h : g ^ i % p = g ^ j % p) : i = j := by
  rcases Nat.lt_or_ge i j with hlt | hge
  · exfalso
    have hp : 1 < p := by have := G.g1; have := G.g2; omega
    -- multiply by the inverse of g^i
    have e1 : g ^ (j - i) % p = 1 := by
      have h2 : g ^ (q - i) * g ^ i % p = g ^ (q - i) * g ^ j % p := by rw [Nat.mul_mod, h, ← Nat.mul_mod]
      rw [← Nat.pow_add, ← Nat.pow_add, show q - i + i = q by omega, show q - i + j = q + (j - i) by omega, pow_add_one G.od hp, G.od] at h2
      exact h2.symm
    have e2 := gcd_one hp _ _ e1 G.od
    rw [G.pq.gcd (by omega) (by omega), Nat.pow_one, Nat.mod_eq_of_lt G.g2] at e2
    have := G.g1; omega
  · omega
theorem Grp.p2 {p q g : Nat} (G : Grp p q g) : 1 < p := by have := G.g1; have := G.g2; omega
theorem Grp.q2 {p q g : Nat} (G : Grp p q g) : 2 ≤ q := G.pq.1
/-- a power of g, as a number below p -/
def el (p g k : Nat) : Nat := g ^ k % p
theorem Grp.el_lt {p q g : Nat} (G : Grp p q g) (k : Nat) : el p g k < p := Nat.mod_lt _ (by have := G.p2; omega)
theorem Grp.el_q {p q g : Nat} (G : Grp p q g) (k : Nat) : el p g k ^ q % p = 1 := by
  unfold el
  rw [← Nat.pow_mod, ← Nat.pow_mul, Nat.mul_comm, Nat.pow_mul]
  exact pow_one_mod G.od G.p2
theorem Grp.el_pos {p q g : Nat} (G : Grp p q g) (k : Nat) : 1 ≤ el p g k := by
  rcases Nat.eq_zero_or_pos (el p g k) with h | h
  · have := G.el_q k
    rw [h, Nat.zero_pow (by have := G.q2; omega), Nat.zero_mod] at this
    omega
  · exact h
theorem el_mod {p q g : Nat} (G : Grp p q g) (k : Nat) : el p g (k % q) = el p g k := pow_mod_q G.od G.p2
theorem el_mul {p g : Nat} (i j : Nat) : el p g i * el p g j % p = el p g (i + j) := by
  unfold el; rw [← Nat.mul_mod, ← Nat.pow_add]
theorem el_pow {p g : Nat} (i j : Nat) : el p g i ^ j % p = el p g (i * j) := by
  unfold el; rw [← Nat.pow_mod, ← Nat.pow_mul]
theorem Grp.el_inj {p q g i j : Nat} (G : Grp p q g) (hi : i < q) (hj : j < q) (h : el p g i = el p g j) : i = j := by
  rcases Nat.le_total i j with hl | hl
  · exact G.inj hl hj h
  · exact (G.inj hl hi h.symm).symm
theorem el_zero {p q g : Nat} (G : Grp p q g) : el p g 0 = 1 := by unfold el; rw [Nat.pow_zero, Nat.mod_eq_of_lt G.p2]
theorem el_one {p q g : Nat} (G : Grp p q g) : el p g 1 = g := by unfold el; rw [Nat.pow_one, Nat.mod_eq_of_lt G.g2]
theorem s_is_prime {n : Nat} {g : G} {Q : D → G → Prop} (hn : n < 1000000) (h : Q (.d (.bool (primeB n))) g) : (fn_is_prime [I n] g).wp Q := by
  unfold fn_is_prime
  rw [w_fn]
  show RS.wp (m_is_prime [.sh (I n), .un] g) _ _
  unfold m_is_prime
  walk_at "ev_792ec_1"
  refine cnd_i (fun h2 => ?_) (fun h2 => ?_)
  · have h2 := of_decide_eq_true h2
    have hb : primeB n = false := by
      unfold primeB; rw [decide_eq_false (by omega)]; rfl
    rw [hb] at h
    walk_at "ev_792ec_1"
    exact h
  · have h2 := of_decide_eq_false h2
    walk_at "ev_792ec_1"
    refine w_while (fun k e g' => g' = g ∧ ∃ d, e = [.sh (I n), .sh (I d)] ∧ 2 ≤ d ∧ d ≤ n + 1 ∧ k + d = n + 1 ∧ ∀ c, 2 ≤ c → c < d → n % c ≠ 0) (n - 1) (by unfold FUEL; omega) ⟨rfl, 2, rfl, by omega, by omega, by omega, fun c _ _ => by omega⟩ ?_
    rintro k e g' ⟨rfl, d, rfl, hd1, hd2, hk, hd3⟩
    walk_at "ev_792ec_1"
    refine ⟨by omega, cnd_i (fun h3 => ?_) (fun h3 => ?_)⟩
    · have h3 := of_decide_eq_true h3
      have h3' : d * d ≤ n := by
        rw [← Int.natCast_mul] at h3; omega
      have hdn : d ≤ n := Nat.le_trans (Nat.le_mul_of_pos_left d (by omega)) h3'
      walk_at "ev_792ec_1"
      refine ⟨by omega, cnd_i (fun h4 => ?_) (fun h4 => ?_)⟩
      · have h4 := of_decide_eq_true h4
        have hb : primeB n = false := by
          rcases hx : primeB n with _ | _
          · rfl
          · exact absurd (by omega) (((primeB_iff hn).mp hx).2 d hd1 h3')
        rw [hb] at h
        walk_at "ev_792ec_1"
        exact h
      · have h4 := of_decide_eq_false h4
        walk_at "ev_792ec_1"
        refine ⟨k - 1, by omega, d + 1, ?_, by omega, by omega, by omega, fun c h5 h6 => ?_⟩
        · push_cast; all_goals rfl
        · rcases Nat.lt_or_ge c d with h7 | h7
          · exact hd3 c h5 h7
          · have : c = d := by omega
            subst this; omega
    · have h3 := of_decide_eq_false h3
      have h3' : n < d * d := by
        rw [← Int.natCast_mul] at h3; omega
      have hb : primeB n = true := (primeB_iff hn).mpr ⟨by omega, fun c hc hcc => hd3 c hc (by
        rcases Nat.lt_or_ge c d with h | h
        · exact h
        · have := Nat.mul_le_mul h h; omega)⟩
      rw [hb] at h
      exact h
/-! ### groups and elements: what the functions answer -/
abbrev gName : Str := PySem.Str.ofString "group"
theorem strOk_group : PyData.strOk gName = true := by decide +kernel
abbrev gvP (p q g : Nat) : P := .tuple [.str gName, .int p, .int q, .int g]
abbrev gv (p q g : Nat) : D := .d (gvP p q g)
section
variable {p q gg : Nat} {g : G} {Q : D → G → Prop} {n k : Nat}
theorem e_is_integer {i : Int} : (callD fn_is_integer [.d (.int i)] g).wp (stop Q .mk) = Q (.d (.bool true)) g := by
  rw [callD_nb rfl]
  unfold fn_is_integer
  rw [w_fn]
  show RS.wp (m_is_integer [.sh (.d (.int i))] g) _ _ = _
  unfold m_is_integer
  walk_at "ev_792ec_1"
theorem e_is_row {xs : List P} {i : Int} : (callD fn_is_row [.d (.tuple xs), .d (.int i)] g).wp (stop Q .mk) = Q (.d (.bool (decide ((xs.length : Int) = i)))) g := by
  rw [callD_nb rfl]
  unfold fn_is_row
  rw [w_fn]
  show RS.wp (m_is_row [.sh (.d (.tuple xs)), .sh (.d (.int i))] g) _ _ = _
  unfold m_is_row
  walk_at "ev_792ec_1"
theorem cut4 {a b c d : P} : cutP [a, b, c, d] (some 1) none = [b, c, d] := rfl
local macro_rules | `(tactic| walk_at "ev_792ec_2") => `(tactic| simp only [↓w_C, ↓w_var, ↓w_op, ↓w_un, ↓w_isi, ↓w_b, ↓w_nil, ↓w_cons, ↓w_tup, ↓w_lst, ↓w_not, ↓w_and, ↓w_or, ↓w_ifE, ↓w_chain, ↓w_tv, ↓w_tvAnd, ↓w_tvOr, ↓w_tvNot, ↓w_tvYes, ↓w_call, ↓w_callK, ↓w_sl, ↓w_oNo, ↓w_oSome, ↓w_newCell, ↓w_comp, ↓Sim.w_next, ↓w_seq, ↓w_ret, ↓w_retN, ↓w_never, ↓w_expr, ↓w_if, ↓w_asg, ↓w_own, ↓w_freeze, ↓w_own1, ↓w_par, ↓w_par3, ↓w_asgT, ↓w_tP, ↓w_aug, ↓w_for, ↓w_forNil, ↓w_iSeq, ↓w_range1X, ↓w_range2X, ↓lk_shX, ↓lk_ownX, ↓lk_succ, ↓stop_ap, ↓w_tTup, ↓w_tNil, ↓w_tCons, ↓w_tName, ↓o_add, ↓o_sub, ↓o_addI, ↓o_neg, ↓o_mulX, ↓o_mod, ↓o_div, ↓o_powX, ↓o_lt, ↓o_le, ↓o_gt, ↓o_ge, ↓o_eq, ↓o_ne, ↓o_ixT, ↓o_ixL, ↓o_ixB, ↓o_ixS, ↓o_ixC, ↓o_int, ↓o_abs, ↓o_max2, ↓o_min2, ↓o_lenT, ↓o_lenL, ↓o_lenB, ↓o_lenS, ↓o_divmod, ↓o_slT, ↓o_slL, ↓o_slB, ↓o_repr, ↓o_eqS, ↓o_neS, ↓o_eqB, ↓o_neB, ↓w_forCons, ↓w_compNil, ↓w_compCons, ↓o_allL, ↓o_anyL, ↓o_eqT2, ↓o_neT2, ↓o_tupleL, ↓o_tupleB, ↓o_tupleT, ↓o_sumL, ↓o_addT, ↓o_addL, ↓w_chain3, ↓w_zip2, ↓w_enum1, ↓w_parSO, ↓o_inT, ↓o_inL, ↓o_inB, ↓o_repL, ↓o_mulL, ↓o_catL, ↓o_catBL, ↓o_catLB, ↓o_listFL, ↓o_listFB, ↓o_listFT, ↓o_eqNil, ↓o_reprB, ↓o_neLnn, ↓o_neLcn, ↓o_neBnn, ↓o_neBcn, ↓R.wp_ok, ↓w_get2, ↓w_dict0, ↓w_forI, ↓w_dictI, ↓w_putD, ↓w_comp2, ↓w_isi2, ↓w_parOO, ↓w_parOS, ↓w_pop, ↓w_lrange, ↓w_zip3, ↓o_mulT, ↓o_inD, ↓o_ixD, ↓w_callC, ↓w_callCK, ↓w_nest, ↓o_ixN, ↓o_reprN, ↓w_cellM, ↓w_sortSet, ↓w_lenSet, ↓w_enumZ, ↓w_listZip, ↓w_parSOO, ↓e_is_integer, ↓e_is_row, ↓cut4, ↓strOk_group,
  startE_eq, List.reduceReplicate, Nat.reduceSub, p_name, p_tup, p_tupL, p_cons, p_nil, wipe_nil, wipe_cons, bls_nil, bls_cons, Sim.ints_nil, Sim.ints_cons, List.all_cons, List.all_nil, List.any_cons, List.any_nil, id, Bool.and_true, Bool.true_and, Option.bind_some, perm, List.filterMap_cons_some, List.filterMap_nil, List.filterMap_cons, List.nil_append, List.cons_append, atI_lit, setP_lit, Sim.atI_nat, Nat.reduceLT, Int.cast_ofNat_Int, Int.natCast_zero, Int.natCast_one, Int.reduceEq, Int.reduceToNat, isInt_none, isInt_bool, isInt_int, isInt_str, isInt_list, isInt_tuple, isInt_dict, isInt_bL, isInt_cell, isInt_scr, isBool_none, isBool_bool, isBool_int, isBool_str, isBool_list, isBool_tuple, isBool_dict, isBool_bL, isBool_cell, isBool_scr, isStr_none, isStr_bool, isStr_int, isStr_str, isStr_list, isStr_tuple, isStr_dict, isStr_bL, isStr_cell, isStr_scr, isTup_none, isTup_bool, isTup_int, isTup_str, isTup_list, isTup_tuple, isTup_dict, isTup_bL, isTup_cell, isTup_scr, isLst_none, isLst_bool, isLst_int, isLst_str, isLst_list, isLst_tuple, isLst_dict, isLst_bL, isLst_cell, isLst_scr, isDic_none, isDic_bool, isDic_int, isDic_str, isDic_list, isDic_tuple, isDic_dict, isDic_bL, isDic_cell, isDic_scr, cnd_not, cnd_true, cnd_false, dats, isB_d, isB_cell, isB_scr, isB_bor, noC_d, noC_cell, noC_scr, noC_bor, List.map_cons, List.map_nil, sizeLine, Option.map_some, List.getElem?_cons_zero, List.getElem?_cons_succ, List.set_cons_zero, List.set_cons_succ, Bool.or_false, Bool.false_or, Bool.or_self, Bool.false_eq_true, Bool.not_true, Bool.not_false, decide_true, decide_false, true_and, and_true, and_self, if_true, if_false, reduceIte, Int.reduceLT, Int.reduceLE, Int.reduceNeg, Int.reducePow, Nat.reducePow, List.length_cons, List.length_nil, Nat.reduceAdd, Int.reduceAdd, Int.reduceSub, Int.reduceMul, seqOf_l, seqOf_t, seqOf_b, zipD_len, enumD_len, zipD_cons, zipD_nil, zipD_nil2, fInB_f, fInB_t, flat_int, flat_str, flat_bool, flat_none, atI_m1, atI_m1c, List.length_map, bls_mapB, all_mapT, key_i, key_s, dic_d, dic_b, popHead_c, cellsOf, isB_nest, noC_nest])
local macro_rules | `(tactic| walk_at "go_792ec_2") => `(tactic| repeat (first | walk_at "ev_792ec_2" | refine cnd_n (decide_eq_false (by omega)) ?_ | refine cnd_p (decide_eq_true (by omega)) ?_ | refine And.intro (by omega) ?_))
theorem s_is_group_of (G : Grp p q gg) (h : Q (.d (.bool true)) g) : (fn_is_group_of [gv p q gg] g).wp Q := by
  have h1 := G.p1
  have h2 := G.q1
  have h3 := G.g1
  have h4 := G.g2
  unfold fn_is_group_of
  rw [w_fn]
  show RS.wp (m_is_group_of [.sh (.d (.tuple [.str gName, .int p, .int q, .int gg])), .un, .un, .un, .un] g) _ _
  unfold m_is_group_of
  walk_at "go_792ec_2"
  refine w_call0 rfl (s_is_prime (by omega) ?_)
  rw [(primeB_iff (n := p) (by omega)).mpr G.pp]
  walk_at "go_792ec_2"
  refine w_call0 rfl (s_is_prime (by omega) ?_)
  rw [(primeB_iff (n := q) (by omega)).mpr G.pq]
  have h5 := G.q2
  have h6 : ((p : Int) - 1) % (q : Int) = 0 := by
    have := congrArg (Nat.cast : Nat → Int) G.dv
    rw [Int.natCast_emod] at this
    rw [show ((p : Int) - 1) = ((p - 1 : Nat) : Int) by omega]
    exact this
  walk_at "go_792ec_2"
  refine w_call0 rfl (s_powered G.p2 (by omega) (by omega) (by omega) ?_)
  rw [G.od]
  walk_at "go_792ec_2"
  exact h
theorem s_want_group (G : Grp p q gg) (h : Q (gv p q gg) g) : (fn_want_group [gv p q gg] g).wp Q := by
  unfold fn_want_group
  rw [w_fn]
  show RS.wp (m_want_group [.sh (gv p q gg)] g) _ _
  unfold m_want_group
  walk_at "go_792ec_2"
  refine w_call0 rfl (s_is_group_of G ?_)
  walk_at "go_792ec_2"
  exact h
theorem s_is_element_of (G : Grp p q gg) {e : Nat} (h1 : 1 ≤ e) (h2 : e < p) (h3 : e ^ q % p = 1) (h : Q (.d (.bool true)) g) : (fn_is_element_of [gv p q gg, I e] g).wp Q := by
  have := G.p1
  have := G.q1
  unfold fn_is_element_of
  rw [w_fn]
  show RS.wp (m_is_element_of [.sh (.d (.tuple [.str gName, .int p, .int q, .int gg])), .sh (I e)] g) _ _
  unfold m_is_element_of
  walk_at "go_792ec_2"
  refine w_call0 rfl (s_powered G.p2 (by omega) (by omega) (by omega) ?_)
  rw [h3]
  walk_at "go_792ec_2"
  exact h
theorem s_want_element (G : Grp p q gg) {e : Nat} (h1 : 1 ≤ e) (h2 : e < p) (h3 : e ^ q % p = 1) (h : Q (I e) g) : (fn_want_element [gv p q gg, I e] g).wp Q := by
  unfold fn_want_element
  rw [w_fn]
  show RS.wp (m_want_element [.sh (gv p q gg), .sh (I e)] g) _ _
  unfold m_want_element
  walk_at "go_792ec_2"
  refine w_call0 rfl (s_is_element_of G h1 h2 h3 ?_)
  walk_at "go_792ec_2"
  exact h
theorem s_want_el (G : Grp p q gg) (h : Q (I (el p gg k)) g) : (fn_want_element [gv p q gg, I (el p gg k)] g).wp Q :=
  s_want_element G (G.el_pos k) (G.el_lt k) (G.el_q k) h
theorem s_log_of (G : Grp p q gg) (hk : k < q) (h : Q (I k) g) : (fn_log_of [gv p q gg, I (el p gg k)] g).wp Q := by
  have := G.p1
  have := G.q1
  have := G.g2
  unfold fn_log_of
  rw [w_fn]
  show RS.wp (m_log_of [.sh (.d (.tuple [.str gName, .int p, .int q, .int gg])), .sh (I (el p gg k)), .un, .un] g) _ _
  unfold m_log_of
  walk_at "go_792ec_2"
  refine w_while (fun n e g' => g' = g ∧ ∃ j, n + j = k ∧ e = [.sh (.d (.tuple [.str gName, .int p, .int q, .int gg])), .sh (I (el p gg k)), .sh (I (el p gg j)), .sh (I j)]) k (by unfold FUEL; omega) ⟨rfl, 0, by omega, by rw [el_zero G]; rfl⟩ ?_
  rintro n e g' ⟨rfl, j, hj, rfl⟩
  have hlt := G.el_lt j
  walk_at "ev_792ec_2"
  refine cnd_i (fun h1 => ?_) (fun h1 => ?_)
  · have h1 := of_decide_eq_true h1
    have h2 : el p gg j = el p gg k := by omega
    have h3 : j = k := G.el_inj (by omega) hk h2
    subst h3
    walk_at "go_792ec_2"
    exact h
  · have h1 := of_decide_eq_false h1
    have h3 : j ≠ k := fun e => h1 (by rw [e])
    walk_at "go_792ec_2"
    refine ⟨n - 1, by omega, j + 1, by omega, ?_⟩
    have h4 : el p gg j * gg % p = el p gg (j + 1) := by
      conv => lhs; lhs; rhs; rw [← el_one G]
      exact el_mul j 1
    rw [← h4]
    push_cast; all_goals rfl
theorem s_power_of (G : Grp p q gg) (hn : n < 1000000) (h : Q (I (el p gg (k * n))) g) : (fn_power_of [gv p q gg, I (el p gg k), I n] g).wp Q := by
  have := G.p1
  unfold fn_power_of
  rw [w_fn]
  show RS.wp (m_power_of [.sh (.d (.tuple [.str gName, .int p, .int q, .int gg])), .sh (I (el p gg k)), .sh (I n)] g) _ _
  unfold m_power_of
  walk_at "go_792ec_2"
  refine w_call0 rfl (s_powered G.p2 (by omega) (G.el_lt k) hn ?_)
  rw [el_pow]
  walk_at "go_792ec_2"
  exact h
theorem s_is_count (h : Q (.d (.bool true)) g) : (fn_is_count [I n] g).wp Q := by
  unfold fn_is_count
  rw [w_fn]
  show RS.wp (m_is_count [.sh (I n)] g) _ _
  unfold m_is_count
  walk_at "go_792ec_2"
  rw [decide_eq_true (by omega)]
  exact h
theorem s_is_below {m : Nat} (hm : n < m) (h : Q (.d (.bool true)) g) : (fn_is_below [I n, I m] g).wp Q := by
  unfold fn_is_below
  rw [w_fn]
  show RS.wp (m_is_below [.sh (I n), .sh (I m)] g) _ _
  unfold m_is_below
  walk_at "go_792ec_2"
  refine w_call0 rfl (s_is_count ?_)
  walk_at "go_792ec_2"
  rw [decide_eq_true (by omega)]
  exact h
theorem s_times_of (G : Grp p q gg) {j : Nat} (h : Q (I (el p gg (k + j))) g) : (fn_times_of [gv p q gg, I (el p gg k), I (el p gg j)] g).wp Q := by
  have := G.p1
  have := G.el_lt k
  have := G.p2
  unfold fn_times_of
  rw [w_fn]
  show RS.wp (m_times_of [.sh (.d (.tuple [.str gName, .int p, .int q, .int gg])), .sh (I (el p gg k)), .sh (I (el p gg j))] g) _ _
  unfold m_times_of
  walk_at "go_792ec_2"
  rw [← el_mul] at h
  rw [← Int.natCast_mul, ← Int.natCast_emod]
  exact h
theorem s_times (G : Grp p q gg) {j : Nat} (h : Q (I (el p gg (k + j))) g) : (fn_times [gv p q gg, I (el p gg k), I (el p gg j)] g).wp Q := by
  unfold fn_times
  rw [w_fn]
  show RS.wp (m_times [.sh (gv p q gg), .sh (I (el p gg k)), .sh (I (el p gg j))] g) _ _
  unfold m_times
  walk_at "go_792ec_2"
  refine w_call0 rfl (s_want_group G ?_)
  walk_at "go_792ec_2"
  refine w_call0 rfl (s_want_el G ?_)
  walk_at "go_792ec_2"
  refine w_call0 rfl (s_want_el G ?_)
  walk_at "go_792ec_2"
  refine w_call0 rfl (s_times_of G ?_)
  walk_at "go_792ec_2"
  exact h
theorem s_under_of (G : Grp p q gg) (h : Q (I (el p gg (k * (q - 1)))) g) : (fn_under_of [gv p q gg, I (el p gg k)] g).wp Q := by
  have := G.p1
  have := G.q1
  have := G.q2
  unfold fn_under_of
  rw [w_fn]
  show RS.wp (m_under_of [.sh (.d (.tuple [.str gName, .int p, .int q, .int gg])), .sh (I (el p gg k))] g) _ _
  unfold m_under_of
  walk_at "go_792ec_2"
  rw [show ((q : Int) - 1) = ((q - 1 : Nat) : Int) by omega]
  refine w_call0 rfl (s_powered G.p2 (by omega) (G.el_lt k) (by omega) ?_)
  rw [el_pow]
  walk_at "go_792ec_2"
  exact h
end
/-! ### the pot: draws -/
def PotAt (i : Nat) (g : G) : Prop := ∃ a b : Nat, g[i]? = some [.int a, .int b] ∧ b < 2147483648
section
variable {g : G} {Q : D → G → Prop} {n k i many : Nat}
theorem set_at {g : G} {i : Nat} {x y : List P} (h : g[i]? = some x) : (g.set i y)[i]? = some y := by
  have : i < g.length := by
    rcases Nat.lt_or_ge i g.length with h1 | h1
    · exact h1
    · rw [List.getElem?_eq_none h1] at h; cases h
  rw [List.getElem?_set_self this]
theorem PotAt.app {ps : List P} (h : PotAt i g) : PotAt i (g ++ [ps]) := by
  obtain ⟨a, b, h1, h2⟩ := h
  exact ⟨a, b, by rw [List.getElem?_append_left (List.getElem?_eq_some_iff.mp h1).1]; exact h1, h2⟩
theorem potAt_mk {x y : Int} (hx : 0 ≤ x) (hy : 0 ≤ y) (h : y < 2147483648) : PotAt g.length (g ++ [[.int x, .int y]]) := by
  refine ⟨x.toNat, y.toNat, ?_, by omega⟩
  rw [List.getElem?_append_right (Nat.le_refl _), Nat.sub_self, Int.toNat_of_nonneg hx, Int.toNat_of_nonneg hy]; rfl
local macro_rules | `(tactic| walk_at "ev_792ec_3") => `(tactic| simp only [↓w_C, ↓w_var, ↓w_op, ↓w_un, ↓w_isi, ↓w_b, ↓w_nil, ↓w_cons, ↓w_tup, ↓w_lst, ↓w_not, ↓w_and, ↓w_or, ↓w_ifE, ↓w_chain, ↓w_tv, ↓w_tvAnd, ↓w_tvOr, ↓w_tvNot, ↓w_tvYes, ↓w_call, ↓w_callK, ↓w_sl, ↓w_oNo, ↓w_oSome, ↓w_newCell, ↓w_comp, ↓Sim.w_next, ↓w_seq, ↓w_ret, ↓w_retN, ↓w_never, ↓w_expr, ↓w_if, ↓w_asg, ↓w_own, ↓w_freeze, ↓w_own1, ↓w_par, ↓w_par3, ↓w_asgT, ↓w_tP, ↓w_aug, ↓w_for, ↓w_forNil, ↓w_iSeq, ↓w_range1X, ↓w_range2X, ↓lk_shX, ↓lk_ownX, ↓lk_succ, ↓stop_ap, ↓w_tTup, ↓w_tNil, ↓w_tCons, ↓w_tName, ↓o_add, ↓o_sub, ↓o_addI, ↓o_neg, ↓o_mulX, ↓o_mod, ↓o_div, ↓o_powX, ↓o_lt, ↓o_le, ↓o_gt, ↓o_ge, ↓o_eq, ↓o_ne, ↓o_ixT, ↓o_ixL, ↓o_ixB, ↓o_ixS, ↓o_ixC, ↓o_int, ↓o_abs, ↓o_max2, ↓o_min2, ↓o_lenT, ↓o_lenL, ↓o_lenB, ↓o_lenS, ↓o_divmod, ↓o_slT, ↓o_slL, ↓o_slB, ↓o_repr, ↓o_eqS, ↓o_neS, ↓o_eqB, ↓o_neB, ↓w_forCons, ↓w_compNil, ↓w_compCons, ↓o_allL, ↓o_anyL, ↓o_eqT2, ↓o_neT2, ↓o_tupleL, ↓o_tupleB, ↓o_tupleT, ↓o_sumL, ↓o_addT, ↓o_addL, ↓w_chain3, ↓w_zip2, ↓w_enum1, ↓w_parSO, ↓o_inT, ↓o_inL, ↓o_inB, ↓o_repL, ↓o_mulL, ↓o_catL, ↓o_catBL, ↓o_catLB, ↓o_listFL, ↓o_listFB, ↓o_listFT, ↓o_eqNil, ↓o_reprB, ↓o_neLnn, ↓o_neLcn, ↓o_neBnn, ↓o_neBcn, ↓R.wp_ok, ↓w_get2, ↓w_dict0, ↓w_forI, ↓w_dictI, ↓w_putD, ↓w_comp2, ↓w_isi2, ↓w_parOO, ↓w_parOS, ↓w_pop, ↓w_lrange, ↓w_zip3, ↓o_mulT, ↓o_inD, ↓o_ixD, ↓w_callC, ↓w_callCK, ↓w_nest, ↓o_ixN, ↓o_reprN, ↓w_cellM, ↓w_sortSet, ↓w_lenSet, ↓w_enumZ, ↓w_listZip, ↓w_parSOO, ↓e_is_integer, ↓e_is_row, ↓cut4, ↓strOk_group,
  startE_eq, List.reduceReplicate, Nat.reduceSub, p_name, p_tup, p_tupL, p_cons, p_nil, wipe_nil, wipe_cons, bls_nil, bls_cons, Sim.ints_nil, Sim.ints_cons, List.all_cons, List.all_nil, List.any_cons, List.any_nil, id, Bool.and_true, Bool.true_and, Option.bind_some, perm, List.filterMap_cons_some, List.filterMap_nil, List.filterMap_cons, List.nil_append, List.cons_append, atI_lit, setP_lit, Sim.atI_nat, Nat.reduceLT, Int.cast_ofNat_Int, Int.natCast_zero, Int.natCast_one, Int.reduceEq, Int.reduceToNat, isInt_none, isInt_bool, isInt_int, isInt_str, isInt_list, isInt_tuple, isInt_dict, isInt_bL, isInt_cell, isInt_scr, isBool_none, isBool_bool, isBool_int, isBool_str, isBool_list, isBool_tuple, isBool_dict, isBool_bL, isBool_cell, isBool_scr, isStr_none, isStr_bool, isStr_int, isStr_str, isStr_list, isStr_tuple, isStr_dict, isStr_bL, isStr_cell, isStr_scr, isTup_none, isTup_bool, isTup_int, isTup_str, isTup_list, isTup_tuple, isTup_dict, isTup_bL, isTup_cell, isTup_scr, isLst_none, isLst_bool, isLst_int, isLst_str, isLst_list, isLst_tuple, isLst_dict, isLst_bL, isLst_cell, isLst_scr, isDic_none, isDic_bool, isDic_int, isDic_str, isDic_list, isDic_tuple, isDic_dict, isDic_bL, isDic_cell, isDic_scr, cnd_not, cnd_true, cnd_false, dats, isB_d, isB_cell, isB_scr, isB_bor, noC_d, noC_cell, noC_scr, noC_bor, List.map_cons, List.map_nil, sizeLine, Option.map_some, List.getElem?_cons_zero, List.getElem?_cons_succ, List.set_cons_zero, List.set_cons_succ, Bool.or_false, Bool.false_or, Bool.or_self, Bool.false_eq_true, Bool.not_true, Bool.not_false, decide_true, decide_false, true_and, and_true, and_self, if_true, if_false, reduceIte, Int.reduceLT, Int.reduceLE, Int.reduceNeg, Int.reducePow, Nat.reducePow, List.length_cons, List.length_nil, Nat.reduceAdd, Int.reduceAdd, Int.reduceSub, Int.reduceMul, seqOf_l, seqOf_t, seqOf_b, zipD_len, enumD_len, zipD_cons, zipD_nil, zipD_nil2, fInB_f, fInB_t, flat_int, flat_str, flat_bool, flat_none, atI_m1, atI_m1c, List.length_map, bls_mapB, all_mapT, key_i, key_s, dic_d, dic_b, popHead_c, cellsOf, isB_nest, noC_nest])
local macro_rules | `(tactic| walk_at "go_792ec_3") => `(tactic| repeat (first | walk_at "ev_792ec_3" | refine cnd_n (decide_eq_false (by omega)) ?_ | refine cnd_p (decide_eq_true (by omega)) ?_ | refine And.intro (by omega) ?_))
theorem s_draw (h0 : 0 < many) (h1 : many < 1073741824) (hp : PotAt i g) (h : ∀ k g', k < many → PotAt i g' → Q (I k) g') : (fn__law_draw [.cell i, I many] g).wp Q := by
  obtain ⟨a, b, hg, hb⟩ := hp
  unfold fn__law_draw
  rw [w_fn]
  show RS.wp (m__law_draw [.sh (.cell i), .sh (I many), .un] g) _ _
  unfold m__law_draw
  walk_at "go_792ec_3"
  rw [hg]
  walk_at "ev_792ec_3"
  refine cnd_i (fun ha => ?_) (fun ha => ?_)
  · walk_at "ev_792ec_3"
    rw [hg]
    walk_at "go_792ec_3"
    rw [w_setCell rfl]
    walk_at "ev_792ec_3"
    rw [hg]
    walk_at "go_792ec_3"
    rw [← Int.natCast_emod]
    exact h _ _ (Nat.mod_lt _ h0) ⟨a / many, b, by rw [set_at hg]; push_cast; rfl, hb⟩
  · walk_at "ev_792ec_3"
    rw [hg]
    walk_at "go_792ec_3"
    rw [w_setCell rfl]
    walk_at "ev_792ec_3"
    rw [hg]
    walk_at "go_792ec_3"
    rw [set_at hg]
    walk_at "go_792ec_3"
    rw [show (((b : Int) * 40692 + 7477) % 2147483587 * (((b : Int) * 40692 + 7477) % 2147483587) % 2147483549 / 17 % (many : Int)) = (((b * 40692 + 7477) % 2147483587 * ((b * 40692 + 7477) % 2147483587) % 2147483549 / 17 % many : Nat) : Int) by simp only [Int.natCast_emod, Int.natCast_ediv, Int.natCast_mul, Int.natCast_add, Int.cast_ofNat_Int]]
    exact h _ _ (Nat.mod_lt _ h0) ⟨a, (b * 40692 + 7477) % 2147483587, by rw [set_at hg]; simp only [Int.natCast_emod, Int.natCast_ediv, Int.natCast_mul, Int.natCast_add, Int.cast_ofNat_Int], by omega⟩
theorem s_pick {xs : List P} (h0 : 0 < xs.length) (h1 : xs.length < 1073741824) (hp : PotAt i g) (h : ∀ (k : Nat) (p : P) (g' : Sim.G), xs[k]? = some p → PotAt i g' → Q (.d p) g') : (fn__law_pick [.cell i, .d (.list xs)] g).wp Q := by
  unfold fn__law_pick
  rw [w_fn]
  show RS.wp (m__law_pick [.sh (.cell i), .sh (.d (.list xs))] g) _ _
  unfold m__law_pick
  walk_at "go_792ec_3"
  refine w_call0 rfl (s_draw h0 h1 hp fun k g' hk hp' => ?_)
  walk_at "go_792ec_3"
  rw [List.getElem?_eq_getElem hk]
  walk_at "go_792ec_3"
  exact h k _ g' (List.getElem?_eq_getElem hk) hp'
theorem s_pot {ns : List Int} (hk : k < 64) (h : ∀ ps, PotAt g.length (g ++ [ps]) → Q (.cell g.length) (g ++ [ps])) : (fn__law_pot [.scr ns, I k] g).wp Q := by
  unfold fn__law_pot
  rw [w_fn]
  show RS.wp (m__law_pot [.sh (.scr ns), .sh (I k), .un] g) _ _
  unfold m__law_pot
  walk_at "ev_792ec_3"
  refine cnd_i (fun h1 => ?_) (fun h1 => ?_)
  · have h1 := of_decide_eq_true h1
    have h2 : k < ns.length := by omega
    walk_at "ev_792ec_3"
    rw [List.getElem?_eq_getElem h2]
    walk_at "go_792ec_3"
    exact h _ (potAt_mk (by split <;> omega) (by omega) (by omega))
  · walk_at "go_792ec_3"
    exact h _ (potAt_mk (by split <;> omega) (by omega) (by omega))
end
/-! ### sums of powers: as many as there are numbers, and all are noughts -/
theorem PrimeN.euclid {q : Nat} (hq : PrimeN q) {a b : Int} (h : (q : Int) ∣ a * b) : (q : Int) ∣ a ∨ (q : Int) ∣ b := by
  have h1 : q ∣ a.natAbs * b.natAbs := by
    have := Int.natAbs_dvd_natAbs.mpr h
    rwa [Int.natAbs_mul, Int.natAbs_natCast] at this
  rcases Nat.eq_zero_or_pos (a.natAbs % q) with h2 | h2
  · left
    have : q ∣ a.natAbs := Nat.dvd_of_mod_eq_zero h2
    exact Int.ofNat_dvd_left.mpr this
  · right
    have hlt : a.natAbs % q < q := Nat.mod_lt _ (by have := hq.1; omega)
    have hg : Nat.gcd (a.natAbs % q) q = 1 := hq.gcd h2 hlt
    have hc : Nat.Coprime q a.natAbs := by
      unfold Nat.Coprime
      rw [Nat.gcd_rec]; exact hg
    exact Int.ofNat_dvd_left.mpr (hc.dvd_of_dvd_mul_left h1)
def psI (m : Nat) : List (Int × Int) → Int
  | [] => 0
  | a :: r => a.2 * a.1 ^ m + psI m r
theorem psI_less (x : Int) (m : Nat) : ∀ r : List (Int × Int), psI m (r.map fun a => (a.1, a.2 * (a.1 - x))) = psI (m + 1) r - x * psI m r
  | [] => by simp [psI]
  | a :: r => by
    simp only [List.map_cons, psI, psI_less x m r]
    rw [Int.mul_add, Int.pow_succ]
    have : a.2 * (a.1 - x) * a.1 ^ m = a.2 * (a.1 ^ m * a.1) - x * (a.2 * a.1 ^ m) := by
      rw [Int.mul_sub, Int.sub_mul]
      congr 1
      · rw [Int.mul_assoc, Int.mul_comm a.1]
      · rw [Int.mul_comm a.2 x, Int.mul_assoc]
    omega
theorem vander {q : Nat} (hq : PrimeN q) : ∀ (n : Nat) (T : List (Int × Int)), T.length = n → T.Pairwise (fun a b => ¬ (q : Int) ∣ b.1 - a.1) → (∀ m, m < T.length → (q : Int) ∣ psI m T) → ∀ a ∈ T, (q : Int) ∣ a.2
  | 0, T, h, _, _, a, ha => by
    have := List.eq_nil_of_length_eq_zero h
    subst this; cases ha
  | n + 1, [], h, _, _, a, ha => nomatch ha
  | n + 1, b :: R, h, hp, hs, a, ha => by
    rw [List.pairwise_cons] at hp
    have hl : R.length = n := by simpa using h
    have key := vander hq n (R.map fun a => (a.1, a.2 * (a.1 - b.1))) (by simpa using hl) (by
      rw [List.pairwise_map]; exact hp.2) (fun m hm => by
        rw [List.length_map] at hm
        rw [psI_less]
        have h1 := hs (m + 1) (by simp; omega)
        have h2 := hs m (by simp; omega)
        simp only [psI] at h1 h2
        have e : psI (m + 1) R - b.1 * psI m R = (b.2 * b.1 ^ (m + 1) + psI (m + 1) R) - b.1 * (b.2 * b.1 ^ m + psI m R) := by
          rw [Int.mul_add, Int.pow_succ]
          have : b.1 * (b.2 * b.1 ^ m) = b.2 * (b.1 ^ m * b.1) := by
            rw [Int.mul_comm b.1, Int.mul_assoc]
          omega
        rw [e]
        exact Int.dvd_sub h1 (Int.dvd_mul_of_dvd_right h2))
    have hR : ∀ c ∈ R, (q : Int) ∣ c.2 := fun c hc => by
      have h1 := key _ (List.mem_map.mpr ⟨c, hc, rfl⟩)
      rcases hq.euclid h1 with h2 | h2
      · exact h2
      · exact absurd h2 (hp.1 c hc)
    have h0 : ∀ R : List (Int × Int), (∀ c ∈ R, (q : Int) ∣ c.2) → (q : Int) ∣ psI 0 R := fun R hR => by
      induction R with
      | nil => exact Int.dvd_zero _
      | cons c R ih =>
        simp only [psI, Int.pow_zero, Int.mul_one]
        exact Int.dvd_add (hR c List.mem_cons_self) (ih fun d hd => hR d (List.mem_cons_of_mem _ hd))
    rcases List.mem_cons.mp ha with rfl | ha
    · have h1 := hs 0 (by simp)
      simp only [psI, Int.pow_zero, Int.mul_one] at h1
      exact (Int.dvd_add_left (h0 R hR)).mp h1
    · exact hR a ha
def psum (m : Nat) : Nat → List Nat → Nat
  | _, [] => 0
  | o, f :: r => f * (o + 1) ^ m + psum m (o + 1) r
theorem psum_snoc {m a : Nat} : ∀ {o : Nat} {l : List Nat}, psum m o (l ++ [a]) = psum m o l + a * (o + l.length + 1) ^ m
  | o, [] => by simp [psum]
  | o, f :: r => by
    simp only [List.cons_append, psum, psum_snoc, List.length_cons]
    rw [show o + 1 + r.length + 1 = o + (r.length + 1) + 1 by omega]
    omega
/-- the numbers that are no noughts, with their places -/
def nz (o : Nat) (fs : List Nat) : List (Nat × Nat) := (fs.zipIdx o).filter fun a => decide (a.1 ≠ 0)
theorem psum_nz (m : Nat) : ∀ (o : Nat) (fs : List Nat), ((psum m o fs : Nat) : Int) = psI m ((nz o fs).map fun a => (((a.2 + 1 : Nat) : Int), (a.1 : Int)))
  | o, [] => rfl
  | o, f :: r => by
    have ih := psum_nz m (o + 1) r
    unfold nz at ih ⊢
    rw [List.zipIdx_cons, List.filter_cons]
    by_cases hf : f = 0
    · subst hf
      simp only [psum, Nat.zero_mul, Nat.zero_add, ne_eq, not_true_eq_false, decide_false, Bool.false_eq_true, if_false]
      exact ih
    · simp only [psum, ne_eq, hf, not_false_eq_true, decide_true, if_true, List.map_cons, psI]
      rw [← ih]
      push_cast
      rfl
theorem nz_places {o : Nat} {fs : List Nat} {a : Nat × Nat} (h : a ∈ nz o fs) : o ≤ a.2 ∧ a.2 < o + fs.length ∧ a.1 ≠ 0 ∧ a.1 ∈ fs := by
  unfold nz at h
  rw [List.mem_filter] at h
  obtain ⟨h1, h2⟩ := h
  have := List.mem_zipIdx h1
  refine ⟨this.1, this.2.1, by simpa using h2, ?_⟩
  rw [this.2.2]; exact List.getElem_mem _
theorem vander_nz {q : Nat} (hq : PrimeN q) {fs : List Nat} (hf : ∀ f ∈ fs, f < q) (hl : fs.length < q) (h : ∀ m, m < (nz 0 fs).length → psum m 0 fs % q = 0) : nz 0 fs = [] := by
  rcases hn : nz 0 fs with _ | ⟨a, r⟩
  · rfl
  · exfalso
    have ha : a ∈ nz 0 fs := by rw [hn]; exact List.mem_cons_self
    have h1 := vander hq _ ((nz 0 fs).map fun a => (((a.2 + 1 : Nat) : Int), (a.1 : Int))) rfl (by
      rw [List.pairwise_map]
      have hs : (nz 0 fs).Pairwise (fun a b => a.2 < b.2) := by
        unfold nz
        refine List.Pairwise.filter _ ?_
        rw [List.pairwise_iff_getElem]
        intro i j hi hj hij
        simp; omega
      refine hs.imp_of_mem fun {a b} ha hb hab hd => ?_
      have h1 := nz_places ha
      have h2 := nz_places hb
      obtain ⟨c, hc⟩ := hd
      dsimp only at hc
      have hc1 : 0 < (q : Int) * c := by rw [← hc]; omega
      have hc2 : (q : Int) * c < q := by rw [← hc]; omega
      have hq0 : 0 < (q : Int) := by omega
      have : 0 < c := by
        rcases Int.lt_or_le 0 c with h | h
        · exact h
        · have := Int.mul_nonpos_of_nonneg_of_nonpos (show 0 ≤ (q : Int) by omega) h
          omega
      have := Int.mul_le_mul_of_nonneg_left (show 1 ≤ c by omega) (show 0 ≤ (q : Int) by omega)
      omega) (fun m hm => by
        rw [List.length_map] at hm
        rw [← psum_nz]
        exact Int.natCast_dvd_natCast.mpr (Nat.dvd_of_mod_eq_zero (h m hm))) _ (List.mem_map.mpr ⟨a, ha, rfl⟩)
    have h2 := nz_places ha
    have h3 := hf _ h2.2.2.2
    have h4 : q ∣ a.1 := Int.natCast_dvd_natCast.mp h1
    have := Nat.le_of_dvd (by omega) h4
    omega
/-! ### numbers modulo a prime: sums, inverses -/
section
variable {q : Nat} [NeZero q]
/-- a sum of the first n values -/
def sumF : Nat → (Nat → Fin q) → Fin q
  | 0, _ => 0
  | n + 1, f => sumF n f + f n
theorem sumF_congr {n : Nat} {f g : Nat → Fin q} (h : ∀ j, j < n → f j = g j) : sumF n f = sumF n g := by
  induction n with
  | zero => rfl
  | succ n ih =>
    show sumF n f + f n = sumF n g + g n
    rw [ih fun j hj => h j (by omega), h n (by omega)]
theorem sumF_zero {n : Nat} {f : Nat → Fin q} (h : ∀ j, j < n → f j = 0) : sumF n f = 0 := by
  induction n with
  | zero => rfl
  | succ n ih =>
    show sumF n f + f n = 0
    rw [ih fun j hj => h j (by omega), h n (by omega)]
    grind
theorem sumF_lin {n : Nat} {c : Fin q} {f g : Nat → Fin q} : sumF n (fun j => f j + c * g j) = sumF n f + c * sumF n g := by
  induction n with
  | zero => show (0 : Fin q) = 0 + c * 0; grind
  | succ n ih =>
    show sumF n (fun j => f j + c * g j) + (f n + c * g n) = sumF n f + f n + c * (sumF n g + g n)
    rw [ih]; grind
theorem sumF_mul {n : Nat} {c : Fin q} {f : Nat → Fin q} : sumF n (fun j => c * f j) = c * sumF n f := by
  induction n with
  | zero => show (0 : Fin q) = c * 0; grind
  | succ n ih =>
    show sumF n (fun j => c * f j) + c * f n = c * (sumF n f + f n)
    rw [ih]; grind
theorem sumF_one {n k : Nat} {f : Nat → Fin q} (hk : k < n) (h : ∀ j, j < n → j ≠ k → f j = 0) : sumF n f = f k := by
  induction n with
  | zero => omega
  | succ n ih =>
    show sumF n f + f n = f k
    by_cases e : k = n
    · subst e
      rw [sumF_zero fun j hj => h j (by omega) (by omega)]; grind
    · rw [ih (by omega) fun j hj => h j (by omega), h n (by omega) (fun z => e z.symm)]; grind
theorem sumF_swap {n m : Nat} {f : Nat → Nat → Fin q} : sumF n (fun i => sumF m fun j => f i j) = sumF m fun j => sumF n fun i => f i j := by
  induction n with
  | zero => exact (sumF_zero fun j _ => rfl).symm
  | succ n ih =>
    show sumF n (fun i => sumF m fun j => f i j) + sumF m (fun j => f n j) = sumF m fun j => sumF n (fun i => f i j) + f n j
    rw [ih]
    have := sumF_lin (n := m) (c := 1) (f := fun j => sumF n fun i => f i j) (g := fun j => f n j)
    rw [show (fun j => sumF n (fun i => f i j) + f n j) = fun j => sumF n (fun i => f i j) + 1 * f n j by funext j; grind, this]
    grind
/-! inverses -/
theorem bezout : ∀ a b : Nat, ∃ x y : Int, (a : Int) * x + (b : Int) * y = (Nat.gcd a b : Nat) := by
  intro a
  induction a using Nat.strongRecOn with
  | ind a ih =>
    intro b
    rcases Nat.eq_zero_or_pos a with rfl | h
    · exact ⟨0, 1, by rw [Nat.gcd_zero_left]; omega⟩
    · obtain ⟨x, y, hxy⟩ := ih (b % a) (Nat.mod_lt _ h) a
      rw [Nat.gcd_rec, ← hxy]
      refine ⟨y - (b / a : Nat) * x, x, ?_⟩
      have e : (b : Int) = (a : Int) * ((b / a : Nat) : Int) + ((b % a : Nat) : Int) := by
        have := Nat.div_add_mod b a
        omega
      rw [e]
      generalize ((b / a : Nat) : Int) = u
      generalize ((b % a : Nat) : Int) = v
      grind
theorem inv_ex (hq : PrimeN q) {a : Fin q} (ha : a ≠ 0) : ∃ b : Fin q, a * b = 1 := by
  have hq1 := hq.1
  have h0 : 0 < a.val := Nat.pos_of_ne_zero fun e => ha (Fin.ext e)
  obtain ⟨x, y, hxy⟩ := bezout a.val q
  rw [hq.gcd h0 a.isLt] at hxy
  have hxq : 0 ≤ x % (q : Int) := Int.emod_nonneg _ (by omega)
  have hxl : x % (q : Int) < q := Int.emod_lt_of_pos _ (by omega)
  refine ⟨⟨(x % (q : Int)).toNat, by omega⟩, Fin.ext ?_⟩
  rw [Fin.val_mul]
  show a.val * (x % (q : Int)).toNat % q = (1 : Fin q).val
  have h1 : (1 : Fin q).val = 1 := by
    show 1 % q = 1
    exact Nat.mod_eq_of_lt (by omega)
  rw [h1]
  have h2 : ((a.val * (x % (q : Int)).toNat % q : Nat) : Int) = 1 := by
    rw [Int.natCast_emod, Int.natCast_mul, Int.toNat_of_nonneg hxq, Int.mul_emod, Int.emod_emod, ← Int.mul_emod]
    have : (a.val : Int) * x = 1 + (q : Int) * (-y) := by
      have : ((1 : Nat) : Int) = 1 := rfl
      rw [this] at hxy
      grind
    rw [this, Int.add_mul_emod_self_left]
    exact Int.emod_eq_of_lt (by omega) (by omega)
  omega
theorem one_ne (hq : PrimeN q) : (1 : Fin q) ≠ 0 := fun e => by
  have := congrArg Fin.val e
  have hq1 := hq.1
  have h1 : (1 : Fin q).val = 1 := by
    show 1 % q = 1
    exact Nat.mod_eq_of_lt (by omega)
  rw [h1] at this
  exact absurd this (by show ¬ 1 = 0; omega)
theorem mul_ne (hq : PrimeN q) {a b : Fin q} (ha : a ≠ 0) (hb : b ≠ 0) : a * b ≠ 0 := fun e => by
  obtain ⟨c, hc⟩ := inv_ex hq ha
  apply hb
  have : b = c * (a * b) := by grind
  rw [this, e]; grind
def prodF : List (Fin q) → Fin q
  | [] => 1
  | a :: l => a * prodF l
theorem prodF_perm {l m : List (Fin q)} (h : l.Perm m) : prodF l = prodF m := by
  induction h with
  | nil => rfl
  | cons a _ ih => show a * _ = a * _; rw [ih]
  | swap a b l => show b * (a * _) = a * (b * _); grind
  | trans _ _ h1 h2 => rw [h1, h2]
theorem prodF_map {a : Fin q} : ∀ {l : List (Fin q)}, prodF (l.map (a * ·)) = a ^ l.length * prodF l
  | [] => by show (1 : Fin q) = a ^ 0 * 1; grind
  | b :: l => by
    show a * b * prodF (l.map (a * ·)) = a ^ (l.length + 1) * (b * prodF l)
    rw [prodF_map]; grind
theorem prodF_ne (hq : PrimeN q) : ∀ {l : List (Fin q)}, (∀ b ∈ l, b ≠ 0) → prodF l ≠ 0
  | [], _ => one_ne hq
  | b :: l, h => mul_ne hq (h b List.mem_cons_self) (prodF_ne hq fun c hc => h c (List.mem_cons_of_mem _ hc))
theorem fermat (hq : PrimeN q) {a : Fin q} (ha : a ≠ 0) : a ^ (q - 1) = 1 := by
  have hq1 := hq.1
  obtain ⟨b, hb⟩ := inv_ex hq ha
  let l : List (Fin q) := (List.range (q - 1)).map fun i => Fin.ofNat q (i + 1)
  have hv : ∀ i, i < q - 1 → (Fin.ofNat q (i + 1)).val = i + 1 := fun i hi => by
    show (i + 1) % q = i + 1
    exact Nat.mod_eq_of_lt (by omega)
  have hl : ∀ x, x ∈ l ↔ x ≠ 0 := fun x => by
    show x ∈ (List.range (q - 1)).map _ ↔ _
    rw [List.mem_map]
    constructor
    · rintro ⟨i, hi, rfl⟩ e
      have := congrArg Fin.val e
      rw [hv i (List.mem_range.mp hi)] at this
      exact absurd this (by show ¬ i + 1 = 0; omega)
    · intro hx
      have h0 : 0 < x.val := Nat.pos_of_ne_zero fun e => hx (Fin.ext e)
      have := x.isLt
      refine ⟨x.val - 1, List.mem_range.mpr (by omega), Fin.ext ?_⟩
      rw [hv _ (by omega)]; omega
  have hn : l.Nodup := by
    show ((List.range (q - 1)).map _).Nodup
    rw [List.nodup_iff_pairwise_ne, List.pairwise_map]
    refine (List.nodup_iff_pairwise_ne.mp List.nodup_range).imp_of_mem fun {i j} hi hj hij e => hij ?_
    have := congrArg Fin.val e
    rw [hv i (List.mem_range.mp hi), hv j (List.mem_range.mp hj)] at this
    omega
  have hinj : ∀ x y : Fin q, a * x = a * y → x = y := fun x y e => by
    have h1 : x = b * (a * x) := by grind
    have h2 : y = b * (a * y) := by grind
    rw [h1, h2, e]
  have hp : (l.map (a * ·)).Perm l := by
    refine (List.perm_ext_iff_of_nodup ?_ hn).mpr fun y => ?_
    · rw [List.nodup_iff_pairwise_ne, List.pairwise_map]
      rw [List.nodup_iff_pairwise_ne] at hn
      exact hn.imp fun h e => h (hinj _ _ e)
    · rw [List.mem_map, hl]
      constructor
      · rintro ⟨x, hx, rfl⟩
        exact mul_ne hq ha ((hl x).mp hx)
      · intro hy
        have hb0 : b ≠ 0 := fun e => by rw [e] at hb; exact one_ne hq (by rw [← hb]; grind)
        exact ⟨b * y, (hl _).mpr (mul_ne hq hb0 hy), by grind⟩
  have h1 := prodF_perm hp
  rw [prodF_map] at h1
  have h2 : prodF l ≠ 0 := prodF_ne hq fun c hc => (hl c).mp hc
  obtain ⟨d, hd⟩ := inv_ex hq h2
  have hlen : l.length = q - 1 := by
    show ((List.range (q - 1)).map _).length = _
    rw [List.length_map, List.length_range]
  rw [← hlen]
  have : a ^ l.length = a ^ l.length * prodF l * d := by grind
  rw [this, h1, hd]
theorem inv_pow (hq : PrimeN q) {a : Fin q} (ha : a ≠ 0) : a ^ (q - 2) * a = 1 := by
  have hq1 := hq.1
  have h := fermat hq ha
  rw [show q - 1 = q - 2 + 1 by omega] at h
  grind
end
/-! ### how many weighings give a sum -/
section
def sumR (b : Nat) (F : Nat → Nat) : Nat := ((List.range b).map F).sum
theorem sumR_zero {F : Nat → Nat} : sumR 0 F = 0 := rfl
theorem sumR_succ {b : Nat} {F : Nat → Nat} : sumR (b + 1) F = sumR b F + F b := by
  unfold sumR
  rw [List.range_succ, List.map_append, List.sum_append]; simp
theorem sumR_head {b : Nat} {F : Nat → Nat} : sumR (b + 1) F = F 0 + sumR b fun k => F (k + 1) := by
  unfold sumR
  rw [List.range_succ_eq_map, List.map_cons, List.sum_cons, List.map_map]; rfl
theorem sumR_congr {b : Nat} {F H : Nat → Nat} (h : ∀ k, k < b → F k = H k) : sumR b F = sumR b H := by
  unfold sumR
  rw [List.map_congr_left fun k hk => h k (List.mem_range.mp hk)]
theorem sumR_add {b : Nat} {F H : Nat → Nat} : sumR b (fun k => F k + H k) = sumR b F + sumR b H := by
  induction b with
  | zero => rfl
  | succ b ih => rw [sumR_succ, sumR_succ, sumR_succ, ih]; omega
theorem sumR_const {b c : Nat} : sumR b (fun _ => c) = b * c := by
  induction b with
  | zero => rw [Nat.zero_mul]; rfl
  | succ b ih => rw [sumR_succ, ih, Nat.succ_mul]
theorem sumR_le {b c : Nat} {F : Nat → Nat} (h : ∀ k, k < b → F k ≤ c) : sumR b F ≤ b * c := by
  induction b with
  | zero => exact Nat.zero_le _
  | succ b ih => rw [sumR_succ, Nat.succ_mul]; exact Nat.add_le_add (ih fun k hk => h k (by omega)) (h b (by omega))
/-- a check more: the sums of all weighings -/
def stepT (b : Nat) (T : List Nat) (f : Nat) : List Nat := T.flatMap fun t => (List.range b).map fun w => t + w * f
def TT (b : Nat) (fs : List Nat) : List Nat := fs.foldl (stepT b) [0]
theorem TT_snoc {b f : Nat} {fs : List Nat} : TT b (fs ++ [f]) = stepT b (TT b fs) f := by
  unfold TT; rw [List.foldl_append]; rfl
theorem cnt_map {b f t : Nat} {p : Nat → Bool} : (((List.range b).map fun w => t + w * f).countP p) = sumR b fun w => if p (t + w * f) then 1 else 0 := by
  induction b with
  | zero => rfl
  | succ b ih => rw [List.range_succ, List.map_append, List.countP_append, ih, sumR_succ]; simp [List.countP_cons]
theorem cnt_step {b f : Nat} {p : Nat → Bool} : ∀ {T : List Nat}, (stepT b T f).countP p = sumR b fun w => T.countP fun t => p (t + w * f)
  | [] => by
    show 0 = sumR b fun _ => 0
    rw [sumR_const, Nat.mul_zero]
  | t :: T => by
    show (((List.range b).map fun w => t + w * f) ++ stepT b T f).countP p = _
    rw [List.countP_append, cnt_map, cnt_step]
    rw [show (fun w => (t :: T).countP fun t => p (t + w * f)) = fun w => (if p (t + w * f) then 1 else 0) + T.countP fun t => p (t + w * f) from by
      funext w; rw [List.countP_cons]; omega]
    rw [sumR_add]
theorem TT_len {b : Nat} : ∀ {fs T : List Nat}, (fs.foldl (stepT b) T).length = T.length * b ^ fs.length
  | [], T => by simp
  | f :: fs, T => by
    rw [List.foldl_cons, TT_len, List.length_cons, Nat.pow_succ]
    have : (stepT b T f).length = T.length * b := by
      unfold stepT
      induction T with
      | nil => simp
      | cons t T ih => rw [List.flatMap_cons, List.length_append, ih, List.length_map, List.length_range, List.length_cons, Nat.succ_mul]; omega
    rw [this, Nat.mul_assoc, Nat.mul_comm b]
/-- how many sums are so much, modulo q -/
def cN (q : Nat) (T : List Nat) (r : Nat) : Nat := T.countP fun t => decide (t % q = r)
theorem cN_le {q r b : Nat} {fs : List Nat} : cN q (TT b fs) r ≤ b ^ fs.length := by
  refine Nat.le_trans List.countP_le_length ?_
  unfold TT
  rw [TT_len]; simp
theorem cgI {q a b : Nat} : a % q = b % q ↔ (q : Int) ∣ (a : Int) - b := by
  rw [← Int.emod_eq_emod_iff_emod_sub_eq_zero.trans Int.dvd_iff_emod_eq_zero.symm, ← Int.natCast_emod, ← Int.natCast_emod, Int.natCast_inj]
/-- a fault of nothing -/
theorem cN_zero {q f b r : Nat} {T : List Nat} (hf : f % q = 0) : cN q (stepT b T f) r = cN q T r * b := by
  unfold cN
  rw [cnt_step, sumR_congr (H := fun _ => T.countP fun t => decide (t % q = r)), sumR_const, Nat.mul_comm]
  intro w _
  congr 1
  funext t
  rw [Nat.add_mod, Nat.mul_mod, hf, Nat.mul_zero, Nat.zero_mod, Nat.add_zero, Nat.mod_mod]
/-- around the ring: at is the place, k how far back -/
theorem cN_ring {q f b at_ : Nat} {T : List Nat} (hq : 0 < q) : cN q (stepT b T f) (at_ * (f % q) % q) = sumR b fun k => cN q T ((((at_ : Int) - k) % q).toNat * (f % q) % q) := by
  unfold cN
  rw [cnt_step]
  refine sumR_congr fun k hk => ?_
  congr 1
  funext t
  have h1 : 0 ≤ ((at_ : Int) - k) % q := Int.emod_nonneg _ (by omega)
  refine decide_eq_decide.mpr ?_
  rw [cgI, show (t % q = (((at_ : Int) - k) % q).toNat * (f % q) % q) = (t % q = ((((at_ : Int) - k) % q).toNat * (f % q)) % q) from rfl, cgI]
  have e1 : ((((at_ : Int) - k) % q).toNat : Int) = (at_ : Int) - k - q * (((at_ : Int) - k) / q) := by rw [Int.toNat_of_nonneg h1, Int.emod_def]
  have e2 : (f : Int) % q = f - q * ((f : Int) / q) := Int.emod_def _ _
  generalize (((at_ : Int) - k) / q) = A at e1
  generalize ((f : Int) / q) = B at e2
  push_cast
  rw [e1, e2]
  constructor
  · rintro ⟨u, hu⟩
    refine ⟨u - k * B + A * (f - q * B), ?_⟩
    grind
  · rintro ⟨u, hu⟩
    refine ⟨u + k * B - A * (f - q * B), ?_⟩
    grind
end
/-! ### weighings of alike faults, of two contrary ones -/
section
theorem sumR_one {b k : Nat} {c : Nat} (hk : k < b) : sumR b (fun w => if w = k then c else 0) = c := by
  induction b with
  | zero => omega
  | succ b ih =>
    rw [sumR_succ]
    by_cases e : k = b
    · subst e
      rw [if_pos rfl, sumR_congr (H := fun _ => 0) (fun w hw => by rw [if_neg (by omega)]), sumR_const]; omega
    · rw [ih (by omega), if_neg (fun z => e z.symm)]; omega
theorem sumR_none {b k : Nat} {c : Nat} (hk : ¬ k < b) : sumR b (fun w => if w = k then c else 0) = 0 := by
  rw [sumR_congr (H := fun _ => 0) (fun w hw => by rw [if_neg (by omega)]), sumR_const]; omega
theorem stepT_map {b f : Nat} {T : List Nat} : stepT b (T.map (· * f)) f = (stepT b T 1).map (· * f) := by
  unfold stepT
  rw [List.flatMap_map, List.map_flatMap]
  congr 1
  funext t
  rw [List.map_map]
  congr 1
  funext w
  show t * f + w * f = (t + w * 1) * f
  rw [Nat.mul_one, Nat.add_mul]
theorem TT_rep {b f : Nat} : ∀ {m : Nat}, TT b (List.replicate m f) = (TT b (List.replicate m 1)).map (· * f)
  | 0 => by show [0] = [0 * f]; rw [Nat.zero_mul]
  | m + 1 => by rw [List.replicate_succ', List.replicate_succ', TT_snoc, TT_snoc, TT_rep, stepT_map]
theorem mul_zero_mod {q t f : Nat} (hq : PrimeN q) (hf : f % q ≠ 0) : t * f % q = 0 ↔ t % q = 0 := by
  constructor
  · intro h
    have h1 : (q : Int) ∣ (t : Int) * f := by
      have := Int.natCast_dvd_natCast.mpr (Nat.dvd_of_mod_eq_zero h)
      rwa [Int.natCast_mul] at this
    rcases hq.euclid h1 with h2 | h2
    · exact Nat.mod_eq_zero_of_dvd (Int.natCast_dvd_natCast.mp h2)
    · exact absurd (Nat.mod_eq_zero_of_dvd (Int.natCast_dvd_natCast.mp h2)) hf
  · intro h
    rw [Nat.mul_mod, h, Nat.zero_mul, Nat.zero_mod]
theorem cN_rep {q b f m : Nat} (hq : PrimeN q) (hf : f % q ≠ 0) : cN q (TT b (List.replicate m f)) 0 = (TT b (List.replicate m 1)).countP fun t => decide (t % q = 0) := by
  unfold cN
  rw [TT_rep, List.countP_map]
  congr 1
  funext t
  exact decide_eq_decide.mpr (mul_zero_mod hq hf)
/-- a weight more, of the fault 1: the counts by windows -/
theorem win_sum {c : Nat → Nat} {n a : Nat} (hc : ∀ j, n ≤ j → c j = 0) : ∀ b : Nat, ((((List.range n).map c).take (a + 1)).drop (a + 1 - b)).sum = sumR b fun w => if w ≤ a then c (a - w) else 0
  | 0 => by
    rw [Nat.sub_zero, List.drop_of_length_le (by rw [List.length_take]; omega)]; rfl
  | b + 1 => by
    rw [sumR_succ, ← win_sum hc b]
    by_cases hb : b ≤ a
    · rw [if_pos hb, show a + 1 - (b + 1) = a - b by omega, show a + 1 - b = a - b + 1 by omega]
      have hl : (((List.range n).map c).take (a + 1)).length = min (a + 1) n := by rw [List.length_take, List.length_map, List.length_range]
      by_cases hn : a - b < n
      · rw [List.drop_eq_getElem_cons (by omega), List.sum_cons]
        simp
        omega
      · rw [List.drop_of_length_le (by omega), List.drop_of_length_le (by omega), hc (a - b) (by omega)]; rfl
    · rw [if_neg hb, show a + 1 - (b + 1) = 0 by omega, show a + 1 - b = 0 by omega]; omega
def ctL (T : List Nat) (n : Nat) : List Nat := (List.range n).map fun a => T.countP fun t => decide (t = a)
theorem ct_step {b n a : Nat} {T : List Nat} (hT : ∀ t ∈ T, t < n) : (stepT b T 1).countP (fun t => decide (t = a)) = (((ctL T n).take (a + 1)).drop (a + 1 - b)).sum := by
  unfold ctL
  rw [win_sum (fun j hj => ?_), cnt_step]
  · refine sumR_congr fun w _ => ?_
    by_cases hw : w ≤ a
    · rw [if_pos hw]
      congr 1
      funext t
      exact decide_eq_decide.mpr (by omega)
    · rw [if_neg hw, List.countP_eq_zero]
      intro t _
      rw [decide_eq_true_iff]; omega
  · rw [List.countP_eq_zero]
    intro t ht
    have := hT t ht
    rw [decide_eq_true_iff]; omega
theorem stepT_lt {b n : Nat} {T : List Nat} (hT : ∀ t ∈ T, t < n) : ∀ t ∈ stepT b T 1, t < n + b - 1 := by
  intro t ht
  unfold stepT at ht
  obtain ⟨s, hs, ht⟩ := List.mem_flatMap.mp ht
  obtain ⟨w, hw, rfl⟩ := List.mem_map.mp ht
  have := hT s hs
  have := List.mem_range.mp hw
  omega
theorem ct_all {q n : Nat} : ∀ {T : List Nat}, (∀ t ∈ T, t < n) → sumR n (fun a => if a % q = 0 then T.countP (fun t => decide (t = a)) else 0) = T.countP fun t => decide (t % q = 0)
  | [], _ => by
    rw [sumR_congr (H := fun _ => 0) (fun a _ => by simp), sumR_const]; simp
  | t :: T, h => by
    have ht := h t List.mem_cons_self
    rw [List.countP_cons, ← ct_all (T := T) fun s hs => h s (List.mem_cons_of_mem _ hs)]
    have e : (if decide (t % q = 0) = true then 1 else 0) = sumR n fun a => if a = t then (if t % q = 0 then 1 else 0) else 0 := by
      rw [sumR_one ht]; simp
    rw [e, ← sumR_add]
    refine sumR_congr fun a _ => ?_
    rw [List.countP_cons]
    by_cases h1 : a = t
    · subst h1
      by_cases h2 : a % q = 0
      · simp [h2]
      · simp [h2]
    · by_cases h2 : a % q = 0
      · simp [h1, h2, Ne.symm h1]
      · simp [h1, h2]
/-- two contrary ones: just alike weights -/
theorem cN_two {q b f : Nat} (hq : PrimeN q) (hf : 0 < f) (hf2 : f < q) (hb : b ≤ q) : cN q (TT b [f, q - f]) 0 = b := by
  unfold cN
  show (stepT b (stepT b [0] f) (q - f)).countP _ = b
  rw [cnt_step, sumR_congr (H := fun _ => 1), sumR_const, Nat.mul_one]
  intro w hw
  rw [cnt_step]
  have h1 : (fun v => List.countP (fun t => decide ((t + v * f + w * (q - f)) % q = 0)) [0]) = fun v => if (0 + v * f + w * (q - f)) % q = 0 then 1 else 0 := by
    funext v
    simp [List.countP_cons]
  rw [h1]
  refine (sumR_congr fun v hv => ?_).trans (sumR_one (c := 1) hw)
  have key : (0 + v * f + w * (q - f)) % q = 0 ↔ v = w := by
    constructor
    · intro h
      have h2 : (q : Int) ∣ ((v : Int) - w) * f := by
        have h3 := Int.natCast_dvd_natCast.mpr (Nat.dvd_of_mod_eq_zero h)
        rw [Int.natCast_add, Int.natCast_add, Int.natCast_mul, Int.natCast_mul, Int.natCast_sub (by omega)] at h3
        obtain ⟨u, hu⟩ := h3
        exact ⟨u - w, by grind⟩
      rcases hq.euclid h2 with h3 | h3
      · obtain ⟨u, hu⟩ := h3
        have : u = 0 := by
          rcases Int.lt_trichotomy u 0 with h4 | h4 | h4
          · have h5 : (q : Int) * u ≤ q * (-1) := Int.mul_le_mul_of_nonneg_left (by omega) (by omega)
            omega
          · exact h4
          · have h5 : (q : Int) * 1 ≤ q * u := Int.mul_le_mul_of_nonneg_left (by omega) (by omega)
            omega
        rw [this, Int.mul_zero] at hu
        omega
      · have := Int.le_of_dvd (by omega) h3
        omega
    · rintro rfl
      rw [Nat.zero_add, ← Nat.mul_add, show f + (q - f) = q by omega, Nat.mul_mod_left]
  by_cases h2 : v = w
  · rw [if_pos (key.mpr h2), if_pos h2]
  · rw [if_neg (fun z => h2 (key.mp z)), if_neg h2]
end
/-! ### checks -/
abbrev kCheck : Str := PySem.Str.ofString "check"
theorem strOk_check : PyData.strOk kCheck = true := by decide +kernel
section
variable {p q gg : Nat} {g : G} {Q : D → G → Prop} {n k a b c d x i many m : Nat}
theorem s_is_el (G : Grp p q gg) (h : Q (.d (.bool true)) g) : (fn_is_element_of [gv p q gg, I (el p gg k)] g).wp Q :=
  s_is_element_of G (G.el_pos k) (G.el_lt k) (G.el_q k) h
theorem el_mulI {a b : Nat} : ((el p gg a : Nat) : Int) * ((el p gg b : Nat) : Int) % (p : Int) = ((el p gg (a + b) : Nat) : Int) := by
  rw [← Int.natCast_mul, ← Int.natCast_emod, el_mul]
def dotN (l : List (Nat × Nat)) : Nat := (l.map fun a => a.1 * a.2).sum
theorem dotN_snoc (l : List (Nat × Nat)) (a : Nat × Nat) : dotN (l ++ [a]) = dotN l + a.1 * a.2 := by
  unfold dotN; rw [List.map_append, List.sum_append]; simp
theorem take_snoc2 {α : Type} {l : List α} {j : Nat} {a : α} (h : l[j]? = some a) : l.take (j + 1) = l.take j ++ [a] := by
  rw [List.take_succ, h]; rfl
theorem zipD_self {α : Type} {f h : α → P} {l : List α} : zipD (l.map f) (l.map h) = l.map fun a => D.d (.tuple [f a, h a]) := by
  rw [zipD_map]
  induction l with
  | nil => rfl
  | cons a l ih => rw [List.zip_cons_cons, List.map_cons, List.map_cons, ih]
theorem map_get {α : Type} {to : α → D} {l : List α} {j : Nat} {y : D} (h : (l.map to)[j]? = some y) : ∃ a, l[j]? = some a ∧ y = to a := by
  rw [List.getElem?_map] at h
  cases ha : l[j]? with
  | none => rw [ha] at h; cases h
  | some a => rw [ha] at h; cases h; exact ⟨a, rfl, rfl⟩
def bsP (p gg : Nat) (l : List (Nat × Nat)) : List P := l.map fun a => .int (el p gg a.1 : Nat)
def nsP (l : List (Nat × Nat)) : List P := l.map fun a => .int (a.2 : Nat)
theorem bsP_len {l : List (Nat × Nat)} : (bsP p gg l).length = l.length := by unfold bsP; simp
theorem nsP_len {l : List (Nat × Nat)} : (nsP l).length = l.length := by unfold nsP; simp
local macro_rules | `(tactic| walk_at "ev_792ec_4") => `(tactic| simp only [↓w_C, ↓w_var, ↓w_op, ↓w_un, ↓w_isi, ↓w_b, ↓w_nil, ↓w_cons, ↓w_tup, ↓w_lst, ↓w_not, ↓w_and, ↓w_or, ↓w_ifE, ↓w_chain, ↓w_tv, ↓w_tvAnd, ↓w_tvOr, ↓w_tvNot, ↓w_tvYes, ↓w_call, ↓w_callK, ↓w_sl, ↓w_oNo, ↓w_oSome, ↓w_newCell, ↓w_comp, ↓Sim.w_next, ↓w_seq, ↓w_ret, ↓w_retN, ↓w_never, ↓w_expr, ↓w_if, ↓w_asg, ↓w_own, ↓w_freeze, ↓w_own1, ↓w_par, ↓w_par3, ↓w_asgT, ↓w_tP, ↓w_aug, ↓w_for, ↓w_forNil, ↓w_iSeq, ↓w_range1X, ↓w_range2X, ↓lk_shX, ↓lk_ownX, ↓lk_succ, ↓stop_ap, ↓w_tTup, ↓w_tNil, ↓w_tCons, ↓w_tName, ↓o_add, ↓o_sub, ↓o_addI, ↓o_neg, ↓o_mulX, ↓o_mod, ↓o_div, ↓o_powX, ↓o_lt, ↓o_le, ↓o_gt, ↓o_ge, ↓o_eq, ↓o_ne, ↓o_ixT, ↓o_ixL, ↓o_ixB, ↓o_ixS, ↓o_ixC, ↓o_int, ↓o_abs, ↓o_max2, ↓o_min2, ↓o_lenT, ↓o_lenL, ↓o_lenB, ↓o_lenS, ↓o_divmod, ↓o_slT, ↓o_slL, ↓o_slB, ↓o_repr, ↓o_eqS, ↓o_neS, ↓o_eqB, ↓o_neB, ↓w_forCons, ↓w_compNil, ↓w_compCons, ↓o_allL, ↓o_anyL, ↓o_eqT2, ↓o_neT2, ↓o_tupleL, ↓o_tupleB, ↓o_tupleT, ↓o_sumL, ↓o_addT, ↓o_addL, ↓w_chain3, ↓w_zip2, ↓w_enum1, ↓w_parSO, ↓o_inT, ↓o_inL, ↓o_inB, ↓o_repL, ↓o_mulL, ↓o_catL, ↓o_catBL, ↓o_catLB, ↓o_listFL, ↓o_listFB, ↓o_listFT, ↓o_eqNil, ↓o_reprB, ↓o_neLnn, ↓o_neLcn, ↓o_neBnn, ↓o_neBcn, ↓R.wp_ok, ↓w_get2, ↓w_dict0, ↓w_forI, ↓w_dictI, ↓w_putD, ↓w_comp2, ↓w_isi2, ↓w_parOO, ↓w_parOS, ↓w_pop, ↓w_lrange, ↓w_zip3, ↓o_mulT, ↓o_inD, ↓o_ixD, ↓w_callC, ↓w_callCK, ↓w_nest, ↓o_ixN, ↓o_reprN, ↓w_cellM, ↓w_sortSet, ↓w_lenSet, ↓w_enumZ, ↓w_listZip, ↓w_parSOO, ↓e_is_integer, ↓e_is_row, ↓cut4, ↓strOk_group, ↓gv, ↓gvP, ↓strOk_check, ↓el_mulI, ↓bsP_len, ↓nsP_len,
  startE_eq, List.reduceReplicate, Nat.reduceSub, p_name, p_tup, p_tupL, p_cons, p_nil, wipe_nil, wipe_cons, bls_nil, bls_cons, Sim.ints_nil, Sim.ints_cons, List.all_cons, List.all_nil, List.any_cons, List.any_nil, id, Bool.and_true, Bool.true_and, Option.bind_some, perm, List.filterMap_cons_some, List.filterMap_nil, List.filterMap_cons, List.nil_append, List.cons_append, atI_lit, setP_lit, Sim.atI_nat, Nat.reduceLT, Int.cast_ofNat_Int, Int.natCast_zero, Int.natCast_one, Int.reduceEq, Int.reduceToNat, isInt_none, isInt_bool, isInt_int, isInt_str, isInt_list, isInt_tuple, isInt_dict, isInt_bL, isInt_cell, isInt_scr, isBool_none, isBool_bool, isBool_int, isBool_str, isBool_list, isBool_tuple, isBool_dict, isBool_bL, isBool_cell, isBool_scr, isStr_none, isStr_bool, isStr_int, isStr_str, isStr_list, isStr_tuple, isStr_dict, isStr_bL, isStr_cell, isStr_scr, isTup_none, isTup_bool, isTup_int, isTup_str, isTup_list, isTup_tuple, isTup_dict, isTup_bL, isTup_cell, isTup_scr, isLst_none, isLst_bool, isLst_int, isLst_str, isLst_list, isLst_tuple, isLst_dict, isLst_bL, isLst_cell, isLst_scr, isDic_none, isDic_bool, isDic_int, isDic_str, isDic_list, isDic_tuple, isDic_dict, isDic_bL, isDic_cell, isDic_scr, cnd_not, cnd_true, cnd_false, dats, isB_d, isB_cell, isB_scr, isB_bor, noC_d, noC_cell, noC_scr, noC_bor, List.map_cons, List.map_nil, sizeLine, Option.map_some, List.getElem?_cons_zero, List.getElem?_cons_succ, List.set_cons_zero, List.set_cons_succ, Bool.or_false, Bool.false_or, Bool.or_self, Bool.false_eq_true, Bool.not_true, Bool.not_false, decide_true, decide_false, true_and, and_true, and_self, if_true, if_false, reduceIte, Int.reduceLT, Int.reduceLE, Int.reduceNeg, Int.reducePow, Nat.reducePow, List.length_cons, List.length_nil, Nat.reduceAdd, Int.reduceAdd, Int.reduceSub, Int.reduceMul, seqOf_l, seqOf_t, seqOf_b, zipD_len, enumD_len, zipD_cons, zipD_nil, zipD_nil2, fInB_f, fInB_t, flat_int, flat_str, flat_bool, flat_none, atI_m1, atI_m1c, List.length_map, bls_mapB, all_mapT, key_i, key_s, dic_d, dic_b, popHead_c, cellsOf, isB_nest, noC_nest])
local macro_rules | `(tactic| walk_at "call_792ec_4") => `(tactic| refine w_call0 ?hb ?hc; (case hb => exact rfl); first | (with_reducible apply s_want_group; (· assumption)) | (with_reducible apply s_times_of; (· assumption)) | (with_reducible apply s_under_of; (· assumption)) | (with_reducible apply s_power_of; (· assumption); (· (first | assumption | omega))) | (with_reducible apply s_is_el; (· assumption)))
local macro_rules | `(tactic| walk_at "run_792ec_4") => `(tactic| repeat (first | walk_at "ev_792ec_4" | refine cnd_n (decide_eq_false (by omega)) ?_ | refine cnd_p (decide_eq_true (by omega)) ?_ | refine And.intro (by omega) ?_ | walk_at "call_792ec_4"))
theorem s_product_of (G : Grp p q gg) {l : List (Nat × Nat)} (hn : ∀ a ∈ l, a.2 < 1000000) {D0 : D} (hD : D0 = .d (.list (bsP p gg l)) ∨ D0 = .d (.tuple (bsP p gg l))) (h : Q (I (el p gg (dotN l))) g) : (fn_product_of [gv p q gg, D0, .d (.tuple (nsP l))] g).wp Q := by
  unfold fn_product_of
  rw [w_fn]
  unfold m_product_of
  have key : ∀ (Qn : En → Sim.G → Prop) (Qr : D → Sim.G → Prop) (s1 s2 : Sl) (b : D → Bool), (∀ s1 s2, Qn [.sh (gv p q gg), .sh D0, .sh (.d (.tuple (nsP l))), .sh (I (el p gg (dotN l))), s1, s2] g) →
      (forL (pTup 2 (psCons (pName 4) (psCons (pName 5) psNil))) (sAsg 3 (eCall fn_times_of (aCons (eVar 0) (aCons (eVar 3) (aCons (eCall fn_power_of (aCons (eVar 0) (aCons (eVar 4) (aCons (eVar 5) aNil)))) aNil))))) (zipD (bsP p gg l) (nsP l)) [.sh (gv p q gg), .sh D0, .sh (.d (.tuple (nsP l))), .sh (.d (.int 1)), s1, s2] g).wp Qn Qr := by
    intro Qn Qr s1 s2 b hQ
    unfold bsP nsP
    rw [zipD_self]
    refine w_forL (fun j e g' => g' = g ∧ ∃ s1 s2, e = [.sh (gv p q gg), .sh D0, .sh (.d (.tuple (nsP l))), .sh (I (el p gg (dotN (l.take j)))), s1, s2]) ⟨rfl, s1, s2, by show [Sl.sh (gv p q gg), .sh D0, .sh (.d (.tuple (nsP l))), .sh (.d (.int 1)), s1, s2] = [.sh (gv p q gg), .sh D0, .sh (.d (.tuple (nsP l))), .sh (I (el p gg 0)), s1, s2]; rw [el_zero G]; rfl⟩ ?_ ?_
    · rintro j e g' y hd ⟨rfl, s1, s2, rfl⟩
      obtain ⟨a, ha, rfl⟩ := map_get hd
      have := hn a (List.mem_of_getElem? ha)
      refine ⟨rfl, _, rfl, ?_⟩
      walk_at "run_792ec_4"
      rw [take_snoc2 ha, dotN_snoc]
      exact ⟨_, _, rfl⟩
    · rintro e g' ⟨rfl, s1, s2, rfl⟩
      rw [List.length_map, List.take_length]
      exact hQ s1 s2
  rcases hD with rfl | rfl
  · walk_at "run_792ec_4"
    refine key _ _ _ _ (fun _ => true) fun s1 s2 => ?_
    walk_at "run_792ec_4"
    exact h
  · walk_at "run_792ec_4"
    refine key _ _ _ _ (fun _ => true) fun s1 s2 => ?_
    walk_at "run_792ec_4"
    exact h
/-! the law's own arithmetic -/
theorem s__law_power (G : Grp p q gg) (hn : n < 1000000) (h : Q (I (el p gg (k * n))) g) : (fn__law_power [gv p q gg, I (el p gg k), I n] g).wp Q := by
  have hp := G.p1
  unfold fn__law_power
  rw [w_fn]
  unfold m__law_power
  walk_at "run_792ec_4"
  refine w_forL (fun j e g' => g' = g ∧ ∃ s, e = [.sh (gv p q gg), .sh (I (el p gg k)), .sh (I n), .sh (I (el p gg (k * j))), s]) ⟨rfl, .un, by rw [Nat.mul_zero, el_zero G]; rfl⟩ ?_ ?_
  · rintro j e g' y hd ⟨rfl, s, rfl⟩
    obtain ⟨hj, rfl⟩ := ints0_get hd
    have := G.el_lt (k * j)
    have := G.p2
    refine ⟨rfl, _, rfl, ?_⟩
    walk_at "run_792ec_4"
    exact ⟨_, rfl⟩
  · rintro e g' ⟨rfl, s, rfl⟩
    rw [ints0_len, Int.toNat_natCast]
    walk_at "run_792ec_4"
    exact h
theorem s__law_power1 (G : Grp p q gg) (hn : n < 1000000) (h : Q (I (el p gg n)) g) : (fn__law_power [gv p q gg, I gg, I n] g).wp Q := by
  have h1 := s__law_power (g := g) (Q := Q) (k := 1) (n := n) G hn (by rw [Nat.one_mul]; exact h)
  rw [el_one G] at h1; exact h1
local macro_rules | `(tactic| walk_at "ev_792ec_5") => `(tactic| simp only [↓w_C, ↓w_var, ↓w_op, ↓w_un, ↓w_isi, ↓w_b, ↓w_nil, ↓w_cons, ↓w_tup, ↓w_lst, ↓w_not, ↓w_and, ↓w_or, ↓w_ifE, ↓w_chain, ↓w_tv, ↓w_tvAnd, ↓w_tvOr, ↓w_tvNot, ↓w_tvYes, ↓w_call, ↓w_callK, ↓w_sl, ↓w_oNo, ↓w_oSome, ↓w_newCell, ↓w_comp, ↓Sim.w_next, ↓w_seq, ↓w_ret, ↓w_retN, ↓w_never, ↓w_expr, ↓w_if, ↓w_asg, ↓w_own, ↓w_freeze, ↓w_own1, ↓w_par, ↓w_par3, ↓w_asgT, ↓w_tP, ↓w_aug, ↓w_for, ↓w_forNil, ↓w_iSeq, ↓w_range1X, ↓w_range2X, ↓lk_shX, ↓lk_ownX, ↓lk_succ, ↓stop_ap, ↓w_tTup, ↓w_tNil, ↓w_tCons, ↓w_tName, ↓o_add, ↓o_sub, ↓o_addI, ↓o_neg, ↓o_mulX, ↓o_mod, ↓o_div, ↓o_powX, ↓o_lt, ↓o_le, ↓o_gt, ↓o_ge, ↓o_eq, ↓o_ne, ↓o_ixT, ↓o_ixL, ↓o_ixB, ↓o_ixS, ↓o_ixC, ↓o_int, ↓o_abs, ↓o_max2, ↓o_min2, ↓o_lenT, ↓o_lenL, ↓o_lenB, ↓o_lenS, ↓o_divmod, ↓o_slT, ↓o_slL, ↓o_slB, ↓o_repr, ↓o_eqS, ↓o_neS, ↓o_eqB, ↓o_neB, ↓w_forCons, ↓w_compNil, ↓w_compCons, ↓o_allL, ↓o_anyL, ↓o_eqT2, ↓o_neT2, ↓o_tupleL, ↓o_tupleB, ↓o_tupleT, ↓o_sumL, ↓o_addT, ↓o_addL, ↓w_chain3, ↓w_zip2, ↓w_enum1, ↓w_parSO, ↓o_inT, ↓o_inL, ↓o_inB, ↓o_repL, ↓o_mulL, ↓o_catL, ↓o_catBL, ↓o_catLB, ↓o_listFL, ↓o_listFB, ↓o_listFT, ↓o_eqNil, ↓o_reprB, ↓o_neLnn, ↓o_neLcn, ↓o_neBnn, ↓o_neBcn, ↓R.wp_ok, ↓w_get2, ↓w_dict0, ↓w_forI, ↓w_dictI, ↓w_putD, ↓w_comp2, ↓w_isi2, ↓w_parOO, ↓w_parOS, ↓w_pop, ↓w_lrange, ↓w_zip3, ↓o_mulT, ↓o_inD, ↓o_ixD, ↓w_callC, ↓w_callCK, ↓w_nest, ↓o_ixN, ↓o_reprN, ↓w_cellM, ↓w_sortSet, ↓w_lenSet, ↓w_enumZ, ↓w_listZip, ↓w_parSOO, ↓e_is_integer, ↓e_is_row, ↓cut4, ↓strOk_group, ↓gv, ↓gvP, ↓strOk_check, ↓el_mulI, ↓bsP_len, ↓nsP_len,
  startE_eq, List.reduceReplicate, Nat.reduceSub, p_name, p_tup, p_tupL, p_cons, p_nil, wipe_nil, wipe_cons, bls_nil, bls_cons, Sim.ints_nil, Sim.ints_cons, List.all_cons, List.all_nil, List.any_cons, List.any_nil, id, Bool.and_true, Bool.true_and, Option.bind_some, perm, List.filterMap_cons_some, List.filterMap_nil, List.filterMap_cons, List.nil_append, List.cons_append, atI_lit, setP_lit, Sim.atI_nat, Nat.reduceLT, Int.cast_ofNat_Int, Int.natCast_zero, Int.natCast_one, Int.reduceEq, Int.reduceToNat, isInt_none, isInt_bool, isInt_int, isInt_str, isInt_list, isInt_tuple, isInt_dict, isInt_bL, isInt_cell, isInt_scr, isBool_none, isBool_bool, isBool_int, isBool_str, isBool_list, isBool_tuple, isBool_dict, isBool_bL, isBool_cell, isBool_scr, isStr_none, isStr_bool, isStr_int, isStr_str, isStr_list, isStr_tuple, isStr_dict, isStr_bL, isStr_cell, isStr_scr, isTup_none, isTup_bool, isTup_int, isTup_str, isTup_list, isTup_tuple, isTup_dict, isTup_bL, isTup_cell, isTup_scr, isLst_none, isLst_bool, isLst_int, isLst_str, isLst_list, isLst_tuple, isLst_dict, isLst_bL, isLst_cell, isLst_scr, isDic_none, isDic_bool, isDic_int, isDic_str, isDic_list, isDic_tuple, isDic_dict, isDic_bL, isDic_cell, isDic_scr, cnd_not, cnd_true, cnd_false, dats, isB_d, isB_cell, isB_scr, isB_bor, noC_d, noC_cell, noC_scr, noC_bor, List.map_cons, List.map_nil, sizeLine, Option.map_some, List.getElem?_cons_zero, List.getElem?_cons_succ, List.set_cons_zero, List.set_cons_succ, Bool.or_false, Bool.false_or, Bool.or_self, Bool.false_eq_true, Bool.not_true, Bool.not_false, decide_true, decide_false, true_and, and_true, and_self, if_true, if_false, reduceIte, Int.reduceLT, Int.reduceLE, Int.reduceNeg, Int.reducePow, Nat.reducePow, List.length_cons, List.length_nil, Nat.reduceAdd, Int.reduceAdd, Int.reduceSub, Int.reduceMul, seqOf_l, seqOf_t, seqOf_b, zipD_len, enumD_len, zipD_cons, zipD_nil, zipD_nil2, fInB_f, fInB_t, flat_int, flat_str, flat_bool, flat_none, atI_m1, atI_m1c, List.length_map, bls_mapB, all_mapT, key_i, key_s, dic_d, dic_b, popHead_c, cellsOf, isB_nest, noC_nest])
local macro_rules | `(tactic| walk_at "call_792ec_5") => `(tactic| refine w_call0 ?hb ?hc; (case hb => exact rfl); first | (with_reducible apply s_want_group; (· assumption)) | (with_reducible apply s_times_of; (· assumption)) | (with_reducible apply s_under_of; (· assumption)) | (with_reducible apply s_power_of; (· assumption); (· (first | assumption | omega))) | (with_reducible apply s_is_el; (· assumption)) | (with_reducible apply s__law_power; (· assumption); (· (first | assumption | omega))) | (with_reducible apply s__law_power1; (· assumption); (· (first | assumption | omega))))
local macro_rules | `(tactic| walk_at "run_792ec_5") => `(tactic| repeat (first | walk_at "ev_792ec_5" | refine cnd_n (decide_eq_false (by omega)) ?_ | refine cnd_p (decide_eq_true (by omega)) ?_ | refine And.intro (by omega) ?_ | walk_at "call_792ec_5"))
theorem s__law_element (G : Grp p q gg) (hp : PotAt i g) (h : ∀ (k : Nat) (g' : Sim.G), k < q → PotAt i g' → Q (I (el p gg k)) g') : (fn__law_element [.cell i, gv p q gg] g).wp Q := by
  have h1 := G.q1
  have h2 := G.q2
  unfold fn__law_element
  rw [w_fn]
  unfold m__law_element
  walk_at "run_792ec_5"
  refine w_call0 rfl (s_draw (by omega) (by omega) hp fun k g1 hk hp1 => ?_)
  walk_at "run_792ec_5"
  exact h k g1 hk hp1
theorem el_mulg (G : Grp p q gg) {a : Nat} : ((el p gg a : Nat) : Int) * (gg : Int) % (p : Int) = ((el p gg (a + 1) : Nat) : Int) := by
  have := el_mul (p := p) (g := gg) a 1
  rw [el_one G] at this
  rw [← Int.natCast_mul, ← Int.natCast_emod, this]
theorem s__law_log (G : Grp p q gg) (hk : k < q) (h : Q (I k) g) : (fn__law_log [gv p q gg, I (el p gg k)] g).wp Q := by
  have h1 := G.p1
  have h2 := G.q1
  unfold fn__law_log
  rw [w_fn]
  unfold m__law_log
  walk_at "run_792ec_5"
  refine w_forL (fun j e g' => g' = g ∧ j ≤ k ∧ ∃ s, e = [.sh (gv p q gg), .sh (I (el p gg k)), .sh (I (el p gg j)), s]) ⟨rfl, Nat.zero_le _, .un, by rw [el_zero G]; rfl⟩ ?_ ?_
  · rintro j e g' y hd ⟨rfl, hj, s, rfl⟩
    obtain ⟨hjq, rfl⟩ := ints0_get hd
    have h3 := G.el_lt j
    have h4 := G.g2
    refine ⟨rfl, _, rfl, ?_⟩
    walk_at "run_792ec_5"
    refine cnd_i (fun h5 => ?_) (fun h5 => ?_)
    · have h5 := of_decide_eq_true h5
      have h6 : el p gg j = el p gg k := by omega
      have h7 : j = k := G.el_inj (by omega) hk h6
      subst h7
      walk_at "run_792ec_5"
      rw [Int.zero_add]
      exact h
    · have h5 := of_decide_eq_false h5
      have h6 : j ≠ k := fun e => h5 (by rw [e])
      walk_at "run_792ec_5"
      rw [el_mulg G]
      exact ⟨_, rfl⟩
  · rintro e g' ⟨rfl, hj, s, rfl⟩
    rw [ints0_len, Int.toNat_natCast] at hj
    omega
theorem s__law_log' (G : Grp p q gg) (h : Q (I (k % q)) g) : (fn__law_log [gv p q gg, I (el p gg k)] g).wp Q := by
  rw [← el_mod G]
  exact s__law_log G (Nat.mod_lt _ (by have := G.q2; omega)) h
local macro_rules | `(tactic| walk_at "ev_792ec_6") => `(tactic| simp only [↓w_C, ↓w_var, ↓w_op, ↓w_un, ↓w_isi, ↓w_b, ↓w_nil, ↓w_cons, ↓w_tup, ↓w_lst, ↓w_not, ↓w_and, ↓w_or, ↓w_ifE, ↓w_chain, ↓w_tv, ↓w_tvAnd, ↓w_tvOr, ↓w_tvNot, ↓w_tvYes, ↓w_call, ↓w_callK, ↓w_sl, ↓w_oNo, ↓w_oSome, ↓w_newCell, ↓w_comp, ↓Sim.w_next, ↓w_seq, ↓w_ret, ↓w_retN, ↓w_never, ↓w_expr, ↓w_if, ↓w_asg, ↓w_own, ↓w_freeze, ↓w_own1, ↓w_par, ↓w_par3, ↓w_asgT, ↓w_tP, ↓w_aug, ↓w_for, ↓w_forNil, ↓w_iSeq, ↓w_range1X, ↓w_range2X, ↓lk_shX, ↓lk_ownX, ↓lk_succ, ↓stop_ap, ↓w_tTup, ↓w_tNil, ↓w_tCons, ↓w_tName, ↓o_add, ↓o_sub, ↓o_addI, ↓o_neg, ↓o_mulX, ↓o_mod, ↓o_div, ↓o_powX, ↓o_lt, ↓o_le, ↓o_gt, ↓o_ge, ↓o_eq, ↓o_ne, ↓o_ixT, ↓o_ixL, ↓o_ixB, ↓o_ixS, ↓o_ixC, ↓o_int, ↓o_abs, ↓o_max2, ↓o_min2, ↓o_lenT, ↓o_lenL, ↓o_lenB, ↓o_lenS, ↓o_divmod, ↓o_slT, ↓o_slL, ↓o_slB, ↓o_repr, ↓o_eqS, ↓o_neS, ↓o_eqB, ↓o_neB, ↓w_forCons, ↓w_compNil, ↓w_compCons, ↓o_allL, ↓o_anyL, ↓o_eqT2, ↓o_neT2, ↓o_tupleL, ↓o_tupleB, ↓o_tupleT, ↓o_sumL, ↓o_addT, ↓o_addL, ↓w_chain3, ↓w_zip2, ↓w_enum1, ↓w_parSO, ↓o_inT, ↓o_inL, ↓o_inB, ↓o_repL, ↓o_mulL, ↓o_catL, ↓o_catBL, ↓o_catLB, ↓o_listFL, ↓o_listFB, ↓o_listFT, ↓o_eqNil, ↓o_reprB, ↓o_neLnn, ↓o_neLcn, ↓o_neBnn, ↓o_neBcn, ↓R.wp_ok, ↓w_get2, ↓w_dict0, ↓w_forI, ↓w_dictI, ↓w_putD, ↓w_comp2, ↓w_isi2, ↓w_parOO, ↓w_parOS, ↓w_pop, ↓w_lrange, ↓w_zip3, ↓o_mulT, ↓o_inD, ↓o_ixD, ↓w_callC, ↓w_callCK, ↓w_nest, ↓o_ixN, ↓o_reprN, ↓w_cellM, ↓w_sortSet, ↓w_lenSet, ↓w_enumZ, ↓w_listZip, ↓w_parSOO, ↓e_is_integer, ↓e_is_row, ↓cut4, ↓strOk_group, ↓gv, ↓gvP, ↓strOk_check, ↓el_mulI, ↓bsP_len, ↓nsP_len,
  startE_eq, List.reduceReplicate, Nat.reduceSub, p_name, p_tup, p_tupL, p_cons, p_nil, wipe_nil, wipe_cons, bls_nil, bls_cons, Sim.ints_nil, Sim.ints_cons, List.all_cons, List.all_nil, List.any_cons, List.any_nil, id, Bool.and_true, Bool.true_and, Option.bind_some, perm, List.filterMap_cons_some, List.filterMap_nil, List.filterMap_cons, List.nil_append, List.cons_append, atI_lit, setP_lit, Sim.atI_nat, Nat.reduceLT, Int.cast_ofNat_Int, Int.natCast_zero, Int.natCast_one, Int.reduceEq, Int.reduceToNat, isInt_none, isInt_bool, isInt_int, isInt_str, isInt_list, isInt_tuple, isInt_dict, isInt_bL, isInt_cell, isInt_scr, isBool_none, isBool_bool, isBool_int, isBool_str, isBool_list, isBool_tuple, isBool_dict, isBool_bL, isBool_cell, isBool_scr, isStr_none, isStr_bool, isStr_int, isStr_str, isStr_list, isStr_tuple, isStr_dict, isStr_bL, isStr_cell, isStr_scr, isTup_none, isTup_bool, isTup_int, isTup_str, isTup_list, isTup_tuple, isTup_dict, isTup_bL, isTup_cell, isTup_scr, isLst_none, isLst_bool, isLst_int, isLst_str, isLst_list, isLst_tuple, isLst_dict, isLst_bL, isLst_cell, isLst_scr, isDic_none, isDic_bool, isDic_int, isDic_str, isDic_list, isDic_tuple, isDic_dict, isDic_bL, isDic_cell, isDic_scr, cnd_not, cnd_true, cnd_false, dats, isB_d, isB_cell, isB_scr, isB_bor, noC_d, noC_cell, noC_scr, noC_bor, List.map_cons, List.map_nil, sizeLine, Option.map_some, List.getElem?_cons_zero, List.getElem?_cons_succ, List.set_cons_zero, List.set_cons_succ, Bool.or_false, Bool.false_or, Bool.or_self, Bool.false_eq_true, Bool.not_true, Bool.not_false, decide_true, decide_false, true_and, and_true, and_self, if_true, if_false, reduceIte, Int.reduceLT, Int.reduceLE, Int.reduceNeg, Int.reducePow, Nat.reducePow, List.length_cons, List.length_nil, Nat.reduceAdd, Int.reduceAdd, Int.reduceSub, Int.reduceMul, seqOf_l, seqOf_t, seqOf_b, zipD_len, enumD_len, zipD_cons, zipD_nil, zipD_nil2, fInB_f, fInB_t, flat_int, flat_str, flat_bool, flat_none, atI_m1, atI_m1c, List.length_map, bls_mapB, all_mapT, key_i, key_s, dic_d, dic_b, popHead_c, cellsOf, isB_nest, noC_nest])
local macro_rules | `(tactic| walk_at "call_792ec_6") => `(tactic| refine w_call0 ?hb ?hc; (case hb => exact rfl); first | (with_reducible apply s_want_group; (· assumption)) | (with_reducible apply s_times_of; (· assumption)) | (with_reducible apply s_under_of; (· assumption)) | (with_reducible apply s_power_of; (· assumption); (· (first | assumption | omega))) | (with_reducible apply s_is_el; (· assumption)) | (with_reducible apply s__law_power; (· assumption); (· (first | assumption | omega))) | (with_reducible apply s__law_power1; (· assumption); (· (first | assumption | omega))) | (with_reducible apply s__law_log'; (· assumption)))
local macro_rules | `(tactic| walk_at "run_792ec_6") => `(tactic| repeat (first | walk_at "ev_792ec_6" | refine cnd_n (decide_eq_false (by omega)) ?_ | refine cnd_p (decide_eq_true (by omega)) ?_ | refine And.intro (by omega) ?_ | walk_at "call_792ec_6"))
theorem s__law_product (G : Grp p q gg) {l : List (Nat × Nat)} (hn : ∀ a ∈ l, a.2 < 1000000) (h : Q (I (el p gg (dotN l))) g) : (fn__law_product [gv p q gg, .d (.tuple (bsP p gg l)), .d (.tuple (nsP l))] g).wp Q := by
  have hp := G.p1
  have hp2 := G.p2
  unfold fn__law_product
  rw [w_fn]
  unfold m__law_product
  walk_at "run_792ec_6"
  have e0 : zipD (bsP p gg l) (nsP l) = l.map fun a => D.d (.tuple [.int (el p gg a.1 : Nat), .int (a.2 : Nat)]) := zipD_self
  rw [e0]
  refine w_forL (fun j e g' => g' = g ∧ ∃ s1 s2, e = [.sh (gv p q gg), .sh (.d (.tuple (bsP p gg l))), .sh (.d (.tuple (nsP l))), .sh (I (el p gg (dotN (l.take j)))), s1, s2]) ⟨rfl, .un, .un, by show [Sl.sh (gv p q gg), .sh (.d (.tuple (bsP p gg l))), .sh (.d (.tuple (nsP l))), .sh (.d (.int 1)), .un, .un] = [.sh (gv p q gg), .sh (.d (.tuple (bsP p gg l))), .sh (.d (.tuple (nsP l))), .sh (I (el p gg 0)), .un, .un]; rw [el_zero G]; rfl⟩ ?_ ?_
  · rintro j e g' y hd ⟨rfl, s1, s2, rfl⟩
    obtain ⟨a, ha, rfl⟩ := map_get hd
    have := hn a (List.mem_of_getElem? ha)
    have := G.el_lt (dotN (l.take j))
    refine ⟨rfl, _, rfl, ?_⟩
    walk_at "run_792ec_6"
    rw [take_snoc2 ha, dotN_snoc]
    exact ⟨_, _, rfl⟩
  · rintro e g' ⟨rfl, s1, s2, rfl⟩
    rw [List.length_map, List.take_length]
    walk_at "run_792ec_6"
    exact h
/-! a check -/
structure Chk where
  bs : List (Nat × Nat)
  t : Nat
def chkP (p gg : Nat) (c : Chk) : P := .tuple [.str kCheck, .tuple (bsP p gg c.bs), .tuple (nsP c.bs), .int (el p gg c.t : Nat)]
structure ChkOk (q : Nat) (c : Chk) : Prop where
  h1 : 1 ≤ c.bs.length
  h2 : c.bs.length ≤ 5
  h3 : ∀ a ∈ c.bs, a.2 < q
/-- the fault's exponent -/
def fx (q : Nat) (c : Chk) : Nat := dotN c.bs + c.t * (q - 1)
theorem sub_mod {a b q : Nat} (hq : 1 ≤ q) : (((a % q : Nat) : Int) - ((b % q : Nat) : Int)) % (q : Int) = (((a + b * (q - 1)) % q : Nat) : Int) := by
  have h1 : (a : Int) - (b : Int) = ((a + b * (q - 1) : Nat) : Int) + (q : Int) * (-(b : Int)) := by
    rw [Int.natCast_add, Int.natCast_mul, Int.natCast_sub hq, Int.mul_sub, Int.natCast_one, Int.mul_one, Int.mul_neg, Int.mul_comm (q : Int)]; omega
  rw [Int.natCast_emod, Int.natCast_emod, ← Int.sub_emod, h1, Int.add_mul_emod_self_left, ← Int.natCast_emod]
theorem s__law_fault (G : Grp p q gg) {c : Chk} (C : ChkOk q c) (h : Q (I (fx q c % q)) g) : (fn__law_fault [gv p q gg, .d (chkP p gg c)] g).wp Q := by
  have hq := G.q1
  have hq2 := G.q2
  unfold chkP
  unfold fn__law_fault
  rw [w_fn]
  unfold m__law_fault
  walk_at "run_792ec_6"
  refine w_call0 rfl (s__law_product G (fun a ha => by have := C.h3 a ha; omega) ?_)
  walk_at "run_792ec_6"
  rw [sub_mod (by omega)]
  exact h
theorem s_fault_of (G : Grp p q gg) {c : Chk} (C : ChkOk q c) (h : Q (I (el p gg (fx q c))) g) : (fn_fault_of [gv p q gg, .d (chkP p gg c)] g).wp Q := by
  have hq := G.q1
  have hq2 := G.q2
  unfold chkP
  unfold fn_fault_of
  rw [w_fn]
  unfold m_fault_of
  walk_at "run_792ec_6"
  refine w_call0 rfl (s_product_of G (fun a ha => by have := C.h3 a ha; omega) (.inr rfl) ?_)
  walk_at "run_792ec_6"
  exact h
end
section
variable {p q gg : Nat} {g : G} {Q : D → G → Prop} {n k a b c d x i many m : Nat}
theorem bsP_map {l : List (Nat × Nat)} : (bsP p gg l).map D.d = l.map fun a => I (el p gg a.1) := by unfold bsP; simp
theorem nsP_map {l : List (Nat × Nat)} : (nsP l).map D.d = l.map fun a => I a.2 := by unfold nsP; simp
local macro_rules | `(tactic| walk_at "ev_792ec_7") => `(tactic| simp only [↓w_C, ↓w_var, ↓w_op, ↓w_un, ↓w_isi, ↓w_b, ↓w_nil, ↓w_cons, ↓w_tup, ↓w_lst, ↓w_not, ↓w_and, ↓w_or, ↓w_ifE, ↓w_chain, ↓w_tv, ↓w_tvAnd, ↓w_tvOr, ↓w_tvNot, ↓w_tvYes, ↓w_call, ↓w_callK, ↓w_sl, ↓w_oNo, ↓w_oSome, ↓w_newCell, ↓w_comp, ↓Sim.w_next, ↓w_seq, ↓w_ret, ↓w_retN, ↓w_never, ↓w_expr, ↓w_if, ↓w_asg, ↓w_own, ↓w_freeze, ↓w_own1, ↓w_par, ↓w_par3, ↓w_asgT, ↓w_tP, ↓w_aug, ↓w_for, ↓w_forNil, ↓w_iSeq, ↓w_range1X, ↓w_range2X, ↓lk_shX, ↓lk_ownX, ↓lk_succ, ↓stop_ap, ↓w_tTup, ↓w_tNil, ↓w_tCons, ↓w_tName, ↓o_add, ↓o_sub, ↓o_addI, ↓o_neg, ↓o_mulX, ↓o_mod, ↓o_div, ↓o_powX, ↓o_lt, ↓o_le, ↓o_gt, ↓o_ge, ↓o_eq, ↓o_ne, ↓o_ixT, ↓o_ixL, ↓o_ixB, ↓o_ixS, ↓o_ixC, ↓o_int, ↓o_abs, ↓o_max2, ↓o_min2, ↓o_lenT, ↓o_lenL, ↓o_lenB, ↓o_lenS, ↓o_divmod, ↓o_slT, ↓o_slL, ↓o_slB, ↓o_repr, ↓o_eqS, ↓o_neS, ↓o_eqB, ↓o_neB, ↓w_forCons, ↓w_compNil, ↓w_compCons, ↓o_allL, ↓o_anyL, ↓o_eqT2, ↓o_neT2, ↓o_tupleL, ↓o_tupleB, ↓o_tupleT, ↓o_sumL, ↓o_addT, ↓o_addL, ↓w_chain3, ↓w_zip2, ↓w_enum1, ↓w_parSO, ↓o_inT, ↓o_inL, ↓o_inB, ↓o_repL, ↓o_mulL, ↓o_catL, ↓o_catBL, ↓o_catLB, ↓o_listFL, ↓o_listFB, ↓o_listFT, ↓o_eqNil, ↓o_reprB, ↓o_neLnn, ↓o_neLcn, ↓o_neBnn, ↓o_neBcn, ↓R.wp_ok, ↓w_get2, ↓w_dict0, ↓w_forI, ↓w_dictI, ↓w_putD, ↓w_comp2, ↓w_isi2, ↓w_parOO, ↓w_parOS, ↓w_pop, ↓w_lrange, ↓w_zip3, ↓o_mulT, ↓o_inD, ↓o_ixD, ↓w_callC, ↓w_callCK, ↓w_nest, ↓o_ixN, ↓o_reprN, ↓w_cellM, ↓w_sortSet, ↓w_lenSet, ↓w_enumZ, ↓w_listZip, ↓w_parSOO, ↓e_is_integer, ↓e_is_row, ↓cut4, ↓strOk_group, ↓gv, ↓gvP, ↓strOk_check, ↓el_mulI, ↓bsP_len, ↓nsP_len,
  startE_eq, List.reduceReplicate, Nat.reduceSub, p_name, p_tup, p_tupL, p_cons, p_nil, wipe_nil, wipe_cons, bls_nil, bls_cons, Sim.ints_nil, Sim.ints_cons, List.all_cons, List.all_nil, List.any_cons, List.any_nil, id, Bool.and_true, Bool.true_and, Option.bind_some, perm, List.filterMap_cons_some, List.filterMap_nil, List.filterMap_cons, List.nil_append, List.cons_append, atI_lit, setP_lit, Sim.atI_nat, Nat.reduceLT, Int.cast_ofNat_Int, Int.natCast_zero, Int.natCast_one, Int.reduceEq, Int.reduceToNat, isInt_none, isInt_bool, isInt_int, isInt_str, isInt_list, isInt_tuple, isInt_dict, isInt_bL, isInt_cell, isInt_scr, isBool_none, isBool_bool, isBool_int, isBool_str, isBool_list, isBool_tuple, isBool_dict, isBool_bL, isBool_cell, isBool_scr, isStr_none, isStr_bool, isStr_int, isStr_str, isStr_list, isStr_tuple, isStr_dict, isStr_bL, isStr_cell, isStr_scr, isTup_none, isTup_bool, isTup_int, isTup_str, isTup_list, isTup_tuple, isTup_dict, isTup_bL, isTup_cell, isTup_scr, isLst_none, isLst_bool, isLst_int, isLst_str, isLst_list, isLst_tuple, isLst_dict, isLst_bL, isLst_cell, isLst_scr, isDic_none, isDic_bool, isDic_int, isDic_str, isDic_list, isDic_tuple, isDic_dict, isDic_bL, isDic_cell, isDic_scr, cnd_not, cnd_true, cnd_false, dats, isB_d, isB_cell, isB_scr, isB_bor, noC_d, noC_cell, noC_scr, noC_bor, List.map_cons, List.map_nil, sizeLine, Option.map_some, List.getElem?_cons_zero, List.getElem?_cons_succ, List.set_cons_zero, List.set_cons_succ, Bool.or_false, Bool.false_or, Bool.or_self, Bool.false_eq_true, Bool.not_true, Bool.not_false, decide_true, decide_false, true_and, and_true, and_self, if_true, if_false, reduceIte, Int.reduceLT, Int.reduceLE, Int.reduceNeg, Int.reducePow, Nat.reducePow, List.length_cons, List.length_nil, Nat.reduceAdd, Int.reduceAdd, Int.reduceSub, Int.reduceMul, seqOf_l, seqOf_t, seqOf_b, zipD_len, enumD_len, zipD_cons, zipD_nil, zipD_nil2, fInB_f, fInB_t, flat_int, flat_str, flat_bool, flat_none, atI_m1, atI_m1c, List.length_map, bls_mapB, all_mapT, key_i, key_s, dic_d, dic_b, popHead_c, cellsOf, isB_nest, noC_nest])
local macro_rules | `(tactic| walk_at "call_792ec_7") => `(tactic| refine w_call0 ?hb ?hc; (case hb => exact rfl); first | (with_reducible apply s_want_group; (· assumption)) | (with_reducible apply s_times_of; (· assumption)) | (with_reducible apply s_under_of; (· assumption)) | (with_reducible apply s_power_of; (· assumption); (· (first | assumption | omega))) | (with_reducible apply s_is_el; (· assumption)) | (with_reducible apply s__law_power; (· assumption); (· (first | assumption | omega))) | (with_reducible apply s__law_power1; (· assumption); (· (first | assumption | omega))) | (with_reducible apply s__law_log'; (· assumption)))
local macro_rules | `(tactic| walk_at "run_792ec_7") => `(tactic| repeat (first | walk_at "ev_792ec_7" | refine cnd_n (decide_eq_false (by omega)) ?_ | refine cnd_p (decide_eq_true (by omega)) ?_ | refine And.intro (by omega) ?_ | walk_at "call_792ec_7"))
theorem s_are_elB (G : Grp p q gg) {l : List (Nat × Nat)} {many : Int} (hl : l.length < 1000) (hk : (l.length : Int) = many) (h : Q (.d (.bool true)) g) : (fn_are_elements [gv p q gg, .d (.tuple (bsP p gg l)), .d (.int many)] g).wp Q := by
  unfold fn_are_elements
  rw [w_fn]
  unfold m_are_elements
  walk_at "run_792ec_7"
  refine w_compM (F := fun _ => .bool true) bsP_map (fun a ha => ⟨rfl, _, rfl, ?_⟩) ?_
  · walk_at "run_792ec_7"
  · walk_at "run_792ec_7"
    exact h
local macro_rules | `(tactic| walk_at "ev_792ec_8") => `(tactic| simp only [↓w_C, ↓w_var, ↓w_op, ↓w_un, ↓w_isi, ↓w_b, ↓w_nil, ↓w_cons, ↓w_tup, ↓w_lst, ↓w_not, ↓w_and, ↓w_or, ↓w_ifE, ↓w_chain, ↓w_tv, ↓w_tvAnd, ↓w_tvOr, ↓w_tvNot, ↓w_tvYes, ↓w_call, ↓w_callK, ↓w_sl, ↓w_oNo, ↓w_oSome, ↓w_newCell, ↓w_comp, ↓Sim.w_next, ↓w_seq, ↓w_ret, ↓w_retN, ↓w_never, ↓w_expr, ↓w_if, ↓w_asg, ↓w_own, ↓w_freeze, ↓w_own1, ↓w_par, ↓w_par3, ↓w_asgT, ↓w_tP, ↓w_aug, ↓w_for, ↓w_forNil, ↓w_iSeq, ↓w_range1X, ↓w_range2X, ↓lk_shX, ↓lk_ownX, ↓lk_succ, ↓stop_ap, ↓w_tTup, ↓w_tNil, ↓w_tCons, ↓w_tName, ↓o_add, ↓o_sub, ↓o_addI, ↓o_neg, ↓o_mulX, ↓o_mod, ↓o_div, ↓o_powX, ↓o_lt, ↓o_le, ↓o_gt, ↓o_ge, ↓o_eq, ↓o_ne, ↓o_ixT, ↓o_ixL, ↓o_ixB, ↓o_ixS, ↓o_ixC, ↓o_int, ↓o_abs, ↓o_max2, ↓o_min2, ↓o_lenT, ↓o_lenL, ↓o_lenB, ↓o_lenS, ↓o_divmod, ↓o_slT, ↓o_slL, ↓o_slB, ↓o_repr, ↓o_eqS, ↓o_neS, ↓o_eqB, ↓o_neB, ↓w_forCons, ↓w_compNil, ↓w_compCons, ↓o_allL, ↓o_anyL, ↓o_eqT2, ↓o_neT2, ↓o_tupleL, ↓o_tupleB, ↓o_tupleT, ↓o_sumL, ↓o_addT, ↓o_addL, ↓w_chain3, ↓w_zip2, ↓w_enum1, ↓w_parSO, ↓o_inT, ↓o_inL, ↓o_inB, ↓o_repL, ↓o_mulL, ↓o_catL, ↓o_catBL, ↓o_catLB, ↓o_listFL, ↓o_listFB, ↓o_listFT, ↓o_eqNil, ↓o_reprB, ↓o_neLnn, ↓o_neLcn, ↓o_neBnn, ↓o_neBcn, ↓R.wp_ok, ↓w_get2, ↓w_dict0, ↓w_forI, ↓w_dictI, ↓w_putD, ↓w_comp2, ↓w_isi2, ↓w_parOO, ↓w_parOS, ↓w_pop, ↓w_lrange, ↓w_zip3, ↓o_mulT, ↓o_inD, ↓o_ixD, ↓w_callC, ↓w_callCK, ↓w_nest, ↓o_ixN, ↓o_reprN, ↓w_cellM, ↓w_sortSet, ↓w_lenSet, ↓w_enumZ, ↓w_listZip, ↓w_parSOO, ↓e_is_integer, ↓e_is_row, ↓cut4, ↓strOk_group, ↓gv, ↓gvP, ↓strOk_check, ↓el_mulI, ↓bsP_len, ↓nsP_len,
  startE_eq, List.reduceReplicate, Nat.reduceSub, p_name, p_tup, p_tupL, p_cons, p_nil, wipe_nil, wipe_cons, bls_nil, bls_cons, Sim.ints_nil, Sim.ints_cons, List.all_cons, List.all_nil, List.any_cons, List.any_nil, id, Bool.and_true, Bool.true_and, Option.bind_some, perm, List.filterMap_cons_some, List.filterMap_nil, List.filterMap_cons, List.nil_append, List.cons_append, atI_lit, setP_lit, Sim.atI_nat, Nat.reduceLT, Int.cast_ofNat_Int, Int.natCast_zero, Int.natCast_one, Int.reduceEq, Int.reduceToNat, isInt_none, isInt_bool, isInt_int, isInt_str, isInt_list, isInt_tuple, isInt_dict, isInt_bL, isInt_cell, isInt_scr, isBool_none, isBool_bool, isBool_int, isBool_str, isBool_list, isBool_tuple, isBool_dict, isBool_bL, isBool_cell, isBool_scr, isStr_none, isStr_bool, isStr_int, isStr_str, isStr_list, isStr_tuple, isStr_dict, isStr_bL, isStr_cell, isStr_scr, isTup_none, isTup_bool, isTup_int, isTup_str, isTup_list, isTup_tuple, isTup_dict, isTup_bL, isTup_cell, isTup_scr, isLst_none, isLst_bool, isLst_int, isLst_str, isLst_list, isLst_tuple, isLst_dict, isLst_bL, isLst_cell, isLst_scr, isDic_none, isDic_bool, isDic_int, isDic_str, isDic_list, isDic_tuple, isDic_dict, isDic_bL, isDic_cell, isDic_scr, cnd_not, cnd_true, cnd_false, dats, isB_d, isB_cell, isB_scr, isB_bor, noC_d, noC_cell, noC_scr, noC_bor, List.map_cons, List.map_nil, sizeLine, Option.map_some, List.getElem?_cons_zero, List.getElem?_cons_succ, List.set_cons_zero, List.set_cons_succ, Bool.or_false, Bool.false_or, Bool.or_self, Bool.false_eq_true, Bool.not_true, Bool.not_false, decide_true, decide_false, true_and, and_true, and_self, if_true, if_false, reduceIte, Int.reduceLT, Int.reduceLE, Int.reduceNeg, Int.reducePow, Nat.reducePow, List.length_cons, List.length_nil, Nat.reduceAdd, Int.reduceAdd, Int.reduceSub, Int.reduceMul, seqOf_l, seqOf_t, seqOf_b, zipD_len, enumD_len, zipD_cons, zipD_nil, zipD_nil2, fInB_f, fInB_t, flat_int, flat_str, flat_bool, flat_none, atI_m1, atI_m1c, List.length_map, bls_mapB, all_mapT, key_i, key_s, dic_d, dic_b, popHead_c, cellsOf, isB_nest, noC_nest])
local macro_rules | `(tactic| walk_at "call_792ec_8") => `(tactic| refine w_call0 ?hb ?hc; (case hb => exact rfl); first | (with_reducible apply s_want_group; (· assumption)) | (with_reducible apply s_times_of; (· assumption)) | (with_reducible apply s_under_of; (· assumption)) | (with_reducible apply s_power_of; (· assumption); (· (first | assumption | omega))) | (with_reducible apply s_is_el; (· assumption)) | (with_reducible apply s__law_power; (· assumption); (· (first | assumption | omega))) | (with_reducible apply s__law_power1; (· assumption); (· (first | assumption | omega))) | (with_reducible apply s__law_log'; (· assumption)) | (with_reducible apply s_is_below; (· (first | assumption | omega))))
local macro_rules | `(tactic| walk_at "run_792ec_8") => `(tactic| repeat (first | walk_at "ev_792ec_8" | refine cnd_n (decide_eq_false (by omega)) ?_ | refine cnd_p (decide_eq_true (by omega)) ?_ | refine And.intro (by omega) ?_ | walk_at "call_792ec_8"))
theorem s_are_nums {l : List (Nat × Nat)} {many : Int} (hl : l.length < 1000) (hk : (l.length : Int) = many) (hq : ∀ a ∈ l, a.2 < q) (h : Q (.d (.bool true)) g) : (fn_are_numbers [.d (.tuple (nsP l)), .d (.int many), I q] g).wp Q := by
  unfold fn_are_numbers
  rw [w_fn]
  unfold m_are_numbers
  walk_at "run_792ec_8"
  refine w_compM (F := fun _ => .bool true) nsP_map (fun a ha => ⟨rfl, _, rfl, ?_⟩) ?_
  · have := hq a ha
    walk_at "run_792ec_8"
  · walk_at "run_792ec_8"
    exact h
local macro_rules | `(tactic| walk_at "ev_792ec_9") => `(tactic| simp only [↓w_C, ↓w_var, ↓w_op, ↓w_un, ↓w_isi, ↓w_b, ↓w_nil, ↓w_cons, ↓w_tup, ↓w_lst, ↓w_not, ↓w_and, ↓w_or, ↓w_ifE, ↓w_chain, ↓w_tv, ↓w_tvAnd, ↓w_tvOr, ↓w_tvNot, ↓w_tvYes, ↓w_call, ↓w_callK, ↓w_sl, ↓w_oNo, ↓w_oSome, ↓w_newCell, ↓w_comp, ↓Sim.w_next, ↓w_seq, ↓w_ret, ↓w_retN, ↓w_never, ↓w_expr, ↓w_if, ↓w_asg, ↓w_own, ↓w_freeze, ↓w_own1, ↓w_par, ↓w_par3, ↓w_asgT, ↓w_tP, ↓w_aug, ↓w_for, ↓w_forNil, ↓w_iSeq, ↓w_range1X, ↓w_range2X, ↓lk_shX, ↓lk_ownX, ↓lk_succ, ↓stop_ap, ↓w_tTup, ↓w_tNil, ↓w_tCons, ↓w_tName, ↓o_add, ↓o_sub, ↓o_addI, ↓o_neg, ↓o_mulX, ↓o_mod, ↓o_div, ↓o_powX, ↓o_lt, ↓o_le, ↓o_gt, ↓o_ge, ↓o_eq, ↓o_ne, ↓o_ixT, ↓o_ixL, ↓o_ixB, ↓o_ixS, ↓o_ixC, ↓o_int, ↓o_abs, ↓o_max2, ↓o_min2, ↓o_lenT, ↓o_lenL, ↓o_lenB, ↓o_lenS, ↓o_divmod, ↓o_slT, ↓o_slL, ↓o_slB, ↓o_repr, ↓o_eqS, ↓o_neS, ↓o_eqB, ↓o_neB, ↓w_forCons, ↓w_compNil, ↓w_compCons, ↓o_allL, ↓o_anyL, ↓o_eqT2, ↓o_neT2, ↓o_tupleL, ↓o_tupleB, ↓o_tupleT, ↓o_sumL, ↓o_addT, ↓o_addL, ↓w_chain3, ↓w_zip2, ↓w_enum1, ↓w_parSO, ↓o_inT, ↓o_inL, ↓o_inB, ↓o_repL, ↓o_mulL, ↓o_catL, ↓o_catBL, ↓o_catLB, ↓o_listFL, ↓o_listFB, ↓o_listFT, ↓o_eqNil, ↓o_reprB, ↓o_neLnn, ↓o_neLcn, ↓o_neBnn, ↓o_neBcn, ↓R.wp_ok, ↓w_get2, ↓w_dict0, ↓w_forI, ↓w_dictI, ↓w_putD, ↓w_comp2, ↓w_isi2, ↓w_parOO, ↓w_parOS, ↓w_pop, ↓w_lrange, ↓w_zip3, ↓o_mulT, ↓o_inD, ↓o_ixD, ↓w_callC, ↓w_callCK, ↓w_nest, ↓o_ixN, ↓o_reprN, ↓w_cellM, ↓w_sortSet, ↓w_lenSet, ↓w_enumZ, ↓w_listZip, ↓w_parSOO, ↓e_is_integer, ↓e_is_row, ↓cut4, ↓strOk_group, ↓gv, ↓gvP, ↓strOk_check, ↓el_mulI, ↓bsP_len, ↓nsP_len,
  startE_eq, List.reduceReplicate, Nat.reduceSub, p_name, p_tup, p_tupL, p_cons, p_nil, wipe_nil, wipe_cons, bls_nil, bls_cons, Sim.ints_nil, Sim.ints_cons, List.all_cons, List.all_nil, List.any_cons, List.any_nil, id, Bool.and_true, Bool.true_and, Option.bind_some, perm, List.filterMap_cons_some, List.filterMap_nil, List.filterMap_cons, List.nil_append, List.cons_append, atI_lit, setP_lit, Sim.atI_nat, Nat.reduceLT, Int.cast_ofNat_Int, Int.natCast_zero, Int.natCast_one, Int.reduceEq, Int.reduceToNat, isInt_none, isInt_bool, isInt_int, isInt_str, isInt_list, isInt_tuple, isInt_dict, isInt_bL, isInt_cell, isInt_scr, isBool_none, isBool_bool, isBool_int, isBool_str, isBool_list, isBool_tuple, isBool_dict, isBool_bL, isBool_cell, isBool_scr, isStr_none, isStr_bool, isStr_int, isStr_str, isStr_list, isStr_tuple, isStr_dict, isStr_bL, isStr_cell, isStr_scr, isTup_none, isTup_bool, isTup_int, isTup_str, isTup_list, isTup_tuple, isTup_dict, isTup_bL, isTup_cell, isTup_scr, isLst_none, isLst_bool, isLst_int, isLst_str, isLst_list, isLst_tuple, isLst_dict, isLst_bL, isLst_cell, isLst_scr, isDic_none, isDic_bool, isDic_int, isDic_str, isDic_list, isDic_tuple, isDic_dict, isDic_bL, isDic_cell, isDic_scr, cnd_not, cnd_true, cnd_false, dats, isB_d, isB_cell, isB_scr, isB_bor, noC_d, noC_cell, noC_scr, noC_bor, List.map_cons, List.map_nil, sizeLine, Option.map_some, List.getElem?_cons_zero, List.getElem?_cons_succ, List.set_cons_zero, List.set_cons_succ, Bool.or_false, Bool.false_or, Bool.or_self, Bool.false_eq_true, Bool.not_true, Bool.not_false, decide_true, decide_false, true_and, and_true, and_self, if_true, if_false, reduceIte, Int.reduceLT, Int.reduceLE, Int.reduceNeg, Int.reducePow, Nat.reducePow, List.length_cons, List.length_nil, Nat.reduceAdd, Int.reduceAdd, Int.reduceSub, Int.reduceMul, seqOf_l, seqOf_t, seqOf_b, zipD_len, enumD_len, zipD_cons, zipD_nil, zipD_nil2, fInB_f, fInB_t, flat_int, flat_str, flat_bool, flat_none, atI_m1, atI_m1c, List.length_map, bls_mapB, all_mapT, key_i, key_s, dic_d, dic_b, popHead_c, cellsOf, isB_nest, noC_nest])
local macro_rules | `(tactic| walk_at "call_792ec_9") => `(tactic| refine w_call0 ?hb ?hc; (case hb => exact rfl); first | (with_reducible apply s_want_group; (· assumption)) | (with_reducible apply s_times_of; (· assumption)) | (with_reducible apply s_under_of; (· assumption)) | (with_reducible apply s_power_of; (· assumption); (· (first | assumption | omega))) | (with_reducible apply s_is_el; (· assumption)) | (with_reducible apply s__law_power; (· assumption); (· (first | assumption | omega))) | (with_reducible apply s__law_power1; (· assumption); (· (first | assumption | omega))) | (with_reducible apply s__law_log'; (· assumption)) | (with_reducible apply s_is_below; (· (first | assumption | omega))) | (with_reducible apply s_are_elB; (· assumption); (· (first | assumption | omega)); (· (first | assumption | omega))) | (with_reducible apply s_are_nums; (· (first | assumption | omega)); (· (first | assumption | omega)); (· assumption)))
local macro_rules | `(tactic| walk_at "run_792ec_9") => `(tactic| repeat (first | walk_at "ev_792ec_9" | refine cnd_n (decide_eq_false (by omega)) ?_ | refine cnd_p (decide_eq_true (by omega)) ?_ | refine And.intro (by omega) ?_ | walk_at "call_792ec_9"))
theorem s_is_check_of (G : Grp p q gg) {c : Chk} (C : ChkOk q c) (h : Q (.d (.bool true)) g) : (fn_is_check_of [gv p q gg, .d (chkP p gg c)] g).wp Q := by
  have h1 := C.h1
  have h2 := C.h2
  have h3 := C.h3
  unfold chkP
  unfold fn_is_check_of
  rw [w_fn]
  unfold m_is_check_of
  walk_at "run_792ec_9"
  exact h
def lotP (p gg : Nat) (L : List Chk) : List P := L.map (chkP p gg)
theorem lotP_map {L : List Chk} : (lotP p gg L).map D.d = L.map fun c => D.d (chkP p gg c) := by unfold lotP; simp
theorem lotP_len {L : List Chk} : (lotP p gg L).length = L.length := by unfold lotP; simp
structure LotOk (q : Nat) (L : List Chk) : Prop where
  h1 : 1 ≤ L.length
  h2 : L.length ≤ 16
  h3 : ∀ c ∈ L, ChkOk q c
local macro_rules | `(tactic| walk_at "ev_792ec_10") => `(tactic| simp only [↓w_C, ↓w_var, ↓w_op, ↓w_un, ↓w_isi, ↓w_b, ↓w_nil, ↓w_cons, ↓w_tup, ↓w_lst, ↓w_not, ↓w_and, ↓w_or, ↓w_ifE, ↓w_chain, ↓w_tv, ↓w_tvAnd, ↓w_tvOr, ↓w_tvNot, ↓w_tvYes, ↓w_call, ↓w_callK, ↓w_sl, ↓w_oNo, ↓w_oSome, ↓w_newCell, ↓w_comp, ↓Sim.w_next, ↓w_seq, ↓w_ret, ↓w_retN, ↓w_never, ↓w_expr, ↓w_if, ↓w_asg, ↓w_own, ↓w_freeze, ↓w_own1, ↓w_par, ↓w_par3, ↓w_asgT, ↓w_tP, ↓w_aug, ↓w_for, ↓w_forNil, ↓w_iSeq, ↓w_range1X, ↓w_range2X, ↓lk_shX, ↓lk_ownX, ↓lk_succ, ↓stop_ap, ↓w_tTup, ↓w_tNil, ↓w_tCons, ↓w_tName, ↓o_add, ↓o_sub, ↓o_addI, ↓o_neg, ↓o_mulX, ↓o_mod, ↓o_div, ↓o_powX, ↓o_lt, ↓o_le, ↓o_gt, ↓o_ge, ↓o_eq, ↓o_ne, ↓o_ixT, ↓o_ixL, ↓o_ixB, ↓o_ixS, ↓o_ixC, ↓o_int, ↓o_abs, ↓o_max2, ↓o_min2, ↓o_lenT, ↓o_lenL, ↓o_lenB, ↓o_lenS, ↓o_divmod, ↓o_slT, ↓o_slL, ↓o_slB, ↓o_repr, ↓o_eqS, ↓o_neS, ↓o_eqB, ↓o_neB, ↓w_forCons, ↓w_compNil, ↓w_compCons, ↓o_allL, ↓o_anyL, ↓o_eqT2, ↓o_neT2, ↓o_tupleL, ↓o_tupleB, ↓o_tupleT, ↓o_sumL, ↓o_addT, ↓o_addL, ↓w_chain3, ↓w_zip2, ↓w_enum1, ↓w_parSO, ↓o_inT, ↓o_inL, ↓o_inB, ↓o_repL, ↓o_mulL, ↓o_catL, ↓o_catBL, ↓o_catLB, ↓o_listFL, ↓o_listFB, ↓o_listFT, ↓o_eqNil, ↓o_reprB, ↓o_neLnn, ↓o_neLcn, ↓o_neBnn, ↓o_neBcn, ↓R.wp_ok, ↓w_get2, ↓w_dict0, ↓w_forI, ↓w_dictI, ↓w_putD, ↓w_comp2, ↓w_isi2, ↓w_parOO, ↓w_parOS, ↓w_pop, ↓w_lrange, ↓w_zip3, ↓o_mulT, ↓o_inD, ↓o_ixD, ↓w_callC, ↓w_callCK, ↓w_nest, ↓o_ixN, ↓o_reprN, ↓w_cellM, ↓w_sortSet, ↓w_lenSet, ↓w_enumZ, ↓w_listZip, ↓w_parSOO, ↓e_is_integer, ↓e_is_row, ↓cut4, ↓strOk_group, ↓gv, ↓gvP, ↓strOk_check, ↓el_mulI, ↓bsP_len, ↓nsP_len, ↓lotP_len,
  startE_eq, List.reduceReplicate, Nat.reduceSub, p_name, p_tup, p_tupL, p_cons, p_nil, wipe_nil, wipe_cons, bls_nil, bls_cons, Sim.ints_nil, Sim.ints_cons, List.all_cons, List.all_nil, List.any_cons, List.any_nil, id, Bool.and_true, Bool.true_and, Option.bind_some, perm, List.filterMap_cons_some, List.filterMap_nil, List.filterMap_cons, List.nil_append, List.cons_append, atI_lit, setP_lit, Sim.atI_nat, Nat.reduceLT, Int.cast_ofNat_Int, Int.natCast_zero, Int.natCast_one, Int.reduceEq, Int.reduceToNat, isInt_none, isInt_bool, isInt_int, isInt_str, isInt_list, isInt_tuple, isInt_dict, isInt_bL, isInt_cell, isInt_scr, isBool_none, isBool_bool, isBool_int, isBool_str, isBool_list, isBool_tuple, isBool_dict, isBool_bL, isBool_cell, isBool_scr, isStr_none, isStr_bool, isStr_int, isStr_str, isStr_list, isStr_tuple, isStr_dict, isStr_bL, isStr_cell, isStr_scr, isTup_none, isTup_bool, isTup_int, isTup_str, isTup_list, isTup_tuple, isTup_dict, isTup_bL, isTup_cell, isTup_scr, isLst_none, isLst_bool, isLst_int, isLst_str, isLst_list, isLst_tuple, isLst_dict, isLst_bL, isLst_cell, isLst_scr, isDic_none, isDic_bool, isDic_int, isDic_str, isDic_list, isDic_tuple, isDic_dict, isDic_bL, isDic_cell, isDic_scr, cnd_not, cnd_true, cnd_false, dats, isB_d, isB_cell, isB_scr, isB_bor, noC_d, noC_cell, noC_scr, noC_bor, List.map_cons, List.map_nil, sizeLine, Option.map_some, List.getElem?_cons_zero, List.getElem?_cons_succ, List.set_cons_zero, List.set_cons_succ, Bool.or_false, Bool.false_or, Bool.or_self, Bool.false_eq_true, Bool.not_true, Bool.not_false, decide_true, decide_false, true_and, and_true, and_self, if_true, if_false, reduceIte, Int.reduceLT, Int.reduceLE, Int.reduceNeg, Int.reducePow, Nat.reducePow, List.length_cons, List.length_nil, Nat.reduceAdd, Int.reduceAdd, Int.reduceSub, Int.reduceMul, seqOf_l, seqOf_t, seqOf_b, zipD_len, enumD_len, zipD_cons, zipD_nil, zipD_nil2, fInB_f, fInB_t, flat_int, flat_str, flat_bool, flat_none, atI_m1, atI_m1c, List.length_map, bls_mapB, all_mapT, key_i, key_s, dic_d, dic_b, popHead_c, cellsOf, isB_nest, noC_nest])
local macro_rules | `(tactic| walk_at "call_792ec_10") => `(tactic| refine w_call0 ?hb ?hc; (case hb => exact rfl); first | (with_reducible apply s_want_group; (· assumption)) | (with_reducible apply s_times_of; (· assumption)) | (with_reducible apply s_under_of; (· assumption)) | (with_reducible apply s_power_of; (· assumption); (· (first | assumption | omega))) | (with_reducible apply s_is_el; (· assumption)) | (with_reducible apply s__law_power; (· assumption); (· (first | assumption | omega))) | (with_reducible apply s__law_power1; (· assumption); (· (first | assumption | omega))) | (with_reducible apply s__law_log'; (· assumption)) | (with_reducible apply s_is_below; (· (first | assumption | omega))) | (with_reducible apply s_are_elB; (· assumption); (· (first | assumption | omega)); (· (first | assumption | omega))) | (with_reducible apply s_are_nums; (· (first | assumption | omega)); (· (first | assumption | omega)); (· assumption)) | (with_reducible apply s_is_check_of; (· assumption); (· assumption)))
local macro_rules | `(tactic| walk_at "run_792ec_10") => `(tactic| repeat (first | walk_at "ev_792ec_10" | refine cnd_n (decide_eq_false (by omega)) ?_ | refine cnd_p (decide_eq_true (by omega)) ?_ | refine And.intro (by omega) ?_ | walk_at "call_792ec_10"))
theorem s_is_lot_of (G : Grp p q gg) {L : List Chk} (C : LotOk q L) (h : Q (.d (.bool true)) g) : (fn_is_lot_of [gv p q gg, .d (.tuple (lotP p gg L))] g).wp Q := by
  have h1 := C.h1
  have h2 := C.h2
  unfold fn_is_lot_of
  rw [w_fn]
  unfold m_is_lot_of
  walk_at "run_792ec_10"
  refine w_compM (F := fun _ => .bool true) lotP_map (fun a ha => ⟨rfl, _, rfl, ?_⟩) ?_
  · have := C.h3 a ha
    walk_at "run_792ec_10"
  · walk_at "run_792ec_10"
    exact h
local macro_rules | `(tactic| walk_at "ev_792ec_11") => `(tactic| simp only [↓w_C, ↓w_var, ↓w_op, ↓w_un, ↓w_isi, ↓w_b, ↓w_nil, ↓w_cons, ↓w_tup, ↓w_lst, ↓w_not, ↓w_and, ↓w_or, ↓w_ifE, ↓w_chain, ↓w_tv, ↓w_tvAnd, ↓w_tvOr, ↓w_tvNot, ↓w_tvYes, ↓w_call, ↓w_callK, ↓w_sl, ↓w_oNo, ↓w_oSome, ↓w_newCell, ↓w_comp, ↓Sim.w_next, ↓w_seq, ↓w_ret, ↓w_retN, ↓w_never, ↓w_expr, ↓w_if, ↓w_asg, ↓w_own, ↓w_freeze, ↓w_own1, ↓w_par, ↓w_par3, ↓w_asgT, ↓w_tP, ↓w_aug, ↓w_for, ↓w_forNil, ↓w_iSeq, ↓w_range1X, ↓w_range2X, ↓lk_shX, ↓lk_ownX, ↓lk_succ, ↓stop_ap, ↓w_tTup, ↓w_tNil, ↓w_tCons, ↓w_tName, ↓o_add, ↓o_sub, ↓o_addI, ↓o_neg, ↓o_mulX, ↓o_mod, ↓o_div, ↓o_powX, ↓o_lt, ↓o_le, ↓o_gt, ↓o_ge, ↓o_eq, ↓o_ne, ↓o_ixT, ↓o_ixL, ↓o_ixB, ↓o_ixS, ↓o_ixC, ↓o_int, ↓o_abs, ↓o_max2, ↓o_min2, ↓o_lenT, ↓o_lenL, ↓o_lenB, ↓o_lenS, ↓o_divmod, ↓o_slT, ↓o_slL, ↓o_slB, ↓o_repr, ↓o_eqS, ↓o_neS, ↓o_eqB, ↓o_neB, ↓w_forCons, ↓w_compNil, ↓w_compCons, ↓o_allL, ↓o_anyL, ↓o_eqT2, ↓o_neT2, ↓o_tupleL, ↓o_tupleB, ↓o_tupleT, ↓o_sumL, ↓o_addT, ↓o_addL, ↓w_chain3, ↓w_zip2, ↓w_enum1, ↓w_parSO, ↓o_inT, ↓o_inL, ↓o_inB, ↓o_repL, ↓o_mulL, ↓o_catL, ↓o_catBL, ↓o_catLB, ↓o_listFL, ↓o_listFB, ↓o_listFT, ↓o_eqNil, ↓o_reprB, ↓o_neLnn, ↓o_neLcn, ↓o_neBnn, ↓o_neBcn, ↓R.wp_ok, ↓w_get2, ↓w_dict0, ↓w_forI, ↓w_dictI, ↓w_putD, ↓w_comp2, ↓w_isi2, ↓w_parOO, ↓w_parOS, ↓w_pop, ↓w_lrange, ↓w_zip3, ↓o_mulT, ↓o_inD, ↓o_ixD, ↓w_callC, ↓w_callCK, ↓w_nest, ↓o_ixN, ↓o_reprN, ↓w_cellM, ↓w_sortSet, ↓w_lenSet, ↓w_enumZ, ↓w_listZip, ↓w_parSOO, ↓e_is_integer, ↓e_is_row, ↓cut4, ↓strOk_group, ↓gv, ↓gvP, ↓strOk_check, ↓el_mulI, ↓bsP_len, ↓nsP_len, ↓lotP_len,
  startE_eq, List.reduceReplicate, Nat.reduceSub, p_name, p_tup, p_tupL, p_cons, p_nil, wipe_nil, wipe_cons, bls_nil, bls_cons, Sim.ints_nil, Sim.ints_cons, List.all_cons, List.all_nil, List.any_cons, List.any_nil, id, Bool.and_true, Bool.true_and, Option.bind_some, perm, List.filterMap_cons_some, List.filterMap_nil, List.filterMap_cons, List.nil_append, List.cons_append, atI_lit, setP_lit, Sim.atI_nat, Nat.reduceLT, Int.cast_ofNat_Int, Int.natCast_zero, Int.natCast_one, Int.reduceEq, Int.reduceToNat, isInt_none, isInt_bool, isInt_int, isInt_str, isInt_list, isInt_tuple, isInt_dict, isInt_bL, isInt_cell, isInt_scr, isBool_none, isBool_bool, isBool_int, isBool_str, isBool_list, isBool_tuple, isBool_dict, isBool_bL, isBool_cell, isBool_scr, isStr_none, isStr_bool, isStr_int, isStr_str, isStr_list, isStr_tuple, isStr_dict, isStr_bL, isStr_cell, isStr_scr, isTup_none, isTup_bool, isTup_int, isTup_str, isTup_list, isTup_tuple, isTup_dict, isTup_bL, isTup_cell, isTup_scr, isLst_none, isLst_bool, isLst_int, isLst_str, isLst_list, isLst_tuple, isLst_dict, isLst_bL, isLst_cell, isLst_scr, isDic_none, isDic_bool, isDic_int, isDic_str, isDic_list, isDic_tuple, isDic_dict, isDic_bL, isDic_cell, isDic_scr, cnd_not, cnd_true, cnd_false, dats, isB_d, isB_cell, isB_scr, isB_bor, noC_d, noC_cell, noC_scr, noC_bor, List.map_cons, List.map_nil, sizeLine, Option.map_some, List.getElem?_cons_zero, List.getElem?_cons_succ, List.set_cons_zero, List.set_cons_succ, Bool.or_false, Bool.false_or, Bool.or_self, Bool.false_eq_true, Bool.not_true, Bool.not_false, decide_true, decide_false, true_and, and_true, and_self, if_true, if_false, reduceIte, Int.reduceLT, Int.reduceLE, Int.reduceNeg, Int.reducePow, Nat.reducePow, List.length_cons, List.length_nil, Nat.reduceAdd, Int.reduceAdd, Int.reduceSub, Int.reduceMul, seqOf_l, seqOf_t, seqOf_b, zipD_len, enumD_len, zipD_cons, zipD_nil, zipD_nil2, fInB_f, fInB_t, flat_int, flat_str, flat_bool, flat_none, atI_m1, atI_m1c, List.length_map, bls_mapB, all_mapT, key_i, key_s, dic_d, dic_b, popHead_c, cellsOf, isB_nest, noC_nest])
local macro_rules | `(tactic| walk_at "call_792ec_11") => `(tactic| refine w_call0 ?hb ?hc; (case hb => exact rfl); first | (with_reducible apply s_want_group; (· assumption)) | (with_reducible apply s_times_of; (· assumption)) | (with_reducible apply s_under_of; (· assumption)) | (with_reducible apply s_power_of; (· assumption); (· (first | assumption | omega))) | (with_reducible apply s_is_el; (· assumption)) | (with_reducible apply s__law_power; (· assumption); (· (first | assumption | omega))) | (with_reducible apply s__law_power1; (· assumption); (· (first | assumption | omega))) | (with_reducible apply s__law_log'; (· assumption)) | (with_reducible apply s_is_below; (· (first | assumption | omega))) | (with_reducible apply s_are_elB; (· assumption); (· (first | assumption | omega)); (· (first | assumption | omega))) | (with_reducible apply s_are_nums; (· (first | assumption | omega)); (· (first | assumption | omega)); (· assumption)) | (with_reducible apply s_is_check_of; (· assumption); (· assumption)) | (with_reducible apply s_is_lot_of; (· assumption); (· assumption)))
local macro_rules | `(tactic| walk_at "run_792ec_11") => `(tactic| repeat (first | walk_at "ev_792ec_11" | refine cnd_n (decide_eq_false (by omega)) ?_ | refine cnd_p (decide_eq_true (by omega)) ?_ | refine And.intro (by omega) ?_ | walk_at "call_792ec_11"))
theorem s_want_lot (G : Grp p q gg) {L : List Chk} (C : LotOk q L) (h : Q (.d (.tuple (lotP p gg L))) g) : (fn_want_lot [gv p q gg, .d (.tuple (lotP p gg L))] g).wp Q := by
  unfold fn_want_lot
  rw [w_fn]
  unfold m_want_lot
  walk_at "run_792ec_11"
  exact h
def faultsP (p q gg : Nat) (L : List Chk) : List P := L.map fun c => .int (el p gg (fx q c) : Nat)
local macro_rules | `(tactic| walk_at "ev_792ec_12") => `(tactic| simp only [↓w_C, ↓w_var, ↓w_op, ↓w_un, ↓w_isi, ↓w_b, ↓w_nil, ↓w_cons, ↓w_tup, ↓w_lst, ↓w_not, ↓w_and, ↓w_or, ↓w_ifE, ↓w_chain, ↓w_tv, ↓w_tvAnd, ↓w_tvOr, ↓w_tvNot, ↓w_tvYes, ↓w_call, ↓w_callK, ↓w_sl, ↓w_oNo, ↓w_oSome, ↓w_newCell, ↓w_comp, ↓Sim.w_next, ↓w_seq, ↓w_ret, ↓w_retN, ↓w_never, ↓w_expr, ↓w_if, ↓w_asg, ↓w_own, ↓w_freeze, ↓w_own1, ↓w_par, ↓w_par3, ↓w_asgT, ↓w_tP, ↓w_aug, ↓w_for, ↓w_forNil, ↓w_iSeq, ↓w_range1X, ↓w_range2X, ↓lk_shX, ↓lk_ownX, ↓lk_succ, ↓stop_ap, ↓w_tTup, ↓w_tNil, ↓w_tCons, ↓w_tName, ↓o_add, ↓o_sub, ↓o_addI, ↓o_neg, ↓o_mulX, ↓o_mod, ↓o_div, ↓o_powX, ↓o_lt, ↓o_le, ↓o_gt, ↓o_ge, ↓o_eq, ↓o_ne, ↓o_ixT, ↓o_ixL, ↓o_ixB, ↓o_ixS, ↓o_ixC, ↓o_int, ↓o_abs, ↓o_max2, ↓o_min2, ↓o_lenT, ↓o_lenL, ↓o_lenB, ↓o_lenS, ↓o_divmod, ↓o_slT, ↓o_slL, ↓o_slB, ↓o_repr, ↓o_eqS, ↓o_neS, ↓o_eqB, ↓o_neB, ↓w_forCons, ↓w_compNil, ↓w_compCons, ↓o_allL, ↓o_anyL, ↓o_eqT2, ↓o_neT2, ↓o_tupleL, ↓o_tupleB, ↓o_tupleT, ↓o_sumL, ↓o_addT, ↓o_addL, ↓w_chain3, ↓w_zip2, ↓w_enum1, ↓w_parSO, ↓o_inT, ↓o_inL, ↓o_inB, ↓o_repL, ↓o_mulL, ↓o_catL, ↓o_catBL, ↓o_catLB, ↓o_listFL, ↓o_listFB, ↓o_listFT, ↓o_eqNil, ↓o_reprB, ↓o_neLnn, ↓o_neLcn, ↓o_neBnn, ↓o_neBcn, ↓R.wp_ok, ↓w_get2, ↓w_dict0, ↓w_forI, ↓w_dictI, ↓w_putD, ↓w_comp2, ↓w_isi2, ↓w_parOO, ↓w_parOS, ↓w_pop, ↓w_lrange, ↓w_zip3, ↓o_mulT, ↓o_inD, ↓o_ixD, ↓w_callC, ↓w_callCK, ↓w_nest, ↓o_ixN, ↓o_reprN, ↓w_cellM, ↓w_sortSet, ↓w_lenSet, ↓w_enumZ, ↓w_listZip, ↓w_parSOO, ↓e_is_integer, ↓e_is_row, ↓cut4, ↓strOk_group, ↓gv, ↓gvP, ↓strOk_check, ↓el_mulI, ↓bsP_len, ↓nsP_len, ↓lotP_len,
  startE_eq, List.reduceReplicate, Nat.reduceSub, p_name, p_tup, p_tupL, p_cons, p_nil, wipe_nil, wipe_cons, bls_nil, bls_cons, Sim.ints_nil, Sim.ints_cons, List.all_cons, List.all_nil, List.any_cons, List.any_nil, id, Bool.and_true, Bool.true_and, Option.bind_some, perm, List.filterMap_cons_some, List.filterMap_nil, List.filterMap_cons, List.nil_append, List.cons_append, atI_lit, setP_lit, Sim.atI_nat, Nat.reduceLT, Int.cast_ofNat_Int, Int.natCast_zero, Int.natCast_one, Int.reduceEq, Int.reduceToNat, isInt_none, isInt_bool, isInt_int, isInt_str, isInt_list, isInt_tuple, isInt_dict, isInt_bL, isInt_cell, isInt_scr, isBool_none, isBool_bool, isBool_int, isBool_str, isBool_list, isBool_tuple, isBool_dict, isBool_bL, isBool_cell, isBool_scr, isStr_none, isStr_bool, isStr_int, isStr_str, isStr_list, isStr_tuple, isStr_dict, isStr_bL, isStr_cell, isStr_scr, isTup_none, isTup_bool, isTup_int, isTup_str, isTup_list, isTup_tuple, isTup_dict, isTup_bL, isTup_cell, isTup_scr, isLst_none, isLst_bool, isLst_int, isLst_str, isLst_list, isLst_tuple, isLst_dict, isLst_bL, isLst_cell, isLst_scr, isDic_none, isDic_bool, isDic_int, isDic_str, isDic_list, isDic_tuple, isDic_dict, isDic_bL, isDic_cell, isDic_scr, cnd_not, cnd_true, cnd_false, dats, isB_d, isB_cell, isB_scr, isB_bor, noC_d, noC_cell, noC_scr, noC_bor, List.map_cons, List.map_nil, sizeLine, Option.map_some, List.getElem?_cons_zero, List.getElem?_cons_succ, List.set_cons_zero, List.set_cons_succ, Bool.or_false, Bool.false_or, Bool.or_self, Bool.false_eq_true, Bool.not_true, Bool.not_false, decide_true, decide_false, true_and, and_true, and_self, if_true, if_false, reduceIte, Int.reduceLT, Int.reduceLE, Int.reduceNeg, Int.reducePow, Nat.reducePow, List.length_cons, List.length_nil, Nat.reduceAdd, Int.reduceAdd, Int.reduceSub, Int.reduceMul, seqOf_l, seqOf_t, seqOf_b, zipD_len, enumD_len, zipD_cons, zipD_nil, zipD_nil2, fInB_f, fInB_t, flat_int, flat_str, flat_bool, flat_none, atI_m1, atI_m1c, List.length_map, bls_mapB, all_mapT, key_i, key_s, dic_d, dic_b, popHead_c, cellsOf, isB_nest, noC_nest])
local macro_rules | `(tactic| walk_at "call_792ec_12") => `(tactic| refine w_call0 ?hb ?hc; (case hb => exact rfl); first | (with_reducible apply s_want_group; (· assumption)) | (with_reducible apply s_times_of; (· assumption)) | (with_reducible apply s_under_of; (· assumption)) | (with_reducible apply s_power_of; (· assumption); (· (first | assumption | omega))) | (with_reducible apply s_is_el; (· assumption)) | (with_reducible apply s__law_power; (· assumption); (· (first | assumption | omega))) | (with_reducible apply s__law_power1; (· assumption); (· (first | assumption | omega))) | (with_reducible apply s__law_log'; (· assumption)) | (with_reducible apply s_is_below; (· (first | assumption | omega))) | (with_reducible apply s_are_elB; (· assumption); (· (first | assumption | omega)); (· (first | assumption | omega))) | (with_reducible apply s_are_nums; (· (first | assumption | omega)); (· (first | assumption | omega)); (· assumption)) | (with_reducible apply s_is_check_of; (· assumption); (· assumption)) | (with_reducible apply s_is_lot_of; (· assumption); (· assumption)) | (with_reducible apply s_want_lot; (· assumption); (· (first | assumption | omega))))
local macro_rules | `(tactic| walk_at "run_792ec_12") => `(tactic| repeat (first | walk_at "ev_792ec_12" | refine cnd_n (decide_eq_false (by omega)) ?_ | refine cnd_p (decide_eq_true (by omega)) ?_ | refine And.intro (by omega) ?_ | walk_at "call_792ec_12"))
theorem s_faults_of (G : Grp p q gg) {L : List Chk} (C : LotOk q L) (h : Q (.d (.list (faultsP p q gg L))) g) : (fn_faults_of [gv p q gg, .d (.tuple (lotP p gg L))] g).wp Q := by
  have h2 := C.h2
  unfold fn_faults_of
  rw [w_fn]
  unfold m_faults_of
  walk_at "run_792ec_12"
  refine w_compM (F := fun c => .int (el p gg (fx q c) : Nat)) lotP_map (fun a ha => ⟨rfl, _, rfl, ?_⟩) ?_
  · refine w_call0 rfl (s_fault_of G (C.h3 a ha) ?_)
    walk_at "run_792ec_12"
  · walk_at "run_792ec_12"
    exact h
theorem el_eq_one (G : Grp p q gg) {k : Nat} : ((el p gg k : Nat) : Int) = 1 ↔ k % q = 0 := by
  have hq := G.q2
  rw [← el_mod G]
  constructor
  · intro h
    have h1 : el p gg (k % q) = el p gg 0 := by rw [el_zero G]; omega
    exact G.el_inj (Nat.mod_lt _ (by omega)) (by omega) h1
  · intro h
    rw [h, el_zero G]; rfl
/-- the places of the false ones -/
def fpos (q : Nat) (L : List Chk) : List P := ((L.zipIdx).filter fun a => !decide (fx q a.1 % q = 0)).map fun a => .int (a.2 : Nat)
end
section
variable {p q gg : Nat} {g : G} {Q : D → G → Prop} {n k a b c d x i many m : Nat}
local macro_rules | `(tactic| walk_at "ev_792ec_13") => `(tactic| simp only [↓w_C, ↓w_var, ↓w_op, ↓w_un, ↓w_isi, ↓w_b, ↓w_nil, ↓w_cons, ↓w_tup, ↓w_lst, ↓w_not, ↓w_and, ↓w_or, ↓w_ifE, ↓w_chain, ↓w_tv, ↓w_tvAnd, ↓w_tvOr, ↓w_tvNot, ↓w_tvYes, ↓w_call, ↓w_callK, ↓w_sl, ↓w_oNo, ↓w_oSome, ↓w_newCell, ↓w_comp, ↓Sim.w_next, ↓w_seq, ↓w_ret, ↓w_retN, ↓w_never, ↓w_expr, ↓w_if, ↓w_asg, ↓w_own, ↓w_freeze, ↓w_own1, ↓w_par, ↓w_par3, ↓w_asgT, ↓w_tP, ↓w_aug, ↓w_for, ↓w_forNil, ↓w_iSeq, ↓w_range1X, ↓w_range2X, ↓lk_shX, ↓lk_ownX, ↓lk_succ, ↓stop_ap, ↓w_tTup, ↓w_tNil, ↓w_tCons, ↓w_tName, ↓o_add, ↓o_sub, ↓o_addI, ↓o_neg, ↓o_mulX, ↓o_mod, ↓o_div, ↓o_powX, ↓o_lt, ↓o_le, ↓o_gt, ↓o_ge, ↓o_eq, ↓o_ne, ↓o_ixT, ↓o_ixL, ↓o_ixB, ↓o_ixS, ↓o_ixC, ↓o_int, ↓o_abs, ↓o_max2, ↓o_min2, ↓o_lenT, ↓o_lenL, ↓o_lenB, ↓o_lenS, ↓o_divmod, ↓o_slT, ↓o_slL, ↓o_slB, ↓o_repr, ↓o_eqS, ↓o_neS, ↓o_eqB, ↓o_neB, ↓w_forCons, ↓w_compNil, ↓w_compCons, ↓o_allL, ↓o_anyL, ↓o_eqT2, ↓o_neT2, ↓o_tupleL, ↓o_tupleB, ↓o_tupleT, ↓o_sumL, ↓o_addT, ↓o_addL, ↓w_chain3, ↓w_zip2, ↓w_enum1, ↓w_parSO, ↓o_inT, ↓o_inL, ↓o_inB, ↓o_repL, ↓o_mulL, ↓o_catL, ↓o_catBL, ↓o_catLB, ↓o_listFL, ↓o_listFB, ↓o_listFT, ↓o_eqNil, ↓o_reprB, ↓o_neLnn, ↓o_neLcn, ↓o_neBnn, ↓o_neBcn, ↓R.wp_ok, ↓w_get2, ↓w_dict0, ↓w_forI, ↓w_dictI, ↓w_putD, ↓w_comp2, ↓w_isi2, ↓w_parOO, ↓w_parOS, ↓w_pop, ↓w_lrange, ↓w_zip3, ↓o_mulT, ↓o_inD, ↓o_ixD, ↓w_callC, ↓w_callCK, ↓w_nest, ↓o_ixN, ↓o_reprN, ↓w_cellM, ↓w_sortSet, ↓w_lenSet, ↓w_enumZ, ↓w_listZip, ↓w_parSOO, ↓e_is_integer, ↓e_is_row, ↓cut4, ↓strOk_group, ↓gv, ↓gvP, ↓strOk_check, ↓el_mulI, ↓bsP_len, ↓nsP_len, ↓lotP_len,
  startE_eq, List.reduceReplicate, Nat.reduceSub, p_name, p_tup, p_tupL, p_cons, p_nil, wipe_nil, wipe_cons, bls_nil, bls_cons, Sim.ints_nil, Sim.ints_cons, List.all_cons, List.all_nil, List.any_cons, List.any_nil, id, Bool.and_true, Bool.true_and, Option.bind_some, perm, List.filterMap_cons_some, List.filterMap_nil, List.filterMap_cons, List.nil_append, List.cons_append, atI_lit, setP_lit, Sim.atI_nat, Nat.reduceLT, Int.cast_ofNat_Int, Int.natCast_zero, Int.natCast_one, Int.reduceEq, Int.reduceToNat, isInt_none, isInt_bool, isInt_int, isInt_str, isInt_list, isInt_tuple, isInt_dict, isInt_bL, isInt_cell, isInt_scr, isBool_none, isBool_bool, isBool_int, isBool_str, isBool_list, isBool_tuple, isBool_dict, isBool_bL, isBool_cell, isBool_scr, isStr_none, isStr_bool, isStr_int, isStr_str, isStr_list, isStr_tuple, isStr_dict, isStr_bL, isStr_cell, isStr_scr, isTup_none, isTup_bool, isTup_int, isTup_str, isTup_list, isTup_tuple, isTup_dict, isTup_bL, isTup_cell, isTup_scr, isLst_none, isLst_bool, isLst_int, isLst_str, isLst_list, isLst_tuple, isLst_dict, isLst_bL, isLst_cell, isLst_scr, isDic_none, isDic_bool, isDic_int, isDic_str, isDic_list, isDic_tuple, isDic_dict, isDic_bL, isDic_cell, isDic_scr, cnd_not, cnd_true, cnd_false, dats, isB_d, isB_cell, isB_scr, isB_bor, noC_d, noC_cell, noC_scr, noC_bor, List.map_cons, List.map_nil, sizeLine, Option.map_some, List.getElem?_cons_zero, List.getElem?_cons_succ, List.set_cons_zero, List.set_cons_succ, Bool.or_false, Bool.false_or, Bool.or_self, Bool.false_eq_true, Bool.not_true, Bool.not_false, decide_true, decide_false, true_and, and_true, and_self, if_true, if_false, reduceIte, Int.reduceLT, Int.reduceLE, Int.reduceNeg, Int.reducePow, Nat.reducePow, List.length_cons, List.length_nil, Nat.reduceAdd, Int.reduceAdd, Int.reduceSub, Int.reduceMul, seqOf_l, seqOf_t, seqOf_b, zipD_len, enumD_len, zipD_cons, zipD_nil, zipD_nil2, fInB_f, fInB_t, flat_int, flat_str, flat_bool, flat_none, atI_m1, atI_m1c, List.length_map, bls_mapB, all_mapT, key_i, key_s, dic_d, dic_b, popHead_c, cellsOf, isB_nest, noC_nest])
local macro_rules | `(tactic| walk_at "call_792ec_13") => `(tactic| refine w_call0 ?hb ?hc; (case hb => exact rfl); first | (with_reducible apply s_want_group; (· assumption)) | (with_reducible apply s_times_of; (· assumption)) | (with_reducible apply s_under_of; (· assumption)) | (with_reducible apply s_power_of; (· assumption); (· (first | assumption | omega))) | (with_reducible apply s_is_el; (· assumption)) | (with_reducible apply s__law_power; (· assumption); (· (first | assumption | omega))) | (with_reducible apply s__law_power1; (· assumption); (· (first | assumption | omega))) | (with_reducible apply s__law_log'; (· assumption)) | (with_reducible apply s_is_below; (· (first | assumption | omega))) | (with_reducible apply s_are_elB; (· assumption); (· (first | assumption | omega)); (· (first | assumption | omega))) | (with_reducible apply s_are_nums; (· (first | assumption | omega)); (· (first | assumption | omega)); (· assumption)) | (with_reducible apply s_is_check_of; (· assumption); (· assumption)) | (with_reducible apply s_is_lot_of; (· assumption); (· assumption)) | (with_reducible apply s_want_lot; (· assumption); (· (first | assumption | omega))) | (with_reducible apply s_faults_of; (· assumption); (· assumption)))
local macro_rules | `(tactic| walk_at "run_792ec_13") => `(tactic| repeat (first | walk_at "ev_792ec_13" | refine cnd_n (decide_eq_false (by omega)) ?_ | refine cnd_p (decide_eq_true (by omega)) ?_ | refine And.intro (by omega) ?_ | walk_at "call_792ec_13"))
theorem s_batch_of (G : Grp p q gg) {L : List Chk} {pw : List (Nat × Nat)} (C : LotOk q L) (hb : faultsP p q gg L = bsP p gg pw) (hn : ∀ a ∈ pw, a.2 < 1000000) (h : Q (I (el p gg (dotN pw))) g) : (fn_batch_of [gv p q gg, .d (.tuple (lotP p gg L)), .d (.tuple (nsP pw))] g).wp Q := by
  unfold fn_batch_of
  rw [w_fn]
  unfold m_batch_of
  walk_at "run_792ec_13"
  refine w_call0 rfl (s_product_of G hn (.inl (by rw [hb])) ?_)
  walk_at "run_792ec_13"
  exact h
/-- the faults with the weights of the places' powers -/
def pwr (q m : Nat) (o : Nat) (L : List Chk) : List (Nat × Nat) := (L.zipIdx o).map fun a => (fx q a.1, ((a.2 + 1) % q) ^ m % q)
theorem pwr_bs {o : Nat} {L : List Chk} : faultsP p q gg L = bsP p gg (pwr q m o L) := by
  unfold faultsP bsP pwr
  rw [List.map_map]
  induction L generalizing o with
  | nil => rfl
  | cons c L ih =>
    rw [List.zipIdx_cons, List.map_cons, List.map_cons, ih (o := o + 1)]
    rfl
theorem pwr_ns {o : Nat} {L : List Chk} : nsP (pwr q m o L) = (List.range' o L.length).map fun j => .int (((j + 1) % q) ^ m % q : Nat) := by
  unfold nsP pwr
  rw [List.map_map]
  induction L generalizing o with
  | nil => rfl
  | cons c L ih =>
    rw [List.zipIdx_cons, List.map_cons, ih (o := o + 1)]
    rfl
theorem pwr_dot {q m : Nat} (hq : 2 ≤ q) : ∀ {o : Nat} {L : List Chk}, dotN (pwr q m o L) % q = psum m o (L.map fun c => fx q c % q) % q
  | o, [] => rfl
  | o, c :: L => by
    have ih := pwr_dot hq (m := m) (o := o + 1) (L := L)
    unfold pwr at ih ⊢
    rw [List.zipIdx_cons, List.map_cons, List.map_cons]
    unfold dotN at ih ⊢
    simp only [List.map_cons, List.sum_cons, psum]
    rw [Nat.add_mod, ih, Nat.mul_mod, Nat.mod_mod, ← Nat.pow_mod, Nat.add_mod (fx q c % q * (o + 1) ^ m)]
    congr 1
    congr 1
    rw [Nat.mul_mod (fx q c % q), Nat.mod_mod, Nat.mod_mod, Nat.mul_mod_mod]
theorem s_want_weights {L : List Chk} {pw : List (Nat × Nat)} (C : LotOk q L) (hl : pw.length = L.length) (hn : ∀ a ∈ pw, a.2 < q) (h : Q (.d (.tuple (nsP pw))) g) : (fn_want_weights [gv p q gg, .d (.tuple (lotP p gg L)), .d (.tuple (nsP pw))] g).wp Q := by
  have h2 := C.h2
  unfold fn_want_weights
  rw [w_fn]
  unfold m_want_weights
  walk_at "run_792ec_13"
  exact h
theorem s_batch (G : Grp p q gg) {L : List Chk} {pw : List (Nat × Nat)} (C : LotOk q L) (hb : faultsP p q gg L = bsP p gg pw) (hl : pw.length = L.length) (hn : ∀ a ∈ pw, a.2 < q) (h : Q (I (el p gg (dotN pw))) g) : (fn_batch [gv p q gg, .d (.tuple (lotP p gg L)), .d (.tuple (nsP pw))] g).wp Q := by
  have hq := G.q1
  unfold fn_batch
  rw [w_fn]
  unfold m_batch
  walk_at "run_792ec_13"
  refine w_call0 rfl ?_
  unfold fn_want_weighed
  rw [w_fn]
  unfold m_want_weighed
  walk_at "run_792ec_13"
  refine w_call0 rfl (s_want_weights C hl hn ?_)
  walk_at "run_792ec_13"
  refine w_call0 rfl (s_batch_of G C hb (fun a ha => by have := hn a ha; omega) ?_)
  walk_at "run_792ec_13"
  exact h
theorem pwr_len {o : Nat} {L : List Chk} : (pwr q m o L).length = L.length := by unfold pwr; simp
theorem pwr_lt {o : Nat} {L : List Chk} (hq : 2 ≤ q) : ∀ a ∈ pwr q m o L, a.2 < q := fun a ha => by
  unfold pwr at ha
  rw [List.mem_map] at ha
  obtain ⟨b, _, rfl⟩ := ha
  exact Nat.mod_lt _ (by omega)
/-! the law's sums -/
theorem psum_next {fs : List Nat} {j f : Nat} (hc : fs[j]? = some f) : (psum m 0 (fs.take j) % q + f * ((j + 1) ^ m % q)) % q = psum m 0 (fs.take (j + 1)) % q := by
  have hj : j < fs.length := (List.getElem?_eq_some_iff.mp hc).1
  rw [take_snoc2 hc, psum_snoc, List.length_take, Nat.min_eq_left (Nat.le_of_lt hj), Nat.zero_add]
  generalize (j + 1) ^ m = z
  generalize psum m 0 (fs.take j) = y
  rw [Nat.add_mod, Nat.mod_mod, Nat.mul_mod_mod, ← Nat.add_mod]
local macro_rules | `(tactic| walk_at "ev_792ec_14") => `(tactic| simp only [↓w_C, ↓w_var, ↓w_op, ↓w_un, ↓w_isi, ↓w_b, ↓w_nil, ↓w_cons, ↓w_tup, ↓w_lst, ↓w_not, ↓w_and, ↓w_or, ↓w_ifE, ↓w_chain, ↓w_tv, ↓w_tvAnd, ↓w_tvOr, ↓w_tvNot, ↓w_tvYes, ↓w_call, ↓w_callK, ↓w_sl, ↓w_oNo, ↓w_oSome, ↓w_newCell, ↓w_comp, ↓Sim.w_next, ↓w_seq, ↓w_ret, ↓w_retN, ↓w_never, ↓w_expr, ↓w_if, ↓w_asg, ↓w_own, ↓w_freeze, ↓w_own1, ↓w_par, ↓w_par3, ↓w_asgT, ↓w_tP, ↓w_aug, ↓w_for, ↓w_forNil, ↓w_iSeq, ↓w_range1X, ↓w_range2X, ↓lk_shX, ↓lk_ownX, ↓lk_succ, ↓stop_ap, ↓w_tTup, ↓w_tNil, ↓w_tCons, ↓w_tName, ↓o_add, ↓o_sub, ↓o_addI, ↓o_neg, ↓o_mulX, ↓o_mod, ↓o_div, ↓o_powX, ↓o_lt, ↓o_le, ↓o_gt, ↓o_ge, ↓o_eq, ↓o_ne, ↓o_ixT, ↓o_ixL, ↓o_ixB, ↓o_ixS, ↓o_ixC, ↓o_int, ↓o_abs, ↓o_max2, ↓o_min2, ↓o_lenT, ↓o_lenL, ↓o_lenB, ↓o_lenS, ↓o_divmod, ↓o_slT, ↓o_slL, ↓o_slB, ↓o_repr, ↓o_eqS, ↓o_neS, ↓o_eqB, ↓o_neB, ↓w_forCons, ↓w_compNil, ↓w_compCons, ↓o_allL, ↓o_anyL, ↓o_eqT2, ↓o_neT2, ↓o_tupleL, ↓o_tupleB, ↓o_tupleT, ↓o_sumL, ↓o_addT, ↓o_addL, ↓w_chain3, ↓w_zip2, ↓w_enum1, ↓w_parSO, ↓o_inT, ↓o_inL, ↓o_inB, ↓o_repL, ↓o_mulL, ↓o_catL, ↓o_catBL, ↓o_catLB, ↓o_listFL, ↓o_listFB, ↓o_listFT, ↓o_eqNil, ↓o_reprB, ↓o_neLnn, ↓o_neLcn, ↓o_neBnn, ↓o_neBcn, ↓R.wp_ok, ↓w_get2, ↓w_dict0, ↓w_forI, ↓w_dictI, ↓w_putD, ↓w_comp2, ↓w_isi2, ↓w_parOO, ↓w_parOS, ↓w_pop, ↓w_lrange, ↓w_zip3, ↓o_mulT, ↓o_inD, ↓o_ixD, ↓w_callC, ↓w_callCK, ↓w_nest, ↓o_ixN, ↓o_reprN, ↓w_cellM, ↓w_sortSet, ↓w_lenSet, ↓w_enumZ, ↓w_listZip, ↓w_parSOO, ↓e_is_integer, ↓e_is_row, ↓cut4, ↓strOk_group, ↓gv, ↓gvP, ↓strOk_check, ↓el_mulI, ↓bsP_len, ↓nsP_len, ↓lotP_len, ↓ints0_len, ↓Int.toNat_natCast,
  startE_eq, List.reduceReplicate, Nat.reduceSub, p_name, p_tup, p_tupL, p_cons, p_nil, wipe_nil, wipe_cons, bls_nil, bls_cons, Sim.ints_nil, Sim.ints_cons, List.all_cons, List.all_nil, List.any_cons, List.any_nil, id, Bool.and_true, Bool.true_and, Option.bind_some, perm, List.filterMap_cons_some, List.filterMap_nil, List.filterMap_cons, List.nil_append, List.cons_append, atI_lit, setP_lit, Sim.atI_nat, Nat.reduceLT, Int.cast_ofNat_Int, Int.natCast_zero, Int.natCast_one, Int.reduceEq, Int.reduceToNat, isInt_none, isInt_bool, isInt_int, isInt_str, isInt_list, isInt_tuple, isInt_dict, isInt_bL, isInt_cell, isInt_scr, isBool_none, isBool_bool, isBool_int, isBool_str, isBool_list, isBool_tuple, isBool_dict, isBool_bL, isBool_cell, isBool_scr, isStr_none, isStr_bool, isStr_int, isStr_str, isStr_list, isStr_tuple, isStr_dict, isStr_bL, isStr_cell, isStr_scr, isTup_none, isTup_bool, isTup_int, isTup_str, isTup_list, isTup_tuple, isTup_dict, isTup_bL, isTup_cell, isTup_scr, isLst_none, isLst_bool, isLst_int, isLst_str, isLst_list, isLst_tuple, isLst_dict, isLst_bL, isLst_cell, isLst_scr, isDic_none, isDic_bool, isDic_int, isDic_str, isDic_list, isDic_tuple, isDic_dict, isDic_bL, isDic_cell, isDic_scr, cnd_not, cnd_true, cnd_false, dats, isB_d, isB_cell, isB_scr, isB_bor, noC_d, noC_cell, noC_scr, noC_bor, List.map_cons, List.map_nil, sizeLine, Option.map_some, List.getElem?_cons_zero, List.getElem?_cons_succ, List.set_cons_zero, List.set_cons_succ, Bool.or_false, Bool.false_or, Bool.or_self, Bool.false_eq_true, Bool.not_true, Bool.not_false, decide_true, decide_false, true_and, and_true, and_self, if_true, if_false, reduceIte, Int.reduceLT, Int.reduceLE, Int.reduceNeg, Int.reducePow, Nat.reducePow, List.length_cons, List.length_nil, Nat.reduceAdd, Int.reduceAdd, Int.reduceSub, Int.reduceMul, seqOf_l, seqOf_t, seqOf_b, zipD_len, enumD_len, zipD_cons, zipD_nil, zipD_nil2, fInB_f, fInB_t, flat_int, flat_str, flat_bool, flat_none, atI_m1, atI_m1c, List.length_map, bls_mapB, all_mapT, key_i, key_s, dic_d, dic_b, popHead_c, cellsOf, isB_nest, noC_nest])
local macro_rules | `(tactic| walk_at "call_792ec_14") => `(tactic| refine w_call0 ?hb ?hc; (case hb => exact rfl); first | (with_reducible apply s_want_group; (· assumption)) | (with_reducible apply s_times_of; (· assumption)) | (with_reducible apply s_under_of; (· assumption)) | (with_reducible apply s_power_of; (· assumption); (· (first | assumption | omega))) | (with_reducible apply s_is_el; (· assumption)) | (with_reducible apply s__law_power; (· assumption); (· (first | assumption | omega))) | (with_reducible apply s__law_power1; (· assumption); (· (first | assumption | omega))) | (with_reducible apply s__law_log'; (· assumption)) | (with_reducible apply s_is_below; (· (first | assumption | omega))) | (with_reducible apply s_are_elB; (· assumption); (· (first | assumption | omega)); (· (first | assumption | omega))) | (with_reducible apply s_are_nums; (· (first | assumption | omega)); (· (first | assumption | omega)); (· assumption)) | (with_reducible apply s_is_check_of; (· assumption); (· assumption)) | (with_reducible apply s_is_lot_of; (· assumption); (· assumption)) | (with_reducible apply s_want_lot; (· assumption); (· (first | assumption | omega))) | (with_reducible apply s_faults_of; (· assumption); (· assumption)))
local macro_rules | `(tactic| walk_at "run_792ec_14") => `(tactic| repeat (first | walk_at "ev_792ec_14" | refine cnd_n (decide_eq_false (by omega)) ?_ | refine cnd_p (decide_eq_true (by omega)) ?_ | refine And.intro (by omega) ?_ | walk_at "call_792ec_14"))
theorem pow_loop (hq2 : 2 ≤ q) (hq : q ≤ 9973) {j : Nat} {g : Sim.G} {tot : Sl} {s4 s6 : Sl} {Qn : En → Sim.G → Prop} {Qr : D → Sim.G → Prop} {fsl : Sl} (h : ∀ s7, Qn [.sh (gv p q gg), fsl, s4, tot, .sh (.d (.int (j : Nat))), s6, .sh (I ((j + 1) ^ m % q)), s7] g) {s7 : Sl} :
    (forL (pName 7) (sAsg 6 (eOp fMod (eB fInt (aCons (eOp fMulA (eVar 6) (eOp fAdd (eVar 4) (eC (.int 1)))) aNil)) (eOp fIx (eVar 0) (eC (.int 2))))) (ints0 0 m) [.sh (gv p q gg), fsl, s4, tot, .sh (.d (.int (j : Nat))), s6, .sh (.d (.int 1)), s7] g).wp Qn Qr := by
  refine w_forL (fun r e g'' => g'' = g ∧ ∃ s7, e = [.sh (gv p q gg), fsl, s4, tot, .sh (.d (.int (j : Nat))), s6, .sh (I ((j + 1) ^ r % q)), s7]) ⟨rfl, s7, by rw [Nat.pow_zero, show (1 : Nat) % q = 1 from Nat.mod_eq_of_lt (by omega)]; rfl⟩ ?_ ?_
  · rintro r e g'' y hd ⟨rfl, s7, rfl⟩
    obtain ⟨_, rfl⟩ := ints0_get hd
    have hpl : (j + 1) ^ r % q < q := Nat.mod_lt _ (by omega)
    refine ⟨rfl, _, rfl, ?_⟩
    walk_at "run_792ec_14"
    have e3 : ((((j + 1) ^ r % q : Nat) : Int) * ((j : Int) + 1)) % (q : Int) = (((j + 1) ^ (r + 1) % q : Nat) : Int) := by
      rw [show ((j : Int) + 1) = ((j + 1 : Nat) : Int) by omega, ← Int.natCast_mul, ← Int.natCast_emod, Nat.mod_mul_mod, ← Nat.pow_succ]
    rw [e3]
    exact ⟨_, rfl⟩
  · rintro e g'' ⟨rfl, s7, rfl⟩
    rw [ints0_len]
    exact h s7
end
section
variable {p q gg : Nat} {g : G} {Q : D → G → Prop} {n k a b c d x i many m : Nat}
def fl (q : Nat) (L : List Chk) : List Nat := L.map fun c => fx q c % q
theorem fl_lt {L : List Chk} (hq : 2 ≤ q) : ∀ f ∈ fl q L, f < q := fun f hf => by
  unfold fl at hf
  rw [List.mem_map] at hf
  obtain ⟨c, _, rfl⟩ := hf
  exact Nat.mod_lt _ (by omega)
theorem fl_len {L : List Chk} : (fl q L).length = L.length := by unfold fl; simp
/-- the places of the false ones, by the faults -/
theorem fpos_nz {L : List Chk} : fpos q L = (nz 0 (fl q L)).map fun a => .int (a.2 : Nat) := by
  unfold fpos nz fl
  rw [List.zipIdx_map, List.filter_map, List.map_map]
  congr 1
  refine List.filter_congr fun a _ => ?_
  show (!decide (fx q a.1 % q = 0)) = decide (fx q a.1 % q ≠ 0)
  simp
theorem shaped_ints : ∀ {ns : List Int}, SeqAt.shaped (.list (ns.map PyData.int)) = true
  | [] => rfl
  | n :: ns => by
    have h := shaped_ints (ns := ns)
    unfold SeqAt.shaped at h ⊢
    simp only [Bool.and_eq_true, decide_eq_true_eq] at h ⊢
    obtain ⟨h1, h2⟩ := h
    constructor
    · simpa [PyData.canLay0, PyData.canLayAll0] using h1
    · simp [PyData.depth, PyData.depthAll] at h2 ⊢
      omega
theorem eqv_ints : ∀ {ns ms : List Int}, PyData.eqvAll (ns.map PyData.int) (ms.map PyData.int) = decide (ns = ms)
  | [], [] => rfl
  | [], _ :: _ => rfl
  | _ :: _, [] => rfl
  | n :: ns, m :: ms => by
    show (PyData.eqv (.int n) (.int m) && PyData.eqvAll (ns.map PyData.int) (ms.map PyData.int)) = _
    rw [eqv_ints]
    have : PyData.eqv (.int n) (.int m) = decide (n = m) := by rw [eqv_int]
    rw [this, Bool.eq_iff_iff]
    simp
theorem o_neLI {ns ms : List Int} : (fNe (.d (.list (ns.map PyData.int))) (.d (.list (ms.map PyData.int))) g).wp Q = Q (.d (.bool (!decide (ns = ms)))) g := by
  rw [o_neG]
  simp only [shaped_ints, and_self, true_and]
  show Q (D.d (.bool (!PyData.eqvAll _ _))) g = _
  rw [eqv_ints]
theorem o_eqLI {ns ms : List Int} : (fEq (.d (.list (ns.map PyData.int))) (.d (.list (ms.map PyData.int))) g).wp Q = Q (.d (.bool (decide (ns = ms)))) g := by
  rw [o_eqG]
  simp only [shaped_ints, and_self, true_and]
  show Q (D.d (.bool (PyData.eqvAll _ _))) g = _
  rw [eqv_ints]
/-- the sum's element -/
def sx (q : Nat) (L : List Chk) (m : Nat) : Nat := psum m 0 (fl q L) % q
theorem sx_el (G : Grp p q gg) {L : List Chk} : el p gg (dotN (pwr q m 0 L)) = el p gg (sx q L m) := by
  rw [← el_mod G (dotN _), pwr_dot G.q2]
  rfl
def sumsP (p q gg : Nat) (L : List Chk) (n : Nat) : List P := (List.range n).map fun m => .int (el p gg (sx q L m) : Nat)
theorem ones_iff (G : Grp p q gg) {L : List Chk} : (((el p gg (sx q L m) : Nat) : Int) = 1) ↔ sx q L m = 0 := by
  rw [el_eq_one G]
  unfold sx
  rw [Nat.mod_mod]
end
section
variable {p q gg : Nat} {g : G} {Q : D → G → Prop} {n k a b c d x i many m : Nat}
def withC (f : Nat) : Chk := ⟨[(1, f)], 0⟩
theorem withC_P (G : Grp p q gg) {f : Nat} : chkP p gg (withC f) = .tuple [.str kCheck, .tuple [.int (gg : Nat)], .tuple [.int (f : Nat)], .int 1] := by
  unfold chkP withC bsP nsP
  simp only [List.map_cons, List.map_nil, el_one G, el_zero G]
  rfl
theorem withC_fx {f : Nat} : fx q (withC f) = f := by
  unfold fx withC dotN
  simp
theorem withC_ok {fs : List Nat} (h1 : 1 ≤ fs.length) (h2 : fs.length ≤ 16) (hf : ∀ f ∈ fs, f < q) : LotOk q (fs.map withC) := ⟨by simpa using h1, by simpa using h2, fun c hc => by
  rw [List.mem_map] at hc
  obtain ⟨f, hf', rfl⟩ := hc
  exact ⟨by unfold withC; simp, by unfold withC; simp, fun a ha => by
    unfold withC at ha
    rw [List.mem_singleton] at ha
    subst ha
    exact hf f hf'⟩⟩
theorem withC_fl {fs : List Nat} (hf : ∀ f ∈ fs, f < q) : fl q (fs.map withC) = fs := by
  unfold fl
  rw [List.map_map]
  conv => rhs; rw [← List.map_id fs]
  refine List.map_congr_left fun f h => ?_
  show fx q (withC f) % q = f
  rw [withC_fx, Nat.mod_eq_of_lt (hf f h)]
/-- a window of b counts that ends at a, around the ring -/
def win (q b : Nat) (c : Nat → Nat) (a : Int) : Nat := sumR b fun k => c (((a - (k : Nat)) % (q : Int)).toNat)
theorem win_next {q b : Nat} {c : Nat → Nat} {a : Int} : win q (b + 1) c (a + 1) + c (((a - b) % (q : Int)).toNat) = win q (b + 1) c a + c (((a + 1) % (q : Int)).toNat) := by
  unfold win
  rw [sumR_head, sumR_succ]
  have e : (fun k : Nat => c (((a + 1 - ((k + 1 : Nat) : Int)) % (q : Int)).toNat)) = fun k : Nat => c (((a - (k : Nat)) % (q : Int)).toNat) := by
    funext k
    rw [show a + 1 - ((k + 1 : Nat) : Int) = a - (k : Nat) by omega]
  rw [e, show a + 1 - ((0 : Nat) : Int) = a + 1 by omega]
  omega
def ringP (q : Nat) (c : Nat → Nat) : List P := (List.range q).map fun i => .int (c i : Nat)
theorem ringP_len {c : Nat → Nat} : (ringP q c).length = q := by unfold ringP; simp
theorem ringP_get {c : Nat → Nat} {j : Nat} (h : j < q) : (ringP q c)[j]? = some (.int (c j : Nat)) := by
  unfold ringP; rw [List.getElem?_map, List.getElem?_range h]; rfl
theorem ring_ix {c : Nat → Nat} {a : Int} (hq : 0 < q) : 0 ≤ a % (q : Int) ∧ (a % (q : Int)).toNat < q ∧ (ringP q c)[(a % (q : Int)).toNat]? = some (.int (c (a % (q : Int)).toNat : Nat)) := by
  have h1 : 0 ≤ a % (q : Int) := Int.emod_nonneg _ (by omega)
  have h2 : a % (q : Int) < q := Int.emod_lt_of_pos _ (by omega)
  exact ⟨h1, by omega, ringP_get (by omega)⟩
theorem ringP_snoc {c : Nat → Nat} {j : Nat} : ringP (j + 1) c = ringP j c ++ [.int (c j : Nat)] := by
  unfold ringP; rw [List.range_succ, List.map_append]; rfl
theorem ring_at {c : Nat → Nat} {a : Int} (hq : 0 < q) : atI (ringP q c) (a % (q : Int)) = some (.int (c (a % (q : Int)).toNat : Nat)) := by
  obtain ⟨h1, h2, h3⟩ := ring_ix (q := q) (c := c) (a := a) hq
  conv => lhs; rw [← Int.toNat_of_nonneg h1]
  rw [Sim.atI_nat]
  exact h3
theorem sum_natI {F : Nat → Nat} {b : Nat} : (((List.range b).map fun i : Nat => ((F i : Nat) : Int))).sum = ((sumR b F : Nat) : Int) := by
  unfold sumR
  induction List.range b with
  | nil => rfl
  | cons a l ih => rw [List.map_cons, List.sum_cons, ih, List.map_cons, List.sum_cons, Int.natCast_add]
end
section
variable {p q gg : Nat} {g : G} {Q : D → G → Prop} {n k a b c d x i many m : Nat}
theorem ringP_set {c : Nat → Nat} {r v : Nat} : (ringP q c).set r (.int (v : Nat)) = ringP q fun k => if k = r then v else c k := by
  unfold ringP
  apply List.ext_getElem?
  intro j
  rw [List.getElem?_set, List.getElem?_map, List.getElem?_map]
  by_cases hj : j < q
  · rw [List.getElem?_range hj]
    by_cases e : r = j
    · subst e
      rw [if_pos rfl, if_pos (by simpa using hj)]
      simp
    · rw [if_neg e]
      simp [Ne.symm e]
  · rw [List.getElem?_eq_none (l := List.range q) (by simpa using hj)]
    by_cases e : r = j
    · subst e
      rw [if_pos rfl, if_neg (by simpa using hj)]; rfl
    · rw [if_neg e]; rfl
theorem ringP_congr {c d : Nat → Nat} (h : ∀ r, r < q → c r = d r) : ringP q c = ringP q d := by
  unfold ringP
  refine List.map_congr_left fun r hr => ?_
  rw [h r (List.mem_range.mp hr)]
theorem ring_all {q l r : Nat} (hq : PrimeN q) (h0 : 0 < l) (h1 : l < q) (hr : r < q) : ∃ i, i < q ∧ i * l % q = r := by
  obtain ⟨x, y, h⟩ := bezout l q
  rw [hq.gcd h0 h1] at h
  have hq0 : (0 : Int) < q := by omega
  refine ⟨((r * x) % (q : Int)).toNat, ?_, ?_⟩
  · have := Int.emod_lt_of_pos (r * x) hq0
    have := Int.emod_nonneg (r * x) (show (q : Int) ≠ 0 by omega)
    omega
  · have e : (((((r : Int) * x) % (q : Int)).toNat : Nat) : Int) = r * x - q * ((r * x) / q) := by
      rw [Int.toNat_of_nonneg (Int.emod_nonneg _ (by omega)), Int.emod_def]
    have key : ((((r : Int) * x) % (q : Int)).toNat * l) % q = r % q := by
      rw [cgI, Int.natCast_mul, e]
      refine ⟨- r * y - ((r * x) / q) * l, ?_⟩
      have h2 : (l : Int) * x + q * y = 1 := h
      grind
    rw [key, Nat.mod_eq_of_lt hr]
theorem rep_ring : (List.replicate q [PyData.int 0]).flatten = ringP q fun _ => 0 := by
  rw [rep_one]
  unfold ringP
  rw [List.map_const', List.length_range]; rfl
def fxs (q : Nat) (L : List Chk) : List Nat := L.map (fx q)
theorem s_log_ofM (G : Grp p q gg) (h : Q (I (k % q)) g) : (fn_log_of [gv p q gg, I (el p gg k)] g).wp Q := by
  rw [← el_mod G]
  exact s_log_of G (Nat.mod_lt _ (by have := G.q2; omega)) h
/-- is a check false -/
def isF (q : Nat) (L : List Chk) : Bool := L.any fun c => !decide (fx q c % q = 0)
end
/-! ### false checks found by halves -/
section
variable {p q gg : Nat} {g : G} {Q : D → G → Prop} {n k a b c d x i many m : Nat}
def askN (P : Nat → Nat → Bool) : Nat → Nat → Nat → List (Nat × Nat × Bool)
  | 0, _, _ => []
  | k + 1, f, e => (f, e, P f e) :: (if P f e = false ∧ 1 < e - f then askN P k f (f + (e - f + 1) / 2) ++ askN P k (f + (e - f + 1) / 2) e else [])
theorem ask_more {P : Nat → Nat → Bool} : ∀ (k f e : Nat), f < e → e - f ≤ k → askN P (k + 1) f e = askN P k f e
  | 0, f, e, h1, h2 => by omega
  | k + 1, f, e, h1, h2 => by
    show _ :: (if _ then _ else _) = _ :: (if _ then _ else _)
    by_cases h3 : P f e = false ∧ 1 < e - f
    · rw [if_pos h3, if_pos h3, ask_more k f _ (by omega) (by omega), ask_more k _ e (by omega) (by omega)]
    · rw [if_neg h3, if_neg h3]
def ask (P : Nat → Nat → Bool) (f e : Nat) : List (Nat × Nat × Bool) := askN P 16 f e
theorem ask_eq {P : Nat → Nat → Bool} {f e : Nat} (h1 : f < e) (h2 : e - f ≤ 16) : ask P f e = (f, e, P f e) :: (if P f e = false ∧ 1 < e - f then ask P f (f + (e - f + 1) / 2) ++ ask P (f + (e - f + 1) / 2) e else []) := by
  unfold ask
  show _ :: (if _ then _ else _) = _ :: (if _ then _ else _)
  by_cases h3 : P f e = false ∧ 1 < e - f
  · rw [if_pos h3, if_pos h3, ask_more 15 f _ (by omega) (by omega), ask_more 15 _ e (by omega) (by omega)]
  · rw [if_neg h3, if_neg h3]
def askP (l : List (Nat × Nat × Bool)) : List P := l.map fun a => .tuple [.int (a.1 : Nat), .int (a.2.1 : Nat), .bool a.2.2]
def lateP (l : List (Nat × Nat)) : List P := l.map fun a => .tuple [.int (a.1 : Nat), .int (a.2 : Nat)]
def lateA (P : Nat → Nat → Bool) (l : List (Nat × Nat)) : List (Nat × Nat × Bool) := l.reverse.flatMap fun a => ask P a.1 a.2
def lateM (l : List (Nat × Nat)) : Nat := (l.map fun a => 2 * (a.2 - a.1) - 1).sum
theorem lateM_app {l m : List (Nat × Nat)} : lateM (l ++ m) = lateM l + lateM m := by unfold lateM; rw [List.map_append, List.sum_append]
theorem lateM_len : ∀ {l : List (Nat × Nat)}, (∀ a ∈ l, a.1 < a.2) → l.length ≤ lateM l
  | [], _ => Nat.le_refl _
  | a :: l, h => by
    have h1 := h a List.mem_cons_self
    have h2 := lateM_len (l := l) fun b hb => h b (List.mem_cons_of_mem _ hb)
    unfold lateM at h2 ⊢
    rw [List.map_cons, List.sum_cons, List.length_cons]; omega
theorem late_shaped {l : List (Nat × Nat)} : SeqAt.shaped (.list (lateP l)) = true := by
  have key : PyData.canLayAll0 (lateP l) = true ∧ PyData.depthAll (lateP l) ≤ 1 := by
    unfold lateP
    induction l with
    | nil => exact ⟨rfl, by decide⟩
    | cons a l ih => exact ⟨by show (true && PyData.canLayAll0 _) = true; rw [ih.1]; rfl, by show max 1 (PyData.depthAll _) ≤ 1; have := ih.2; omega⟩
  unfold SeqAt.shaped
  rw [Bool.and_eq_true, decide_eq_true_eq]
  exact ⟨key.1, by show PyData.depthAll _ + 1 ≤ 64; have := key.2; omega⟩
/-- the faults' exponents with their weights -/
def bw (q : Nat) (L : List Chk) (ws : List Nat) : List (Nat × Nat) := (L.map (fx q)).zip ws
theorem bw_bs {L : List Chk} {ws : List Nat} (h : ws.length = L.length) : faultsP p q gg L = bsP p gg (bw q L ws) := by
  unfold faultsP bsP bw
  have e : L.map (fun c => PyData.int (el p gg (fx q c) : Nat)) = (L.map (fx q)).map fun f => PyData.int (el p gg f : Nat) := by rw [List.map_map]; rfl
  rw [e]
  conv => lhs; rw [← List.map_fst_zip (l₁ := L.map (fx q)) (l₂ := ws) (by rw [List.length_map]; omega)]
  rw [List.map_map]; rfl
theorem bw_ns {L : List Chk} {ws : List Nat} (h : ws.length = L.length) : nsP (bw q L ws) = ws.map fun w => .int (w : Nat) := by
  unfold nsP bw
  conv => rhs; rw [← List.map_snd_zip (l₁ := L.map (fx q)) (l₂ := ws) (by rw [List.length_map]; omega)]
  rw [List.map_map]; rfl
theorem bw_len {L : List Chk} {ws : List Nat} (h : ws.length = L.length) : (bw q L ws).length = L.length := by
  unfold bw; rw [List.length_zip, List.length_map]; omega
theorem bw_lt {L : List Chk} {ws : List Nat} (h : ∀ w ∈ ws, w < q) : ∀ a ∈ bw q L ws, a.2 < q := fun a ha => h _ (List.of_mem_zip ha).2
def cutN {α : Type} (l : List α) (f e : Nat) : List α := (l.take e).drop f
theorem bw_cut {L : List Chk} {ws : List Nat} {f e : Nat} : bw q (cutN L f e) (cutN ws f e) = cutN (bw q L ws) f e := by
  unfold bw cutN
  simp only [List.zip, List.take_zipWith, List.drop_zipWith, List.map_take, List.map_drop]
def passB (q : Nat) (L : List Chk) (ws : List Nat) (f e : Nat) : Bool := decide (dotN (cutN (bw q L ws) f e) % q = 0)
theorem cut_both {xs : List P} {a b : Nat} : cutP xs (some (a : Int)) (some (b : Int)) = (xs.take b).drop a := by
  unfold cutP
  rw [HT.sIx_nat, HT.sIx_nat, List.drop_take]
  rcases Nat.le_total a xs.length with h1 | h1
  · rw [Nat.min_eq_left h1]
    rcases Nat.le_total b xs.length with h2 | h2
    · rw [Nat.min_eq_left h2]
    · rw [Nat.min_eq_right h2, List.take_of_length_le (by rw [List.length_drop]; omega), List.take_of_length_le (by rw [List.length_drop]; omega)]
  · rw [Nat.min_eq_right h1, List.drop_length, List.drop_of_length_le h1, List.take_nil, List.take_nil]
theorem cutN_len {α : Type} {l : List α} {f e : Nat} (h : e ≤ l.length) : (cutN l f e).length = e - f := by
  unfold cutN; rw [List.length_drop, List.length_take]; omega
theorem cutN_mem {α : Type} {l : List α} {f e : Nat} {x : α} (h : x ∈ cutN l f e) : x ∈ l := List.mem_of_mem_take (List.mem_of_mem_drop h)
theorem o_neLate {l : List (Nat × Nat)} : (fNe (.bor (.list (lateP l))) (.d (.list [])) g).wp Q = Q (.d (.bool (!l.isEmpty))) g := by
  rw [o_neBG]
  have h0 : SeqAt.shaped (.list []) = true := rfl
  simp only [late_shaped, h0, and_self, true_and]
  cases l <;> rfl
/-- weights of a lot -/
local macro_rules | `(tactic| walk_at "ev_792ec_15") => `(tactic| simp only [↓w_C, ↓w_var, ↓w_op, ↓w_un, ↓w_isi, ↓w_b, ↓w_nil, ↓w_cons, ↓w_tup, ↓w_lst, ↓w_not, ↓w_and, ↓w_or, ↓w_ifE, ↓w_chain, ↓w_tv, ↓w_tvAnd, ↓w_tvOr, ↓w_tvNot, ↓w_tvYes, ↓w_call, ↓w_callK, ↓w_sl, ↓w_oNo, ↓w_oSome, ↓w_newCell, ↓w_comp, ↓Sim.w_next, ↓w_seq, ↓w_ret, ↓w_retN, ↓w_never, ↓w_expr, ↓w_if, ↓w_asg, ↓w_own, ↓w_freeze, ↓w_own1, ↓w_par, ↓w_par3, ↓w_asgT, ↓w_tP, ↓w_aug, ↓w_for, ↓w_forNil, ↓w_iSeq, ↓w_range1X, ↓w_range2X, ↓lk_shX, ↓lk_ownX, ↓lk_succ, ↓stop_ap, ↓w_tTup, ↓w_tNil, ↓w_tCons, ↓w_tName, ↓o_add, ↓o_sub, ↓o_addI, ↓o_neg, ↓o_mulX, ↓o_mod, ↓o_div, ↓o_powX, ↓o_lt, ↓o_le, ↓o_gt, ↓o_ge, ↓o_eq, ↓o_ne, ↓o_ixT, ↓o_ixL, ↓o_ixB, ↓o_ixS, ↓o_ixC, ↓o_int, ↓o_abs, ↓o_max2, ↓o_min2, ↓o_lenT, ↓o_lenL, ↓o_lenB, ↓o_lenS, ↓o_divmod, ↓o_slT, ↓o_slL, ↓o_slB, ↓o_repr, ↓o_eqS, ↓o_neS, ↓o_eqB, ↓o_neB, ↓w_forCons, ↓w_compNil, ↓w_compCons, ↓o_allL, ↓o_anyL, ↓o_eqT2, ↓o_neT2, ↓o_tupleL, ↓o_tupleB, ↓o_tupleT, ↓o_sumL, ↓o_addT, ↓o_addL, ↓w_chain3, ↓w_zip2, ↓w_enum1, ↓w_parSO, ↓o_inT, ↓o_inL, ↓o_inB, ↓o_repL, ↓o_mulL, ↓o_catL, ↓o_catBL, ↓o_catLB, ↓o_listFL, ↓o_listFB, ↓o_listFT, ↓o_eqNil, ↓o_reprB, ↓o_neLnn, ↓o_neLcn, ↓o_neBnn, ↓o_neBcn, ↓R.wp_ok, ↓w_get2, ↓w_dict0, ↓w_forI, ↓w_dictI, ↓w_putD, ↓w_comp2, ↓w_isi2, ↓w_parOO, ↓w_parOS, ↓w_pop, ↓w_lrange, ↓w_zip3, ↓o_mulT, ↓o_inD, ↓o_ixD, ↓w_callC, ↓w_callCK, ↓w_nest, ↓o_ixN, ↓o_reprN, ↓w_cellM, ↓w_sortSet, ↓w_lenSet, ↓w_enumZ, ↓w_listZip, ↓w_parSOO, ↓e_is_integer, ↓e_is_row, ↓cut4, ↓strOk_group, ↓gv, ↓gvP, ↓strOk_check, ↓el_mulI, ↓bsP_len, ↓nsP_len, ↓lotP_len, ↓ints0_len, ↓Int.toNat_natCast, ↓ringP_len,
  startE_eq, List.reduceReplicate, Nat.reduceSub, p_name, p_tup, p_tupL, p_cons, p_nil, wipe_nil, wipe_cons, bls_nil, bls_cons, Sim.ints_nil, Sim.ints_cons, List.all_cons, List.all_nil, List.any_cons, List.any_nil, id, Bool.and_true, Bool.true_and, Option.bind_some, perm, List.filterMap_cons_some, List.filterMap_nil, List.filterMap_cons, List.nil_append, List.cons_append, atI_lit, setP_lit, Sim.atI_nat, Nat.reduceLT, Int.cast_ofNat_Int, Int.natCast_zero, Int.natCast_one, Int.reduceEq, Int.reduceToNat, isInt_none, isInt_bool, isInt_int, isInt_str, isInt_list, isInt_tuple, isInt_dict, isInt_bL, isInt_cell, isInt_scr, isBool_none, isBool_bool, isBool_int, isBool_str, isBool_list, isBool_tuple, isBool_dict, isBool_bL, isBool_cell, isBool_scr, isStr_none, isStr_bool, isStr_int, isStr_str, isStr_list, isStr_tuple, isStr_dict, isStr_bL, isStr_cell, isStr_scr, isTup_none, isTup_bool, isTup_int, isTup_str, isTup_list, isTup_tuple, isTup_dict, isTup_bL, isTup_cell, isTup_scr, isLst_none, isLst_bool, isLst_int, isLst_str, isLst_list, isLst_tuple, isLst_dict, isLst_bL, isLst_cell, isLst_scr, isDic_none, isDic_bool, isDic_int, isDic_str, isDic_list, isDic_tuple, isDic_dict, isDic_bL, isDic_cell, isDic_scr, cnd_not, cnd_true, cnd_false, dats, isB_d, isB_cell, isB_scr, isB_bor, noC_d, noC_cell, noC_scr, noC_bor, List.map_cons, List.map_nil, sizeLine, Option.map_some, List.getElem?_cons_zero, List.getElem?_cons_succ, List.set_cons_zero, List.set_cons_succ, Bool.or_false, Bool.false_or, Bool.or_self, Bool.false_eq_true, Bool.not_true, Bool.not_false, decide_true, decide_false, true_and, and_true, and_self, if_true, if_false, reduceIte, Int.reduceLT, Int.reduceLE, Int.reduceNeg, Int.reducePow, Nat.reducePow, List.length_cons, List.length_nil, Nat.reduceAdd, Int.reduceAdd, Int.reduceSub, Int.reduceMul, seqOf_l, seqOf_t, seqOf_b, zipD_len, enumD_len, zipD_cons, zipD_nil, zipD_nil2, fInB_f, fInB_t, flat_int, flat_str, flat_bool, flat_none, atI_m1, atI_m1c, List.length_map, bls_mapB, all_mapT, key_i, key_s, dic_d, dic_b, popHead_c, cellsOf, isB_nest, noC_nest])
local macro_rules | `(tactic| walk_at "call_792ec_15") => `(tactic| refine w_call0 ?hb ?hc; (case hb => exact rfl); first | (with_reducible apply s_want_group; (· assumption)) | (with_reducible apply s_times_of; (· assumption)) | (with_reducible apply s_under_of; (· assumption)) | (with_reducible apply s_power_of; (· assumption); (· (first | assumption | omega))) | (with_reducible apply s_is_el; (· assumption)) | (with_reducible apply s__law_power; (· assumption); (· (first | assumption | omega))) | (with_reducible apply s__law_power1; (· assumption); (· (first | assumption | omega))) | (with_reducible apply s__law_log'; (· assumption)) | (with_reducible apply s_is_below; (· (first | assumption | omega))) | (with_reducible apply s_are_elB; (· assumption); (· (first | assumption | omega)); (· (first | assumption | omega))) | (with_reducible apply s_are_nums; (· (first | assumption | omega)); (· (first | assumption | omega)); (· assumption)) | (with_reducible apply s_is_check_of; (· assumption); (· assumption)) | (with_reducible apply s_is_lot_of; (· assumption); (· assumption)) | (with_reducible apply s_want_lot; (· assumption); (· (first | assumption | omega))) | (with_reducible apply s_faults_of; (· assumption); (· assumption)))
local macro_rules | `(tactic| walk_at "run_792ec_15") => `(tactic| repeat (first | walk_at "ev_792ec_15" | refine cnd_n (decide_eq_false (by omega)) ?_ | refine cnd_p (decide_eq_true (by omega)) ?_ | refine And.intro (by omega) ?_ | walk_at "call_792ec_15"))
theorem s_want_weighed (G : Grp p q gg) {L : List Chk} {ws : List Nat} (C : LotOk q L) (hl : ws.length = L.length) (hw : ∀ w ∈ ws, w < q) (h : Q (.d .none) g) : (fn_want_weighed [gv p q gg, .d (.tuple (lotP p gg L)), .d (.tuple (ws.map fun w => .int (w : Nat)))] g).wp Q := by
  rw [← bw_ns (q := q) hl]
  unfold fn_want_weighed
  rw [w_fn]
  unfold m_want_weighed
  walk_at "run_792ec_15"
  refine w_call0 rfl (s_want_weights C (bw_len hl) (bw_lt hw) ?_)
  walk_at "run_792ec_15"
  exact h
def foundN (l : List (Nat × Nat × Bool)) : List Nat := (l.filter fun a => !a.2.2 && decide (a.2.1 - a.1 = 1)).map (·.1)
theorem ask_ok {P : Nat → Nat → Bool} : ∀ (k f e : Nat), f < e → ∀ a ∈ askN P k f e, a.1 < a.2.1 ∧ f ≤ a.1 ∧ a.2.1 ≤ e
  | 0, f, e, h, a, ha => nomatch ha
  | k + 1, f, e, h, a, ha => by
    rcases List.mem_cons.mp ha with rfl | ha
    · exact ⟨h, Nat.le_refl _, Nat.le_refl _⟩
    · by_cases h3 : P f e = false ∧ 1 < e - f
      · rw [if_pos h3] at ha
        rcases List.mem_append.mp ha with ha | ha
        · have := ask_ok k f _ (by omega) a ha
          omega
        · have := ask_ok k _ e (by omega) a ha
          omega
      · rw [if_neg h3] at ha; exact nomatch ha
theorem ask_len {P : Nat → Nat → Bool} : ∀ (k f e : Nat), f < e → (askN P k f e).length ≤ 2 * (e - f) - 1
  | 0, f, e, h => Nat.zero_le _
  | k + 1, f, e, h => by
    show (_ :: (if _ then _ else _)).length ≤ _
    rw [List.length_cons]
    by_cases h3 : P f e = false ∧ 1 < e - f
    · have h4 := ask_len (P := P) k f (f + (e - f + 1) / 2) (by omega)
      have h5 := ask_len (P := P) k (f + (e - f + 1) / 2) e (by omega)
      rw [if_pos h3, List.length_append]; omega
    · rw [if_neg h3]; show 0 + 1 ≤ _; omega
def missB (q : Nat) (L : List Chk) (a : Nat × Nat × Bool) : Bool := a.2.2 && isF q (cutN L a.1 a.2.1)
def missP : Option (Nat × Nat × Bool) → P
  | some a => .tuple [.int (a.1 : Nat), .int (a.2.1 : Nat)]
  | none => .none
end
/-! ### merged lots of one base, the only weight -/
section
variable {p q gg : Nat} {g : G} {Q : D → G → Prop} {n k a b c d x i many m : Nat}
local macro_rules | `(tactic| walk_at "ev_792ec_16") => `(tactic| simp only [↓w_C, ↓w_var, ↓w_op, ↓w_un, ↓w_isi, ↓w_b, ↓w_nil, ↓w_cons, ↓w_tup, ↓w_lst, ↓w_not, ↓w_and, ↓w_or, ↓w_ifE, ↓w_chain, ↓w_tv, ↓w_tvAnd, ↓w_tvOr, ↓w_tvNot, ↓w_tvYes, ↓w_call, ↓w_callK, ↓w_sl, ↓w_oNo, ↓w_oSome, ↓w_newCell, ↓w_comp, ↓Sim.w_next, ↓w_seq, ↓w_ret, ↓w_retN, ↓w_never, ↓w_expr, ↓w_if, ↓w_asg, ↓w_own, ↓w_freeze, ↓w_own1, ↓w_par, ↓w_par3, ↓w_asgT, ↓w_tP, ↓w_aug, ↓w_for, ↓w_forNil, ↓w_iSeq, ↓w_range1X, ↓w_range2X, ↓lk_shX, ↓lk_ownX, ↓lk_succ, ↓stop_ap, ↓w_tTup, ↓w_tNil, ↓w_tCons, ↓w_tName, ↓o_add, ↓o_sub, ↓o_addI, ↓o_neg, ↓o_mulX, ↓o_mod, ↓o_div, ↓o_powX, ↓o_lt, ↓o_le, ↓o_gt, ↓o_ge, ↓o_eq, ↓o_ne, ↓o_ixT, ↓o_ixL, ↓o_ixB, ↓o_ixS, ↓o_ixC, ↓o_int, ↓o_abs, ↓o_max2, ↓o_min2, ↓o_lenT, ↓o_lenL, ↓o_lenB, ↓o_lenS, ↓o_divmod, ↓o_slT, ↓o_slL, ↓o_slB, ↓o_repr, ↓o_eqS, ↓o_neS, ↓o_eqB, ↓o_neB, ↓w_forCons, ↓w_compNil, ↓w_compCons, ↓o_allL, ↓o_anyL, ↓o_eqT2, ↓o_neT2, ↓o_tupleL, ↓o_tupleB, ↓o_tupleT, ↓o_sumL, ↓o_addT, ↓o_addL, ↓w_chain3, ↓w_zip2, ↓w_enum1, ↓w_parSO, ↓o_inT, ↓o_inL, ↓o_inB, ↓o_repL, ↓o_mulL, ↓o_catL, ↓o_catBL, ↓o_catLB, ↓o_listFL, ↓o_listFB, ↓o_listFT, ↓o_eqNil, ↓o_reprB, ↓o_neLnn, ↓o_neLcn, ↓o_neBnn, ↓o_neBcn, ↓R.wp_ok, ↓w_get2, ↓w_dict0, ↓w_forI, ↓w_dictI, ↓w_putD, ↓w_comp2, ↓w_isi2, ↓w_parOO, ↓w_parOS, ↓w_pop, ↓w_lrange, ↓w_zip3, ↓o_mulT, ↓o_inD, ↓o_ixD, ↓w_callC, ↓w_callCK, ↓w_nest, ↓o_ixN, ↓o_reprN, ↓w_cellM, ↓w_sortSet, ↓w_lenSet, ↓w_enumZ, ↓w_listZip, ↓w_parSOO, ↓e_is_integer, ↓e_is_row, ↓cut4, ↓strOk_group, ↓gv, ↓gvP, ↓strOk_check, ↓el_mulI, ↓bsP_len, ↓nsP_len, ↓lotP_len, ↓ints0_len, ↓Int.toNat_natCast, ↓ringP_len, ↓o_isNd, ↓o_notNd, ↓o_isBB, ↓o_notBB,
  startE_eq, List.reduceReplicate, Nat.reduceSub, p_name, p_tup, p_tupL, p_cons, p_nil, wipe_nil, wipe_cons, bls_nil, bls_cons, Sim.ints_nil, Sim.ints_cons, List.all_cons, List.all_nil, List.any_cons, List.any_nil, id, Bool.and_true, Bool.true_and, Option.bind_some, perm, List.filterMap_cons_some, List.filterMap_nil, List.filterMap_cons, List.nil_append, List.cons_append, atI_lit, setP_lit, Sim.atI_nat, Nat.reduceLT, Int.cast_ofNat_Int, Int.natCast_zero, Int.natCast_one, Int.reduceEq, Int.reduceToNat, isInt_none, isInt_bool, isInt_int, isInt_str, isInt_list, isInt_tuple, isInt_dict, isInt_bL, isInt_cell, isInt_scr, isBool_none, isBool_bool, isBool_int, isBool_str, isBool_list, isBool_tuple, isBool_dict, isBool_bL, isBool_cell, isBool_scr, isStr_none, isStr_bool, isStr_int, isStr_str, isStr_list, isStr_tuple, isStr_dict, isStr_bL, isStr_cell, isStr_scr, isTup_none, isTup_bool, isTup_int, isTup_str, isTup_list, isTup_tuple, isTup_dict, isTup_bL, isTup_cell, isTup_scr, isLst_none, isLst_bool, isLst_int, isLst_str, isLst_list, isLst_tuple, isLst_dict, isLst_bL, isLst_cell, isLst_scr, isDic_none, isDic_bool, isDic_int, isDic_str, isDic_list, isDic_tuple, isDic_dict, isDic_bL, isDic_cell, isDic_scr, cnd_not, cnd_true, cnd_false, dats, isB_d, isB_cell, isB_scr, isB_bor, noC_d, noC_cell, noC_scr, noC_bor, List.map_cons, List.map_nil, sizeLine, Option.map_some, List.getElem?_cons_zero, List.getElem?_cons_succ, List.set_cons_zero, List.set_cons_succ, Bool.or_false, Bool.false_or, Bool.or_self, Bool.false_eq_true, Bool.not_true, Bool.not_false, decide_true, decide_false, true_and, and_true, and_self, if_true, if_false, reduceIte, Int.reduceLT, Int.reduceLE, Int.reduceNeg, Int.reducePow, Nat.reducePow, List.length_cons, List.length_nil, Nat.reduceAdd, Int.reduceAdd, Int.reduceSub, Int.reduceMul, seqOf_l, seqOf_t, seqOf_b, zipD_len, enumD_len, zipD_cons, zipD_nil, zipD_nil2, fInB_f, fInB_t, flat_int, flat_str, flat_bool, flat_none, atI_m1, atI_m1c, List.length_map, bls_mapB, all_mapT, key_i, key_s, dic_d, dic_b, popHead_c, cellsOf, isB_nest, noC_nest])
local macro_rules | `(tactic| walk_at "call_792ec_16") => `(tactic| refine w_call0 ?hb ?hc; (case hb => exact rfl); first | (with_reducible apply s_want_group; (· assumption)) | (with_reducible apply s_times_of; (· assumption)) | (with_reducible apply s_under_of; (· assumption)) | (with_reducible apply s_power_of; (· assumption); (· (first | assumption | omega))) | (with_reducible apply s_is_el; (· assumption)) | (with_reducible apply s__law_power; (· assumption); (· (first | assumption | omega))) | (with_reducible apply s__law_power1; (· assumption); (· (first | assumption | omega))) | (with_reducible apply s__law_log'; (· assumption)) | (with_reducible apply s_is_below; (· (first | assumption | omega))) | (with_reducible apply s_are_elB; (· assumption); (· (first | assumption | omega)); (· (first | assumption | omega))) | (with_reducible apply s_are_nums; (· (first | assumption | omega)); (· (first | assumption | omega)); (· assumption)) | (with_reducible apply s_is_check_of; (· assumption); (· assumption)) | (with_reducible apply s_is_lot_of; (· assumption); (· assumption)) | (with_reducible apply s_want_lot; (· assumption); (· (first | assumption | omega))) | (with_reducible apply s_faults_of; (· assumption); (· assumption)) | (with_reducible apply s_want_weighed; (· assumption); (· assumption); (· assumption); (· assumption)))
local macro_rules | `(tactic| walk_at "run_792ec_16") => `(tactic| repeat (first | walk_at "ev_792ec_16" | refine cnd_n (decide_eq_false (by omega)) ?_ | refine cnd_p (decide_eq_true (by omega)) ?_ | refine And.intro (by omega) ?_ | walk_at "call_792ec_16"))
theorem s_passes (G : Grp p q gg) {L : List Chk} {ws : List Nat} (C : LotOk q L) (hl : ws.length = L.length) (hw : ∀ w ∈ ws, w < q) (h : Q (.d (.bool (decide (dotN (bw q L ws) % q = 0)))) g) : (fn_passes [gv p q gg, .d (.tuple (lotP p gg L)), .d (.tuple (ws.map fun w => .int (w : Nat)))] g).wp Q := by
  have hq1 := G.q1
  unfold fn_passes
  rw [w_fn]
  unfold m_passes
  walk_at "run_792ec_16"
  rw [← bw_ns (q := q) hl]
  refine w_call0 rfl (s_batch_of G C (bw_bs hl) (fun a ha => by have := bw_lt hw a ha; omega) ?_)
  walk_at "run_792ec_16"
  rw [decide_eq_decide.mpr (el_eq_one G)]
  exact h
theorem s_batchW (G : Grp p q gg) {L : List Chk} {ws : List Nat} (C : LotOk q L) (hl : ws.length = L.length) (hw : ∀ w ∈ ws, w < q) (h : Q (I (el p gg (dotN (bw q L ws)))) g) : (fn_batch [gv p q gg, .d (.tuple (lotP p gg L)), .d (.tuple (ws.map fun w => .int (w : Nat)))] g).wp Q := by
  rw [← bw_ns (q := q) hl]
  exact s_batch G C (bw_bs hl) (bw_len hl) (bw_lt hw) h
/-- the weights but one -/
def butW (ws : List Nat) (j : Nat) : List Nat := ws.zipIdx.map fun a => if a.2 = j then 0 else a.1
theorem butW_len {ws : List Nat} {j : Nat} : (butW ws j).length = ws.length := by unfold butW; simp
theorem dot_but : ∀ {fs ws : List Nat} {j o : Nat} (_ : o ≤ j) {f w : Nat} (_ : fs[j - o]? = some f) (_ : ws[j - o]? = some w), dotN (fs.zip ws) = dotN (fs.zip ((ws.zipIdx o).map fun a => if a.2 = j then 0 else a.1)) + f * w
  | [], _, j, o, _, f, w, h1, h2 => by simp at h1
  | _, [], j, o, _, f, w, h1, h2 => by simp at h2
  | f0 :: fs, w0 :: ws, j, o, ho, f, w, h1, h2 => by
    rw [List.zipIdx_cons, List.map_cons, List.zip_cons_cons, List.zip_cons_cons]
    have e : ∀ (a : Nat × Nat) (l : List (Nat × Nat)), dotN (a :: l) = a.1 * a.2 + dotN l := fun a l => by unfold dotN; rw [List.map_cons, List.sum_cons]
    rw [e, e]
    by_cases hj : o = j
    · subst hj
      rw [Nat.sub_self] at h1 h2
      simp only [List.getElem?_cons_zero, Option.some.injEq] at h1 h2
      subst h1 h2
      rw [if_pos rfl]
      have key : ∀ {ws : List Nat} {o' : Nat}, o < o' → (ws.zipIdx o').map (fun a => if a.2 = o then 0 else a.1) = ws := fun {ws} => by
        induction ws with
        | nil => intro _ _; rfl
        | cons w ws ih =>
          intro o' h
          rw [List.zipIdx_cons, List.map_cons, ih (by omega), if_neg (by show o' ≠ o; omega)]
      rw [key (by omega)]
      show f0 * w0 + _ = f0 * 0 + _ + _
      omega
    · rw [if_neg hj]
      have hs : j - o = j - (o + 1) + 1 := by omega
      rw [hs, List.getElem?_cons_succ] at h1 h2
      have := dot_but (fs := fs) (ws := ws) (j := j) (o := o + 1) (by omega) h1 h2
      show f0 * w0 + _ = f0 * w0 + _ + _
      omega
theorem dot_butW {fs ws : List Nat} {j f w : Nat} (h1 : fs[j]? = some f) (h2 : ws[j]? = some w) : dotN (fs.zip ws) = dotN (fs.zip (butW ws j)) + f * w := dot_but (o := 0) (Nat.zero_le _) h1 h2
theorem fin_pow {q : Nat} [NeZero q] {a : Fin q} {n : Nat} : a.val ^ n % q = (a ^ n).val := by
  induction n with
  | zero =>
    rw [show a ^ 0 = 1 by grind]
    rfl
  | succ n ih => rw [show a ^ (n + 1) = a ^ n * a by grind, Fin.val_mul, ← ih, Nat.pow_succ, Nat.mod_mul_mod]
theorem inv_mod {f q : Nat} (hq : PrimeN q) (hf : f % q ≠ 0) : (f % q) ^ (q - 2) % q * f % q = 1 % q := by
  have hq1 := hq.1
  haveI : NeZero q := ⟨by omega⟩
  have h := inv_pow hq (a := Fin.ofNat q f) (fun e => hf (by have := congrArg Fin.val e; simpa using this))
  have h2 := congrArg Fin.val h
  rw [Fin.val_mul, ← fin_pow, show (Fin.ofNat q f).val = f % q from rfl, show ((1 : Fin q)).val = 1 % q from rfl, Nat.mul_mod_mod] at h2
  exact h2
/-- the only weight: none where the check holds -/
def onlyN (q : Nat) (fs ws : List Nat) (j : Nat) : Option Nat := if fs.getD j 0 % q = 0 then none else some ((dotN (fs.zip (butW ws j)) * (q - 1) % q) * ((fs.getD j 0 % q) ^ (q - 2) % q) % q)
def optP : Option Nat → P
  | some n => .int (n : Nat)
  | none => .none
theorem s_only_weight_of (G : Grp p q gg) {L : List Chk} {ws : List Nat} {j : Nat} (C : LotOk q L) (hl : ws.length = L.length) (hw : ∀ w ∈ ws, w < q) (hj : j < L.length) (h : Q (.d (optP (onlyN q (fxs q L) ws j))) g) : (fn_only_weight_of [gv p q gg, .d (.tuple (lotP p gg L)), .d (.tuple (ws.map fun w => .int (w : Nat))), I j] g).wp Q := by
  have hq := G.q2
  have hq1 := G.q1
  have h2 := C.h2
  obtain ⟨c, hc⟩ : ∃ c, L[j]? = some c := ⟨_, List.getElem?_eq_getElem hj⟩
  have hcC := C.h3 c (List.mem_of_getElem? hc)
  have hfj : (fxs q L).getD j 0 = fx q c := by unfold fxs; rw [List.getD_eq_getElem?_getD, List.getElem?_map, hc]; rfl
  have hlj : (lotP p gg L)[j]? = some (chkP p gg c) := by unfold lotP; rw [List.getElem?_map, hc]; rfl
  unfold onlyN at h
  rw [hfj] at h
  unfold fn_only_weight_of
  rw [w_fn]
  unfold m_only_weight_of
  walk_at "run_792ec_16"
  rw [hlj]
  walk_at "run_792ec_16"
  refine w_call0 rfl (s_fault_of G hcC ?_)
  walk_at "run_792ec_16"
  rw [decide_eq_decide.mpr (el_eq_one G)]
  refine cnd_i (fun h0 => ?_) (fun h0 => ?_)
  · rw [if_pos (of_decide_eq_true h0)] at h
    walk_at "run_792ec_16"
    exact h
  · have h0 := of_decide_eq_false h0
    rw [if_neg h0] at h
    walk_at "run_792ec_16"
    refine w_compM (l := ws.zipIdx) (to := fun a => D.d (.tuple [.int (a.2 : Nat), .int (a.1 : Nat)])) (F := fun a => .int ((if a.2 = j then 0 else a.1 : Nat) : Int)) enumD_map (fun a ha => ⟨rfl, _, rfl, ?_⟩) ?_
    · by_cases e : a.2 = j
      · rw [if_pos e]
        walk_at "run_792ec_16"
      · rw [if_neg e]
        walk_at "run_792ec_16"
    have hbl : (butW ws j).length = L.length := by rw [butW_len]; exact hl
    have hbw : ∀ w ∈ butW ws j, w < q := fun w hw' => by
      unfold butW at hw'
      obtain ⟨a, ha, rfl⟩ := List.mem_map.mp hw'
      by_cases e : a.2 = j
      · rw [if_pos e]; omega
      · rw [if_neg e]
        obtain ⟨_, _, e⟩ := List.mem_zipIdx ha
        rw [e]
        exact hw _ (List.getElem_mem _)
    rw [show ws.zipIdx.map (fun a : Nat × Nat => PyData.int ((if a.2 = j then 0 else a.1 : Nat) : Int)) = nsP (bw q L (butW ws j)) by rw [bw_ns hbl]; unfold butW; rw [List.map_map]; rfl]
    refine w_call0 rfl (s_batch_of G C (bw_bs hbl) (fun a ha => by have := bw_lt hbw a ha; omega) ?_)
    walk_at "run_792ec_16"
    refine w_call0 rfl (s_log_ofM G ?_)
    walk_at "run_792ec_16"
    rw [hlj]
    walk_at "run_792ec_16"
    refine w_call0 rfl (s_fault_of G hcC ?_)
    walk_at "run_792ec_16"
    refine w_call0 rfl (s_log_ofM G ?_)
    walk_at "run_792ec_16"
    rw [show (q : Int) - 2 = ((q - 2 : Nat) : Int) by omega]
    refine w_call0 rfl (s_powered (by omega) (by omega) (Nat.mod_lt _ (by omega)) (by omega) ?_)
    walk_at "run_792ec_16"
    have hlt : dotN (bw q L (butW ws j)) * (q - 1) % q < q := Nat.mod_lt _ (by omega)
    exact ⟨by omega, by omega, h⟩
theorem s_only_weight (G : Grp p q gg) {L : List Chk} {ws : List Nat} {j : Nat} (C : LotOk q L) (hl : ws.length = L.length) (hw : ∀ w ∈ ws, w < q) (hj : j < L.length) (h : Q (.d (optP (onlyN q (fxs q L) ws j))) g) : (fn_only_weight [gv p q gg, .d (.tuple (lotP p gg L)), .d (.tuple (ws.map fun w => .int (w : Nat))), I j] g).wp Q := by
  have h2 := C.h2
  unfold fn_only_weight
  rw [w_fn]
  unfold m_only_weight
  walk_at "run_792ec_16"
  refine w_call0 rfl (s_only_weight_of G C hl hw hj ?_)
  walk_at "run_792ec_16"
  exact h
end
/-! ### drawn groups, checks, lots -/
section
variable {p q gg : Nat} {g : G} {Q : D → G → Prop} {n k a b c d x i many m : Nat}
theorem mkGrp {p q g : Nat} (h1 : (decide (p ≤ 999983) && decide (q ≤ 9973) && decide (2 ≤ g) && decide (g < p) && primeB p && primeB q && decide ((p - 1) % q = 0) && decide (g ^ q % p = 1)) = true) : Grp p q g := by
  simp only [Bool.and_eq_true, decide_eq_true_eq] at h1
  obtain ⟨⟨⟨⟨⟨⟨⟨a, b⟩, c⟩, d⟩, e⟩, f⟩, h⟩, i⟩ := h1
  exact ⟨a, b, c, d, (primeB_iff (by omega)).mp e, (primeB_iff (by omega)).mp f, h, i⟩
def menuC : List P := [.tuple [.int 23, .int 11, .int 2], .tuple [.int 47, .int 23, .int 2], .tuple [.int 11, .int 5, .int 3], .tuple [.int 7, .int 3, .int 2], .tuple [.int 607, .int 101, .int 64], .tuple [.int 23, .int 11, .int 3], .tuple [.int 3, .int 2, .int 2]]
theorem menuC_get {k : Nat} {x : P} (h : menuC[k]? = some x) : ∃ p q gg : Nat, x = .tuple [.int p, .int q, .int gg] ∧ Grp p q gg ∧ q ≤ 101 := by
  match k, h with
  | 0, h => cases h; exact ⟨23, 11, 2, rfl, mkGrp (by decide +kernel), by decide⟩
  | 1, h => cases h; exact ⟨47, 23, 2, rfl, mkGrp (by decide +kernel), by decide⟩
  | 2, h => cases h; exact ⟨11, 5, 3, rfl, mkGrp (by decide +kernel), by decide⟩
  | 3, h => cases h; exact ⟨7, 3, 2, rfl, mkGrp (by decide +kernel), by decide⟩
  | 4, h => cases h; exact ⟨607, 101, 64, rfl, mkGrp (by decide +kernel), by decide⟩
  | 5, h => cases h; exact ⟨23, 11, 3, rfl, mkGrp (by decide +kernel), by decide⟩
  | 6, h => cases h; exact ⟨3, 2, 2, rfl, mkGrp (by decide +kernel), by decide⟩
  | k + 7, h => cases h
local macro_rules | `(tactic| walk_at "ev_792ec_17") => `(tactic| simp only [↓w_C, ↓w_var, ↓w_op, ↓w_un, ↓w_isi, ↓w_b, ↓w_nil, ↓w_cons, ↓w_tup, ↓w_lst, ↓w_not, ↓w_and, ↓w_or, ↓w_ifE, ↓w_chain, ↓w_tv, ↓w_tvAnd, ↓w_tvOr, ↓w_tvNot, ↓w_tvYes, ↓w_call, ↓w_callK, ↓w_sl, ↓w_oNo, ↓w_oSome, ↓w_newCell, ↓w_comp, ↓Sim.w_next, ↓w_seq, ↓w_ret, ↓w_retN, ↓w_never, ↓w_expr, ↓w_if, ↓w_asg, ↓w_own, ↓w_freeze, ↓w_own1, ↓w_par, ↓w_par3, ↓w_asgT, ↓w_tP, ↓w_aug, ↓w_for, ↓w_forNil, ↓w_iSeq, ↓w_range1X, ↓w_range2X, ↓lk_shX, ↓lk_ownX, ↓lk_succ, ↓stop_ap, ↓w_tTup, ↓w_tNil, ↓w_tCons, ↓w_tName, ↓o_add, ↓o_sub, ↓o_addI, ↓o_neg, ↓o_mulX, ↓o_mod, ↓o_div, ↓o_powX, ↓o_lt, ↓o_le, ↓o_gt, ↓o_ge, ↓o_eq, ↓o_ne, ↓o_ixT, ↓o_ixL, ↓o_ixB, ↓o_ixS, ↓o_ixC, ↓o_int, ↓o_abs, ↓o_max2, ↓o_min2, ↓o_lenT, ↓o_lenL, ↓o_lenB, ↓o_lenS, ↓o_divmod, ↓o_slT, ↓o_slL, ↓o_slB, ↓o_repr, ↓o_eqS, ↓o_neS, ↓o_eqB, ↓o_neB, ↓w_forCons, ↓w_compNil, ↓w_compCons, ↓o_allL, ↓o_anyL, ↓o_eqT2, ↓o_neT2, ↓o_tupleL, ↓o_tupleB, ↓o_tupleT, ↓o_sumL, ↓o_addT, ↓o_addL, ↓w_chain3, ↓w_zip2, ↓w_enum1, ↓w_parSO, ↓o_inT, ↓o_inL, ↓o_inB, ↓o_repL, ↓o_mulL, ↓o_catL, ↓o_catBL, ↓o_catLB, ↓o_listFL, ↓o_listFB, ↓o_listFT, ↓o_eqNil, ↓o_reprB, ↓o_neLnn, ↓o_neLcn, ↓o_neBnn, ↓o_neBcn, ↓R.wp_ok, ↓w_get2, ↓w_dict0, ↓w_forI, ↓w_dictI, ↓w_putD, ↓w_comp2, ↓w_isi2, ↓w_parOO, ↓w_parOS, ↓w_pop, ↓w_lrange, ↓w_zip3, ↓o_mulT, ↓o_inD, ↓o_ixD, ↓w_callC, ↓w_callCK, ↓w_nest, ↓o_ixN, ↓o_reprN, ↓w_cellM, ↓w_sortSet, ↓w_lenSet, ↓w_enumZ, ↓w_listZip, ↓w_parSOO, ↓e_is_integer, ↓e_is_row, ↓cut4, ↓strOk_group, ↓gv, ↓gvP, ↓strOk_check, ↓el_mulI, ↓bsP_len, ↓nsP_len, ↓lotP_len, ↓ints0_len, ↓Int.toNat_natCast, ↓ringP_len, ↓o_isNd, ↓o_notNd, ↓o_isBB, ↓o_notBB,
  startE_eq, List.reduceReplicate, Nat.reduceSub, p_name, p_tup, p_tupL, p_cons, p_nil, wipe_nil, wipe_cons, bls_nil, bls_cons, Sim.ints_nil, Sim.ints_cons, List.all_cons, List.all_nil, List.any_cons, List.any_nil, id, Bool.and_true, Bool.true_and, Option.bind_some, perm, List.filterMap_cons_some, List.filterMap_nil, List.filterMap_cons, List.nil_append, List.cons_append, atI_lit, setP_lit, Sim.atI_nat, Nat.reduceLT, Int.cast_ofNat_Int, Int.natCast_zero, Int.natCast_one, Int.reduceEq, Int.reduceToNat, isInt_none, isInt_bool, isInt_int, isInt_str, isInt_list, isInt_tuple, isInt_dict, isInt_bL, isInt_cell, isInt_scr, isBool_none, isBool_bool, isBool_int, isBool_str, isBool_list, isBool_tuple, isBool_dict, isBool_bL, isBool_cell, isBool_scr, isStr_none, isStr_bool, isStr_int, isStr_str, isStr_list, isStr_tuple, isStr_dict, isStr_bL, isStr_cell, isStr_scr, isTup_none, isTup_bool, isTup_int, isTup_str, isTup_list, isTup_tuple, isTup_dict, isTup_bL, isTup_cell, isTup_scr, isLst_none, isLst_bool, isLst_int, isLst_str, isLst_list, isLst_tuple, isLst_dict, isLst_bL, isLst_cell, isLst_scr, isDic_none, isDic_bool, isDic_int, isDic_str, isDic_list, isDic_tuple, isDic_dict, isDic_bL, isDic_cell, isDic_scr, cnd_not, cnd_true, cnd_false, dats, isB_d, isB_cell, isB_scr, isB_bor, noC_d, noC_cell, noC_scr, noC_bor, List.map_cons, List.map_nil, sizeLine, Option.map_some, List.getElem?_cons_zero, List.getElem?_cons_succ, List.set_cons_zero, List.set_cons_succ, Bool.or_false, Bool.false_or, Bool.or_self, Bool.false_eq_true, Bool.not_true, Bool.not_false, decide_true, decide_false, true_and, and_true, and_self, if_true, if_false, reduceIte, Int.reduceLT, Int.reduceLE, Int.reduceNeg, Int.reducePow, Nat.reducePow, List.length_cons, List.length_nil, Nat.reduceAdd, Int.reduceAdd, Int.reduceSub, Int.reduceMul, seqOf_l, seqOf_t, seqOf_b, zipD_len, enumD_len, zipD_cons, zipD_nil, zipD_nil2, fInB_f, fInB_t, flat_int, flat_str, flat_bool, flat_none, atI_m1, atI_m1c, List.length_map, bls_mapB, all_mapT, key_i, key_s, dic_d, dic_b, popHead_c, cellsOf, isB_nest, noC_nest])
local macro_rules | `(tactic| walk_at "call_792ec_17") => `(tactic| refine w_call0 ?hb ?hc; (case hb => exact rfl); first | (with_reducible apply s_want_group; (· assumption)) | (with_reducible apply s_times_of; (· assumption)) | (with_reducible apply s_under_of; (· assumption)) | (with_reducible apply s_power_of; (· assumption); (· (first | assumption | omega))) | (with_reducible apply s_is_el; (· assumption)) | (with_reducible apply s__law_power; (· assumption); (· (first | assumption | omega))) | (with_reducible apply s__law_power1; (· assumption); (· (first | assumption | omega))) | (with_reducible apply s__law_log'; (· assumption)) | (with_reducible apply s_is_below; (· (first | assumption | omega))) | (with_reducible apply s_are_elB; (· assumption); (· (first | assumption | omega)); (· (first | assumption | omega))) | (with_reducible apply s_are_nums; (· (first | assumption | omega)); (· (first | assumption | omega)); (· assumption)) | (with_reducible apply s_is_check_of; (· assumption); (· assumption)) | (with_reducible apply s_is_lot_of; (· assumption); (· assumption)) | (with_reducible apply s_want_lot; (· assumption); (· (first | assumption | omega))) | (with_reducible apply s_faults_of; (· assumption); (· assumption)) | (with_reducible apply s_want_weighed; (· assumption); (· assumption); (· assumption); (· assumption)))
local macro_rules | `(tactic| walk_at "run_792ec_17") => `(tactic| repeat (first | walk_at "ev_792ec_17" | refine cnd_n (decide_eq_false (by omega)) ?_ | refine cnd_p (decide_eq_true (by omega)) ?_ | refine And.intro (by omega) ?_ | walk_at "call_792ec_17"))
theorem s_law_group (hp : PotAt i g) (h : ∀ (p q gg : Nat) (g' : Sim.G), Grp p q gg → q ≤ 101 → PotAt i g' → Q (gv p q gg) g') : (fn__law_group [.cell i] g).wp Q := by
  unfold fn__law_group
  rw [w_fn]
  unfold m__law_group
  walk_at "run_792ec_17"
  refine w_call0 rfl (s_pick (xs := menuC) (by decide) (by decide) hp fun k x g' hk hp' => ?_)
  obtain ⟨p, q, gg, rfl, G, hq⟩ := menuC_get hk
  walk_at "run_792ec_17"
  exact h p q gg g' G hq hp'
theorem s_law_check (G : Grp p q gg) (hp : PotAt i g) (h : ∀ (c : Chk) (g' : Sim.G), ChkOk q c → c.bs.length ≤ 4 → PotAt i g' → Q (.d (chkP p gg c)) g') : (fn__law_check [.cell i, gv p q gg] g).wp Q := by
  have hq := G.q1
  have hq2 := G.q2
  have hp1 := G.p1
  unfold fn__law_check
  rw [w_fn]
  unfold m__law_check
  walk_at "run_792ec_17"
  refine w_call0 rfl (s_draw (many := 4) (by omega) (by omega) hp fun m g1 hm hp2 => ?_)
  walk_at "run_792ec_17"
  rw [show ((1 + (m : Int)).toNat) = 1 + m by omega]
  refine w_compL (fun r ps g' => PotAt i g' ∧ ∃ ks : List Nat, ks.length = r ∧ ps = ks.map fun k => .int (el p gg k : Nat)) ⟨hp2, [], rfl, rfl⟩ ?_ ?_
  · rintro r ps g' y hd ⟨hp3, ks, hl, rfl⟩
    obtain ⟨hr, rfl⟩ := ints0_get hd
    refine ⟨rfl, _, rfl, ?_⟩
    walk_at "run_792ec_17"
    refine w_call0 rfl (s__law_element G hp3 fun k g2 hk hp4 => ?_)
    walk_at "run_792ec_17"
    exact ⟨_, rfl, hp4, ks ++ [k], by simp [hl], by simp⟩
  rintro r g2 ⟨hp3, ks, hl, rfl⟩
  rw [ints0_len] at hl
  walk_at "run_792ec_17"
  refine w_compL (fun r ps g' => PotAt i g' ∧ ∃ bs : List (Nat × Nat), bs.map (·.1) = ks.take r ∧ (∀ a ∈ bs, a.2 < q) ∧ ps = nsP bs) ⟨hp3, [], rfl, by simp, rfl⟩ ?_ ?_
  · rintro r ps g' y hd ⟨hp4, bs, hb, hbq, rfl⟩
    rw [List.map_map] at hd
    obtain ⟨k, hk, rfl⟩ := map_get hd
    refine ⟨rfl, _, rfl, ?_⟩
    walk_at "run_792ec_17"
    refine w_call0 rfl (s_draw (by omega) (by omega) hp4 fun n g3 hn hp5 => ?_)
    walk_at "run_792ec_17"
    refine ⟨_, rfl, hp5, bs ++ [(k, n)], by rw [List.map_append, hb, take_snoc2 hk]; rfl, fun a ha => ?_, by unfold nsP; simp⟩
    rw [List.mem_append, List.mem_singleton] at ha
    rcases ha with ha | rfl
    · exact hbq a ha
    · exact hn
  rintro r g3 ⟨hp4, bs, hb, hbq, rfl⟩
  rw [List.length_map, List.length_map, List.take_length] at hb
  have eb : ks.map (fun k => PyData.int (el p gg k : Nat)) = bsP p gg bs := by
    rw [← hb]; unfold bsP; rw [List.map_map]; rfl
  have hbl : bs.length = 1 + m := by rw [← hl, ← hb, List.length_map]
  rw [eb]
  walk_at "run_792ec_17"
  refine w_call0 rfl (s__law_product G (fun a ha => by have := hbq a ha; omega) ?_)
  walk_at "run_792ec_17"
  refine w_call0 rfl (s_draw (many := 3) (by omega) (by omega) hp4 fun u g4 hu hp5 => ?_)
  have C : ∀ t, ChkOk q ⟨bs, t⟩ := fun t => ⟨by show 1 ≤ bs.length; omega, by show bs.length ≤ 5; omega, hbq⟩
  walk_at "run_792ec_17"
  refine cnd_i (fun h5 => ?_) (fun h5 => ?_)
  · walk_at "run_792ec_17"
    refine w_call0 rfl (s__law_element G hp5 fun e g5 he hp6 => ?_)
    have := G.el_lt (dotN bs)
    walk_at "run_792ec_17"
    exact h ⟨bs, _⟩ g5 (C _) (by show bs.length ≤ 4; omega) hp6
  · walk_at "run_792ec_17"
    exact h ⟨bs, _⟩ g4 (C _) (by show bs.length ≤ 4; omega) hp5
theorem s_law_lot (G : Grp p q gg) (hp : PotAt i g) (hm : 0 < many) (hm2 : many ≤ 13) (h : ∀ (L : List Chk) (g' : Sim.G), LotOk q L → L.length ≤ many → (∀ c ∈ L, c.bs.length ≤ 4) → PotAt i g' → Q (.d (.tuple (lotP p gg L))) g') : (fn__law_lot [.cell i, gv p q gg, I many] g).wp Q := by
  unfold fn__law_lot
  rw [w_fn]
  unfold m__law_lot
  walk_at "run_792ec_17"
  refine w_call0 rfl (s_draw (by omega) (by omega) hp fun m g1 hm hp2 => ?_)
  walk_at "run_792ec_17"
  rw [show ((1 + (m : Int)).toNat) = 1 + m by omega]
  refine w_compL (fun r ps g' => PotAt i g' ∧ ∃ L : List Chk, L.length = r ∧ (∀ c ∈ L, ChkOk q c ∧ c.bs.length ≤ 4) ∧ ps = lotP p gg L) ⟨hp2, [], rfl, by simp, rfl⟩ ?_ ?_
  · rintro r ps g' y hd ⟨hp3, L, hl, hL, rfl⟩
    obtain ⟨hr, rfl⟩ := ints0_get hd
    refine ⟨rfl, _, rfl, ?_⟩
    walk_at "run_792ec_17"
    refine w_call0 rfl (s_law_check G hp3 fun c g2 hc hc4 hp4 => ?_)
    walk_at "run_792ec_17"
    refine ⟨_, rfl, hp4, L ++ [c], by simp [hl], fun d hd => ?_, by unfold lotP; simp⟩
    rw [List.mem_append, List.mem_singleton] at hd
    rcases hd with hd | rfl
    · exact hL d hd
    · exact ⟨hc, hc4⟩
  · rintro r g2 ⟨hp3, L, hl, hL, rfl⟩
    rw [ints0_len] at hl
    walk_at "run_792ec_17"
    exact h L g2 ⟨by omega, by omega, fun c hc => (hL c hc).1⟩ (by omega) (fun c hc => (hL c hc).2) hp3
end
section
variable {p q gg : Nat} {g : G} {Q : D → G → Prop} {n k a b c d x i many m : Nat}
theorem chk_RO (G : Grp p q gg) {c : Chk} (C : ChkOk q c) : RO (chkP p gg c) 4 1000 := by
  have hp := G.p1
  have hq := G.q1
  have hk : kCheck.cps.size = 5 := by decide +kernel
  unfold chkP
  refine (RO.tuple (.cons (RO.str (n := 3) strOk_check (by decide +kernel)) (.cons (RO.lift (RO.tuple (ROs.all (n := 1) (w := 40) (ds := bsP p gg c.bs) fun d hd => ?_)) (by omega) (w' := 300) ?_) (.cons (RO.lift (RO.tuple (ROs.all (n := 1) (w := 40) (ds := nsP c.bs) fun d hd => ?_)) (by omega) (w' := 300) ?_) (.cons (RO.nat (by have := G.el_lt c.t; omega)) .nil))))).lift (by omega) (by rw [hk]; omega)
  · unfold bsP at hd
    obtain ⟨a, _, rfl⟩ := List.mem_map.mp hd
    have := G.el_lt a.1
    exact RO.nat (by omega)
  · rw [bsP_len]; have := C.h2; omega
  · unfold nsP at hd
    obtain ⟨a, ha, rfl⟩ := List.mem_map.mp hd
    have := C.h3 a ha
    exact RO.nat (by omega)
  · rw [nsP_len]; have := C.h2; omega
theorem lot_RO (G : Grp p q gg) {L : List Chk} (C : LotOk q L) : RO (.tuple (lotP p gg L)) 5 20000 := by
  refine (RO.tuple (ROs.all (n := 4) (w := 1000) fun d hd => ?_)).lift (by omega) (by unfold lotP; rw [List.length_map]; have := C.h2; omega)
  unfold lotP at hd
  obtain ⟨c, hc, rfl⟩ := List.mem_map.mp hd
  exact chk_RO G (C.h3 c hc)
end
/-! ### merged lots: a dict by elements, kept by their logs -/
section
variable {p q gg : Nat} {g : G} {Q : D → G → Prop} {n k a b c d x i many m : Nat}
def getE (a : Nat) (DL : List (Nat × Nat)) : Option Nat := (DL.find? fun e => decide (e.1 = a)).map (·.2)
def putE (a v : Nat) (DL : List (Nat × Nat)) : List (Nat × Nat) := if (DL.any fun e => decide (e.1 = a)) = true then DL.map (fun e => if e.1 = a then (e.1, v) else e) else DL ++ [(a, v)]
def dlP (p gg : Nat) (DL : List (Nat × Nat)) : List (P × P) := DL.map fun e => (.int (el p gg e.1 : Nat), .int (e.2 : Nat))
structure DOk (q : Nat) (DL : List (Nat × Nat)) : Prop where
  lt : ∀ e ∈ DL, e.1 < q ∧ e.2 < q
  nd : (DL.map (·.1)).Nodup
theorem key_el (G : Grp p q gg) {a b : Nat} (hb : b < q) : keyEq (.int (el p gg b : Nat)) (.int (el p gg a : Nat)) = decide (b = a % q) := by
  have hq := G.q2
  show decide (((el p gg b : Nat) : Int) = ((el p gg a : Nat) : Int)) = _
  refine decide_eq_decide.mpr ?_
  rw [Int.natCast_inj]
  constructor
  · intro h
    rw [← el_mod G a] at h
    exact G.el_inj hb (Nat.mod_lt _ (by omega)) h
  · intro h
    rw [h, el_mod G a]
theorem get_el (G : Grp p q gg) {DL : List (Nat × Nat)} (h : DOk q DL) : getKP (dlP p gg DL) (.int (el p gg a : Nat)) = (getE (a % q) DL).map fun m => .int (m : Nat) := by
  unfold getKP getE dlP
  have : ∀ DL : List (Nat × Nat), (∀ e ∈ DL, e.1 < q) → ((DL.map fun e => ((.int (el p gg e.1 : Nat) : P), (.int (e.2 : Nat) : P))).find? fun e => keyEq e.1 (.int (el p gg a : Nat))) = (DL.find? fun e => decide (e.1 = a % q)).map fun e => (.int (el p gg e.1 : Nat), .int (e.2 : Nat)) := fun DL => by
    induction DL with
    | nil => intro _; rfl
    | cons e l ih =>
      intro h
      rw [List.map_cons, List.find?_cons, List.find?_cons]
      rw [key_el G (h e List.mem_cons_self)]
      cases decide (e.1 = a % q)
      · exact ih fun x hx => h x (List.mem_cons_of_mem _ hx)
      · rfl
  rw [this DL fun e he => (h.lt e he).1, Option.map_map, Option.map_map]
  rfl
theorem put_el (G : Grp p q gg) {DL : List (Nat × Nat)} (h : DOk q DL) {v : Nat} : putKP (dlP p gg DL) (.int (el p gg a : Nat)) (.int (v : Nat)) = dlP p gg (putE (a % q) v DL) := by
  unfold putKP putE dlP
  have e1 : ((DL.map fun e => ((.int (el p gg e.1 : Nat) : P), (.int (e.2 : Nat) : P))).any fun e => keyEq e.1 (.int (el p gg a : Nat))) = DL.any fun e => decide (e.1 = a % q) := by
    rw [List.any_map]
    have : ∀ DL : List (Nat × Nat), (∀ e ∈ DL, e.1 < q) → (DL.any ((fun e => keyEq e.1 (.int (el p gg a : Nat))) ∘ fun e : Nat × Nat => ((.int (el p gg e.1 : Nat) : P), (.int (e.2 : Nat) : P)))) = DL.any fun e => decide (e.1 = a % q) := fun DL => by
      induction DL with
      | nil => intro _; rfl
      | cons e l ih =>
        intro h
        rw [List.any_cons, List.any_cons, ih fun x hx => h x (List.mem_cons_of_mem _ hx)]
        have hk := key_el G (a := a) (h e List.mem_cons_self)
        show (keyEq (.int (el p gg e.1 : Nat)) (.int (el p gg a : Nat)) || l.any fun e => decide (e.1 = a % q)) = _
        rw [hk]
    exact this DL fun e he => (h.lt e he).1
  rw [e1]
  split
  · rw [List.map_map, List.map_map]
    refine List.map_congr_left fun e he => ?_
    have hk := key_el G (a := a) (h.lt e he).1
    show (if keyEq (.int (el p gg e.1 : Nat)) (.int (el p gg a : Nat)) = true then (((.int (el p gg e.1 : Nat) : P)), (.int (v : Nat) : P)) else ((.int (el p gg e.1 : Nat) : P), (.int (e.2 : Nat) : P))) = (fun e : Nat × Nat => ((.int (el p gg e.1 : Nat) : P), (.int (e.2 : Nat) : P))) (if e.1 = a % q then (e.1, v) else e)
    rw [hk]
    by_cases he1 : e.1 = a % q
    · rw [if_pos (decide_eq_true he1), if_pos he1]
    · rw [if_neg (by simpa using he1), if_neg he1]
  · rename_i h1
    rw [List.map_append, List.map_cons, List.map_nil, el_mod G a]
/-- so much put to an element's number -/
def addE (q : Nat) (DL : List (Nat × Nat)) (c : Nat × Int) : List (Nat × Nat) := putE (c.1 % q) (((((getE (c.1 % q) DL).getD 0 : Nat) : Int) + c.2) % (q : Int)).toNat DL
theorem putE_keys {v : Nat} {DL : List (Nat × Nat)} : (putE a v DL).map (·.1) = if (DL.any fun e => decide (e.1 = a)) = true then DL.map (·.1) else DL.map (·.1) ++ [a] := by
  unfold putE
  split
  · rw [List.map_map]
    refine List.map_congr_left fun e he => ?_
    show (if e.1 = a then (e.1, v) else e).1 = e.1
    split <;> rfl
  · rw [List.map_append]; rfl
theorem any_key {DL : List (Nat × Nat)} : (DL.any fun e => decide (e.1 = a)) = decide (a ∈ DL.map (·.1)) := by
  rw [Bool.eq_iff_iff, List.any_eq_true, decide_eq_true_eq, List.mem_map]
  exact ⟨fun ⟨e, h1, h2⟩ => ⟨e, h1, of_decide_eq_true h2⟩, fun ⟨e, h1, h2⟩ => ⟨e, h1, decide_eq_true h2⟩⟩
theorem putE_ok {v : Nat} {DL : List (Nat × Nat)} (h : DOk q DL) (ha : a < q) (hv : v < q) : DOk q (putE a v DL) := by
  refine ⟨fun e he => ?_, ?_⟩
  · unfold putE at he
    split at he
    · obtain ⟨e', he', rfl⟩ := List.mem_map.mp he
      split
      · exact ⟨(h.lt e' he').1, hv⟩
      · exact h.lt e' he'
    · rcases List.mem_append.mp he with he | he
      · exact h.lt e he
      · rw [List.mem_singleton.mp he]; exact ⟨ha, hv⟩
  · rw [putE_keys, any_key]
    split
    · exact h.nd
    · rename_i h1
      rw [decide_eq_true_eq] at h1
      rw [List.nodup_append]
      exact ⟨h.nd, by simp, fun x hx y hy e => by rw [List.mem_singleton.mp hy] at e; exact h1 (by rw [← e]; exact hx)⟩
theorem putE_len {v : Nat} {DL : List (Nat × Nat)} : (putE a v DL).length ≤ DL.length + 1 := by
  unfold putE
  split
  · rw [List.length_map]; omega
  · rw [List.length_append]; exact Nat.le_refl _
theorem addE_ok {DL : List (Nat × Nat)} {c : Nat × Int} (hq : 2 ≤ q) (h : DOk q DL) : DOk q (addE q DL c) := by
  have h1 := Int.emod_nonneg ((((getE (c.1 % q) DL).getD 0 : Nat) : Int) + c.2) (show (q : Int) ≠ 0 by omega)
  have h2 := Int.emod_lt_of_pos ((((getE (c.1 % q) DL).getD 0 : Nat) : Int) + c.2) (show (0 : Int) < q by omega)
  exact putE_ok h (Nat.mod_lt _ (by omega)) (by omega)
def sumE (DL : List (Nat × Nat)) : Int := (DL.map fun e => ((e.1 : Nat) : Int) * ((e.2 : Nat) : Int)).sum
theorem sumE_snoc {DL : List (Nat × Nat)} {e : Nat × Nat} : sumE (DL ++ [e]) = sumE DL + ((e.1 : Nat) : Int) * ((e.2 : Nat) : Int) := by unfold sumE; rw [List.map_append, List.sum_append]; simp
/-- a number exchanged -/
theorem sumE_put : ∀ {DL : List (Nat × Nat)} {a v : Nat}, (DL.map (·.1)).Nodup → sumE (putE a v DL) = sumE DL + ((a : Nat) : Int) * (((v : Nat) : Int) - (((getE a DL).getD 0 : Nat) : Int)) := by
  have key : ∀ {DL : List (Nat × Nat)} {a v : Nat}, (DL.map (·.1)).Nodup → a ∈ DL.map (·.1) → sumE (DL.map fun e => if e.1 = a then (e.1, v) else e) = sumE DL + ((a : Nat) : Int) * (((v : Nat) : Int) - (((getE a DL).getD 0 : Nat) : Int)) := fun {DL} => by
    induction DL with
    | nil => intro a v _ h; simp at h
    | cons e l ih =>
      intro a v hn hm
      rw [List.map_cons] at hn
      obtain ⟨h1, h2⟩ := List.nodup_cons.mp hn
      unfold sumE at ih ⊢
      simp only [List.map_cons, List.sum_cons]
      by_cases ea : e.1 = a
      · subst ea
        have e1 : (l.map fun e' => if e'.1 = e.1 then (e'.1, v) else e') = l := by
          conv => rhs; rw [← List.map_id l]
          refine List.map_congr_left fun e' he' => ?_
          rw [if_neg (fun z => h1 (by rw [← z]; exact List.mem_map_of_mem he'))]; rfl
        rw [e1, if_pos rfl]
        have e2 : getE e.1 (e :: l) = some e.2 := by unfold getE; rw [List.find?_cons, decide_eq_true rfl]; rfl
        rw [e2]
        show (e.1 : Int) * (v : Int) + _ = (e.1 : Int) * (e.2 : Int) + _ + (e.1 : Int) * ((v : Int) - (e.2 : Int))
        grind
      · rw [if_neg ea]
        have hm' : a ∈ l.map (·.1) := by
          rcases List.mem_cons.mp hm with q | q
          · exact absurd q.symm ea
          · exact q
        have e2 : getE a (e :: l) = getE a l := by unfold getE; rw [List.find?_cons, decide_eq_false ea]
        rw [e2, ih h2 hm']
        omega
  intro DL a v hn
  by_cases h : a ∈ DL.map (·.1)
  · unfold putE
    rw [if_pos (by rw [any_key]; exact decide_eq_true h)]
    exact key hn h
  · unfold putE
    rw [if_neg (by rw [any_key]; simpa using h), sumE_snoc]
    have : getE a DL = none := by
      unfold getE
      rw [Option.map_eq_none_iff, List.find?_eq_none]
      intro e he hd
      exact h (List.mem_map.mpr ⟨e, he, of_decide_eq_true hd⟩)
    rw [this]
    show _ = _ + (a : Int) * ((v : Int) - 0)
    rw [Int.sub_zero]
theorem addE_sum {DL : List (Nat × Nat)} {c : Nat × Int} (hq : 2 ≤ q) (h : DOk q DL) : (q : Int) ∣ sumE (addE q DL c) - (sumE DL + ((c.1 : Nat) : Int) * c.2) := by
  unfold addE
  rw [sumE_put h.nd]
  generalize (getE (c.1 % q) DL).getD 0 = m
  have h1 := Int.emod_nonneg (((m : Nat) : Int) + c.2) (show (q : Int) ≠ 0 by omega)
  rw [Int.toNat_of_nonneg h1, Int.natCast_emod]
  rw [Int.emod_def ((m : Int) + c.2), Int.emod_def ((c.1 : Nat) : Int)]
  generalize ((m : Int) + c.2) / (q : Int) = A
  generalize ((c.1 : Nat) : Int) / (q : Int) = B
  refine ⟨- (c.1 : Int) * A - B * c.2 + q * A * B, ?_⟩
  grind
def addAll (q : Nat) (DL : List (Nat × Nat)) (cs : List (Nat × Int)) : List (Nat × Nat) := cs.foldl (addE q) DL
def sumC (cs : List (Nat × Int)) : Int := (cs.map fun c => ((c.1 : Nat) : Int) * c.2).sum
theorem addAll_ok (hq : 2 ≤ q) : ∀ {cs : List (Nat × Int)} {DL : List (Nat × Nat)}, DOk q DL → DOk q (addAll q DL cs) ∧ (addAll q DL cs).length ≤ DL.length + cs.length ∧ (q : Int) ∣ sumE (addAll q DL cs) - (sumE DL + sumC cs)
  | [], DL, h => ⟨h, Nat.le_refl _, ⟨0, by show sumE DL - (sumE DL + 0) = _; omega⟩⟩
  | c :: cs, DL, h => by
    obtain ⟨h1, h2, h3⟩ := addAll_ok hq (cs := cs) (DL := addE q DL c) (addE_ok hq h)
    have h4 := addE_sum (c := c) hq h
    have h5 : (addE q DL c).length ≤ DL.length + 1 := putE_len
    refine ⟨h1, ?_, ?_⟩
    · show (addAll q (addE q DL c) cs).length ≤ DL.length + (cs.length + 1)
      omega
    · show (q : Int) ∣ sumE (addAll q (addE q DL c) cs) - (sumE DL + sumC (c :: cs))
      have e : sumC (c :: cs) = ((c.1 : Nat) : Int) * c.2 + sumC cs := by unfold sumC; rw [List.map_cons, List.sum_cons]
      rw [e]
      obtain ⟨u, hu⟩ := h3
      obtain ⟨w, hw⟩ := h4
      exact ⟨u + w, by rw [Int.mul_add, ← hu, ← hw]; omega⟩
/-- what a check adds by its weight -/
def conC (c : Chk) (w : Nat) : List (Nat × Int) := (c.bs.map fun a => (a.1, ((w : Nat) : Int) * ((a.2 : Nat) : Int))) ++ [(c.t, -((w : Nat) : Int))]
def conL (l : List (Chk × Nat)) : List (Nat × Int) := l.flatMap fun a => conC a.1 a.2
theorem conC_sum {c : Chk} {w : Nat} (hq : 2 ≤ q) : (q : Int) ∣ sumC (conC c w) - ((fx q c * w : Nat) : Int) := by
  have e1 : ∀ l : List (Nat × Nat), sumC (l.map fun a => (a.1, ((w : Nat) : Int) * ((a.2 : Nat) : Int))) = ((dotN l * w : Nat) : Int) := fun l => by
    unfold sumC dotN
    rw [List.map_map]
    induction l with
    | nil => simp
    | cons a l ih =>
      simp only [List.map_cons, List.sum_cons, Function.comp] at ih ⊢
      rw [ih, Nat.add_mul]
      push_cast
      grind
  have e2 : sumC (conC c w) = ((dotN c.bs * w : Nat) : Int) + ((c.t : Nat) : Int) * -((w : Nat) : Int) := by
    have : ∀ l m : List (Nat × Int), sumC (l ++ m) = sumC l + sumC m := fun l m => by unfold sumC; rw [List.map_append, List.sum_append]
    unfold conC
    rw [this, e1]
    unfold sumC
    simp
  rw [e2]
  unfold fx
  obtain ⟨r, rfl⟩ : ∃ r, q = r + 1 := ⟨q - 1, by omega⟩
  refine ⟨-((c.t : Int) * w), ?_⟩
  rw [Nat.add_sub_cancel]
  push_cast
  grind
theorem conL_sum (hq : 2 ≤ q) : ∀ {l : List (Chk × Nat)}, (q : Int) ∣ sumC (conL l) - ((dotN (l.map fun a => (fx q a.1, a.2)) : Nat) : Int)
  | [] => ⟨0, by show (0 : Int) - 0 = _; omega⟩
  | a :: l => by
    obtain ⟨u, hu⟩ := conL_sum hq (l := l)
    obtain ⟨w, hw⟩ := conC_sum (c := a.1) (w := a.2) hq
    have e1 : sumC (conL (a :: l)) = sumC (conC a.1 a.2) + sumC (conL l) := by
      unfold conL sumC
      rw [List.flatMap_cons, List.map_append, List.sum_append]
    have e2 : dotN ((a :: l).map fun a => (fx q a.1, a.2)) = fx q a.1 * a.2 + dotN (l.map fun a => (fx q a.1, a.2)) := by
      unfold dotN
      rw [List.map_cons, List.map_cons, List.sum_cons]
    rw [e1, e2]
    refine ⟨u + w, ?_⟩
    rw [Int.mul_add, ← hu, ← hw]
    push_cast
    omega
/-- a list in another order -/
theorem perm_inv {α β : Type} {f : α → β} {xs ys : List β} (h : xs.Perm ys) : ∀ {l : List α}, ys = l.map f → ∃ l' : List α, l'.Perm l ∧ xs = l'.map f := by
  induction h with
  | nil => intro l e; exact ⟨[], by rw [List.map_eq_nil_iff.mp e.symm], rfl⟩
  | cons x _ ih =>
    intro l e
    match l, e with
    | a :: l, e =>
      rw [List.map_cons] at e
      obtain ⟨e1, e2⟩ := List.cons.inj e
      obtain ⟨l', h1, h2⟩ := ih e2
      exact ⟨a :: l', h1.cons a, by rw [List.map_cons, e1, h2]⟩
  | swap x y l0 =>
    intro l e
    match l, e with
    | [a], e => simp at e
    | a :: b :: l, e =>
      rw [List.map_cons, List.map_cons] at e
      obtain ⟨e1, e2⟩ := List.cons.inj e
      obtain ⟨e2, e3⟩ := List.cons.inj e2
      exact ⟨b :: a :: l, List.Perm.swap _ _ _, by rw [List.map_cons, List.map_cons, e1, e2, e3]⟩
  | trans _ _ ih1 ih2 =>
    intro l e
    obtain ⟨l2, h1, h2⟩ := ih2 e
    obtain ⟨l3, h3, h4⟩ := ih1 h2
    exact ⟨l3, h3.trans h1, h4⟩
theorem getE_mem {DL : List (Nat × Nat)} (hn : (DL.map (·.1)).Nodup) {e : Nat × Nat} (he : e ∈ DL) : getE e.1 DL = some e.2 := by
  unfold getE
  induction DL with
  | nil => cases he
  | cons a l ih =>
    rw [List.map_cons] at hn
    obtain ⟨h1, h2⟩ := List.nodup_cons.mp hn
    rw [List.find?_cons]
    rcases List.mem_cons.mp he with rfl | he
    · rw [decide_eq_true rfl]; rfl
    · have : ¬ a.1 = e.1 := fun z => h1 (by rw [z]; exact List.mem_map_of_mem he)
      rw [decide_eq_false this]
      exact ih h2 he
/-- what is not 0 -/
def nzE (DL : List (Nat × Nat)) : List (Nat × Nat) := DL.filter fun e => decide (e.2 ≠ 0)
theorem nz_sum : ∀ {DL : List (Nat × Nat)}, ((dotN (nzE DL) : Nat) : Int) = sumE DL
  | [] => rfl
  | e :: l => by
    have ih := nz_sum (DL := l)
    unfold nzE dotN sumE at *
    rw [List.filter_cons, List.map_cons, List.sum_cons, ← ih]
    by_cases h : e.2 = 0
    · rw [if_neg (by simpa using h), h]
      simp
    · rw [if_pos (by simpa using h), List.map_cons, List.sum_cons]
      push_cast
      rfl
theorem sum_perm {DL DL' : List (Nat × Nat)} (h : DL'.Perm DL) : sumE DL' = sumE DL := by
  unfold sumE
  induction h with
  | nil => rfl
  | cons x _ ih => rw [List.map_cons, List.map_cons, List.sum_cons, List.sum_cons, ih]
  | swap x y l => simp only [List.map_cons, List.sum_cons]; omega
  | trans _ _ h1 h2 => rw [h1, h2]
end
/-! ### merged lots: the walks -/
section
variable {p q gg : Nat} {g : G} {Q : D → G → Prop} {n k a b c d x i many m : Nat}
def rowP (p gg : Nat) (e : Nat × Nat) : P := .tuple [.int (el p gg e.1 : Nat), .int (e.2 : Nat)]
def sortE (p gg : Nat) (DL : List (Nat × Nat)) : List (Nat × Nat) := DL.mergeSort fun a b => decide (el p gg a.1 ≤ el p gg b.1)
def keysE (p gg : Nat) (DL : List (Nat × Nat)) : List Int := DL.map fun e => ((el p gg e.1 : Nat) : Int)
theorem sortE_perm {DL : List (Nat × Nat)} : (sortE p gg DL).Perm DL := List.mergeSort_perm _ _
theorem sortE_keys {DL : List (Nat × Nat)} : sortI (keysE p gg DL) = keysE p gg (sortE p gg DL) := by
  refine sorted_unique ((sortI_perm _).trans (sortE_perm.symm.map _)) (sortI_le _) ?_
  unfold keysE
  rw [List.pairwise_map]
  have := List.pairwise_mergeSort (le := fun a b : Nat × Nat => decide (el p gg a.1 ≤ el p gg b.1)) (fun a b c h1 h2 => by simp at *; omega) (fun a b => by simp; omega) DL
  refine this.imp fun h => ?_
  have := of_decide_eq_true h
  omega
def mrows (p q gg : Nat) (L : List Chk) (ws : List Nat) : List (Nat × Nat) := nzE (sortE p gg (addAll q [] (conL (L.zip ws))))
theorem addAll_app {DL : List (Nat × Nat)} {cs ds : List (Nat × Int)} : addAll q DL (cs ++ ds) = addAll q (addAll q DL cs) ds := by unfold addAll; rw [List.foldl_append]
theorem dnil : DOk q [] := ⟨fun e he => absurd he List.not_mem_nil, List.nodup_nil⟩
theorem dlP_keys {DL : List (Nat × Nat)} : (dlP p gg DL).map (·.1) = (keysE p gg DL).map PyData.int := by unfold dlP keysE; rw [List.map_map, List.map_map]; rfl
theorem dlP_len {DL : List (Nat × Nat)} : (dlP p gg DL).length = DL.length := by unfold dlP; rw [List.length_map]
/-- one turn at the dict: what stands in it and what is put -/
theorem turn_get (G : Grp p q gg) {DL : List (Nat × Nat)} (h : DOk q DL) : (getKP (dlP p gg DL) (.int (el p gg a : Nat))).getD (.int 0) = .int (((getE (a % q) DL).getD 0 : Nat)) := by
  rw [get_el G h]
  cases getE (a % q) DL <;> rfl
theorem turn_put (G : Grp p q gg) {DL : List (Nat × Nat)} (h : DOk q DL) {v : Int} : putKP (dlP p gg DL) (.int (el p gg a : Nat)) (.int (((((getE (a % q) DL).getD 0 : Nat) : Int) + v) % (q : Int))) = dlP p gg (addE q DL (a, v)) := by
  have hq := G.q2
  have h1 := Int.emod_nonneg ((((getE (a % q) DL).getD 0 : Nat) : Int) + v) (show (q : Int) ≠ 0 by omega)
  have : (((((getE (a % q) DL).getD 0 : Nat) : Int) + v) % (q : Int)) = (((((((getE (a % q) DL).getD 0 : Nat) : Int) + v) % (q : Int)).toNat : Nat) : Int) := (Int.toNat_of_nonneg h1).symm
  rw [this, put_el G h]
  rfl
theorem conL_snoc {l : List (Chk × Nat)} {a : Chk × Nat} : conL (l ++ [a]) = conL l ++ conC a.1 a.2 := by unfold conL; rw [List.flatMap_append]; simp
theorem conC_len {c : Chk} {w : Nat} : (conC c w).length = c.bs.length + 1 := by unfold conC; simp
theorem conL_len {l : List (Chk × Nat)} (h : ∀ a ∈ l, a.1.bs.length ≤ 5) : (conL l).length ≤ 6 * l.length := by
  induction l with
  | nil => exact Nat.le_refl _
  | cons a l ih =>
    have h1 := ih fun b hb => h b (List.mem_cons_of_mem _ hb)
    have h2 := h a List.mem_cons_self
    unfold conL at h1 ⊢
    rw [List.flatMap_cons, List.length_append, conC_len, List.length_cons]
    omega
theorem nz_dec {e : Nat × Nat} : (!decide (((e.2 : Nat) : Int) = 0)) = decide (e.2 ≠ 0) := by
  by_cases h : e.2 = 0
  · rw [h]; rfl
  · rw [decide_eq_false (by omega), decide_eq_true h]; rfl
def bsC (w : Nat) (l : List (Nat × Nat)) : List (Nat × Int) := l.map fun a => (a.1, ((w : Nat) : Int) * ((a.2 : Nat) : Int))
local macro_rules | `(tactic| walk_at "ev_792ec_18") => `(tactic| simp only [↓w_C, ↓w_var, ↓w_op, ↓w_un, ↓w_isi, ↓w_b, ↓w_nil, ↓w_cons, ↓w_tup, ↓w_lst, ↓w_not, ↓w_and, ↓w_or, ↓w_ifE, ↓w_chain, ↓w_tv, ↓w_tvAnd, ↓w_tvOr, ↓w_tvNot, ↓w_tvYes, ↓w_call, ↓w_callK, ↓w_sl, ↓w_oNo, ↓w_oSome, ↓w_newCell, ↓w_comp, ↓Sim.w_next, ↓w_seq, ↓w_ret, ↓w_retN, ↓w_never, ↓w_expr, ↓w_if, ↓w_asg, ↓w_own, ↓w_freeze, ↓w_own1, ↓w_par, ↓w_par3, ↓w_asgT, ↓w_tP, ↓w_aug, ↓w_for, ↓w_forNil, ↓w_iSeq, ↓w_range1X, ↓w_range2X, ↓lk_shX, ↓lk_ownX, ↓lk_succ, ↓stop_ap, ↓w_tTup, ↓w_tNil, ↓w_tCons, ↓w_tName, ↓o_add, ↓o_sub, ↓o_addI, ↓o_neg, ↓o_mulX, ↓o_mod, ↓o_div, ↓o_powX, ↓o_lt, ↓o_le, ↓o_gt, ↓o_ge, ↓o_eq, ↓o_ne, ↓o_ixT, ↓o_ixL, ↓o_ixB, ↓o_ixS, ↓o_ixC, ↓o_int, ↓o_abs, ↓o_max2, ↓o_min2, ↓o_lenT, ↓o_lenL, ↓o_lenB, ↓o_lenS, ↓o_divmod, ↓o_slT, ↓o_slL, ↓o_slB, ↓o_repr, ↓o_eqS, ↓o_neS, ↓o_eqB, ↓o_neB, ↓w_forCons, ↓w_compNil, ↓w_compCons, ↓o_allL, ↓o_anyL, ↓o_eqT2, ↓o_neT2, ↓o_tupleL, ↓o_tupleB, ↓o_tupleT, ↓o_sumL, ↓o_addT, ↓o_addL, ↓w_chain3, ↓w_zip2, ↓w_enum1, ↓w_parSO, ↓o_inT, ↓o_inL, ↓o_inB, ↓o_repL, ↓o_mulL, ↓o_catL, ↓o_catBL, ↓o_catLB, ↓o_listFL, ↓o_listFB, ↓o_listFT, ↓o_eqNil, ↓o_reprB, ↓o_neLnn, ↓o_neLcn, ↓o_neBnn, ↓o_neBcn, ↓R.wp_ok, ↓w_get2, ↓w_dict0, ↓w_forI, ↓w_dictI, ↓w_putD, ↓w_comp2, ↓w_isi2, ↓w_parOO, ↓w_parOS, ↓w_pop, ↓w_lrange, ↓w_zip3, ↓o_mulT, ↓o_inD, ↓o_ixD, ↓w_callC, ↓w_callCK, ↓w_nest, ↓o_ixN, ↓o_reprN, ↓w_cellM, ↓w_sortSet, ↓w_lenSet, ↓w_enumZ, ↓w_listZip, ↓w_parSOO, ↓e_is_integer, ↓e_is_row, ↓cut4, ↓strOk_group, ↓gv, ↓gvP, ↓strOk_check, ↓el_mulI, ↓bsP_len, ↓nsP_len, ↓lotP_len, ↓ints0_len, ↓Int.toNat_natCast, ↓ringP_len, ↓o_isNd, ↓o_notNd, ↓o_isBB, ↓o_notBB,
  startE_eq, List.reduceReplicate, Nat.reduceSub, p_name, p_tup, p_tupL, p_cons, p_nil, wipe_nil, wipe_cons, bls_nil, bls_cons, Sim.ints_nil, Sim.ints_cons, List.all_cons, List.all_nil, List.any_cons, List.any_nil, id, Bool.and_true, Bool.true_and, Option.bind_some, perm, List.filterMap_cons_some, List.filterMap_nil, List.filterMap_cons, List.nil_append, List.cons_append, atI_lit, setP_lit, Sim.atI_nat, Nat.reduceLT, Int.cast_ofNat_Int, Int.natCast_zero, Int.natCast_one, Int.reduceEq, Int.reduceToNat, isInt_none, isInt_bool, isInt_int, isInt_str, isInt_list, isInt_tuple, isInt_dict, isInt_bL, isInt_cell, isInt_scr, isBool_none, isBool_bool, isBool_int, isBool_str, isBool_list, isBool_tuple, isBool_dict, isBool_bL, isBool_cell, isBool_scr, isStr_none, isStr_bool, isStr_int, isStr_str, isStr_list, isStr_tuple, isStr_dict, isStr_bL, isStr_cell, isStr_scr, isTup_none, isTup_bool, isTup_int, isTup_str, isTup_list, isTup_tuple, isTup_dict, isTup_bL, isTup_cell, isTup_scr, isLst_none, isLst_bool, isLst_int, isLst_str, isLst_list, isLst_tuple, isLst_dict, isLst_bL, isLst_cell, isLst_scr, isDic_none, isDic_bool, isDic_int, isDic_str, isDic_list, isDic_tuple, isDic_dict, isDic_bL, isDic_cell, isDic_scr, cnd_not, cnd_true, cnd_false, dats, isB_d, isB_cell, isB_scr, isB_bor, noC_d, noC_cell, noC_scr, noC_bor, List.map_cons, List.map_nil, sizeLine, Option.map_some, List.getElem?_cons_zero, List.getElem?_cons_succ, List.set_cons_zero, List.set_cons_succ, Bool.or_false, Bool.false_or, Bool.or_self, Bool.false_eq_true, Bool.not_true, Bool.not_false, decide_true, decide_false, true_and, and_true, and_self, if_true, if_false, reduceIte, Int.reduceLT, Int.reduceLE, Int.reduceNeg, Int.reducePow, Nat.reducePow, List.length_cons, List.length_nil, Nat.reduceAdd, Int.reduceAdd, Int.reduceSub, Int.reduceMul, seqOf_l, seqOf_t, seqOf_b, zipD_len, enumD_len, zipD_cons, zipD_nil, zipD_nil2, fInB_f, fInB_t, flat_int, flat_str, flat_bool, flat_none, atI_m1, atI_m1c, List.length_map, bls_mapB, all_mapT, key_i, key_s, dic_d, dic_b, popHead_c, cellsOf, isB_nest, noC_nest])
local macro_rules | `(tactic| walk_at "call_792ec_18") => `(tactic| refine w_call0 ?hb ?hc; (case hb => exact rfl); first | (with_reducible apply s_want_group; (· assumption)) | (with_reducible apply s_times_of; (· assumption)) | (with_reducible apply s_under_of; (· assumption)) | (with_reducible apply s_power_of; (· assumption); (· (first | assumption | omega))) | (with_reducible apply s_is_el; (· assumption)) | (with_reducible apply s__law_power; (· assumption); (· (first | assumption | omega))) | (with_reducible apply s__law_power1; (· assumption); (· (first | assumption | omega))) | (with_reducible apply s__law_log'; (· assumption)) | (with_reducible apply s_is_below; (· (first | assumption | omega))) | (with_reducible apply s_are_elB; (· assumption); (· (first | assumption | omega)); (· (first | assumption | omega))) | (with_reducible apply s_are_nums; (· (first | assumption | omega)); (· (first | assumption | omega)); (· assumption)) | (with_reducible apply s_is_check_of; (· assumption); (· assumption)) | (with_reducible apply s_is_lot_of; (· assumption); (· assumption)) | (with_reducible apply s_want_lot; (· assumption); (· (first | assumption | omega))) | (with_reducible apply s_faults_of; (· assumption); (· assumption)) | (with_reducible apply s_want_weighed; (· assumption); (· assumption); (· assumption); (· assumption)))
local macro_rules | `(tactic| walk_at "run_792ec_18") => `(tactic| repeat (first | walk_at "ev_792ec_18" | refine cnd_n (decide_eq_false (by omega)) ?_ | refine cnd_p (decide_eq_true (by omega)) ?_ | refine And.intro (by omega) ?_ | walk_at "call_792ec_18"))
theorem s_merged_of (G : Grp p q gg) {L : List Chk} {ws : List Nat} (C : LotOk q L) (hL : L.length ≤ 10) (hl : ws.length = L.length) (hw : ∀ w ∈ ws, w < q) (h : Q (.d (.tuple ((mrows p q gg L ws).map (rowP p gg)))) g) : (fn_merged_of [gv p q gg, .d (.tuple (lotP p gg L)), .d (.tuple (ws.map fun w => .int (w : Nat)))] g).wp Q := by
  have hq := G.q2
  have hq1 := G.q1
  unfold fn_merged_of
  rw [w_fn]
  unfold m_merged_of
  walk_at "run_792ec_18"
  have hz : zipD (lotP p gg L) (ws.map fun w => PyData.int (w : Nat)) = (L.zip ws).map fun a => D.d (.tuple [chkP p gg a.1, .int (a.2 : Nat)]) := by
    unfold lotP
    rw [zipD_map]
  rw [hz]
  refine w_forL (fun j e g' => g' = g ∧ ∃ s4 s5 s6 s7 s8, e = [.sh (gv p q gg), .sh (.d (.tuple (lotP p gg L))), .sh (.d (.tuple (ws.map fun w => .int (w : Nat)))), .own (.dict (dlP p gg (addAll q [] (conL ((L.zip ws).take j))))), s4, s5, s6, s7, s8]) ⟨rfl, _, _, _, _, _, rfl⟩ ?_ ?_
  · rintro j e g' y hd ⟨rfl, s4, s5, s6, s7, s8, rfl⟩
    obtain ⟨a, ha, rfl⟩ := map_get hd
    have hac := C.h3 a.1 (List.of_mem_zip (List.mem_of_getElem? ha)).1
    have ha2 : a.2 < q := hw _ (List.of_mem_zip (List.mem_of_getElem? ha)).2
    have hok := (addAll_ok (cs := conL ((L.zip ws).take j)) (by omega) (dnil (q := q)))
    obtain ⟨hok, hlen, _⟩ := hok
    have hcl := conL_len (l := (L.zip ws).take j) (fun b hb => (C.h3 b.1 (List.of_mem_zip (List.mem_of_mem_take hb)).1).h2)
    rw [List.length_take, List.length_zip] at hcl
    rw [take_snoc2 ha, conL_snoc, addAll_app]
    generalize addAll q [] (conL ((L.zip ws).take j)) = D0 at hok hlen
    rw [List.length_nil] at hlen
    refine ⟨rfl, _, rfl, ?_⟩
    unfold chkP
    walk_at "run_792ec_18"
    have hb5 := hac.h2
    rw [show zipD (bsP p gg a.1.bs) (nsP a.1.bs) = a.1.bs.map fun b => D.d (.tuple [.int (el p gg b.1 : Nat), .int (b.2 : Nat)]) from zipD_self]
    refine w_forL (fun r e g'' => g'' = g' ∧ ∃ s6 s7 s8, e = [.sh (gv p q gg), .sh (.d (.tuple (lotP p gg L))), .sh (.d (.tuple (ws.map fun w => .int (w : Nat)))), .own (.dict (dlP p gg (addAll q D0 (bsC a.2 (a.1.bs.take r))))), .sh (.d (chkP p gg a.1)), .sh (.d (.int (a.2 : Nat))), s6, s7, s8]) ⟨rfl, _, _, _, rfl⟩ ?_ ?_
    · rintro r e g'' y hd ⟨rfl, s6, s7, s8, rfl⟩
      obtain ⟨b, hb, rfl⟩ := map_get hd
      have e1 : bsC a.2 (a.1.bs.take (r + 1)) = bsC a.2 (a.1.bs.take r) ++ [(b.1, ((a.2 : Nat) : Int) * ((b.2 : Nat) : Int))] := by rw [take_snoc2 hb]; unfold bsC; rw [List.map_append]; rfl
      obtain ⟨ok2, len2, _⟩ := addAll_ok (cs := bsC a.2 (a.1.bs.take r)) (by omega) hok
      have len3 : (bsC a.2 (a.1.bs.take r)).length ≤ 5 := by unfold bsC; rw [List.length_map, List.length_take]; omega
      rw [e1, addAll_app]
      generalize addAll q D0 (bsC a.2 (a.1.bs.take r)) = D1 at ok2 len2
      refine ⟨rfl, _, rfl, ?_⟩
      walk_at "run_792ec_18"
      rw [turn_get G ok2]
      walk_at "run_792ec_18"
      rw [turn_put G ok2, dlP_len]
      exact ⟨by omega, _, _, _, rfl⟩
    · rintro e g'' ⟨rfl, s6, s7, s8, rfl⟩
      rw [List.length_map, List.take_length]
      obtain ⟨ok2, len2, _⟩ := addAll_ok (cs := bsC a.2 a.1.bs) (by omega) hok
      have len3 : (bsC a.2 a.1.bs).length ≤ 5 := by unfold bsC; rw [List.length_map]; omega
      have e1 : addAll q D0 (conC a.1 a.2) = addE q (addAll q D0 (bsC a.2 a.1.bs)) (a.1.t, -((a.2 : Nat) : Int)) := by
        unfold conC
        rw [addAll_app]
        rfl
      rw [e1]
      generalize addAll q D0 (bsC a.2 a.1.bs) = D1 at ok2 len2
      unfold chkP
      walk_at "run_792ec_18"
      rw [turn_get G ok2]
      walk_at "run_792ec_18"
      rw [Int.sub_eq_add_neg, turn_put G ok2, dlP_len]
      exact ⟨by omega, _, _, _, _, _, rfl⟩
  · rintro e g' ⟨rfl, s4, s5, s6, s7, s8, rfl⟩
    rw [List.length_map, List.take_length]
    walk_at "run_792ec_18"
    obtain ⟨ok2, len2, _⟩ := addAll_ok (cs := conL (L.zip ws)) (by omega) (dnil (q := q))
    have hcl := conL_len (l := L.zip ws) (fun b hb => (C.h3 b.1 (List.of_mem_zip hb).1).h2)
    rw [List.length_zip] at hcl
    unfold mrows at h
    generalize addAll q [] (conL (L.zip ws)) = D0 at ok2 len2 h
    have hkl : (keysE p gg D0).length = D0.length := List.length_map _
    have hnil : ([] : List (Nat × Nat)).length = 0 := rfl
    refine w_sortedD (kvs := dlP p gg D0) (ks := keysE p gg D0) rfl dlP_keys (by omega) ?_
    rw [sortE_keys]
    have hsl : (sortE p gg D0).length = D0.length := sortE_perm.length_eq
    refine ⟨by rw [List.length_map]; unfold keysE; rw [List.length_map]; omega, ?_⟩
    refine w_compFM (l := sortE p gg D0) (to := fun e => I (el p gg e.1)) (F := rowP p gg) (f := fun e => decide (e.2 ≠ 0)) (by unfold keysE; rw [List.map_map, List.map_map]; rfl) (fun e he => ⟨rfl, _, rfl, ?_⟩) ?_
    · have hm : e ∈ D0 := sortE_perm.mem_iff.mp he
      have hg : getKP (dlP p gg D0) (.int (el p gg e.1 : Nat)) = some (.int (e.2 : Nat)) := by
        rw [get_el G ok2, Nat.mod_eq_of_lt (ok2.lt e hm).1, getE_mem ok2.nd hm]; rfl
      walk_at "run_792ec_18"
      simp only [hg]
      walk_at "run_792ec_18"
      exact ⟨nz_dec, fun _ => rfl⟩
    · exact h
/-- the law's items of a check -/
def conI (c : Chk) : List (Nat × Int) := (c.bs.map fun a => (a.1, ((a.2 : Nat) : Int))) ++ [(c.t, -1)]
theorem conI_C {c : Chk} {w : Nat} : (conI c).map (fun a => (a.1, ((w : Nat) : Int) * a.2)) = conC c w := by
  unfold conI conC
  rw [List.map_append, List.map_map, List.map_cons, List.map_nil]
  rw [Int.mul_neg, Int.mul_one]
  rfl
theorem conI_P {c : Chk} : List.zipWith (fun x y => PyData.tuple [x, y]) (bsP p gg c.bs) (nsP c.bs) ++ [PyData.tuple [.int (el p gg c.t : Nat), .int (-1)]] = (conI c).map fun a => PyData.tuple [.int (el p gg a.1 : Nat), .int a.2] := by
  unfold conI bsP nsP
  rw [List.map_append, List.map_map, List.zipWith_map, List.zipWith_self]
  rfl
theorem conI_len {c : Chk} : (conI c).length = c.bs.length + 1 := by unfold conI; simp
theorem s__law_merged (G : Grp p q gg) {L : List Chk} {ws : List Nat} (C : LotOk q L) (hL : L.length ≤ 10) (hl : ws.length = L.length) (hw : ∀ w ∈ ws, w < q) (h : Q (.d (.tuple ((mrows p q gg L ws).map (rowP p gg)))) g) : (fn__law_merged [gv p q gg, .d (.tuple (lotP p gg L)), .d (.tuple (ws.map fun w => .int (w : Nat)))] g).wp Q := by
  have hq := G.q2
  have hq1 := G.q1
  unfold fn__law_merged
  rw [w_fn]
  unfold m__law_merged
  walk_at "run_792ec_18"
  have hz : zipD (lotP p gg L) (ws.map fun w => PyData.int (w : Nat)) = (L.zip ws).map fun a => D.d (.tuple [chkP p gg a.1, .int (a.2 : Nat)]) := by
    unfold lotP
    rw [zipD_map]
  rw [hz]
  refine w_forL (fun j e g' => g' = g ∧ ∃ s4 s5 s6 s7 s8, e = [.sh (gv p q gg), .sh (.d (.tuple (lotP p gg L))), .sh (.d (.tuple (ws.map fun w => .int (w : Nat)))), .own (.dict (dlP p gg (addAll q [] (conL ((L.zip ws).take j))))), s4, s5, s6, s7, s8]) ⟨rfl, _, _, _, _, _, rfl⟩ ?_ ?_
  · rintro j e g' y hd ⟨rfl, s4, s5, s6, s7, s8, rfl⟩
    obtain ⟨a, ha, rfl⟩ := map_get hd
    have hac := C.h3 a.1 (List.of_mem_zip (List.mem_of_getElem? ha)).1
    have ha2 : a.2 < q := hw _ (List.of_mem_zip (List.mem_of_getElem? ha)).2
    have hok := (addAll_ok (cs := conL ((L.zip ws).take j)) (by omega) (dnil (q := q)))
    obtain ⟨hok, hlen, _⟩ := hok
    have hcl := conL_len (l := (L.zip ws).take j) (fun b hb => (C.h3 b.1 (List.of_mem_zip (List.mem_of_mem_take hb)).1).h2)
    rw [List.length_take, List.length_zip] at hcl
    rw [take_snoc2 ha, conL_snoc, addAll_app]
    generalize addAll q [] (conL ((L.zip ws).take j)) = D0 at hok hlen
    rw [List.length_nil] at hlen
    refine ⟨rfl, _, rfl, ?_⟩
    have hb5 := hac.h2
    unfold chkP
    walk_at "run_792ec_18"
    rw [conI_P]
    refine ⟨by rw [List.length_zipWith, bsP_len, nsP_len]; omega, ?_⟩
    refine w_forL (fun r e g'' => g'' = g' ∧ ∃ s6 s7 s8, e = [.sh (gv p q gg), .sh (.d (.tuple (lotP p gg L))), .sh (.d (.tuple (ws.map fun w => .int (w : Nat)))), .own (.dict (dlP p gg (addAll q D0 (((conI a.1).take r).map fun b => (b.1, ((a.2 : Nat) : Int) * b.2))))), .sh (.d (chkP p gg a.1)), .sh (.d (.int (a.2 : Nat))), s6, s7, s8]) ⟨rfl, _, _, _, rfl⟩ ?_ ?_
    · rintro r e g'' y hd ⟨rfl, s6, s7, s8, rfl⟩
      rw [List.map_map] at hd
      obtain ⟨b, hb, rfl⟩ := map_get hd
      have e1 : ((conI a.1).take (r + 1)).map (fun b => (b.1, ((a.2 : Nat) : Int) * b.2)) = ((conI a.1).take r).map (fun b => (b.1, ((a.2 : Nat) : Int) * b.2)) ++ [(b.1, ((a.2 : Nat) : Int) * b.2)] := by rw [take_snoc2 hb, List.map_append]; rfl
      obtain ⟨ok2, len2, _⟩ := addAll_ok (cs := ((conI a.1).take r).map fun b => (b.1, ((a.2 : Nat) : Int) * b.2)) (by omega) hok
      have len3 : (((conI a.1).take r).map fun b => (b.1, ((a.2 : Nat) : Int) * b.2)).length ≤ 6 := by rw [List.length_map, List.length_take, conI_len]; omega
      rw [e1, addAll_app]
      generalize addAll q D0 (((conI a.1).take r).map fun b => (b.1, ((a.2 : Nat) : Int) * b.2)) = D1 at ok2 len2
      refine ⟨rfl, _, rfl, ?_⟩
      show (sPutD _ _ _ (List.set _ _ (Sl.sh (D.d (PyData.int b.2)))) _).wp _ _
      walk_at "run_792ec_18"
      rw [turn_get G ok2]
      walk_at "run_792ec_18"
      rw [turn_put G ok2, dlP_len]
      exact ⟨by omega, _, _, _, rfl⟩
    · rintro e g'' ⟨rfl, s6, s7, s8, rfl⟩
      rw [List.length_map, List.length_map, List.take_length, conI_C]
      exact ⟨rfl, _, _, _, _, _, rfl⟩
  · rintro e g' ⟨rfl, s4, s5, s6, s7, s8, rfl⟩
    rw [List.length_map, List.take_length]
    walk_at "run_792ec_18"
    obtain ⟨ok2, len2, _⟩ := addAll_ok (cs := conL (L.zip ws)) (by omega) (dnil (q := q))
    have hcl := conL_len (l := L.zip ws) (fun b hb => (C.h3 b.1 (List.of_mem_zip hb).1).h2)
    rw [List.length_zip] at hcl
    unfold mrows at h
    generalize addAll q [] (conL (L.zip ws)) = D0 at ok2 len2 h
    have hkl : (keysE p gg D0).length = D0.length := List.length_map _
    have hnil : ([] : List (Nat × Nat)).length = 0 := rfl
    refine w_sortedD (kvs := dlP p gg D0) (ks := keysE p gg D0) rfl dlP_keys (by omega) ?_
    rw [sortE_keys]
    have hsl : (sortE p gg D0).length = D0.length := sortE_perm.length_eq
    refine ⟨by rw [List.length_map]; unfold keysE; rw [List.length_map]; omega, ?_⟩
    refine w_compFM (l := sortE p gg D0) (to := fun e => I (el p gg e.1)) (F := rowP p gg) (f := fun e => decide (e.2 ≠ 0)) (by unfold keysE; rw [List.map_map, List.map_map]; rfl) (fun e he => ⟨rfl, _, rfl, ?_⟩) ?_
    · have hm : e ∈ D0 := sortE_perm.mem_iff.mp he
      have hg : getKP (dlP p gg D0) (.int (el p gg e.1 : Nat)) = some (.int (e.2 : Nat)) := by
        rw [get_el G ok2, Nat.mod_eq_of_lt (ok2.lt e hm).1, getE_mem ok2.nd hm]; rfl
      walk_at "run_792ec_18"
      simp only [hg]
      walk_at "run_792ec_18"
      exact ⟨nz_dec, fun _ => rfl⟩
    · exact h
end
/-! ### batches: sums of weights, the one weight -/
section
variable {p q gg : Nat} {g : G} {Q : D → G → Prop} {n k a b c d x i many m e t j : Nat}
theorem cgm {q a b : Nat} : a % q = b % q ↔ (q : Int) ∣ (a : Int) - b := by
  rw [← Int.emod_eq_emod_iff_emod_sub_eq_zero.trans Int.dvd_iff_emod_eq_zero.symm, ← Int.natCast_emod, ← Int.natCast_emod, Int.natCast_inj]
theorem dotN_app (l l' : List (Nat × Nat)) : dotN (l ++ l') = dotN l + dotN l' := by unfold dotN; rw [List.map_append, List.sum_append]
theorem bw_app {L M : List Chk} {ws vs : List Nat} (h : ws.length = L.length) : bw q (L ++ M) (ws ++ vs) = bw q L ws ++ bw q M vs := by
  unfold bw
  rw [List.map_append, List.zip_append (by rw [List.length_map]; omega)]
theorem zip_add : ∀ {fs ws vs : List Nat}, ws.length = vs.length → (q : Int) ∣ ((dotN (fs.zip (List.zipWith (fun a b => (a + b) % q) ws vs)) : Nat) : Int) - ((dotN (fs.zip ws) + dotN (fs.zip vs) : Nat) : Int)
  | [], _, _, _ => ⟨0, by simp [dotN]⟩
  | f :: fs, [], [], _ => ⟨0, by simp [dotN]⟩
  | f :: fs, w :: ws, v :: vs, h => by
    obtain ⟨u, hu⟩ := zip_add (fs := fs) (ws := ws) (vs := vs) (by simpa using h)
    have e1 : ∀ (a : Nat × Nat) (l : List (Nat × Nat)), dotN (a :: l) = a.1 * a.2 + dotN l := fun a l => by unfold dotN; rw [List.map_cons, List.sum_cons]
    simp only [List.zipWith_cons_cons, List.zip_cons_cons, e1]
    refine ⟨u - f * ((w + v : Nat) / q : Nat), ?_⟩
    have e2 : (((w + v) % q : Nat) : Int) = (w : Int) + v - q * (((w + v) / q : Nat) : Int) := by
      have := Nat.div_add_mod (w + v) q
      have h3 : ((q * ((w + v) / q) + (w + v) % q : Nat) : Int) = ((w + v : Nat) : Int) := by rw [this]
      push_cast at h3 ⊢
      omega
    push_cast at hu ⊢
    push_cast at e2
    rw [Int.mul_sub, ← hu, e2]
    generalize (((w : Int) + v) / q) = A
    grind
  | _ :: _, [], _ :: _, h => by simp at h
  | _ :: _, _ :: _, [], h => by simp at h
theorem bw_add {L : List Chk} {ws vs : List Nat} (h : ws.length = vs.length) : dotN (bw q L (List.zipWith (fun a b => (a + b) % q) ws vs)) % q = (dotN (bw q L ws) + dotN (bw q L vs)) % q := cgm.mpr (zip_add h)
theorem but_set {ws : List Nat} : butW (ws.set j n) j = butW ws j := by
  unfold butW
  refine List.ext_getElem? fun s => ?_
  rw [List.getElem?_map, List.getElem?_map, List.getElem?_zipIdx, List.getElem?_zipIdx, List.getElem?_set]
  by_cases e : j = s
  · subst e
    rw [if_pos rfl]
    by_cases h : j < ws.length
    · rw [if_pos h, List.getElem?_eq_getElem h]; simp
    · rw [if_neg h, List.getElem?_eq_none (by omega)]
  · rw [if_neg e]
theorem bw_set {L : List Chk} {ws : List Nat} {f : Nat} (hj : (fxs q L)[j]? = some f) (hl : j < ws.length) : dotN (bw q L (ws.set j n)) = dotN ((fxs q L).zip (butW ws j)) + f * n := by
  have h2 : (ws.set j n)[j]? = some n := by rw [List.getElem?_set, if_pos rfl, if_pos hl]
  have := dot_butW (fs := fxs q L) (ws := ws.set j n) hj h2
  rw [but_set] at this
  exact this
theorem cancelN (hq : PrimeN q) {f a b : Nat} (hf : f % q ≠ 0) (ha : a < q) (hb : b < q) (h : f * a % q = f * b % q) : a = b := by
  have hd := cgm.mp h
  have hd : (q : Int) ∣ (f : Int) * ((a : Int) - b) := by rw [Int.mul_sub]; push_cast at hd; exact hd
  rcases hq.euclid hd with h1 | h1
  · exact absurd (Nat.mod_eq_zero_of_dvd (Int.ofNat_dvd.mp h1)) hf
  · have h2 : q ∣ ((a : Int) - b).natAbs := Int.ofNat_dvd_left.mp h1
    have h3 : ((a : Int) - b).natAbs < q := by omega
    have := Nat.eq_zero_of_dvd_of_lt h2 h3
    omega
theorem only_iff (hq : PrimeN q) {fs ws : List Nat} {f D o : Nat} (hj : fs[j]? = some f) (hD : dotN (fs.zip (butW ws j)) = D) (ho : onlyN q fs ws j = some o) : o < q ∧ ∀ n, n < q → ((D + f * n) % q = 0 ↔ n = o) := by
  have hq1 := hq.1
  unfold onlyN at ho
  have hg : fs.getD j 0 = f := by rw [List.getD_eq_getElem?_getD, hj]; rfl
  rw [hg, hD] at ho
  split at ho
  · cases ho
  rename_i hf
  cases ho
  have hinv := inv_mod hq hf
  have hlt : ∀ x, x % q < q := fun x => Nat.mod_lt _ (by omega)
  refine ⟨hlt _, ?_⟩
  have key : (D + f * (D * (q - 1) % q * ((f % q) ^ (q - 2) % q) % q)) % q = 0 % q := by
    rw [cgm]
    obtain ⟨u, hu⟩ := cgm.mp hinv
    obtain ⟨r, rfl⟩ : ∃ r, q = r + 1 := ⟨q - 1, by omega⟩
    rw [Nat.add_sub_cancel] at *
    generalize (f % (r + 1)) ^ (r + 1 - 2) % (r + 1) = I at hu ⊢
    have e1 := Nat.div_add_mod (D * r % (r + 1) * I) (r + 1)
    have e2 := Nat.div_add_mod (D * r) (r + 1)
    generalize D * r % (r + 1) * I % (r + 1) = X at e1 ⊢
    generalize D * r % (r + 1) * I / (r + 1) = A at e1
    generalize hY : D * r % (r + 1) = Y at e1 e2
    generalize D * r / (r + 1) = B at e2
    have e1 : (((r + 1) * A + X : Nat) : Int) = ((Y * I : Nat) : Int) := by rw [e1]
    have e2 : (((r + 1) * B + Y : Nat) : Int) = ((D * r : Nat) : Int) := by rw [e2]
    push_cast at *
    refine ⟨D + D * r * u - B * (f * I) - f * A, ?_⟩
    grind
  intro n hn
  rw [Nat.zero_mod] at key
  constructor
  · intro h
    refine cancelN hq hf hn (hlt _) ?_
    have h2 : (D + f * n) % q = (D + f * (D * (q - 1) % q * ((f % q) ^ (q - 2) % q) % q)) % q := by rw [h, key]
    rw [cgm] at h2 ⊢
    obtain ⟨u, hu⟩ := h2
    exact ⟨u, by push_cast at hu ⊢; omega⟩
  · intro h
    rw [h]; exact key
theorem range_one {o : Nat} : ∀ {q : Nat}, o < q → (List.range q).filter (fun n => decide (n = o)) = [o]
  | 0, h => by omega
  | q + 1, h => by
    rw [List.range_succ, List.filter_append]
    by_cases e : o = q
    · subst e
      have : (List.range o).filter (fun n => decide (n = o)) = [] := by
        rw [List.filter_eq_nil_iff]
        intro a ha
        have := List.mem_range.mp ha
        simp; omega
      rw [this]; simp
    · rw [range_one (by omega)]
      have : ([q].filter fun n => decide (n = o)) = [] := by simp; omega
      rw [this]; rfl
theorem rows_dot {L : List Chk} {ws : List Nat} (hq : 2 ≤ q) : dotN (mrows p q gg L ws) % q = dotN (bw q L ws) % q := by
  rw [cgm]
  unfold mrows
  rw [nz_sum, sum_perm sortE_perm]
  obtain ⟨_, _, u, hu⟩ := addAll_ok (cs := conL (L.zip ws)) hq (dnil (q := q))
  obtain ⟨w, hw⟩ := conL_sum (l := L.zip ws) hq
  have e : ((L.zip ws).map fun a => (fx q a.1, a.2)) = bw q L ws := by
    unfold bw
    rw [List.zip_map_left]
    rfl
  rw [e] at hw
  have e0 : sumE [] = 0 := rfl
  rw [e0] at hu
  exact ⟨u + w, by rw [Int.mul_add, ← hu, ← hw]; omega⟩
theorem mrows_len {L : List Chk} {ws : List Nat} (C : LotOk q L) (hL : L.length ≤ 10) (hq : 2 ≤ q) : (mrows p q gg L ws).length ≤ 60 ∧ ∀ e ∈ mrows p q gg L ws, e.1 < q ∧ e.2 < q := by
  obtain ⟨ok, hl, _⟩ := addAll_ok (cs := conL (L.zip ws)) hq (dnil (q := q))
  have hcl := conL_len (l := L.zip ws) (fun b hb => (C.h3 b.1 (List.of_mem_zip hb).1).h2)
  rw [List.length_zip] at hcl
  have hsl := (sortE_perm (p := p) (gg := gg) (DL := addAll q [] (conL (L.zip ws)))).length_eq
  have hnil : ([] : List (Nat × Nat)).length = 0 := rfl
  unfold mrows nzE
  refine ⟨Nat.le_trans (List.length_filter_le _ _) (by omega), fun e he => ?_⟩
  exact ok.lt e (sortE_perm.mem_iff.mp (List.mem_filter.mp he).1)
end
/-! ### the law's batches -/
section
variable {p q gg : Nat} {g : G} {Q : D → G → Prop} {n k a b c d x i many m e t j : Nat}
theorem o_chk1 {c : Chk} : (fIx (.d (chkP p gg c)) (.d (.int 1)) g).wp Q = Q (.d (.tuple (bsP p gg c.bs))) g := by unfold chkP; rw [o_ixT]; rfl
theorem o_chk2 {c : Chk} : (fIx (.d (chkP p gg c)) (.d (.int 2)) g).wp Q = Q (.d (.tuple (nsP c.bs))) g := by unfold chkP; rw [o_ixT]; rfl
theorem o_chk3 {c : Chk} : (fIx (.d (chkP p gg c)) (.d (.int 3)) g).wp Q = Q (I (el p gg c.t)) g := by unfold chkP; rw [o_ixT]; rfl
local macro_rules | `(tactic| walk_at "ev_792ec_19") => `(tactic| simp only [↓w_C, ↓w_var, ↓w_op, ↓w_un, ↓w_isi, ↓w_b, ↓w_nil, ↓w_cons, ↓w_tup, ↓w_lst, ↓w_not, ↓w_and, ↓w_or, ↓w_ifE, ↓w_chain, ↓w_tv, ↓w_tvAnd, ↓w_tvOr, ↓w_tvNot, ↓w_tvYes, ↓w_call, ↓w_callK, ↓w_sl, ↓w_oNo, ↓w_oSome, ↓w_newCell, ↓w_comp, ↓Sim.w_next, ↓w_seq, ↓w_ret, ↓w_retN, ↓w_never, ↓w_expr, ↓w_if, ↓w_asg, ↓w_own, ↓w_freeze, ↓w_own1, ↓w_par, ↓w_par3, ↓w_asgT, ↓w_tP, ↓w_aug, ↓w_for, ↓w_forNil, ↓w_iSeq, ↓w_range1X, ↓w_range2X, ↓lk_shX, ↓lk_ownX, ↓lk_succ, ↓stop_ap, ↓w_tTup, ↓w_tNil, ↓w_tCons, ↓w_tName, ↓o_add, ↓o_sub, ↓o_addI, ↓o_neg, ↓o_mulX, ↓o_mod, ↓o_div, ↓o_powX, ↓o_lt, ↓o_le, ↓o_gt, ↓o_ge, ↓o_eq, ↓o_ne, ↓o_ixT, ↓o_ixL, ↓o_ixB, ↓o_ixS, ↓o_ixC, ↓o_int, ↓o_abs, ↓o_max2, ↓o_min2, ↓o_lenT, ↓o_lenL, ↓o_lenB, ↓o_lenS, ↓o_divmod, ↓o_slT, ↓o_slL, ↓o_slB, ↓o_repr, ↓o_eqS, ↓o_neS, ↓o_eqB, ↓o_neB, ↓w_forCons, ↓w_compNil, ↓w_compCons, ↓o_allL, ↓o_anyL, ↓o_eqT2, ↓o_neT2, ↓o_tupleL, ↓o_tupleB, ↓o_tupleT, ↓o_sumL, ↓o_addT, ↓o_addL, ↓w_chain3, ↓w_zip2, ↓w_enum1, ↓w_parSO, ↓o_inT, ↓o_inL, ↓o_inB, ↓o_repL, ↓o_mulL, ↓o_catL, ↓o_catBL, ↓o_catLB, ↓o_listFL, ↓o_listFB, ↓o_listFT, ↓o_eqNil, ↓o_reprB, ↓o_neLnn, ↓o_neLcn, ↓o_neBnn, ↓o_neBcn, ↓R.wp_ok, ↓w_get2, ↓w_dict0, ↓w_forI, ↓w_dictI, ↓w_putD, ↓w_comp2, ↓w_isi2, ↓w_parOO, ↓w_parOS, ↓w_pop, ↓w_lrange, ↓w_zip3, ↓o_mulT, ↓o_inD, ↓o_ixD, ↓w_callC, ↓w_callCK, ↓w_nest, ↓o_ixN, ↓o_reprN, ↓w_cellM, ↓w_sortSet, ↓w_lenSet, ↓w_enumZ, ↓w_listZip, ↓w_parSOO, ↓e_is_integer, ↓e_is_row, ↓cut4, ↓strOk_group, ↓gv, ↓gvP, ↓strOk_check, ↓el_mulI, ↓bsP_len, ↓nsP_len, ↓lotP_len, ↓ints0_len, ↓Int.toNat_natCast, ↓ringP_len, ↓o_isNd, ↓o_notNd, ↓o_isBB, ↓o_notBB,
  startE_eq, List.reduceReplicate, Nat.reduceSub, p_name, p_tup, p_tupL, p_cons, p_nil, wipe_nil, wipe_cons, bls_nil, bls_cons, Sim.ints_nil, Sim.ints_cons, List.all_cons, List.all_nil, List.any_cons, List.any_nil, id, Bool.and_true, Bool.true_and, Option.bind_some, perm, List.filterMap_cons_some, List.filterMap_nil, List.filterMap_cons, List.nil_append, List.cons_append, atI_lit, setP_lit, Sim.atI_nat, Nat.reduceLT, Int.cast_ofNat_Int, Int.natCast_zero, Int.natCast_one, Int.reduceEq, Int.reduceToNat, isInt_none, isInt_bool, isInt_int, isInt_str, isInt_list, isInt_tuple, isInt_dict, isInt_bL, isInt_cell, isInt_scr, isBool_none, isBool_bool, isBool_int, isBool_str, isBool_list, isBool_tuple, isBool_dict, isBool_bL, isBool_cell, isBool_scr, isStr_none, isStr_bool, isStr_int, isStr_str, isStr_list, isStr_tuple, isStr_dict, isStr_bL, isStr_cell, isStr_scr, isTup_none, isTup_bool, isTup_int, isTup_str, isTup_list, isTup_tuple, isTup_dict, isTup_bL, isTup_cell, isTup_scr, isLst_none, isLst_bool, isLst_int, isLst_str, isLst_list, isLst_tuple, isLst_dict, isLst_bL, isLst_cell, isLst_scr, isDic_none, isDic_bool, isDic_int, isDic_str, isDic_list, isDic_tuple, isDic_dict, isDic_bL, isDic_cell, isDic_scr, cnd_not, cnd_true, cnd_false, dats, isB_d, isB_cell, isB_scr, isB_bor, noC_d, noC_cell, noC_scr, noC_bor, List.map_cons, List.map_nil, sizeLine, Option.map_some, List.getElem?_cons_zero, List.getElem?_cons_succ, List.set_cons_zero, List.set_cons_succ, Bool.or_false, Bool.false_or, Bool.or_self, Bool.false_eq_true, Bool.not_true, Bool.not_false, decide_true, decide_false, true_and, and_true, and_self, if_true, if_false, reduceIte, Int.reduceLT, Int.reduceLE, Int.reduceNeg, Int.reducePow, Nat.reducePow, List.length_cons, List.length_nil, Nat.reduceAdd, Int.reduceAdd, Int.reduceSub, Int.reduceMul, seqOf_l, seqOf_t, seqOf_b, zipD_len, enumD_len, zipD_cons, zipD_nil, zipD_nil2, fInB_f, fInB_t, flat_int, flat_str, flat_bool, flat_none, atI_m1, atI_m1c, List.length_map, bls_mapB, all_mapT, key_i, key_s, dic_d, dic_b, popHead_c, cellsOf, isB_nest, noC_nest])
local macro_rules | `(tactic| walk_at "call_792ec_19") => `(tactic| refine w_call0 ?hb ?hc; (case hb => exact rfl); first | (with_reducible apply s_want_group; (· assumption)) | (with_reducible apply s_times_of; (· assumption)) | (with_reducible apply s_under_of; (· assumption)) | (with_reducible apply s_power_of; (· assumption); (· (first | assumption | omega))) | (with_reducible apply s_is_el; (· assumption)) | (with_reducible apply s__law_power; (· assumption); (· (first | assumption | omega))) | (with_reducible apply s__law_power1; (· assumption); (· (first | assumption | omega))) | (with_reducible apply s__law_log'; (· assumption)) | (with_reducible apply s_is_below; (· (first | assumption | omega))) | (with_reducible apply s_are_elB; (· assumption); (· (first | assumption | omega)); (· (first | assumption | omega))) | (with_reducible apply s_are_nums; (· (first | assumption | omega)); (· (first | assumption | omega)); (· assumption)) | (with_reducible apply s_is_check_of; (· assumption); (· assumption)) | (with_reducible apply s_is_lot_of; (· assumption); (· assumption)) | (with_reducible apply s_want_lot; (· assumption); (· (first | assumption | omega))) | (with_reducible apply s_faults_of; (· assumption); (· assumption)) | (with_reducible apply s_want_weighed; (· assumption); (· assumption); (· assumption); (· assumption)))
local macro_rules | `(tactic| walk_at "run_792ec_19") => `(tactic| repeat (first | walk_at "ev_792ec_19" | refine cnd_n (decide_eq_false (by omega)) ?_ | refine cnd_p (decide_eq_true (by omega)) ?_ | refine And.intro (by omega) ?_ | walk_at "call_792ec_19"))
theorem s__law_weights (G : Grp p q gg) {L : List Chk} (C : LotOk q L) (hp : PotAt i g) (h : ∀ (ws : List Nat) (g' : Sim.G), ws.length = L.length → (∀ w ∈ ws, w < q) → PotAt i g' → Q (.d (.tuple (ws.map fun w => .int (w : Nat)))) g') : (fn__law_weights [.cell i, gv p q gg, .d (.tuple (lotP p gg L))] g).wp Q := by
  have hq := G.q2
  have hq1 := G.q1
  have hL := C.h2
  unfold fn__law_weights
  rw [w_fn]
  unfold m__law_weights
  walk_at "run_792ec_19"
  refine w_compL (fun r ps g6 => PotAt i g6 ∧ ∃ l : List Nat, l.length = r ∧ (∀ a ∈ l, a < q) ∧ ps = l.map fun n => .int (n : Nat)) ⟨hp, [], rfl, by simp, rfl⟩ ?_ ?_
  · rintro r ps' g6 y hd ⟨hp6, l, hl, hlq, rfl⟩
    rw [lotP_map] at hd
    obtain ⟨f, hf, rfl⟩ := map_get hd
    refine ⟨rfl, _, rfl, ?_⟩
    walk_at "run_792ec_19"
    refine w_call0 rfl (s_draw (by omega) (by omega) hp6 fun a g7 ha hp7 => ?_)
    walk_at "run_792ec_19"
    refine ⟨_, rfl, hp7, l ++ [a], by simp [hl], fun b hb => ?_, by simp⟩
    rw [List.mem_append, List.mem_singleton] at hb
    exact hb.elim (hlq b) fun e => e ▸ ha
  rintro r g3 ⟨hp3, ws, hwl, hwq, rfl⟩
  rw [List.length_map, lotP_len] at hwl
  walk_at "run_792ec_19"
  exact h ws g3 hwl hwq hp3
theorem sum_fx {l : List (Chk × Nat)} : (((l.map fun a => (((fx q a.1 % q : Nat) : Int) * ((a.2 : Nat) : Int))).sum) % (q : Int)) = ((dotN (l.map fun a => (fx q a.1, a.2)) % q : Nat) : Int) := by
  rw [Int.natCast_emod]
  refine Int.emod_eq_emod_iff_emod_sub_eq_zero.mpr (Int.emod_eq_zero_of_dvd ?_)
  induction l with
  | nil => exact ⟨0, by simp [dotN]⟩
  | cons a l ih =>
    obtain ⟨u, hu⟩ := ih
    have e1 : dotN ((a :: l).map fun a => (fx q a.1, a.2)) = fx q a.1 * a.2 + dotN (l.map fun a => (fx q a.1, a.2)) := by
      unfold dotN
      rw [List.map_cons, List.map_cons, List.sum_cons]
    rw [e1, List.map_cons, List.sum_cons]
    have e2 := Nat.div_add_mod (fx q a.1) q
    have e2 : ((q * (fx q a.1 / q) + fx q a.1 % q : Nat) : Int) = ((fx q a.1 : Nat) : Int) := by rw [e2]
    generalize fx q a.1 % q = X at e2 ⊢
    generalize fx q a.1 / q = Y at e2
    push_cast at e2 ⊢
    refine ⟨u - Y * a.2, ?_⟩
    rw [Int.mul_sub, ← hu, ← e2]
    grind
theorem bw_map {L : List Chk} {ws : List Nat} : ((L.zip ws).map fun a => (fx q a.1, a.2)) = bw q L ws := by
  unfold bw
  rw [List.zip_map_left]
  rfl
theorem s__law_batch (G : Grp p q gg) {L : List Chk} {ws : List Nat} (C : LotOk q L) (hl : ws.length = L.length) (hw : ∀ w ∈ ws, w < q) (h : Q (I (dotN (bw q L ws) % q)) g) : (fn__law_batch [gv p q gg, .d (.tuple (lotP p gg L)), .d (.tuple (ws.map fun w => .int (w : Nat)))] g).wp Q := by
  have hq := G.q2
  have hq1 := G.q1
  have hL := C.h2
  unfold fn__law_batch
  rw [w_fn]
  unfold m__law_batch
  walk_at "run_792ec_19"
  have hz : zipD (lotP p gg L) (ws.map fun w => PyData.int (w : Nat)) = (L.zip ws).map fun a => D.d (.tuple [chkP p gg a.1, .int (a.2 : Nat)]) := by
    unfold lotP
    rw [zipD_map]
  rw [hz]
  refine w_compM (F := fun a : Chk × Nat => .int (((fx q a.1 % q : Nat) : Int) * ((a.2 : Nat) : Int))) rfl (fun a ha => ⟨rfl, _, rfl, ?_⟩) ?_
  · have hac := C.h3 a.1 (List.of_mem_zip ha).1
    have hw2 := hw a.2 (List.of_mem_zip ha).2
    have h3 := Nat.mod_lt (fx q a.1) (show 0 < q by omega)
    walk_at "run_792ec_19"
    refine w_call0 rfl (s__law_fault G hac ?_)
    walk_at "run_792ec_19"
    exact .inr ⟨by omega, by omega⟩
  · rw [show ((L.zip ws).map fun a : Chk × Nat => PyData.int (((fx q a.1 % q : Nat) : Int) * ((a.2 : Nat) : Int))) = ((L.zip ws).map fun a : Chk × Nat => (((fx q a.1 % q : Nat) : Int) * ((a.2 : Nat) : Int))).map PyData.int by rw [List.map_map]; rfl, o_sumL]
    walk_at "run_792ec_19"
    rw [sum_fx, bw_map]
    exact h
theorem s__law_productL (G : Grp p q gg) {l : List (Nat × Nat)} (hl : l.length ≤ 60) (hn : ∀ a ∈ l, a.2 < 1000000) (h : Q (I (el p gg (dotN l))) g) : (fn__law_product [gv p q gg, .d (.list (bsP p gg l)), .d (.list (nsP l))] g).wp Q := by
  have hp1 := G.p1
  unfold fn__law_product
  rw [w_fn]
  unfold m__law_product
  walk_at "run_792ec_19"
  have hp2 := G.p2
  have e0 : zipD (bsP p gg l) (nsP l) = l.map fun a => D.d (.tuple [.int (el p gg a.1 : Nat), .int (a.2 : Nat)]) := zipD_self
  rw [e0]
  refine w_forL (fun j e g' => g' = g ∧ ∃ s1 s2, e = [.sh (gv p q gg), .sh (.d (.list (bsP p gg l))), .sh (.d (.list (nsP l))), .sh (I (el p gg (dotN (l.take j)))), s1, s2]) ⟨rfl, .un, .un, by show [Sl.sh (gv p q gg), .sh (.d (.list (bsP p gg l))), .sh (.d (.list (nsP l))), .sh (.d (.int 1)), .un, .un] = [.sh (gv p q gg), .sh (.d (.list (bsP p gg l))), .sh (.d (.list (nsP l))), .sh (I (el p gg 0)), .un, .un]; rw [el_zero G]; rfl⟩ ?_ ?_
  · rintro j e g' y hd ⟨rfl, s1, s2, rfl⟩
    obtain ⟨a, ha, rfl⟩ := map_get hd
    have := hn a (List.mem_of_getElem? ha)
    have := G.el_lt (dotN (l.take j))
    refine ⟨rfl, _, rfl, ?_⟩
    walk_at "run_792ec_19"
    rw [take_snoc2 ha, dotN_snoc]
    exact ⟨_, _, rfl⟩
  · rintro e g' ⟨rfl, s1, s2, rfl⟩
    rw [List.length_map, List.take_length]
    walk_at "run_792ec_19"
    exact h
theorem s_merged (G : Grp p q gg) {L : List Chk} {ws : List Nat} (C : LotOk q L) (hL : L.length ≤ 10) (hl : ws.length = L.length) (hw : ∀ w ∈ ws, w < q) (h : Q (.d (.tuple ((mrows p q gg L ws).map (rowP p gg)))) g) : (fn_merged [gv p q gg, .d (.tuple (lotP p gg L)), .d (.tuple (ws.map fun w => .int (w : Nat)))] g).wp Q := by
  have hq1 := G.q1
  unfold fn_merged
  rw [w_fn]
  unfold m_merged
  walk_at "run_792ec_19"
  refine w_call0 rfl (s_merged_of G C hL hl hw ?_)
  walk_at "run_792ec_19"
  exact h
theorem rl2 {d : P} {n w : Nat} (h : RO d n w) (hn : n ≤ 50) (hw : w ≤ 400000) : reprOk (.list [d, d]) = true ∧ PyData.strOk (PyData.list [d, d]).shown = true := by
  have := RO.list (.cons h (.cons h .nil))
  exact ⟨this.ok (by omega) (by omega), this.t.ok⟩
theorem rows_RO (G : Grp p q gg) {R : List (Nat × Nat)} (hl : R.length ≤ 60) (hR : ∀ e ∈ R, e.1 < q ∧ e.2 < q) : RO (.tuple (R.map (rowP p gg))) 2 10000 := by
  have hq := G.q1
  refine RO.lift (RO.tuple (ROs.all (n := 1) (w := 120) fun d hd => ?_)) (Nat.le_refl _) (by rw [List.length_map]; omega)
  obtain ⟨e, he, rfl⟩ := List.mem_map.mp hd
  have := G.el_lt e.1
  have := G.p1
  have := (hR e he).2
  exact (RO.tuple (.cons (RO.nat (n := 0) (by omega)) (.cons (RO.nat (by omega)) .nil))).lift (by omega) (by omega)
theorem opt_RO {o : Option Nat} (h : ∀ n, o = some n → n < 1000000) : RO (optP o) 1 100 := by
  cases o with
  | none => exact (RO.none (n := 1)).lift (Nat.le_refl _) (by omega)
  | some n => exact (RO.nat (n := 1) (by have := h n rfl; omega)).lift (Nat.le_refl _) (by omega)
theorem LotOk.app {L M : List Chk} (h : LotOk q L) (h' : LotOk q M) (hl : L.length + M.length ≤ 16) : LotOk q (L ++ M) := ⟨by rw [List.length_append]; have := h.h1; omega, by rw [List.length_append]; omega, fun c hc => (List.mem_append.mp hc).elim (h.h3 c) (h'.h3 c)⟩
theorem lotP_app {L M : List Chk} : lotP p gg L ++ lotP p gg M = lotP p gg (L ++ M) := by unfold lotP; rw [List.map_append]
theorem s_law_lot_right (G : Grp p q gg) {L : List Chk} (C : LotOk q L) (hL : L.length ≤ 6) (hp : PotAt i g) (h : ∀ g', PotAt i g' → Q (.d (.bool true)) g') : (fn__law_lot_right [.cell i, gv p q gg, .d (.tuple (lotP p gg L))] g).wp Q := by
  have hq := G.q2
  have hq1 := G.q1
  unfold fn__law_lot_right
  rw [w_fn]
  unfold m__law_lot_right
  walk_at "run_792ec_19"
  refine w_call0 rfl (s__law_weights G C hp fun ws g1 hwl hwq hp1 => ?_)
  walk_at "run_792ec_19"
  refine w_call0 rfl (s__law_weights G C hp1 fun vs g2 hvl hvq hp2 => ?_)
  walk_at "run_792ec_19"
  refine w_call0 rfl (s__law_batch G C hwl hwq ?_)
  walk_at "run_792ec_19"
  obtain ⟨B, hB⟩ : ∃ B, B = dotN (bw q L ws) % q := ⟨_, rfl⟩
  have hBq : B < q := by rw [hB]; exact Nat.mod_lt _ (by omega)
  have heB : el p gg (dotN (bw q L ws)) = el p gg B := by rw [hB]; exact (el_mod G _).symm
  rw [← hB]
  refine w_call0 rfl (s__law_power1 G (by omega) ?_)
  walk_at "run_792ec_19"
  refine w_call0 rfl (s_batchW G C hwl hwq ?_)
  rw [heB]
  walk_at "run_792ec_19"
  refine w_call0 rfl (s_batchW G C hwl hwq ?_)
  rw [heB]
  walk_at "run_792ec_19"
  refine w_call0 rfl (s_passes G C hwl hwq ?_)
  rw [← hB]
  walk_at "run_792ec_19"
  refine w_call0 rfl (s_passes G C hwl hwq ?_)
  rw [← hB]
  walk_at "run_792ec_19"
  have hd1 : decide (((el p gg B : Nat) : Int) = 1) = decide (B = 0) := decide_eq_decide.mpr ((el_eq_one G).trans (by rw [Nat.mod_eq_of_lt hBq]))
  rw [hd1]
  have hEB : el p gg B < 1000000 := by have h3 := G.el_lt B; have h4 := G.p1; omega
  have r1 := RO.list (.cons (RO.nat (n := 0) (i := el p gg B) (by omega)) (.cons (RO.nat (n := 0) (i := el p gg B) (by omega)) (.cons (RO.bool (b := decide (B = 0))) (.cons (RO.bool (b := decide (B = 0))) .nil))))
  refine ⟨r1.ok, r1.ok, ⟨r1.t.ok, r1.t.ok⟩, ?_⟩
  refine cnd_i (fun _ => ?_) (fun h5 => absurd rfl (of_decide_eq_false h5))
  walk_at "run_792ec_19"
  obtain ⟨hrl, hrq⟩ := mrows_len (p := p) (gg := gg) (ws := ws) C (by omega) hq
  refine w_call0 rfl (s__law_merged G C (by omega) hwl hwq ?_)
  walk_at "run_792ec_19"
  refine w_call0 rfl (s_merged G C (by omega) hwl hwq ?_)
  walk_at "run_792ec_19"
  refine w_call0 rfl (s_merged G C (by omega) hwl hwq ?_)
  walk_at "run_792ec_19"
  have r2 := rl2 (rows_RO G hrl hrq) (by omega) (by omega)
  refine ⟨r2.1, r2.1, r2.2, ?_⟩
  have hdot := rows_dot (p := p) (gg := gg) (L := L) (ws := ws) hq
  rw [← hB] at hdot
  generalize mrows p q gg L ws = R at hrl hrq hdot
  refine ⟨by omega, ?_⟩
  have hmD : (R.map (rowP p gg)).map D.d = R.map fun e => D.d (rowP p gg e) := by rw [List.map_map]; rfl
  refine w_compM (l := R) (F := fun e => .int (el p gg e.1 : Nat)) hmD (fun e he => ⟨rfl, _, rfl, ?_⟩) ?_
  · unfold rowP
    walk_at "run_792ec_19"
  walk_at "run_792ec_19"
  refine w_compM (l := R) (F := fun e => .int (e.2 : Nat)) hmD (fun e he => ⟨rfl, _, rfl, ?_⟩) ?_
  · unfold rowP
    walk_at "run_792ec_19"
  rw [show (R.map fun e => PyData.int (el p gg e.1 : Nat)) = bsP p gg R from rfl, show (R.map fun e => PyData.int (e.2 : Nat)) = nsP R from rfl]
  refine w_call0 rfl (s__law_productL G hrl (fun a ha => by have := (hrq a ha).2; omega) ?_)
  have heR : el p gg (dotN R) = el p gg B := by rw [← el_mod G, hdot]
  rw [heR]
  walk_at "run_792ec_19"
  have hzz : zipD (ws.map fun w => PyData.int (w : Nat)) (vs.map fun w => PyData.int (w : Nat)) = (ws.zip vs).map fun a => D.d (.tuple [.int (a.1 : Nat), .int (a.2 : Nat)]) := zipD_map
  rw [hzz]
  refine w_compM (F := fun a : Nat × Nat => .int ((a.1 + a.2) % q : Nat)) rfl (fun a ha => ⟨rfl, _, rfl, ?_⟩) ?_
  · walk_at "run_792ec_19"
    rw [Int.natCast_emod, Int.natCast_add]
  obtain ⟨us, hus⟩ : ∃ us, us = List.zipWith (fun a b => (a + b) % q) ws vs := ⟨_, rfl⟩
  have hul : us.length = L.length := by rw [hus, List.length_zipWith]; omega
  have huq : ∀ w ∈ us, w < q := fun w hw => by
    rw [hus] at hw
    obtain ⟨s, hs⟩ := List.mem_iff_getElem?.mp hw
    rw [List.getElem?_zipWith] at hs
    cases h1 : ws[s]? with
    | none => rw [h1] at hs; simp at hs
    | some x1 =>
      cases h2 : vs[s]? with
      | none => rw [h1, h2] at hs; simp at hs
      | some x2 =>
        rw [h1, h2] at hs
        simp at hs
        rw [← hs]; exact Nat.mod_lt _ (by omega)
  have hum : ((ws.zip vs).map fun a : Nat × Nat => PyData.int ((a.1 + a.2) % q : Nat)) = us.map fun w => .int (w : Nat) := by
    rw [hus]
    unfold List.zip
    rw [List.map_zipWith, List.map_zipWith]
  rw [hum]
  have heU : el p gg (dotN (bw q L us)) = el p gg (B + dotN (bw q L vs)) := by
    rw [← el_mod G, hus, bw_add (by omega), ← el_mod G (B + _), hB, Nat.mod_add_mod]
  have heW : el p gg (dotN (bw q (L ++ L) (ws ++ vs))) = el p gg (B + dotN (bw q L vs)) := by
    rw [bw_app hwl, dotN_app, ← el_mod G, ← el_mod G (B + _), hB, Nat.mod_add_mod]
  walk_at "run_792ec_19"
  refine w_call0 rfl (s_batchW G C hul huq ?_)
  rw [heU]
  walk_at "run_792ec_19"
  refine w_call0 rfl (s_batchW G C hvl hvq ?_)
  walk_at "run_792ec_19"
  refine w_call0 rfl (s_times G ?_)
  walk_at "run_792ec_19"
  clear r1 r2 hd1 hEB hmD hzz hum
  have CC := C.app C (by omega)
  have hll : (ws ++ vs).length = (L ++ L).length := by rw [List.length_append, List.length_append]; omega
  have hlq : ∀ w ∈ ws ++ vs, w < q := fun w hw => (List.mem_append.mp hw).elim (hwq w) (hvq w)
  have hmap : (ws.map fun w => PyData.int (w : Nat)) ++ (vs.map fun w => PyData.int (w : Nat)) = (ws ++ vs).map fun w => .int (w : Nat) := (List.map_append ..).symm
  rw [lotP_app, hmap]
  refine w_call0 rfl (s_batchW G CC hll hlq ?_)
  rw [heW]
  walk_at "run_792ec_19"
  refine w_call0 rfl (s_batchW G C hul huq ?_)
  rw [heU]
  walk_at "run_792ec_19"
  rw [show enumD (lotP p gg L) = L.zipIdx.map fun a => D.d (.tuple [.int (a.2 : Nat), chkP p gg a.1]) from enumD_map]
  refine w_forL (fun j e g' => g' = g2 ∧ ∃ s9 s10 s11 s12, e = [.sh (.cell i), .sh (gv p q gg), .sh (.d (.tuple (lotP p gg L))), .sh (I (el p gg B)), .sh (.d (.list [.int (el p gg B : Nat), .int (el p gg B : Nat), .bool (decide (B = 0)), .bool (decide (B = 0))])), .sh (.d (.tuple (R.map (rowP p gg)))), .sh (.d (.tuple (us.map fun w => .int (w : Nat)))), .sh (.d (.tuple (ws.map fun w => .int (w : Nat)))), .sh (.d (.tuple (vs.map fun w => .int (w : Nat)))), s9, s10, s11, s12, .un, .un, .un, .un]) ⟨rfl, _, _, _, _, rfl⟩ ?_ ?_
  · rintro j e g' y hd ⟨rfl, s9, s10, s11, s12, rfl⟩
    obtain ⟨a, ha, rfl⟩ := map_get hd
    have haj : a.2 = j ∧ L[j]? = some a.1 := by
      rw [List.getElem?_zipIdx] at ha
      cases hc : L[j]? with
      | none => rw [hc] at ha; simp at ha
      | some c => rw [hc] at ha; simp at ha; rw [← ha]; exact ⟨rfl, rfl⟩
    obtain ⟨e2, haj⟩ := haj
    have hjl : j < L.length := (List.getElem?_eq_some_iff.mp haj).1
    have hac := C.h3 a.1 (List.mem_of_getElem? haj)
    have hfj : (fxs q L)[j]? = some (fx q a.1) := by unfold fxs; rw [List.getElem?_map, haj]; rfl
    have hset : ∀ n : Nat, ((ws.map fun w => PyData.int (w : Nat)).take j ++ [PyData.int (n : Nat)]) ++ (ws.map fun w => PyData.int (w : Nat)).drop (j + 1) = (ws.set j n).map fun w => .int (w : Nat) := fun n => by
      rw [List.set_eq_take_append_cons_drop, if_pos (by omega), List.map_append, List.map_cons, List.map_take, List.map_drop, List.append_assoc]; rfl
    have hsl : ∀ n, (ws.set j n).length = L.length := fun n => by rw [List.length_set]; exact hwl
    have hsq : ∀ n, n < q → ∀ w ∈ ws.set j n, w < q := fun n hn w hw => by
      rcases List.mem_or_eq_of_mem_set hw with h7 | h7
      · exact hwq w h7
      · rw [h7]; exact hn
    have hlt : ((ws.map fun w => PyData.int (w : Nat)).take j).length ≤ 6 := by rw [List.length_take, List.length_map]; omega
    have hld : ((ws.map fun w => PyData.int (w : Nat)).drop (j + 1)).length ≤ 6 := by rw [List.length_drop, List.length_map]; omega
    refine ⟨rfl, _, rfl, ?_⟩
    rw [e2]
    walk_at "run_792ec_19"
    refine w_compFM (l := List.range q) (F := fun n => .int (n : Nat)) (f := fun n => decide (dotN (bw q L (ws.set j n)) % q = 0)) ints0_map (fun n hn => ⟨rfl, _, rfl, ?_⟩) ?_
    · have hn := List.mem_range.mp hn
      rw [Int.zero_add]
      walk_at "run_792ec_19"
      rw [show ((j : Nat) : Int) + 1 = ((j + 1 : Nat) : Int) from rfl, cut_take, cut_drop]
      refine ⟨by omega, by rw [List.length_append, List.length_singleton]; omega, ?_⟩
      rw [hset n]
      refine w_call0 rfl (s__law_batch G C (hsl n) (hsq n hn) ?_)
      walk_at "run_792ec_19"
      exact ⟨decide_eq_decide.mpr (by omega), fun _ => trivial⟩
    refine w_call0 rfl (s__law_fault G hac ?_)
    rcases Nat.eq_zero_or_pos (fx q a.1 % q) with hz | hz
    · have ho : onlyN q (fxs q L) ws j = none := by
        unfold onlyN
        rw [if_pos (by rw [List.getD_eq_getElem?_getD, hfj]; exact hz)]
      rw [hz]
      walk_at "run_792ec_19"
      refine w_call0 rfl (s_only_weight G C hwl hwq hjl ?_)
      rw [ho, show optP none = (PyData.none : P) from rfl]
      walk_at "run_792ec_19"
      refine w_call0 rfl (s_only_weight G C hwl hwq hjl ?_)
      rw [ho, show optP none = (PyData.none : P) from rfl]
      walk_at "run_792ec_19"
      have r5 := rl2 (RO.none (n := 1)) (by omega) (by omega)
      refine ⟨r5.1, r5.1, r5.2, ?_⟩
      exact ⟨_, _, _, _, rfl⟩
    · obtain ⟨o, ho⟩ : ∃ o, onlyN q (fxs q L) ws j = some o := by
        unfold onlyN
        rw [if_neg (by rw [List.getD_eq_getElem?_getD, hfj]; show ¬ fx q a.1 % q = 0; omega)]
        exact ⟨_, rfl⟩
      obtain ⟨hoq, hiff⟩ := only_iff G.pq hfj rfl ho
      have hbs : ∀ n, dotN (bw q L (ws.set j n)) = dotN ((fxs q L).zip (butW ws j)) + fx q a.1 * n := fun n => bw_set hfj (by omega)
      have hfil : (List.range q).filter (fun n => decide (dotN (bw q L (ws.set j n)) % q = 0)) = [o] := by
        rw [← range_one hoq]
        refine List.filter_congr fun n hn => ?_
        exact decide_eq_decide.mpr (by rw [hbs n]; exact hiff n (List.mem_range.mp hn))
      rw [hfil]
      have hpass : dotN (bw q L (ws.set j o)) % q = 0 := by rw [hbs o]; exact (hiff o hoq).mpr rfl
      have hne : ¬ ((fx q a.1 % q : Nat) : Int) = 0 := by omega
      walk_at "run_792ec_19"
      refine w_call0 rfl (s_only_weight G C hwl hwq hjl ?_)
      rw [ho, show optP (some o) = (PyData.int (o : Nat) : P) from rfl]
      walk_at "run_792ec_19"
      refine w_call0 rfl (s_only_weight G C hwl hwq hjl ?_)
      rw [ho, show optP (some o) = (PyData.int (o : Nat) : P) from rfl]
      walk_at "run_792ec_19"
      have r5 := rl2 (RO.nat (n := 1) (i := o) (by omega)) (by omega) (by omega)
      refine ⟨r5.1, r5.1, r5.2, ?_⟩
      rw [show ((j : Nat) : Int) + 1 = ((j + 1 : Nat) : Int) from rfl, cut_take, cut_drop]
      refine ⟨by omega, by rw [List.length_append, List.length_singleton]; omega, ?_⟩
      rw [hset o]
      refine w_call0 rfl (s_passes G C (hsl o) (hsq o hoq) ?_)
      rw [hpass, decide_eq_true rfl]
      walk_at "run_792ec_19"
      exact ⟨_, _, _, _, rfl⟩
  · rintro e g' ⟨rfl, s9, s10, s11, s12, rfl⟩
    walk_at "run_792ec_19"
    exact h _ hp2
end
/-! ### the law -/
section
variable {p q gg : Nat} {g : G} {Q : D → G → Prop} {n k a b c d x i many m e t j : Nat}
local macro_rules | `(tactic| walk_at "ev_792ec_20") => `(tactic| simp only [↓w_C, ↓w_var, ↓w_op, ↓w_un, ↓w_isi, ↓w_b, ↓w_nil, ↓w_cons, ↓w_tup, ↓w_lst, ↓w_not, ↓w_and, ↓w_or, ↓w_ifE, ↓w_chain, ↓w_tv, ↓w_tvAnd, ↓w_tvOr, ↓w_tvNot, ↓w_tvYes, ↓w_call, ↓w_callK, ↓w_sl, ↓w_oNo, ↓w_oSome, ↓w_newCell, ↓w_comp, ↓Sim.w_next, ↓w_seq, ↓w_ret, ↓w_retN, ↓w_never, ↓w_expr, ↓w_if, ↓w_asg, ↓w_own, ↓w_freeze, ↓w_own1, ↓w_par, ↓w_par3, ↓w_asgT, ↓w_tP, ↓w_aug, ↓w_for, ↓w_forNil, ↓w_iSeq, ↓w_range1X, ↓w_range2X, ↓lk_shX, ↓lk_ownX, ↓lk_succ, ↓stop_ap, ↓w_tTup, ↓w_tNil, ↓w_tCons, ↓w_tName, ↓o_add, ↓o_sub, ↓o_addI, ↓o_neg, ↓o_mulX, ↓o_mod, ↓o_div, ↓o_powX, ↓o_lt, ↓o_le, ↓o_gt, ↓o_ge, ↓o_eq, ↓o_ne, ↓o_ixT, ↓o_ixL, ↓o_ixB, ↓o_ixS, ↓o_ixC, ↓o_int, ↓o_abs, ↓o_max2, ↓o_min2, ↓o_lenT, ↓o_lenL, ↓o_lenB, ↓o_lenS, ↓o_divmod, ↓o_slT, ↓o_slL, ↓o_slB, ↓o_repr, ↓o_eqS, ↓o_neS, ↓o_eqB, ↓o_neB, ↓w_forCons, ↓w_compNil, ↓w_compCons, ↓o_allL, ↓o_anyL, ↓o_eqT2, ↓o_neT2, ↓o_tupleL, ↓o_tupleB, ↓o_tupleT, ↓o_sumL, ↓o_addT, ↓o_addL, ↓w_chain3, ↓w_zip2, ↓w_enum1, ↓w_parSO, ↓o_inT, ↓o_inL, ↓o_inB, ↓o_repL, ↓o_mulL, ↓o_catL, ↓o_catBL, ↓o_catLB, ↓o_listFL, ↓o_listFB, ↓o_listFT, ↓o_eqNil, ↓o_reprB, ↓o_neLnn, ↓o_neLcn, ↓o_neBnn, ↓o_neBcn, ↓R.wp_ok, ↓w_get2, ↓w_dict0, ↓w_forI, ↓w_dictI, ↓w_putD, ↓w_comp2, ↓w_isi2, ↓w_parOO, ↓w_parOS, ↓w_pop, ↓w_lrange, ↓w_zip3, ↓o_mulT, ↓o_inD, ↓o_ixD, ↓w_callC, ↓w_callCK, ↓w_nest, ↓o_ixN, ↓o_reprN, ↓w_cellM, ↓w_sortSet, ↓w_lenSet, ↓w_enumZ, ↓w_listZip, ↓w_parSOO, ↓e_is_integer, ↓e_is_row, ↓cut4, ↓strOk_group, ↓gv, ↓gvP, ↓strOk_check, ↓el_mulI, ↓bsP_len, ↓nsP_len, ↓lotP_len, ↓ints0_len, ↓Int.toNat_natCast, ↓ringP_len, ↓o_isNd, ↓o_notNd, ↓o_isBB, ↓o_notBB,
  startE_eq, List.reduceReplicate, Nat.reduceSub, p_name, p_tup, p_tupL, p_cons, p_nil, wipe_nil, wipe_cons, bls_nil, bls_cons, Sim.ints_nil, Sim.ints_cons, List.all_cons, List.all_nil, List.any_cons, List.any_nil, id, Bool.and_true, Bool.true_and, Option.bind_some, perm, List.filterMap_cons_some, List.filterMap_nil, List.filterMap_cons, List.nil_append, List.cons_append, atI_lit, setP_lit, Sim.atI_nat, Nat.reduceLT, Int.cast_ofNat_Int, Int.natCast_zero, Int.natCast_one, Int.reduceEq, Int.reduceToNat, isInt_none, isInt_bool, isInt_int, isInt_str, isInt_list, isInt_tuple, isInt_dict, isInt_bL, isInt_cell, isInt_scr, isBool_none, isBool_bool, isBool_int, isBool_str, isBool_list, isBool_tuple, isBool_dict, isBool_bL, isBool_cell, isBool_scr, isStr_none, isStr_bool, isStr_int, isStr_str, isStr_list, isStr_tuple, isStr_dict, isStr_bL, isStr_cell, isStr_scr, isTup_none, isTup_bool, isTup_int, isTup_str, isTup_list, isTup_tuple, isTup_dict, isTup_bL, isTup_cell, isTup_scr, isLst_none, isLst_bool, isLst_int, isLst_str, isLst_list, isLst_tuple, isLst_dict, isLst_bL, isLst_cell, isLst_scr, isDic_none, isDic_bool, isDic_int, isDic_str, isDic_list, isDic_tuple, isDic_dict, isDic_bL, isDic_cell, isDic_scr, cnd_not, cnd_true, cnd_false, dats, isB_d, isB_cell, isB_scr, isB_bor, noC_d, noC_cell, noC_scr, noC_bor, List.map_cons, List.map_nil, sizeLine, Option.map_some, List.getElem?_cons_zero, List.getElem?_cons_succ, List.set_cons_zero, List.set_cons_succ, Bool.or_false, Bool.false_or, Bool.or_self, Bool.false_eq_true, Bool.not_true, Bool.not_false, decide_true, decide_false, true_and, and_true, and_self, if_true, if_false, reduceIte, Int.reduceLT, Int.reduceLE, Int.reduceNeg, Int.reducePow, Nat.reducePow, List.length_cons, List.length_nil, Nat.reduceAdd, Int.reduceAdd, Int.reduceSub, Int.reduceMul, seqOf_l, seqOf_t, seqOf_b, zipD_len, enumD_len, zipD_cons, zipD_nil, zipD_nil2, fInB_f, fInB_t, flat_int, flat_str, flat_bool, flat_none, atI_m1, atI_m1c, List.length_map, bls_mapB, all_mapT, key_i, key_s, dic_d, dic_b, popHead_c, cellsOf, isB_nest, noC_nest])
local macro_rules | `(tactic| walk_at "call_792ec_20") => `(tactic| refine w_call0 ?hb ?hc; (case hb => exact rfl); first | (with_reducible apply s_want_group; (· assumption)) | (with_reducible apply s_times_of; (· assumption)) | (with_reducible apply s_under_of; (· assumption)) | (with_reducible apply s_power_of; (· assumption); (· (first | assumption | omega))) | (with_reducible apply s_is_el; (· assumption)) | (with_reducible apply s__law_power; (· assumption); (· (first | assumption | omega))) | (with_reducible apply s__law_power1; (· assumption); (· (first | assumption | omega))) | (with_reducible apply s__law_log'; (· assumption)) | (with_reducible apply s_is_below; (· (first | assumption | omega))) | (with_reducible apply s_are_elB; (· assumption); (· (first | assumption | omega)); (· (first | assumption | omega))) | (with_reducible apply s_are_nums; (· (first | assumption | omega)); (· (first | assumption | omega)); (· assumption)) | (with_reducible apply s_is_check_of; (· assumption); (· assumption)) | (with_reducible apply s_is_lot_of; (· assumption); (· assumption)) | (with_reducible apply s_want_lot; (· assumption); (· (first | assumption | omega))) | (with_reducible apply s_faults_of; (· assumption); (· assumption)) | (with_reducible apply s_want_weighed; (· assumption); (· assumption); (· assumption); (· assumption)))
local macro_rules | `(tactic| walk_at "run_792ec_20") => `(tactic| repeat (first | walk_at "ev_792ec_20" | refine cnd_n (decide_eq_false (by omega)) ?_ | refine cnd_p (decide_eq_true (by omega)) ?_ | refine And.intro (by omega) ?_ | walk_at "call_792ec_20"))
theorem s_law_right (hp : PotAt i g) (h : ∀ g', Q (.d (.bool true)) g') : (fn__law_right [.cell i] g).wp Q := by
  unfold fn__law_right
  rw [w_fn]
  unfold m__law_right
  walk_at "run_792ec_20"
  refine w_call0 rfl (s_law_group hp fun p q gg g1 G hq101 hp1 => ?_)
  have hq := G.q2
  have hq1 := G.q1
  walk_at "run_792ec_20"
  refine w_call0 rfl (s_law_lot (many := 5) G hp1 (by omega) (by omega) fun L g2 C hl5 hL4 hp2 => ?_)
  walk_at "run_792ec_20"
  refine w_call0 rfl (s_draw (many := 2) (by omega) (by omega) hp2 fun z g3 hz hp3 => ?_)
  walk_at "run_792ec_20"
  refine cnd_i (fun h5 => ?_) (fun h5 => ?_)
  · match L, C, hl5, hL4 with
    | c :: L, C, hl5, hL4 =>
    have hc := C.h3 c List.mem_cons_self
    have e0 : lotP p gg (c :: L) = chkP p gg c :: lotP p gg L := rfl
    rw [e0]
    unfold chkP
    walk_at "run_792ec_20"
    refine w_call0 rfl (s__law_element G hp3 fun t g4 ht hp4 => ?_)
    walk_at "run_792ec_20"
    have e1 : (PyData.tuple [.str kCheck, .tuple (bsP p gg c.bs), .tuple (nsP c.bs), .int (el p gg c.t : Nat)] :: (lotP p gg L ++ [PyData.tuple [.str (PySem.Str.ofString "check"), .tuple (bsP p gg c.bs), .tuple (nsP c.bs), .int (el p gg t : Nat)]])) = lotP p gg (c :: L ++ [⟨c.bs, t⟩]) := by unfold lotP; rw [List.map_append]; rfl
    simp only [List.length_cons] at hl5
    have hl6 : (c :: L ++ [(⟨c.bs, t⟩ : Chk)]).length = L.length + 2 := by simp
    have C2 : LotOk q (c :: L ++ [⟨c.bs, t⟩]) := ⟨by omega, by simp at hl5; omega, fun d hd => by
      rcases List.mem_append.mp hd with hd | hd
      · exact C.h3 d hd
      · rw [List.mem_singleton.mp hd]; exact ⟨hc.h1, hc.h2, hc.h3⟩⟩
    have hR := lot_RO G C2
    rw [e1]
    refine ⟨by omega, hR.ok, ?_⟩
    refine w_call0 rfl (s_law_lot_right G C2 (by omega) hp4 fun g5 hp5 => ?_)
    walk_at "run_792ec_20"
    exact ⟨hR.ok, hR.t.ok, h _⟩
  · walk_at "run_792ec_20"
    have hR := lot_RO G C
    refine ⟨hR.ok, ?_⟩
    refine w_call0 rfl (s_law_lot_right G C (by omega) hp3 fun g5 hp5 => ?_)
    walk_at "run_792ec_20"
    exact ⟨hR.ok, hR.t.ok, h _⟩
theorem s_law {ns : List Int} : ∃ g, fn_law [.scr ns] [] = .ok (.d (.bool true)) g := by
  have : (fn_law [.scr ns] []).wp fun d _ => d = .d (.bool true) := by
    unfold fn_law
    rw [w_fn]
    unfold m_law
    walk_at "run_792ec_20"
    refine w_compL (fun j ps g' => ∀ x ∈ ps, x = .bool true) (by simp) ?_ ?_
    · rintro j ps g' y hd hps
      obtain ⟨hj, rfl⟩ := ints0_get hd
      have hj2 : j < 64 := by
        split at hj <;> (try split at hj) <;> omega
      refine ⟨rfl, _, rfl, ?_⟩
      rw [Int.zero_add]
      walk_at "run_792ec_20"
      refine w_call0 rfl (s_pot (k := j) hj2 fun ps hp => ?_)
      walk_at "run_792ec_20"
      refine w_call0 rfl (s_law_right hp fun g2 => ?_)
      walk_at "run_792ec_20"
      refine ⟨_, rfl, fun x hx => ?_⟩
      rw [List.mem_append, List.mem_singleton] at hx
      exact hx.elim (hps x) id
    · intro r g' hr
      obtain ⟨bs, h1, h2⟩ := bls_all hr
      rw [h1]
      dsimp only
      rw [h2]
  obtain ⟨d, g, h1, h2⟩ := R.of_wp this
  exact ⟨g, by rw [h1, h2]⟩
end
end k70
set_option maxRecDepth 100000
namespace k70
open PySem PySem.Spec PyProof.Rows L2 Sim
theorem fin {P : Program} {w : World} {K : PySem.W.Frag} {mg : Str → Option Value} {h : Heap} (KX : K.In h) (T : Tops K mg) :
    ∃ (K : PySem.W.Frag) (st : Stmt) (fm : List D → M D), K.In h ∧ (∀ ns : List Int, ns.length ≤ 63 → ∃ g, fm [.scr ns] [] = .ok (.d (.bool true)) g) ∧
        (∀ (kV doc pm : Value) (an : Option Addr) (cdv ct u : Value), bindArgs (PySem.W.fnOf "law" "law" (defArgs st) (defBody st) (defScope st) .none kV doc pm an cdv ct) ⟨[u], []⟩ = pure [(("script" : Str), u)]) ∧
        ∀ base : Heap, Fn P w K mg base 12 "law" st ["script"] fm := ⟨K, st_law, fn_law, KX, fun _ _ => s_law, fun _ _ _ _ _ _ _ => rfl, fun _ => g_law T⟩
end k70
open PySem PySem.W PyProof.Rows
set_option maxHeartbeats 0 in
theorem PySem.Challenge.cw_showneither_k70_whole_batches_and_merged_holds : PySem.Challenge.rw_showneither_k70_whole_batches_and_merged.Holds := by
  w_on; o_law; k_head; (case hw => w_witness2)
  k_fill
  refine Sim.law_tops (l := PySem.Challenge.rw_showneither_k70_whole_batches_and_merged) (n := 63) (k := 12) (x := "script") rfl (by decide) rfl ⟨rfl, by decide, by decide⟩ ?F
  case F =>
    intro w mg h Y G
    have KX := PySem.W.kIn_of Y
    refine' k70.fin KX ⟨(Sim.top_mk KX G ?a0 ?l0 ?c0 ?k0), (Sim.top_mk KX G ?a1 ?l1 ?c1 ?k1), (Sim.top_mk KX G ?a2 ?l2 ?c2 ?k2), (Sim.top_mk KX G ?a3 ?l3 ?c3 ?k3), (Sim.top_mk KX G ?a4 ?l4 ?c4 ?k4), (Sim.top_mk KX G ?a5 ?l5 ?c5 ?k5), (Sim.top_mk KX G ?a6 ?l6 ?c6 ?k6), (Sim.top_mk KX G ?a7 ?l7 ?c7 ?k7), (Sim.top_mk KX G ?a8 ?l8 ?c8 ?k8), (Sim.top_mk KX G ?a9 ?l9 ?c9 ?k9), (Sim.top_mk KX G ?a10 ?l10 ?c10 ?k10), (Sim.top_mk KX G ?a11 ?l11 ?c11 ?k11), (Sim.top_mk KX G ?a12 ?l12 ?c12 ?k12), (Sim.top_mk KX G ?a13 ?l13 ?c13 ?k13), (Sim.top_mk KX G ?a14 ?l14 ?c14 ?k14), (Sim.top_mk KX G ?a15 ?l15 ?c15 ?k15), (Sim.top_mk KX G ?a16 ?l16 ?c16 ?k16), (Sim.top_mk KX G ?a17 ?l17 ?c17 ?k17), (Sim.top_mk KX G ?a18 ?l18 ?c18 ?k18), (Sim.top_mk KX G ?a19 ?l19 ?c19 ?k19), (Sim.top_mk KX G ?a20 ?l20 ?c20 ?k20), (Sim.top_mk KX G ?a21 ?l21 ?c21 ?k21), (Sim.top_mk KX G ?a22 ?l22 ?c22 ?k22), (Sim.top_mk KX G ?a23 ?l23 ?c23 ?k23), (Sim.top_mk KX G ?a24 ?l24 ?c24 ?k24), (Sim.top_mk KX G ?a25 ?l25 ?c25 ?k25), (Sim.top_mk KX G ?a26 ?l26 ?c26 ?k26), (Sim.top_mk KX G ?a27 ?l27 ?c27 ?k27), (Sim.top_mk KX G ?a28 ?l28 ?c28 ?k28), (Sim.top_mk KX G ?a29 ?l29 ?c29 ?k29), (Sim.top_mk KX G ?a30 ?l30 ?c30 ?k30), (Sim.top_mk KX G ?a31 ?l31 ?c31 ?k31), (Sim.top_mk KX G ?a32 ?l32 ?c32 ?k32), (Sim.top_mk KX G ?a33 ?l33 ?c33 ?k33), (Sim.top_mk KX G ?a34 ?l34 ?c34 ?k34), (Sim.top_mk KX G ?a35 ?l35 ?c35 ?k35), (Sim.top_mk KX G ?a36 ?l36 ?c36 ?k36), (Sim.top_mk KX G ?a37 ?l37 ?c37 ?k37), (Sim.top_mk KX G ?a38 ?l38 ?c38 ?k38), (Sim.top_mk KX G ?a39 ?l39 ?c39 ?k39), (Sim.top_mk KX G ?a40 ?l40 ?c40 ?k40), (Sim.top_mk KX G ?a41 ?l41 ?c41 ?k41), (Sim.top_mk KX G ?a42 ?l42 ?c42 ?k42), (Sim.top_mk KX G ?a43 ?l43 ?c43 ?k43), (Sim.top_mk KX G ?a44 ?l44 ?c44 ?k44), (Sim.top_mk KX G ?a45 ?l45 ?c45 ?k45), (Sim.top_mk KX G ?a46 ?l46 ?c46 ?k46), (Sim.top_mk KX G ?a47 ?l47 ?c47 ?k47), (Sim.top_mk KX G ?a48 ?l48 ?c48 ?k48), (PySem.W.mg_none_of KX G ?a49), (PySem.W.mg_none_of KX G ?a50), (PySem.W.mg_none_of KX G ?a51), (PySem.W.mg_none_of KX G ?a52), (PySem.W.mg_none_of KX G ?a53), (PySem.W.mg_none_of KX G ?a54), (PySem.W.mg_none_of KX G ?a55), (PySem.W.mg_none_of KX G ?a56), (PySem.W.mg_none_of KX G ?a57), (PySem.W.mg_none_of KX G ?a58), (PySem.W.mg_none_of KX G ?a59), (PySem.W.mg_none_of KX G ?a60), (PySem.W.mg_none_of KX G ?a61), (PySem.W.mg_none_of KX G ?a62), (PySem.W.mg_none_of KX G ?a63), (PySem.W.mg_none_of KX G ?a64), (PySem.W.mg_none_of KX G ?a65), (PySem.W.mg_none_of KX G ?a66), (Sim.con_mk KX G ?a67 ?e67), (Sim.con_mk KX G ?a68 ?e68), (Sim.con_mk KX G ?a69 ?e69), (Sim.con_mk KX G ?a70 ?e70), (Sim.con_mk KX G ?a71 ?e71), (Sim.con_mk KX G ?a72 ?e72)⟩
    (case a0 => k_is)
    (case l0 => k_is)
    (case c0 => k_is)
    (case k0 => k_is)
    (case a1 => k_is)
    (case l1 => k_is)
    (case c1 => k_is)
    (case k1 => k_is)
    (case a2 => k_is)
    (case l2 => k_is)
    (case c2 => k_is)
    (case k2 => k_is)
    (case a3 => k_is)
    (case l3 => k_is)
    (case c3 => k_is)
    (case k3 => k_is)
    (case a4 => k_is)
    (case l4 => k_is)
    (case c4 => k_is)
    (case k4 => k_is)
    (case a5 => k_is)
    (case l5 => k_is)
    (case c5 => k_is)
    (case k5 => k_is)
    (case a6 => k_is)
    (case l6 => k_is)
    (case c6 => k_is)
    (case k6 => k_is)
    (case a7 => k_is)
    (case l7 => k_is)
    (case c7 => k_is)
    (case k7 => k_is)
    (case a8 => k_is)
    (case l8 => k_is)
    (case c8 => k_is)
    (case k8 => k_is)
    (case a9 => k_is)
    (case l9 => k_is)
    (case c9 => k_is)
    (case k9 => k_is)
    (case a10 => k_is)
    (case l10 => k_is)
    (case c10 => k_is)
    (case k10 => k_is)
    (case a11 => k_is)
    (case l11 => k_is)
    (case c11 => k_is)
    (case k11 => k_is)
    (case a12 => k_is)
    (case l12 => k_is)
    (case c12 => k_is)
    (case k12 => k_is)
    (case a13 => k_is)
    (case l13 => k_is)
    (case c13 => k_is)
    (case k13 => k_is)
    (case a14 => k_is)
    (case l14 => k_is)
    (case c14 => k_is)
    (case k14 => k_is)
    (case a15 => k_is)
    (case l15 => k_is)
    (case c15 => k_is)
    (case k15 => k_is)
    (case a16 => k_is)
    (case l16 => k_is)
    (case c16 => k_is)
    (case k16 => k_is)
    (case a17 => k_is)
    (case l17 => k_is)
    (case c17 => k_is)
    (case k17 => k_is)
    (case a18 => k_is)
    (case l18 => k_is)
    (case c18 => k_is)
    (case k18 => k_is)
    (case a19 => k_is)
    (case l19 => k_is)
    (case c19 => k_is)
    (case k19 => k_is)
    (case a20 => k_is)
    (case l20 => k_is)
    (case c20 => k_is)
    (case k20 => k_is)
    (case a21 => k_is)
    (case l21 => k_is)
    (case c21 => k_is)
    (case k21 => k_is)
    (case a22 => k_is)
    (case l22 => k_is)
    (case c22 => k_is)
    (case k22 => k_is)
    (case a23 => k_is)
    (case l23 => k_is)
    (case c23 => k_is)
    (case k23 => k_is)
    (case a24 => k_is)
    (case l24 => k_is)
    (case c24 => k_is)
    (case k24 => k_is)
    (case a25 => k_is)
    (case l25 => k_is)
    (case c25 => k_is)
    (case k25 => k_is)
    (case a26 => k_is)
    (case l26 => k_is)
    (case c26 => k_is)
    (case k26 => k_is)
    (case a27 => k_is)
    (case l27 => k_is)
    (case c27 => k_is)
    (case k27 => k_is)
    (case a28 => k_is)
    (case l28 => k_is)
    (case c28 => k_is)
    (case k28 => k_is)
    (case a29 => k_is)
    (case l29 => k_is)
    (case c29 => k_is)
    (case k29 => k_is)
    (case a30 => k_is)
    (case l30 => k_is)
    (case c30 => k_is)
    (case k30 => k_is)
    (case a31 => k_is)
    (case l31 => k_is)
    (case c31 => k_is)
    (case k31 => k_is)
    (case a32 => k_is)
    (case l32 => k_is)
    (case c32 => k_is)
    (case k32 => k_is)
    (case a33 => k_is)
    (case l33 => k_is)
    (case c33 => k_is)
    (case k33 => k_is)
    (case a34 => k_is)
    (case l34 => k_is)
    (case c34 => k_is)
    (case k34 => k_is)
    (case a35 => k_is)
    (case l35 => k_is)
    (case c35 => k_is)
    (case k35 => k_is)
    (case a36 => k_is)
    (case l36 => k_is)
    (case c36 => k_is)
    (case k36 => k_is)
    (case a37 => k_is)
    (case l37 => k_is)
    (case c37 => k_is)
    (case k37 => k_is)
    (case a38 => k_is)
    (case l38 => k_is)
    (case c38 => k_is)
    (case k38 => k_is)
    (case a39 => k_is)
    (case l39 => k_is)
    (case c39 => k_is)
    (case k39 => k_is)
    (case a40 => k_is)
    (case l40 => k_is)
    (case c40 => k_is)
    (case k40 => k_is)
    (case a41 => k_is)
    (case l41 => k_is)
    (case c41 => k_is)
    (case k41 => k_is)
    (case a42 => k_is)
    (case l42 => k_is)
    (case c42 => k_is)
    (case k42 => k_is)
    (case a43 => k_is)
    (case l43 => k_is)
    (case c43 => k_is)
    (case k43 => k_is)
    (case a44 => k_is)
    (case l44 => k_is)
    (case c44 => k_is)
    (case k44 => k_is)
    (case a45 => k_is)
    (case l45 => k_is)
    (case c45 => k_is)
    (case k45 => k_is)
    (case a46 => k_is)
    (case l46 => k_is)
    (case c46 => k_is)
    (case k46 => k_is)
    (case a47 => k_is)
    (case l47 => k_is)
    (case c47 => k_is)
    (case k47 => k_is)
    (case a48 => k_is)
    (case l48 => k_is)
    (case c48 => k_is)
    (case k48 => k_is)
    (case a49 => k_is)
    (case a50 => k_is)
    (case a51 => k_is)
    (case a52 => k_is)
    (case a53 => k_is)
    (case a54 => k_is)
    (case a55 => k_is)
    (case a56 => k_is)
    (case a57 => k_is)
    (case a58 => k_is)
    (case a59 => k_is)
    (case a60 => k_is)
    (case a61 => k_is)
    (case a62 => k_is)
    (case a63 => k_is)
    (case a64 => k_is)
    (case a65 => k_is)
    (case a66 => k_is)
    (case a67 => k_is)
    (case e67 => exact ⟨_, rfl⟩)
    (case a68 => k_is)
    (case e68 => exact ⟨_, rfl⟩)
    (case a69 => k_is)
    (case e69 => exact ⟨_, rfl⟩)
    (case a70 => k_is)
    (case e70 => exact ⟨_, rfl⟩)
    (case a71 => k_is)
    (case e71 => exact ⟨_, rfl⟩)
    (case a72 => k_is)
    (case e72 => exact ⟨_, rfl⟩)