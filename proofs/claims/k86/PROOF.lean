import PyProof.Rows.All
import Wide.All
import OpenK.AllK
import Wide.FinOn
import HandS.ForMost
import HandS.ForExc
import HandS.WordsExc
import HandS.IsInst
import HandS.Style
import KE.KExcSuper
import HandS.ExcField
import HandS.ExcIs
import KE.KExcIs
import PySem.Challenge.RW_inkedtrue_k86_least_changes
-- VL1
set_option Elab.async false
set_option linter.all false
set_option autoImplicit false
set_option maxRecDepth 100000
set_option maxHeartbeats 4000000
/-! VL: a layer of values over HandS: data without addresses, which list is owned by which slot. -/
namespace VL
open PySem PySem.Spec L2

/-- data without addresses -/
inductive D where
  | non | bl (b : Bool) | int (i : Int) | str (s : Str) | byt (b : Array UInt8) | lst (ds : List D) | tup (ds : List D) | raw (v : V)
  /-- the script -/
  | scr (K : PySem.W.Frag) (ns : List Int)
  /-- a caught error: its address, its dict's, the fields -/
  | exc (a dd : Addr) (fs : List Str) (ds : List D)

mutual
/-- the value v stands for the datum in the abstract heap -/
inductive Den (H : Hp) : D → V → Prop
  | non : Den H .non .non
  | bl (b : Bool) : Den H (.bl b) (.bl b)
  | int (i : Int) : Den H (.int i) (.int i)
  | str (s : Str) : Den H (.str s) (.str s)
  | byt (b : Array UInt8) : Den H (.byt b) (.byt b)
  | lst {a : Addr} {xs : List V} {ds : List D} : H a = some (.lst xs) → DenAll H ds xs → Den H (.lst ds) (.ref a)
  | tup {a : Addr} {xs : List V} {ds : List D} : H a = some (.tup xs) → DenAll H ds xs → Den H (.tup ds) (.ref a)
  | raw (v : V) : Den H (.raw v) v
  | scr {K : PySem.W.Frag} {ns : List Int} {a : Addr} : SqL K H a (ns.map V.int) → Den H (.scr K ns) (.ref a)
  | exc {a dd : Addr} {fs : List Str} {ds : List D} {vs : List V} : H dd = some (.xd (fs.zip vs)) → DenAll H ds vs → Den H (.exc a dd fs ds) (.ref a)
inductive DenAll (H : Hp) : List D → List V → Prop
  | nil : DenAll H [] []
  | cons {d : D} {ds : List D} {x : V} {xs : List V} : Den H d x → DenAll H ds xs → DenAll H (d :: ds) (x :: xs)
end

mutual
theorem Den.mono {S H : Hp} (e : Same S H) : ∀ {d : D} {v : V}, Den S d v → Den H d v
  | .non, _, h => by cases h; exact .non
  | .bl _, _, h => by cases h; exact .bl _
  | .int _, _, h => by cases h; exact .int _
  | .str _, _, h => by cases h; exact .str _
  | .byt _, _, h => by cases h; exact .byt _
  | .raw _, _, h => by cases h; exact .raw _
  | .scr _ _, _, h => by
    cases h with
    | scr h2 => exact .scr (e.seq h2)
  | .exc _ _ _ ds, _, h => by
    cases h with
    | exc h2 h3 => exact .exc (e _ _ h2) (DenAll.mono e h3)
  | .lst ds, _, h => by
    cases h with
    | lst h2 h3 => exact .lst (e _ _ h2) (DenAll.mono e h3)
  | .tup ds, _, h => by
    cases h with
    | tup h2 h3 => exact .tup (e _ _ h2) (DenAll.mono e h3)
theorem DenAll.mono {S H : Hp} (e : Same S H) : ∀ {ds : List D} {xs : List V}, DenAll S ds xs → DenAll H ds xs
  | [], _, h => by cases h; exact .nil
  | d :: ds, _, h => by
    cases h with
    | cons h2 h3 => exact .cons (Den.mono e h2) (DenAll.mono e h3)
end
section
variable {H : Hp}
theorem den_non {v : V} : Den H .non v ↔ v = .non := ⟨fun h => by cases h; rfl, fun h => by subst h; exact .non⟩
theorem den_bl {b : Bool} {v : V} : Den H (.bl b) v ↔ v = .bl b := ⟨fun h => by cases h; rfl, fun h => by subst h; exact .bl _⟩
theorem den_int {b : Int} {v : V} : Den H (.int b) v ↔ v = .int b := ⟨fun h => by cases h; rfl, fun h => by subst h; exact .int _⟩
theorem den_str {b : Str} {v : V} : Den H (.str b) v ↔ v = .str b := ⟨fun h => by cases h; rfl, fun h => by subst h; exact .str _⟩
theorem den_byt {b : Array UInt8} {v : V} : Den H (.byt b) v ↔ v = .byt b := ⟨fun h => by cases h; rfl, fun h => by subst h; exact .byt _⟩
theorem den_raw {b : V} {v : V} : Den H (.raw b) v ↔ v = b := ⟨fun h => by cases h; rfl, fun h => by subst h; exact .raw _⟩
theorem den_lst {ds : List D} {v : V} : Den H (.lst ds) v ↔ ∃ a xs, v = .ref a ∧ H a = some (.lst xs) ∧ DenAll H ds xs := ⟨fun h => by cases h with | lst h2 h3 => exact ⟨_, _, rfl, h2, h3⟩, fun ⟨a, xs, h1, h2, h3⟩ => by subst h1; exact .lst h2 h3⟩
theorem den_tup {ds : List D} {v : V} : Den H (.tup ds) v ↔ ∃ a xs, v = .ref a ∧ H a = some (.tup xs) ∧ DenAll H ds xs := ⟨fun h => by cases h with | tup h2 h3 => exact ⟨_, _, rfl, h2, h3⟩, fun ⟨a, xs, h1, h2, h3⟩ => by subst h1; exact .tup h2 h3⟩
theorem dall_nil {xs : List V} : DenAll H [] xs ↔ xs = [] := ⟨fun h => by cases h; rfl, fun h => by subst h; exact .nil⟩
theorem dall_cons {d : D} {ds : List D} {xs : List V} : DenAll H (d :: ds) xs ↔ ∃ x r, xs = x :: r ∧ Den H d x ∧ DenAll H ds r := ⟨fun h => by cases h with | cons h2 h3 => exact ⟨_, _, rfl, h2, h3⟩, fun ⟨x, r, h1, h2, h3⟩ => by subst h1; exact .cons h2 h3⟩
theorem DenAll.len : ∀ {ds : List D} {xs : List V}, DenAll H ds xs → ds.length = xs.length
  | [], _, h => by rw [dall_nil.mp h]; rfl
  | d :: ds, _, h => by
    obtain ⟨x, r, rfl, _, h3⟩ := dall_cons.mp h
    rw [List.length_cons, List.length_cons, DenAll.len h3]
theorem DenAll.at : ∀ {ds : List D} {xs : List V} {i : Nat} {d : D}, DenAll H ds xs → ds[i]? = some d → ∃ x, xs[i]? = some x ∧ Den H d x
  | [], _, _, _, _, e => by simp at e
  | d :: ds, _, 0, _, h, e => by
    obtain ⟨x, r, rfl, h2, _⟩ := dall_cons.mp h
    simp at e
    subst e
    exact ⟨x, rfl, h2⟩
  | d :: ds, _, i + 1, _, h, e => by
    obtain ⟨x, r, rfl, _, h3⟩ := dall_cons.mp h
    exact DenAll.at (i := i) h3 (by simpa using e)
theorem DenAll.at' {ds : List D} {xs : List V} {i : Nat} {x : V} (h : DenAll H ds xs) (e : xs[i]? = some x) : ∃ d, ds[i]? = some d ∧ Den H d x := by
  have hl := h.len
  obtain ⟨hi, _⟩ := List.getElem?_eq_some_iff.mp e
  have hd : ds[i]? = some ds[i] := List.getElem?_eq_getElem (by omega)
  obtain ⟨y, hy, q⟩ := h.at hd
  rw [e] at hy
  cases hy
  exact ⟨_, hd, q⟩
theorem DenAll.mk : ∀ {ds : List D} {xs : List V}, ds.length = xs.length → (∀ (i : Nat) (d : D) (x : V), ds[i]? = some d → xs[i]? = some x → Den H d x) → DenAll H ds xs
  | [], [], _, _ => .nil
  | [], x :: xs, h, _ => by simp at h
  | d :: ds, [], h, _ => by simp at h
  | d :: ds, x :: xs, h, f => .cons (f 0 d x rfl rfl) (DenAll.mk (by simpa using h) fun i e y h1 h2 => f (i + 1) e y (by simpa using h1) (by simpa using h2))
theorem DenAll.append : ∀ {ds es : List D} {xs ys : List V}, DenAll H ds xs → DenAll H es ys → DenAll H (ds ++ es) (xs ++ ys)
  | [], _, _, _, h, k => by rw [dall_nil.mp h]; exact k
  | d :: ds, _, _, _, h, k => by
    obtain ⟨x, r, rfl, h2, h3⟩ := dall_cons.mp h
    exact .cons h2 (h3.append k)
theorem DenAll.set {ds : List D} {xs : List V} {i : Nat} {d : D} {x : V} (h : DenAll H ds xs) (k : Den H d x) : DenAll H (ds.set i d) (xs.set i x) := by
  refine .mk (by rw [List.length_set, List.length_set]; exact h.len) fun j e y h1 h2 => ?_
  by_cases hj : i = j
  · subst hj
    rw [List.getElem?_set_self'] at h1 h2
    cases hq : ds[i]? with
    | none => rw [hq] at h1; cases h1
    | some d0 =>
      rw [hq] at h1
      cases hq2 : xs[i]? with
      | none => rw [hq2] at h2; cases h2
      | some x0 =>
        rw [hq2] at h2
        cases h1; cases h2
        exact k
  · rw [List.getElem?_set_ne hj] at h1 h2
    obtain ⟨z, hz, q⟩ := h.at h1
    rw [h2] at hz; cases hz
    exact q
theorem DenAll.take : ∀ {ds : List D} {xs : List V} (n : Nat), DenAll H ds xs → DenAll H (ds.take n) (xs.take n)
  | _, _, 0, _ => by simpa using DenAll.nil
  | [], _, n + 1, h => by rw [dall_nil.mp h]; simpa using DenAll.nil
  | d :: ds, _, n + 1, h => by
    obtain ⟨x, r, rfl, h2, h3⟩ := dall_cons.mp h
    exact .cons h2 (h3.take n)
theorem DenAll.drop : ∀ {ds : List D} {xs : List V} (n : Nat), DenAll H ds xs → DenAll H (ds.drop n) (xs.drop n)
  | _, _, 0, h => h
  | [], _, n + 1, h => by rw [dall_nil.mp h]; simpa using DenAll.nil
  | d :: ds, _, n + 1, h => by
    obtain ⟨x, r, rfl, h2, h3⟩ := dall_cons.mp h
    exact h3.drop n
theorem DenAll.dropLast {ds : List D} {xs : List V} (h : DenAll H ds xs) : DenAll H ds.dropLast xs.dropLast := by
  rw [List.dropLast_eq_take, List.dropLast_eq_take, h.len]
  exact h.take _
theorem DenAll.reverse {ds : List D} {xs : List V} (h : DenAll H ds xs) : DenAll H ds.reverse xs.reverse := by
  have hl := h.len
  refine .mk (by rw [List.length_reverse, List.length_reverse]; exact hl) fun j e y h1 h2 => ?_
  obtain ⟨hj, _⟩ := List.getElem?_eq_some_iff.mp h1
  rw [List.length_reverse] at hj
  rw [List.getElem?_reverse hj] at h1
  rw [List.getElem?_reverse (by omega), ← hl] at h2
  obtain ⟨z, hz, q⟩ := h.at h1
  rw [h2] at hz; cases hz
  exact q
theorem DenAll.rep {ds : List D} {xs : List V} (h : DenAll H ds xs) : ∀ k : Nat, DenAll H (List.replicate k ds).flatten (List.replicate k xs).flatten
  | 0 => .nil
  | k + 1 => by
    rw [List.replicate_succ, List.replicate_succ, List.flatten_cons, List.flatten_cons]
    exact h.append (h.rep k)
end

/-- sh: shared for good; ow: a list of one's own; en: a list that stood at the entry; lv: a list for the moment -/
inductive R where
  | sh (d : D) | ow (ds : List D) | en (ds : List D) | lv (ds : List D)
  /-- a value with a heap of one's own behind it -/
  | reg (v : V) (M : Hp)

/-- the heap grew: S the part that is shared for good -/
structure Gx (S H S' H' : Hp) : Prop where
  ss : Same S S'
  hh : Same H H'
  sh : Same S' H'
  fr : ∀ a, H a ≠ none → S' a = S a
theorem Gx.refl {S H : Hp} (e : Same S H) : Gx S H S H := ⟨Same.refl _, Same.refl _, e, fun _ _ => rfl⟩
theorem some_of_same {H H' : Hp} (e : Same H H') {a : Addr} (h : H a ≠ none) : H' a ≠ none := by
  cases q : H a with
  | none => exact absurd q h
  | some o => rw [e a o q]; intro z; cases z
theorem Gx.trans {S H S1 H1 S2 H2 : Hp} (a : Gx S H S1 H1) (b : Gx S1 H1 S2 H2) : Gx S H S2 H2 :=
  ⟨a.ss.trans b.ss, a.hh.trans b.hh, b.sh, fun x hx => (b.fr x (some_of_same a.hh hx)).trans (a.fr x hx)⟩
theorem Gx.gone {S H S' H' : Hp} (a : Gx S H S' H') {x : Addr} (h : H' x = none) : H x = none := Same.free a.hh h
/-- a new object at p, not shared -/
theorem Gx.new {S H : Hp} (e : Same S H) {p : Addr} {o : HO} (hp : H p = none) : Gx S H S (upd H p o) :=
  ⟨Same.refl _, fun b u q => by rw [upd_ne (ne_of_none q hp)]; exact q, fun b u q => by rw [upd_ne (ne_of_none (e b u q) hp)]; exact e b u q, fun _ _ => rfl⟩
/-- a new object at p, shared -/
theorem Gx.newS {S H : Hp} (e : Same S H) {p : Addr} {o : HO} (hp : H p = none) : Gx S H (upd S p o) (upd H p o) := by
  have hs : S p = none := Same.free e hp
  refine ⟨fun b u q => by rw [upd_ne (ne_of_none q hs)]; exact q, fun b u q => by rw [upd_ne (ne_of_none q hp)]; exact q, fun b u q => ?_, fun b hb => ?_⟩
  · by_cases hb : b = p
    · subst hb
      rw [upd_same] at q ⊢
      exact q
    · rw [upd_ne hb] at q ⊢
      exact e b u q
  · refine upd_ne fun z => ?_
    subst z
    exact hb hp

def Hd (B S H : Hp) (v : V) : R → Prop
  | .sh d => Den S d v
  | .ow ds => ∃ a xs, v = .ref a ∧ B a = none ∧ S a = none ∧ H a = some (.lst xs) ∧ DenAll S ds xs
  | .en ds => ∃ a xs, v = .ref a ∧ B a = some (.lst xs) ∧ DenAll S ds xs
  | .lv ds => ∃ a xs, v = .ref a ∧ H a = some (.lst xs) ∧ DenAll S ds xs
  | .reg w M => v = w ∧ ∀ b o, M b = some o → B b = none ∧ S b = none ∧ H b = some o
theorem Hd.step {B S H S' H' : Hp} {v : V} (g : Gx S H S' H') : ∀ {r : R}, Hd B S H v r → Hd B S' H' v r
  | .sh d, h => Den.mono g.ss h
  | .ow ds, h => by
    obtain ⟨a, xs, h1, h2, h3, h4, h5⟩ := h
    exact ⟨a, xs, h1, h2, (g.fr a (by rw [h4]; intro z; cases z)).trans h3, g.hh _ _ h4, DenAll.mono g.ss h5⟩
  | .en ds, h => by
    obtain ⟨a, xs, h1, h2, h3⟩ := h
    exact ⟨a, xs, h1, h2, DenAll.mono g.ss h3⟩
  | .lv ds, h => by
    obtain ⟨a, xs, h1, h2, h3⟩ := h
    exact ⟨a, xs, h1, g.hh _ _ h2, DenAll.mono g.ss h3⟩
  | .reg w M, h => ⟨h.1, fun b o q => by
    obtain ⟨h1, h2, h3⟩ := h.2 b o q
    exact ⟨h1, (g.fr b (by rw [h3]; intro z; cases z)).trans h2, g.hh _ _ h3⟩⟩
/-- the base lowered -/
theorem Hd.base {B B' S H : Hp} {v : V} (e : Same B' B) : ∀ {r : R}, (∀ ds, r ≠ .en ds) → Hd B S H v r → Hd B' S H v r
  | .sh d, _, h => h
  | .ow ds, _, h => by
    obtain ⟨a, xs, h1, h2, h3⟩ := h
    exact ⟨a, xs, h1, Same.free e h2, h3⟩
  | .en ds, n, _ => absurd rfl (n ds)
  | .lv ds, _, h => h
  | .reg w M, _, h => ⟨h.1, fun b o q => let ⟨h1, h2⟩ := h.2 b o q; ⟨Same.free e h1, h2⟩⟩
/-- what a slot owns -/
def Owns : R → V → Addr → Prop
  | .ow _, v, x => v = .ref x
  | .reg _ M, _, x => M x ≠ none
  | _, _, _ => False
theorem Hd.own {B S H : Hp} {v : V} {x : Addr} : ∀ {r : R}, Hd B S H v r → Owns r v x → B x = none ∧ S x = none ∧ H x ≠ none
  | .ow ds, h, o => by
    obtain ⟨a, xs, rfl, h2, h3, h4, _⟩ := h
    cases o
    exact ⟨h2, h3, by rw [h4]; intro z; cases z⟩
  | .reg w M, h, o => by
    cases q : M x with
    | none => exact absurd q o
    | some u =>
      obtain ⟨h1, h2, h3⟩ := h.2 x u q
      exact ⟨h1, h2, by rw [h3]; intro z; cases z⟩
  | .sh _, _, o => o.elim
  | .en _, _, o => o.elim
  | .lv _, _, o => o.elim

abbrev Gm := List (Option R)
/-- what is known of the slots: S₀, H₀ at the entry -/
structure Rep (S0 H0 : Hp) (G : Gm) (σ : L2.St) (H S : Hp) : Prop where
  ext : Gx S0 H0 S H
  len : G.length = σ.length
  slot : ∀ (i : Nat) (r : R), G[i]? = some (some r) → ∃ v, σ[i]? = some (some v) ∧ Hd H0 S H v r ∧ ∀ ds, r ≠ .lv ds
  sep : ∀ (i j : Nat) (r r' : R) (v v' : V) (x : Addr), i ≠ j → G[i]? = some (some r) → G[j]? = some (some r') → σ[i]? = some (some v) → σ[j]? = some (some v') → Owns r v x → Owns r' v' x → False
theorem Rep.s0 {S0 H0 : Hp} {G : Gm} {σ : L2.St} {H S : Hp} (p : Rep S0 H0 G σ H S) : Same S H := p.ext.sh
theorem Rep.step {S0 H0 : Hp} {G : Gm} {σ : L2.St} {H S S' H' : Hp} (p : Rep S0 H0 G σ H S) (g : Gx S H S' H') : Rep S0 H0 G σ H' S' :=
  ⟨p.ext.trans g, p.len, fun i r e => let ⟨v, h1, h2, h3⟩ := p.slot i r e; ⟨v, h1, h2.step g, h3⟩, p.sep⟩
theorem Rep.weak {S0 H0 : Hp} {G G' : Gm} {σ : L2.St} {H S : Hp} (p : Rep S0 H0 G σ H S) (hl : G'.length = G.length) (h : ∀ (i : Nat) (r : R), G'[i]? = some (some r) → G[i]? = some (some r)) : Rep S0 H0 G' σ H S :=
  ⟨p.ext, hl.trans p.len, fun i r e => p.slot i r (h i r e), fun i j r r' v v' x n a b => p.sep i j r r' v v' x n (h _ _ a) (h _ _ b)⟩
theorem get_set {α : Type} {l : List α} {i j : Nat} {a b : α} (h : (l.set i a)[j]? = some b) : (i = j ∧ i < l.length ∧ a = b) ∨ (i ≠ j ∧ l[j]? = some b) := by
  by_cases e : i = j
  · subst e
    by_cases hl : i < l.length
    · rw [List.getElem?_set_self hl] at h
      cases h
      exact .inl ⟨rfl, hl, rfl⟩
    · rw [List.getElem?_eq_none (by rw [List.length_set]; omega)] at h
      cases h
  · rw [List.getElem?_set_ne e] at h
    exact .inr ⟨e, h⟩
/-- a slot stored -/
theorem Rep.setR {S0 H0 : Hp} {G : Gm} {σ : L2.St} {H S S1 H1 : Hp} (p : Rep S0 H0 G σ H S) (g : Gx S H S1 H1) {i : Nat} {v : V} {r : R} (h : Hd H S1 H1 v r) (n1 : ∀ ds, r ≠ .en ds) (n2 : ∀ ds, r ≠ .lv ds) : Rep S0 H0 (G.set i (some r)) (σ.set i (some v)) H1 S1 := by
  have p1 := p.step g
  refine ⟨p1.ext, by rw [List.length_set, List.length_set]; exact p.len, fun j r' e => ?_, fun j k r1 r2 v1 v2 x n a b c d o1 o2 => ?_⟩
  · rcases get_set e with ⟨rfl, hl, q⟩ | ⟨n, q⟩
    · cases q
      exact ⟨v, List.getElem?_set_self (by rw [← p.len]; exact hl), h.base p.ext.hh n1, n2⟩
    · obtain ⟨w, h1, h2⟩ := p1.slot j r' q
      exact ⟨w, by rw [List.getElem?_set_ne n]; exact h1, h2⟩
  · have key : ∀ (j : Nat) (r' : R) (w : V), G[j]? = some (some r') → σ[j]? = some (some w) → Owns r v x → Owns r' w x → False := fun j r' w e1 e2 o1 o2 => by
      obtain ⟨w', h1, h2, _⟩ := p.slot j r' e1
      rw [e2] at h1
      cases h1
      exact (h2.own o2).2.2 (h.own o1).1
    rcases get_set a with ⟨rfl, hl, q⟩ | ⟨n1, q⟩
    · cases q
      rcases get_set b with ⟨rfl, _, _⟩ | ⟨n2, q2⟩
      · exact n rfl
      · rw [List.getElem?_set_self (by rw [← p.len]; exact hl)] at c
        rw [List.getElem?_set_ne n2] at d
        cases c
        exact key k r2 v2 q2 d o1 o2
    · rw [List.getElem?_set_ne n1] at c
      rcases get_set b with ⟨rfl, hl, q2⟩ | ⟨n2, q2⟩
      · cases q2
        rw [List.getElem?_set_self (by rw [← p.len]; exact hl)] at d
        cases d
        exact key j r1 v1 q c o2 o1
      · rw [List.getElem?_set_ne n2] at d
        exact p.sep j k r1 r2 v1 v2 x n q q2 c d o1 o2
/-- a slot stored: a shared datum -/
theorem Rep.setS {S0 H0 : Hp} {G : Gm} {σ : L2.St} {H S : Hp} (p : Rep S0 H0 G σ H S) {i : Nat} {v : V} {d : D} (h : Den S d v) : Rep S0 H0 (G.set i (some (.sh d))) (σ.set i (some v)) H S :=
  p.setR (Gx.refl p.s0) (r := .sh d) h (fun _ z => nomatch z) fun _ z => nomatch z
/-- a slot stored: a new list -/
theorem Rep.setO {S0 H0 : Hp} {G : Gm} {σ : L2.St} {H S S1 H1 : Hp} (p : Rep S0 H0 G σ H S) (g : Gx S H S1 H1) {i : Nat} {v : V} {ds : List D} (h : Hd H S1 H1 v (.ow ds)) : Rep S0 H0 (G.set i (some (.ow ds))) (σ.set i (some v)) H1 S1 :=
  p.setR g h (fun _ z => nomatch z) fun _ z => nomatch z
/-- what a slot owns is shared from now on -/
theorem Rep.share {S0 H0 : Hp} {G : Gm} {σ : L2.St} {H S S' : Hp} (p : Rep S0 H0 G σ H S) {i : Nat} {r : R} {v : V} {d : D} (h : G[i]? = some (some r)) (hv : σ[i]? = some (some v)) (ss : Same S S') (sh : Same S' H) (own : ∀ b, S' b ≠ S b → Owns r v b) (hd : Den S' d v) : Rep S0 H0 (G.set i (some (.sh d))) σ H S' := by
  have hme : Hd H0 S H v r := by
    obtain ⟨w, h1, h2, _⟩ := p.slot i r h
    rw [hv] at h1
    cases h1
    exact h2
  have keep : ∀ (j : Nat) (r' : R) (w : V) (b : Addr), i ≠ j → G[j]? = some (some r') → σ[j]? = some (some w) → Owns r' w b → S' b = S b := fun j r' w b n e1 e2 o => by
    by_cases q : S' b = S b
    · exact q
    · exact (p.sep i j r r' v w b n h e1 hv e2 (own b q) o).elim
  refine ⟨⟨p.ext.ss.trans ss, p.ext.hh, sh, fun b hb => ?_⟩, by rw [List.length_set]; exact p.len, fun j r' e => ?_, fun j k r1 r2 v1 v2 x n a b c d' o1 o2 => ?_⟩
  · by_cases q : S' b = S b
    · exact q.trans (p.ext.fr b hb)
    · exact absurd (hme.own (own b q)).1 hb
  · rcases get_set e with ⟨rfl, hl, q⟩ | ⟨n, q⟩
    · cases q
      exact ⟨v, hv, hd, fun _ z => nomatch z⟩
    · obtain ⟨w, h1, h2, h3⟩ := p.slot j r' q
      refine ⟨w, h1, ?_, h3⟩
      cases r' with
      | sh d => exact Den.mono ss h2
      | ow es =>
        obtain ⟨b, ys, rfl, k1, k2, k3, k4⟩ := h2
        exact ⟨b, ys, rfl, k1, (keep j _ _ b n q h1 rfl).trans k2, k3, DenAll.mono ss k4⟩
      | en es =>
        obtain ⟨b, ys, rfl, k1, k2⟩ := h2
        exact ⟨b, ys, rfl, k1, DenAll.mono ss k2⟩
      | lv es => exact absurd rfl (h3 es)
      | reg w M =>
        refine ⟨h2.1, fun b o z => ?_⟩
        obtain ⟨k1, k2, k3⟩ := h2.2 b o z
        exact ⟨k1, (keep j _ _ b n q h1 (by show M b ≠ none; rw [z]; intro z; cases z)).trans k2, k3⟩
  · rcases get_set a with ⟨rfl, hl, q⟩ | ⟨n1, q⟩
    · cases q
      exact o1
    rcases get_set b with ⟨rfl, hl, q2⟩ | ⟨n2, q2⟩
    · cases q2
      exact o2
    exact p.sep j k r1 r2 v1 v2 x n q q2 c d' o1 o2
/-- an owned list is shared from now on -/
theorem Rep.freeze {S0 H0 : Hp} {G : Gm} {σ : L2.St} {H S : Hp} (p : Rep S0 H0 G σ H S) {i : Nat} {ds : List D} (h : G[i]? = some (some (.ow ds))) : ∃ S', Same S S' ∧ Rep S0 H0 (G.set i (some (.sh (.lst ds)))) σ H S' := by
  obtain ⟨v, hv, ⟨a, xs, rfl, hB, hS, hH, hd⟩, _⟩ := p.slot i _ h
  have ss : Same S (upd S a (.lst xs)) := fun b u q => by rw [upd_ne (ne_of_none q hS)]; exact q
  refine ⟨upd S a (.lst xs), ss, p.share h hv ss (fun b u q => ?_) (fun b q => ?_) (den_lst.mpr ⟨a, xs, rfl, upd_same, DenAll.mono ss hd⟩)⟩
  · by_cases hb : b = a
    · subst hb; rw [upd_same] at q; cases q; exact hH
    · rw [upd_ne hb] at q; exact p.s0 b u q
  · by_cases hb : b = a
    · subst hb; rfl
    · exact absurd (upd_ne hb) q
/-- two heaps over one another -/
def ov (M S : Hp) : Hp := fun b => match M b with
  | some o => some o
  | none => S b
/-- a region is shared from now on -/
theorem Rep.freezeR {S0 H0 : Hp} {G : Gm} {σ : L2.St} {H S : Hp} (p : Rep S0 H0 G σ H S) {i : Nat} {w : V} {M : Hp} {d : D} (h : G[i]? = some (some (.reg w M))) (hd : Den M d w) : ∃ S', Same S S' ∧ Rep S0 H0 (G.set i (some (.sh d))) σ H S' := by
  obtain ⟨v, hv, ⟨rfl, hM⟩, _⟩ := p.slot i _ h
  have sm : Same M (ov M S) := fun b u q => by unfold ov; rw [q]
  have ss : Same S (ov M S) := fun b u q => by
    unfold ov
    cases z : M b with
    | none => exact q
    | some o =>
      rw [(hM b o z).2.1] at q
      cases q
  refine ⟨ov M S, ss, p.share h hv ss (fun b u q => ?_) (fun b q => ?_) (Den.mono sm hd)⟩
  · unfold ov at q
    cases z : M b with
    | none => rw [z] at q; exact p.s0 b u q
    | some u' => rw [z] at q; cases q; exact (hM b _ z).2.2
  · intro z
    refine q ?_
    unfold ov
    rw [z]
/-- what a slot owns changed; it may have taken in what is new -/
theorem Rep.mutR {S0 H0 : Hp} {G : Gm} {σ : L2.St} {H S S1 H1 H2 : Hp} (p : Rep S0 H0 G σ H S) (g : Gx S H S1 H1) {i : Nat} {r r' : R} {v : V} (h : G[i]? = some (some r)) (hv : σ[i]? = some (some v)) (same : ∀ b, H2 b ≠ H1 b → Owns r v b) (hr : Hd H0 S1 H2 v r') (n2 : ∀ ds, r' ≠ .lv ds)
    (ho : ∀ x, Owns r' v x → Owns r v x ∨ H x = none) : Rep S0 H0 (G.set i (some r')) σ H2 S1 := by
  have p1 := p.step g
  have hme : Hd H0 S1 H1 v r := by
    obtain ⟨w, h1, h2, _⟩ := p1.slot i r h
    rw [hv] at h1
    cases h1
    exact h2
  have keep : ∀ b, ¬ Owns r v b → H2 b = H1 b := fun b n => by
    by_cases q : H2 b = H1 b
    · exact q
    · exact absurd (same b q) n
  refine ⟨⟨p1.ext.ss, fun b u q => ?_, fun b u q => ?_, p1.ext.fr⟩, by rw [List.length_set]; exact p.len, fun j r1 e => ?_, fun j k r1 r2 v1 v2 x n a b c d' o1 o2 => ?_⟩
  · rw [keep b fun o => by rw [(hme.own o).1] at q; cases q]
    exact p1.ext.hh b u q
  · rw [keep b fun o => by rw [(hme.own o).2.1] at q; cases q]
    exact p1.s0 b u q
  · rcases get_set e with ⟨rfl, hl, q⟩ | ⟨n, q⟩
    · cases q
      exact ⟨v, hv, hr, n2⟩
    · obtain ⟨w, h1, h2, h3⟩ := p1.slot j r1 q
      refine ⟨w, h1, ?_, h3⟩
      cases r1 with
      | sh d => exact h2
      | ow es =>
        obtain ⟨b, zs, rfl, k1, k2, k3, k4⟩ := h2
        exact ⟨b, zs, rfl, k1, k2, by rw [keep b fun o => p.sep i j _ _ _ _ b n h q hv h1 o rfl]; exact k3, k4⟩
      | en es => exact h2
      | lv es => exact absurd rfl (h3 es)
      | reg w M =>
        refine ⟨h2.1, fun b o z => ?_⟩
        obtain ⟨k1, k2, k3⟩ := h2.2 b o z
        exact ⟨k1, k2, by rw [keep b fun o' => p.sep i j _ _ _ _ b n h q hv h1 o' (by show M b ≠ none; rw [z]; intro z; cases z)]; exact k3⟩
  · have key : ∀ (j : Nat) (r2 : R) (w : V), i ≠ j → G[j]? = some (some r2) → σ[j]? = some (some w) → Owns r' v x → Owns r2 w x → False := fun j r2 w n e1 e2 o1 o2 => by
      rcases ho x o1 with q | q
      · exact p.sep i j r r2 v w x n h e1 hv e2 q o2
      · obtain ⟨w', h1, h2, _⟩ := p.slot j r2 e1
        rw [e2] at h1
        cases h1
        exact (h2.own o2).2.2 q
    rcases get_set a with ⟨rfl, hl, q⟩ | ⟨n1, q⟩
    · cases q
      rw [hv] at c
      cases c
      rcases get_set b with ⟨rfl, _, _⟩ | ⟨n2, q2⟩
      · exact n rfl
      · exact key k r2 v2 n q2 d' o1 o2
    · rcases get_set b with ⟨rfl, hl, q2⟩ | ⟨n2, q2⟩
      · cases q2
        rw [hv] at d'
        cases d'
        exact key j r1 v1 n1 q c o2 o1
      · exact p.sep j k r1 r2 v1 v2 x n q q2 c d' o1 o2
/-- an owned list changed -/
theorem Rep.mut {S0 H0 : Hp} {G : Gm} {σ : L2.St} {H S : Hp} (p : Rep S0 H0 G σ H S) {i : Nat} {ds es : List D} {a : Addr} {xs ys : List V} (h : G[i]? = some (some (.ow ds))) (ha : σ[i]? = some (some (.ref a))) (hH : H a = some (.lst xs))
    (hy : DenAll S es ys) : Rep S0 H0 (G.set i (some (.ow es))) σ (upd H a (.lst ys)) S := by
  obtain ⟨v, hv, ⟨a', xs', e, hB, hS, hH', hd⟩, _⟩ := p.slot i _ h
  rw [ha] at hv
  cases hv
  cases e
  refine p.mutR (Gx.refl p.s0) h ha (fun b q => ?_) ⟨a, ys, rfl, hB, hS, upd_same, hy⟩ (fun _ z => nomatch z) fun x o => .inl o
  by_cases hb : b = a
  · subst hb; rfl
  · exact absurd (upd_ne hb) q
end VL

-- VL2
set_option Elab.async false
set_option linter.all false
set_option autoImplicit false
set_option maxRecDepth 100000
set_option maxHeartbeats 4000000
namespace VL
open PySem PySem.Spec L2

/-! ### the weakest readings -/
section
variable (X : Cx)
def wE (e : Expr) : TE := fun σ H Q => ∀ pins s, Inv X pins σ H s → wpAny (model X.prog X.w) X.A (eval e X.env) (EP X pins σ Q) X.xe s
def wT (e : Expr) : TT := fun σ H Q => ∀ pins s, Inv X pins σ H s → wpAny (model X.prog X.w) X.A (isTrue e X.env (eval e X.env)) (TP X pins σ Q) X.xe s
def wW (e : Expr) : TT := fun σ H Q => ∀ (whole : Sem Value) pins s, Inv X pins σ H s → wpAny (model X.prog X.w) X.A (isTrue e X.env whole) (TP X pins σ Q) X.xe s
def wTs (ifs : List Expr) : TT := fun σ H Q => ∀ pins s, Inv X pins σ H s →
  wpAny (model X.prog X.w) X.A (forIn ifs true fun c r => if r = true then do let ok ← isTrue c X.env (eval c X.env); pure (ForInStep.yield ok) else pure (ForInStep.yield r)) (TP X pins σ Q) X.xe s
def wA (es : List Expr) : TA := fun σ H Q => ∀ (pos : Pos) pins s, Inv X pins σ H s → wpAny (model X.prog X.w) X.A (spliced (backTo pos (starEach es X.env))) (AP X pins σ Q) X.xe s
def wS (st : Stmt) : TS := fun D σ H => ∀ pins s, Inv X pins σ H s → wpAny (model X.prog X.w) X.A (exec st X.env) (SP X pins D) X.xe s
def wSs (st : List Stmt) : TS := fun D σ H => ∀ pins s, Inv X pins σ H s → wpAny (model X.prog X.w) X.A (execs st X.env) (SP X pins D) X.xe s
def wG (tg : Expr) : TG := fun v σ H Q => ∀ pins s u, Inv X pins σ H s → RelV v u → wpAny (model X.prog X.w) X.A (assign tg X.env u) (fun _ s' => ∃ σ' H', Inv X pins σ' H' s' ∧ Q σ' H') X.xe s
def wGs (ts : List Expr) : TGs := fun vs σ H Q => ∀ pins s us, Inv X pins σ H s → Vals vs us → wpAny (model X.prog X.w) X.A (assignInOrder ((assignEach ts X.env).map (·.2)) us) (fun _ s' => ∃ σ' H', Inv X pins σ' H' s' ∧ Q σ' H') X.xe s
def wI (tg iter : Expr) : TI := fun σ H Q => ∀ pins s, Inv X pins σ H s → wpAny (model X.prog X.w) X.A (eval iter X.env) (fun v s1 => wpAny (model X.prog X.w) X.A (pyIter v) (PIE X pins σ tg Q) X.xe s1) X.xe s
end
section
variable {X : Cx} {e : Expr} {es : List Expr} {st : Stmt} {sts : List Stmt} {tg iter : Expr} {tgs : List Expr}
theorem pe_w : PE X e (wE X e) := ⟨fun pins s _ _ _ I h => h pins s I⟩
theorem pt_w : PT X e (wT X e) := ⟨fun pins s _ _ _ I h => h pins s I⟩
theorem pw_w : PW X e (wW X e) := ⟨fun wh pins s _ _ _ I h => h wh pins s I⟩
theorem pts_w : PTs X es (wTs X es) := ⟨fun pins s _ _ _ I h => h pins s I⟩
theorem pa_w : PA X es (wA X es) := ⟨fun pos pins s _ _ _ I h => h pos pins s I⟩
theorem ps_w : PS X st (wS X st) := ⟨fun pins s _ _ _ I h => h pins s I⟩
theorem pss_w : PSs X sts (wSs X sts) := ⟨fun pins s _ _ _ I h => h pins s I⟩
theorem pg_w : PG X tg (wG X tg) := ⟨fun pins s _ _ _ u _ I r h => h pins s u I r⟩
theorem pgs_w : PGs X tgs (wGs X tgs) := ⟨fun pins s _ _ _ us _ I r h => h pins s us I r⟩
theorem pi_w : PI X tg iter (wI X tg iter) := ⟨fun pins s _ _ _ I h => h pins s I⟩
theorem wE.of {t : TE} {σ : L2.St} {H : Hp} {Q : VK} (h : PE X e t) (q : t σ H Q) : wE X e σ H Q := fun pins s I => h.run pins s σ H Q I q
theorem wT.of {t : TT} {σ : L2.St} {H : Hp} {Q : Bool → Hp → Prop} (h : PT X e t) (q : t σ H Q) : wT X e σ H Q := fun pins s I => h.run pins s σ H Q I q
theorem wW.of {t : TT} {σ : L2.St} {H : Hp} {Q : Bool → Hp → Prop} (h : PW X e t) (q : t σ H Q) : wW X e σ H Q := fun wh pins s I => h.run wh pins s σ H Q I q
theorem wTs.of {t : TT} {σ : L2.St} {H : Hp} {Q : Bool → Hp → Prop} (h : PTs X es t) (q : t σ H Q) : wTs X es σ H Q := fun pins s I => h.run pins s σ H Q I q
theorem wA.of {t : TA} {σ : L2.St} {H : Hp} {Q : List V → Hp → Prop} (h : PA X es t) (q : t σ H Q) : wA X es σ H Q := fun pos pins s I => h.run pos pins s σ H Q I q
theorem wS.of {t : TS} {σ : L2.St} {H : Hp} {D : Ends} (h : PS X st t) (q : t D σ H) : wS X st D σ H := fun pins s I => h.run pins s σ H D I q
theorem wSs.of {t : TS} {σ : L2.St} {H : Hp} {D : Ends} (h : PSs X sts t) (q : t D σ H) : wSs X sts D σ H := fun pins s I => h.run pins s σ H D I q
theorem wG.of {t : TG} {σ : L2.St} {H : Hp} {v : V} {Q : L2.St → Hp → Prop} (h : PG X tg t) (q : t v σ H Q) : wG X tg v σ H Q := fun pins s u I r => h.run pins s σ H v u Q I r q
theorem wGs.of {t : TGs} {σ : L2.St} {H : Hp} {vs : List V} {Q : L2.St → Hp → Prop} (h : PGs X tgs t) (q : t vs σ H Q) : wGs X tgs vs σ H Q := fun pins s us I r => h.run pins s σ H vs us Q I r q
theorem wI.of {t : TI} {σ : L2.St} {H : Hp} {Q : It → Hp → Prop} (h : PI X tg iter t) (q : t σ H Q) : wI X tg iter σ H Q := fun pins s I => h.run pins s σ H Q I q
theorem wE.mono {σ : L2.St} {H : Hp} {Q Q' : VK} (q : wE X e σ H Q) (h : ∀ v H', Q v H' → Q' v H') : wE X e σ H Q' := fun pins s I => thn (q pins s I) fun _ _ ⟨v, H', I', r, k⟩ => ⟨v, H', I', r, h v H' k⟩
end

/-! ### judgements -/
def R.asL : R → Option (List D)
  | .sh (.lst ds) => some ds
  | .ow ds => some ds
  | .en ds => some ds
  | .lv ds => some ds
  | _ => none
def R.isEn : R → Bool
  | .en _ => true
  | _ => false
def R.d : R → D
  | .sh d => d
  | .ow ds => .lst ds
  | .en ds => .lst ds
  | .lv ds => .lst ds
  | .reg v _ => .raw v
/-- how a callee sees an argument -/
def R.arg : R → R
  | .sh d => .sh d
  | .ow ds => .en ds
  | .en ds => .en ds
  | .lv ds => .en ds
  | .reg v _ => .sh (.raw v)
theorem Hd.asL {B S H : Hp} {v : V} {r : R} {ds : List D} (h : Hd B S H v r) (e : r.asL = some ds) (n : r.isEn = false) (s : Same S H) : ∃ a xs, v = .ref a ∧ H a = some (.lst xs) ∧ DenAll S ds xs := by
  cases r with
  | sh d =>
    cases d <;> simp [R.asL] at e
    subst e
    obtain ⟨a, xs, h1, h2, h3⟩ := den_lst.mp h
    exact ⟨a, xs, h1, s _ _ h2, h3⟩
  | ow es =>
    cases e
    obtain ⟨a, xs, h1, _, _, h2, h3⟩ := h
    exact ⟨a, xs, h1, h2, h3⟩
  | en es => cases n
  | lv es =>
    cases e
    exact h
  | reg w M => cases e
theorem Hd.den {B S H : Hp} {v : V} {r : R} (h : Hd B S H v r) (n : r.isEn = false) (s : Same S H) : Den H r.d v := by
  cases r with
  | sh d => exact Den.mono s h
  | ow es =>
    obtain ⟨a, xs, h1, _, _, h2, h3⟩ := h
    exact den_lst.mpr ⟨a, xs, h1, h2, DenAll.mono s h3⟩
  | en es => cases n
  | lv es =>
    obtain ⟨a, xs, h1, h2, h3⟩ := h
    exact den_lst.mpr ⟨a, xs, h1, h2, DenAll.mono s h3⟩
  | reg w M => exact den_raw.mpr h.1
theorem noEn {r : R} (n : r.isEn = false) : ∀ ds, r ≠ .en ds := fun ds z => by subst z; cases n
theorem Hd.arg {B S H : Hp} {v : V} {r : R} (h : Hd B S H v r) (n : r.isEn = false) : Hd H S H v r.arg := by
  cases r with
  | sh d => exact h
  | ow es =>
    obtain ⟨a, xs, h1, _, _, h2, h3⟩ := h
    exact ⟨a, xs, h1, h2, h3⟩
  | en es => cases n
  | lv es => exact h
  | reg w M => exact den_raw.mpr h.1
def HdAll (B S H : Hp) : List V → List R → Prop
  | vs, [] => vs = []
  | vs, r :: rs => ∃ v vr, vs = v :: vr ∧ Hd B S H v r ∧ HdAll B S H vr rs

/-- an exception: its class; the fields of its own dict, where it has one -/
abbrev XV := Value × Option (List Str × List D)
def ExAt (S H : Hp) (x : XV) (d : Option Addr) : Prop := match x.2 with
  | none => d = none
  | some fs => ∃ dd vs, d = some dd ∧ S dd = some (.xd (fs.1.zip vs)) ∧ DenAll S fs.2 vs
structure EndV where
  nx : Gm → Prop
  rt : R → Prop
  bk : Gm → Prop := fun _ => False
  ct : Gm → Prop := fun _ => False
  ex : XV → Prop := fun _ => False
structure OkV (S0 H0 : Hp) (V : EndV) (D : Ends) (E : XK) : Prop where
  nx : ∀ G σ H S, V.nx G → Rep S0 H0 G σ H S → D.nx σ H
  rt : ∀ r v H S, V.rt r → Gx S0 H0 S H → Hd H0 S H v r → D.rt v H
  bk : ∀ G σ H S, V.bk G → Rep S0 H0 G σ H S → D.bk σ H
  ct : ∀ G σ H S, V.ct G → Rep S0 H0 G σ H S → D.ct σ H
  ex : ∀ x d H S, V.ex x → Gx S0 H0 S H → ExAt S H x d → E x.1 d H

section
variable (X : Cx) (G : Gm)
def VE (e : Expr) (r : R) : Prop := r.isEn = false ∧ ∀ S0 H0 σ H S, Rep S0 H0 G σ H S → ∀ Q : VK, (∀ v H' S', Gx S H S' H' → Hd H S' H' v r → Q v H') → wE X e σ H Q
/-- the expression raises -/
def VX (e : Expr) (x : XV) : Prop := ∀ S0 H0 σ H S (E : XK), Takes X (fun c d _ H => E c d H) → Rep S0 H0 G σ H S → (∀ d H' S', Gx S H S' H' → ExAt S' H' x d → E x.1 d H') → wE X e σ H fun _ _ => False
def VT (e : Expr) (b : Bool) : Prop := ∀ S0 H0 σ H S, Rep S0 H0 G σ H S → ∀ Q : Bool → Hp → Prop, (∀ H' S', Gx S H S' H' → Q b H') → wT X e σ H Q
def VW (e : Expr) (b : Bool) : Prop := ∀ S0 H0 σ H S, Rep S0 H0 G σ H S → ∀ Q : Bool → Hp → Prop, (∀ H' S', Gx S H S' H' → Q b H') → wW X e σ H Q
def VTs (es : List Expr) (b : Bool) : Prop := ∀ S0 H0 σ H S, Rep S0 H0 G σ H S → ∀ Q : Bool → Hp → Prop, (∀ H' S', Gx S H S' H' → Q b H') → wTs X es σ H Q
def VA (es : List Expr) (rs : List R) : Prop := ∀ S0 H0 σ H S, Rep S0 H0 G σ H S → ∀ Q : List V → Hp → Prop, (∀ vs H' S', Gx S H S' H' → HdAll H S' H' vs rs → Q vs H') → wA X es σ H Q
def VS (st : Stmt) (V : EndV) : Prop := ∀ S0 H0 σ H S D (E : XK), Takes X (fun c d _ H => E c d H) → Rep S0 H0 G σ H S → OkV S0 H0 V D E → wS X st D σ H
def VSs (sts : List Stmt) (V : EndV) : Prop := ∀ S0 H0 σ H S D (E : XK), Takes X (fun c d _ H => E c d H) → Rep S0 H0 G σ H S → OkV S0 H0 V D E → wSs X sts D σ H
/-- a shared datum is stored at a target -/
def VG (tg : Expr) (d : D) (K : Gm → Prop) : Prop := ∀ S0 H0 σ H S v, Rep S0 H0 G σ H S → Den S d v → ∀ Q : L2.St → Hp → Prop, (∀ G' σ', K G' → Rep S0 H0 G' σ' H S → Q σ' H) → wG X tg v σ H Q
def VGs (tgs : List Expr) (ds : List D) (K : Gm → Prop) : Prop := ∀ S0 H0 σ H S vs, Rep S0 H0 G σ H S → DenAll S ds vs → ∀ Q : L2.St → Hp → Prop, (∀ G' σ', K G' → Rep S0 H0 G' σ' H S → Q σ' H) → wGs X tgs vs σ H Q
end

/-- A: where the iterator's things stand -/
def ItOk (A S1 : Hp) (J : It) (ds : List D) : Prop := ∀ (i : Nat) (H S : Hp), Same A H → Same S1 S → Same S H →
  (i < ds.length → J.go i H ∧ ∀ x H', J.yld i H x H' → ∃ S' d, Gx S H S' H' ∧ ds[i]? = some d ∧ Den S' d x) ∧ (i = ds.length → J.stop i H)
section
variable (X : Cx) (G : Gm)
/-- the iterable gives ds: for good | for the moment -/
def VI (tg iter : Expr) (ds : List D) : Prop := ∀ S0 H0 σ H S, Rep S0 H0 G σ H S → ∀ Q : It → Hp → Prop, (∀ J A H1 S1, Gx S H S1 H1 → ItOk A S1 J ds → (∀ H' S', Same H0 H' → Same S1 S' → Same S' H' → Same A H') → Q J H1) → wI X tg iter σ H Q
def VIm (tg iter : Expr) (ds : List D) : Prop := ∀ S0 H0 σ H S, Rep S0 H0 G σ H S → ∀ Q : It → Hp → Prop, (∀ J A H1 S1, Gx S H S1 H1 → ItOk A S1 J ds → Same A H1 → Q J H1) → wI X tg iter σ H Q
end
theorem VI.m {X : Cx} {G : Gm} {tg iter : Expr} {ds : List D} (h : VI X G tg iter ds) : VIm X G tg iter ds := fun S0 H0 σ H S p Q q => h S0 H0 σ H S p Q fun J A H1 S1 g io st => q J A H1 S1 g io (st H1 S1 (p.ext.trans g).hh (Same.refl _) g.sh)

structure Good (X : Cx) : Prop where
  calm : X.calm = true
  nd : X.N.Nodup
  ps : PassesOwn (model X.prog X.w) X.A X.env X.xe
  un : X.A.units + 64 < cLine

section
variable {X : Cx} {G : Gm} {pos : Pos} {a b c : Expr} {r ra rb : R}
theorem VE.n (h : VE X G a r) : r.isEn = false := h.1
/-! ### leaves -/
theorem ve_int {i : Int} {j : Nat} : VE X G (.Constant (.int i) j pos) (.sh (.int i)) := ⟨rfl, fun _ _ σ H S p Q q => wE.of pe_int (q _ H S (Gx.refl p.s0) (den_int.mpr rfl))⟩
theorem ve_bl {i : Bool} {j : Nat} : VE X G (.Constant (.bool i) j pos) (.sh (.bl i)) := ⟨rfl, fun _ _ σ H S p Q q => wE.of pe_bl (q _ H S (Gx.refl p.s0) (den_bl.mpr rfl))⟩
theorem ve_str {i : Str} {j : Nat} : VE X G (.Constant (.str i) j pos) (.sh (.str i)) := ⟨rfl, fun _ _ σ H S p Q q => wE.of pe_str (q _ H S (Gx.refl p.s0) (den_str.mpr rfl))⟩
theorem ve_non {j : Nat} : VE X G (.Constant .none j pos) (.sh .non) := ⟨rfl, fun _ _ σ H S p Q q => wE.of pe_non (q _ H S (Gx.refl p.s0) (den_non.mpr rfl))⟩
theorem ve_var (i : Nat) {x : Str} {d : D} (hG : G[i]? = some (some (.sh d))) (hN : X.N[i]? = some x := by rfl)
    (hv : Vis X.env.scope x := by first | exact Or.inl rfl | exact Or.inr (Or.inl rfl) | exact Or.inr (Or.inr rfl)) (hd : (x == ("__debug__" : Str)) = false := by decide) (hcd : (x == ("__classdict__" : Str)) = false := by decide) :
    VE X G (.Name x pos) (.sh d) := ⟨rfl, fun _ _ σ H S p Q q => by
  obtain ⟨v, h1, h2, _⟩ := p.slot i _ hG
  exact wE.of (pe_var hN hv hd hcd) ⟨v, h1, q v H S (Gx.refl p.s0) h2⟩⟩
/-- any list in a slot, read for the moment -/
theorem ve_varL (i : Nat) {x : Str} {r : R} {ds : List D} (hG : G[i]? = some (some r)) (hr : r.asL = some ds) (hN : X.N[i]? = some x := by rfl)
    (hv : Vis X.env.scope x := by first | exact Or.inl rfl | exact Or.inr (Or.inl rfl) | exact Or.inr (Or.inr rfl)) (hd : (x == ("__debug__" : Str)) = false := by decide) (hcd : (x == ("__classdict__" : Str)) = false := by decide) :
    VE X G (.Name x pos) (.lv ds) := ⟨rfl, fun S0 H0 σ H S p Q q => by
  obtain ⟨v, h1, h2, h3⟩ := p.slot i _ hG
  refine wE.of (pe_var hN hv hd hcd) ⟨v, h1, q v H S (Gx.refl p.s0) ?_⟩
  by_cases n : r.isEn = false
  · exact h2.asL hr n p.s0
  · cases r with
    | en es =>
      cases hr
      obtain ⟨a, xs, e1, e2, e3⟩ := h2
      exact ⟨a, xs, e1, p.ext.hh _ _ e2, e3⟩
    | _ => exact absurd rfl n⟩
theorem ve_glob {x : Str} {v : V} {u : Value} {d : D} (hg : Gl X x) (hm : X.mg x = some u) (rv : RelV v u) (hd : ∀ S, Den S d v) (hdb : (x == ("__debug__" : Str)) = false := by decide) : VE X G (.Name x pos) (.sh d) :=
  ⟨rfl, fun _ _ σ H S p Q q => wE.of (pe_glob hg hm rv hdb) (q v H S (Gx.refl p.s0) (hd S))⟩
/-- a built-in's name as a value -/
theorem ve_bltn {x : Str} {v : V} {u : Value} (hg : Gl X x) (hm : X.mg x = none) (hv : bootBuiltins x = some u) (rv : RelV v u) (hn : x ≠ "__name__" := by decide) (hd : (x == ("__debug__" : Str)) = false := by decide) : VE X G (.Name x pos) (.sh (.raw v)) :=
  ⟨rfl, fun _ _ σ H S p Q q => wE.of (pe_bltn hg hm hv rv hn hd) (q v H S (Gx.refl p.s0) (den_raw.mpr rfl))⟩
theorem VE.is {r' : R} (h : VE X G a r) (e : r = r') : VE X G a r' := e ▸ h
theorem ve_lv {ds : List D} (h : VE X G a r) (hr : r.asL = some ds) : VE X G a (.lv ds) := ⟨rfl, fun S0 H0 σ H S p Q q => h.2 S0 H0 σ H S p Q fun v H' S' g k => q v H' S' g (k.asL hr h.1 g.sh)⟩
/-- a new list is shared at once -/
theorem ve_pub {ds : List D} (h : VE X G a (.ow ds)) : VE X G a (.sh (.lst ds)) := ⟨rfl, fun S0 H0 σ H S p Q q => h.2 S0 H0 σ H S p Q fun v H' S' g k => by
  obtain ⟨l, xs, rfl, hB, hS, hH, hd⟩ := k
  have ss : Same S' (upd S' l (.lst xs)) := fun b u z => by rw [upd_ne (ne_of_none z hS)]; exact z
  refine q _ H' (upd S' l (.lst xs)) ⟨g.ss.trans ss, g.hh, fun b u z => ?_, fun b hb => ?_⟩ (den_lst.mpr ⟨l, xs, rfl, upd_same, DenAll.mono ss hd⟩)
  · by_cases hb : b = l
    · subst hb; rw [upd_same] at z; cases z; exact hH
    · rw [upd_ne hb] at z; exact g.sh b u z
  · rw [upd_ne (fun z => by subst z; exact hb hB)]
    exact g.fr b hb⟩

/-! ### operators -/
/-- what a two-place operation on values does with data -/
def OPv (r2 : R2) (ra rb out : R) : Prop := out.isEn = false ∧ ∀ B S H x y Q, Same S H → Hd B S H x ra → Hd B S H y rb → (∀ v H' S', Gx S H S' H' → Hd H S' H' v out → Q v H') → r2 x y H Q
theorem two {out : R} {r2 : R2} (ha : VE X G a ra) (hb : VE X G b rb) (ho : OPv r2 ra rb out) {S0 H0 H S : Hp} {σ : L2.St} (p : Rep S0 H0 G σ H S) {Q : VK} (q : ∀ v H' S', Gx S H S' H' → Hd H S' H' v out → Q v H') :
    tOp r2 (wE X a) (wE X b) σ H Q := by
  refine ha.2 S0 H0 σ H S p _ fun x H1 S1 g1 k1 => ?_
  refine hb.2 S0 H0 σ H1 S1 (p.step g1) _ fun y H2 S2 g2 k2 => ?_
  refine ho.2 H S2 H2 x y _ g2.sh (k1.step g2) (k2.base g1.hh (noEn hb.1)) fun v H3 S3 g3 k3 => ?_
  exact q v H3 S3 ((g1.trans g2).trans g3) (k3.base (g1.hh.trans g2.hh) (noEn ho.1))
theorem ve_bin {op : Operator} {r2 : R2} {out : R} (hop : OpR X (binaryOp op) r2) (ho : OPv r2 ra rb out) (ha : VE X G a ra) (hb : VE X G b rb) : VE X G (.BinOp a op b pos) out :=
  ⟨ho.1, fun S0 H0 σ H S p Q q => wE.of (pe_op hop pe_w pe_w) (two ha hb ho p q)⟩
theorem ve_cmp {op : CmpOp} {r2 : R2} {out : R} (hop : OpR X (compareOp op) r2) (ho : OPv r2 ra rb out) (ha : VE X G a ra) (hb : VE X G b rb) (hm : behindInMarks op b = false := by first | exact nomark _ | rfl) : VE X G (.Compare a [op] [b] pos) out :=
  ⟨ho.1, fun S0 H0 σ H S p Q q => wE.of (pe_cmpR hop pe_w pe_w hm) (two ha hb ho p q)⟩
theorem vt_cmp {op : CmpOp} {r2 : R2} {k : Bool} (hop : OpR X (compareOp op) r2) (ho : OPv r2 ra rb (.sh (.bl k))) (ha : VE X G a ra) (hb : VE X G b rb) (hm : behindInMarks op b = false := by first | exact nomark _ | rfl) : VT X G (.Compare a [op] [b] pos) k :=
  fun S0 H0 σ H S p Q q => wT.of (pt_cmpR hop pe_w pe_w hm) (two ha hb ho p fun v H' S' g h => ⟨k, den_bl.mp h, q H' S' g⟩)
theorem ve_ixR {r2 : R2} {out : R} (hop : IxR X r2) (ho : OPv r2 ra rb out) (ha : VE X G a ra) (hb : VE X G b rb) (hs : PlainIx b := by exact fun _ _ => rfl) : VE X G (.Subscript a b pos) out :=
  ⟨ho.1, fun S0 H0 σ H S p Q q => wE.of (pe_ix hop pe_w pe_w hs) (two ha hb ho p q)⟩
theorem opv_I {C : Int → Int → Prop} {g : Int → Int → V} {i j : Int} {d : D} (h : C i j) (hd : ∀ S, Den S d (g i j)) : OPv (rI C g) (.sh (.int i)) (.sh (.int j)) (.sh d) :=
  ⟨rfl, fun B S H x y Q s k1 k2 q => ⟨i, j, den_int.mp k1, den_int.mp k2, h, q _ H S (Gx.refl s) (hd S)⟩⟩
theorem opv_I0 {g : Int → Int → V} {i j : Int} {d : D} (hd : ∀ S, Den S d (g i j)) : OPv (rI0 g) (.sh (.int i)) (.sh (.int j)) (.sh d) :=
  ⟨rfl, fun B S H x y Q s k1 k2 q => ⟨i, j, den_int.mp k1, den_int.mp k2, q _ H S (Gx.refl s) (hd S)⟩⟩
theorem ve_add {i j : Int} (ha : VE X G a (.sh (.int i))) (hb : VE X G b (.sh (.int j))) : VE X G (.BinOp a .Add b pos) (.sh (.int (i + j))) := ve_bin op_add (opv_I0 fun _ => den_int.mpr rfl) ha hb
theorem ve_sub {i j : Int} (ha : VE X G a (.sh (.int i))) (hb : VE X G b (.sh (.int j))) : VE X G (.BinOp a .Sub b pos) (.sh (.int (i - j))) := ve_bin op_sub (opv_I0 fun _ => den_int.mpr rfl) ha hb
theorem ve_mul {i j : Int} (ha : VE X G a (.sh (.int i))) (hb : VE X G b (.sh (.int j))) (h : CMul i j) : VE X G (.BinOp a .Mult b pos) (.sh (.int (i * j))) := ve_bin op_mul (opv_I h fun _ => den_int.mpr rfl) ha hb
theorem ve_fdiv {i j : Int} (ha : VE X G a (.sh (.int i))) (hb : VE X G b (.sh (.int j))) (h : CDiv i j) : VE X G (.BinOp a .FloorDiv b pos) (.sh (.int (i / j))) := ve_bin op_fdiv (opv_I h fun _ => den_int.mpr rfl) ha hb
theorem ve_mod {i j : Int} (ha : VE X G a (.sh (.int i))) (hb : VE X G b (.sh (.int j))) (h : 0 < j) : VE X G (.BinOp a .Mod b pos) (.sh (.int (i % j))) := ve_bin op_mod (opv_I (C := fun _ j => 0 < j) h fun _ => den_int.mpr rfl) ha hb
theorem ve_pow {i j : Int} (ha : VE X G a (.sh (.int i))) (hb : VE X G b (.sh (.int j))) (h : CPow i j) : VE X G (.BinOp a .Pow b pos) (.sh (.int (i ^ j.toNat))) := ve_bin op_pow (opv_I h fun _ => den_int.mpr rfl) ha hb
theorem ve_addS {i j : Str} (ha : VE X G a (.sh (.str i))) (hb : VE X G b (.sh (.str j))) (h : i.length + j.length ≤ sizeLine) : VE X G (.BinOp a .Add b pos) (.sh (.str (i ++ j))) :=
  ve_bin (ra := .sh (.str i)) (rb := .sh (.str j)) op_add_str ⟨rfl, fun B S H x y Q s k1 k2 q => ⟨i, j, den_str.mp k1, den_str.mp k2, h, q _ H S (Gx.refl s) (den_str.mpr rfl)⟩⟩ ha hb
theorem ve_addL {ds es : List D} (ha : VE X G a ra) (hb : VE X G b rb) (hr : ra.asL = some ds) (hs : rb.asL = some es) (h : ds.length + es.length ≤ sizeLine) : VE X G (.BinOp a .Add b pos) (.ow (ds ++ es)) :=
  ve_bin op_cat ⟨rfl, fun B S H x y Q s k1 k2 q => by
    obtain ⟨l, xs, rfl, e1, d1⟩ := k1.asL hr ha.1 s
    obtain ⟨m, ys, rfl, e2, d2⟩ := k2.asL hs hb.1 s
    refine ⟨l, m, xs, ys, rfl, rfl, e1, e2, by rw [← d1.len, ← d2.len]; exact h, fun p hp => ?_⟩
    exact q _ _ S (Gx.new s hp) ⟨p, _, rfl, hp, Same.free s hp, upd_same, d1.append d2⟩⟩ ha hb
theorem ve_repL {ds : List D} {k : Int} (ha : VE X G a ra) (hb : VE X G b (.sh (.int k))) (hr : ra.asL = some ds) (h1 : -(2 ^ 63) ≤ k) (h2 : k < 2 ^ 63) (h : ds.length * k.toNat ≤ sizeLine) : VE X G (.BinOp a .Mult b pos) (.ow (List.replicate k.toNat ds).flatten) :=
  ve_bin op_rep ⟨rfl, fun B S H x y Q s k1 k2 q => by
    obtain ⟨l, xs, rfl, e1, d1⟩ := k1.asL hr ha.1 s
    refine ⟨l, k, xs, rfl, den_int.mp k2, e1, h1, h2, by rw [← d1.len]; exact h, fun p hp => ?_⟩
    exact q _ _ S (Gx.new s hp) ⟨p, _, rfl, hp, Same.free s hp, upd_same, d1.rep _⟩⟩ ha hb
theorem ve_neg {i : Int} (ha : VE X G a (.sh (.int i))) : VE X G (.UnaryOp .USub a pos) (.sh (.int (-i))) := ⟨rfl, fun S0 H0 σ H S p Q q => wE.of (pe_un un_neg pe_w) (ha.2 S0 H0 σ H S p _ fun v H1 S1 g k => ⟨i, den_int.mp k, q _ H1 S1 g (den_int.mpr rfl)⟩)⟩
/-! comparisons, as values (ve) and as tests (vt) -/
theorem opv_lt {i j : Int} : OPv (rI0 fun i j => .bl (decide (i < j))) (.sh (.int i)) (.sh (.int j)) (.sh (.bl (decide (i < j)))) := opv_I0 fun _ => den_bl.mpr rfl
theorem opv_le {i j : Int} : OPv (rI0 fun i j => .bl (decide (i ≤ j))) (.sh (.int i)) (.sh (.int j)) (.sh (.bl (decide (i ≤ j)))) := opv_I0 fun _ => den_bl.mpr rfl
theorem opv_gt {i j : Int} : OPv (rI0 fun i j => .bl (decide (j < i))) (.sh (.int i)) (.sh (.int j)) (.sh (.bl (decide (j < i)))) := opv_I0 fun _ => den_bl.mpr rfl
theorem opv_ge {i j : Int} : OPv (rI0 fun i j => .bl (decide (j ≤ i))) (.sh (.int i)) (.sh (.int j)) (.sh (.bl (decide (j ≤ i)))) := opv_I0 fun _ => den_bl.mpr rfl
theorem opv_eqI {i j : Int} : OPv rEq (.sh (.int i)) (.sh (.int j)) (.sh (.bl (decide (i = j)))) := ⟨rfl, fun B S H x y Q s k1 k2 q => by
  cases den_int.mp k1; cases den_int.mp k2
  refine ⟨rfl, ?_⟩
  have e : decide (V.int i = V.int j) = decide (i = j) := by rw [dec_int]; exact Bool.beq_eq_decide_eq i j
  rw [e]
  exact q _ H S (Gx.refl s) (den_bl.mpr rfl)⟩
theorem opv_neI {i j : Int} : OPv rNe (.sh (.int i)) (.sh (.int j)) (.sh (.bl (!decide (i = j)))) := ⟨rfl, fun B S H x y Q s k1 k2 q => by
  cases den_int.mp k1; cases den_int.mp k2
  refine ⟨rfl, ?_⟩
  have e : decide (V.int i = V.int j) = decide (i = j) := by rw [dec_int]; exact Bool.beq_eq_decide_eq i j
  rw [e]
  exact q _ H S (Gx.refl s) (den_bl.mpr rfl)⟩
theorem opv_eqS {i j : Str} : OPv rEq (.sh (.str i)) (.sh (.str j)) (.sh (.bl (decide (i = j)))) := ⟨rfl, fun B S H x y Q s k1 k2 q => by
  cases den_str.mp k1; cases den_str.mp k2
  refine ⟨rfl, ?_⟩
  have e : decide (V.str i = V.str j) = decide (i = j) := by simp
  rw [e]
  exact q _ H S (Gx.refl s) (den_bl.mpr rfl)⟩
theorem opv_neS {i j : Str} : OPv rNe (.sh (.str i)) (.sh (.str j)) (.sh (.bl (!decide (i = j)))) := ⟨rfl, fun B S H x y Q s k1 k2 q => by
  cases den_str.mp k1; cases den_str.mp k2
  refine ⟨rfl, ?_⟩
  have e : decide (V.str i = V.str j) = decide (i = j) := by simp
  rw [e]
  exact q _ H S (Gx.refl s) (den_bl.mpr rfl)⟩
def isNon : D → Bool
  | .non => true
  | .raw .non => true
  | _ => false
theorem isNon_den {S : Hp} {d : D} {v : V} (h : Den S d v) : decide (v = .non) = isNon d := by
  cases d with
  | non => cases den_non.mp h; rfl
  | bl b => cases den_bl.mp h; rfl
  | int b => cases den_int.mp h; rfl
  | str b => cases den_str.mp h; rfl
  | byt b => cases den_byt.mp h; rfl
  | lst b => obtain ⟨a, xs, rfl, _⟩ := den_lst.mp h; rfl
  | tup b => obtain ⟨a, xs, rfl, _⟩ := den_tup.mp h; rfl
  | raw b =>
    cases den_raw.mp h
    cases v <;> rfl
  | scr K ns => cases h; rfl
  | exc a dd fs ds => cases h; rfl
theorem opv_isN {d : D} : OPv (fun x y H Q => y = .non ∧ Q (.bl (decide (x = .non))) H) (.sh d) (.sh .non) (.sh (.bl (isNon d))) := ⟨rfl, fun B S H x y Q s k1 k2 q => by
  refine ⟨den_non.mp k2, ?_⟩
  rw [isNon_den k1]
  exact q _ H S (Gx.refl s) (den_bl.mpr rfl)⟩
theorem opv_notN {d : D} : OPv (fun x y H Q => y = .non ∧ Q (.bl (!decide (x = .non))) H) (.sh d) (.sh .non) (.sh (.bl (!isNon d))) := ⟨rfl, fun B S H x y Q s k1 k2 q => by
  refine ⟨den_non.mp k2, ?_⟩
  rw [isNon_den k1]
  exact q _ H S (Gx.refl s) (den_bl.mpr rfl)⟩
end
end VL

-- VL3
set_option Elab.async false
set_option linter.all false
set_option autoImplicit false
set_option maxRecDepth 100000
set_option maxHeartbeats 4000000
namespace VL
open PySem PySem.Spec L2

/-! ### arguments -/
section
variable (X : Cx) (G : Gm)
/-- all shared -/
def VAs (es : List Expr) (ds : List D) : Prop := ∀ S0 H0 σ H S, Rep S0 H0 G σ H S → ∀ Q : List V → Hp → Prop, (∀ vs H' S', Gx S H S' H' → DenAll S' ds vs → Q vs H') → wA X es σ H Q
end
section
variable {X : Cx} {G : Gm} {pos : Pos} {a b c e : Expr} {es : List Expr} {r ra rb out : R} {rs : List R} {d : D} {ds : List D}
theorem HdAll.step {B S H S' H' : Hp} (g : Gx S H S' H') : ∀ {rs : List R} {vs : List V}, HdAll B S H vs rs → HdAll B S' H' vs rs
  | [], _, h => h
  | r :: rs, _, h => by
    obtain ⟨v, vr, e, h1, h2⟩ := h
    exact ⟨v, vr, e, h1.step g, HdAll.step g h2⟩
theorem HdAll.base {B B' S H : Hp} (e : Same B' B) : ∀ {rs : List R} {vs : List V}, (∀ r ∈ rs, r.isEn = false) → HdAll B S H vs rs → HdAll B' S H vs rs
  | [], _, _, h => h
  | r :: rs, _, n, h => by
    obtain ⟨v, vr, e', h1, h2⟩ := h
    exact ⟨v, vr, e', h1.base e (noEn (n r (List.mem_cons_self))), HdAll.base e (fun r' h' => n r' (List.mem_cons_of_mem _ h')) h2⟩
theorem va_nil : VA X G [] [] := fun S0 H0 σ H S p Q q => wA.of pa_nil (q [] H S (Gx.refl p.s0) rfl)
theorem va_cons (h : VE X G e r) (t : VA X G es rs) (hn : ∀ r ∈ rs, r.isEn = false := by simp [R.isEn]) (hs : starEach (e :: es) X.env = (false, eval e X.env) :: starEach es X.env := by rfl) : VA X G (e :: es) (r :: rs) :=
  fun S0 H0 σ H S p Q q => wA.of (pa_cons pe_w pa_w hs) (h.2 S0 H0 σ H S p _ fun v H1 S1 g1 k1 => t S0 H0 σ H1 S1 (p.step g1) _ fun vs H2 S2 g2 k2 =>
    q (v :: vs) H2 S2 (g1.trans g2) ⟨v, vs, rfl, k1.step g2, k2.base g1.hh hn⟩)
theorem vas_nil : VAs X G [] [] := fun S0 H0 σ H S p Q q => wA.of pa_nil (q [] H S (Gx.refl p.s0) .nil)
theorem vas_cons (h : VE X G e (.sh d)) (t : VAs X G es ds) (hs : starEach (e :: es) X.env = (false, eval e X.env) :: starEach es X.env := by rfl) : VAs X G (e :: es) (d :: ds) :=
  fun S0 H0 σ H S p Q q => wA.of (pa_cons pe_w pa_w hs) (h.2 S0 H0 σ H S p _ fun v H1 S1 g1 k1 => t S0 H0 σ H1 S1 (p.step g1) _ fun vs H2 S2 g2 k2 =>
    q (v :: vs) H2 S2 (g1.trans g2) (.cons (Den.mono g2.ss k1) k2))
theorem ve_tup {k : Nat} (h : VAs X G es ds) (hl : ds.length ≤ sizeLine := by simp [sizeLine_eq]) : VE X G (.Tuple es k pos) (.sh (.tup ds)) := ⟨rfl, fun S0 H0 σ H S p Q q => wE.of (pe_tup pa_w) (h S0 H0 σ H S p _ fun vs H1 S1 g k => ⟨by rw [← k.len]; exact hl, fun l hp => by
  have g2 : Gx S1 H1 (upd S1 l (.tup vs)) (upd H1 l (.tup vs)) := Gx.newS g.sh hp
  exact q _ _ _ (g.trans g2) (.tup upd_same (DenAll.mono g2.ss k))⟩)⟩
theorem ve_lst (h : VAs X G es ds) (hl : ds.length ≤ sizeLine := by simp [sizeLine_eq]) : VE X G (.List es pos) (.ow ds) := ⟨rfl, fun S0 H0 σ H S p Q q => wE.of (pe_lst pa_w) (h S0 H0 σ H S p _ fun vs H1 S1 g k => ⟨by rw [← k.len]; exact hl, fun l hp => by
  have g2 : Gx S1 H1 S1 (upd H1 l (.lst vs)) := Gx.new g.sh hp
  exact q _ _ _ (g.trans g2) ⟨l, vs, rfl, g.gone hp, Same.free g.sh hp, upd_same, k⟩⟩)⟩

/-! ### deep equality -/
mutual
def D.py : D → PyData
  | .non => .none
  | .bl b => .bool b
  | .int i => .int i
  | .str s => .str s
  | .lst ds => .list (D.pyAll ds)
  | .tup ds => .tuple (D.pyAll ds)
  | .byt _ => .none
  | .raw _ => .none
  | .scr _ _ => .none
  | .exc _ _ _ _ => .none
def D.pyAll : List D → List PyData
  | [] => []
  | d :: ds => d.py :: D.pyAll ds
end
mutual
/-- plain data: no bytes, nothing raw -/
def D.pl : D → Bool
  | .byt _ => false
  | .raw _ => false
  | .scr _ _ => false
  | .exc _ _ _ _ => false
  | .lst ds => D.plAll ds
  | .tup ds => D.plAll ds
  | _ => true
def D.plAll : List D → Bool
  | [] => true
  | d :: ds => d.pl && D.plAll ds
end
mutual
theorem Den.dp {K : PySem.W.Frag} {H : Hp} : ∀ {d : D} {v : V}, Den H d v → d.pl = true → Dp K H v d.py
  | .non, _, h, _ => by cases h; unfold D.py; exact .non
  | .bl _, _, h, _ => by cases h; unfold D.py; exact .bl _
  | .int _, _, h, _ => by cases h; unfold D.py; exact .int _
  | .str _, _, h, _ => by cases h; unfold D.py; exact .str _
  | .byt _, _, h, n => by unfold D.pl at n; cases n
  | .raw _, _, h, n => by unfold D.pl at n; cases n
  | .scr _ _, _, h, n => by unfold D.pl at n; cases n
  | .exc _ _ _ _, _, h, n => by unfold D.pl at n; cases n
  | .lst ds, _, h, n => by
    unfold D.pl at n
    cases h with
    | lst h2 h3 => unfold D.py; exact .lst (.of h2) (DenAll.dp h3 n)
  | .tup ds, _, h, n => by
    unfold D.pl at n
    cases h with
    | tup h2 h3 => unfold D.py; exact .tup (.of h2) (DenAll.dp h3 n)
theorem DenAll.dp {K : PySem.W.Frag} {H : Hp} : ∀ {ds : List D} {vs : List V}, DenAll H ds vs → D.plAll ds = true → DpAll K H vs (D.pyAll ds)
  | [], _, h, _ => by cases h; unfold D.pyAll; exact .nil
  | d :: ds, _, h, n => by
    unfold D.plAll at n
    rw [Bool.and_eq_true] at n
    cases h with
    | cons h2 h3 => unfold D.pyAll; exact .cons (Den.dp h2 n.1) (DenAll.dp h3 n.2)
end
/-- what == asks of both sides -/
def D.ok (d : D) : Bool := d.pl && SeqAt.shaped d.py
def eqD (x y : D) : Bool := PyData.eqv x.py y.py
theorem opv_eqD (ha : ra.isEn = false) (hb : rb.isEn = false) (h1 : ra.d.ok = true) (h2 : rb.d.ok = true) : OPv (rEqD X.K) ra rb (.sh (.bl (eqD ra.d rb.d))) := ⟨rfl, fun B S H x y Q s k1 k2 q => by
  unfold D.ok at h1 h2
  rw [Bool.and_eq_true] at h1 h2
  exact ⟨_, _, (k1.den ha s).dp h1.1, (k2.den hb s).dp h2.1, h1.2, h2.2, q _ H S (Gx.refl s) (.bl _)⟩⟩
theorem opv_neD (ha : ra.isEn = false) (hb : rb.isEn = false) (h1 : ra.d.ok = true) (h2 : rb.d.ok = true) : OPv (rNeD X.K) ra rb (.sh (.bl (!eqD ra.d rb.d))) := ⟨rfl, fun B S H x y Q s k1 k2 q => by
  unfold D.ok at h1 h2
  rw [Bool.and_eq_true] at h1 h2
  exact ⟨_, _, (k1.den ha s).dp h1.1, (k2.den hb s).dp h2.1, h1.2, h2.2, q _ H S (Gx.refl s) (.bl _)⟩⟩
theorem ve_eqD (gd : Good X) (ha : VE X G a ra) (hb : VE X G b rb) (h1 : ra.d.ok = true) (h2 : rb.d.ok = true) : VE X G (.Compare a [.Eq] [b] pos) (.sh (.bl (eqD ra.d rb.d))) := ve_cmp (op_eqD gd.un) (opv_eqD ha.1 hb.1 h1 h2) ha hb
theorem ve_neD (gd : Good X) (ha : VE X G a ra) (hb : VE X G b rb) (h1 : ra.d.ok = true) (h2 : rb.d.ok = true) : VE X G (.Compare a [.NotEq] [b] pos) (.sh (.bl (!eqD ra.d rb.d))) := ve_cmp (op_neD gd.un) (opv_neD ha.1 hb.1 h1 h2) ha hb
theorem vt_eqD (gd : Good X) (ha : VE X G a ra) (hb : VE X G b rb) (h1 : ra.d.ok = true) (h2 : rb.d.ok = true) : VT X G (.Compare a [.Eq] [b] pos) (eqD ra.d rb.d) := vt_cmp (op_eqD gd.un) (opv_eqD ha.1 hb.1 h1 h2) ha hb
theorem vt_neD (gd : Good X) (ha : VE X G a ra) (hb : VE X G b rb) (h1 : ra.d.ok = true) (h2 : rb.d.ok = true) : VT X G (.Compare a [.NotEq] [b] pos) (!eqD ra.d rb.d) := vt_cmp (op_neD gd.un) (opv_neD ha.1 hb.1 h1 h2) ha hb
theorem ve_lt {i j : Int} (ha : VE X G a (.sh (.int i))) (hb : VE X G b (.sh (.int j))) : VE X G (.Compare a [.Lt] [b] pos) (.sh (.bl (decide (i < j)))) := ve_cmp op_lt opv_lt ha hb
theorem ve_le {i j : Int} (ha : VE X G a (.sh (.int i))) (hb : VE X G b (.sh (.int j))) : VE X G (.Compare a [.LtE] [b] pos) (.sh (.bl (decide (i ≤ j)))) := ve_cmp op_le opv_le ha hb
theorem ve_gt {i j : Int} (ha : VE X G a (.sh (.int i))) (hb : VE X G b (.sh (.int j))) : VE X G (.Compare a [.Gt] [b] pos) (.sh (.bl (decide (j < i)))) := ve_cmp op_gt opv_gt ha hb
theorem ve_ge {i j : Int} (ha : VE X G a (.sh (.int i))) (hb : VE X G b (.sh (.int j))) : VE X G (.Compare a [.GtE] [b] pos) (.sh (.bl (decide (j ≤ i)))) := ve_cmp op_ge opv_ge ha hb
theorem ve_eqI {i j : Int} (ha : VE X G a (.sh (.int i))) (hb : VE X G b (.sh (.int j))) : VE X G (.Compare a [.Eq] [b] pos) (.sh (.bl (decide (i = j)))) := ve_cmp op_eq opv_eqI ha hb
theorem ve_neI {i j : Int} (ha : VE X G a (.sh (.int i))) (hb : VE X G b (.sh (.int j))) : VE X G (.Compare a [.NotEq] [b] pos) (.sh (.bl (!decide (i = j)))) := ve_cmp op_ne opv_neI ha hb
theorem ve_eqS {i j : Str} (ha : VE X G a (.sh (.str i))) (hb : VE X G b (.sh (.str j))) : VE X G (.Compare a [.Eq] [b] pos) (.sh (.bl (decide (i = j)))) := ve_cmp op_eq opv_eqS ha hb
theorem ve_neS {i j : Str} (ha : VE X G a (.sh (.str i))) (hb : VE X G b (.sh (.str j))) : VE X G (.Compare a [.NotEq] [b] pos) (.sh (.bl (!decide (i = j)))) := ve_cmp op_ne opv_neS ha hb
theorem ve_isN {d : D} {j : Nat} {p2 : Pos} (ha : VE X G a (.sh d)) : VE X G (.Compare a [.Is] [.Constant .none j p2] pos) (.sh (.bl (isNon d))) := ve_cmp op_isN opv_isN ha ve_non
theorem ve_notN {d : D} {j : Nat} {p2 : Pos} (ha : VE X G a (.sh d)) : VE X G (.Compare a [.IsNot] [.Constant .none j p2] pos) (.sh (.bl (!isNon d))) := ve_cmp op_notN opv_notN ha ve_non
theorem vt_lt {i j : Int} (ha : VE X G a (.sh (.int i))) (hb : VE X G b (.sh (.int j))) : VT X G (.Compare a [.Lt] [b] pos) (decide (i < j)) := vt_cmp op_lt opv_lt ha hb
theorem vt_le {i j : Int} (ha : VE X G a (.sh (.int i))) (hb : VE X G b (.sh (.int j))) : VT X G (.Compare a [.LtE] [b] pos) (decide (i ≤ j)) := vt_cmp op_le opv_le ha hb
theorem vt_gt {i j : Int} (ha : VE X G a (.sh (.int i))) (hb : VE X G b (.sh (.int j))) : VT X G (.Compare a [.Gt] [b] pos) (decide (j < i)) := vt_cmp op_gt opv_gt ha hb
theorem vt_ge {i j : Int} (ha : VE X G a (.sh (.int i))) (hb : VE X G b (.sh (.int j))) : VT X G (.Compare a [.GtE] [b] pos) (decide (j ≤ i)) := vt_cmp op_ge opv_ge ha hb
theorem vt_eqI {i j : Int} (ha : VE X G a (.sh (.int i))) (hb : VE X G b (.sh (.int j))) : VT X G (.Compare a [.Eq] [b] pos) (decide (i = j)) := vt_cmp op_eq opv_eqI ha hb
theorem vt_neI {i j : Int} (ha : VE X G a (.sh (.int i))) (hb : VE X G b (.sh (.int j))) : VT X G (.Compare a [.NotEq] [b] pos) (!decide (i = j)) := vt_cmp op_ne opv_neI ha hb
theorem vt_eqS {i j : Str} (ha : VE X G a (.sh (.str i))) (hb : VE X G b (.sh (.str j))) : VT X G (.Compare a [.Eq] [b] pos) (decide (i = j)) := vt_cmp op_eq opv_eqS ha hb
theorem vt_neS {i j : Str} (ha : VE X G a (.sh (.str i))) (hb : VE X G b (.sh (.str j))) : VT X G (.Compare a [.NotEq] [b] pos) (!decide (i = j)) := vt_cmp op_ne opv_neS ha hb
theorem vt_isN {d : D} {j : Nat} {p2 : Pos} (ha : VE X G a (.sh d)) : VT X G (.Compare a [.Is] [.Constant .none j p2] pos) (isNon d) := vt_cmp op_isN opv_isN ha ve_non
theorem vt_notN {d : D} {j : Nat} {p2 : Pos} (ha : VE X G a (.sh d)) : VT X G (.Compare a [.IsNot] [.Constant .none j p2] pos) (!isNon d) := vt_cmp op_notN opv_notN ha ve_non

/-! ### tests -/
theorem VT.is {k k' : Bool} (h : VT X G a k) (e : k = k') : VT X G a k' := e ▸ h
theorem vt_val {k : Bool} (h : VE X G a (.sh (.bl k))) (he : ∀ whole, isTrue a X.env whole = (do let v ← whole; standAt a.pos; holding [v] (truthy v)) := by intro _; rfl) : VT X G a k :=
  fun S0 H0 σ H S p Q q => wT.of (pt_val pe_w he) (h.2 S0 H0 σ H S p _ fun v H1 S1 g k => ⟨_, den_bl.mp k, q H1 S1 g⟩)
theorem VW.t {k : Bool} (h : VW X G a k) : VT X G a k := fun S0 H0 σ H S p Q q pins s I => h S0 H0 σ H S p Q q (eval a X.env) pins s I
theorem vw_and1 {k : Bool} (h : VT X G a k) : VW X G (.BoolOp .And [a] pos) k := fun S0 H0 σ H S p Q q => wW.of (pw_and1 pt_w) (h S0 H0 σ H S p Q q)
theorem vw_or1 {k : Bool} (h : VT X G a k) : VW X G (.BoolOp .Or [a] pos) k := fun S0 H0 σ H S p Q q => wW.of (pw_or1 pt_w) (h S0 H0 σ H S p Q q)
theorem vw_and {k l : Bool} (h : VT X G a k) (h2 : k = true → VW X G (.BoolOp .And (b :: es) pos) l) : VW X G (.BoolOp .And (a :: b :: es) pos) (k && l) :=
  fun S0 H0 σ H S p Q q => wW.of (pw_and pt_w pw_w) (h S0 H0 σ H S p _ fun H1 S1 g => by
    cases k with
    | true => exact iteT (h2 rfl S0 H0 σ H1 S1 (p.step g) Q fun H2 S2 g2 => q H2 S2 (g.trans g2))
    | false => exact iteF (q H1 S1 g))
theorem vw_or {k l : Bool} (h : VT X G a k) (h2 : k = false → VW X G (.BoolOp .Or (b :: es) pos) l) : VW X G (.BoolOp .Or (a :: b :: es) pos) (k || l) :=
  fun S0 H0 σ H S p Q q => wW.of (pw_or pt_w pw_w) (h S0 H0 σ H S p _ fun H1 S1 g => by
    cases k with
    | true => exact iteT (q H1 S1 g)
    | false => exact iteF (h2 rfl S0 H0 σ H1 S1 (p.step g) Q fun H2 S2 g2 => q H2 S2 (g.trans g2)))
theorem vt_not {k : Bool} (h : VT X G a k) : VT X G (.UnaryOp .Not a pos) (!k) := fun S0 H0 σ H S p Q q => wT.of (pt_not pt_w) (h S0 H0 σ H S p _ fun H1 S1 g => q H1 S1 g)
/-- a and b as a value -/
theorem ve_one {op : BoolOp} (h : VE X G a r) : VE X G (.BoolOp op [a] pos) r := ⟨h.1, fun S0 H0 σ H S p Q q => wE.of (pe_one pe_w) (h.2 S0 H0 σ H S p Q q)⟩
theorem ve_and {k l : Bool} (h : VE X G a (.sh (.bl k))) (h2 : k = true → VE X G (.BoolOp .And (b :: es) pos) (.sh (.bl l))) : VE X G (.BoolOp .And (a :: b :: es) pos) (.sh (.bl (k && l))) :=
  ⟨rfl, fun S0 H0 σ H S p Q q => wE.of (pe_and pe_w pe_w) (h.2 S0 H0 σ H S p _ fun v H1 S1 g m => ⟨k, den_bl.mp m, by
    cases k with
    | true => exact iteT ((h2 rfl).2 S0 H0 σ H1 S1 (p.step g) Q fun v2 H2 S2 g2 m2 => q v2 H2 S2 (g.trans g2) m2)
    | false => exact iteF (q _ H1 S1 g (.bl _))⟩)⟩
theorem ve_or {k l : Bool} (h : VE X G a (.sh (.bl k))) (h2 : k = false → VE X G (.BoolOp .Or (b :: es) pos) (.sh (.bl l))) : VE X G (.BoolOp .Or (a :: b :: es) pos) (.sh (.bl (k || l))) :=
  ⟨rfl, fun S0 H0 σ H S p Q q => wE.of (pe_or pe_w pe_w) (h.2 S0 H0 σ H S p _ fun v H1 S1 g m => ⟨k, den_bl.mp m, by
    cases k with
    | true => exact iteT (q _ H1 S1 g (.bl _))
    | false => exact iteF ((h2 rfl).2 S0 H0 σ H1 S1 (p.step g) Q fun v2 H2 S2 g2 m2 => q v2 H2 S2 (g.trans g2) m2)⟩)⟩
theorem ve_not {k : Bool} (h : VE X G a (.sh (.bl k))) : VE X G (.UnaryOp .Not a pos) (.sh (.bl (!k))) := ⟨rfl, fun S0 H0 σ H S p Q q => wE.of (pe_not pe_w) (h.2 S0 H0 σ H S p _ fun v H1 S1 g m => ⟨k, den_bl.mp m, q _ H1 S1 g (.bl _)⟩)⟩
theorem ve_ite {k : Bool} (h : VT X G c k) (h1 : k = true → VE X G a r) (h2 : k = false → VE X G b r) (n : r.isEn = false := by rfl) : VE X G (.IfExp c a b pos) r :=
  ⟨n, fun S0 H0 σ H S p Q q => wE.of (pe_ifExp pt_w pe_w pe_w) (h S0 H0 σ H S p _ fun H1 S1 g => by
    cases k with
    | true => exact iteT ((h1 rfl).2 S0 H0 σ H1 S1 (p.step g) Q fun v2 H2 S2 g2 m2 => q v2 H2 S2 (g.trans g2) (m2.base g.hh (noEn n)))
    | false => exact iteF ((h2 rfl).2 S0 H0 σ H1 S1 (p.step g) Q fun v2 H2 S2 g2 m2 => q v2 H2 S2 (g.trans g2) (m2.base g.hh (noEn n))))⟩
/-- a list's, a text's truth -/
theorem vt_lst (h : VE X G a r) (hr : r.asL = some ds) (he : ∀ whole, isTrue a X.env whole = (do let v ← whole; standAt a.pos; holding [v] (truthy v)) := by intro _; rfl) : VT X G a (!ds.isEmpty) :=
  fun S0 H0 σ H S p Q q => wT.of (pt_truth pe_w he) (h.2 S0 H0 σ H S p _ fun v H1 S1 g m => by
    obtain ⟨l, xs, rfl, e1, d1⟩ := m.asL hr h.1 g.sh
    refine ⟨_, .inl ⟨xs, .of e1, ?_⟩, q H1 S1 g⟩
    cases d1 <;> rfl)
theorem vt_tuple {ds : List D} (h : VE X G a (.sh (.tup ds))) (he : ∀ whole, isTrue a X.env whole = (do let v ← whole; standAt a.pos; holding [v] (truthy v)) := by intro _; rfl) : VT X G a (!ds.isEmpty) :=
  fun S0 H0 σ H S p Q q => wT.of (pt_truth pe_w he) (h.2 S0 H0 σ H S p _ fun v H1 S1 g m => by
    obtain ⟨l, xs, rfl, e1, d1⟩ := den_tup.mp m
    refine ⟨_, .inr (.inl ⟨xs, .of (g.sh _ _ e1), ?_⟩), q H1 S1 g⟩
    cases d1 <;> rfl)

/-! ### subscripts, slices -/
theorem atI_den {S : Hp} {ds : List D} {xs : List V} {i : Int} {d : D} (h : DenAll S ds xs) (e : atI ds i = some d) : ∃ x, atI xs i = some x ∧ Den S d x := by
  unfold atI at e ⊢
  rw [← h.len]
  cases hq : ixN ds.length i with
  | none => rw [hq] at e; cases e
  | some j =>
    rw [hq] at e
    exact h.at e
theorem ve_ix {ds : List D} {i : Int} {d : D} (ha : VE X G a ra) (hb : VE X G b (.sh (.int i))) (hr : ra.asL = some ds) (e : atI ds i = some d) (hs : PlainIx b := by exact fun _ _ => rfl) : VE X G (.Subscript a b pos) (.sh d) :=
  ve_ixR ix_list ⟨rfl, fun B S H x y Q s k1 k2 q => by
    obtain ⟨l, xs, rfl, e1, d1⟩ := k1.asL hr ha.1 s
    obtain ⟨v, hv, hd⟩ := atI_den d1 e
    exact ⟨l, xs, i, v, rfl, den_int.mp k2, .of e1, hv, q v H S (Gx.refl s) hd⟩⟩ ha hb hs
theorem ve_ixT {ds : List D} {i : Int} {d : D} (ha : VE X G a (.sh (.tup ds))) (hb : VE X G b (.sh (.int i))) (e : atI ds i = some d) (hs : PlainIx b := by exact fun _ _ => rfl) : VE X G (.Subscript a b pos) (.sh d) :=
  ve_ixR ix_tup ⟨rfl, fun B S H x y Q s k1 k2 q => by
    obtain ⟨l, xs, rfl, e1, d1⟩ := den_tup.mp k1
    obtain ⟨v, hv, hd⟩ := atI_den d1 e
    exact ⟨l, xs, i, v, rfl, den_int.mp k2, .of (s _ _ e1), hv, q v H S (Gx.refl s) hd⟩⟩ ha hb hs
theorem ve_ixS {z : Str} {i : Int} {c : Nat} (ha : VE X G a (.sh (.str z))) (hb : VE X G b (.sh (.int i))) (hz : z.length ≤ sizeLine) (e : atI z.cps.toList i = some c) (hs : PlainIx b := by exact fun _ _ => rfl) : VE X G (.Subscript a b pos) (.sh (.str ⟨#[c]⟩)) :=
  ve_ixR (ra := .sh (.str z)) (rb := .sh (.int i)) ix_str ⟨rfl, fun B S H x y Q s k1 k2 q => ⟨z, i, c, den_str.mp k1, den_int.mp k2, hz, e, q _ H S (Gx.refl s) (.str _)⟩⟩ ha hb hs
end
section
variable (X : Cx) (G : Gm)
def VO (e : Option Expr) (o : Option Int) : Prop := ∀ S0 H0 σ H S, Rep S0 H0 G σ H S → ∀ Q : Option Int → Hp → Prop, (∀ H' S', Gx S H S' H' → Q o H') → ∃ t, PO X e t ∧ t σ H Q
end
section
variable {X : Cx} {G : Gm} {pos : Pos} {a b c e : Expr} {es : List Expr} {r ra rb out : R} {rs : List R} {d : D} {ds : List D}
theorem vo_none : VO X G none none := fun S0 H0 σ H S p Q q => ⟨_, po_none, q H S (Gx.refl p.s0)⟩
theorem vo_some {i : Int} (h : VE X G a (.sh (.int i))) : VO X G (some a) (some i) := fun S0 H0 σ H S p Q q => ⟨_, po_some pe_w, h.2 S0 H0 σ H S p _ fun v H1 S1 g k => ⟨i, den_int.mp k, q H1 S1 g⟩⟩
def wO (X : Cx) (e : Option Expr) : TO := fun σ H Q => ∃ t, PO X e t ∧ t σ H Q
theorem po_w {e : Option Expr} : PO X e (wO X e) := ⟨fun pins s σ H Q I h => by
  obtain ⟨t, ht, q⟩ := h
  exact ht.run pins s σ H Q I q⟩
def cutD (ds : List D) (lo hi : Option Int) : List D := (ds.drop (HT.sIx ds.length 0 lo)).take (HT.sIx ds.length ds.length hi - HT.sIx ds.length 0 lo)
theorem DenAll.cut {S : Hp} {ds : List D} {xs : List V} {lo hi : Option Int} (h : DenAll S ds xs) : DenAll S (cutD ds lo hi) (cutV xs lo hi) := by
  unfold cutD cutV
  rw [h.len]
  exact (h.drop _).take _
theorem ve_sl {lo hi : Option Expr} {l u : Option Int} {ds : List D} {p2 : Pos} (ha : VE X G a ra) (hr : ra.asL = some ds) (h1 : VO X G lo l) (h2 : VO X G hi u) : VE X G (.Subscript a (.Slice lo hi none p2) pos) (.ow (cutD ds l u)) :=
  ⟨rfl, fun S0 H0 σ H S p Q q => wE.of (pe_slice sl_list pe_w po_w po_w) (ha.2 S0 H0 σ H S p _ fun x H1 S1 g1 k1 => h1 S0 H0 σ H1 S1 (p.step g1) _ fun H2 S2 g2 => h2 S0 H0 σ H2 S2 ((p.step g1).step g2) _ fun H3 S3 g3 => by
    obtain ⟨m, xs, rfl, e1, d1⟩ := k1.asL hr ha.1 g1.sh
    have g23 := g2.trans g3
    refine ⟨m, xs, rfl, .of (g23.hh _ _ e1), fun t ht => ?_⟩
    have g := (g1.trans g23).trans (Gx.new (o := .lst (cutV xs l u)) g3.sh ht)
    exact q _ _ S3 g ⟨t, _, rfl, (g1.trans g23).gone ht, Same.free g3.sh ht, upd_same, (DenAll.mono g23.ss d1).cut⟩)⟩

/-! ### calls of built-ins -/
/-- what a built-in gives for such arguments -/
def CRv (r : List V → Hp → VK → Prop) (rs : List R) (out : R) : Prop := out.isEn = false ∧ ∀ B S H vs Q, Same S H → HdAll B S H vs rs → (∀ v H' S', Gx S H S' H' → Hd H S' H' v out → Q v H') → r vs H Q
theorem ve_callB {id : String} {x : Str} {p : Pos} {r : List V → Hp → VK → Prop} (hc : CallR X (.builtin id) r) (hv : bootBuiltins x = some (.builtin id)) (hg : Gl X x) (hm : X.mg x = none) (h : CRv r rs out) (ha : VA X G (e :: es) rs) (hn : x ≠ "__name__" := by decide) (hdb : (x == ("__debug__" : Str)) = false := by decide)
    (he : starEach (e :: es) X.env = (false, eval e X.env) :: starEach es X.env := by rfl) (hpl : (backTo pos (starEach es X.env)).any (·.1) = false := by rfl) : VE X G (.Call (.Name x p) (e :: es) [] pos) out :=
  ⟨h.1, fun S0 H0 σ H S p Q q => wE.of (pe_callB hc hg hm hv pa_w hn hdb he hpl) (ha S0 H0 σ H S p _ fun vs H1 S1 g k => h.2 H S1 H1 vs Q g.sh k fun v H2 S2 g2 k2 => q v H2 S2 (g.trans g2) (k2.base g.hh (noEn h.1)))⟩
theorem ve_callTy {T : String} {x : Str} {p : Pos} {r : List V → Hp → VK → Prop} (hc : CallR X (.type T) r) (hv : bootBuiltins x = some (.type T)) (hg : Gl X x) (hm : X.mg x = none) (h : CRv r rs out) (ha : VA X G (e :: es) rs) (hn : x ≠ "__name__" := by decide) (hdb : (x == ("__debug__" : Str)) = false := by decide)
    (he : starEach (e :: es) X.env = (false, eval e X.env) :: starEach es X.env := by rfl) (hpl : (backTo pos (starEach es X.env)).any (·.1) = false := by rfl) : VE X G (.Call (.Name x p) (e :: es) [] pos) out :=
  ⟨h.1, fun S0 H0 σ H S p Q q => wE.of (pe_callTy hc hg hm hv pa_w hn hdb he hpl) (ha S0 H0 σ H S p _ fun vs H1 S1 g k => h.2 H S1 H1 vs Q g.sh k fun v H2 S2 g2 k2 => q v H2 S2 (g.trans g2) (k2.base g.hh (noEn h.1)))⟩
theorem hda1 {B S H : Hp} {vs : List V} {r : R} (h : HdAll B S H vs [r]) : ∃ v, vs = [v] ∧ Hd B S H v r := by
  obtain ⟨v, vr, rfl, h1, h2⟩ := h
  cases (show vr = [] from h2)
  exact ⟨v, rfl, h1⟩
theorem hda2 {B S H : Hp} {vs : List V} {r r2 : R} (h : HdAll B S H vs [r, r2]) : ∃ v w, vs = [v, w] ∧ Hd B S H v r ∧ Hd B S H w r2 := by
  obtain ⟨v, vr, rfl, h1, h2⟩ := h
  obtain ⟨w, rfl, h3⟩ := hda1 h2
  exact ⟨v, w, rfl, h1, h3⟩
theorem cr_lenL (n : ra.isEn = false) (hr : ra.asL = some ds) : CRv (fun xs H Q => ∃ p ys, xs = [.ref p] ∧ (SqL X.K H p ys ∨ SqT X.K H p ys) ∧ Q (.int ys.length) H) [ra] (.sh (.int ds.length)) := ⟨rfl, fun B S H vs Q s hk q => by
  obtain ⟨v, rfl, k⟩ := hda1 hk
  obtain ⟨l, xs, rfl, e1, d1⟩ := k.asL hr n s
  refine ⟨l, xs, rfl, .inl (.of e1), q _ H S (Gx.refl s) ?_⟩
  rw [← d1.len]
  exact .int _⟩
theorem cr_lenT : CRv (fun xs H Q => ∃ p ys, xs = [.ref p] ∧ (SqL X.K H p ys ∨ SqT X.K H p ys) ∧ Q (.int ys.length) H) [.sh (.tup ds)] (.sh (.int ds.length)) := ⟨rfl, fun B S H vs Q s hk q => by
  obtain ⟨v, rfl, k⟩ := hda1 hk
  obtain ⟨l, xs, rfl, e1, d1⟩ := den_tup.mp k
  refine ⟨l, xs, rfl, .inr (.of (s _ _ e1)), q _ H S (Gx.refl s) ?_⟩
  rw [← d1.len]
  exact .int _⟩
theorem cr_lenS {z : Str} (hz : z.length ≤ sizeLine) : CRv (fun xs H Q => ∃ z, xs = [.str z] ∧ z.length ≤ sizeLine ∧ Q (.int z.length) H) [.sh (.str z)] (.sh (.int z.length)) := ⟨rfl, fun B S H vs Q s hk q => by
  obtain ⟨v, rfl, k⟩ := hda1 hk
  cases den_str.mp k
  exact ⟨z, rfl, hz, q _ H S (Gx.refl s) (.int _)⟩⟩
/-- list(xs) -/
theorem cr_list (n : ra.isEn = false) (hr : ra.asL = some ds) : CRv (fun xs H Q => ∃ p ys, xs = [.ref p] ∧ (SqL X.K H p ys ∨ SqT X.K H p ys) ∧ ∀ l, H l = none → Q (.ref l) (upd H l (.lst ys))) [ra] (.ow ds) := ⟨rfl, fun B S H vs Q s hk q => by
  obtain ⟨v, rfl, k⟩ := hda1 hk
  obtain ⟨l, xs, rfl, e1, d1⟩ := k.asL hr n s
  exact ⟨l, xs, rfl, .inl (.of e1), fun m hm => q _ _ S (Gx.new s hm) ⟨m, xs, rfl, hm, Same.free s hm, upd_same, d1⟩⟩⟩
theorem cr_listT : CRv (fun xs H Q => ∃ p ys, xs = [.ref p] ∧ (SqL X.K H p ys ∨ SqT X.K H p ys) ∧ ∀ l, H l = none → Q (.ref l) (upd H l (.lst ys))) [.sh (.tup ds)] (.ow ds) := ⟨rfl, fun B S H vs Q s hk q => by
  obtain ⟨v, rfl, k⟩ := hda1 hk
  obtain ⟨l, xs, rfl, e1, d1⟩ := den_tup.mp k
  exact ⟨l, xs, rfl, .inr (.of (s _ _ e1)), fun m hm => q _ _ S (Gx.new s hm) ⟨m, xs, rfl, hm, Same.free s hm, upd_same, d1⟩⟩⟩
/-- tuple(xs) -/
theorem cr_tuple (n : ra.isEn = false) (hr : ra.asL = some ds) : CRv (fun xs H Q => ∃ p ys, xs = [.ref p] ∧ ((SqL X.K H p ys ∧ ∀ l, H l = none → Q (.ref l) (upd H l (.tup ys))) ∨ (SqT X.K H p ys ∧ Q (.ref p) H))) [ra] (.sh (.tup ds)) := ⟨rfl, fun B S H vs Q s hk q => by
  obtain ⟨v, rfl, k⟩ := hda1 hk
  obtain ⟨l, xs, rfl, e1, d1⟩ := k.asL hr n s
  refine ⟨l, xs, rfl, .inl ⟨.of e1, fun m hm => ?_⟩⟩
  have g : Gx S H (upd S m (.tup xs)) (upd H m (.tup xs)) := Gx.newS s hm
  exact q _ _ _ g (.tup upd_same (DenAll.mono g.ss d1))⟩
theorem cr_int {i : Int} : CRv (fun xs H Q => (∃ i, xs = [.int i] ∧ Q (.int i) H) ∨ ∃ k, xs = [.bl k] ∧ Q (.int (if k then 1 else 0)) H) [.sh (.int i)] (.sh (.int i)) := ⟨rfl, fun B S H vs Q s hk q => by
  obtain ⟨v, rfl, k⟩ := hda1 hk
  cases den_int.mp k
  exact .inl ⟨i, rfl, q _ H S (Gx.refl s) (.int _)⟩⟩
theorem cr_intB {i : Bool} : CRv (fun xs H Q => (∃ i, xs = [.int i] ∧ Q (.int i) H) ∨ ∃ k, xs = [.bl k] ∧ Q (.int (if k then 1 else 0)) H) [.sh (.bl i)] (.sh (.int (if i then 1 else 0))) := ⟨rfl, fun B S H vs Q s hk q => by
  obtain ⟨v, rfl, k⟩ := hda1 hk
  cases den_bl.mp k
  exact .inr ⟨i, rfl, q _ H S (Gx.refl s) (.int _)⟩⟩
theorem cr_min2 {i j : Int} : CRv (fun xs H Q => ∃ i j, xs = [.int i, .int j] ∧ Q (.int (if j < i then j else i)) H) [.sh (.int i), .sh (.int j)] (.sh (.int (if j < i then j else i))) := ⟨rfl, fun B S H vs Q s hk q => by
  obtain ⟨v, w, rfl, k, k2⟩ := hda2 hk
  cases den_int.mp k; cases den_int.mp k2
  exact ⟨i, j, rfl, q _ H S (Gx.refl s) (.int _)⟩⟩
theorem cr_max2 {i j : Int} : CRv (fun xs H Q => ∃ i j, xs = [.int i, .int j] ∧ Q (.int (if j > i then j else i)) H) [.sh (.int i), .sh (.int j)] (.sh (.int (if j > i then j else i))) := ⟨rfl, fun B S H vs Q s hk q => by
  obtain ⟨v, w, rfl, k, k2⟩ := hda2 hk
  cases den_int.mp k; cases den_int.mp k2
  exact ⟨i, j, rfl, q _ H S (Gx.refl s) (.int _)⟩⟩
theorem dall_ints {S : Hp} : ∀ {ns : List Int} {xs : List V}, DenAll S (ns.map D.int) xs → xs = ns.map V.int
  | [], _, h => dall_nil.mp h
  | n :: ns, _, h => by
    obtain ⟨x, r, rfl, h2, h3⟩ := dall_cons.mp h
    rw [den_int.mp h2, dall_ints h3]
    rfl
theorem dall_strs {S : Hp} : ∀ {ns : List Str} {xs : List V}, DenAll S (ns.map D.str) xs → xs = ns.map V.str
  | [], _, h => dall_nil.mp h
  | n :: ns, _, h => by
    obtain ⟨x, r, rfl, h2, h3⟩ := dall_cons.mp h
    rw [den_str.mp h2, dall_strs h3]
    rfl
/-- min of a list of ints -/
theorem crv_min {ns : List Int} {m : Int} (n : ra.isEn = false) (hr : ra.asL = some (ns.map D.int)) (hm : m ∈ ns) (hl : ∀ y ∈ ns, m ≤ y) : CRv (rMin X.K) [ra] (.sh (.int m)) := ⟨rfl, fun B S H vs Q s hk q => by
  obtain ⟨v, rfl, k⟩ := hda1 hk
  obtain ⟨l, xs, rfl, e1, d1⟩ := k.asL hr n s
  rw [dall_ints d1] at e1
  refine ⟨l, ns, rfl, .of e1, by cases ns with | nil => cases hm | cons a b => exact Nat.succ_pos _, fun m' h1 h2 => ?_⟩
  have e : m' = m := Int.le_antisymm (h2 m hm) (hl m' h1)
  subst e
  exact q _ H S (Gx.refl s) (.int _)⟩
theorem crv_max {ns : List Int} {m : Int} (n : ra.isEn = false) (hr : ra.asL = some (ns.map D.int)) (hm : m ∈ ns) (hl : ∀ y ∈ ns, y ≤ m) : CRv (rMax X.K) [ra] (.sh (.int m)) := ⟨rfl, fun B S H vs Q s hk q => by
  obtain ⟨v, rfl, k⟩ := hda1 hk
  obtain ⟨l, xs, rfl, e1, d1⟩ := k.asL hr n s
  rw [dall_ints d1] at e1
  refine ⟨l, ns, rfl, .of e1, by cases ns with | nil => cases hm | cons a b => exact Nat.succ_pos _, fun m' h1 h2 => ?_⟩
  have e : m' = m := Int.le_antisymm (hl m' h1) (h2 m hm)
  subst e
  exact q _ H S (Gx.refl s) (.int _)⟩
/-- the type of data -/
def D.ty : D → String
  | .non => "NoneType"
  | .bl _ => "bool"
  | .int _ => "int"
  | .str _ => "str"
  | .byt _ => "bytes"
  | .lst _ => "list"
  | .tup _ => "tuple"
  | .raw _ => ""
  | .scr _ _ => "list"
  | .exc _ _ _ _ => ""
theorem Den.tyx {K : PySem.W.Frag} {H : Hp} {d : D} {v : V} (h : Den H d v) (n : d.pl = true ∨ ∃ b, d = .byt b) : TyX K H v (.type d.ty) := by
  cases h with
  | non => exact .base .non
  | bl b => exact .base (.bl b)
  | int b => exact .base (.int b)
  | str b => exact .base (.str b)
  | byt b => exact .byt b
  | lst h1 h2 => exact .base (.lst h1)
  | tup h1 h2 => exact .base (.tup h1)
  | exc b c => rcases n with n | ⟨_, n⟩ <;> (first | (unfold D.pl at n; cases n) | cases n)
  | scr b => rcases n with n | ⟨_, n⟩ <;> (first | (unfold D.pl at n; cases n) | cases n)
  | raw b => rcases n with n | ⟨_, n⟩ <;> (first | (unfold D.pl at n; cases n) | cases n)
/-- isinstance(x, T) -/
theorem cr_isi {T : String} {k : Bool} (n : ra.isEn = false) (hp : ra.d.pl = true ∨ ∃ b, ra.d = .byt b) (hk : PySem.W.kitOne X.K (.type ra.d.ty) (.type T) = some k) : CRv (rIsi X.K) [ra, .sh (.raw (.ty T))] (.sh (.bl k)) := ⟨rfl, fun B S H vs Q s h q => by
  obtain ⟨v, w, rfl, k1, k2⟩ := hda2 h
  cases den_raw.mp k2
  exact ⟨v, .ty T, .type ra.d.ty, .type T, k, rfl, .ty T, (k1.den n s).tyx hp, hk, q _ H S (Gx.refl s) (.bl _)⟩⟩
end
end VL

-- VL4
set_option Elab.async false
set_option linter.all false
set_option autoImplicit false
set_option maxRecDepth 100000
set_option maxHeartbeats 4000000
namespace VL
open PySem PySem.Spec L2
open PyProof.Rows (envOfC)

/-! ### defs of the text -/
abbrev VSpec := List R → (R → Prop) → (XV → Prop) → Prop
def spV (sp : VSpec) : Sp := fun vs H Q E => ∃ S rs, Same S H ∧ HdAll H S H vs rs ∧ (∀ r ∈ rs, r.arg = r) ∧
  sp rs (fun r => ∀ v H' S', Gx S H S' H' → Hd H S' H' v r → Q v H') (fun x => ∀ d H' S', Gx S H S' H' → ExAt S' H' x d → E x.1 d H')
abbrev FnV (P : Program) (w : World) (K : PySem.W.Frag) (mg : Str → Option Value) (base : Heap) (k : Nat) (f : Addr) (fd : FuncData) (ps : List Str) (sp : VSpec) : Prop := FnOk P w K mg base (L2.CX P w) k f fd ps (spV sp)
/-- x may be called here -/
def Cal (X : Cx) (x : Str) (sp : VSpec) : Prop := ∃ k f fd ps, FnV X.prog X.w X.K X.mg X.base k f fd ps sp ∧ Room k X.A ∧ X.mg x = some (.ref f) ∧ PySem.W.keepIn X.K (.ref f) = true ∧ Binds X.K fd ps []
def Gives (sp : VSpec) (rs : List R) (out : R) : Prop := ∀ post xp, post out → sp rs post xp
def Throws (sp : VSpec) (rs : List R) (x : XV) : Prop := ∀ (post : R → Prop) (xp : XV → Prop), xp x → sp rs post xp
theorem HdAll.len {B S H : Hp} : ∀ {rs : List R} {vs : List V}, HdAll B S H vs rs → vs.length = rs.length
  | [], _, h => by rw [show _ = [] from h]; rfl
  | r :: rs, _, h => by
    obtain ⟨v, vr, rfl, _, h2⟩ := h
    rw [List.length_cons, List.length_cons, h2.len]
theorem HdAll.arg {B S H : Hp} : ∀ {rs : List R} {vs : List V}, (∀ r ∈ rs, r.isEn = false) → HdAll B S H vs rs → HdAll H S H vs (rs.map R.arg)
  | [], _, _, h => h
  | r :: rs, _, n, h => by
    obtain ⟨v, vr, e, h1, h2⟩ := h
    exact ⟨v, vr, e, h1.arg (n r List.mem_cons_self), h2.arg fun r' q => n r' (List.mem_cons_of_mem _ q)⟩
theorem arg_arg (r : R) : r.arg.arg = r.arg := by cases r <;> rfl
section
variable {X : Cx} {G : Gm} {pos p : Pos} {e : Expr} {es : List Expr} {rs : List R} {out : R} {x : Str} {sp : VSpec}
theorem ve_call (C : Cal X x sp) (ha : VA X G (e :: es) rs) (h : Gives sp (rs.map R.arg) out) (n : out.isEn = false := by rfl) (nn : ∀ r ∈ rs, r.isEn = false := by simp [R.isEn]) (hg : Gl X x := by rfl) (hdb : (x == ("__debug__" : Str)) = false := by decide)
    (he : starEach (e :: es) X.env = (false, eval e X.env) :: starEach es X.env := by rfl) (hpl : (backTo pos (starEach es X.env)).any (·.1) = false := by rfl) : VE X G (.Call (.Name x p) (e :: es) [] pos) out := by
  obtain ⟨k, f, fd, ps, F, hr, hm, hk, hb⟩ := C
  refine ⟨n, fun S0 H0 σ H S p Q q => wE.of (pe_call (dvs := []) F hr hg hm hk hb .nil passL pa_w hdb he hpl) (ha S0 H0 σ H S p _ fun vs H1 S1 g k1 => ?_)⟩
  rw [List.append_nil]
  exact ⟨S1, rs.map R.arg, g.sh, k1.arg nn, fun r hr => by obtain ⟨r', _, rfl⟩ := List.mem_map.mp hr; exact arg_arg r', h _ _ fun v H2 S2 g2 k2 => q v H2 S2 (g.trans g2) (k2.base g.hh (noEn n))⟩
theorem vx_call {xv : XV} (C : Cal X x sp) (ha : VA X G (e :: es) rs) (h : Throws sp (rs.map R.arg) xv) (nn : ∀ r ∈ rs, r.isEn = false := by simp [R.isEn]) (hg : Gl X x := by rfl) (hdb : (x == ("__debug__" : Str)) = false := by decide)
    (he : starEach (e :: es) X.env = (false, eval e X.env) :: starEach es X.env := by rfl) (hpl : (backTo pos (starEach es X.env)).any (·.1) = false := by rfl) : VX X G (.Call (.Name x p) (e :: es) [] pos) xv := by
  obtain ⟨k, f, fd, ps, F, hr, hm, hk, hb⟩ := C
  refine fun S0 H0 σ H S E tk p q => wE.of (pe_call (dvs := []) F hr hg hm hk hb .nil (passes_call tk fun _ _ _ _ h => h) pa_w hdb he hpl) (ha S0 H0 σ H S p _ fun vs H1 S1 g k1 => ?_)
  rw [List.append_nil]
  exact ⟨S1, rs.map R.arg, g.sh, k1.arg nn, fun r hr => by obtain ⟨r', _, rfl⟩ := List.mem_map.mp hr; exact arg_arg r', h _ _ fun d H2 S2 g2 k2 => q d H2 S2 (g.trans g2) k2⟩
end
def gstart (N : List Str) (rs : List R) : Gm := rs.map some ++ List.replicate (N.length - rs.length) none
theorem HdAll.at {B S H : Hp} : ∀ {rs : List R} {vs : List V} {i : Nat} {r : R}, HdAll B S H vs rs → rs[i]? = some r → ∃ v, vs[i]? = some v ∧ Hd B S H v r
  | [], _, _, _, _, e => by simp at e
  | r :: rs, _, 0, _, h, e => by
    obtain ⟨v, vr, rfl, h1, _⟩ := h
    simp at e
    subst e
    exact ⟨v, rfl, h1⟩
  | r :: rs, _, i + 1, _, h, e => by
    obtain ⟨v, vr, rfl, _, h2⟩ := h
    exact h2.at (i := i) (by simpa using e)
theorem get_start {α : Type} {l : List α} {n i : Nat} {r : α} (h : (l.map some ++ List.replicate n none)[i]? = some (some r)) : l[i]? = some r := by
  by_cases hi : i < l.length
  · rw [List.getElem?_append_left (by rw [List.length_map]; exact hi), List.getElem?_map] at h
    cases q : l[i]? with
    | none => rw [q] at h; cases h
    | some z => rw [q] at h; cases h; rfl
  · rw [List.getElem?_append_right (by rw [List.length_map]; omega), List.getElem?_replicate] at h
    split at h <;> cases h
theorem Rep.start {N : List Str} {rs : List R} {vs : List V} {S H : Hp} (s : Same S H) (h : HdAll H S H vs rs) (n : ∀ r ∈ rs, r.arg = r) : Rep S H (gstart N rs) (start N vs) H S := by
  have hl := h.len
  refine ⟨Gx.refl s, by unfold gstart L2.start; simp [hl], fun i r e => ?_, fun i j r r' v v' x _ e _ _ _ o _ => ?_⟩
  · have e2 := get_start e
    obtain ⟨v, h1, h2⟩ := h.at e2
    refine ⟨v, ?_, h2, fun ds z => ?_⟩
    · unfold L2.start
      obtain ⟨hi, _⟩ := List.getElem?_eq_some_iff.mp h1
      rw [List.getElem?_append_left (by rw [List.length_map]; exact hi), List.getElem?_map, h1]
      rfl
    · have := n r (List.mem_of_getElem? e2)
      subst z
      cases this
  · have e2 := get_start e
    have := n _ (List.mem_of_getElem? e2)
    cases r with
    | ow _ => cases this
    | reg _ _ => cases this
    | _ => exact o
/-- the context of a def's body is a good one -/
theorem good_of {P : Program} {w : World} {K : PySem.W.Frag} {mg : Str → Option Value} {base : Heap} {N ps : List Str} {qual : Str} {st : Stmt} {f : Addr} {cdv : Value} {A : Around} {outer : List Env} {s : Shared} {H : Hp} {E : XK} {k : Nat}
    (S : FnScope N ps (defScope st)) (hr : Room k (A.deeper (envOfC qual (defScope st) s.heap.objs.size f cdv))) : Good (cxOf (L2.CX P w) P w K mg base N qual (defScope st) f cdv A outer s H E) :=
  ⟨rfl, S.nd, passes_of rfl, hr.units⟩

theorem FnV.mk {P : Program} {w : World} {K : PySem.W.Frag} {mg : Str → Option Value} {base : Heap} {x qual : Str} {st : Stmt} {f : Addr} {fd : FuncData} {N ps : List Str} {k : Nat} {sp : VSpec} (F : Fun K x qual st f fd) (S : FnScope N ps (defScope st))
    (len : ∀ rs post xp, sp rs post xp → rs.length = ps.length)
    (hb : ∀ (cdv : Value) (A : Around) (outer : List Env) (s : Shared) (H : Hp) (E : XK), Room k (A.deeper (envOfC qual (defScope st) s.heap.objs.size f cdv)) → Good (cxOf (L2.CX P w) P w K mg base N qual (defScope st) f cdv A outer s H E) → ∀ rs post xp, sp rs post xp →
      VSs (cxOf (L2.CX P w) P w K mg base N qual (defScope st) f cdv A outer s H E) (gstart N rs) (defBody st) { nx := fun _ => post (.sh .non), rt := post, ex := xp }) : FnV P w K mg base (k + 1) f fd ps sp := by
  refine F.okX S (fun vs H Q E h => ?_) fun cdv A outer s H vs Q E hr h => ?_
  · obtain ⟨Sx, rs, _, h1, _, h2⟩ := h
    rw [h1.len]
    exact len _ _ _ h2
  · obtain ⟨Sx, rs, hs, h1, n, h2⟩ := h
    refine ⟨_, pss_w, hb cdv A outer s H E hr (good_of S hr) rs _ _ h2 Sx H _ H Sx _ E (takes_of rfl rfl rfl rfl) (Rep.start hs h1 n) ⟨fun G σ H' S' q p => ?_, fun r v H' S' q g k => q v H' S' g k, fun _ _ _ _ q => q.elim, fun _ _ _ _ q => q.elim, fun x d H' S' q g k => q d H' S' g k⟩⟩
    exact q .non H' S' p.ext .non
/-! ### statements -/
section
variable {X : Cx} {G : Gm} {pos : Pos} {a b c e : Expr} {st : Stmt} {sts A B : List Stmt} {V : EndV} {r : R} {d : D} {ds : List D}
theorem vss_nil (h : V.nx G) : VSs X G [] V := fun S0 H0 σ H S D E tk p ok => wSs.of pss_nil (ok.nx G σ H S h p)
theorem vss_cons (h : VS X G st { V with nx := fun G' => VSs X G' sts V }) : VSs X G (st :: sts) V := fun S0 H0 σ H S D E tk p ok =>
  wSs.of (pss_cons ps_w pss_w) (h S0 H0 σ H S { D with nx := wSs X sts D } E tk p ⟨fun G' σ' H' S' q p' => q S0 H0 σ' H' S' D E tk p' ok, ok.rt, ok.bk, ok.ct, ok.ex⟩)
theorem vss_one (h : VS X G st V) : VSs X G [st] V := fun S0 H0 σ H S D E tk p ok => wSs.of (pss_one ps_w) (h S0 H0 σ H S D E tk p ok)
/-- what is known may be forgotten -/
def Le (G' G : Gm) : Prop := G'.length = G.length ∧ ∀ (i : Nat) (r : R), G'[i]? = some (some r) → G[i]? = some (some r)
theorem vss_weak {G' : Gm} (l : Le G' G) (h : VSs X G' sts V) : VSs X G sts V := fun S0 H0 σ H S D E tk p ok => h S0 H0 σ H S D E tk (p.weak l.1 l.2) ok
/-- an owned list is shared from now on -/
theorem vss_frz (i : Nat) (h : G[i]? = some (some (.ow ds))) (k : VSs X (G.set i (some (.sh (.lst ds)))) sts V) : VSs X G sts V := fun S0 H0 σ H S D E tk p ok => by
  obtain ⟨S', _, p'⟩ := p.freeze h
  exact k S0 H0 σ H S' D E tk p' ok
theorem vs_pass (h : V.nx G) : VS X G (.Pass pos) V := fun S0 H0 σ H S D E tk p ok => wS.of ps_pass (ok.nx G σ H S h p)
theorem vs_brk (h : V.bk G) : VS X G (.Break pos) V := fun S0 H0 σ H S D E tk p ok => wS.of ps_break (ok.bk G σ H S h p)
theorem vs_cnt (h : V.ct G) : VS X G (.Continue pos) V := fun S0 H0 σ H S D E tk p ok => wS.of ps_continue (ok.ct G σ H S h p)
theorem vs_ret (h : VE X G e r) (k : V.rt r) : VS X G (.Return (some e) pos) V := fun S0 H0 σ H S D E tk p ok =>
  wS.of (ps_ret pe_w) (h.2 S0 H0 σ H S p _ fun v H1 S1 g m => ok.rt r v H1 S1 k (p.ext.trans g) (m.base p.ext.hh (noEn h.1)))
theorem vs_retX {xv : XV} (h : VX X G e xv) (k : V.ex xv) : VS X G (.Return (some e) pos) V := fun S0 H0 σ H S D E tk p ok =>
  wS.of (ps_ret pe_w) (wE.mono (h S0 H0 σ H S E tk p fun d H1 S1 g m => ok.ex xv d H1 S1 k (p.ext.trans g) m) fun _ _ z => z.elim)
theorem vs_retN (k : V.rt (.sh .non)) : VS X G (.Return none pos) V := fun S0 H0 σ H S D E tk p ok => wS.of ps_retN (ok.rt _ .non H S k p.ext .non)
/-- return of an owned list -/
theorem vs_retO (i : Nat) {x : Str} {p2 : Pos} (hG : G[i]? = some (some (.ow ds))) (k : V.rt (.ow ds)) (hN : X.N[i]? = some x := by rfl)
    (hv : Vis X.env.scope x := by first | exact Or.inl rfl | exact Or.inr (Or.inl rfl) | exact Or.inr (Or.inr rfl)) (hd : (x == ("__debug__" : Str)) = false := by decide) (hcd : (x == ("__classdict__" : Str)) = false := by decide) : VS X G (.Return (some (.Name x p2)) pos) V := fun S0 H0 σ H S D E tk p ok => by
  obtain ⟨v, h1, h2, _⟩ := p.slot i _ hG
  exact wS.of (ps_ret (pe_var hN hv hd hcd)) ⟨v, h1, ok.rt _ v H S k p.ext h2⟩
theorem vs_expr (h : VE X G e r) (k : V.nx G) (hs : swapsWith e none pos.line X.env = pure false := by rfl) : VS X G (.Expr e pos) V := fun S0 H0 σ H S D E tk p ok =>
  wS.of (ps_expr pe_w hs) (h.2 S0 H0 σ H S p _ fun v H1 S1 g m => ok.nx G σ H1 S1 k (p.step g))
theorem vs_exprX {xv : XV} (h : VX X G e xv) (k : V.ex xv) (hs : swapsWith e none pos.line X.env = pure false := by rfl) : VS X G (.Expr e pos) V := fun S0 H0 σ H S D E tk p ok =>
  wS.of (ps_expr pe_w hs) (wE.mono (h S0 H0 σ H S E tk p fun d H1 S1 g m => ok.ex xv d H1 S1 k (p.ext.trans g) m) fun _ _ z => z.elim)
theorem vs_doc {x : Str} {j : Nat} {p2 : Pos} (k : V.nx G) : VS X G (.Expr (.Constant (.str x) j p2) pos) V := fun S0 H0 σ H S D E tk p ok => wS.of ps_doc (ok.nx G σ H S k p)
theorem vs_if {k : Bool} (h : VT X G c k) (h1 : k = true → VSs X G A V) (h2 : k = false → VSs X G B V) : VS X G (.If c A B pos) V := fun S0 H0 σ H S D E tk p ok =>
  wS.of (ps_if pt_w pss_w pss_w) (h S0 H0 σ H S p _ fun H1 S1 g => by
    cases k with
    | true => exact iteT (h1 rfl S0 H0 σ H1 S1 D E tk (p.step g) ok)
    | false => exact iteF (h2 rfl S0 H0 σ H1 S1 D E tk (p.step g) ok))
/-- x = e -/
theorem vs_set (gd : Good X) (i : Nat) {x : Str} {p2 : Pos} (h : VE X G e (.sh d)) (k : V.nx (G.set i (some (.sh d)))) (hi : X.N[i]? = some x := by rfl) (hx : Loc X.env.scope x := by first | exact Or.inl rfl | exact Or.inr rfl)
    (hs : swapsWith e (some (.Name x p2)) pos.line X.env = pure false := by rfl) (hf : X.fn x = true ∨ X.env.scope.names.lookup x = some .local := by first | exact .inl rfl | exact .inr rfl) : VS X G (.Assign [.Name x p2] e pos) V := fun S0 H0 σ H S D E tk p ok =>
  wS.of (ps_set gd.nd hi hx pe_w hs hf) (h.2 S0 H0 σ H S p _ fun v H1 S1 g m => ok.nx _ _ H1 S1 k ((p.step g).setS m))
theorem vs_setO (gd : Good X) (i : Nat) {x : Str} {p2 : Pos} (h : VE X G e (.ow ds)) (k : V.nx (G.set i (some (.ow ds)))) (hi : X.N[i]? = some x := by rfl) (hx : Loc X.env.scope x := by first | exact Or.inl rfl | exact Or.inr rfl)
    (hs : swapsWith e (some (.Name x p2)) pos.line X.env = pure false := by rfl) (hf : X.fn x = true ∨ X.env.scope.names.lookup x = some .local := by first | exact .inl rfl | exact .inr rfl) : VS X G (.Assign [.Name x p2] e pos) V := fun S0 H0 σ H S D E tk p ok =>
  wS.of (ps_set gd.nd hi hx pe_w hs hf) (h.2 S0 H0 σ H S p _ fun v H1 S1 g m => ok.nx _ _ H1 S1 k (p.setO g m))
theorem vs_setX (gd : Good X) (i : Nat) {x : Str} {p2 : Pos} {xv : XV} (h : VX X G e xv) (k : V.ex xv) (hi : X.N[i]? = some x := by rfl) (hx : Loc X.env.scope x := by first | exact Or.inl rfl | exact Or.inr rfl)
    (hs : swapsWith e (some (.Name x p2)) pos.line X.env = pure false := by rfl) (hf : X.fn x = true ∨ X.env.scope.names.lookup x = some .local := by first | exact .inl rfl | exact .inr rfl) : VS X G (.Assign [.Name x p2] e pos) V := fun S0 H0 σ H S D E tk p ok =>
  wS.of (ps_set gd.nd hi hx pe_w hs hf) (wE.mono (h S0 H0 σ H S E tk p fun d H1 S1 g m => ok.ex xv d H1 S1 k (p.ext.trans g) m) fun _ _ z => z.elim)
/-- x = y, y an owned list that is shared from now on: by vss_frz first -/
theorem vs_par (gd : Good X) (i j : Nat) {x y : Str} {px py pt : Pos} {kt k2 : Nat} {pt2 : Pos} {d1 d2 : D} (ha : VAs X G [a, b] [d1, d2]) (k : V.nx ((G.set i (some (.sh d1))).set j (some (.sh d2))))
    (hij : i ≠ j := by decide) (hi : X.N[i]? = some x := by rfl) (hj : X.N[j]? = some y := by rfl) (hx : X.env.scope.names.lookup x = some .local := by rfl) (hy : X.env.scope.names.lookup y = some .local := by rfl)
    (hw : swappedStores [.Tuple [.Name x px, .Name y py] kt pt] (.Tuple [a, b] k2 pt2) X.env = pure (some [x, y]) := by rfl)
    (hs : swapsWithSole [.Tuple [.Name x px, .Name y py] kt pt] (.Tuple [a, b] k2 pt2) pos.line X.env = pure false := by rfl) : VS X G (.Assign [.Tuple [.Name x px, .Name y py] kt pt] (.Tuple [a, b] k2 pt2) pos) V := fun S0 H0 σ H S D E tk p ok =>
  wS.of (ps_par gd.calm gd.nd hi hj hij hx hy pa_w hw hs) (ha S0 H0 σ H S p _ fun vs H1 S1 g m => by
    obtain ⟨v, r, rfl, m1, m2⟩ := dall_cons.mp m
    obtain ⟨w, r2, rfl, m3, m4⟩ := dall_cons.mp m2
    cases dall_nil.mp m4
    exact ⟨v, w, rfl, ok.nx _ _ H1 S1 k (((p.step g).setS m1).setS m3)⟩)
/-- x += e, ints -/
theorem vs_augI (gd : Good X) (i : Nat) {x : Str} {p2 : Pos} {n m : Int} {op : Operator} {f : Int → Int → Int} (hop : PIp X op (ipI f)) (hG : G[i]? = some (some (.sh (.int n)))) (h : VE X G e (.sh (.int m))) (k : V.nx (G.set i (some (.sh (.int (f n m)))))) (hi : X.N[i]? = some x := by rfl) (hx : Loc X.env.scope x := by first | exact Or.inl rfl | exact Or.inr rfl)
    (hf : X.fn x = true ∨ X.env.scope.names.lookup x = some .local := by first | exact .inl rfl | exact .inr rfl) : VS X G (.AugAssign (.Name x p2) op e pos) V := fun S0 H0 σ H S D E tk p ok => by
  obtain ⟨v, h1, h2, _⟩ := p.slot i _ hG
  cases den_int.mp h2
  exact wS.of (ps_aug gd.nd hi hx pe_w hop hf) ⟨_, h1, h.2 S0 H0 σ H S p _ fun v H1 S1 g m' => ⟨n, m, rfl, den_int.mp m', ok.nx _ _ H1 S1 k ((p.step g).setS (.int _))⟩⟩
/-- xs.append(e), xs owned -/
theorem vs_app (i : Nat) {x : Str} {p2 : Pos} {apos cpos : Pos} (hG : G[i]? = some (some (.ow ds))) (h : VE X G e (.sh d)) (hz : ds.length < sizeLine) (k : V.nx (G.set i (some (.ow (ds ++ [d]))))) (hN : X.N[i]? = some x := by rfl)
    (hv : Vis X.env.scope x := by first | exact Or.inl rfl | exact Or.inr (Or.inl rfl) | exact Or.inr (Or.inr rfl)) (hd : (x == ("__debug__" : Str)) = false := by decide) (hcd : (x == ("__classdict__" : Str)) = false := by decide)
    (hs : swapsWith (.Call (.Attribute (.Name x p2) "append" apos) [e] [] cpos) none pos.line X.env = pure false := by rfl) (hbase : attributeBase (.Name x p2) "append" X.env (eval (.Name x p2) X.env) = eval (.Name x p2) X.env := by rfl)
    (hfew : ((backTo cpos (starEach [e] X.env)).all (fun x => !x.1) && (backToKw cpos (keywordEach [] X.env)).all (fun x => x.1.isSome) && decide ([e].length + ([] : List Keyword).length + (if ([] : List Keyword).isEmpty then 0 else 1) < 30)) = true := by rfl)
    (hline : (apos.endLine == cpos.line) = true := by rfl) (he : starEach [e] X.env = (false, eval e X.env) :: starEach [] X.env := by rfl) (hplain : (backTo cpos (starEach [] X.env)).any (·.1) = false := by rfl) :
    VS X G (.Expr (.Call (.Attribute (.Name x p2) "append" apos) [e] [] cpos) pos) V := fun S0 H0 σ H S D E tk p ok => by
  obtain ⟨v, h1, ⟨l, xs, rfl, hB, hS, hH, hD⟩, _⟩ := p.slot i _ hG
  refine wS.of (ps_expr (pe_bm PySem.F.plainAttrs_list PySem.F.slot_list_append PySem.F.type_list_append mt_append (pe_var hN hv hd hcd) (pa_cons pe_w pa_nil he) hbase hfew hline he hplain) hs) ?_
  refine ⟨.ref l, h1, .inl ⟨rfl, _, .of hH⟩, h.2 S0 H0 σ H S p _ fun y H1 S1 g m => ?_⟩
  refine ⟨l, xs, y, rfl, rfl, g.hh _ _ hH, by rw [← hD.len]; exact hz, ?_⟩
  exact ok.nx _ _ _ _ k ((p.step g).mut hG h1 (g.hh _ _ hH) ((DenAll.mono g.ss hD).append (.cons m .nil)))
/-- xs[n] = e, xs owned -/
theorem vs_seti (i : Nat) {x : Str} {p2 ps : Pos} {n : Int} {j : Nat} (hG : G[i]? = some (some (.ow ds))) (h : VE X G e (.sh d)) (hn : VE X G b (.sh (.int n))) (hj : ixN ds.length n = some j) (k : V.nx (G.set i (some (.ow (ds.set j d))))) (hN : X.N[i]? = some x := by rfl)
    (hv : Vis X.env.scope x := by first | exact Or.inl rfl | exact Or.inr (Or.inl rfl) | exact Or.inr (Or.inr rfl)) (hd : (x == ("__debug__" : Str)) = false := by decide) (hcd : (x == ("__classdict__" : Str)) = false := by decide)
    (hg : PG X (.Subscript (.Name x p2) b ps) (gSub (tVar i) (wE X b) rSetL))
    (hs : swapsWithSole [.Subscript (.Name x p2) b ps] e pos.line X.env = pure false := by rfl) (hw : swappedStores [.Subscript (.Name x p2) b ps] e X.env = pure none := by rfl)
    (h1 : (assignEach [.Subscript (.Name x p2) b ps] X.env).map (·.2) = [assign (.Subscript (.Name x p2) b ps) X.env] := by rfl) : VS X G (.Assign [.Subscript (.Name x p2) b ps] e pos) V := fun S0 H0 σ H S D E tk p ok => by
  obtain ⟨v, hv1, ⟨l, xs, rfl, hB, hS, hH, hD⟩, _⟩ := p.slot i _ hG
  refine wS.of (ps_asg pe_w hg hs hw h1) (h.2 S0 H0 σ H S p _ fun y H1 S1 g m => ?_)
  refine ⟨.ref l, hv1, hn.2 S0 H0 σ H1 S1 (p.step g) _ fun z H2 S2 g2 m2 => ?_⟩
  have g12 := g.trans g2
  refine ⟨l, xs, n, j, rfl, den_int.mp m2, g12.hh _ _ hH, by rw [← hD.len]; exact hj, ?_⟩
  exact ok.nx _ _ _ _ k ((p.step g12).mut hG hv1 (g12.hh _ _ hH) ((DenAll.mono g12.ss hD).set (Den.mono g2.ss m)))
end

/-! ### targets -/
theorem wipe_set {i : Nat} {y : Option L2.V} : ∀ {vs : List Nat} {σ : L2.St}, i ∈ vs → wipe (σ.set i y) vs = wipe σ vs
  | [], _, h => by cases h
  | v :: vs, σ, h => by
    unfold wipe
    by_cases hv : v = i
    · subst hv
      by_cases hm : v ∈ vs
      · rw [wipe_set hm]
      · have : ∀ (ws : List Nat), v ∉ ws → wipe (σ.set v y) ws = (wipe σ ws).set v y := by
          intro ws
          induction ws with
          | nil => intro _; rfl
          | cons w ws ih =>
            intro hw
            unfold wipe
            rw [ih (fun z => hw (List.mem_cons_of_mem _ z))]
            exact List.set_comm _ _ (fun z => hw (by rw [z]; exact List.mem_cons_self))
        rw [this vs hm, List.set_set]
    · have hm : i ∈ vs := by
        rcases List.mem_cons.mp h with z | z
        · exact absurd z.symm hv
        · exact z
      rw [wipe_set hm]
theorem wipe_idem : ∀ (vs : List Nat) (σ : L2.St), wipe (wipe σ vs) vs = wipe σ vs := by
  intro vs
  have key : ∀ (ws us : List Nat) (σ : L2.St), (∀ v ∈ ws, v ∈ us) → wipe (wipe σ ws) us = wipe σ us := by
    intro ws
    induction ws with
    | nil => intro us σ _; rfl
    | cons v ws ih =>
      intro us σ h
      show wipe ((wipe σ ws).set v none) us = _
      rw [wipe_set (h v List.mem_cons_self)]
      exact ih us σ fun w hw => h w (List.mem_cons_of_mem _ hw)
  exact fun σ => key vs vs σ fun _ h => h
def wipeG (G : Gm) : List Nat → Gm
  | [] => G
  | v :: vs => (wipeG G vs).set v none
theorem Rep.unset {S0 H0 : Hp} {G : Gm} {σ : L2.St} {H S : Hp} (p : Rep S0 H0 G σ H S) (i : Nat) : Rep S0 H0 (G.set i none) (σ.set i none) H S := by
  refine ⟨p.ext, by rw [List.length_set, List.length_set]; exact p.len, fun j r e => ?_, fun j k r1 r2 v1 v2 x n a b c d o1 o2 => ?_⟩
  · rcases get_set e with ⟨rfl, hl, q⟩ | ⟨n, q⟩
    · cases q
    · obtain ⟨w, h1, h2⟩ := p.slot j r q
      exact ⟨w, by rw [List.getElem?_set_ne n]; exact h1, h2⟩
  · rcases get_set a with ⟨rfl, hl, q⟩ | ⟨n1, q⟩
    · cases q
    rcases get_set b with ⟨rfl, hl, q2⟩ | ⟨n2, q2⟩
    · cases q2
    rw [List.getElem?_set_ne n1] at c
    rw [List.getElem?_set_ne n2] at d
    exact p.sep j k r1 r2 v1 v2 x n q q2 c d o1 o2
theorem Rep.wipe {S0 H0 : Hp} {G : Gm} {σ : L2.St} {H S : Hp} (p : Rep S0 H0 G σ H S) : ∀ vs, Rep S0 H0 (wipeG G vs) (wipe σ vs) H S
  | [] => p
  | v :: vs => (p.wipe vs).unset v
/-- as VG, telling which slots are stored -/
def VGw (X : Cx) (G : Gm) (tg : Expr) (d : D) (ts : List Nat) (K : Gm → Prop) : Prop := ∀ S0 H0 σ H S v, Rep S0 H0 G σ H S → Den S d v → ∀ Q : L2.St → Hp → Prop,
  (∀ G' σ', K G' → Rep S0 H0 G' σ' H S → (∀ vs, (∀ t ∈ ts, t ∈ vs) → wipe σ' vs = wipe σ vs) → Q σ' H) → wG X tg v σ H Q
def VGws (X : Cx) (G : Gm) (tgs : List Expr) (ds : List D) (ts : List Nat) (K : Gm → Prop) : Prop := ∀ S0 H0 σ H S vs, Rep S0 H0 G σ H S → DenAll S ds vs → ∀ Q : L2.St → Hp → Prop,
  (∀ G' σ', K G' → Rep S0 H0 G' σ' H S → (∀ vs, (∀ t ∈ ts, t ∈ vs) → wipe σ' vs = wipe σ vs) → Q σ' H) → wGs X tgs vs σ H Q
section
variable {X : Cx} {G : Gm} {pos : Pos} {tg : Expr} {tgs : List Expr} {d : D} {ds : List D} {K : Gm → Prop} {ts us : List Nat}
theorem vg_name (gd : Good X) (i : Nat) {x : Str} (k : K (G.set i (some (.sh d)))) (hi : X.N[i]? = some x := by rfl) (hx : Loc X.env.scope x := by first | exact Or.inl rfl | exact Or.inr rfl)
    (hf : X.fn x = true ∨ X.env.scope.names.lookup x = some .local := by first | exact .inl rfl | exact .inr rfl) : VGw X G (.Name x pos) d [i] K := fun S0 H0 σ H S v p h Q q =>
  wG.of (pg_name gd.nd hi hx hf) (q _ _ k (p.setS h) fun vs hv => wipe_set (hv i List.mem_cons_self))
theorem vgs_nil (k : K G) : VGws X G [] [] [] K := fun S0 H0 σ H S vs p h Q q => wGs.of pgs_nil ⟨dall_nil.mp h, q _ _ k p fun _ _ => rfl⟩
theorem vgs_cons (h : VGw X G tg d ts fun G' => VGws X G' tgs ds us K) (hs : (assignEach (tg :: tgs) X.env).map (·.2) = assign tg X.env :: (assignEach tgs X.env).map (·.2) := by rfl) : VGws X G (tg :: tgs) (d :: ds) (ts ++ us) K := fun S0 H0 σ H S vs p hd Q q => by
  obtain ⟨v, r, rfl, h1, h2⟩ := dall_cons.mp hd
  refine wGs.of (pgs_cons pg_w pgs_w hs) ⟨v, r, rfl, h S0 H0 σ H S v p h1 _ fun G' σ' k p' w1 => k S0 H0 σ' H S r p' h2 _ fun G2 σ2 k2 p2 w2 => ?_⟩
  exact q G2 σ2 k2 p2 fun ws hw => (w2 ws fun t ht => hw t (List.mem_append_right _ ht)).trans (w1 ws fun t ht => hw t (List.mem_append_left _ ht))
theorem vg_tup (gd : Good X) {k : Nat} (h : VGws X G tgs ds ts K) (hl : ds.length = (assignEach tgs X.env).length := by rfl) (hst : (assignEach tgs X.env).findIdx? (·.1) = none := by rfl) : VGw X G (.Tuple tgs k pos) (.tup ds) ts K := fun S0 H0 σ H S v p hd Q q => by
  obtain ⟨l, xs, rfl, e1, d1⟩ := den_tup.mp hd
  exact wG.of (pg_tup gd.calm pgs_w rfl hst) ⟨l, xs, rfl, .of (p.s0 _ _ e1), by rw [← d1.len]; exact hl, h S0 H0 σ H S xs p d1 Q q⟩
theorem vg_tupL (gd : Good X) {k : Nat} (h : VGws X G tgs ds ts K) (hl : ds.length = (assignEach tgs X.env).length := by rfl) (hst : (assignEach tgs X.env).findIdx? (·.1) = none := by rfl) : VGw X G (.Tuple tgs k pos) (.tup ds) ts K := vg_tup gd h hl hst
/-- a, b, .. = e, a tuple -/
theorem vs_unp {V : EndV} {e : Expr} (h : VE X G e (.sh d)) (k : ∃ ts, VGw X G tg d ts V.nx) (hs : swapsWithSole [tg] e pos.line X.env = pure false := by rfl) (hw : swappedStores [tg] e X.env = pure none := by rfl)
    (h1 : (assignEach [tg] X.env).map (·.2) = [assign tg X.env] := by rfl) : VS X G (.Assign [tg] e pos) V := fun S0 H0 σ H S D E tk p ok =>
  wS.of (ps_asg pe_w pg_w hs hw h1) (h.2 S0 H0 σ H S p _ fun v H1 S1 g m => by
    obtain ⟨ts, k⟩ := k
    exact k S0 H0 σ H1 S1 v (p.step g) m _ fun G' σ' k' p' _ => ok.nx G' σ' H1 S1 k' p')
end
end VL

-- VL5
set_option Elab.async false
set_option linter.all false
set_option autoImplicit false
set_option maxRecDepth 100000
set_option maxHeartbeats 4000000
namespace VL
open PySem PySem.Spec L2
open PyProof.Rows (envOfC)

/-! ### what is walked -/
section
variable {X : Cx} {G : Gm} {pos p : Pos} {tg a b c e : Expr} {r ra rb : R} {ds es : List D}
theorem itok_list {A S1 : Hp} {K : PySem.W.Frag} {l : Addr} {xs : List V} (h : A l = some (.lst xs)) (hd : DenAll S1 ds xs) : ItOk A S1 (Itl K l) ds := fun i H S sa ss sh => by
  have q : SqL K H l xs := .of (sa _ _ h)
  have hl := hd.len
  refine ⟨fun hi => ⟨⟨xs, xs[i], q, by simp [show i < xs.length by omega]⟩, fun x H' y => ?_⟩, fun hi => ⟨xs, q, by omega⟩⟩
  obtain ⟨e, y⟩ := y
  subst e
  obtain ⟨d, e, k⟩ := hd.at' (y xs q)
  exact ⟨S, d, Gx.refl sh, e, Den.mono ss k⟩
theorem itok_tup {A S1 : Hp} {K : PySem.W.Frag} {l : Addr} {xs : List V} (h : A l = some (.tup xs)) (hd : DenAll S1 ds xs) : ItOk A S1 (Itt K l) ds := fun i H S sa ss sh => by
  have q : SqT K H l xs := .of (sa _ _ h)
  have hl := hd.len
  refine ⟨fun hi => ⟨⟨xs, xs[i], q, by simp [show i < xs.length by omega]⟩, fun x H' y => ?_⟩, fun hi => ⟨xs, q, by omega⟩⟩
  obtain ⟨e, y⟩ := y
  subst e
  obtain ⟨d, e, k⟩ := hd.at' (y xs q)
  exact ⟨S, d, Gx.refl sh, e, Den.mono ss k⟩
theorem vi_list (h : VE X G e (.sh (.lst ds))) : VI X G tg e ds := fun S0 H0 σ H S p Q q => wI.of (pi_list pe_w) (h.2 S0 H0 σ H S p _ fun v H1 S1 g k => by
  obtain ⟨l, xs, rfl, e1, d1⟩ := den_lst.mp k
  exact ⟨l, rfl, ⟨xs, .of (g.sh _ _ e1)⟩, q _ S1 H1 S1 g (itok_list e1 d1) fun H' S' _ ss sh => ss.trans sh⟩)
theorem vi_tup (h : VE X G e (.sh (.tup ds))) : VI X G tg e ds := fun S0 H0 σ H S p Q q => wI.of (pi_tup pe_w) (h.2 S0 H0 σ H S p _ fun v H1 S1 g k => by
  obtain ⟨l, xs, rfl, e1, d1⟩ := den_tup.mp k
  exact ⟨l, rfl, ⟨xs, .of (g.sh _ _ e1)⟩, q _ S1 H1 S1 g (itok_tup e1 d1) fun H' S' _ ss sh => ss.trans sh⟩)
/-- over a list that stood at the entry -/
theorem vi_en (i : Nat) {x : Str} (hG : G[i]? = some (some (.en ds))) (hN : X.N[i]? = some x := by rfl)
    (hv : Vis X.env.scope x := by first | exact Or.inl rfl | exact Or.inr (Or.inl rfl) | exact Or.inr (Or.inr rfl)) (hd : (x == ("__debug__" : Str)) = false := by decide) (hcd : (x == ("__classdict__" : Str)) = false := by decide) : VI X G tg (.Name x pos) ds := fun S0 H0 σ H S p Q q => by
  obtain ⟨v, h1, ⟨l, xs, rfl, e1, d1⟩, _⟩ := p.slot i _ hG
  refine wI.of (pi_list (pe_var hN hv hd hcd)) ⟨_, h1, l, rfl, ⟨xs, .of (p.ext.hh _ _ e1)⟩, ?_⟩
  exact q _ H0 H S (Gx.refl p.s0) (itok_list e1 d1) fun H' S' hh _ _ => hh
theorem vim_list (h : VE X G e r) (hr : r.asL = some ds) : VIm X G tg e ds := fun S0 H0 σ H S p Q q => wI.of (pi_list pe_w) (h.2 S0 H0 σ H S p _ fun v H1 S1 g k => by
  obtain ⟨l, xs, rfl, e1, d1⟩ := k.asL hr h.1 g.sh
  exact ⟨l, rfl, ⟨xs, .of e1⟩, q _ H1 H1 S1 g (itok_list e1 d1) (Same.refl _)⟩)
def rng (lo : Int) (n : Nat) : List D := (List.range n).map fun k => .int (lo + (k : Nat))
def rngC (lo c : Int) (n : Nat) : List D := (List.range n).map fun k => .int (lo + (k : Nat) * c)
theorem rng_len {lo : Int} {n : Nat} : (rng lo n).length = n := by unfold rng; rw [List.length_map, List.length_range]
theorem rngC_len {lo c : Int} {n : Nat} : (rngC lo c n).length = n := by unfold rngC; rw [List.length_map, List.length_range]
theorem rng_at {lo : Int} {n i : Nat} (h : i < n) : (rng lo n)[i]? = some (.int (lo + (i : Nat))) := by
  unfold rng
  rw [List.getElem?_map, List.getElem?_range h]
  rfl
theorem rngC_at {lo c : Int} {n i : Nat} (h : i < n) : (rngC lo c n)[i]? = some (.int (lo + (i : Nat) * c)) := by
  unfold rngC
  rw [List.getElem?_map, List.getElem?_range h]
  rfl
theorem itok_rng {A S1 : Hp} {lo : Int} {n : Nat} : ItOk A S1 (Itr lo n) (rng lo n) := fun i H S sa ss sh => by
  refine ⟨fun hi => ⟨by rw [rng_len] at hi; exact hi, fun x H' y => ?_⟩, fun hi => by rw [rng_len] at hi; exact Nat.le_of_eq hi.symm⟩
  rw [rng_len] at hi
  obtain ⟨e, y⟩ := y
  subst e y
  exact ⟨S, _, Gx.refl sh, rng_at hi, .int _⟩
theorem itok_rngC {A S1 : Hp} {lo c : Int} {n : Nat} : ItOk A S1 (Itc lo c n) (rngC lo c n) := fun i H S sa ss sh => by
  refine ⟨fun hi => ⟨by rw [rngC_len] at hi; exact hi, fun x H' y => ?_⟩, fun hi => by rw [rngC_len] at hi; exact Nat.le_of_eq hi.symm⟩
  rw [rngC_len] at hi
  obtain ⟨e, y⟩ := y
  subst e y
  exact ⟨S, _, Gx.refl sh, rngC_at hi, .int _⟩
theorem vi_rng1 {j : Int} (hm : X.mg "range" = none) (h : VE X G a (.sh (.int j))) (h1 : -(2 ^ 62) ≤ j) (h2 : j < 2 ^ 62) (hg : Gl X "range" := by rfl) (hs : starEach [a] X.env = [(false, eval a X.env)] := by rfl) : VI X G tg (.Call (.Name "range" p) [a] [] pos) (rng 0 j.toNat) :=
  fun S0 H0 σ H S p Q q => wI.of (pi_range1 hg hm (pa_cons pe_w pa_nil hs) hs) (h.2 S0 H0 σ H S p _ fun v H1 S1 g k => ⟨j, by rw [den_int.mp k], h1, h2, q _ S1 H1 S1 g itok_rng fun _ _ _ ss sh => ss.trans sh⟩)
theorem vi_rng2 {i j : Int} (hm : X.mg "range" = none) (h : VE X G a (.sh (.int i))) (h' : VE X G b (.sh (.int j))) (h1 : -(2 ^ 62) ≤ i ∧ i < 2 ^ 62 ∧ -(2 ^ 62) ≤ j ∧ j < 2 ^ 62) (hg : Gl X "range" := by rfl) (hs : starEach [a, b] X.env = [(false, eval a X.env), (false, eval b X.env)] := by rfl)
    (hs2 : starEach [b] X.env = [(false, eval b X.env)] := by rfl) : VI X G tg (.Call (.Name "range" p) [a, b] [] pos) (rng i (j - i).toNat) :=
  fun S0 H0 σ H S p Q q => wI.of (pi_range2 hg hm (pa_cons pe_w (pa_cons pe_w pa_nil hs2) (by rw [hs, hs2])) hs hs2) (h.2 S0 H0 σ H S p _ fun v H1 S1 g k => h'.2 S0 H0 σ H1 S1 (p.step g) _ fun v' H2 S2 g2 k2 =>
    ⟨i, j, by rw [den_int.mp k, den_int.mp k2], h1, q _ S2 H2 S2 (g.trans g2) itok_rng fun _ _ _ ss sh => ss.trans sh⟩)
theorem vi_rng3 {i j k : Int} {n : Nat} (hm : X.mg "range" = none) (h : VE X G a (.sh (.int i))) (h' : VE X G b (.sh (.int j))) (h'' : VE X G c (.sh (.int k))) (h1 : RgC i j k n) (hg : Gl X "range" := by rfl)
    (hs : starEach [a, b, c] X.env = (false, eval a X.env) :: starEach [b, c] X.env := by rfl) (hs2 : starEach [b, c] X.env = (false, eval b X.env) :: starEach [c] X.env := by rfl) (hs3 : starEach [c] X.env = (false, eval c X.env) :: starEach [] X.env := by rfl)
    (hpl : (backTo pos (starEach [b, c] X.env)).any (·.1) = false := by rfl) : VI X G tg (.Call (.Name "range" p) [a, b, c] [] pos) (rngC i k n) :=
  fun S0 H0 σ H S p Q q => wI.of (pi_range3 hg hm (pa_cons pe_w (pa_cons pe_w (pa_cons pe_w pa_nil hs3) hs2) hs) hs hpl) (h.2 S0 H0 σ H S p _ fun v H1 S1 g k1 => h'.2 S0 H0 σ H1 S1 (p.step g) _ fun v' H2 S2 g2 k2 => h''.2 S0 H0 σ H2 S2 ((p.step g).step g2) _ fun v3 H3 S3 g3 k3 =>
    ⟨i, j, k, n, by rw [den_int.mp k1, den_int.mp k2, den_int.mp k3], h1, q _ S3 H3 S3 ((g.trans g2).trans g3) itok_rngC fun _ _ _ ss sh => ss.trans sh⟩)
def strD (z : Str) : List D := z.cps.toList.map fun c => .str ⟨#[c]⟩
theorem vi_str {z : Str} (h : VE X G e (.sh (.str z))) : VI X G tg e (strD z) := fun S0 H0 σ H S p Q q => wI.of (pi_str pe_w) (h.2 S0 H0 σ H S p _ fun v H1 S1 g k => ⟨z, den_str.mp k, q _ S1 H1 S1 g (fun i H' S' sa ss sh => by
  have hl : (strD z).length = z.cps.size := by unfold strD; rw [List.length_map, Array.length_toList]
  refine ⟨fun hi => ⟨by rw [hl] at hi; exact hi, fun x H2 y => ?_⟩, fun hi => by rw [hl] at hi; exact Nat.le_of_eq hi.symm⟩
  obtain ⟨e, c, hc, e2⟩ := y
  subst e e2
  refine ⟨S', .str ⟨#[c]⟩, Gx.refl sh, ?_, .str _⟩
  unfold strD
  rw [List.getElem?_map, Array.getElem?_toList, hc]
  rfl) fun _ _ _ ss sh => ss.trans sh⟩)
def enumD (ds : List D) : List D := ds.mapIdx fun i d => .tup [.int (i : Nat), d]
theorem enum_at {i : Nat} {d : D} (h : ds[i]? = some d) : (enumD ds)[i]? = some (.tup [.int (i : Nat), d]) := by
  unfold enumD
  rw [List.getElem?_mapIdx, h]
  rfl
theorem itok_enum {A S1 : Hp} {K : PySem.W.Frag} {l : Addr} {xs : List V} (h : A l = some (.lst xs)) (hd : DenAll S1 ds xs) : ItOk A S1 (Ite K l) (enumD ds) := fun i H S sa ss sh => by
  have q : SqL K H l xs := .of (sa _ _ h)
  have hl := hd.len
  have hl2 : (enumD ds).length = ds.length := by unfold enumD; rw [List.length_mapIdx]
  refine ⟨fun hi => ⟨⟨xs, xs[i], q, by simp [show i < xs.length by omega]⟩, fun x H' y => ?_⟩, fun hi => ⟨xs, q, by omega⟩⟩
  obtain ⟨T, x0, rfl, hT, rfl, y⟩ := y
  obtain ⟨d, e, k⟩ := hd.at' (y xs q)
  have g : Gx S H (upd S T (.tup [.int (i : Nat), x0])) (upd H T (.tup [.int (i : Nat), x0])) := Gx.newS sh hT
  exact ⟨_, _, g, enum_at e, .tup upd_same (.cons (.int _) (.cons (Den.mono (ss.trans g.ss) k) .nil))⟩
theorem vi_enum {elts : List Expr} {kk : Nat} {tp : Pos} (hm : X.mg "enumerate" = none) (h : VE X G e (.sh (.lst ds))) (hg : Gl X "enumerate" := by rfl) (hs : starEach [e] X.env = [(false, eval e X.env)] := by rfl) : VI X G (.Tuple elts kk tp) (.Call (.Name "enumerate" p) [e] [] pos) (enumD ds) :=
  fun S0 H0 σ H S p Q q => wI.of (pi_enum hg hm (pa_cons pe_w pa_nil hs) hs) (h.2 S0 H0 σ H S p _ fun v H1 S1 g k => by
    obtain ⟨l, xs, rfl, e1, d1⟩ := den_lst.mp k
    exact ⟨l, xs, rfl, .of (g.sh _ _ e1), q _ S1 H1 S1 g (itok_enum e1 d1) fun H' S' _ ss sh => ss.trans sh⟩)
theorem vi_enumE {elts : List Expr} {kk : Nat} {tp p2 : Pos} (i : Nat) {x : Str} (hm : X.mg "enumerate" = none) (hG : G[i]? = some (some (.en ds))) (hN : X.N[i]? = some x := by rfl)
    (hv : Vis X.env.scope x := by first | exact Or.inl rfl | exact Or.inr (Or.inl rfl) | exact Or.inr (Or.inr rfl)) (hd : (x == ("__debug__" : Str)) = false := by decide) (hcd : (x == ("__classdict__" : Str)) = false := by decide)
    (hg : Gl X "enumerate" := by rfl) (hs : starEach [.Name x p2] X.env = [(false, eval (.Name x p2) X.env)] := by rfl) : VI X G (.Tuple elts kk tp) (.Call (.Name "enumerate" p) [.Name x p2] [] pos) (enumD ds) := fun S0 H0 σ H S p Q q => by
  obtain ⟨v, h1, ⟨l, xs, rfl, e1, d1⟩, _⟩ := p.slot i _ hG
  refine wI.of (pi_enum hg hm (pa_cons (pe_var hN hv hd hcd) pa_nil hs) hs) ⟨_, h1, l, xs, rfl, .of (p.ext.hh _ _ e1), ?_⟩
  exact q _ H0 H S (Gx.refl p.s0) (itok_enum e1 d1) fun H' S' hh _ _ => hh
theorem vim_enum {elts : List Expr} {kk : Nat} {tp : Pos} (hm : X.mg "enumerate" = none) (h : VE X G e r) (hr : r.asL = some ds) (hg : Gl X "enumerate" := by rfl) (hs : starEach [e] X.env = [(false, eval e X.env)] := by rfl) : VIm X G (.Tuple elts kk tp) (.Call (.Name "enumerate" p) [e] [] pos) (enumD ds) :=
  fun S0 H0 σ H S p Q q => wI.of (pi_enum hg hm (pa_cons pe_w pa_nil hs) hs) (h.2 S0 H0 σ H S p _ fun v H1 S1 g k => by
    obtain ⟨l, xs, rfl, e1, d1⟩ := k.asL hr h.1 g.sh
    exact ⟨l, xs, rfl, .of e1, q _ H1 H1 S1 g (itok_enum e1 d1) (Same.refl _)⟩)
def zipD (ds es : List D) : List D := List.zipWith (fun x y => .tup [x, y]) ds es
theorem itok_zip {A S1 : Hp} {K : PySem.W.Frag} {l m : Addr} {xs ys : List V} (h : A l = some (.lst xs)) (hd : DenAll S1 ds xs) (h' : A m = some (.lst ys)) (hd' : DenAll S1 es ys) : ItOk A S1 (Itz K l m) (zipD ds es) := fun i H S sa ss sh => by
  have q : SqL K H l xs := .of (sa _ _ h)
  have q' : SqL K H m ys := .of (sa _ _ h')
  have hl := hd.len
  have hl' := hd'.len
  have hl2 : (zipD ds es).length = min ds.length es.length := by unfold zipD; rw [List.length_zipWith]
  refine ⟨fun hi => ⟨⟨xs, ys, xs[i]'(by omega), ys[i]'(by omega), q, q', by simp [show i < xs.length by omega], by simp [show i < ys.length by omega]⟩, fun x H' y => ?_⟩, fun hi => ⟨xs, ys, q, q', by omega⟩⟩
  obtain ⟨T, x0, y0, rfl, hT, rfl, y, y'⟩ := y
  obtain ⟨d, e, k⟩ := hd.at' (y xs q)
  obtain ⟨d', e', k'⟩ := hd'.at' (y' ys q')
  have g : Gx S H (upd S T (.tup [x0, y0])) (upd H T (.tup [x0, y0])) := Gx.newS sh hT
  refine ⟨_, .tup [d, d'], g, ?_, .tup upd_same (.cons (Den.mono (ss.trans g.ss) k) (.cons (Den.mono (ss.trans g.ss) k') .nil))⟩
  unfold zipD
  rw [List.getElem?_zipWith, e, e']
theorem vi_zip {elts : List Expr} {kk : Nat} {tp : Pos} (hm : X.mg "zip" = none) (h : VE X G a (.sh (.lst ds))) (h' : VE X G b (.sh (.lst es))) (hg : Gl X "zip" := by rfl) (hs : starEach [a, b] X.env = (false, eval a X.env) :: starEach [b] X.env := by rfl)
    (hs2 : starEach [b] X.env = (false, eval b X.env) :: starEach [] X.env := by rfl) (hpl : (backTo pos (starEach [b] X.env)).any (·.1) = false := by rfl) : VI X G (.Tuple elts kk tp) (.Call (.Name "zip" p) [a, b] [] pos) (zipD ds es) :=
  fun S0 H0 σ H S p Q q => wI.of (pi_zip hg hm (pa_cons pe_w (pa_cons pe_w pa_nil hs2) hs) hs hpl) (h.2 S0 H0 σ H S p _ fun v H1 S1 g k => h'.2 S0 H0 σ H1 S1 (p.step g) _ fun v' H2 S2 g2 k2 => by
    obtain ⟨l, xs, rfl, e1, d1⟩ := den_lst.mp k
    obtain ⟨m, ys, rfl, e2, d2⟩ := den_lst.mp k2
    have g' := g.trans g2
    exact ⟨l, m, xs, ys, rfl, .of (g2.sh _ _ (g2.ss _ _ e1)), .of (g2.sh _ _ e2), q _ S2 H2 S2 g' (itok_zip (g2.ss _ _ e1) (DenAll.mono g2.ss d1) e2 d2) fun H' S' _ ss sh => ss.trans sh⟩)
theorem vim_zip {elts : List Expr} {kk : Nat} {tp : Pos} (hm : X.mg "zip" = none) (h : VE X G a ra) (hr : ra.asL = some ds) (h' : VE X G b rb) (hr' : rb.asL = some es) (hg : Gl X "zip" := by rfl) (hs : starEach [a, b] X.env = (false, eval a X.env) :: starEach [b] X.env := by rfl)
    (hs2 : starEach [b] X.env = (false, eval b X.env) :: starEach [] X.env := by rfl) (hpl : (backTo pos (starEach [b] X.env)).any (·.1) = false := by rfl) : VIm X G (.Tuple elts kk tp) (.Call (.Name "zip" p) [a, b] [] pos) (zipD ds es) :=
  fun S0 H0 σ H S p Q q => wI.of (pi_zip hg hm (pa_cons pe_w (pa_cons pe_w pa_nil hs2) hs) hs hpl) (h.2 S0 H0 σ H S p _ fun v H1 S1 g k => h'.2 S0 H0 σ H1 S1 (p.step g) _ fun v' H2 S2 g2 k2 => by
    obtain ⟨l, xs, rfl, e1, d1⟩ := k.asL hr h.1 g.sh
    obtain ⟨m, ys, rfl, e2, d2⟩ := k2.asL hr' h'.1 g2.sh
    exact ⟨l, m, xs, ys, rfl, .of (g2.hh _ _ e1), .of e2, q _ H2 H2 S2 (g.trans g2) (itok_zip (g2.hh _ _ e1) (DenAll.mono g2.ss d1) e2 d2) (Same.refl _)⟩)
end

/-! ### loops -/
theorem Gx.under {S0 H0 S1 H1 S H : Hp} (g : Gx S0 H0 S1 H1) (k : Gx S1 H0 S H) : Gx S0 H0 S H := ⟨g.ss.trans k.ss, k.hh, k.sh, fun a ha => (k.fr a ha).trans (g.fr a ha)⟩
theorem Rep.up {S0 H0 : Hp} {G : Gm} {σ : L2.St} {H S : Hp} (p : Rep S0 H0 G σ H S) : Rep S H0 G σ H S := ⟨⟨Same.refl _, p.ext.hh, p.s0, fun _ _ => rfl⟩, p.len, p.slot, p.sep⟩
theorem Rep.under {S0 H0 S1 H1 : Hp} {G : Gm} {σ : L2.St} {H S : Hp} (g : Gx S0 H0 S1 H1) (p : Rep S1 H0 G σ H S) : Rep S0 H0 G σ H S := ⟨g.under p.ext, p.len, p.slot, p.sep⟩
theorem OkV.up {S0 H0 S1 H1 : Hp} {V : EndV} {D : Ends} {E : XK} (g : Gx S0 H0 S1 H1) (ok : OkV S0 H0 V D E) : OkV S1 H0 V D E :=
  ⟨fun G σ H S h p => ok.nx G σ H S h (p.under g), fun r v H S h k m => ok.rt r v H S h (g.under k) m, fun G σ H S h p => ok.bk G σ H S h (p.under g), fun G σ H S h p => ok.ct G σ H S h (p.under g), fun x d H S h k m => ok.ex x d H S h (g.under k) m⟩
section
variable {X : Cx} {G : Gm} {pos p : Pos} {tg iter c e : Expr} {body : List Stmt} {ds : List D} {V : EndV}
theorem vs_for (gd : Good X) (I : Nat → Gm → Prop) (hi : VI X G tg iter ds) (h0 : I 0 G)
    (hs : ∀ i d G', ds[i]? = some d → I i G' → ∃ ts, VGw X G' tg d ts fun G2 => VSs X G2 body { nx := I (i + 1), ct := I (i + 1), bk := V.nx, rt := V.rt, ex := V.ex })
    (hd : ∀ G', I ds.length G' → V.nx G') (hf : ∀ x, foldedSetIterable iter X.env x = pure x := by intro _; rfl) : VS X G (.For tg iter body [] pos) V := fun S0 H0 σ H S D E tk p ok => by
  refine wS.of (ps_for gd.ps gd.calm pi_w pg_w pss_w hf) (hi S0 H0 σ H S p _ fun J A H1 S1 g io st => ?_)
  have p1 := p.step g
  have ok1 : OkV S1 H0 V D E := ok.up p1.ext
  refine ⟨fun i m σ H => m = ds.length - i ∧ i ≤ ds.length ∧ ∃ G' S, Rep S1 H0 G' σ H S ∧ I i G', ⟨ds.length, by simp, Nat.zero_le _, G, S1, p1.up, h0⟩, ?_⟩
  rintro i m σ' H' ⟨rfl, hi, G', S', p', hI⟩
  obtain ⟨go, stop⟩ := io i H' S' (st H' S' p'.ext.hh p'.ext.ss p'.s0) p'.ext.ss p'.s0
  by_cases hl : i < ds.length
  · obtain ⟨g1, yl⟩ := go hl
    refine .inr ⟨g1, fun σ H => ∃ G S, Rep S1 H0 G σ H S ∧ I (i + 1) G, fun σ2 H2 q => ?_, fun x H2 y => ?_⟩
    · obtain ⟨G2, S2, q1, q2⟩ := q
      exact ⟨ds.length - (i + 1), by omega, rfl, hl, G2, S2, q1, q2⟩
    · obtain ⟨S2, d, g2, e, hd'⟩ := yl x H2 y
      obtain ⟨ts, hv⟩ := hs i d G' e hI
      exact hv S1 H0 σ' H2 S2 x (p'.step g2) hd' _ fun G3 σ3 k p3 _ => k S1 H0 σ3 H2 S2 _ E tk p3 ⟨fun G4 σ4 H4 S4 q p4 => ⟨G4, S4, p4, q⟩, ok1.rt, ok1.nx, fun G4 σ4 H4 S4 q p4 => ⟨G4, S4, p4, q⟩, ok1.ex⟩
  · have e : i = ds.length := by omega
    subst e
    exact .inl ⟨stop rfl, ok1.nx G' σ' H' S' (hd G' hI) p'⟩
theorem vs_while (gd : Good X) (I : Nat → Gm → Prop) {m0 : Nat} (h0 : I m0 G)
    (hs : ∀ m G', I m G' → ∃ k, VT X G' c k ∧ (k = true → VSs X G' body { nx := fun G2 => ∃ m', m' < m ∧ I m' G2, ct := fun G2 => ∃ m', m' < m ∧ I m' G2, bk := V.nx, rt := V.rt, ex := V.ex }) ∧ (k = false → V.nx G')) : VS X G (.While c body [] pos) V := fun S0 H0 σ H S D E tk p ok => by
  refine wS.of (ps_while gd.ps pt_w pss_w) ⟨fun m σ H => ∃ G' S, Rep S0 H0 G' σ H S ∧ I m G', ⟨m0, G, S, p, h0⟩, ?_⟩
  rintro m σ' H' ⟨G', S', p', hI⟩
  obtain ⟨k, ht, h1, h2⟩ := hs m G' hI
  refine ht S0 H0 σ' H' S' p' _ fun H1 S1 g => ?_
  cases k with
  | true =>
    refine iteT ⟨fun σ H => ∃ m', m' < m ∧ ∃ G S, Rep S0 H0 G σ H S ∧ I m' G, fun _ _ q => q, ?_⟩
    exact h1 rfl S0 H0 σ' H1 S1 _ E tk (p'.step g) ⟨fun G4 σ4 H4 S4 ⟨m', l, q⟩ p4 => ⟨m', l, G4, S4, p4, q⟩, ok.rt, ok.nx, fun G4 σ4 H4 S4 ⟨m', l, q⟩ p4 => ⟨m', l, G4, S4, p4, q⟩, ok.ex⟩
  | false => exact iteF (ok.nx G' σ' H1 S1 (h2 rfl) (p'.step g))
end

/-! ### list comprehensions -/
abbrev bk (X : Cx) (scope : Scope) (s : Shared) (H : Hp) (C : Addr) (cl : List (Str × Addr)) (fp : List Addr) : Cx := X.blk s H scope (compEnvC scope cl C X.env) fp
theorem Good.bk {X : Cx} (gd : Good X) {scope : Scope} {s : Shared} {H : Hp} {C : Addr} {cl : List (Str × Addr)} {fp : List Addr} : Good (bk X scope s H C cl fp) := ⟨gd.calm, gd.nd, PassesOwn.never, gd.un⟩
section
variable {X : Cx} {G : Gm} {pos p : Pos} {tg iter c e elt : Expr} {ifs : List Expr} {ds : List D} {scope : Scope} {own : List (Str × Nat)} {ts vs : List Nat}
theorem vts_nil : VTs X G [] true := fun S0 H0 σ H S p Q q => wTs.of pts_nil (q H S (Gx.refl p.s0))
theorem vts_one {k : Bool} (h : VT X G c k) : VTs X G [c] k := fun S0 H0 σ H S p Q q => wTs.of (pts_one pt_w) (h S0 H0 σ H S p Q q)
def wbG (X : Cx) (scope : Scope) (tg : Expr) : TG := fun v σ H Q => ∀ s H' C cl fp, wG (bk X scope s H' C cl fp) tg v σ H Q
def wbT (X : Cx) (scope : Scope) (ifs : List Expr) : TT := fun σ H Q => ∀ s H' C cl fp, wTs (bk X scope s H' C cl fp) ifs σ H Q
def wbE (X : Cx) (scope : Scope) (e : Expr) : TE := fun σ H Q => ∀ s H' C cl fp, wE (bk X scope s H' C cl fp) e σ H Q
/-- what the block does with each item: F: the new item, if there is one -/
def VB (X : Cx) (G : Gm) (scope : Scope) (vs : List Nat) (tg : Expr) (ifs : List Expr) (elt : Expr) (ds : List D) (F : D → Option D) : Prop :=
  ∀ (i : Nat) d, ds[i]? = some d → ∃ Gd ts, (∀ t ∈ ts, t ∈ vs) ∧ (∀ s H C cl fp, VGw (bk X scope s H C cl fp) (wipeG G vs) tg d ts (· = Gd)) ∧ (∀ s H C cl fp, VTs (bk X scope s H C cl fp) Gd ifs (F d).isSome) ∧ ∀ d', F d = some d' → ∀ s H C cl fp, VE (bk X scope s H C cl fp) Gd elt (.sh d')
theorem lc_read {F : D → Option D} (hi : VIm X G tg iter ds) (hz : ds.length ≤ sizeLine) (hb : VB X G scope vs tg ifs elt ds F) {S0 H0 H S : Hp} {σ : L2.St} (p : Rep S0 H0 G σ H S) {Q : VK} (q : ∀ v H' S', Gx S H S' H' → Hd H S' H' v (.ow (ds.filterMap F)) → Q v H') :
    tLc (wI X tg iter) (wbG X scope tg) (wbT X scope ifs) (wbE X scope elt) vs σ H Q := by
  refine hi S0 H0 σ H S p _ fun J A H1 S1 g io st Dl hD => ?_
  let Pv : Nat → Hp → Prop := fun i H => ∃ S acc, Gx S1 H1 S H ∧ S Dl = none ∧ H Dl = some (.lst acc) ∧ DenAll S ((ds.take i).filterMap F) acc
  have hS1 : S1 Dl = none := Same.free g.sh hD
  refine ⟨fun i m H => m = ds.length - i ∧ i ≤ ds.length ∧ Pv i H, ⟨ds.length, by simp, Nat.zero_le _, S1, [], Gx.new g.sh hD, hS1, upd_same, .nil⟩, ?_⟩
  rintro i m H' ⟨rfl, hi, S', acc, g', hS', hA, hd⟩
  obtain ⟨go, stop⟩ := io i H' S' (st.trans g'.hh) g'.ss g'.sh
  by_cases hl : i < ds.length
  · obtain ⟨g1, yl⟩ := go hl
    refine .inr ⟨g1, Pv (i + 1), fun H2 q2 => ⟨ds.length - (i + 1), by omega, rfl, hl, q2⟩, fun x H2 y => ?_⟩
    obtain ⟨S2, d, g2, e, hx⟩ := yl x H2 y
    obtain ⟨Gd, ts, hts, hv, ht, he⟩ := hb i d e
    have tk : (ds.take (i + 1)).filterMap F = (ds.take i).filterMap F ++ (F d).toList := by
      rw [List.take_add_one, e, List.filterMap_append]
      cases hF : F d <;> simp [hF]
    intro s Hb C cl fp
    refine hv s Hb C cl fp S0 H0 _ H2 S2 x ((((p.step g).step g').step g2).wipe vs) hx _ fun G' σ' eG p' wp => ?_
    subst eG
    refine ⟨(wp vs hts).trans (wipe_idem vs σ), ?_⟩
    intro s Hb C cl fp
    refine ht s Hb C cl fp S0 H0 σ' H2 S2 p' _ fun H3 S3 g3 => ?_
    cases hF : F d with
    | none =>
      refine iteF ⟨S3, acc, (g'.trans g2).trans g3, ?_, (g2.trans g3).hh _ _ hA, ?_⟩
      · rw [(g2.trans g3).fr Dl (by rw [hA]; intro z; cases z)]; exact hS'
      · rw [tk, hF]
        simp only [Option.toList, List.append_nil]
        exact DenAll.mono (g2.trans g3).ss hd
    | some d' =>
      refine iteT ?_
      intro s Hb C cl fp
      refine (he d' hF s Hb C cl fp).2 S0 H0 σ' H3 S3 (p'.step g3) _ fun v H4 S4 g4 m => ?_
      have g24 := (g2.trans g3).trans g4
      have hS4 : S4 Dl = none := by rw [g24.fr Dl (by rw [hA]; intro z; cases z)]; exact hS'
      have hlen : acc.length ≤ i := by
        rw [← hd.len]
        refine Nat.le_trans (List.length_filterMap_le _ _) ?_
        rw [List.length_take]
        exact Nat.min_le_left _ _
      refine ⟨acc, g24.hh _ _ hA, by omega, S4, acc ++ [v], ?_, hS4, upd_same, ?_⟩
      · have gg := g'.trans g24
        exact ⟨gg.ss, fun b u z => by rw [upd_ne (ne_of_none z hD)]; exact gg.hh b u z, fun b u z => by rw [upd_ne (ne_of_none z hS4)]; exact gg.sh b u z, gg.fr⟩
      · rw [tk, hF]
        exact (DenAll.mono g24.ss hd).append (.cons m .nil)
  · have e : i = ds.length := by omega
    subst e
    refine .inl ⟨stop rfl, q _ H' S' (g.trans g') ⟨Dl, acc, rfl, g.gone hD, hS', hA, ?_⟩⟩
    rw [List.take_length] at hd
    exact hd
theorem ve_lc (gd : Good X) {F : D → Option D} (own : List (Str × Nat)) (hi : VIm X G tg iter ds) (ok : BlkOk X.N X.env.scope scope own) (hb : VB X G scope (own.map (·.2)) tg ifs elt ds F) (hz : ds.length ≤ sizeLine)
    (hs : ∀ x, foldedSetIterable iter X.env x = pure x := by intro _; rfl) : VE X G (.ListComp elt [⟨tg, iter, ifs, 0⟩] scope pos) (.ow (ds.filterMap F)) :=
  ⟨rfl, fun S0 H0 σ H S p Q q => wE.of (pe_lc gd.calm gd.nd pi_w ok (fun s H C cl fp => ⟨fun pins s' σ H v u Q I r h => h s _ C cl fp pins s' u I r⟩) (fun s H C cl fp => ⟨fun pins s' σ H Q I h => h s _ C cl fp pins s' I⟩) (fun s H C cl fp => ⟨fun pins s' σ H Q I h => h s _ C cl fp pins s' I⟩) hs) (lc_read hi hz hb p q)⟩
/-- y = [..] -/
theorem vs_lc (gd : Good X) {V : EndV} {F : D → Option D} (i : Nat) {y : Str} {py spos : Pos} (own : List (Str × Nat)) (hi : VIm X G tg iter ds) (ok : BlkOk X.N X.env.scope scope own) (hb : VB X G scope (own.map (·.2)) tg ifs elt ds F) (hz : ds.length ≤ sizeLine) (k : V.nx (G.set i (some (.ow (ds.filterMap F)))))
    (hy : X.N[i]? = some y := by rfl) (hyl : X.env.scope.names.lookup y = some .local := by rfl) (hsw : swapsWith (.ListComp elt [⟨tg, iter, ifs, 0⟩] scope pos) (some (.Name y py)) spos.line X.env = pure true := by exact sw_true rfl rfl rfl (by decide +kernel))
    (hs : ∀ x, foldedSetIterable iter X.env x = pure x := by intro _; rfl) : VS X G (.Assign [.Name y py] (.ListComp elt [⟨tg, iter, ifs, 0⟩] scope pos) spos) V := fun S0 H0 σ H S D E tk p ok' =>
  wS.of (ps_setLc gd.calm gd.nd hy hyl hsw pi_w ok (fun s H C cl fp => ⟨fun pins s' σ H v u Q I r h => h s _ C cl fp pins s' u I r⟩) (fun s H C cl fp => ⟨fun pins s' σ H Q I h => h s _ C cl fp pins s' I⟩) (fun s H C cl fp => ⟨fun pins s' σ H Q I h => h s _ C cl fp pins s' I⟩) hs)
    (lc_read hi hz hb p fun v H1 S1 g m => ok'.nx _ _ H1 S1 k (p.setO g m))
end
end VL

-- VL6
set_option Elab.async false
set_option linter.all false
set_option autoImplicit false
set_option maxRecDepth 100000
set_option maxHeartbeats 4000000
namespace VL
open PySem PySem.Spec L2
open PyProof.Rows (envOfC)
/-- a def that may be called wherever there is room -/
def Cl (P : Program) (w : World) (K : PySem.W.Frag) (mg : Str → Option Value) (base : Heap) (j : Nat) (x : Str) (sp : VSpec) : Prop := ∃ f fd ps, FnV P w K mg base j f fd ps sp ∧ mg x = some (.ref f) ∧ PySem.W.keepIn K (.ref f) = true ∧ Binds K fd ps []
theorem Cl.cal {X : Cx} {j k : Nat} {x : Str} {sp : VSpec} (c : Cl X.prog X.w X.K X.mg X.base j x sp) (hr : Room k X.A) (h : j ≤ k := by decide) : Cal X x sp := by
  obtain ⟨f, fd, ps, F, hm, hk, hb⟩ := c
  exact ⟨j, f, fd, ps, F, hr.mono h, hm, hk, hb⟩
/-! ### short forms -/
section
variable {X : Cx} {G : Gm} {pos p p2 : Pos} {a b e : Expr} {r ra rb : R} {ds : List D}
theorem ve_len (ml : X.mg "len" = none) (h : VE X G e r) (hr : r.asL = some ds) (hg : Gl X "len" := by rfl) (he : starEach [e] X.env = (false, eval e X.env) :: starEach [] X.env := by rfl) (hpl : (backTo pos (starEach [] X.env)).any (·.1) = false := by rfl) :
    VE X G (.Call (.Name "len" p) [e] [] pos) (.sh (.int ds.length)) := ve_callB call_len_seq PySem.boot_len hg ml (cr_lenL h.1 hr) (va_cons h va_nil (fun _ z => nomatch z) he) (by decide) (by decide) he hpl
theorem ve_lenT (ml : X.mg "len" = none) (h : VE X G e (.sh (.tup ds))) (hg : Gl X "len" := by rfl) (he : starEach [e] X.env = (false, eval e X.env) :: starEach [] X.env := by rfl) (hpl : (backTo pos (starEach [] X.env)).any (·.1) = false := by rfl) :
    VE X G (.Call (.Name "len" p) [e] [] pos) (.sh (.int ds.length)) := ve_callB call_len_seq PySem.boot_len hg ml cr_lenT (va_cons h va_nil (fun _ z => nomatch z) he) (by decide) (by decide) he hpl
theorem ve_lenS {z : Str} (ml : X.mg "len" = none) (h : VE X G e (.sh (.str z))) (hz : z.length ≤ sizeLine) (hg : Gl X "len" := by rfl) (he : starEach [e] X.env = (false, eval e X.env) :: starEach [] X.env := by rfl) (hpl : (backTo pos (starEach [] X.env)).any (·.1) = false := by rfl) :
    VE X G (.Call (.Name "len" p) [e] [] pos) (.sh (.int z.length)) := ve_callB call_len_str PySem.boot_len hg ml (cr_lenS hz) (va_cons h va_nil (fun _ z => nomatch z) he) (by decide) (by decide) he hpl
theorem ve_list (ml : X.mg "list" = none) (h : VE X G e r) (hr : r.asL = some ds) (hg : Gl X "list" := by rfl) (he : starEach [e] X.env = (false, eval e X.env) :: starEach [] X.env := by rfl) (hpl : (backTo pos (starEach [] X.env)).any (·.1) = false := by rfl) :
    VE X G (.Call (.Name "list" p) [e] [] pos) (.ow ds) := ve_callTy call_list_of (by decide +kernel) hg ml (cr_list h.1 hr) (va_cons h va_nil (fun _ z => nomatch z) he) (by decide) (by decide) he hpl
theorem ve_tuple (ml : X.mg "tuple" = none) (h : VE X G e r) (hr : r.asL = some ds) (hg : Gl X "tuple" := by rfl) (he : starEach [e] X.env = (false, eval e X.env) :: starEach [] X.env := by rfl) (hpl : (backTo pos (starEach [] X.env)).any (·.1) = false := by rfl) :
    VE X G (.Call (.Name "tuple" p) [e] [] pos) (.sh (.tup ds)) := ve_callTy call_tuple_of (by decide +kernel) hg ml (cr_tuple h.1 hr) (va_cons h va_nil (fun _ z => nomatch z) he) (by decide) (by decide) he hpl
theorem ve_intI {i : Int} (ml : X.mg "int" = none) (h : VE X G e (.sh (.int i))) (hg : Gl X "int" := by rfl) (he : starEach [e] X.env = (false, eval e X.env) :: starEach [] X.env := by rfl) (hpl : (backTo pos (starEach [] X.env)).any (·.1) = false := by rfl) :
    VE X G (.Call (.Name "int" p) [e] [] pos) (.sh (.int i)) := ve_callTy call_int1 (by decide +kernel) hg ml cr_int (va_cons h va_nil (fun _ z => nomatch z) he) (by decide) (by decide) he hpl
theorem ve_intB {i : Bool} (ml : X.mg "int" = none) (h : VE X G e (.sh (.bl i))) (hg : Gl X "int" := by rfl) (he : starEach [e] X.env = (false, eval e X.env) :: starEach [] X.env := by rfl) (hpl : (backTo pos (starEach [] X.env)).any (·.1) = false := by rfl) :
    VE X G (.Call (.Name "int" p) [e] [] pos) (.sh (.int (if i then 1 else 0))) := ve_callTy call_int1 (by decide +kernel) hg ml cr_intB (va_cons h va_nil (fun _ z => nomatch z) he) (by decide) (by decide) he hpl
theorem ve_min1 {ns : List Int} {m : Int} (gd : Good X) (ml : X.mg "min" = none) (h : VE X G e r) (hr : r.asL = some (ns.map D.int)) (hm : m ∈ ns) (hl : ∀ y ∈ ns, m ≤ y) (hg : Gl X "min" := by rfl) (he : starEach [e] X.env = (false, eval e X.env) :: starEach [] X.env := by rfl) (hpl : (backTo pos (starEach [] X.env)).any (·.1) = false := by rfl) :
    VE X G (.Call (.Name "min" p) [e] [] pos) (.sh (.int m)) := ve_callB (cr_min gd.calm) (by decide +kernel) hg ml (crv_min h.1 hr hm hl) (va_cons h va_nil (fun _ z => nomatch z) he) (by decide) (by decide) he hpl
theorem ve_max1 {ns : List Int} {m : Int} (gd : Good X) (ml : X.mg "max" = none) (h : VE X G e r) (hr : r.asL = some (ns.map D.int)) (hm : m ∈ ns) (hl : ∀ y ∈ ns, y ≤ m) (hg : Gl X "max" := by rfl) (he : starEach [e] X.env = (false, eval e X.env) :: starEach [] X.env := by rfl) (hpl : (backTo pos (starEach [] X.env)).any (·.1) = false := by rfl) :
    VE X G (.Call (.Name "max" p) [e] [] pos) (.sh (.int m)) := ve_callB (cr_max gd.calm) (by decide +kernel) hg ml (crv_max h.1 hr hm hl) (va_cons h va_nil (fun _ z => nomatch z) he) (by decide) (by decide) he hpl
theorem ve_min2 {i j : Int} (gd : Good X) (ml : X.mg "min" = none) (ha : VE X G a (.sh (.int i))) (hb : VE X G b (.sh (.int j))) (hg : Gl X "min" := by rfl) (he : starEach [a, b] X.env = (false, eval a X.env) :: starEach [b] X.env := by rfl) (he2 : starEach [b] X.env = (false, eval b X.env) :: starEach [] X.env := by rfl)
    (hpl : (backTo pos (starEach [b] X.env)).any (·.1) = false := by rfl) : VE X G (.Call (.Name "min" p) [a, b] [] pos) (.sh (.int (if j < i then j else i))) := ve_callB (call_min2 gd.calm) (by decide +kernel) hg ml cr_min2 (va_cons ha (va_cons hb va_nil (fun _ z => nomatch z) he2) (by simp [R.isEn]) he) (by decide) (by decide) he hpl
/-- isinstance(e, T), T a built-in class -/
theorem ve_isi {T : String} {k : Bool} {TN : Str} (mi : X.mg "isinstance" = none) (mT : X.mg TN = none) (hT : bootBuiltins TN = some (.type T)) (h : VE X G e r) (hp : r.d.pl = true ∨ ∃ b, r.d = .byt b) (hk : PySem.W.kitOne X.K (.type r.d.ty) (.type T) = some k) (hgT : Gl X TN := by rfl) (hg : Gl X "isinstance" := by rfl)
    (hn : TN ≠ "__name__" := by decide) (hd : (TN == ("__debug__" : Str)) = false := by decide) (he : starEach [e, .Name TN p2] X.env = (false, eval e X.env) :: starEach [.Name TN p2] X.env := by rfl)
    (he2 : starEach [.Name TN p2] X.env = (false, eval (.Name TN p2) X.env) :: starEach [] X.env := by rfl) (hpl : (backTo pos (starEach [.Name TN p2] X.env)).any (·.1) = false := by rfl) :
    VE X G (.Call (.Name "isinstance" p) [e, .Name TN p2] [] pos) (.sh (.bl k)) :=
  ve_callB call_isi (by decide +kernel) hg mi (cr_isi h.1 hp hk) (va_cons h (va_cons (ve_bltn (v := .ty T) hgT mT hT rfl hn hd) va_nil (fun _ z => nomatch z) he2) (by simp [R.isEn]) he) (by decide) (by decide) he hpl
end
section
variable {X : Cx} {G : Gm} {pos p : Pos} {c e : Expr} {ds : List D} {d : D} {V : EndV}
theorem set_self {α : Type} : ∀ {l : List α} {i : Nat} {a : α}, l[i]? = some a → l.set i a = l
  | [], _, _, h => by cases h
  | b :: l, 0, a, h => by cases h; rfl
  | b :: l, i + 1, a, h => congrArg (b :: ·) (set_self (l := l) (by simpa using h))
/-- if c: xs.append(e) -/
theorem vs_ifapp {k : Bool} (i : Nat) {x : Str} {p2 : Pos} {apos cpos : Pos} (hc : VT X G c k) (hG : G[i]? = some (some (.ow ds))) (h : k = true → VE X G e (.sh d)) (hz : ds.length < sizeLine) (kk : V.nx (G.set i (some (.ow (ds ++ if k then [d] else []))))) (hN : X.N[i]? = some x := by rfl)
    (hv : Vis X.env.scope x := by first | exact Or.inl rfl | exact Or.inr (Or.inl rfl) | exact Or.inr (Or.inr rfl)) (hd : (x == ("__debug__" : Str)) = false := by decide) (hcd : (x == ("__classdict__" : Str)) = false := by decide)
    (hs : swapsWith (.Call (.Attribute (.Name x p2) "append" apos) [e] [] cpos) none p.line X.env = pure false := by rfl) (hbase : attributeBase (.Name x p2) "append" X.env (eval (.Name x p2) X.env) = eval (.Name x p2) X.env := by rfl)
    (hfew : ((backTo cpos (starEach [e] X.env)).all (fun x => !x.1) && (backToKw cpos (keywordEach [] X.env)).all (fun x => x.1.isSome) && decide ([e].length + ([] : List Keyword).length + (if ([] : List Keyword).isEmpty then 0 else 1) < 30)) = true := by rfl)
    (hline : (apos.endLine == cpos.line) = true := by rfl) (he : starEach [e] X.env = (false, eval e X.env) :: starEach [] X.env := by rfl) (hplain : (backTo cpos (starEach [] X.env)).any (·.1) = false := by rfl) :
    VS X G (.If c [.Expr (.Call (.Attribute (.Name x p2) "append" apos) [e] [] cpos) p] [] pos) V := by
  refine vs_if hc (fun hk => ?_) fun hk => ?_
  · subst hk
    exact vss_one (vs_app i hG (h rfl) hz kk hN hv hd hcd hs hbase hfew hline he hplain)
  · subst hk
    have e : ds ++ (if (false : Bool) = true then [d] else []) = ds := List.append_nil _
    rw [e, set_self hG] at kk
    exact vss_nil kk
end
theorem fm_map {α β : Type} {f : α → Option β} {g : α → β} : ∀ {l : List α}, (∀ a ∈ l, f a = some (g a)) → l.filterMap f = l.map g
  | [], _ => rfl
  | a :: l, h => by
    rw [List.filterMap_cons, h a List.mem_cons_self, List.map_cons, fm_map fun b hb => h b (List.mem_cons_of_mem _ hb)]
theorem kit_ty {K : PySem.W.Frag} {a b : String} {k : Bool} (h : PySem.W.kitOne K (.type a) (.type b) = some k) : PySem.W.kitOne K (.type a) (.type b) = some k := h
end VL

-- VLX
set_option Elab.async false
set_option linter.all false
set_option autoImplicit false
set_option maxRecDepth 100000
set_option maxHeartbeats 4000000
/-! an own error over ValueError, by way of another own class, whose __init__ says super().__init__(f); self.f = f -/
namespace PySem
namespace Ink
open PySem.W PySem.Calls PyProof.Rows PySem.HandSPX
def iA (f : Str) (p1 p2 : Pos) : Arguments := ⟨[], [⟨"self", none, p1⟩, ⟨f, none, p2⟩], none, [], [], none, []⟩
def iB (f : Str) (p0 p1 p2 p3 p4 p5 q1 q2 q3 q4 : Pos) : List Stmt := [.Expr (.Call (.Attribute (.Call (.Name "super" p0) [] [] p1) "__init__" p2) [.Name f p3] [] p4) p5, .Assign [.Attribute (.Name "self" q1) f q2] (.Name f q3) q4]
def iS (f : Str) : Scope := { kind := .function, names := [("self", .local), (f, .local), ("__class__", .free), ("super", .globalImplicit)], isGenerator := false, isCoroutine := false, more := [] }
/-- the field's name is no other name of the def -/
structure FOk (f : Str) : Prop where
  a : (f == ("self" : Str)) = false
  b : (("self" : Str) == f) = false
  c : (("super" : Str) == f) = false
  d : (("__class__" : Str) == f) = false
  e : (f == ("__debug__" : Str)) = false
  g : (f == ("__classdict__" : Str)) = false
/-- what the written part says of the class at C and of its __init__ at fI -/
structure InkTxt (prog : Program) (K : Frag) (C fI : Addr) (f qual : Str) : Prop where
  fok : FOk f
  cls : ∃ nm q N bs bm sn sub ab col dd k0 k1 k2 k3 k5, K.lookup C = some (excClassObj nm q C N bs bm true sn sub ab col dd k0 k1 k2 k3 k5 "ValueError.__new__") ∧ refsVE bm = true
  sa : findIn K (.ref C) "__setattr__" = some (some (.builtin "object.__setattr__"))
  noN : findIn K (.ref C) f = some none
  iC : findIn K (.ref C) "__init__" = some (some (.ref fI))
  tC : typeIn K (.ref fI) = some (.type "function")
  kC : keepIn K (.ref C) = true
  tyC : typeIn K (.ref C) = some (.type "type")
  veC : subIn K (.ref C) (.type "ValueError") = some true
  xf : L2.XfC K C
  sup : ks_superIn K C C "__init__" = some (some (.builtin "ValueError.__init__"))
  op : nsIn K cStatics "thirdparty.any" = some none
  ms : nsIn K mainGlobals "super" = some none
  msp : (prog.main.scope.names.lookup ("super" : Str)).isSome = false
  fn : ∃ (oc : Value) (od : Option Addr) (kV doc pm : Value) (an : Option Addr) (cda cc : Addr) (ct : Value) (osl : Array (Option Value)) (p1 p2 q0 q1 q2 q3 q4 q5 q6 q7 q8 q9 : Pos) (ccl : Value) (cdd : Option Addr) (vs : Array Value) (ccs : Array (Option Value)) (file : Str) (tf : Tok) (cl : Value) (cld : Option Addr) (csl : Array (Option Value)),
    K.lookup fI = some ⟨oc, od, .func (ksFn "__init__" qual (iA f p1 p2) (iB f q0 q1 q2 q3 q4 q5 q6 q7 q8 q9) (iS f) .none kV doc pm an (.ref cda) ct cc), osl⟩ ∧ codeIn K (.ref cda) qual = true ∧
      K.lookup cda = some ⟨ccl, cdd, .fields vs, ccs⟩ ∧ vs[2]? = some (.str file tf) ∧ ((prog.main.file : Str) == file) = true ∧ K.lookup cc = some ⟨cl, cld, .cell (some (.ref C)), csl⟩ ∧ (q2.endLine == q4.line) = true ∧
      ∀ a b : Value, bindArgs (ksFn "__init__" qual (iA f p1 p2) (iB f q0 q1 q2 q3 q4 q5 q6 q7 q8 q9) (iS f) .none kV doc pm an (.ref cda) ct cc) ⟨[a, b], []⟩ = pure [((PySem.Str.ofString "self" : Str), a), (f, b)]
theorem one_small (v : Value) : [v].length ≤ sizeLine := by rw [sizeLine_eq]; exact (by decide : 1 ≤ 16777216)
theorem he_one {o : Expr} {name f : Str} {apos p3 pos : Pos} {env : Env} (hl : (apos.endLine == pos.line) = true) : eval (.Call (.Attribute o name apos) [.Name f p3] [] pos) env = (do
      let ov ← attributeBase o name env (eval o env)
      standAt apos.atName
      let (fn, first) ← holding [ov] (getMethod ov name (do return (← importBound o env).getD true))
      callWith pos fn first (backTo pos (starEach [.Name f p3] env)) []) := by
  rw [arm_eval_Call]
  have e1 : methodCallForm ([Expr.Name f p3].length + ([] : List Keyword).length) (backTo pos (starEach [.Name f p3] env)) (backToKw pos (keywordEach [] env)) = true := rfl
  have e2 : methodCallPos true o env apos pos = pure pos := by
    unfold methodCallPos
    rw [if_pos (show (!true || apos.endLine == pos.line) = true by rw [hl]; rfl)]
  unfold methodCall calleeOf
  simp only [e1, e2, if_true, pure_bind]
  rfl
/-- what __init__ leaves -/
structure Inited (f : Str) (h h' : Heap) (x C dx t1 : Addr) (v : Value) : Prop where
  keep : ∀ b o, b ≠ x → h.get? b = some o → h'.get? b = some o
  obj : h'.get? x = some { cls := .ref C, dict := some dx, data := .fields #[.ref t1, .none, .none, .none, .bool false, .none] }
  dbig : h.objs.size ≤ dx
  dne : dx ≠ x
  ns : h'.Ns1 dx (fun y => if y = f then some v else none)
section
variable {prog : Program} {w : World} {A : Around} {E : Value → Shared → Prop} {R : Result → Shared → Prop} {s : Shared} {K : Frag} {mg mb : Str → Option Value} {C fI : Addr} {f qual : Str}
theorem ink_init (T : InkTxt prog K C fI f qual) {x t0 : Addr} {v : Value} (X : K.In s.heap) (hlim : s.heap.NoLimit) (ng : s.heap.Ns mainGlobals mg) (nb : s.heap.Ns builtinsNs mb) (hbb : mb "super" = some (.type "super")) (hx : s.heap.get? x = some (excO C t0)) (hnx : K.lookup x = none) (hroom : A.depth < recursionLimit)
    (hq : ∀ h' tk dx t1, Inited f s.heap h' x C dx t1 v → R (.ok (.ret .none)) { s with heap := h', toks := tk }) :
    codeAny (model prog w) A (.call (.ref fI) ⟨[.ref x, v], []⟩) R s := by
  obtain ⟨oc, od, kV, doc, pm, an, cda, cc, ct, osl, p1, p2, q0, q1, q2, q3, q4, q5, q6, q7, q8, q9, ccl, cdd, vs, ccs, file, tf, cl, cld, csl, ho, hcd, hcda, hvs, hfile, hcc, hline, hbind⟩ := T.fn
  obtain ⟨nm, q, N, bs, bm, sn, sub, ab, col, dd, k0, k1, k2, k3, k5, hC, hbm⟩ := T.cls
  obtain ⟨fa, fb, fc, fd', fe, fg⟩ := T.fok
  have hcl : clsIn K C = some { name := nm, bases := bs, mro := .ref C :: bm, ns := N, qualname := q, hasDict := true, slotNames := sn, subclasses := sub, abstract := ab, collection := col, hasDel := false } := by unfold clsIn; rw [hC] <;> rfl
  have ks1 : (iS f).names.lookup ("super" : Str) = some .globalImplicit := by
    show List.lookup _ [_, _, _, _] = _
    simp only [List.lookup, show (("super" : Str) == ("self" : Str)) = false by decide, fc, show (("super" : Str) == ("__class__" : Str)) = false by decide, beq_self_eq_true]
  have ks2 : (iS f).names.lookup ("__class__" : Str) = some .free := by
    show List.lookup _ [_, _, _, _] = _
    simp only [List.lookup, show (("__class__" : Str) == ("self" : Str)) = false by decide, fd', beq_self_eq_true]
  have ks3 : (iS f).names.lookup f = some .local := by
    show List.lookup _ [_, _, _, _] = _
    simp only [List.lookup, fa, beq_self_eq_true]
  have ks4 : (iS f).names.lookup ("self" : Str) = some .local := rfl
  have m1 : ([(("self" : Str), Value.ref x), (f, v)] : List (Str × Value)).reverse.lookup ("self" : Str) = some (.ref x) := by
    show List.lookup _ [_, _] = _
    simp only [List.lookup, fb, beq_self_eq_true]
  have m2 : ([(("self" : Str), Value.ref x), (f, v)] : List (Str × Value)).reverse.lookup f = some v := by
    show List.lookup _ [_, _] = _
    simp only [List.lookup, beq_self_eq_true]
  refine ks_codeAny_call_defAt (binds := [("self", .ref x), (f, v)]) hroom (X _ _ ho) rfl hlim (codeRec_of X hcd) rfl (BindsTo.of_eq ?_) ?_ ?_ (fun h₁ hns hk₁ => ?_) rfl rfl rfl
  · exact hbind _ _
  · intro y hy
    rcases List.mem_cons.mp hy with rfl | hy
    · exact fun z => nomatch z
    rcases List.mem_cons.mp hy with rfl | hy
    · exact fun z => nomatch z
    rcases List.mem_cons.mp hy with rfl | hy
    · exact fun z => nomatch z
    rcases List.mem_cons.mp hy with rfl | hy
    · exact fun z => nomatch z
    cases hy
  · intro y hy
    rcases List.mem_cons.mp hy with rfl | hy
    · exact ks4
    rcases List.mem_cons.mp hy with rfl | hy
    · exact ks3
    cases hy
  · have X₁ : K.In h₁ := X.keeps hk₁
    have hx₁ := hk₁ _ _ hx
    have hC₁ := X₁ _ _ hC
    have I₁ : InstAt h₁ x (excO C t0) C none := ⟨hx₁, rfl, rfl, trivial⟩
    have ne : x ≠ C := ks_ne X₁ I₁ hcl
    refine ks_wpAt_execs_cons (ks_wpAt_Expr_any (ks_wpAt_MethodCall (ks_wpAt_super_base ks1 ks2 (by decide) rfl (hk₁ _ _ (X _ _ ho)) rfl rfl rfl (hk₁ _ _ (X _ _ hcda)) rfl hvs hfile T.msp ?_) (he_one hline)))
    refine ks_loadName_global rfl ks1 (loadGlobal_builtin (ng.keeps hk₁) (mg_none_of X ng T.ms) (nb.keeps hk₁) hbb ⟨rfl, ?_⟩)
    refine wpAny_loadName_free rfl ks2 rfl ⟨_, hk₁ _ _ (X _ _ hcc), rfl⟩ ?_
    refine wpAny_loadName_local rfl ks4 hns m1 ?_
    refine ks_wpAny_isType_cls hC₁ rfl ⟨rfl, ?_⟩
    refine ks_wpAny_call_super hC₁ rfl hx₁ rfl (fun c e => nomatch e) (looks_mroIn X₁ ?_) (fun h₂ e₂ k₂ => ?_)
    · unfold mroIn
      rw [hcl, Option.bind_some, if_neg (show ¬ (List.isEmpty (Value.ref C :: bm) = true) from Bool.false_ne_true)]
      show some ((Value.ref C :: bm).contains (.ref C)) = some true
      rw [List.contains_cons, beq_self_eq_true, Bool.true_or]
    have X₂ : K.In h₂ := X₁.keeps k₂
    have hx₂ := k₂ _ _ hx₁
    have I₂ : InstAt h₂ x (excO C t0) C none := ⟨hx₂, rfl, rfl, trivial⟩
    refine kxs_getMethod kxs_ValueError e₂ (looks_opaque X₂ T.op) (l₀ := .ref C :: bm) ?_ rfl X₂ ?_ (I₂.type.andThen (looks_subIn X₂ T.veC)) ne (by decide) ?_
    · exact fun A Q E s k q => wpAny_bind ((looks_clsIn X₂ hcl) A _ E s k (wpAny_pure q))
    · have q := T.sup
      unfold ks_superIn at q
      rw [hcl] at q
      exact q
    have k₃ : ∀ b o, h₂.get? b = some o → (h₂.push (kxs_mw "ValueError.__init__" x)).get? b = some o := fun b o e => Heap.get?_push_of_some _ e
    have hu : (h₂.push (kxs_mw "ValueError.__init__" x)).get? h₂.objs.size = some (kxs_mw "ValueError.__init__" x) := Heap.get?_push_at rfl rfl
    have hns₃ := (hns.keeps k₂).keeps k₃
    refine kxs_callWith (i := "ValueError.__init__") (x := x) rfl (evalArgs_plain (spliced_cons (wpAny_Name (wpAny_loadName_local rfl ks3 hns₃ m2 (spliced_nil ?_)) fe)))
    refine ⟨hu, ?_⟩
    have X₃ := X₂.keeps k₃
    have hx₃ := k₃ _ _ hx₂
    have hC₃ := X₃ _ _ hC
    have hT : ∀ Y : String, bm.contains (.type Y) = veTail.contains (.type Y) := fun Y => refsVE_contains Y bm hbm
    refine wpAny_call (codeAny_of_tree ?_)
    show wpAny _ _ (callAny (.ref _) ⟨[v], []⟩) _ _ _
    simp only [callAny]
    refine wpAny_bind (wpAny_load hu ?_)
    simp only [kxs_mw, show (Value.type "method-wrapper" == Value.type "method" || Value.type "method-wrapper" == Value.type "builtin_function_or_method" || Value.type "method-wrapper" == Value.type "method-wrapper") = true by decide, if_true]
    refine KFB.if_so (by decide) ?_
    refine wpAny_bind (check_bound_init F.excBase_ValueError.toExcCallFacts hC₃ hx₃ rfl ?_)
    refine wpAny_bind (wpAny_pure (wpAny_pure ?_))
    refine ⟨plainId_quiet F.excBase_ValueError.init.plain _, codeAny_builtin F.excBase_ValueError.initEntry ?_⟩
    refine exc_init_tree (cls := .ref C) (t0 := t0) (dv := none) (c2 := .none) (c3 := .none) (b4 := .bool false) hx₃ (one_small v) (fun h₄ k₄ hx₄ ht₄ => ?_)
    have xL : s.heap.objs.size ≠ x := Nat.ne_of_gt (Heap.lt_size hx)
    obtain ⟨oL, es, ep, hL, rL⟩ := hns₃
    have hns₄ : h₄.Ns s.heap.objs.size (fun y => List.lookup y ([(("self" : Str), Value.ref x), (f, v)] : List (Str × Value)).reverse) := ⟨oL, es, ep, k₄ _ _ xL hL, rL⟩
    have k04 : ∀ b o, b ≠ x → s.heap.get? b = some o → h₄.get? b = some o := fun b o n e => k₄ b o n (k₃ b o (k₂ b o (hk₁ b o e)))
    have X₄ : K.In h₄ := fun a o e => k04 a o (fun z => by rw [z, hnx] at e; cases e) (X a o e)
    have big : s.heap.objs.size ≤ h₄.objs.size := Nat.le_of_lt (Heap.lt_size (k₄ _ _ xL hL))
    show wpAt _ _ _ (execs [_] _) _ _ _
    refine wpAt_of_wpAny (wpAny_execs_cons (plainObj_wpAny_Assign_Attribute ?_))
    refine wpAny_Name (wpAny_loadName_local rfl ks3 hns₄ m2 (wpAny_Name (wpAny_loadName_local rfl ks4 hns₄ m1 ?_) (by decide))) fe
    refine set_plain X₄ (ox := excRec (.ref C) (h₂.push (kxs_mw "ValueError.__init__" x)).objs.size none .none .none (.bool false)) (od := none) ⟨hx₄, rfl, rfl, trivial⟩ T.sa ?_
    refine exc_osa X₄ hx₄ hcl (show refsVE (.ref C :: bm) = true from hbm) rfl T.noN (fun h₅ tk₅ dx k₅ dn dne hx₅ hn₅ => ?_)
    show wpAny _ _ (execs [] _) _ _ _
    exact wpAny_execs_nil (hq h₅ tk₅ dx _ ⟨fun b o hb e => k₅ b o hb (k04 b o hb e), hx₅, Nat.le_trans big dn, dne, hn₅⟩)
/-- a made one -/
structure Made (f : Str) (h h' : Heap) (e C d : Addr) (v : Value) : Prop where
  keep : ∀ b o, h.get? b = some o → h'.get? b = some o
  new : h.objs.size ≤ e
  obj : ∃ oe vs, h'.get? e = some oe ∧ oe.cls = .ref C ∧ oe.dict = some d ∧ oe.data = .fields vs ∧ vs[1]? = some .none
  dbig : h.objs.size ≤ d
  dne : d ≠ e
  ns : h'.Ns1 d (fun y => if y = f then some v else none)
theorem ink_made (T : InkTxt prog K C fI f qual) {v : Value} (X : K.In s.heap) (hlim : s.heap.NoLimit) (ng : s.heap.Ns mainGlobals mg) (nb : s.heap.Ns builtinsNs mb) (hbb : mb "super" = some (.type "super")) (hroom : A.depth + 1 < recursionLimit)
    (hq : ∀ h' tk e d, Made f s.heap h' e C d v → R (.ok (.ret (.ref e))) { s with heap := h', toks := tk }) :
    codeAny (model prog w) A (.call (.ref C) ⟨[v], []⟩) R s := by
  obtain ⟨nm, q, N, bs, bm, sn, sub, ab, col, dd, k0, k1, k2, k3, k5, hC, hbm⟩ := T.cls
  obtain ⟨hp, g, dr, tk, os⟩ := s
  have k : ∀ b o, hp.get? b = some o → ((hp.push (kdv_tup [v])).push (excO C hp.objs.size)).get? b = some o := fun b o e => Heap.get?_push_of_some _ (Heap.get?_push_of_some _ e)
  have hget : ((hp.push (kdv_tup [v])).push (excO C hp.objs.size)).get? (hp.objs.size + 1) = some (excO C hp.objs.size) := by heap_get
  have hnx : K.lookup (hp.objs.size + 1) = none := by
    cases e : K.lookup (hp.objs.size + 1) with
    | none => rfl
    | some o => exact absurd (Nat.lt_of_succ_lt (Heap.lt_size (X _ _ e : hp.get? (hp.objs.size + 1) = some o))) (Nat.lt_irrefl _)
  refine call_own F.excBase_ValueError (fun Y => refsVE_contains Y bm hbm) (X _ _ hC) (looks_findIn X T.iC) (fun self => bind_fn X self T.tC) (one_small v) ?_
  refine ink_init (s := ⟨(hp.push (kdv_tup [v])).push (excO C hp.objs.size), g, dr, tk, os⟩) T (X.keeps k) (hlim.keeps k) (ng.keeps k) (nb.keeps k) hbb hget hnx ?_ fun h' tk' dx t1 ⟨k', hx, dn, dne, hns⟩ => ?_
  · show A.depth + 1 < recursionLimit
    exact hroom
  · have old : ∀ b o, hp.get? b = some o → h'.get? b = some o := fun b o e => k' b o (Nat.ne_of_lt (Nat.lt_succ_of_lt (Heap.lt_size e))) (k b o e)
    have z : hp.objs.size + 1 + 1 ≤ dx := by
      have q := dn
      first
        | exact q
        | (rw [Heap.size_push, Heap.size_push] at q; exact q)
    exact ⟨rfl, hq h' tk' (hp.objs.size + 1) dx ⟨old, Nat.le_succ _, ⟨_, _, hx, rfl, rfl, rfl, rfl⟩, Nat.le_trans (Nat.le_trans (Nat.le_succ _) (Nat.le_succ _)) z, dne, hns⟩⟩
end
end Ink
end PySem

-- VLY
set_option Elab.async false
set_option linter.all false
set_option autoImplicit false
set_option maxRecDepth 100000
set_option maxHeartbeats 4000000
/-! errors over the layer: raised, caught, asked -/
namespace VL
open PySem PySem.Spec L2
open PyProof.Rows (envOfC)
open PySem.Ink (InkTxt FOk)
theorem relO_ink {v : V} {v' : Value} (r : RelV v v') (f g : Str) : RelO (List.lookup g [(f, v)]) (if g = f then some v' else none) := by
  by_cases h : g = f
  · subst h
    rw [if_pos rfl]
    have q : List.lookup g [(g, v)] = some v := by simp [List.lookup]
    rw [q]
    exact r
  · rw [if_neg h]
    have q : (g == f) = false := by simpa using h
    have q2 : List.lookup g [(f, v)] = none := by simp [List.lookup, q]
    rw [q2]
    trivial
def tMkInk (C : Addr) (f : Str) (ta : TA) : L2.St → Hp → XK → Prop := fun σ H Q => ta σ H fun vs H1 => ∃ v, vs = [v] ∧ ∀ d, H1 d = none → Q (.ref C) (some d) (upd H1 d (.xd [(f, v)]))
section
variable {X : Cx} {C fI : Addr} {f qual cn : Str}
theorem pmk_ink {a : Expr} {ta : TA} {p pos : Pos} {k : Nat} (T : InkTxt X.prog X.K C fI f qual) (hm : X.mg cn = some (.ref C)) (hr : Room k X.A) (ha : PA X [a] ta) (hg : Gl X cn := by rfl) (hdb : (cn == ("__debug__" : Str)) = false := by decide)
    (he : starEach (a :: []) X.env = (false, eval a X.env) :: starEach [] X.env := by rfl) (hpl : (backTo pos (starEach [] X.env)).any (·.1) = false := by rfl) :
    PMk X (.Call (.Name cn p) [a] [] pos) (tMkInk C f ta) := by
  intro pins s σ H Q I h
  refine wpAny_Call_Name_kw (ld_glob I hg hm ?_ hdb)
  refine PySem.W.callWith_K (h₀ := X.base) I.ok.mod.kin T.kC (thn (ha.run pos pins s σ H _ I h) fun us s1 hh => ?_) he hpl
  obtain ⟨vs, H1, I1, r1, v, ev, q1⟩ := hh
  subst ev
  refine ⟨I1.kIn, ?_⟩
  obtain ⟨v', e', rv⟩ := vals1 r1
  subst e'
  show wpAny _ _ (call (.ref C) [v']) _ _ _
  have hlim := I1.nolimit
  obtain ⟨mb, nb, hbb⟩ := I1.mod.blt
  have ng := I1.mod.glob.keeps I1.bk
  have hsup : mb "super" = some (.type "super") := (hbb _ (by decide)).trans (by decide +kernel)
  obtain ⟨hp, g, d, t, os⟩ := s1
  refine wpAny_call (PySem.Ink.ink_made T I1.kIn hlim ng (nb.keeps I1.bk) hsup (by have := hr.dp; omega) fun h' tk' e d M => ?_)
  show MkP X pins σ Q (.ref e) ⟨h', g, _, tk', os⟩
  obtain ⟨oe, fv, hoe, hc, hd, hdat, h1⟩ := M.obj
  obtain ⟨G', g1, g2⟩ := restrict h' fun b => decide (b ≠ e)
  have gk : ∀ b, b ≠ e → G'.get? b = h'.get? b := fun b hb => g1 b (decide_eq_true hb)
  have ge : G'.get? e = none := g2 e (by simp)
  have old : ∀ b o, hp.get? b = some o → G'.get? b = some o := fun b o q => (gk b (Nat.ne_of_lt (Nat.lt_of_lt_of_le (Heap.lt_size q) M.new))).trans (M.keep b o q)
  have ob : ObjOk X.prog X.w (upd H1 d (.xd [(f, v)])) G' d (.xd [(f, v)]) := ⟨_, M.ns.at (fun o q => (gk d M.dne).trans q), fun y => relO_ink rv f y⟩
  have J := I1.laid (t' := tk') old M.dbig ob
  refine ⟨e, oe, fv, _, _, .ref C, some d, rfl, J, fun b o q => ?_, ge, hoe, ⟨hc, hd⟩, hdat, h1, ?_, rfl, I1.bare, raises_own T.xf.exC T.tyC, q1 d (I1.hok.fresh M.dbig)⟩
  · by_cases hb : b = e
    · have q' : G'.get? b = some o := q
      rw [hb, ge] at q'
      cases q'
    · exact (gk b hb).symm.trans q
  · rw [upd_ne (Ne.symm M.dne)]
    exact I1.hok.fresh M.new
/-- raise C(e) -/
theorem vs_raise {G : Gm} {a : Expr} {p pos pos2 : Pos} {d : D} {V : EndV} {k : Nat} (gd : Good X) (T : InkTxt X.prog X.K C fI f qual) (hm : X.mg cn = some (.ref C)) (hr : Room k X.A) (h : VE X G a (.sh d)) (hk : V.ex (.ref C, some ([f], [d]))) (hg : Gl X cn := by rfl) (hdb : (cn == ("__debug__" : Str)) = false := by decide)
    (he : starEach (a :: []) X.env = (false, eval a X.env) :: starEach [] X.env := by rfl) (hpl : (backTo pos (starEach [] X.env)).any (·.1) = false := by rfl) : VS X G (.Raise (some (.Call (.Name cn p) [a] [] pos)) none pos2) V := fun S0 H0 σ H S D E tk p ok => by
  refine wS.of (ps_raise gd.calm tk (pmk_ink T hm hr (pa_cons pe_w pa_nil he) hg hdb he hpl)) (h.2 S0 H0 σ H S p _ fun v H1 S1 g m => ⟨v, rfl, fun l hl => ?_⟩)
  have g2 : Gx S1 H1 (upd S1 l (.xd [(f, v)])) (upd H1 l (.xd [(f, v)])) := Gx.newS g.sh hl
  exact ok.ex (.ref C, some ([f], [d])) (some l) _ _ hk (p.ext.trans (g.trans g2)) ⟨l, [v], rfl, upd_same, .cons (Den.mono g2.ss m) .nil⟩

/-! ### try: body, except C as n: suite -/
theorem OkV.mono {S0 H0 : Hp} {V V' : EndV} {D : Ends} {E : XK} (ok : OkV S0 H0 V D E) (h1 : ∀ G, V'.nx G → V.nx G) (h2 : ∀ r, V'.rt r → V.rt r) (h3 : ∀ G, V'.bk G → V.bk G) (h4 : ∀ G, V'.ct G → V.ct G) (h5 : ∀ x, V'.ex x → V.ex x) : OkV S0 H0 V' D E :=
  ⟨fun G σ H S q => ok.nx G σ H S (h1 G q), fun r v H S q => ok.rt r v H S (h2 r q), fun G σ H S q => ok.bk G σ H S (h3 G q), fun G σ H S q => ok.ct G σ H S (h4 G q), fun x d H S q => ok.ex x d H S (h5 x q)⟩
/-- the suite's slots: nothing is known but the error -/
def gexc (n i : Nat) (r : R) : Gm := (List.replicate n none).set i (some r)
theorem Rep.exc {S0 H0 S H : Hp} {σ : L2.St} (g : Gx S0 H0 S H) {i : Nat} {v : V} {d : D} (h : Den S d v) : Rep S0 H0 (gexc σ.length i (.sh d)) (σ.set i (some v)) H S := by
  refine Rep.setS (G := List.replicate σ.length none) ⟨g, by simp, fun j r e => ?_, fun j k r r' v v' x _ e _ _ _ _ _ => ?_⟩ h
  · rw [List.getElem?_replicate] at e
    split at e <;> cases e
  · rw [List.getElem?_replicate] at e
    split at e <;> cases e
/-- the body may raise x as told; a caught one is handled by the suite, which leaves by return -/
theorem vs_try {G : Gm} {V : EndV} {body suite : List Stmt} {b0 : Stmt} {n : Str} {np pos pos' : Pos} (gd : Good X) (i : Nat) {CX : Value} (hs : X.stack = X.env :: X.outer) (hf : X.env.frame = some X.env.locals) (hi : X.N[i]? = some n) (hln : X.env.kindOf n = some .local) (hc : Names X cn CX)
    (ext : XV → Prop)
    (hex : ∀ x, ext x → ∃ b, PySem.W.exmOne X.K x.1 CX = some b ∧ (b = false → V.ex x) ∧ (b = true → ∃ fs ds, x.2 = some (fs, ds) ∧ ∀ (a : Addr) (oe : Obj) (dd : Addr) (pn : List (Addr × Obj)), Zc x.1 (some dd) oe → (∃ vs, oe.data = .fields vs) → VSs (X.suite a ((a, oe) :: pn)) (gexc X.N.length i (.sh (.exc a dd fs ds))) (b0 :: suite) { nx := fun _ => False, rt := V.rt }))
    (hb : ∀ (pn : List (Addr × Obj)) (xe : Value → Shared → Prop), Good (X.tr pn xe) → VSs (X.tr pn xe) G body { V with ex := ext }) : VS X G (.Try body [.ExceptHandler (some (.Name cn np)) (some n) (b0 :: suite) pos'] [] [] pos) V := fun S0 H0 σ H S D E tk p ok => by
  let E' : XK := fun cls d H' => ∃ x S', x.1 = cls ∧ ext x ∧ Gx S0 H0 S' H' ∧ ExAt S' H' x d
  refine wS.of (ps_try_as (Wout := fun c d _ H => E c d H) (tb := fun W D σ H => (∀ c d σ H, E' c d H → W c d σ H) ∧ ∀ pn xe, Takes (X.tr pn xe) (fun c d _ H => E' c d H) → PassesOwn (model X.prog X.w) X.A X.env xe → wSs (X.tr pn xe) body D σ H)
    (ts := fun a cls d D σ H => ∀ oe pn, Zc cls d oe → (∃ vs, oe.data = .fields vs) → wSs (X.suite a ((a, oe) :: pn)) (b0 :: suite) D σ H) hs hf gd.nd hi hln hc tk ?_ ?_) ?_
  · exact fun W pn xe tW hp => ⟨fun pins s σ H D I h => h.2 pn xe (tW.imp h.1) hp pins s I⟩
  · exact fun a oe cls d pn hz hv => ⟨fun pins s σ H D I h => h oe pn hz hv pins s I⟩
  · refine ⟨fun cls d σ' H' hE => ?_, fun pn xe tE hp => ?_⟩
    · obtain ⟨x, S', rfl, hx, g', hat⟩ := hE
      obtain ⟨b, hb1, hno, hyes⟩ := hex x hx
      refine ⟨b, hb1, fun e a ha => ?_, fun e => ok.ex x d H' S' (hno e) g' hat⟩
      obtain ⟨fs, ds, e2, hsu⟩ := hyes e
      unfold ExAt at hat
      rw [e2] at hat
      obtain ⟨dd, vs, rfl, hd, hv⟩ := hat
      intro oe pn hz hvs pins s I
      have hl : σ'.length = X.N.length := by
        have := I.len
        rw [List.length_set] at this
        exact this
      have rp := Rep.exc (σ := σ') (i := i) g' (Den.exc (a := a) hd hv)
      rw [hl] at rp
      exact hsu a oe dd pn hz hvs S0 H0 _ H' S' { nx := fun σ' H' => D.nx (σ'.set i none) H', rt := D.rt, bk := fun σ' H' => D.bk (σ'.set i none) H', ct := fun σ' H' => D.ct (σ'.set i none) H' } (fun _ _ _ => False) takes0 rp ⟨fun _ _ _ _ q => q.elim, fun r v H S q g m => ok.rt r v H S q g m, fun _ _ _ _ q => q.elim, fun _ _ _ _ q => q.elim, fun _ _ _ _ q => q.elim⟩ pins s I
    · exact hb pn xe ⟨gd.calm, gd.nd, hp, gd.un⟩ S0 H0 σ H S _ E' tE p ⟨ok.nx, ok.rt, ok.bk, ok.ct, fun x d H S q g m => ⟨x, S, rfl, q, g, m⟩⟩

/-! ### what a suite asks of the error -/
/-- e.f -/
theorem ve_excf {G : Gm} {a dd : Addr} {oe : Obj} {pn : List (Addr × Obj)} {e : Expr} {pos : Pos} {g : Str} {fs : List Str} {ds : List D} {d : D} {j : Nat} (T : InkTxt X.prog X.K C fI f qual) (hz : Zc (.ref C) (some dd) oe) (hv : ∃ vs, oe.data = .fields vs) (hno : PySem.W.findIn X.K (.ref C) g = some none)
    (h : VE (X.suite a ((a, oe) :: pn)) G e (.sh (.exc a dd fs ds))) (hj : fs[j]? = some g) (hd : ds[j]? = some d) (hlk : ∀ vs : List V, ds.length = vs.length → (fs.zip vs).lookup g = vs[j]?) (hb : attributeBase e g X.env (eval e X.env) = eval e X.env := by rfl) : VE (X.suite a ((a, oe) :: pn)) G (.Attribute e g pos) (.sh d) :=
  ⟨rfl, fun S0 H0 σ H S p Q q => wE.of (pe_xf T.xf hno hz hv pe_w hb) (h.2 S0 H0 σ H S p _ fun v H1 S1 g1 k => by
    cases k with
    | @exc _ _ _ _ vs hd1 hda =>
      obtain ⟨y, hy, hyd⟩ := hda.at hd
      exact ⟨rfl, rfl, dd, _, y, rfl, g1.sh _ _ hd1, (hlk vs hda.len).trans hy, q y H1 S1 g1 hyd⟩)⟩
/-- what isinstance asks of the class -/
structure InkC (K : PySem.W.Frag) (D : Addr) : Prop where
  hc : (PySem.W.clsIn K D).isSome = true
  hg : PySem.W.findIn K (.ref D) "__getattribute__" = some (some (.builtin "BaseException.__getattribute__"))
  hk : PySem.W.findIn K (.ref D) "__getattr__" = some none
  hs : PySem.W.subIn K (.ref D) (.type "BaseException") = some true
  ha : PySem.W.findIn K (.ref D) "__class__" = some (some (.builtin "object.__class__"))
  hn : PySem.W.specialIn K (.builtin "object.__class__") "__get__" = some (some (.builtin "getset_descriptor.__get__"))
  ht : PySem.W.takesIn K (.builtin "object.__class__") = some true
  hm : PySem.W.mroIn K D (.type "object") = some true
def rIsX (K : PySem.W.Frag) (C dd a : Addr) : List V → Hp → VK → Prop := fun xs H Q => ∃ (c : V) (cv : Value) (b : Bool) (kvs : List (Str × V)), xs = [.ref a, c] ∧ H dd = some (.xd kvs) ∧ ClsV c cv ∧ PySem.W.kitOne K (.ref C) cv = some b ∧ Q (.bl b) H
theorem call_isX {a dd : Addr} {oe : Obj} {pn : List (Addr × Obj)} (T : InkC X.K C) (hz : Zc (.ref C) (some dd) oe) (hv : ∃ vs, oe.data = .fields vs) : CallR (X.suite a ((a, oe) :: pn)) (.builtin "isinstance") (rIsX X.K C dd a) := by
  intro pins s σ H xs us Q I r h
  obtain ⟨c, cv, b, kvs, rfl, hdd, hc, e, q⟩ := h
  obtain ⟨u1, u2, rfl, r1, r2⟩ := vals2 r
  cases r1
  have ec := hc.eq r2
  subst ec
  obtain ⟨hget, _⟩ := I.pin (a, oe) (List.mem_append.mpr (.inl List.mem_cons_self))
  obtain ⟨vs, hv⟩ := hv
  have hx : ObjOk X.prog X.w H s.heap dd (.xd kvs) := I.hok dd _ hdd
  obtain ⟨mA, hns, hr⟩ := hx
  obtain ⟨od, ho, hl⟩ := lookIn_ns hns
  have J : PySem.W.InstAt s.heap a oe C (some od) := ⟨hget, hz.1, by unfold PySem.W.notCls; rw [hv] <;> rfl, by rw [hz.2]; exact ho⟩
  exact PySem.W.kia_one (PySem.W.kitx_exc T.hc T.hg T.hk T.hs T.ha T.hn T.ht T.hm) I.kIn J e (fun z => nomatch z) fun tk => ⟨.bl b, H, I.tok tk, rfl, q⟩
/-- isinstance(e, D2), D2 an own class -/
theorem ve_isX {G : Gm} {a dd D2 : Addr} {oe : Obj} {pn : List (Addr × Obj)} {e : Expr} {pos p p2 : Pos} {fs : List Str} {ds : List D} {TN : Str} {k : Bool} (T : InkC X.K C) (hz : Zc (.ref C) (some dd) oe) (hv : ∃ vs, oe.data = .fields vs) (mi : X.mg "isinstance" = none) (mT : X.mg TN = some (.ref D2)) (hk : PySem.W.kitOne X.K (.ref C) (.ref D2) = some k)
    (h : VE (X.suite a ((a, oe) :: pn)) G e (.sh (.exc a dd fs ds))) (hgT : Gl X TN := by rfl) (hg : Gl X "isinstance" := by rfl) (hd : (TN == ("__debug__" : Str)) = false := by decide) (he : starEach [e, .Name TN p2] X.env = (false, eval e X.env) :: starEach [.Name TN p2] X.env := by rfl)
    (he2 : starEach [.Name TN p2] X.env = (false, eval (.Name TN p2) X.env) :: starEach [] X.env := by rfl) (hpl : (backTo pos (starEach [.Name TN p2] X.env)).any (·.1) = false := by rfl) : VE (X.suite a ((a, oe) :: pn)) G (.Call (.Name "isinstance" p) [e, .Name TN p2] [] pos) (.sh (.bl k)) :=
  ve_callB (X := X.suite a ((a, oe) :: pn)) (call_isX T hz hv) (by decide +kernel) hg mi (rs := [.sh (.exc a dd fs ds), .sh (.raw (.ref D2))]) ⟨rfl, fun B S H vs Q s hd q => by
    obtain ⟨v, w, rfl, k1, k2⟩ := hda2 hd
    cases k1 with
    | exc h1 h2 =>
      cases den_raw.mp k2
      exact ⟨_, _, k, _, rfl, s _ _ h1, .own D2, hk, q _ H S (Gx.refl s) (.bl _)⟩⟩
    (va_cons h (va_cons (ve_glob (v := .ref D2) hgT mT rfl (fun _ => .raw _) hd) va_nil (fun _ z => nomatch z) he2) (by simp [R.isEn]) he) (by decide) (by decide) he hpl
end
end VL

-- VL7
set_option Elab.async false
set_option linter.all false
set_option autoImplicit false
set_option maxRecDepth 100000
set_option maxHeartbeats 4000000
/-! regions: a list of lists that may be changed -/
namespace VL
open PySem PySem.Spec L2
open PyProof.Rows (envOfC)
structure Rows (a : Addr) (bs : List Addr) (M : Hp) (rows : List (List V)) : Prop where
  top : M a = some (.lst (bs.map V.ref))
  len : bs.length = rows.length
  na : a ∉ bs
  nd : bs.Nodup
  row : ∀ (k : Nat) b vs, bs[k]? = some b → rows[k]? = some vs → M b = some (.lst vs)
theorem Rows.set {a b : Addr} {bs : List Addr} {M : Hp} {rows : List (List V)} {k : Nat} {vs : List V} (r : Rows a bs M rows) (h : bs[k]? = some b) : Rows a bs (upd M b (.lst vs)) (rows.set k vs) := by
  have hb : b ∈ bs := List.mem_of_getElem? h
  refine ⟨by rw [upd_ne fun z => r.na (by rw [z]; exact hb)]; exact r.top, by rw [List.length_set]; exact r.len, r.na, r.nd, fun j c us h1 h2 => ?_⟩
  rcases get_set h2 with ⟨rfl, _, rfl⟩ | ⟨n, q⟩
  · rw [h] at h1
    cases h1
    exact upd_same
  · have hc : c ≠ b := fun z => by
      subst z
      obtain ⟨i1, e1⟩ := List.getElem?_eq_some_iff.mp h
      exact n ((List.getElem?_inj i1 r.nd).mp (h.trans h1.symm))
    rw [upd_ne hc]
    exact r.row j c us h1 q
def intsD (ns : List Int) : List D := ns.map D.int
def intsV (ns : List Int) : List V := ns.map V.int
theorem dall_of_ints {S : Hp} : ∀ (ns : List Int), DenAll S (intsD ns) (intsV ns)
  | [] => .nil
  | n :: ns => .cons (.int n) (dall_of_ints ns)
theorem Rows.den {a : Addr} {bs : List Addr} {M : Hp} {nss : List (List Int)} (r : Rows a bs M (nss.map intsV)) : Den M (.lst (nss.map fun ns => .lst (intsD ns))) (.ref a) := by
  refine .lst r.top (.mk (by rw [List.length_map, List.length_map, r.len, List.length_map]) fun i d x h1 h2 => ?_)
  rw [List.getElem?_map] at h1 h2
  cases q : nss[i]? with
  | none => rw [q] at h1; cases h1
  | some ns =>
    rw [q] at h1
    cases h1
    cases q2 : bs[i]? with
    | none => rw [q2] at h2; cases h2
    | some b =>
      rw [q2] at h2
      cases h2
      exact .lst (r.row i b (intsV ns) q2 (by rw [List.getElem?_map, q]; rfl)) (dall_of_ints ns)
section
variable {X : Cx} {G : Gm} {pos p : Pos} {tg iter a b c e elt : Expr} {ifs : List Expr} {ds : List D} {d : D} {scope : Scope} {own : List (Str × Nat)} {ts vs : List Nat} {V' : EndV} {r ra : R} {M : Hp} {v w : V}
/-- the name of a region -/
theorem ve_varR (i : Nat) {x : Str} (hG : G[i]? = some (some (.reg v M))) (hN : X.N[i]? = some x := by rfl)
    (hv : Vis X.env.scope x := by first | exact Or.inl rfl | exact Or.inr (Or.inl rfl) | exact Or.inr (Or.inr rfl)) (hd : (x == ("__debug__" : Str)) = false := by decide) (hcd : (x == ("__classdict__" : Str)) = false := by decide) :
    VE X G (.Name x pos) (.sh (.raw v)) := ⟨rfl, fun _ _ σ H S p Q q => by
  obtain ⟨u, h1, h2, _⟩ := p.slot i _ hG
  exact wE.of (pe_var hN hv hd hcd) ⟨u, h1, q u H S (Gx.refl p.s0) (den_raw.mpr h2.1)⟩⟩
/-- xs[n], xs in the region of slot i -/
theorem ve_ixG (i : Nat) {l : Addr} {xs : List V} {n : Int} (hG : G[i]? = some (some (.reg v M))) (hM : M l = some (.lst xs)) (ha : VE X G a (.sh (.raw (.ref l)))) (hb : VE X G b (.sh (.int n))) (e : atI xs n = some w) (hd : ∀ S, Den S d w) (hs : PlainIx b := by exact fun _ _ => rfl) : VE X G (.Subscript a b pos) (.sh d) :=
  ⟨rfl, fun S0 H0 σ H S p Q q => wE.of (pe_ix ix_list pe_w pe_w hs) (ha.2 S0 H0 σ H S p _ fun x H1 S1 g1 k1 => hb.2 S0 H0 σ H1 S1 (p.step g1) _ fun y H2 S2 g2 k2 => by
    cases den_raw.mp k1
    cases den_int.mp k2
    have p2 := (p.step g1).step g2
    obtain ⟨u, _, h2, _⟩ := p2.slot i _ hG
    exact ⟨l, xs, n, w, rfl, rfl, .of (h2.2 l _ hM).2.2, e, q w H2 S2 (g1.trans g2) (hd S2)⟩)⟩
/-- row[n] = e, row a name of a list in the region of slot i -/
theorem vs_setiR (i j : Nat) {x : Str} {p2 ps : Pos} {n : Int} {k : Nat} {l : Addr} {xs : List V} (hG : G[i]? = some (some (.reg v M))) (hM : M l = some (.lst xs)) (hj : G[j]? = some (some (.sh (.raw (.ref l))))) (h : VE X G e (.sh d)) (hd : ∀ S u, Den S d u → u = w) (hn : VE X G b (.sh (.int n))) (hk : ixN xs.length n = some k) (kk : V'.nx (G.set i (some (.reg v (upd M l (.lst (xs.set k w))))))) (hN : X.N[j]? = some x := by rfl)
    (hv : Vis X.env.scope x := by first | exact Or.inl rfl | exact Or.inr (Or.inl rfl) | exact Or.inr (Or.inr rfl)) (hdb : (x == ("__debug__" : Str)) = false := by decide) (hcd : (x == ("__classdict__" : Str)) = false := by decide)
    (hg : PG X (.Subscript (.Name x p2) b ps) (gSub (tVar j) (wE X b) rSetL) := by exact pg_sub (pv _) pe_w set_list)
    (hs : swapsWithSole [.Subscript (.Name x p2) b ps] e pos.line X.env = pure false := by rfl) (hw : swappedStores [.Subscript (.Name x p2) b ps] e X.env = pure none := by rfl)
    (h1 : (assignEach [.Subscript (.Name x p2) b ps] X.env).map (·.2) = [assign (.Subscript (.Name x p2) b ps) X.env] := by rfl) : VS X G (.Assign [.Subscript (.Name x p2) b ps] e pos) V' := fun S0 H0 σ H S D E tk p ok => by
  obtain ⟨u, hv1, hu, _⟩ := p.slot j _ hj
  cases den_raw.mp hu
  refine wS.of (ps_asg pe_w hg hs hw h1) (h.2 S0 H0 σ H S p _ fun y H1 S1 g m => ?_)
  have ey := hd S1 y m
  subst ey
  refine ⟨.ref l, hv1, hn.2 S0 H0 σ H1 S1 (p.step g) _ fun z H2 S2 g2 m2 => ?_⟩
  cases den_int.mp m2
  have p2 := (p.step g).step g2
  obtain ⟨u2, hv2, ⟨rfl, h2⟩, _⟩ := p2.slot i _ hG
  have hl := h2 l _ hM
  refine ⟨l, xs, n, k, rfl, rfl, hl.2.2, hk, ?_⟩
  refine ok.nx _ _ _ _ kk (p2.mutR (Gx.refl p2.s0) hG hv2 (fun b q => ?_) ⟨rfl, fun b o q => ?_⟩ (fun _ z => nomatch z) fun x o => ?_)
  · by_cases hb : b = l
    · subst hb
      show M b ≠ none
      rw [hM]
      intro z
      cases z
    · exact absurd (upd_ne hb) q
  · by_cases hb : b = l
    · subst hb
      rw [upd_same] at q ⊢
      cases q
      exact ⟨hl.1, hl.2.1, rfl⟩
    · rw [upd_ne hb] at q ⊢
      exact h2 b o q
  · refine .inl ?_
    show M x ≠ none
    by_cases hb : x = l
    · subst hb
      rw [hM]
      intro z
      cases z
    · have o' : upd M l (.lst (xs.set k y)) x ≠ none := o
      rw [upd_ne hb] at o'
      exact o'
theorem vss_frzR {sts : List Stmt} (i : Nat) (hG : G[i]? = some (some (.reg v M))) (hd : Den M d v) (k : VSs X (G.set i (some (.sh d))) sts V') : VSs X G sts V' := fun S0 H0 σ H S D E tk p ok => by
  obtain ⟨S', ss, p'⟩ := p.freezeR hG hd
  exact k S0 H0 σ H S' D E tk p' ok
def VBR (X : Cx) (G : Gm) (scope : Scope) (vs : List Nat) (tg : Expr) (ifs : List Expr) (elt : Expr) (ds : List D) (F : D → List Int) : Prop :=
  ∀ (i : Nat) d, ds[i]? = some d → ∃ Gd ts, (∀ t ∈ ts, t ∈ vs) ∧ (∀ s H C cl fp, VGw (bk X scope s H C cl fp) (wipeG G vs) tg d ts (· = Gd)) ∧ (∀ s H C cl fp, VTs (bk X scope s H C cl fp) Gd ifs true) ∧ ∀ s H C cl fp, VE (bk X scope s H C cl fp) Gd elt (.ow (intsD (F d)))
theorem lc_readR {F : D → List Int} (hi : VIm X G tg iter ds) (hz : ds.length ≤ sizeLine) (hb : VBR X G scope vs tg ifs elt ds F) {S0 H0 H S : Hp} {σ : L2.St} (p : Rep S0 H0 G σ H S) {Q : VK} (q : ∀ a bs M H' S', Gx S H S' H' → Rows a bs M (ds.map fun d => intsV (F d)) → Hd H S' H' (.ref a) (.reg (.ref a) M) → Q (.ref a) H') :
    tLc (wI X tg iter) (wbG X scope tg) (wbT X scope ifs) (wbE X scope elt) vs σ H Q := by
  refine hi S0 H0 σ H S p _ fun J A H1 S1 g io st Dl hD => ?_
  let Pv : Nat → Hp → Prop := fun i H => ∃ (S : Hp) (bs : List Addr), Gx S1 H1 S H ∧ S Dl = none ∧ H Dl = some (.lst (bs.map V.ref)) ∧ bs.length = i ∧ Dl ∉ bs ∧ bs.Nodup ∧ ∀ (k : Nat) b, bs[k]? = some b → H1 b = none ∧ S b = none ∧ ∃ d, ds[k]? = some d ∧ H b = some (.lst (intsV (F d)))
  have hS1 : S1 Dl = none := Same.free g.sh hD
  refine ⟨fun i m H => m = ds.length - i ∧ i ≤ ds.length ∧ Pv i H, ⟨ds.length, by simp, Nat.zero_le _, S1, [], Gx.new g.sh hD, hS1, upd_same, rfl, List.not_mem_nil, List.nodup_nil, fun k b h => by simp at h⟩, ?_⟩
  rintro i m H' ⟨rfl, hi, S', bs, g', hS', hA, hbl, hnm, hnd, hd⟩
  obtain ⟨go, stop⟩ := io i H' S' (st.trans g'.hh) g'.ss g'.sh
  by_cases hl : i < ds.length
  · obtain ⟨g1, yl⟩ := go hl
    refine .inr ⟨g1, Pv (i + 1), fun H2 q2 => ⟨ds.length - (i + 1), by omega, rfl, hl, q2⟩, fun x H2 y => ?_⟩
    obtain ⟨S2, d, g2, e, hx⟩ := yl x H2 y
    obtain ⟨Gd, ts, hts, hv, ht, he⟩ := hb i d e
    intro s Hb C cl fp
    refine hv s Hb C cl fp S0 H0 _ H2 S2 x ((((p.step g).step g').step g2).wipe vs) hx _ fun G' σ' eG p' wp => ?_
    subst eG
    refine ⟨(wp vs hts).trans (wipe_idem vs σ), ?_⟩
    intro s Hb C cl fp
    refine ht s Hb C cl fp S0 H0 σ' H2 S2 p' _ fun H3 S3 g3 => ?_
    refine iteT ?_
    intro s Hb C cl fp
    refine (he s Hb C cl fp).2 S0 H0 σ' H3 S3 (p'.step g3) _ fun v H4 S4 g4 m => ?_
    obtain ⟨b, xs, rfl, m1, m2, m3, m4⟩ := m
    have g23 := g2.trans g3
    have g24 := g23.trans g4
    have hS4 : S4 Dl = none := by rw [g24.fr Dl (by rw [hA]; intro z; cases z)]; exact hS'
    have exs : xs = intsV (F d) := dall_ints m4
    have hb1 : H' b = none := g23.gone m1
    have nbD : b ≠ Dl := fun z => by rw [z, hA] at hb1; cases hb1
    refine ⟨bs.map V.ref, g24.hh _ _ hA, by rw [List.length_map]; omega, S4, bs ++ [b], ?_, hS4, ?_, ?_, ?_, ?_, fun k c hk => ?_⟩
    · have gg := g'.trans g24
      exact ⟨gg.ss, fun b u z => by rw [upd_ne (ne_of_none z hD)]; exact gg.hh b u z, fun b u z => by rw [upd_ne (ne_of_none z hS4)]; exact gg.sh b u z, gg.fr⟩
    · rw [upd_same, List.map_append]
      rfl
    · rw [List.length_append, hbl]; rfl
    · rw [List.mem_append, List.mem_singleton]
      rintro (z | z)
      · exact hnm z
      · exact nbD z.symm
    · rw [List.nodup_append]
      refine ⟨hnd, by simp, fun x hx y hy => ?_⟩
      rw [List.mem_singleton] at hy
      subst hy
      intro z
      subst z
      obtain ⟨k, hk⟩ := List.getElem?_of_mem hx
      obtain ⟨_, _, d', _, h'⟩ := hd k _ hk
      rw [h'] at hb1
      cases hb1
    · by_cases hkl : k < bs.length
      · rw [List.getElem?_append_left hkl] at hk
        obtain ⟨k1, k2, d', k3, k4⟩ := hd k c hk
        have ncD : c ≠ Dl := fun z => hnm (by rw [← z]; exact List.mem_of_getElem? hk)
        exact ⟨k1, (g24.fr c (by rw [k4]; intro z; cases z)).trans k2, d', k3, by rw [upd_ne ncD]; exact g24.hh _ _ k4⟩
      · rw [List.getElem?_append_right (by omega)] at hk
        have e0 : k - bs.length = 0 := by
          rcases Nat.eq_zero_or_pos (k - bs.length) with z | z
          · exact z
          · rw [List.getElem?_eq_none (by simp; omega)] at hk; cases hk
        rw [e0] at hk
        cases hk
        have ek : k = i := by omega
        subst ek
        have hb0 : H1 b = none := by
          cases z : H1 b with
          | none => rfl
          | some o =>
            have z2 := g'.hh b o
            rw [z2 z] at hb1
            cases hb1
        exact ⟨hb0, m2, d, e, by rw [upd_ne nbD, m3, exs]⟩
  · have e : i = ds.length := by omega
    subst e
    refine .inl ⟨stop rfl, q Dl bs (fun b => if b = Dl ∨ b ∈ bs then H' b else none) H' S' (g.trans g') ⟨?_, ?_, hnm, hnd, fun k b us h1 h2 => ?_⟩ ⟨rfl, fun b o z => ?_⟩⟩
    · simp only [true_or, if_true]
      exact hA
    · rw [List.length_map]; exact hbl
    · obtain ⟨_, _, d', k3, k4⟩ := hd k b h1
      rw [List.getElem?_map, k3] at h2
      cases h2
      rw [if_pos (.inr (List.mem_of_getElem? h1))]
      exact k4
    · have z' : (if b = Dl ∨ b ∈ bs then H' b else none) = some o := z
      split at z'
      · rename_i hor
        rcases hor with rfl | hm
        · exact ⟨g.gone hD, hS', z'⟩
        · obtain ⟨k, hk⟩ := List.getElem?_of_mem hm
          obtain ⟨k1, k2, _⟩ := hd k b hk
          exact ⟨g.gone k1, k2, z'⟩
      · cases z'
/-- y = [[..] for ..], whose lists may be changed -/
theorem vs_lcR (gd : Good X) {F : D → List Int} (i : Nat) {y : Str} {py spos : Pos} (own : List (Str × Nat)) (hi : VIm X G tg iter ds) (ok : BlkOk X.N X.env.scope scope own) (hb : VBR X G scope (own.map (·.2)) tg ifs elt ds F) (hz : ds.length ≤ sizeLine) (k : ∀ a bs M, Rows a bs M (ds.map fun d => intsV (F d)) → V'.nx (G.set i (some (.reg (.ref a) M))))
    (hy : X.N[i]? = some y := by rfl) (hyl : X.env.scope.names.lookup y = some .local := by rfl) (hsw : swapsWith (.ListComp elt [⟨tg, iter, ifs, 0⟩] scope pos) (some (.Name y py)) spos.line X.env = pure true := by exact sw_true rfl rfl rfl (by decide +kernel))
    (hs : ∀ x, foldedSetIterable iter X.env x = pure x := by intro _; rfl) : VS X G (.Assign [.Name y py] (.ListComp elt [⟨tg, iter, ifs, 0⟩] scope pos) spos) V' := fun S0 H0 σ H S D E tk p ok' =>
  wS.of (ps_setLc gd.calm gd.nd hy hyl hsw pi_w ok (fun s H C cl fp => ⟨fun pins s' σ H v u Q I r h => h s _ C cl fp pins s' u I r⟩) (fun s H C cl fp => ⟨fun pins s' σ H Q I h => h s _ C cl fp pins s' I⟩) (fun s H C cl fp => ⟨fun pins s' σ H Q I h => h s _ C cl fp pins s' I⟩) hs)
    (lc_readR hi hz hb p fun a bs M H1 S1 g rw' m => ok'.nx _ _ H1 S1 (k a bs M rw') (p.setR g m (fun _ z => nomatch z) fun _ z => nomatch z))
end
end VL

-- VL8
set_option Elab.async false
set_option linter.all false
set_option autoImplicit false
set_option maxRecDepth 100000
set_option maxHeartbeats 4000000
/-! the script, turned lists, errors inside expressions, what == asks -/
namespace VL
open PySem PySem.Spec L2
open PyProof.Rows (envOfC)
section
variable {X : Cx} {G : Gm} {pos p : Pos} {tg iter a b c e elt : Expr} {ifs : List Expr} {ds : List D} {d : D} {scope : Scope} {own : List (Str × Nat)} {r ra : R} {KF : PySem.W.Frag} {ns : List Int}
/-! ### the script -/
theorem cr_lenSc : CRv (fun xs H Q => ∃ p ys, xs = [.ref p] ∧ (SqL X.K H p ys ∨ SqT X.K H p ys) ∧ Q (.int ys.length) H) [.sh (.scr X.K ns)] (.sh (.int ns.length)) := ⟨rfl, fun B S H vs Q s hk q => by
  obtain ⟨v, rfl, k⟩ := hda1 hk
  cases k with
  | scr h =>
    refine ⟨_, _, rfl, .inl (s.seq h), q _ H S (Gx.refl s) ?_⟩
    rw [List.length_map]
    exact .int _⟩
theorem ve_lenSc (ml : X.mg "len" = none) (h : VE X G e (.sh (.scr X.K ns))) (hg : Gl X "len" := by rfl) (he : starEach [e] X.env = (false, eval e X.env) :: starEach [] X.env := by rfl) (hpl : (backTo pos (starEach [] X.env)).any (·.1) = false := by rfl) :
    VE X G (.Call (.Name "len" p) [e] [] pos) (.sh (.int ns.length)) := ve_callB call_len_seq PySem.boot_len hg ml cr_lenSc (va_cons h va_nil (fun _ z => nomatch z) he) (by decide) (by decide) he hpl
theorem ve_ixSc {i m : Int} (ha : VE X G a (.sh (.scr X.K ns))) (hb : VE X G b (.sh (.int i))) (e : atI ns i = some m) (hs : PlainIx b := by exact fun _ _ => rfl) : VE X G (.Subscript a b pos) (.sh (.int m)) :=
  ve_ixR ix_list (ra := .sh (.scr X.K ns)) (rb := .sh (.int i)) ⟨rfl, fun B S H x y Q s k1 k2 q => by
    cases k1 with
    | scr h =>
      refine ⟨_, _, i, .int m, rfl, den_int.mp k2, s.seq h, ?_, q _ H S (Gx.refl s) (.int _)⟩
      unfold atI at e ⊢
      rw [List.length_map]
      cases hq : ixN ns.length i with
      | none => rw [hq] at e; cases e
      | some j =>
        rw [hq] at e
        show (ns.map V.int)[j]? = _
        rw [List.getElem?_map, show ns[j]? = some m from e]
        rfl⟩ ha hb hs
/-! ### xs[::-1] -/
theorem ve_rev {k : Nat} {p1 p2 p3 : Pos} (h : VE X G e r) (hr : r.asL = some ds) : VE X G (.Subscript e (.Slice none none (some (.UnaryOp .USub (.Constant (.int 1) k p1) p2)) p3) pos) (.ow ds.reverse) :=
  ⟨rfl, fun S0 H0 σ H S p Q q => wE.of (pe_revL pe_w) (h.2 S0 H0 σ H S p _ fun v H1 S1 g m => by
    obtain ⟨l, xs, rfl, e1, d1⟩ := m.asL hr h.1 g.sh
    refine ⟨l, xs, rfl, .of e1, fun t ht => ?_⟩
    exact q _ _ S1 (g.trans (Gx.new g.sh ht)) ⟨t, _, rfl, g.gone ht, Same.free g.sh ht, upd_same, d1.reverse⟩)⟩
/-! ### errors inside -/
theorem vx_argB {id : String} {x : Str} {xv : XV} {rr : List V → Hp → VK → Prop} (hc : CallR X (.builtin id) rr) (hv : bootBuiltins x = some (.builtin id)) (hg : Gl X x) (hm : X.mg x = none) (h : VX X G e xv) (hn : x ≠ "__name__" := by decide) (hdb : (x == ("__debug__" : Str)) = false := by decide)
    (he : starEach [e] X.env = (false, eval e X.env) :: starEach [] X.env := by rfl) (hpl : (backTo pos (starEach [] X.env)).any (·.1) = false := by rfl) : VX X G (.Call (.Name x p) [e] [] pos) xv := fun S0 H0 σ H S E tk p q =>
  wE.of (pe_callB hc hg hm hv pa_w hn hdb he hpl) (wA.of (pa_cons pe_w pa_w he) (wE.mono (h S0 H0 σ H S E tk p q) fun _ _ z => z.elim))
theorem vx_lenE {xv : XV} (ml : X.mg "len" = none) (h : VX X G e xv) (hg : Gl X "len" := by rfl) (he : starEach [e] X.env = (false, eval e X.env) :: starEach [] X.env := by rfl) (hpl : (backTo pos (starEach [] X.env)).any (·.1) = false := by rfl) : VX X G (.Call (.Name "len" p) [e] [] pos) xv :=
  vx_argB call_len_seq PySem.boot_len hg ml h (by decide) (by decide) he hpl
theorem vx_lc (gd : Good X) {xv : XV} (own : List (Str × Nat)) (h : VX X G iter xv) (ok : BlkOk X.N X.env.scope scope own)
    (hs : ∀ x, foldedSetIterable iter X.env x = pure x := by intro _; rfl) : VX X G (.ListComp elt [⟨tg, iter, ifs, 0⟩] scope pos) xv := fun S0 H0 σ H S E tk p q =>
  wE.of (pe_lc gd.calm gd.nd pi_w ok (fun s H C cl fp => ⟨fun pins s' σ H v u Q I r h => h s _ C cl fp pins s' u I r⟩) (fun s H C cl fp => ⟨fun pins s' σ H Q I h => h s _ C cl fp pins s' I⟩) (fun s H C cl fp => ⟨fun pins s' σ H Q I h => h s _ C cl fp pins s' I⟩) hs)
    (show tLc (wI X tg iter) (wbG X scope tg) (wbT X scope ifs) (wbE X scope elt) (own.map (·.2)) σ H _ from wI.of (pi_list pe_w) (wE.mono (h S0 H0 σ H S E tk p q) fun _ _ z => z.elim))
/-- if c: x = e -/
theorem vs_ifset {V : EndV} {k : Bool} {d0 : D} (gd : Good X) (i : Nat) {x : Str} {p2 : Pos} (hc : VT X G c k) (hG : G[i]? = some (some (.sh d0))) (h : k = true → VE X G e (.sh d)) (kk : V.nx (G.set i (some (.sh (if k = true then d else d0))))) (hi : X.N[i]? = some x := by rfl) (hx : Loc X.env.scope x := by first | exact Or.inl rfl | exact Or.inr rfl)
    (hs : swapsWith e (some (.Name x p2)) p.line X.env = pure false := by rfl) (hf : X.fn x = true ∨ X.env.scope.names.lookup x = some .local := by first | exact .inl rfl | exact .inr rfl) : VS X G (.If c [.Assign [.Name x p2] e p] [] pos) V := by
  refine vs_if hc (fun hk => ?_) fun hk => ?_
  · subst hk
    exact vss_one (vs_set gd i (h rfl) kk hi hx hs hf)
  · subst hk
    rw [if_neg (by decide), set_self hG] at kk
    exact vss_nil kk
end
/-! ### what == asks -/
def D.okN (n : Nat) (d : D) : Bool := d.pl && (d.py.canLay0 && decide (d.py.depth ≤ n))
def D.okA (n : Nat) (ds : List D) : Bool := D.plAll ds && (PyData.canLayAll0 (D.pyAll ds) && decide (PyData.depthAll (D.pyAll ds) ≤ n))
theorem okN_ok {n : Nat} {d : D} (h : d.okN n = true) (hn : n ≤ 64 := by decide) : d.ok = true := by
  unfold D.okN at h
  unfold D.ok SeqAt.shaped
  simp only [Bool.and_eq_true, decide_eq_true_eq] at h ⊢
  exact ⟨h.1, h.2.1, Nat.le_trans h.2.2 hn⟩
theorem okN_le {n m : Nat} {d : D} (h : d.okN n = true) (hn : n ≤ m := by decide) : d.okN m = true := by
  unfold D.okN at h ⊢
  simp only [Bool.and_eq_true, decide_eq_true_eq] at h ⊢
  exact ⟨h.1, h.2.1, Nat.le_trans h.2.2 hn⟩
theorem okN_int {i : Int} {n : Nat} : (D.int i).okN n = true := by simp [D.okN, D.pl, D.py, PyData.canLay0, PyData.depth]
theorem okN_bl {i : Bool} {n : Nat} : (D.bl i).okN n = true := by simp [D.okN, D.pl, D.py, PyData.canLay0, PyData.depth]
theorem okN_non {n : Nat} : D.non.okN n = true := by simp [D.okN, D.pl, D.py, PyData.canLay0, PyData.depth]
theorem okN_str {i : Str} {n : Nat} (h : PyData.strOk i = true) : (D.str i).okN n = true := by simp [D.okN, D.pl, D.py, PyData.canLay0, PyData.depth, h]
theorem okA_nil {n : Nat} : D.okA n [] = true := by simp [D.okA, D.plAll, D.pyAll, PyData.canLayAll0, PyData.depthAll]
theorem okA_cons {n : Nat} {d : D} {ds : List D} (h : d.okN n = true) (t : D.okA n ds = true) : D.okA n (d :: ds) = true := by
  unfold D.okN at h
  unfold D.okA at t ⊢
  simp only [D.plAll, D.pyAll, PyData.canLayAll0, PyData.depthAll, Bool.and_eq_true, decide_eq_true_eq] at h t ⊢
  exact ⟨⟨h.1, t.1⟩, ⟨h.2.1, t.2.1⟩, Nat.max_le.mpr ⟨h.2.2, t.2.2⟩⟩
theorem okA_of {n : Nat} : ∀ {ds : List D}, (∀ d ∈ ds, d.okN n = true) → D.okA n ds = true
  | [], _ => okA_nil
  | d :: ds, h => okA_cons (h d List.mem_cons_self) (okA_of fun d' h' => h d' (List.mem_cons_of_mem _ h'))
theorem okN_lst {n : Nat} {ds : List D} (h : D.okA n ds = true) : (D.lst ds).okN (n + 1) = true := by
  unfold D.okA at h
  unfold D.okN
  simp only [D.pl, D.py, PyData.canLay0, PyData.depth, Bool.and_eq_true, decide_eq_true_eq] at h ⊢
  exact ⟨h.1, h.2.1, Nat.succ_le_succ h.2.2⟩
theorem okN_tup {n : Nat} {ds : List D} (h : D.okA n ds = true) : (D.tup ds).okN (n + 1) = true := by
  unfold D.okA at h
  unfold D.okN
  simp only [D.pl, D.py, PyData.canLay0, PyData.depth, Bool.and_eq_true, decide_eq_true_eq] at h ⊢
  exact ⟨h.1, h.2.1, Nat.succ_le_succ h.2.2⟩
theorem ok_pl {d : D} (h : d.ok = true) : d.pl = true := (Bool.and_eq_true_iff.mp h).1
theorem eqD_refl {d : D} (h : d.ok = true) : eqD d d = true := SeqAt.eqv_refl _ (SeqAt.canLay_of_shaped (Bool.and_eq_true_iff.mp h).2)
end VL

-- K86m
set_option Elab.async false
set_option linter.all false
set_option autoImplicit false
set_option maxRecDepth 100000
set_option maxHeartbeats 4000000
/-! the mathematics of the least changes: no program here -/
namespace K86
open PySem (Str)
open VL (D)

/-! ### tables of steps -/
abbrev Tb := List (List (Nat × Nat))
def stD (s : Nat × Nat) : D := .tup [.int (s.1 : Nat), .int (s.2 : Nat)]
def tblD (t : Tb) : List D := t.map fun ss => .lst (ss.map stD)
/-- F tells the least costs -/
structure Lst (t : Tb) (F : Nat → Nat) : Prop where
  last : F t.length = 0
  ok : ∀ p ss, t[p]? = some ss → (∀ s ∈ ss, p < s.1 ∧ s.1 ≤ t.length ∧ F p ≤ s.2 + F s.1) ∧ ∃ s ∈ ss, F p = s.2 + F s.1
def ahD (n : Nat) (F : Nat → Nat) : List D := (List.range (n + 1)).map fun p => .int (F p : Nat)
def nextP (t : Tb) (F : Nat → Nat) (p : Nat) : Nat := match (t.getD p []).find? fun s => decide (s.2 + F s.1 = F p) with
  | some s => s.1
  | none => t.length
def wayF (t : Tb) (F : Nat → Nat) : Nat → Nat → List Nat
  | 0, p => [p]
  | k + 1, p => if p < t.length then p :: wayF t F k (nextP t F p) else [p]
theorem wayF_end {t : Tb} {F : Nat → Nat} {k p : Nat} (h : t.length ≤ p) : wayF t F k p = [p] := by
  cases k with
  | zero => rfl
  | succ k => unfold wayF; rw [if_neg (by omega)]
def natD (ps : List Nat) : List D := ps.map fun p => .int (p : Nat)

/-! ### the least number -/
def ed : List Str → List Str → Nat
  | [], ys => ys.length
  | x :: xs, [] => xs.length + 1
  | x :: xs, y :: ys => if x = y then min (1 + min (ed xs (y :: ys)) (ed (x :: xs) ys)) (ed xs ys) else 1 + min (ed xs (y :: ys)) (ed (x :: xs) ys)
termination_by xs ys => xs.length + ys.length
def ee (xs ys : List Str) (i j : Nat) : Nat := ed (xs.drop i) (ys.drop j)
section
variable {xs ys : List Str} {i j : Nat}
theorem ee_l (h : xs.length ≤ i) : ee xs ys i j = ys.length - j := by
  unfold ee
  rw [List.drop_eq_nil_of_le h]
  unfold ed
  rw [List.length_drop]
theorem ee_r (h : ys.length ≤ j) : ee xs ys i j = xs.length - i := by
  unfold ee
  rw [List.drop_eq_nil_of_le h]
  have := List.length_drop (l := xs) (i := i)
  cases hx : xs.drop i with
  | nil => unfold ed; rw [hx] at this; exact this
  | cons x r => unfold ed; rw [hx] at this; exact this
theorem drop_get {α : Type} {l : List α} {n : Nat} {x : α} (h : l[n]? = some x) : l.drop n = x :: l.drop (n + 1) := by
  obtain ⟨hn, e⟩ := List.getElem?_eq_some_iff.mp h
  rw [List.drop_eq_getElem_cons hn, e]
theorem ee_s {x y : Str} (h1 : xs[i]? = some x) (h2 : ys[j]? = some y) : ee xs ys i j = if x = y then min (1 + min (ee xs ys (i + 1) j) (ee xs ys i (j + 1))) (ee xs ys (i + 1) (j + 1)) else 1 + min (ee xs ys (i + 1) j) (ee xs ys i (j + 1)) := by
  unfold ee
  rw [drop_get h1, drop_get h2]
  conv => lhs; unfold ed
/-- what the least number is not, and what it is -/
theorem ee_go : i < xs.length → ee xs ys i j ≤ 1 + ee xs ys (i + 1) j := fun hi => by
  by_cases hj : j < ys.length
  · rw [ee_s (List.getElem?_eq_getElem hi) (List.getElem?_eq_getElem hj)]
    split <;> omega
  · rw [ee_r (by omega), ee_r (by omega)]
    omega
theorem ee_come : j < ys.length → ee xs ys i j ≤ 1 + ee xs ys i (j + 1) := fun hj => by
  by_cases hi : i < xs.length
  · rw [ee_s (List.getElem?_eq_getElem hi) (List.getElem?_eq_getElem hj)]
    split <;> omega
  · rw [ee_l (by omega), ee_l (by omega)]
    omega
theorem ee_stay {x : Str} (h1 : xs[i]? = some x) (h2 : ys[j]? = some x) : ee xs ys i j ≤ ee xs ys (i + 1) (j + 1) := by
  rw [ee_s h1 h2, if_pos rfl]
  omega
/-- one of the three -/
theorem ee_one (h : i < xs.length ∨ j < ys.length) : (j < ys.length ∧ ee xs ys i j = 1 + ee xs ys i (j + 1)) ∨ (i < xs.length ∧ ee xs ys i j = 1 + ee xs ys (i + 1) j) ∨ ∃ x, xs[i]? = some x ∧ ys[j]? = some x ∧ ee xs ys i j = ee xs ys (i + 1) (j + 1) := by
  by_cases hi : i < xs.length
  · by_cases hj : j < ys.length
    · have e := ee_s (xs := xs) (ys := ys) (List.getElem?_eq_getElem hi) (List.getElem?_eq_getElem hj)
      by_cases q : xs[i] = ys[j]
      · rw [if_pos q] at e
        by_cases c1 : ee xs ys i j = 1 + ee xs ys i (j + 1)
        · exact .inl ⟨hj, c1⟩
        · by_cases c2 : ee xs ys i j = 1 + ee xs ys (i + 1) j
          · exact .inr (.inl ⟨hi, c2⟩)
          · refine .inr (.inr ⟨xs[i], List.getElem?_eq_getElem hi, ?_, by omega⟩)
            rw [q]
            exact List.getElem?_eq_getElem hj
      · rw [if_neg q] at e
        by_cases c1 : ee xs ys i j = 1 + ee xs ys i (j + 1)
        · exact .inl ⟨hj, c1⟩
        · exact .inr (.inl ⟨hi, by omega⟩)
    · refine .inr (.inl ⟨hi, ?_⟩)
      rw [ee_r (by omega), ee_r (by omega)]
      omega
  · have hj : j < ys.length := by omega
    refine .inl ⟨hj, ?_⟩
    rw [ee_l (by omega), ee_l (by omega)]
    omega
end

/-! ### the house's changes -/
def come (j : Nat) : D := .tup [.str "come", .int (j : Nat)]
def go (i : Nat) : D := .tup [.str "go", .int (i : Nat)]
def stay (i j : Nat) : D := .tup [.str "stay", .int (i : Nat), .int (j : Nat)]
def due (xs ys : List Str) : Nat → Nat → Nat → List D
  | 0, _, _ => []
  | k + 1, i, j => if i < xs.length ∨ j < ys.length then
      if j < ys.length ∧ ee xs ys i j = 1 + ee xs ys i (j + 1) then come j :: due xs ys k i (j + 1)
      else if i < xs.length ∧ ee xs ys i j = 1 + ee xs ys (i + 1) j then go i :: due xs ys k (i + 1) j
      else stay i j :: due xs ys k (i + 1) (j + 1)
    else []
def dueD (xs ys : List Str) : List D := due xs ys (xs.length + ys.length) 0 0
theorem due_end {xs ys : List Str} {k i j : Nat} (h : ¬ (i < xs.length ∨ j < ys.length)) : due xs ys k i j = [] := by
  cases k with
  | zero => rfl
  | succ k => unfold due; rw [if_neg h]

/-! ### the table of changes -/
def cst (xs ys : List Str) (p : Nat) : List (Nat × Nat) :=
  (if p % (ys.length + 1) < ys.length then [(p + 1, 1)] else []) ++ ((if p / (ys.length + 1) < xs.length then [(p + (ys.length + 1), 1)] else []) ++
    (if p / (ys.length + 1) < xs.length ∧ p % (ys.length + 1) < ys.length ∧ xs[p / (ys.length + 1)]? = ys[p % (ys.length + 1)]? then [(p + (ys.length + 1) + 1, 0)] else []))
def csz (xs ys : List Str) : Nat := (xs.length + 1) * (ys.length + 1) - 1
def ctab (xs ys : List Str) : Tb := (List.range (csz xs ys)).map (cst xs ys)
def cF (xs ys : List Str) (p : Nat) : Nat := ee xs ys (p / (ys.length + 1)) (p % (ys.length + 1))
section
variable {xs ys : List Str} {i j p : Nat}
theorem ctab_len : (ctab xs ys).length = csz xs ys := by unfold ctab; rw [List.length_map, List.length_range]
theorem pl_div (h : j < ys.length + 1) : (i * (ys.length + 1) + j) / (ys.length + 1) = i := by
  rw [Nat.add_comm, Nat.add_mul_div_right _ _ (Nat.succ_pos _), Nat.div_eq_of_lt h, Nat.zero_add]
theorem pl_mod (h : j < ys.length + 1) : (i * (ys.length + 1) + j) % (ys.length + 1) = j := by
  rw [Nat.add_comm, Nat.add_mul_mod_self_right, Nat.mod_eq_of_lt h]
theorem csz_eq : csz xs ys = xs.length * (ys.length + 1) + ys.length := by
  unfold csz
  rw [Nat.add_mul, Nat.one_mul]
  omega
theorem cF_at (h : j < ys.length + 1) : cF xs ys (i * (ys.length + 1) + j) = ee xs ys i j := by unfold cF; rw [pl_div h, pl_mod h]
/-- a place by its two numbers -/
theorem pl_of (hp : p < csz xs ys) : ∃ i j, p = i * (ys.length + 1) + j ∧ j < ys.length + 1 ∧ i < xs.length + 1 ∧ (i < xs.length ∨ j < ys.length) := by
  have h1 := Nat.mod_lt p (Nat.succ_pos ys.length)
  have h2 : p / (ys.length + 1) * (ys.length + 1) + p % (ys.length + 1) = p := by rw [Nat.mul_comm]; exact Nat.div_add_mod p _
  have h3 : p / (ys.length + 1) < xs.length + 1 := by
    rw [Nat.div_lt_iff_lt_mul (show 0 < ys.length + 1 by omega)]
    unfold csz at hp
    omega
  refine ⟨_, _, h2.symm, h1, h3, ?_⟩
  by_cases c : p / (ys.length + 1) < xs.length
  · exact .inl c
  · refine .inr ?_
    have e : p / (ys.length + 1) = xs.length := by omega
    rw [e] at h2
    rw [csz_eq] at hp
    omega
theorem step1 (h : j < ys.length) : i * (ys.length + 1) + j + 1 = i * (ys.length + 1) + (j + 1) := by omega
theorem step2 : i * (ys.length + 1) + j + (ys.length + 1) = (i + 1) * (ys.length + 1) + j := by rw [Nat.add_mul, Nat.one_mul]; omega
theorem step3 : i * (ys.length + 1) + j + (ys.length + 1) + 1 = (i + 1) * (ys.length + 1) + (j + 1) := by rw [Nat.add_mul, Nat.one_mul]; omega
theorem pl_le (hi : i ≤ xs.length) (hj : j ≤ ys.length) : i * (ys.length + 1) + j ≤ csz xs ys := by
  rw [csz_eq]
  have := Nat.mul_le_mul_right (ys.length + 1) hi
  omega
theorem lst_c : Lst (ctab xs ys) (cF xs ys) := by
  refine ⟨?_, fun p ss h => ?_⟩
  · rw [ctab_len, csz_eq, cF_at (Nat.lt_succ_self _), ee_l (Nat.le_refl _), Nat.sub_self]
  · rw [ctab_len]
    unfold ctab at h
    rw [List.getElem?_map] at h
    by_cases hp : p < csz xs ys
    · rw [List.getElem?_range hp] at h
      cases h
      obtain ⟨i, j, rfl, hj, hi, hor⟩ := pl_of hp
      unfold cst
      rw [pl_div hj, pl_mod hj, cF_at hj]
      refine ⟨fun s hs => ?_, ?_⟩
      · rcases List.mem_append.mp hs with hs | hs
        · split at hs
          · rename_i c
            cases List.mem_singleton.mp hs
            refine ⟨Nat.lt_succ_self _, ?_, ?_⟩
            · show i * (ys.length + 1) + j + 1 ≤ _
              rw [step1 c]
              exact pl_le (by omega) (by omega)
            · show _ ≤ 1 + cF xs ys (i * (ys.length + 1) + j + 1)
              rw [step1 c, cF_at (by omega)]
              exact ee_come c
          · cases hs
        rcases List.mem_append.mp hs with hs | hs
        · split at hs
          · rename_i c
            cases List.mem_singleton.mp hs
            refine ⟨by show _ < _ + _; omega, ?_, ?_⟩
            · show i * (ys.length + 1) + j + (ys.length + 1) ≤ _
              rw [step2]
              exact pl_le (by omega) (by omega)
            · show _ ≤ 1 + cF xs ys (i * (ys.length + 1) + j + (ys.length + 1))
              rw [step2, cF_at hj]
              exact ee_go c
          · cases hs
        · split at hs
          · rename_i c
            obtain ⟨c1, c2, c3⟩ := c
            cases List.mem_singleton.mp hs
            refine ⟨by show _ < _ + _ + 1; omega, ?_, ?_⟩
            · show i * (ys.length + 1) + j + (ys.length + 1) + 1 ≤ _
              rw [step3]
              exact pl_le (by omega) (by omega)
            · show _ ≤ 0 + cF xs ys (i * (ys.length + 1) + j + (ys.length + 1) + 1)
              rw [step3, cF_at (by omega), Nat.zero_add]
              rw [List.getElem?_eq_getElem c1] at c3
              exact ee_stay (List.getElem?_eq_getElem c1) c3.symm
          · cases hs
      · rcases ee_one hor with ⟨h1, h2⟩ | ⟨h1, h2⟩ | ⟨x, h1, h2, h3⟩
        · refine ⟨(i * (ys.length + 1) + j + 1, 1), ?_, ?_⟩
          · rw [if_pos h1]
            exact List.mem_append_left _ List.mem_cons_self
          · show _ = 1 + cF xs ys (i * (ys.length + 1) + j + 1)
            rw [step1 h1, cF_at (by omega)]
            exact h2
        · refine ⟨(i * (ys.length + 1) + j + (ys.length + 1), 1), ?_, ?_⟩
          · rw [if_pos h1]
            exact List.mem_append_right _ (List.mem_append_left _ List.mem_cons_self)
          · show _ = 1 + cF xs ys (i * (ys.length + 1) + j + (ys.length + 1))
            rw [step2, cF_at hj]
            exact h2
        · obtain ⟨l1, _⟩ := List.getElem?_eq_some_iff.mp h1
          obtain ⟨l2, _⟩ := List.getElem?_eq_some_iff.mp h2
          refine ⟨(i * (ys.length + 1) + j + (ys.length + 1) + 1, 0), ?_, ?_⟩
          · rw [if_pos (show i < xs.length ∧ j < ys.length ∧ xs[i]? = ys[j]? from ⟨l1, l2, h1.trans h2.symm⟩)]
            exact List.mem_append_right _ (List.mem_append_right _ List.mem_cons_self)
          · show _ = 0 + cF xs ys (i * (ys.length + 1) + j + (ys.length + 1) + 1)
            rw [step3, cF_at (by omega), Nat.zero_add]
            exact h3
    · rw [List.getElem?_eq_none (by rw [List.length_range]; omega)] at h
      cases h
/-- the next place of the first way -/
theorem next_c (hj : j < ys.length + 1) (hi : i < xs.length + 1) (hor : i < xs.length ∨ j < ys.length) : nextP (ctab xs ys) (cF xs ys) (i * (ys.length + 1) + j) =
    if j < ys.length ∧ ee xs ys i j = 1 + ee xs ys i (j + 1) then i * (ys.length + 1) + (j + 1) else if i < xs.length ∧ ee xs ys i j = 1 + ee xs ys (i + 1) j then (i + 1) * (ys.length + 1) + j else (i + 1) * (ys.length + 1) + (j + 1) := by
  have hp : i * (ys.length + 1) + j < csz xs ys := by
    rw [csz_eq]
    rcases hor with h | h
    · have := Nat.mul_le_mul_right (ys.length + 1) (show i + 1 ≤ xs.length from h)
      rw [Nat.add_mul, Nat.one_mul] at this
      omega
    · have := Nat.mul_le_mul_right (ys.length + 1) (show i ≤ xs.length by omega)
      omega
  have hg : (ctab xs ys).getD (i * (ys.length + 1) + j) [] = cst xs ys (i * (ys.length + 1) + j) := by
    unfold ctab
    rw [List.getD_eq_getElem?_getD, List.getElem?_map, List.getElem?_range hp]
    rfl
  unfold nextP
  rw [hg, cF_at hj]
  unfold cst
  rw [pl_div hj, pl_mod hj]
  have k1 : j < ys.length → cF xs ys (i * (ys.length + 1) + j + 1) = ee xs ys i (j + 1) := fun h => by rw [step1 h, cF_at (by omega)]
  have k2 : cF xs ys (i * (ys.length + 1) + j + (ys.length + 1)) = ee xs ys (i + 1) j := by rw [step2, cF_at hj]
  have k3 : j < ys.length → cF xs ys (i * (ys.length + 1) + j + (ys.length + 1) + 1) = ee xs ys (i + 1) (j + 1) := fun h => by rw [step3, cF_at (by omega)]
  by_cases c1 : j < ys.length ∧ ee xs ys i j = 1 + ee xs ys i (j + 1)
  · rw [if_pos c1, if_pos c1.1, List.singleton_append, List.find?_cons_of_pos (by simp only [k1 c1.1, c1.2, decide_true])]
    exact step1 c1.1
  · rw [if_neg c1]
    have e1 : ((if j < ys.length then [(i * (ys.length + 1) + j + 1, 1)] else []) : List (Nat × Nat)).find? (fun s => decide (s.2 + cF xs ys s.1 = ee xs ys i j)) = none := by
      by_cases c : j < ys.length
      · rw [if_pos c, List.find?_cons_of_neg (by simp only [k1 c, decide_eq_true_eq]; intro z; exact c1 ⟨c, z.symm⟩)]
        rfl
      · rw [if_neg c]
        rfl
    rw [List.find?_append, e1, Option.none_or, List.find?_append]
    by_cases c2 : i < xs.length ∧ ee xs ys i j = 1 + ee xs ys (i + 1) j
    · rw [if_pos c2, if_pos c2.1, List.find?_cons_of_pos (by simp only [k2, c2.2, decide_true])]
      exact step2
    · rw [if_neg c2]
      have e2 : ((if i < xs.length then [(i * (ys.length + 1) + j + (ys.length + 1), 1)] else []) : List (Nat × Nat)).find? (fun s => decide (s.2 + cF xs ys s.1 = ee xs ys i j)) = none := by
        by_cases c : i < xs.length
        · rw [if_pos c, List.find?_cons_of_neg (by simp only [k2, decide_eq_true_eq]; intro z; exact c2 ⟨c, z.symm⟩)]
          rfl
        · rw [if_neg c]
          rfl
      rw [e2, Option.none_or]
      rcases ee_one hor with h | h | ⟨x, h1, h2, h3⟩
      · exact absurd h c1
      · exact absurd h c2
      · obtain ⟨l1, _⟩ := List.getElem?_eq_some_iff.mp h1
        obtain ⟨l2, _⟩ := List.getElem?_eq_some_iff.mp h2
        rw [if_pos (show i < xs.length ∧ j < ys.length ∧ xs[i]? = ys[j]? from ⟨l1, l2, h1.trans h2.symm⟩), List.find?_cons_of_pos (by simp only [k3 l2, h3, Nat.zero_add, decide_true])]
        exact step3
/-- the change between two places -/
def chg (n : Nat) (i k : Int) : D :=
  if k = i + (n + 1) + 1 then .tup [.str "stay", .int (i / (n + 1)), .int (i % (n + 1))]
  else if k = i + 1 ∧ i % (n + 1) < n then .tup [.str "come", .int (i % (n + 1))] else .tup [.str "go", .int (i / (n + 1))]
/-! ### the way's changes are the house's -/
theorem wayF_head {t : Tb} {F : Nat → Nat} : ∀ (k p : Nat), ∃ r, wayF t F k p = p :: r
  | 0, p => ⟨[], rfl⟩
  | k + 1, p => by
    unfold wayF
    split
    · exact ⟨_, rfl⟩
    · exact ⟨_, rfl⟩
def prs (ps : List Nat) : List (Nat × Nat) := ps.zip ps.tail
theorem cast_div {p : Nat} {n : Nat} : ((p : Nat) : Int) / ((n : Int) + 1) = ((p / (n + 1) : Nat) : Int) := by
  rw [show ((n : Int) + 1) = ((n + 1 : Nat) : Int) by omega, Int.natCast_ediv]
theorem cast_mod {p : Nat} {n : Nat} : ((p : Nat) : Int) % ((n : Int) + 1) = ((p % (n + 1) : Nat) : Int) := by
  rw [show ((n : Int) + 1) = ((n + 1 : Nat) : Int) by omega, Int.natCast_emod]
theorem chg_come (h : j < ys.length) : chg ys.length ((i * (ys.length + 1) + j : Nat) : Int) ((i * (ys.length + 1) + (j + 1) : Nat) : Int) = come j := by
  unfold chg
  rw [if_neg (by omega), cast_mod, pl_mod (by omega), if_pos ⟨by omega, by omega⟩]
  rfl
theorem chg_go (h : j < ys.length + 1) : chg ys.length ((i * (ys.length + 1) + j : Nat) : Int) (((i + 1) * (ys.length + 1) + j : Nat) : Int) = go i := by
  have e : (i + 1) * (ys.length + 1) + j = i * (ys.length + 1) + j + (ys.length + 1) := step2.symm
  unfold chg
  rw [e, if_neg (by omega), cast_mod, pl_mod h, cast_div, pl_div h, if_neg (by omega)]
  rfl
theorem chg_stay (h : j < ys.length) : chg ys.length ((i * (ys.length + 1) + j : Nat) : Int) (((i + 1) * (ys.length + 1) + (j + 1) : Nat) : Int) = stay i j := by
  have e : (i + 1) * (ys.length + 1) + (j + 1) = i * (ys.length + 1) + j + (ys.length + 1) + 1 := step3.symm
  unfold chg
  rw [e, if_pos (by omega), cast_mod, pl_mod (by omega), cast_div, pl_div (by omega)]
  rfl
theorem way_due : ∀ (k i j : Nat), i ≤ xs.length → j ≤ ys.length → (xs.length - i) + (ys.length - j) ≤ k →
    (prs (wayF (ctab xs ys) (cF xs ys) k (i * (ys.length + 1) + j))).map (fun q => chg ys.length (q.1 : Nat) (q.2 : Nat)) = due xs ys k i j
  | 0, i, j, hi, hj, hk => rfl
  | k + 1, i, j, hi, hj, hk => by
    by_cases hor : i < xs.length ∨ j < ys.length
    · have hp : i * (ys.length + 1) + j < (ctab xs ys).length := by
        rw [ctab_len, csz_eq]
        rcases hor with h | h
        · have := Nat.mul_le_mul_right (ys.length + 1) (show i + 1 ≤ xs.length from h)
          rw [Nat.add_mul, Nat.one_mul] at this
          omega
        · have := Nat.mul_le_mul_right (ys.length + 1) hi
          omega
      unfold wayF due
      rw [if_pos hp, if_pos hor, next_c (by omega) (by omega) hor]
      have fin : ∀ (i' j' : Nat) (d : D), i' ≤ xs.length → j' ≤ ys.length → (xs.length - i') + (ys.length - j') ≤ k → chg ys.length ((i * (ys.length + 1) + j : Nat) : Int) ((i' * (ys.length + 1) + j' : Nat) : Int) = d →
          (prs ((i * (ys.length + 1) + j) :: wayF (ctab xs ys) (cF xs ys) k (i' * (ys.length + 1) + j'))).map (fun q => chg ys.length (q.1 : Nat) (q.2 : Nat)) = d :: due xs ys k i' j' := fun i' j' d h1 h2 h3 h4 => by
        have ih := way_due k i' j' h1 h2 h3
        obtain ⟨r, hr⟩ := wayF_head (t := ctab xs ys) (F := cF xs ys) k (i' * (ys.length + 1) + j')
        rw [hr] at ih ⊢
        unfold prs at ih ⊢
        show (chg _ _ _ :: (((i' * (ys.length + 1) + j') :: r).zip r).map _) = _
        rw [h4]
        exact congrArg (d :: ·) ih
      by_cases c1 : j < ys.length ∧ ee xs ys i j = 1 + ee xs ys i (j + 1)
      · rw [if_pos c1, if_pos c1]
        exact fin i (j + 1) _ hi c1.1 (by omega) (chg_come c1.1)
      · rw [if_neg c1, if_neg c1]
        by_cases c2 : i < xs.length ∧ ee xs ys i j = 1 + ee xs ys (i + 1) j
        · rw [if_pos c2, if_pos c2]
          exact fin (i + 1) j _ c2.1 hj (by omega) (chg_go (by omega))
        · rw [if_neg c2, if_neg c2]
          rcases ee_one hor with h | h | ⟨x, h1, h2, h3⟩
          · exact absurd h c1
          · exact absurd h c2
          · obtain ⟨l1, _⟩ := List.getElem?_eq_some_iff.mp h1
            obtain ⟨l2, _⟩ := List.getElem?_eq_some_iff.mp h2
            exact fin (i + 1) (j + 1) _ l1 l2 (by omega) (chg_stay l2)
    · rw [due_end hor, wayF_end (by
        rw [ctab_len, csz_eq]
        have e1 : i = xs.length := by omega
        have e2 : j = ys.length := by omega
        rw [e1, e2]
        exact Nat.le_refl _)]
      rfl
theorem due_fuel : ∀ (k l i j : Nat), i ≤ xs.length → j ≤ ys.length → (xs.length - i) + (ys.length - j) ≤ k → (xs.length - i) + (ys.length - j) ≤ l → due xs ys k i j = due xs ys l i j
  | 0, l, i, j, hi, hj, hk, _ => by rw [due_end (by omega), due_end (by omega)]
  | k + 1, 0, i, j, hi, hj, _, hl => by rw [due_end (by omega), due_end (by omega)]
  | k + 1, l + 1, i, j, hi, hj, hk, hl => by
    by_cases hor : i < xs.length ∨ j < ys.length
    · unfold due
      rw [if_pos hor, if_pos hor]
      by_cases c1 : j < ys.length ∧ ee xs ys i j = 1 + ee xs ys i (j + 1)
      · rw [if_pos c1, if_pos c1, due_fuel k l i (j + 1) hi c1.1 (by omega) (by omega)]
      · rw [if_neg c1, if_neg c1]
        by_cases c2 : i < xs.length ∧ ee xs ys i j = 1 + ee xs ys (i + 1) j
        · rw [if_pos c2, if_pos c2, due_fuel k l (i + 1) j c2.1 hj (by omega) (by omega)]
        · rw [if_neg c2, if_neg c2]
          rcases ee_one hor with h | h | ⟨x, h1, h2, h3⟩
          · exact absurd h c1
          · exact absurd h c2
          · obtain ⟨l1, _⟩ := List.getElem?_eq_some_iff.mp h1
            obtain ⟨l2, _⟩ := List.getElem?_eq_some_iff.mp h2
            rw [due_fuel k l (i + 1) (j + 1) l1 l2 (by omega) (by omega)]
    · rw [due_end hor, due_end hor]
/-- each of the house's changes is one of the three -/
def Chg (xs ys : List Str) (d : D) : Prop := (∃ j, d = come j ∧ j < ys.length) ∨ (∃ i, d = go i ∧ i < xs.length) ∨ ∃ i j, d = stay i j ∧ i < xs.length ∧ j < ys.length ∧ xs[i]? = ys[j]?
/-- what comes of a change -/
def dn (xs ys : List Str) : D → Option D
  | .tup (.str t :: .int n :: _) => if t = "stay" then xs[n.toNat]?.map D.str else if t = "come" then ys[n.toNat]?.map D.str else none
  | _ => none
theorem due_all : ∀ (k i j : Nat), i ≤ xs.length → j ≤ ys.length → (xs.length - i) + (ys.length - j) ≤ k → (∀ d ∈ due xs ys k i j, Chg xs ys d) ∧ (due xs ys k i j).filterMap (dn xs ys) = (ys.drop j).map D.str
  | 0, i, j, hi, hj, hk => by
    refine ⟨fun d (hd : d ∈ ([] : List D)) => absurd hd List.not_mem_nil, ?_⟩
    rw [List.drop_eq_nil_of_le (by omega)]
    rfl
  | k + 1, i, j, hi, hj, hk => by
    by_cases hor : i < xs.length ∨ j < ys.length
    · unfold due
      rw [if_pos hor]
      by_cases c1 : j < ys.length ∧ ee xs ys i j = 1 + ee xs ys i (j + 1)
      · rw [if_pos c1]
        obtain ⟨h1, h2⟩ := due_all k i (j + 1) hi c1.1 (by omega)
        refine ⟨fun d hd => ?_, ?_⟩
        · rcases List.mem_cons.mp hd with rfl | hd
          · exact .inl ⟨j, rfl, c1.1⟩
          · exact h1 d hd
        · rw [drop_get (List.getElem?_eq_getElem c1.1), List.map_cons, ← h2, List.filterMap_cons]
          have e : dn xs ys (come j) = some (.str ys[j]) := by
            show (if ("come" : Str) = "stay" then xs[((j : Nat) : Int).toNat]?.map D.str else if ("come" : Str) = "come" then ys[((j : Nat) : Int).toNat]?.map D.str else none) = _
            rw [if_neg (by decide), if_pos rfl]
            rw [Int.toNat_natCast, List.getElem?_eq_getElem c1.1]
            rfl
          rw [e]
      · rw [if_neg c1]
        by_cases c2 : i < xs.length ∧ ee xs ys i j = 1 + ee xs ys (i + 1) j
        · rw [if_pos c2]
          obtain ⟨h1, h2⟩ := due_all k (i + 1) j c2.1 hj (by omega)
          refine ⟨fun d hd => ?_, ?_⟩
          · rcases List.mem_cons.mp hd with rfl | hd
            · exact .inr (.inl ⟨i, rfl, c2.1⟩)
            · exact h1 d hd
          · rw [List.filterMap_cons]
            have e : dn xs ys (go i) = none := by
              show (if ("go" : Str) = "stay" then xs[((i : Nat) : Int).toNat]?.map D.str else if ("go" : Str) = "come" then ys[((i : Nat) : Int).toNat]?.map D.str else none) = _
              rw [if_neg (by decide), if_neg (by decide)]
            rw [e]
            exact h2
        · rw [if_neg c2]
          rcases ee_one hor with h | h | ⟨x, q1, q2, q3⟩
          · exact absurd h c1
          · exact absurd h c2
          · obtain ⟨l1, e1⟩ := List.getElem?_eq_some_iff.mp q1
            obtain ⟨l2, e2⟩ := List.getElem?_eq_some_iff.mp q2
            obtain ⟨h1, h2⟩ := due_all k (i + 1) (j + 1) l1 l2 (by omega)
            refine ⟨fun d hd => ?_, ?_⟩
            · rcases List.mem_cons.mp hd with rfl | hd
              · exact .inr (.inr ⟨i, j, rfl, l1, l2, q1.trans q2.symm⟩)
              · exact h1 d hd
            · rw [drop_get q2, List.map_cons, ← h2, List.filterMap_cons]
              have e : dn xs ys (stay i j) = some (.str x) := by
                show (if ("stay" : Str) = "stay" then xs[((i : Nat) : Int).toNat]?.map D.str else if ("stay" : Str) = "come" then ys[((i : Nat) : Int).toNat]?.map D.str else none) = _
                rw [if_pos rfl]
                rw [Int.toNat_natCast, q1]
                rfl
              rw [e]
    · rw [due_end hor]
      refine ⟨fun d (hd : d ∈ ([] : List D)) => absurd hd List.not_mem_nil, ?_⟩
      rw [List.drop_eq_nil_of_le (by omega)]
      rfl
end
end K86

-- K86b
set_option Elab.async false
set_option linter.all false
set_option autoImplicit false
set_option maxRecDepth 100000
set_option maxHeartbeats 4000000
namespace K86
open PySem PySem.Spec L2 VL
open PyProof.Rows (envOfC)
open PySem.Ink (InkTxt)
def topS (i : Nat) : Stmt := PySem.Challenge.pw_inkedtrue_k86_least_changes.main.body.getD i (.Pass ⟨0, 0, 0, 0⟩)
abbrev wsD (xs : List Str) : List D := xs.map D.str
theorem sz_le {n m : Nat} (h : n ≤ m) (k : m ≤ 16777216) : n ≤ sizeLine := by rw [sizeLine_eq]; omega
theorem sz_lt {n m : Nat} (h : n < m) (k : m ≤ 16777216) : n < sizeLine := by rw [sizeLine_eq]; omega
section
variable {P : Program} {w : World} {K : PySem.W.Frag} {mg : Str → Option Value} {base : Heap}

/-! ### change_of -/
theorem scCO : FnScope ["first", "second", "at", "behind", "wide", "i", "j"] ["first", "second", "at", "behind"] (defScope (topS 15)) := ⟨rfl, rfl, rfl, by decide +kernel, rfl, by decide +kernel, by decide +kernel⟩
def spCO : VSpec := fun rs post _ => ∃ (f s : List D) (i k : Int), rs = [.en f, .en s, .sh (.int i), .sh (.int k)] ∧ s.length ≤ 2000 ∧ post (.sh (chg s.length i k))
theorem ok_CO {f : Addr} {fd : FuncData} (F : Fun K "change_of" "change_of" (topS 15) f fd) (ml : mg "len" = none) : FnV P w K mg base 1 f fd ["first", "second", "at", "behind"] spCO := by
  refine FnV.mk F scCO (fun rs post xp h => ?_) fun cdv A outer s H E hr gd rs post xp h => ?_
  · obtain ⟨f, s, i, k, rfl, _⟩ := h
    rfl
  · obtain ⟨f, s, i, k, rfl, hs, hp⟩ := h
    refine vss_cons (vs_set gd 4 (ve_add (ve_len ml (ve_varL 1 rfl rfl) rfl) ve_int) ?_)
    refine vss_cons (vs_par gd 5 6 (vas_cons (ve_fdiv (ve_var 2 rfl) (ve_var 4 rfl) ?_) (vas_cons (ve_mod (ve_var 2 rfl) (ve_var 4 rfl) ?_) vas_nil)) ?_)
    · exact ⟨by omega, by omega⟩
    · omega
    refine vss_cons (vs_if (vt_eqI (ve_var 3 rfl) (ve_add (ve_add (ve_var 2 rfl) (ve_var 4 rfl)) ve_int)) (fun hk => ?_) fun hk => ?_)
    · refine vss_one (vs_ret (ve_tup (vas_cons ve_str (vas_cons (ve_var 5 rfl) (vas_cons (ve_var 6 rfl) vas_nil)))) ?_)
      have e : k = i + (s.length + 1) + 1 := of_decide_eq_true hk
      unfold chg at hp
      rw [if_pos e] at hp
      exact hp
    · have e : ¬ k = i + (s.length + 1) + 1 := of_decide_eq_false hk
      unfold chg at hp
      rw [if_neg e] at hp
      refine vss_nil ?_
      refine vss_one (vs_ret (r := .sh (if k = i + 1 ∧ i % (s.length + 1) < s.length then .tup [.str "come", .int (i % (s.length + 1))] else .tup [.str "go", .int (i / (s.length + 1))])) ?_ hp)
      refine ve_ite (VW.t (vw_and (vt_eqI (ve_var 3 rfl) (ve_add (ve_var 2 rfl) ve_int)) fun _ => vw_and1 (vt_lt (ve_var 6 rfl) (ve_len ml (ve_varL 1 rfl rfl) rfl)))) (fun h => ?_) fun h => ?_
      · rw [Bool.and_eq_true, decide_eq_true_eq, decide_eq_true_eq] at h
        rw [if_pos h]
        exact ve_tup (vas_cons ve_str (vas_cons (ve_var 6 rfl) vas_nil))
      · have h' : ¬ (k = i + 1 ∧ i % (s.length + 1) < s.length) := fun z => by
          rw [decide_eq_true z.1, decide_eq_true z.2] at h
          cases h
        rw [if_neg h']
        exact ve_tup (vas_cons ve_str (vas_cons (ve_var 5 rfl) vas_nil))

/-! ### check_sizes -/
theorem scCS : FnScope ["first", "second"] ["first", "second"] (defScope (topS 13)) := ⟨rfl, rfl, rfl, by decide +kernel, rfl, by decide +kernel, by decide +kernel⟩
def xTM (C : Addr) : XV := (.ref C, some (["limit"], [.int 1900]))
def spCS (C : Addr) : VSpec := fun rs post xp => ∃ f s : List D, rs = [.en f, .en s] ∧ f.length ≤ 2000 ∧ s.length ≤ 2000 ∧ (if 1900 < (f.length + 1) * (s.length + 1) then xp (xTM C) else post (.sh .non))
theorem ok_CS {f C fI : Addr} {fd : FuncData} {qual : Str} {tk : Tok} (F : Fun K "check_sizes" "check_sizes" (topS 13) f fd) (ml : mg "len" = none) (mc : mg "MOST_CELLS" = some (.int 1900 tk)) (T : InkTxt P K C fI "limit" qual) (mC : mg "TooMany" = some (.ref C)) : FnV P w K mg base 1 f fd ["first", "second"] (spCS C) := by
  refine FnV.mk F scCS (fun rs post xp h => ?_) fun cdv A outer s H E hr gd rs post xp h => ?_
  · obtain ⟨f, s, rfl, _⟩ := h
    rfl
  · obtain ⟨f, s, rfl, hf, hs, hp⟩ := h
    have hc : ∀ S, Den S (.int 1900) (.int 1900) := fun S => .int 1900
    refine vss_one (vs_if (vt_gt (ve_mul (ve_add (ve_len ml (ve_varL 0 rfl rfl) rfl) ve_int) (ve_add (ve_len ml (ve_varL 1 rfl rfl) rfl) ve_int) ?_) (ve_glob (v := .int 1900) rfl mc ⟨_, rfl⟩ hc)) (fun hk => ?_) fun hk => ?_)
    · exact .inl ⟨by omega, by omega⟩
    · have e := of_decide_eq_true hk
      have e2 : 1900 < (f.length + 1) * (s.length + 1) := by
        have q : (((f.length + 1) * (s.length + 1) : Nat) : Int) = ((f.length : Int) + 1) * ((s.length : Int) + 1) := by rw [Int.natCast_mul]; rfl
        omega
      rw [if_pos e2] at hp
      exact vss_one (vs_raise gd T mC hr (ve_glob (v := .int 1900) rfl mc ⟨_, rfl⟩ hc) hp)
    · have e := of_decide_eq_false hk
      have e2 : ¬ 1900 < (f.length + 1) * (s.length + 1) := by
        have q : (((f.length + 1) * (s.length + 1) : Nat) : Int) = ((f.length : Int) + 1) * ((s.length : Int) + 1) := by rw [Int.natCast_mul]; rfl
        omega
      rw [if_neg e2] at hp
      exact vss_nil hp
end
end K86

-- K86c
set_option Elab.async false
set_option linter.all false
set_option autoImplicit false
set_option maxRecDepth 100000
set_option maxHeartbeats 4000000
namespace K86
open PySem PySem.Spec L2 VL
open PyProof.Rows (envOfC)
open PySem.Ink (InkTxt)
theorem at_nat {α : Type} {l : List α} {i : Int} {k : Nat} {x : α} (e : i = (k : Int)) (h : l[k]? = some x) : atI l i = some x := by
  rw [e]
  exact atI_nat h
theorem ws_at {xs : List Str} {k : Nat} {x : Str} (h : xs[k]? = some x) : (wsD xs)[k]? = some (.str x) := by
  rw [List.getElem?_map, h]
  rfl
section
variable {P : Program} {w : World} {K : PySem.W.Frag} {mg : Str → Option Value} {base : Heap}

/-! ### change_table -/
theorem scCT : FnScope ["first", "second", "wide", "found", "at", "i", "j", "steps"] ["first", "second"] (defScope (topS 14)) := ⟨rfl, rfl, rfl, by decide +kernel, rfl, by decide +kernel, by decide +kernel⟩
def spCT : VSpec := fun rs post _ => ∃ xs ys : List Str, rs = [.en (wsD xs), .en (wsD ys)] ∧ xs.length ≤ 2000 ∧ ys.length ≤ 2000 ∧ csz xs ys ≤ 100000 ∧ post (.ow (tblD (ctab xs ys)))
theorem take_ctab {xs ys : List Str} {k : Nat} (h : k < csz xs ys) : tblD ((ctab xs ys).take (k + 1)) = tblD ((ctab xs ys).take k) ++ [.lst ((cst xs ys k).map stD)] := by
  unfold tblD
  rw [List.take_add_one, List.map_append]
  unfold ctab
  rw [List.getElem?_map, List.getElem?_range h]
  rfl
theorem ok_CT {f : Addr} {fd : FuncData} (F : Fun K "change_table" "change_table" (topS 14) f fd) (ml : mg "len" = none) (mr : mg "range" = none) : FnV P w K mg base 1 f fd ["first", "second"] spCT := by
  refine FnV.mk F scCT (fun rs post xp h => ?_) fun cdv A outer s H E hr gd rs post xp h => ?_
  · obtain ⟨xs, ys, rfl, _⟩ := h
    rfl
  · obtain ⟨xs, ys, rfl, hx, hy, hz, hp⟩ := h
    have lx : (wsD xs).length = xs.length := List.length_map _
    have ly : (wsD ys).length = ys.length := List.length_map _
    have hcs : csz xs ys = xs.length * (ys.length + 1) + ys.length := csz_eq
    have hprod : (((xs.length : Int) + 1) * ((ys.length : Int) + 1) - 1) = (csz xs ys : Nat) := by
      rw [hcs, show ((xs.length : Int) + 1) * ((ys.length : Int) + 1) = (((xs.length + 1) * (ys.length + 1) : Nat) : Int) by rw [Int.natCast_mul]; rfl, Nat.add_mul, Nat.one_mul]
      omega
    refine vss_cons (vs_set gd 2 (ve_add (ve_len ml (ve_varL 1 rfl rfl) rfl) ve_int) ?_)
    refine vss_cons (vs_setO gd 3 (ve_lst vas_nil) ?_)
    refine vss_cons (vs_for gd (fun k G => ∃ a b c d, G = [some (.en (wsD xs)), some (.en (wsD ys)), some (.sh (.int ((ys.length : Nat) + 1))), some (.ow (tblD ((ctab xs ys).take k))), a, b, c, d]) (vi_rng1 (j := (csz xs ys : Nat)) mr ?_ (by omega) (by omega)) ?_ ?_ ?_)
    · refine VE.is (ve_sub (ve_mul (ve_add (ve_len ml (ve_varL 0 rfl rfl) rfl) ve_int) (ve_var 2 rfl) ?_) ve_int) ?_
      · exact .inl ⟨by omega, by omega⟩
      · rw [lx, ly, hprod]
    · refine ⟨none, none, none, none, ?_⟩
      rw [← ly]
      rfl
    · rintro k d G hk ⟨a, b, c, d', rfl⟩
      have hk2 : k < csz xs ys := by
        obtain ⟨q, _⟩ := List.getElem?_eq_some_iff.mp hk
        rw [rng_len] at q
        omega
      rw [rng_at (by omega)] at hk
      cases hk
      rw [Int.zero_add]
      refine ⟨_, vg_name gd 4 ?_⟩
      refine vss_cons (vs_par gd 5 6 (d1 := .int ((k / (ys.length + 1) : Nat) : Int)) (d2 := .int ((k % (ys.length + 1) : Nat) : Int)) (vas_cons (VE.is (ve_fdiv (ve_var 4 rfl) (ve_var 2 rfl) ?_) ?_) (vas_cons (VE.is (ve_mod (ve_var 4 rfl) (ve_var 2 rfl) ?_) ?_) vas_nil)) ?_)
      · exact ⟨by omega, by omega⟩
      · rw [← cast_div]
      · omega
      · rw [← cast_mod]
      refine vss_cons (vs_setO gd 7 (ve_lst vas_nil) ?_)
      have hi := Nat.mod_lt k (show 0 < ys.length + 1 by omega)
      have hd3 : k / (ys.length + 1) < xs.length + 1 := (Nat.div_lt_iff_lt_mul (show 0 < ys.length + 1 by omega)).mpr (by rw [Nat.add_mul, Nat.one_mul]; omega)
      refine vss_cons (vs_ifapp 7 (vt_lt (ve_var 6 rfl) (ve_len ml (ve_varL 1 rfl rfl) rfl)) rfl (fun _ => ve_tup (vas_cons (ve_add (ve_var 4 rfl) ve_int) (vas_cons ve_int vas_nil))) (sz_lt (m := 1) Nat.zero_lt_one (by decide)) ?_)
      refine vss_cons (vs_ifapp 7 (vt_lt (ve_var 5 rfl) (ve_len ml (ve_varL 0 rfl rfl) rfl)) rfl (fun _ => ve_tup (vas_cons (ve_add (ve_var 4 rfl) (ve_var 2 rfl)) (vas_cons ve_int vas_nil))) ?_ ?_)
      · exact sz_lt (m := 2) (by split <;> simp) (by decide)
      let eqk : Bool := decide (xs[k / (ys.length + 1)]? = ys[k % (ys.length + 1)]?)
      refine vss_cons (vs_ifapp (k := decide (((k / (ys.length + 1) : Nat) : Int) < (wsD xs).length) && (decide (((k % (ys.length + 1) : Nat) : Int) < (wsD ys).length) && eqk)) 7 (VW.t (vw_and (vt_lt (ve_var 5 rfl) (ve_len ml (ve_varL 0 rfl rfl) rfl)) fun h1 => vw_and (vt_lt (ve_var 6 rfl) (ve_len ml (ve_varL 1 rfl rfl) rfl)) fun h2 => vw_and1 ?_)) rfl (fun _ => ve_tup (vas_cons (ve_add (ve_add (ve_var 4 rfl) (ve_var 2 rfl)) ve_int) (vas_cons ve_int vas_nil))) ?_ ?_)
      · have h1' := of_decide_eq_true h1
        have h2' := of_decide_eq_true h2
        rw [lx] at h1'
        rw [ly] at h2'
        have g1 : xs[k / (ys.length + 1)]? = some (xs[k / (ys.length + 1)]'(by omega)) := List.getElem?_eq_getElem _
        have g2 : ys[k % (ys.length + 1)]? = some (ys[k % (ys.length + 1)]'(by omega)) := List.getElem?_eq_getElem _
        refine VT.is (vt_eqS (ve_ix (ve_varL 0 rfl rfl) (ve_var 5 rfl) rfl (at_nat rfl (ws_at g1))) (ve_ix (ve_varL 1 rfl rfl) (ve_var 6 rfl) rfl (at_nat rfl (ws_at g2)))) ?_
        show _ = decide (xs[k / (ys.length + 1)]? = ys[k % (ys.length + 1)]?)
        rw [g1, g2]
        simp
      · exact sz_lt (m := 3) (by split <;> split <;> simp) (by decide)
      refine vss_frz 7 rfl ?_
      refine vss_one (vs_app 3 rfl (ve_var 7 rfl) ?_ ?_)
      · refine sz_lt (m := 100000) ?_ (by decide)
        unfold tblD
        rw [List.length_map, List.length_take, ctab_len]
        omega
      · have e : (([] ++ (if decide (((k % (ys.length + 1) : Nat) : Int) < (wsD ys).length) = true then [D.tup [.int ((k : Nat) + 1), .int 1]] else [])) ++ (if decide (((k / (ys.length + 1) : Nat) : Int) < (wsD xs).length) = true then [D.tup [.int ((k : Nat) + ((ys.length : Nat) + 1)), .int 1]] else [])) ++
            (if (decide (((k / (ys.length + 1) : Nat) : Int) < (wsD xs).length) && (decide (((k % (ys.length + 1) : Nat) : Int) < (wsD ys).length) && eqk)) = true then [D.tup [.int ((k : Nat) + ((ys.length : Nat) + 1) + 1), .int 0]] else []) = (cst xs ys k).map stD := by
          unfold cst
          rw [lx, ly, List.map_append, List.map_append, List.nil_append, List.append_assoc]
          congr 1
          · by_cases c : k % (ys.length + 1) < ys.length
            · rw [if_pos c, if_pos (decide_eq_true (by omega))]
              rfl
            · rw [if_neg c, if_neg (by rw [decide_eq_true_eq]; omega)]
              rfl
          congr 1
          · by_cases c : k / (ys.length + 1) < xs.length
            · rw [if_pos c, if_pos (decide_eq_true (by omega))]
              rfl
            · rw [if_neg c, if_neg (by rw [decide_eq_true_eq]; omega)]
              rfl
          · by_cases c : k / (ys.length + 1) < xs.length ∧ k % (ys.length + 1) < ys.length ∧ xs[k / (ys.length + 1)]? = ys[k % (ys.length + 1)]?
            · rw [if_pos c, if_pos (by rw [decide_eq_true (show ((k / (ys.length + 1) : Nat) : Int) < xs.length by omega), decide_eq_true (show ((k % (ys.length + 1) : Nat) : Int) < ys.length by omega)]; exact decide_eq_true c.2.2)]
              rfl
            · rw [if_neg c, if_neg (fun z => c ?_)]
              · rfl
              · rw [Bool.and_eq_true, Bool.and_eq_true] at z
                have z1 := of_decide_eq_true z.1
                have z2 := of_decide_eq_true z.2.1
                exact ⟨by omega, by omega, of_decide_eq_true z.2.2⟩
        show ∃ a b c d, _ = _
        rw [take_ctab hk2, ← e]
        exact ⟨_, _, _, _, rfl⟩
    · rintro G ⟨a, b, c, d, rfl⟩
      rw [rng_len]
      refine vss_one (vs_retO 3 rfl ?_)
      have e : (ctab xs ys).take (csz xs ys : Int).toNat = ctab xs ys := by
        rw [List.take_of_length_le (by rw [ctab_len]; omega)]
      rw [e]
      exact hp
end
end K86

-- K86d
set_option Elab.async false
set_option linter.all false
set_option autoImplicit false
set_option maxRecDepth 100000
set_option maxHeartbeats 4000000
namespace K86
open PySem PySem.Spec L2 VL
open PyProof.Rows (envOfC)
open PySem.Ink (InkTxt)
/-- what is found behind k turns -/
def fnd (n k : Nat) (F : Nat → Nat) : List D := (List.range (n + 1)).map fun p => if n - k ≤ p then D.int (F p : Nat) else .non
theorem fnd_at {n k p : Nat} {F : Nat → Nat} (h : p < n + 1) : (fnd n k F)[p]? = some (if n - k ≤ p then D.int (F p : Nat) else .non) := by
  unfold fnd
  rw [List.getElem?_map, List.getElem?_range h]
  rfl
theorem fnd_len {n k : Nat} {F : Nat → Nat} : (fnd n k F).length = n + 1 := by unfold fnd; rw [List.length_map, List.length_range]
theorem fnd_zero {n : Nat} {F : Nat → Nat} (h : F n = 0) : (List.replicate ((n : Nat) : Int).toNat [D.non]).flatten ++ [D.int 0] = fnd n 0 F := by
  unfold fnd
  rw [List.range_succ, List.map_append, Int.toNat_natCast]
  congr 1
  · refine List.ext_getElem? fun i => ?_
    rw [List.flatten_replicate_singleton, List.getElem?_replicate, List.getElem?_map]
    by_cases hi : i < n
    · rw [if_pos hi, List.getElem?_range hi]
      show _ = some (if n - 0 ≤ i then _ else _)
      rw [if_neg (by omega)]
    · rw [if_neg hi, List.getElem?_eq_none (by rw [List.length_range]; omega)]
      rfl
  · show _ = [if n - 0 ≤ n then _ else _]
    rw [if_pos (by omega), h]
    rfl
theorem fnd_succ {n k : Nat} {F : Nat → Nat} (h : k < n) : (fnd n k F).set (n - 1 - k) (.int (F (n - 1 - k) : Nat)) = fnd n (k + 1) F := by
  refine List.ext_getElem? fun i => ?_
  by_cases hi : i < n + 1
  · rw [fnd_at hi]
    by_cases e : n - 1 - k = i
    · subst e
      rw [List.getElem?_set_self (by rw [fnd_len]; omega), if_pos (by omega)]
    · rw [List.getElem?_set_ne e, fnd_at hi]
      by_cases c : n - k ≤ i
      · rw [if_pos c, if_pos (by omega)]
      · rw [if_neg c, if_neg (by omega)]
  · rw [List.getElem?_eq_none (by rw [List.length_set, fnd_len]; omega), List.getElem?_eq_none (by rw [fnd_len]; omega)]
theorem fnd_full {n : Nat} {F : Nat → Nat} : fnd n n F = ahD n F := by
  unfold fnd ahD
  refine List.map_congr_left fun p _ => ?_
  rw [if_pos (by omega)]
theorem ah_at {n p : Nat} {F : Nat → Nat} (h : p < n + 1) : (ahD n F)[p]? = some (.int (F p : Nat)) := by
  unfold ahD
  rw [List.getElem?_map, List.getElem?_range h]
  rfl
theorem tbl_at {t : Tb} {p : Nat} {ss : List (Nat × Nat)} (h : t[p]? = some ss) : (tblD t)[p]? = some (.lst (ss.map stD)) := by
  unfold tblD
  rw [List.getElem?_map, h]
  rfl
theorem tbl_len {t : Tb} : (tblD t).length = t.length := List.length_map _
section
variable {P : Program} {w : World} {K : PySem.W.Frag} {mg : Str → Option Value} {base : Heap}

/-! ### least_ahead -/
abbrev nLA : List Str := ["table", "found", "place", "costs", "cost", "other"]
theorem scLA : FnScope nLA ["table"] (defScope (topS 7)) := ⟨rfl, rfl, rfl, by decide +kernel, rfl, by decide +kernel, by decide +kernel⟩
/-- steps of few places, few steps each -/
def Few (t : Tb) : Prop := t.length ≤ 100000 ∧ ∀ ss ∈ t, ss.length ≤ 100000
def spLA : VSpec := fun rs post _ => ∃ (t : Tb) (F : Nat → Nat), rs = [.en (tblD t)] ∧ Lst t F ∧ Few t ∧ post (.ow (ahD t.length F))
def lcF (F : Nat → Nat) : D → Option D
  | .tup [.int o, .int c] => some (.int (c + (F o.toNat : Nat)))
  | _ => none
theorem ok_LA {f : Addr} {fd : FuncData} (F' : Fun K "least_ahead" "least_ahead" (topS 7) f fd) (ml : mg "len" = none) (mr : mg "range" = none) (mm : mg "min" = none) : FnV P w K mg base 1 f fd ["table"] spLA := by
  refine FnV.mk F' scLA (fun rs post xp h => ?_) fun cdv A outer s H E hr gd rs post xp h => ?_
  · obtain ⟨t, F, rfl, _⟩ := h
    rfl
  · obtain ⟨t, F, rfl, hL, hfew, hp⟩ := h
    have hn := hfew.1
    refine vss_cons (vs_setO (ds := fnd t.length 0 F) gd 1 (VE.is (ve_addL (ve_repL (ve_lst (vas_cons ve_non vas_nil)) (ve_len ml (ve_varL 0 rfl rfl) rfl) rfl ?_ ?_ ?_) (ve_lst (vas_cons ve_int vas_nil)) rfl rfl ?_) ?_) ?_)
    · rw [tbl_len]; omega
    · rw [tbl_len]; omega
    · refine sz_le (m := 100000) ?_ (by decide)
      rw [tbl_len, Int.toNat_natCast, List.length_singleton]
      omega
    · refine sz_le (m := 100001) ?_ (by decide)
      rw [tbl_len, Int.toNat_natCast, List.flatten_replicate_singleton, List.length_replicate, List.length_singleton]
      omega
    · rw [tbl_len, fnd_zero hL.last]
    refine vss_cons (vs_for gd (fun k G => ∃ a b c d, G = [some (.en (tblD t)), some (.ow (fnd t.length k F)), a, b, c, d]) (vi_rng3 mr (ve_sub (ve_len ml (ve_varL 0 rfl rfl) rfl) ve_int) (ve_neg ve_int) (ve_neg ve_int) (RgC.neg (by omega) (by rw [tbl_len]; omega) (by omega) (by omega))) ?_ ?_ ?_)
    · exact ⟨_, _, _, _, rfl⟩
    · rintro k d G hk ⟨a, b, c, d', rfl⟩
      have hk2 : k < t.length := by
        obtain ⟨q, _⟩ := List.getElem?_eq_some_iff.mp hk
        rw [rngC_len, tbl_len] at q
        omega
      rw [rngC_at (by rw [tbl_len]; omega)] at hk
      cases hk
      have ep : (((tblD t).length : Nat) : Int) - 1 + ((k : Nat) : Int) * -1 = ((t.length - 1 - k : Nat) : Int) := by rw [tbl_len]; omega
      rw [ep]
      obtain ⟨ss, hss⟩ : ∃ ss, t[t.length - 1 - k]? = some ss := ⟨_, List.getElem?_eq_getElem (by omega)⟩
      obtain ⟨h1, s0, hs0, h2⟩ := hL.ok _ ss hss
      have hlen : ss.length ≤ 100000 := hfew.2 ss (List.mem_of_getElem? hss)
      refine ⟨_, vg_name gd 2 ?_⟩
      refine vss_cons (vs_lc (F := lcF F) (ds := ss.map stD) gd 3 [("other", 5), ("cost", 4)] (vim_list (ve_ix (ve_varL 0 rfl rfl) (ve_var 2 rfl) rfl (at_nat rfl (tbl_at hss))) rfl) (blkOk_by (N := nLA) (sc := defScope (topS 7)) (by decide +kernel)) ?_ ?_ ?_)
      · intro i d hd
        rw [List.getElem?_map] at hd
        cases hq : ss[i]? with
        | none => rw [hq] at hd; cases hd
        | some st =>
          rw [hq] at hd
          cases hd
          obtain ⟨g1, g2, g3⟩ := h1 st (List.mem_of_getElem? hq)
          have gf : (fnd t.length k F)[st.1]? = some (.int (F st.1 : Nat)) := by
            rw [fnd_at (by omega), if_pos (by omega)]
          refine ⟨[some (.en (tblD t)), some (.ow (fnd t.length k F)), some (.sh (.int (t.length - 1 - k : Nat))), b, some (.sh (.int (st.2 : Nat))), some (.sh (.int (st.1 : Nat)))], [5, 4], by decide, fun s H C cl fp => ?_, fun s H C cl fp => ?_, fun d' he s H C cl fp => ?_⟩
          · exact vg_tup (ts := [5, 4]) gd.bk (vgs_cons (ts := [5]) (vg_name gd.bk 5 (vgs_cons (ts := [4]) (us := []) (vg_name gd.bk 4 (vgs_nil rfl)))))
          · exact vts_one (vt_notN (ve_ix (ve_varL 1 rfl rfl) (ve_var 5 rfl) rfl (at_nat rfl gf)))
          · cases he
            refine VE.is (ve_add (ve_var 4 rfl) (ve_ix (ve_varL 1 rfl rfl) (ve_var 5 rfl) rfl (at_nat rfl gf))) ?_
            rw [Int.toNat_natCast]
      · rw [List.length_map]
        exact sz_le hlen (by decide)
      have ec : (ss.map stD).filterMap (lcF F) = (ss.map fun st => ((st.2 + F st.1 : Nat) : Int)).map D.int := by
        rw [List.filterMap_map, List.map_map]
        refine fm_map fun st _ => ?_
        show some (D.int ((st.2 : Nat) + (F ((st.1 : Nat) : Int).toNat : Nat))) = some (D.int ((st.2 + F st.1 : Nat) : Int))
        rw [Int.toNat_natCast]
        rfl
      rw [ec]
      refine vss_one (vs_seti (n := (t.length - 1 - k : Nat)) (j := t.length - 1 - k) 1 rfl (ve_ite (k := true) (r := .sh (.int (F (t.length - 1 - k) : Nat))) ?_ (fun _ => ve_min1 gd mm (ve_varL 3 rfl rfl) rfl ?_ ?_) (fun z => nomatch z)) (ve_var 2 rfl) ?_ ?_ rfl (by exact Or.inr (Or.inl rfl)) (by decide) (by decide) (pg_sub (pv 1) pe_w set_list))
      · refine VT.is (vt_lst (ve_varL 3 rfl rfl) rfl) ?_
        cases ss with
        | nil => cases hs0
        | cons a r => rfl
      · exact List.mem_map.mpr ⟨s0, hs0, by rw [h2]⟩
      · intro y hy
        obtain ⟨st, hst, rfl⟩ := List.mem_map.mp hy
        have := (h1 st hst).2.2
        omega
      · unfold ixN
        rw [if_pos (by omega), if_pos (by rw [fnd_len]; omega), Int.toNat_natCast]
      · rw [fnd_succ hk2]
        exact ⟨_, _, _, _, rfl⟩
    · rintro G ⟨a, b, c, d, rfl⟩
      rw [rngC_len]
      refine vss_one (vs_retO 1 rfl ?_)
      have e : ((((tblD t).length : Nat) : Int) - 1 - -1).toNat = t.length := by rw [tbl_len]; omega
      rw [e, fnd_full]
      exact hp
end
end K86

-- K86e
set_option Elab.async false
set_option linter.all false
set_option autoImplicit false
set_option maxRecDepth 100000
set_option maxHeartbeats 4000000
namespace K86
open PySem PySem.Spec L2 VL
open PyProof.Rows (envOfC)
open PySem.Ink (InkTxt)
theorem natD_app {a b : List Nat} : natD (a ++ b) = natD a ++ natD b := List.map_append
theorem at_back {l : List D} {x : D} {i : Int} (h : i = -1) : atI (l ++ [x]) i = some x := by
  rw [h]
  exact atI_last l x
theorem wayF_len {t : Tb} {F : Nat → Nat} : ∀ (k p : Nat), (wayF t F k p).length ≤ k + 1
  | 0, p => Nat.le_refl _
  | k + 1, p => by
    unfold wayF
    split
    · rw [List.length_cons]
      have := wayF_len (t := t) (F := F) k (nextP t F p)
      omega
    · simp
section
variable {P : Program} {w : World} {K : PySem.W.Frag} {mg : Str → Option Value} {base : Heap}

/-! ### first_way -/
theorem scFW : FnScope ["table", "ahead", "way", "place", "other", "cost"] ["table", "ahead"] (defScope (topS 8)) := ⟨rfl, rfl, rfl, by decide +kernel, rfl, by decide +kernel, by decide +kernel⟩
def spFW : VSpec := fun rs post _ => ∃ (t : Tb) (F : Nat → Nat), rs = [.en (tblD t), .en (ahD t.length F)] ∧ Lst t F ∧ Few t ∧ post (.ow (natD (wayF t F t.length 0)))
theorem ok_FW {f : Addr} {fd : FuncData} (F' : Fun K "first_way" "first_way" (topS 8) f fd) (ml : mg "len" = none) : FnV P w K mg base 1 f fd ["table", "ahead"] spFW := by
  refine FnV.mk F' scFW (fun rs post xp h => ?_) fun cdv A outer s H E hr gd rs post xp h => ?_
  · obtain ⟨t, F, rfl, _⟩ := h
    rfl
  · obtain ⟨t, F, rfl, hL, hfew, hp⟩ := h
    have hn := hfew.1
    refine vss_cons (vs_setO gd 2 (ve_lst (vas_cons ve_int vas_nil)) ?_)
    refine vss_cons (vs_while gd (fun m G => ∃ (pre : List Nat) (p k : Nat) (a b c : Option R), G = [some (.en (tblD t)), some (.en (ahD t.length F)), some (.ow (natD (pre ++ [p]))), a, b, c] ∧ pre ++ wayF t F k p = wayF t F t.length 0 ∧ t.length - p ≤ k ∧ p ≤ t.length ∧ m = t.length - p) (m0 := t.length) ⟨[], 0, t.length, none, none, none, rfl, rfl, by omega, by omega, by omega⟩ ?_)
    · rintro m G ⟨pre, p, k, a, b, c, rfl, hw, hk, hp2, rfl⟩
      have hlen : pre.length ≤ 100001 := by
        have := wayF_len (t := t) (F := F) t.length 0
        rw [← hw, List.length_append] at this
        omega
      have glast : atI (natD (pre ++ [p])) (-1) = some (.int (p : Nat)) := by
        rw [natD_app]
        exact at_back rfl
      refine ⟨decide (((p : Nat) : Int) < (tblD t).length), vt_lt (ve_ix (ve_varL 2 rfl rfl) (ve_neg ve_int) rfl glast) (ve_len ml (ve_varL 0 rfl rfl) rfl), fun hc => ?_, fun hc => ?_⟩
      · have hc' := of_decide_eq_true hc
        rw [tbl_len] at hc'
        obtain ⟨ss, hss⟩ : ∃ ss, t[p]? = some ss := ⟨_, List.getElem?_eq_getElem (by omega)⟩
        obtain ⟨h1, s0, hs0, h2⟩ := hL.ok _ ss hss
        have hnx : nextP t F p = match ss.find? fun s => decide (s.2 + F s.1 = F p) with | some s => s.1 | none => t.length := by
          unfold nextP
          rw [List.getD_eq_getElem?_getD, hss]
          rfl
        obtain ⟨k, rfl⟩ : ∃ k', k = k' + 1 := ⟨k - 1, by omega⟩
        have hw2 : wayF t F (k + 1) p = p :: wayF t F k (nextP t F p) := by
          show (if p < t.length then _ else _) = _
          rw [if_pos (by omega)]
        refine vss_cons (vs_set gd 3 (ve_ix (ve_varL 2 rfl rfl) (ve_neg ve_int) rfl glast) ?_)
        refine vss_one (vs_for gd (ds := ss.map stD) (fun i G => ∃ b c, G = [some (.en (tblD t)), some (.en (ahD t.length F)), some (.ow (natD (pre ++ [p]))), some (.sh (.int (p : Nat))), b, c] ∧ ∀ j s, j < i → ss[j]? = some s → ¬ s.2 + F s.1 = F p) (vi_list (ve_ix (ve_varL 0 rfl rfl) (ve_var 3 rfl) rfl (at_nat rfl (tbl_at hss)))) ⟨_, _, rfl, fun j s hj => by omega⟩ ?_ ?_)
        · rintro i d G hd ⟨b, c, rfl, hno⟩
          rw [List.getElem?_map] at hd
          cases hq : ss[i]? with
          | none => rw [hq] at hd; cases hd
          | some st =>
            rw [hq] at hd
            cases hd
            obtain ⟨g1, g2, g3⟩ := h1 st (List.mem_of_getElem? hq)
            refine ⟨[4, 5], vg_tup gd (vgs_cons (ts := [4]) (us := [5]) (vg_name gd 4 (vgs_cons (ts := [5]) (us := []) (vg_name gd 5 (vgs_nil ?_)))))⟩
            refine vss_one (vs_if (k := true && decide (((st.2 : Nat) : Int) + (F st.1 : Nat) = (F p : Nat))) (VW.t (vw_and (vt_notN (ve_ix (ve_varL 1 rfl rfl) (ve_var 4 rfl) rfl (at_nat rfl (ah_at (by omega))))) fun _ => vw_and1 (vt_eqI (ve_add (ve_var 5 rfl) (ve_ix (ve_varL 1 rfl rfl) (ve_var 4 rfl) rfl (at_nat rfl (ah_at (by omega))))) (ve_ix (ve_varL 1 rfl rfl) (ve_var 3 rfl) rfl (at_nat rfl (ah_at (by omega))))))) (fun hk2 => ?_) fun hk2 => ?_)
            · have e := of_decide_eq_true (show decide _ = true from hk2)
              refine vss_cons (vs_app 2 rfl (ve_var 4 rfl) ?_ ?_)
              · refine sz_lt (m := 100003) ?_ (by decide)
                unfold natD
                rw [List.length_map, List.length_append, List.length_singleton]
                omega
              refine vss_one (vs_brk ?_)
              have hf : ss.find? (fun s => decide (s.2 + F s.1 = F p)) = some st := by
                rw [List.find?_eq_some_iff_getElem]
                obtain ⟨hi, ei⟩ := List.getElem?_eq_some_iff.mp hq
                refine ⟨decide_eq_true (by omega), i, hi, ei, fun j hj => ?_⟩
                have := hno j (ss[j]'(by omega)) hj (List.getElem?_eq_getElem _)
                simp only [this, decide_false, Bool.not_false]
              rw [hf] at hnx
              have hnx2 : nextP t F p = st.1 := hnx
              rw [hnx2] at hw2
              refine ⟨t.length - st.1, by omega, pre ++ [p], st.1, k, some (.sh (.int (p : Nat))), some (.sh (.int (st.1 : Nat))), some (.sh (.int (st.2 : Nat))), ?_, ?_, by omega, by omega, rfl⟩
              · rw [natD_app (b := [st.1])]
                rfl
              · rw [← hw, hw2, List.append_assoc]
                rfl
            · have e := of_decide_eq_false (show decide _ = false from hk2)
              refine vss_nil ⟨_, _, rfl, fun j s hj hs => ?_⟩
              rcases Nat.lt_or_ge j i with c | c
              · exact hno j s c hs
              · have ej : j = i := by omega
                subst ej
                rw [hq] at hs
                cases hs
                omega
        · rintro G ⟨b, c, rfl, hno⟩
          exfalso
          obtain ⟨i, hi⟩ := List.getElem?_of_mem hs0
          refine hno i s0 ?_ hi h2.symm
          rw [List.length_map]
          exact (List.getElem?_eq_some_iff.mp hi).1
      · have hc' := of_decide_eq_false hc
        rw [tbl_len] at hc'
        refine vss_one (vs_retO 2 rfl ?_)
        rw [wayF_end (by omega)] at hw
        rw [hw]
        exact hp

/-! ### told_answer -/
theorem scTA : FnScope ["table", "ahead"] ["table"] (defScope (topS 10)) := ⟨rfl, rfl, rfl, by decide +kernel, rfl, by decide +kernel, by decide +kernel⟩
def spTA : VSpec := fun rs post _ => ∃ (t : Tb) (F : Nat → Nat), rs = [.en (tblD t)] ∧ Lst t F ∧ Few t ∧ post (.sh (.tup [.str "best", .int (F 0 : Nat), .lst (natD (wayF t F t.length 0)), .lst (ahD t.length F)]))
theorem ok_TA {f : Addr} {fd : FuncData} {tk : Tok} (F' : Fun K "told_answer" "told_answer" (topS 10) f fd) (mb : mg "BEST" = some (.str "best" tk))
    (cLA : Cl P w K mg base 1 "least_ahead" spLA) (cFW : Cl P w K mg base 1 "first_way" spFW) : FnV P w K mg base 2 f fd ["table"] spTA := by
  refine FnV.mk F' scTA (fun rs post xp h => ?_) fun cdv A outer s H E hr gd rs post xp h => ?_
  · obtain ⟨t, F, rfl, _⟩ := h
    rfl
  · obtain ⟨t, F, rfl, hL, hfew, hp⟩ := h
    refine vss_cons (vs_setO (ds := ahD t.length F) gd 1 (ve_call (cLA.cal hr) (va_cons (ve_varL 0 rfl rfl) va_nil) fun post xp h => ⟨t, F, rfl, hL, hfew, h⟩) ?_)
    refine vss_frz 1 rfl ?_
    refine vss_cons (vs_if (vt_isN (ve_ix (ve_var 1 rfl) ve_int rfl (at_nat rfl (ah_at (Nat.succ_pos _))))) (fun z => nomatch z) fun _ => ?_)
    refine vss_nil ?_
    refine vss_one (vs_ret (ve_tup (vas_cons (ve_glob (v := .str "best") rfl mb ⟨_, rfl⟩ fun _ => .str _) (vas_cons (ve_ix (ve_var 1 rfl) ve_int rfl (at_nat rfl (ah_at (Nat.succ_pos _)))) (vas_cons (ve_pub (ds := natD (wayF t F t.length 0)) (ve_call (cFW.cal hr) (va_cons (ve_varL 0 rfl rfl) (va_cons (ve_lv (ve_var 1 rfl) rfl) va_nil)) fun post xp h => ⟨t, F, rfl, hL, hfew, h⟩)) (vas_cons (ve_var 1 rfl) vas_nil))))) hp)
end
end K86

-- K86f
set_option Elab.async false
set_option linter.all false
set_option autoImplicit false
set_option maxRecDepth 100000
set_option maxHeartbeats 4000000
namespace K86
open PySem PySem.Spec L2 VL
open PyProof.Rows (envOfC)
open PySem.Ink (InkTxt)
theorem few_c {xs ys : List Str} (h : csz xs ys ≤ 100000) : Few (ctab xs ys) := by
  refine ⟨by rw [ctab_len]; exact h, fun ss hs => ?_⟩
  unfold ctab at hs
  obtain ⟨p, _, rfl⟩ := List.mem_map.mp hs
  unfold cst
  rw [List.length_append, List.length_append]
  have : ∀ (c : Prop) [Decidable c] (a : Nat × Nat), (if c then [a] else []).length ≤ 1 := fun c _ a => by split <;> simp
  have h1 := this (p % (ys.length + 1) < ys.length) (p + 1, 1)
  have h2 := this (p / (ys.length + 1) < xs.length) (p + (ys.length + 1), 1)
  have h3 := this (p / (ys.length + 1) < xs.length ∧ p % (ys.length + 1) < ys.length ∧ xs[p / (ys.length + 1)]? = ys[p % (ys.length + 1)]?) (p + (ys.length + 1) + 1, 0)
  omega
theorem cut_one {l : List D} : cutD l (some 1) none = l.drop 1 := by
  unfold cutD
  rw [show HT.sIx l.length 0 (some 1) = min 1 l.length from HT.sIx_nat l.length 0 1, HT.sIx_none]
  cases l with
  | nil => rfl
  | cons x r =>
    rw [show min 1 (x :: r).length = 1 by rw [List.length_cons]; omega]
    exact List.take_of_length_le (by rw [List.length_drop]; exact Nat.le_refl _)
theorem zip_prs (ps : List Nat) : zipD (natD ps) (cutD (natD ps) (some 1) none) = (prs ps).map fun q => .tup [.int (q.1 : Nat), .int (q.2 : Nat)] := by
  rw [cut_one]
  unfold zipD natD prs
  rw [← List.map_drop, List.zipWith_map, ← List.tail_drop, List.drop_zero]
  unfold List.zip
  rw [List.map_zipWith]
def chF (n : Nat) : D → Option D
  | .tup [.int a, .int b] => some (chg n a b)
  | _ => none
theorem ch_due {xs ys : List Str} : (zipD (natD (wayF (ctab xs ys) (cF xs ys) (ctab xs ys).length 0)) (cutD (natD (wayF (ctab xs ys) (cF xs ys) (ctab xs ys).length 0)) (some 1) none)).filterMap (chF ys.length) = dueD xs ys := by
  rw [zip_prs, List.filterMap_map]
  have h := way_due (xs := xs) (ys := ys) (csz xs ys) 0 0 (Nat.zero_le _) (Nat.zero_le _) (by
    have := csz_eq (xs := xs) (ys := ys)
    have h2 := Nat.mul_le_mul_left xs.length (show 1 ≤ ys.length + 1 by omega)
    omega)
  rw [Nat.zero_mul, Nat.zero_add] at h
  rw [ctab_len]
  unfold dueD
  rw [due_fuel (xs.length + ys.length) (csz xs ys) 0 0 (Nat.zero_le _) (Nat.zero_le _) (by omega) (by
    have := csz_eq (xs := xs) (ys := ys)
    have h2 := Nat.mul_le_mul_left xs.length (show 1 ≤ ys.length + 1 by omega)
    omega), ← h]
  exact fm_map fun q _ => rfl
theorem zip_len {ds es : List D} : (zipD ds es).length ≤ ds.length := by
  unfold zipD
  rw [List.length_zipWith]
  exact Nat.min_le_left _ _
section
variable {P : Program} {w : World} {K : PySem.W.Frag} {mg : Str → Option Value} {base : Heap}

/-! ### changes -/
abbrev nCH : List Str := ["first", "second", "_", "way", "at", "behind"]
theorem scCH : FnScope nCH ["first", "second"] (defScope (topS 16)) := ⟨rfl, rfl, rfl, by decide +kernel, rfl, by decide +kernel, by decide +kernel⟩
def spCH (C : Addr) : VSpec := fun rs post xp => ∃ xs ys : List Str, rs = [.en (wsD xs), .en (wsD ys)] ∧ xs.length ≤ 2000 ∧ ys.length ≤ 2000 ∧ (if 1900 < (xs.length + 1) * (ys.length + 1) then xp (xTM C) else post (.ow (dueD xs ys)))
theorem ok_CH {f C : Addr} {fd : FuncData} (F' : Fun K "changes" "changes" (topS 16) f fd) (mz : mg "zip" = none)
    (cCS : Cl P w K mg base 1 "check_sizes" (spCS C)) (cCT : Cl P w K mg base 1 "change_table" spCT) (cTA : Cl P w K mg base 2 "told_answer" spTA) (cCO : Cl P w K mg base 1 "change_of" spCO) : FnV P w K mg base 3 f fd ["first", "second"] (spCH C) := by
  refine FnV.mk F' scCH (fun rs post xp h => ?_) fun cdv A outer s H E hr gd rs post xp h => ?_
  · obtain ⟨xs, ys, rfl, _⟩ := h
    rfl
  · obtain ⟨xs, ys, rfl, hx, hy, hp⟩ := h
    have lx : (wsD xs).length = xs.length := List.length_map _
    have ly : (wsD ys).length = ys.length := List.length_map _
    by_cases hbig : 1900 < (xs.length + 1) * (ys.length + 1)
    · rw [if_pos hbig] at hp
      exact vss_cons (vs_exprX (vx_call (cCS.cal hr) (va_cons (ve_varL 0 rfl rfl) (va_cons (ve_varL 1 rfl rfl) va_nil)) fun post xp h => ⟨_, _, rfl, by rw [lx]; exact hx, by rw [ly]; exact hy, by rw [lx, ly, if_pos hbig]; exact h⟩) hp)
    · rw [if_neg hbig] at hp
      have hcs : csz xs ys ≤ 1900 := by unfold csz; omega
      refine vss_cons (vs_expr (ve_call (out := .sh .non) (cCS.cal hr) (va_cons (ve_varL 0 rfl rfl) (va_cons (ve_varL 1 rfl rfl) va_nil)) fun post xp h => ⟨_, _, rfl, by rw [lx]; exact hx, by rw [ly]; exact hy, by rw [lx, ly, if_neg hbig]; exact h⟩) ?_)
      refine vss_cons (vs_if (VW.t (vw_and (vt_not (vt_lst (ve_varL 0 rfl rfl) rfl)) fun _ => vw_and1 (vt_not (vt_lst (ve_varL 1 rfl rfl) rfl)))) (fun hk => ?_) fun _ => ?_)
      · have e1 : xs = [] := by
          cases xs with
          | nil => rfl
          | cons a r => simp at hk
        have e2 : ys = [] := by
          cases ys with
          | nil => rfl
          | cons a r => simp at hk
        subst e1 e2
        exact vss_one (vs_ret (ve_lst vas_nil) hp)
      · refine vss_nil ?_
        refine vss_cons (vs_unp (d := .tup [.str "best", .int (cF xs ys 0 : Nat), .lst (natD (wayF (ctab xs ys) (cF xs ys) (ctab xs ys).length 0)), .lst (ahD (ctab xs ys).length (cF xs ys))])
          (ve_call (cTA.cal hr) (va_cons (ve_lv (ds := tblD (ctab xs ys)) (r := .ow (tblD (ctab xs ys))) (ve_call (cCT.cal hr) (va_cons (ve_varL 0 rfl rfl) (va_cons (ve_varL 1 rfl rfl) va_nil)) fun post xp h => ⟨xs, ys, rfl, hx, hy, by omega, h⟩) rfl) va_nil) fun post xp h => ⟨ctab xs ys, cF xs ys, rfl, lst_c, few_c (by omega), h⟩)
          ⟨_, vg_tup gd (vgs_cons (vg_name gd 2 (vgs_cons (vg_name gd 2 (vgs_cons (vg_name gd 3 (vgs_cons (vg_name gd 2 (vgs_nil ?_)))))))))⟩)
        refine vss_one (vs_ret (VE.is (ve_lc (F := chF ys.length) gd [("at", 4), ("behind", 5)] (vim_zip mz (ve_var 3 rfl) rfl (ve_sl (ve_var 3 rfl) rfl (vo_some ve_int) vo_none) rfl) (blkOk_by (N := nCH) (sc := defScope (topS 16)) (by decide +kernel)) ?_ ?_) ?_) hp)
        · intro i d hd
          rw [zip_prs, List.getElem?_map] at hd
          cases hq : (prs (wayF (ctab xs ys) (cF xs ys) (ctab xs ys).length 0))[i]? with
          | none => rw [hq] at hd; cases hd
          | some q =>
            rw [hq] at hd
            cases hd
            refine ⟨_, [4, 5], by decide, fun s H C cl fp => vg_tup gd.bk (vgs_cons (ts := [4]) (us := [5]) (vg_name gd.bk 4 (vgs_cons (ts := [5]) (us := []) (vg_name gd.bk 5 (vgs_nil rfl))))), fun s H C cl fp => vts_nil, fun d' he s H C' cl fp => ?_⟩
            cases he
            exact ve_call (cCO.cal hr) (va_cons (ve_varL 0 rfl rfl) (va_cons (ve_varL 1 rfl rfl) (va_cons (ve_var 4 rfl) (va_cons (ve_var 5 rfl) va_nil)))) fun post xp h => ⟨_, _, _, _, rfl, by rw [ly]; exact hy, by rw [ly]; exact h⟩
        · refine sz_le (m := 2000) (Nat.le_trans zip_len ?_) (by decide)
          have := wayF_len (t := ctab xs ys) (F := cF xs ys) (ctab xs ys).length 0
          unfold natD
          rw [List.length_map]
          rw [ctab_len] at this ⊢
          omega
        · rw [ch_due]

/-! ### change_count -/
def nst : D → Option D
  | .tup (.str t :: r) => if t = "stay" then none else some (.tup (.str t :: r))
  | _ => none
abbrev nCC : List Str := ["first", "second", "change"]
theorem scCC : FnScope nCC ["first", "second"] (defScope (topS 17)) := ⟨rfl, rfl, rfl, by decide +kernel, rfl, by decide +kernel, by decide +kernel⟩
theorem due_len {xs ys : List Str} : ∀ (k i j : Nat), (due xs ys k i j).length ≤ k
  | 0, _, _ => Nat.le_refl _
  | k + 1, i, j => by
    unfold due
    split
    · split
      · have := due_len (xs := xs) (ys := ys) k i (j + 1)
        rw [List.length_cons]; omega
      · split
        · have := due_len (xs := xs) (ys := ys) k (i + 1) j
          rw [List.length_cons]; omega
        · have := due_len (xs := xs) (ys := ys) k (i + 1) (j + 1)
          rw [List.length_cons]; omega
    · exact Nat.zero_le _
theorem due_chg {xs ys : List Str} : ∀ d ∈ dueD xs ys, Chg xs ys d := (due_all _ 0 0 (Nat.zero_le _) (Nat.zero_le _) (by omega)).1
end
end K86

-- K86g
set_option Elab.async false
set_option linter.all false
set_option autoImplicit false
set_option maxRecDepth 100000
set_option maxHeartbeats 4000000
namespace K86
open PySem PySem.Spec L2 VL
open PyProof.Rows (envOfC)
open PySem.Ink (InkTxt)
theorem chg_len {xs ys : List Str} : (dueD xs ys).length ≤ xs.length + ys.length := due_len _ 0 0
/-! ### the mirror of are_changes -/
def rgo (xs ys : List Str) : List D → Nat → Nat → Bool
  | [], i, j => decide (i = xs.length) && decide (j = ys.length)
  | d :: ds, i, j =>
    if eqD d (stay i j) = true ∧ i < xs.length ∧ j < ys.length ∧ xs[i]? = ys[j]? then rgo xs ys ds (i + 1) (j + 1)
    else if eqD d (come j) = true ∧ j < ys.length then rgo xs ys ds i (j + 1)
    else if eqD d (go i) = true ∧ i < xs.length then rgo xs ys ds (i + 1) j
    else false
def rightD (xs ys : List Str) : D → Bool
  | .lst ds => rgo xs ys ds 0 0
  | _ => false
theorem stay_ok {i j : Nat} : (stay i j).okN 1 = true := okN_tup (okA_cons (okN_str (by decide +kernel)) (okA_cons okN_int (okA_cons okN_int okA_nil)))
theorem come_ok {i : Nat} : (come i).okN 1 = true := okN_tup (okA_cons (okN_str (by decide +kernel)) (okA_cons okN_int okA_nil))
theorem go_ok {i : Nat} : (go i).okN 1 = true := okN_tup (okA_cons (okN_str (by decide +kernel)) (okA_cons okN_int okA_nil))
theorem chg_ok {xs ys : List Str} {d : D} (h : Chg xs ys d) : d.okN 1 = true := by
  rcases h with ⟨j, rfl, _⟩ | ⟨i, rfl, _⟩ | ⟨i, j, rfl, _⟩
  · exact come_ok
  · exact go_ok
  · exact stay_ok
section
variable {P : Program} {w : World} {K : PySem.W.Frag} {mg : Str → Option Value} {base : Heap}

/-! ### change_count -/
def spCC (C : Addr) : VSpec := fun rs post xp => ∃ xs ys : List Str, rs = [.en (wsD xs), .en (wsD ys)] ∧ xs.length ≤ 2000 ∧ ys.length ≤ 2000 ∧ (if 1900 < (xs.length + 1) * (ys.length + 1) then xp (xTM C) else post (.sh (.int ((dueD xs ys).filterMap nst).length)))
theorem nst_chg {xs ys : List Str} {d : D} (h : Chg xs ys d) : ∃ t r, d = .tup (.str t :: r) ∧ nst d = if t = "stay" then none else some d := by
  rcases h with ⟨j, rfl, _⟩ | ⟨i, rfl, _⟩ | ⟨i, j, rfl, _⟩ <;> exact ⟨_, _, rfl, rfl⟩
theorem ok_CC {f C : Addr} {fd : FuncData} (F' : Fun K "change_count" "change_count" (topS 17) f fd) (ml : mg "len" = none) (cCH : Cl P w K mg base 3 "changes" (spCH C)) : FnV P w K mg base 4 f fd ["first", "second"] (spCC C) := by
  refine FnV.mk F' scCC (fun rs post xp h => ?_) fun cdv A outer s H E hr gd rs post xp h => ?_
  · obtain ⟨xs, ys, rfl, _⟩ := h
    rfl
  · obtain ⟨xs, ys, rfl, hx, hy, hp⟩ := h
    by_cases hbig : 1900 < (xs.length + 1) * (ys.length + 1)
    · rw [if_pos hbig] at hp
      refine vss_one (vs_retX (vx_lenE ml (vx_lc gd [("change", 2)] (vx_call (cCH.cal hr) (va_cons (ve_varL 0 rfl rfl) (va_cons (ve_varL 1 rfl rfl) va_nil)) fun post xp h => ⟨_, _, rfl, hx, hy, by rw [if_pos hbig]; exact h⟩) (blkOk_by (N := nCC) (sc := defScope (topS 17)) (by decide +kernel)))) hp)
    · rw [if_neg hbig] at hp
      refine vss_one (vs_ret (ve_len ml (ve_lc (ds := dueD xs ys) (F := nst) gd [("change", 2)] (vim_list (r := .ow (dueD xs ys)) (ve_call (cCH.cal hr) (va_cons (ve_varL 0 rfl rfl) (va_cons (ve_varL 1 rfl rfl) va_nil)) fun post xp h => ⟨_, _, rfl, hx, hy, by rw [if_neg hbig]; exact h⟩) rfl) (blkOk_by (N := nCC) (sc := defScope (topS 17)) (by decide +kernel)) ?_ ?_) rfl) hp)
      · intro i d hd
        obtain ⟨t, r, e, e2⟩ := nst_chg (due_chg d (List.mem_of_getElem? hd))
        subst e
        refine ⟨_, [2], by decide, fun s H C cl fp => vg_name gd.bk 2 rfl, fun s H C cl fp => vts_one (VT.is (vt_neS (ve_ixT (ve_var 2 rfl) ve_int (at_nat rfl rfl)) ve_str) ?_), fun d' he s H C cl fp => VE.is (ve_var 2 rfl) ?_⟩
        · rw [e2]
          split
          · rename_i h; rw [decide_eq_true h]; rfl
          · rename_i h; rw [decide_eq_false h]; rfl
        · rw [e2] at he
          split at he
          · cases he
          · cases he; rfl
      · refine sz_le (m := 4000) ?_ (by decide)
        have := chg_len (xs := xs) (ys := ys)
        omega

/-! ### done -/
theorem scDN : FnScope ["first", "second", "listed", "found", "change"] ["first", "second", "listed"] (defScope (topS 18)) := ⟨rfl, rfl, rfl, by decide +kernel, rfl, by decide +kernel, by decide +kernel⟩
def spDN : VSpec := fun rs post _ => ∃ (xs ys : List Str) (ds : List D), rs = [.en (wsD xs), .en (wsD ys), .en ds] ∧ ds.length ≤ 4000 ∧ (∀ d ∈ ds, Chg xs ys d) ∧ post (.ow (ds.filterMap (dn xs ys)))
theorem ok_DN {f : Addr} {fd : FuncData} (F' : Fun K "done" "done" (topS 18) f fd) : FnV P w K mg base 1 f fd ["first", "second", "listed"] spDN := by
  refine FnV.mk F' scDN (fun rs post xp h => ?_) fun cdv A outer s H E hr gd rs post xp h => ?_
  · obtain ⟨xs, ys, ds, rfl, _⟩ := h
    rfl
  · obtain ⟨xs, ys, ds, rfl, hds, hc, hp⟩ := h
    refine vss_cons (vs_setO gd 3 (ve_lst vas_nil) ?_)
    refine vss_cons (vs_for gd (ds := ds) (fun k G => ∃ a, G = [some (.en (wsD xs)), some (.en (wsD ys)), some (.en ds), some (.ow ((ds.take k).filterMap (dn xs ys))), a]) (vi_en 2 rfl) ⟨none, rfl⟩ ?_ ?_)
    · rintro k d G hk ⟨a, rfl⟩
      refine ⟨_, vg_name gd 4 ?_⟩
      have hz : ((ds.take k).filterMap (dn xs ys)).length < sizeLine := by
        refine sz_lt (m := 4001) (Nat.lt_succ_of_le (Nat.le_trans (List.length_filterMap_le _ _) (Nat.le_trans ?_ hds))) (by decide)
        rw [List.length_take]
        exact Nat.min_le_right _ _
      have tk : (ds.take (k + 1)).filterMap (dn xs ys) = (ds.take k).filterMap (dn xs ys) ++ (dn xs ys d).toList := by
        rw [List.take_add_one, hk, List.filterMap_append]
        cases hF : dn xs ys d <;> simp [hF]
      rw [tk]
      rcases hc d (List.mem_of_getElem? hk) with ⟨j, rfl, hj⟩ | ⟨i, rfl, hi⟩ | ⟨i, j, rfl, hi, hj, he⟩
      · refine vss_one (vs_if (k := false) (VT.is (vt_eqS (ve_ixT (ve_var 4 rfl) ve_int (at_nat rfl rfl)) ve_str) (by decide +kernel)) (fun z => nomatch z) fun _ => ?_)
        refine vss_one (vs_if (k := true) (VT.is (vt_eqS (ve_ixT (ve_var 4 rfl) ve_int (at_nat rfl rfl)) ve_str) (by decide +kernel)) (fun _ => ?_) fun z => nomatch z)
        refine vss_one (vs_app 3 rfl (ve_ix (ve_varL 1 rfl rfl) (ve_ixT (ve_var 4 rfl) ve_int (at_nat rfl rfl)) rfl (at_nat rfl (ws_at (List.getElem?_eq_getElem hj)))) hz ?_)
        refine ⟨some (.sh (come j)), ?_⟩
        rw [show dn xs ys (come j) = some (D.str ys[j]) by show ys[(j : Int).toNat]?.map D.str = _; rw [Int.toNat_natCast, List.getElem?_eq_getElem hj]; rfl]
        rfl
      · refine vss_one (vs_if (k := false) (VT.is (vt_eqS (ve_ixT (ve_var 4 rfl) ve_int (at_nat rfl rfl)) ve_str) (by decide +kernel)) (fun z => nomatch z) fun _ => ?_)
        refine vss_one (vs_if (k := false) (VT.is (vt_eqS (ve_ixT (ve_var 4 rfl) ve_int (at_nat rfl rfl)) ve_str) (by decide +kernel)) (fun z => nomatch z) fun _ => ?_)
        refine vss_nil ⟨some (.sh (go i)), ?_⟩
        rw [show (dn xs ys (go i)).toList = [] from rfl, List.append_nil]
        rfl
      · refine vss_one (vs_if (k := true) (VT.is (vt_eqS (ve_ixT (ve_var 4 rfl) ve_int (at_nat rfl rfl)) ve_str) (by decide +kernel)) (fun _ => ?_) fun z => nomatch z)
        refine vss_one (vs_app 3 rfl (ve_ix (ve_varL 0 rfl rfl) (ve_ixT (ve_var 4 rfl) ve_int (at_nat rfl rfl)) rfl (at_nat rfl (ws_at (List.getElem?_eq_getElem hi)))) hz ?_)
        refine ⟨some (.sh (stay i j)), ?_⟩
        rw [show dn xs ys (stay i j) = some (D.str xs[i]) by show xs[(i : Int).toNat]?.map D.str = _; rw [Int.toNat_natCast, List.getElem?_eq_getElem hi]; rfl]
        rfl
    · rintro G ⟨a, rfl⟩
      refine vss_one (vs_retO 3 rfl ?_)
      rw [List.take_length]
      exact hp
end
end K86

-- K86h
set_option Elab.async false
set_option linter.all false
set_option autoImplicit false
set_option maxRecDepth 100000
set_option maxHeartbeats 4000000
namespace K86
open PySem PySem.Spec L2 VL
open PyProof.Rows (envOfC)
open PySem.Ink (InkTxt)
section
variable {P : Program} {w : World} {K : PySem.W.Frag} {mg : Str → Option Value} {base : Heap}
theorem ve_isL {X : Cx} {G : Gm} {pos p p2 : Pos} {e : Expr} {r : R} (mi : X.mg "isinstance" = none) (mT : X.mg "list" = none) (h : VE X G e r) (hp : r.d.pl = true) (hg : Gl X "isinstance" := by rfl) (hgT : Gl X "list" := by rfl)
    (he : starEach [e, .Name "list" p2] X.env = (false, eval e X.env) :: starEach [.Name "list" p2] X.env := by rfl)
    (he2 : starEach [.Name "list" p2] X.env = (false, eval (.Name "list" p2) X.env) :: starEach [] X.env := by rfl) (hpl : (backTo pos (starEach [.Name "list" p2] X.env)).any (·.1) = false := by rfl) :
    VE X G (.Call (.Name "isinstance" p) [e, .Name "list" p2] [] pos) (.sh (.bl (match r.d with | .lst _ => true | _ => false))) := by
  refine ve_isi (T := "list") mi mT (by decide +kernel) h (.inl hp) ?_ hgT hg (by decide) (by decide) he he2 hpl
  cases hd : r.d with
  | lst ds =>
    show PySem.W.kitOne _ (.type "list") (.type "list") = some true
    exact L2.kit_ty (by decide +kernel)
  | non =>
    show PySem.W.kitOne _ (.type "NoneType") (.type "list") = some false
    exact L2.kit_ty (by decide +kernel)
  | bl _ =>
    show PySem.W.kitOne _ (.type "bool") (.type "list") = some false
    exact L2.kit_ty (by decide +kernel)
  | int _ =>
    show PySem.W.kitOne _ (.type "int") (.type "list") = some false
    exact L2.kit_ty (by decide +kernel)
  | str _ =>
    show PySem.W.kitOne _ (.type "str") (.type "list") = some false
    exact L2.kit_ty (by decide +kernel)
  | tup _ =>
    show PySem.W.kitOne _ (.type "tuple") (.type "list") = some false
    exact L2.kit_ty (by decide +kernel)
  | byt _ => rw [hd] at hp; unfold D.pl at hp; cases hp
  | raw _ => rw [hd] at hp; unfold D.pl at hp; cases hp
  | scr _ _ => rw [hd] at hp; unfold D.pl at hp; cases hp
  | exc _ _ _ _ => rw [hd] at hp; unfold D.pl at hp; cases hp

/-! ### are_changes, _law_right -/
abbrev nAC : List Str := ["first", "second", "value", "i", "j", "change"]
theorem scAC : FnScope nAC ["first", "second", "value"] (defScope (topS 19)) := ⟨rfl, rfl, rfl, by decide +kernel, rfl, by decide +kernel, by decide +kernel⟩
theorem scLR : FnScope nAC ["first", "second", "value"] (defScope (topS 24)) := ⟨rfl, rfl, rfl, by decide +kernel, rfl, by decide +kernel, by decide +kernel⟩
def spAC : VSpec := fun rs post _ => ∃ (xs ys : List Str) (d : D), rs = [.en (wsD xs), .en (wsD ys), .sh d] ∧ d.ok = true ∧ (∀ ds, d = .lst ds → ∀ e ∈ ds, e.ok = true) ∧ post (.sh (.bl (rightD xs ys d)))
theorem rgo_cons {xs ys : List Str} {d : D} {ds : List D} {i j : Nat} : rgo xs ys (d :: ds) i j = if eqD d (stay i j) = true ∧ i < xs.length ∧ j < ys.length ∧ xs[i]? = ys[j]? then rgo xs ys ds (i + 1) (j + 1)
    else if eqD d (come j) = true ∧ j < ys.length then rgo xs ys ds i (j + 1)
    else if eqD d (go i) = true ∧ i < xs.length then rgo xs ys ds (i + 1) j
    else false := rfl
def rI (xs ys : List Str) (ds : List D) (i : Nat) (G : Gm) : Prop := ∃ a b c, G = [some (.en (wsD xs)), some (.en (wsD ys)), some (.sh (.lst ds)), some (.sh (.int (a : Nat))), some (.sh (.int (b : Nat))), c] ∧ rgo xs ys (ds.drop i) a b = rgo xs ys ds 0 0
theorem at_opt {xs ys : List Str} {i j : Nat} (hi : i < xs.length) (hj : j < ys.length) : (xs[i]? = ys[j]?) ↔ xs[i] = ys[j] := by
  rw [List.getElem?_eq_getElem hi, List.getElem?_eq_getElem hj]
  exact ⟨fun h => Option.some.inj h, fun h => congrArg some h⟩
theorem ok_AC {f : Addr} {fd : FuncData} (F' : Fun K "are_changes" "are_changes" (topS 19) f fd) (ml : mg "len" = none) (mi : mg "isinstance" = none) (mL : mg "list" = none) : FnV P w K mg base 1 f fd ["first", "second", "value"] spAC := by
  refine FnV.mk F' scAC (fun rs post xp h => ?_) fun cdv A outer s H E hr gd rs post xp h => ?_
  · obtain ⟨xs, ys, d, rfl, _⟩ := h
    rfl
  · obtain ⟨xs, ys, d, rfl, hok, hall, hp⟩ := h
    have lx : (wsD xs).length = xs.length := List.length_map _
    have ly : (wsD ys).length = ys.length := List.length_map _
    refine vss_cons (vs_if (vt_not (vt_val (ve_isL mi mL (ve_var 2 rfl) (ok_pl hok)))) (fun hk => ?_) fun hk => ?_)
    · refine vss_one (vs_ret ve_bl ?_)
      cases d with
      | lst ds => cases hk
      | _ => exact hp
    · cases d with
      | lst ds =>
        refine vss_nil ?_
        have hel := hall ds rfl
        refine vss_cons (vs_unp (ve_tup (vas_cons ve_int (vas_cons ve_int vas_nil))) ⟨_, vg_tup gd (vgs_cons (vg_name gd 3 (vgs_cons (vg_name gd 4 (vgs_nil ?_)))))⟩)
        refine vss_cons (vs_for gd (ds := ds) (rI xs ys ds) (vi_list (ve_var 2 rfl)) ⟨0, 0, none, rfl, rfl⟩ ?_ ?_)
        · rintro k d G hk ⟨a, b, c, rfl, hI⟩
          have hdok := hel d (List.mem_of_getElem? hk)
          have hdr : ds.drop k = d :: ds.drop (k + 1) := drop_get hk
          rw [hdr] at hI
          refine ⟨_, vg_name gd 5 ?_⟩
          by_cases c1 : eqD d (stay a b) = true ∧ a < xs.length ∧ b < ys.length ∧ xs[a]? = ys[b]?
          · obtain ⟨h1, h2, h3, h4⟩ := c1
            refine vss_one (vs_if (k := true) (VT.is (VW.t (vw_and (vt_eqD gd (ve_var 5 rfl) (ve_tup (vas_cons ve_str (vas_cons (ve_var 3 rfl) (vas_cons (ve_var 4 rfl) vas_nil)))) hdok (okN_ok (stay_ok (i := a) (j := b)))) fun _ => vw_and (vt_lt (ve_var 3 rfl) (ve_len ml (ve_varL 0 rfl rfl) rfl)) fun _ => vw_and (vt_lt (ve_var 4 rfl) (ve_len ml (ve_varL 1 rfl rfl) rfl)) fun _ => vw_and1 (vt_eqS (ve_ix (ve_varL 0 rfl rfl) (ve_var 3 rfl) rfl (at_nat rfl (ws_at (List.getElem?_eq_getElem h2)))) (ve_ix (ve_varL 1 rfl rfl) (ve_var 4 rfl) rfl (at_nat rfl (ws_at (List.getElem?_eq_getElem h3))))))) ?_) (fun _ => ?_) fun z => nomatch z)
            · simp only [lx, ly, Bool.and_eq_true, decide_eq_true_eq]
              exact ⟨h1, by omega, by omega, (at_opt h2 h3).mp h4⟩
            · refine vss_one (vs_par gd 3 4 (vas_cons (ve_add (ve_var 3 rfl) ve_int) (vas_cons (ve_add (ve_var 4 rfl) ve_int) vas_nil)) ⟨a + 1, b + 1, some (.sh d), rfl, ?_⟩)
              rw [← hI]
              rw [rgo_cons, if_pos ⟨h1, h2, h3, h4⟩]
          · refine vss_one (vs_if (k := false) (VT.is (k := eqD d (stay a b) && (decide ((a : Int) < xs.length) && (decide ((b : Int) < ys.length) && decide (xs[a]? = ys[b]?)))) ?_ ?_) (fun z => nomatch z) fun _ => ?_)
            · refine VW.t (vw_and (vt_eqD gd (ve_var 5 rfl) (ve_tup (vas_cons ve_str (vas_cons (ve_var 3 rfl) (vas_cons (ve_var 4 rfl) vas_nil)))) hdok (okN_ok (stay_ok (i := a) (j := b)))) fun _ => ?_)
              rw [← lx]
              refine vw_and (vt_lt (ve_var 3 rfl) (ve_len ml (ve_varL 0 rfl rfl) rfl)) fun ha => ?_
              rw [← ly]
              refine vw_and (vt_lt (ve_var 4 rfl) (ve_len ml (ve_varL 1 rfl rfl) rfl)) fun hb => ?_
              have ha' := of_decide_eq_true ha
              have hb' := of_decide_eq_true hb
              rw [lx] at ha'
              rw [ly] at hb'
              have ha2 : a < xs.length := by omega
              have hb2 : b < ys.length := by omega
              refine vw_and1 (VT.is (vt_eqS (ve_ix (ve_varL 0 rfl rfl) (ve_var 3 rfl) rfl (at_nat rfl (ws_at (List.getElem?_eq_getElem ha2)))) (ve_ix (ve_varL 1 rfl rfl) (ve_var 4 rfl) rfl (at_nat rfl (ws_at (List.getElem?_eq_getElem hb2))))) ?_)
              rw [decide_eq_decide]
              exact (at_opt ha2 hb2).symm
            · rw [Bool.eq_false_iff]
              intro z
              simp only [Bool.and_eq_true, decide_eq_true_eq] at z
              exact c1 ⟨z.1, by omega, by omega, z.2.2.2⟩
            · by_cases c2 : eqD d (come b) = true ∧ b < ys.length
              · refine vss_one (vs_if (k := true) (VT.is (VW.t (vw_and (vt_eqD gd (ve_var 5 rfl) (ve_tup (vas_cons ve_str (vas_cons (ve_var 4 rfl) vas_nil))) hdok (okN_ok (come_ok (i := b)))) fun _ => vw_and1 (vt_lt (ve_var 4 rfl) (ve_len ml (ve_varL 1 rfl rfl) rfl)))) ?_) (fun _ => ?_) fun z => nomatch z)
                · simp only [ly, Bool.and_eq_true, decide_eq_true_eq]
                  exact ⟨c2.1, by omega⟩
                · refine vss_one (vs_augI gd 4 ip_add rfl ve_int ⟨a, b + 1, some (.sh d), rfl, ?_⟩)
                  rw [← hI]
                  rw [rgo_cons, if_neg c1, if_pos c2]
              · refine vss_one (vs_if (k := false) (VT.is (VW.t (vw_and (vt_eqD gd (ve_var 5 rfl) (ve_tup (vas_cons ve_str (vas_cons (ve_var 4 rfl) vas_nil))) hdok (okN_ok (come_ok (i := b)))) fun _ => vw_and1 (vt_lt (ve_var 4 rfl) (ve_len ml (ve_varL 1 rfl rfl) rfl)))) ?_) (fun z => nomatch z) fun _ => ?_)
                · rw [ly, Bool.eq_false_iff]
                  intro z
                  simp only [Bool.and_eq_true, decide_eq_true_eq] at z
                  exact c2 ⟨z.1, by omega⟩
                · by_cases c3 : eqD d (go a) = true ∧ a < xs.length
                  · refine vss_one (vs_if (k := true) (VT.is (VW.t (vw_and (vt_eqD gd (ve_var 5 rfl) (ve_tup (vas_cons ve_str (vas_cons (ve_var 3 rfl) vas_nil))) hdok (okN_ok (go_ok (i := a)))) fun _ => vw_and1 (vt_lt (ve_var 3 rfl) (ve_len ml (ve_varL 0 rfl rfl) rfl)))) ?_) (fun _ => ?_) fun z => nomatch z)
                    · simp only [lx, Bool.and_eq_true, decide_eq_true_eq]
                      exact ⟨c3.1, by omega⟩
                    · refine vss_one (vs_augI gd 3 ip_add rfl ve_int ⟨a + 1, b, some (.sh d), rfl, ?_⟩)
                      rw [← hI]
                      rw [rgo_cons, if_neg c1, if_neg c2, if_pos c3]
                  · refine vss_one (vs_if (k := false) (VT.is (VW.t (vw_and (vt_eqD gd (ve_var 5 rfl) (ve_tup (vas_cons ve_str (vas_cons (ve_var 3 rfl) vas_nil))) hdok (okN_ok (go_ok (i := a)))) fun _ => vw_and1 (vt_lt (ve_var 3 rfl) (ve_len ml (ve_varL 0 rfl rfl) rfl)))) ?_) (fun z => nomatch z) fun _ => ?_)
                    · rw [lx, Bool.eq_false_iff]
                      intro z
                      simp only [Bool.and_eq_true, decide_eq_true_eq] at z
                      exact c3 ⟨z.1, by omega⟩
                    · refine vss_one (vs_ret ve_bl ?_)
                      have e : rightD xs ys (.lst ds) = false := by
                        show rgo xs ys ds 0 0 = false
                        rw [← hI]
                        rw [rgo_cons, if_neg c1, if_neg c2, if_neg c3]
                      rw [e] at hp
                      exact hp
        · rintro G ⟨a, b, c, rfl, hI⟩
          refine vss_one (vs_ret (VE.is (ve_and (ve_eqI (ve_var 3 rfl) (ve_len ml (ve_varL 0 rfl rfl) rfl)) fun _ => ve_one (ve_eqI (ve_var 4 rfl) (ve_len ml (ve_varL 1 rfl rfl) rfl))) ?_) hp)
          rw [List.drop_length] at hI
          show _ = R.sh (.bl (rgo xs ys ds 0 0))
          rw [← hI, lx, ly]
          unfold rgo
          have q : ∀ (m n : Nat), decide ((m : Int) = (n : Int)) = decide (m = n) := fun m n => decide_eq_decide.mpr Int.ofNat_inj
          rw [q, q]
      | _ => cases hk
theorem ok_LR {f : Addr} {fd : FuncData} (F' : Fun K "_law_right" "_law_right" (topS 24) f fd) (ml : mg "len" = none) (mi : mg "isinstance" = none) (mL : mg "list" = none) : FnV P w K mg base 1 f fd ["first", "second", "value"] spAC := by
  refine FnV.mk F' scLR (fun rs post xp h => ?_) fun cdv A outer s H E hr gd rs post xp h => ?_
  · obtain ⟨xs, ys, d, rfl, _⟩ := h
    rfl
  · obtain ⟨xs, ys, d, rfl, hok, hall, hp⟩ := h
    have lx : (wsD xs).length = xs.length := List.length_map _
    have ly : (wsD ys).length = ys.length := List.length_map _
    refine vss_cons (vs_if (vt_not (vt_val (ve_isL mi mL (ve_var 2 rfl) (ok_pl hok)))) (fun hk => ?_) fun hk => ?_)
    · refine vss_one (vs_ret ve_bl ?_)
      cases d with
      | lst ds => cases hk
      | _ => exact hp
    · cases d with
      | lst ds =>
        refine vss_nil ?_
        have hel := hall ds rfl
        refine vss_cons (vs_unp (ve_tup (vas_cons ve_int (vas_cons ve_int vas_nil))) ⟨_, vg_tup gd (vgs_cons (vg_name gd 3 (vgs_cons (vg_name gd 4 (vgs_nil ?_)))))⟩)
        refine vss_cons (vs_for gd (ds := ds) (rI xs ys ds) (vi_list (ve_var 2 rfl)) ⟨0, 0, none, rfl, rfl⟩ ?_ ?_)
        · rintro k d G hk ⟨a, b, c, rfl, hI⟩
          have hdok := hel d (List.mem_of_getElem? hk)
          have hdr : ds.drop k = d :: ds.drop (k + 1) := drop_get hk
          rw [hdr] at hI
          refine ⟨_, vg_name gd 5 ?_⟩
          by_cases c1 : eqD d (stay a b) = true ∧ a < xs.length ∧ b < ys.length ∧ xs[a]? = ys[b]?
          · obtain ⟨h1, h2, h3, h4⟩ := c1
            refine vss_one (vs_if (k := true) (VT.is (VW.t (vw_and (vt_lt (ve_var 3 rfl) (ve_len ml (ve_varL 0 rfl rfl) rfl)) fun _ => vw_and (vt_lt (ve_var 4 rfl) (ve_len ml (ve_varL 1 rfl rfl) rfl)) fun _ => vw_and (vt_eqS (ve_ix (ve_varL 0 rfl rfl) (ve_var 3 rfl) rfl (at_nat rfl (ws_at (List.getElem?_eq_getElem h2)))) (ve_ix (ve_varL 1 rfl rfl) (ve_var 4 rfl) rfl (at_nat rfl (ws_at (List.getElem?_eq_getElem h3))))) fun _ => vw_and1 (vt_eqD gd (ve_var 5 rfl) (ve_tup (vas_cons ve_str (vas_cons (ve_var 3 rfl) (vas_cons (ve_var 4 rfl) vas_nil)))) hdok (okN_ok (stay_ok (i := a) (j := b)))))) ?_) (fun _ => ?_) fun z => nomatch z)
            · simp only [lx, ly, Bool.and_eq_true, decide_eq_true_eq]
              exact ⟨by omega, by omega, (at_opt h2 h3).mp h4, h1⟩
            · refine vss_one (vs_par gd 3 4 (vas_cons (ve_add (ve_var 3 rfl) ve_int) (vas_cons (ve_add (ve_var 4 rfl) ve_int) vas_nil)) ⟨a + 1, b + 1, some (.sh d), rfl, ?_⟩)
              rw [← hI]
              rw [rgo_cons, if_pos ⟨h1, h2, h3, h4⟩]
          · refine vss_one (vs_if (k := false) (VT.is (k := decide ((a : Int) < xs.length) && (decide ((b : Int) < ys.length) && (decide (xs[a]? = ys[b]?) && eqD d (stay a b)))) ?_ ?_) (fun z => nomatch z) fun _ => ?_)
            · rw [← lx]
              refine VW.t (vw_and (vt_lt (ve_var 3 rfl) (ve_len ml (ve_varL 0 rfl rfl) rfl)) fun ha => ?_)
              rw [← ly]
              refine vw_and (vt_lt (ve_var 4 rfl) (ve_len ml (ve_varL 1 rfl rfl) rfl)) fun hb => ?_
              have ha' := of_decide_eq_true ha
              have hb' := of_decide_eq_true hb
              rw [lx] at ha'
              rw [ly] at hb'
              have ha2 : a < xs.length := by omega
              have hb2 : b < ys.length := by omega
              refine vw_and (VT.is (vt_eqS (ve_ix (ve_varL 0 rfl rfl) (ve_var 3 rfl) rfl (at_nat rfl (ws_at (List.getElem?_eq_getElem ha2)))) (ve_ix (ve_varL 1 rfl rfl) (ve_var 4 rfl) rfl (at_nat rfl (ws_at (List.getElem?_eq_getElem hb2))))) ?_) fun _ => vw_and1 (vt_eqD gd (ve_var 5 rfl) (ve_tup (vas_cons ve_str (vas_cons (ve_var 3 rfl) (vas_cons (ve_var 4 rfl) vas_nil)))) hdok (okN_ok (stay_ok (i := a) (j := b))))
              rw [decide_eq_decide]
              exact (at_opt ha2 hb2).symm
            · rw [Bool.eq_false_iff]
              intro z
              simp only [Bool.and_eq_true, decide_eq_true_eq] at z
              exact c1 ⟨z.2.2.2, by omega, by omega, z.2.2.1⟩
            · by_cases c2 : eqD d (come b) = true ∧ b < ys.length
              · refine vss_one (vs_if (k := true) (VT.is (VW.t (vw_and (vt_lt (ve_var 4 rfl) (ve_len ml (ve_varL 1 rfl rfl) rfl)) fun _ => vw_and1 (vt_eqD gd (ve_var 5 rfl) (ve_tup (vas_cons ve_str (vas_cons (ve_var 4 rfl) vas_nil))) hdok (okN_ok (come_ok (i := b)))))) ?_) (fun _ => ?_) fun z => nomatch z)
                · simp only [ly, Bool.and_eq_true, decide_eq_true_eq]
                  exact ⟨by omega, c2.1⟩
                · refine vss_one (vs_set gd 4 (ve_add (ve_var 4 rfl) ve_int) ⟨a, b + 1, some (.sh d), rfl, ?_⟩)
                  rw [← hI]
                  rw [rgo_cons, if_neg c1, if_pos c2]
              · refine vss_one (vs_if (k := false) (VT.is (VW.t (vw_and (vt_lt (ve_var 4 rfl) (ve_len ml (ve_varL 1 rfl rfl) rfl)) fun _ => vw_and1 (vt_eqD gd (ve_var 5 rfl) (ve_tup (vas_cons ve_str (vas_cons (ve_var 4 rfl) vas_nil))) hdok (okN_ok (come_ok (i := b)))))) ?_) (fun z => nomatch z) fun _ => ?_)
                · rw [ly, Bool.eq_false_iff]
                  intro z
                  simp only [Bool.and_eq_true, decide_eq_true_eq] at z
                  exact c2 ⟨z.2, by omega⟩
                · by_cases c3 : eqD d (go a) = true ∧ a < xs.length
                  · refine vss_one (vs_if (k := true) (VT.is (VW.t (vw_and (vt_lt (ve_var 3 rfl) (ve_len ml (ve_varL 0 rfl rfl) rfl)) fun _ => vw_and1 (vt_eqD gd (ve_var 5 rfl) (ve_tup (vas_cons ve_str (vas_cons (ve_var 3 rfl) vas_nil))) hdok (okN_ok (go_ok (i := a)))))) ?_) (fun _ => ?_) fun z => nomatch z)
                    · simp only [lx, Bool.and_eq_true, decide_eq_true_eq]
                      exact ⟨by omega, c3.1⟩
                    · refine vss_one (vs_set gd 3 (ve_add (ve_var 3 rfl) ve_int) ⟨a + 1, b, some (.sh d), rfl, ?_⟩)
                      rw [← hI]
                      rw [rgo_cons, if_neg c1, if_neg c2, if_pos c3]
                  · refine vss_one (vs_if (k := false) (VT.is (VW.t (vw_and (vt_lt (ve_var 3 rfl) (ve_len ml (ve_varL 0 rfl rfl) rfl)) fun _ => vw_and1 (vt_eqD gd (ve_var 5 rfl) (ve_tup (vas_cons ve_str (vas_cons (ve_var 3 rfl) vas_nil))) hdok (okN_ok (go_ok (i := a)))))) ?_) (fun z => nomatch z) fun _ => ?_)
                    · rw [lx, Bool.eq_false_iff]
                      intro z
                      simp only [Bool.and_eq_true, decide_eq_true_eq] at z
                      exact c3 ⟨z.2, by omega⟩
                    · refine vss_one (vs_ret ve_bl ?_)
                      have e : rightD xs ys (.lst ds) = false := by
                        show rgo xs ys ds 0 0 = false
                        rw [← hI]
                        rw [rgo_cons, if_neg c1, if_neg c2, if_neg c3]
                      rw [e] at hp
                      exact hp
        · rintro G ⟨a, b, c, rfl, hI⟩
          refine vss_one (vs_ret (VE.is (ve_and (ve_eqI (ve_var 3 rfl) (ve_len ml (ve_varL 0 rfl rfl) rfl)) fun _ => ve_one (ve_eqI (ve_var 4 rfl) (ve_len ml (ve_varL 1 rfl rfl) rfl))) ?_) hp)
          rw [List.drop_length] at hI
          show _ = R.sh (.bl (rgo xs ys ds 0 0))
          rw [← hI, lx, ly]
          unfold rgo
          have q : ∀ (m n : Nat), decide ((m : Int) = (n : Int)) = decide (m = n) := fun m n => decide_eq_decide.mpr Int.ofNat_inj
          rw [q, q]
      | _ => cases hk
end
end K86

-- K86i
set_option Elab.async false
set_option linter.all false
set_option autoImplicit false
set_option maxRecDepth 100000
set_option maxHeartbeats 4000000
namespace K86
open PySem PySem.Spec L2 VL
open PyProof.Rows (envOfC)
open PySem.Ink (InkTxt)
/-! ### _law_numbers -/
def cell0 (ns : List Int) (at' : Nat) : Int :=
  let c : Int := if at' < ns.length then ns.getD at' 0 else 1000003 * (at' + 1)
  if c < 0 then 1 - 2 * c else c
def mixD (c : Int) (at' k : Nat) : Int := (c * 48271 + (k + 1) * 69621 + at' * 4001) % 2147483647
def mix2 (m : Int) (k : Nat) : Int := (m * m + 16807 * (k + 3)) % 2147483629
def lnAt (ns : List Int) (at' : Nat) : Nat → Int × List Nat
  | 0 => (cell0 ns at', [])
  | k + 1 =>
    let p := lnAt ns at' k
    if 10 ^ 18 ≤ p.1 then (p.1 / 1009, p.2 ++ [(p.1 % 1009).toNat]) else (p.1, p.2 ++ [(mix2 (mixD p.1 at' k) k / 7 % 1009).toNat])
theorem lnAt_len {ns : List Int} {at' : Nat} : ∀ n, (lnAt ns at' n).2.length = n
  | 0 => rfl
  | n + 1 => by
    have := lnAt_len (ns := ns) (at' := at') n
    unfold lnAt
    simp only
    split <;> (rw [List.length_append, this]; rfl)
theorem lnAt_lt {ns : List Int} {at' : Nat} : ∀ n, ∀ x ∈ (lnAt ns at' n).2, x < 1009
  | 0 => fun x h => by cases h
  | n + 1 => fun x h => by
    have ih := lnAt_lt (ns := ns) (at' := at') n
    unfold lnAt at h
    simp only at h
    split at h
    · rcases List.mem_append.mp h with z | z
      · exact ih x z
      · rw [List.mem_singleton] at z
        have := Int.emod_lt_of_pos (lnAt ns at' n).1 (show (0 : Int) < 1009 by decide)
        have := Int.emod_nonneg (lnAt ns at' n).1 (show (1009 : Int) ≠ 0 by decide)
        omega
    · rcases List.mem_append.mp h with z | z
      · exact ih x z
      · rw [List.mem_singleton] at z
        have := Int.emod_lt_of_pos (mix2 (mixD (lnAt ns at' n).1 at' n) n / 7) (show (0 : Int) < 1009 by decide)
        have := Int.emod_nonneg (mix2 (mixD (lnAt ns at' n).1 at' n) n / 7) (show (1009 : Int) ≠ 0 by decide)
        omega
theorem nat_int {i : Int} (h : 0 ≤ i) : ((i.toNat : Nat) : Int) = i := Int.toNat_of_nonneg h
theorem lnA {ns : List Int} {at' k : Nat} (h : 10 ^ 18 ≤ (lnAt ns at' k).1) : lnAt ns at' (k + 1) = ((lnAt ns at' k).1 / 1009, (lnAt ns at' k).2 ++ [((lnAt ns at' k).1 % 1009).toNat]) := by
  show (if _ then _ else _) = _
  rw [if_pos h]
theorem lnB {ns : List Int} {at' k : Nat} (h : ¬ 10 ^ 18 ≤ (lnAt ns at' k).1) : lnAt ns at' (k + 1) = ((lnAt ns at' k).1, (lnAt ns at' k).2 ++ [(mix2 (mixD (lnAt ns at' k).1 at' k) k / 7 % 1009).toNat]) := by
  show (if _ then _ else _) = _
  rw [if_neg h]
section
variable {P : Program} {w : World} {K : PySem.W.Frag} {mg : Str → Option Value} {base : Heap}
theorem scLN : FnScope ["script", "at", "count", "cell", "numbers", "k", "mixed"] ["script", "at", "count"] (defScope (topS 21)) := ⟨rfl, rfl, rfl, by decide +kernel, rfl, by decide +kernel, by decide +kernel⟩
def spLN (K : PySem.W.Frag) : VSpec := fun rs post _ => ∃ (ns : List Int) (at' n : Nat), rs = [.sh (.scr K ns), .sh (.int (at' : Nat)), .sh (.int (n : Nat))] ∧ at' ≤ 1000 ∧ n ≤ 1000 ∧ post (.ow (natD (lnAt ns at' n).2))
theorem ok_LN {f : Addr} {fd : FuncData} (F' : Fun K "_law_numbers" "_law_numbers" (topS 21) f fd) (ml : mg "len" = none) (mI : mg "int" = none) (mr : mg "range" = none) : FnV P w K mg base 1 f fd ["script", "at", "count"] (spLN K) := by
  refine FnV.mk F' scLN (fun rs post xp h => ?_) fun cdv A outer s H E hr gd rs post xp h => ?_
  · obtain ⟨ns, at', n, rfl, _⟩ := h
    rfl
  · obtain ⟨ns, at', n, rfl, ha, hn, hp⟩ := h
    refine vss_cons (vs_set gd 3 (ve_mul ve_int (ve_add (ve_var 1 rfl) ve_int) (.inl ⟨by decide, by decide⟩)) ?_)
    refine vss_cons (vs_ifset gd 3 (d := .int (ns.getD at' 0)) (vt_lt (ve_var 1 rfl) (ve_lenSc ml (ve_var 0 rfl))) rfl (fun hk => ?_) ?_)
    · have hk' : at' < ns.length := by have := of_decide_eq_true hk; omega
      rw [List.getD_eq_getElem?_getD, List.getElem?_eq_getElem hk']
      exact ve_intI mI (ve_ixSc (ve_var 0 rfl) (ve_var 1 rfl) (at_nat rfl (List.getElem?_eq_getElem hk')))
    have e1 : (if decide (((at' : Nat) : Int) < (ns.length : Nat)) = true then D.int (ns.getD at' 0) else .int (1000003 * ((at' : Nat) + 1))) = .int (if at' < ns.length then ns.getD at' 0 else 1000003 * (at' + 1)) := by
      by_cases q : at' < ns.length
      · rw [if_pos q, if_pos (decide_eq_true (by omega))]
      · rw [if_neg q, if_neg (by rw [decide_eq_true_eq]; omega)]
    rw [e1]
    refine vss_cons (vs_ifset gd 3 (d := .int (1 - 2 * (if at' < ns.length then ns.getD at' 0 else 1000003 * (at' + 1)))) (vt_lt (ve_var 3 rfl) ve_int) rfl (fun hk => ?_) ?_)
    · exact ve_sub ve_int (ve_mul ve_int (ve_var 3 rfl) (.inl ⟨by decide, by decide⟩))
    have e2 : (if decide ((if at' < ns.length then ns.getD at' 0 else 1000003 * (at' + 1)) < (0 : Int)) = true then D.int (1 - 2 * (if at' < ns.length then ns.getD at' 0 else 1000003 * (at' + 1))) else .int (if at' < ns.length then ns.getD at' 0 else 1000003 * (at' + 1))) = .int (cell0 ns at') := by
      show _ = D.int (if _ then _ else _)
      by_cases q : (if at' < ns.length then ns.getD at' 0 else 1000003 * (at' + 1)) < (0 : Int)
      · rw [if_pos q, if_pos (decide_eq_true q)]
      · rw [if_neg q, if_neg (by rw [decide_eq_true_eq]; exact q)]
    rw [e2]
    refine vss_cons (vs_setO gd 4 (ve_lst vas_nil) ?_)
    refine vss_cons (vs_for gd (fun k G => ∃ a b, G = [some (.sh (.scr K ns)), some (.sh (.int (at' : Nat))), some (.sh (.int (n : Nat))), some (.sh (.int (lnAt ns at' k).1)), some (.ow (natD (lnAt ns at' k).2)), a, b]) (vi_rng1 mr (ve_var 2 rfl) (by omega) (by omega)) ⟨none, none, rfl⟩ ?_ ?_)
    · rintro k d G hk ⟨a, b, rfl⟩
      have hk2 : k < n := by
        obtain ⟨q, _⟩ := List.getElem?_eq_some_iff.mp hk
        rw [rng_len] at q
        omega
      rw [rng_at (by omega)] at hk
      cases hk
      rw [Int.zero_add]
      refine ⟨_, vg_name gd 5 ?_⟩
      have hz : (natD (lnAt ns at' k).2).length < sizeLine := by
        refine sz_lt (m := 1001) ?_ (by decide)
        unfold natD
        rw [List.length_map, lnAt_len]
        omega
      by_cases hb : (10 : Int) ^ 18 ≤ (lnAt ns at' k).1
      · refine vss_one (vs_if (k := true) (VT.is (vt_ge (ve_var 3 rfl) (ve_pow ve_int ve_int ⟨by decide, by decide, by decide⟩)) (decide_eq_true hb)) (fun _ => ?_) fun z => nomatch z)
        refine vss_cons (vs_app 4 rfl (ve_mod (ve_var 3 rfl) ve_int (by decide)) hz ?_)
        refine vss_one (vs_set gd 3 (ve_fdiv (ve_var 3 rfl) ve_int ⟨by decide, by decide⟩) ⟨some (.sh (.int (k : Nat))), b, ?_⟩)
        rw [lnA hb]
        show _ = [_, _, _, _, some (R.ow (natD (_ ++ _))), _, _]
        rw [natD_app, show natD [((lnAt ns at' k).1 % 1009).toNat] = [.int ((lnAt ns at' k).1 % 1009)] from congrArg (fun z => [D.int z]) (nat_int (Int.emod_nonneg _ (by decide)))]
        rfl
      · refine vss_one (vs_if (k := false) (VT.is (vt_ge (ve_var 3 rfl) (ve_pow ve_int ve_int ⟨by decide, by decide, by decide⟩)) (decide_eq_false hb)) (fun z => nomatch z) fun _ => ?_)
        have m0 := Int.emod_nonneg ((lnAt ns at' k).1 * 48271 + (k + 1) * 69621 + at' * 4001) (show (2147483647 : Int) ≠ 0 by decide)
        have m1 := Int.emod_lt_of_pos ((lnAt ns at' k).1 * 48271 + (k + 1) * 69621 + at' * 4001) (show (0 : Int) < 2147483647 by decide)
        refine vss_cons (vs_set gd 6 (d := .int (mixD (lnAt ns at' k).1 at' k)) (ve_mod (ve_add (ve_add (ve_mul (ve_var 3 rfl) ve_int (.inr ⟨by decide, by decide⟩)) (ve_mul (ve_add (ve_var 5 rfl) ve_int) ve_int (.inr ⟨by decide, by decide⟩))) (ve_mul (ve_var 1 rfl) ve_int (.inr ⟨by decide, by decide⟩))) ve_int (by decide)) ?_)
        refine vss_cons (vs_set gd 6 (d := .int (mix2 (mixD (lnAt ns at' k).1 at' k) k)) (ve_mod (ve_add (ve_mul (ve_var 6 rfl) (ve_var 6 rfl) (.inl ⟨?_, ?_⟩)) (ve_mul ve_int (ve_add (ve_var 5 rfl) ve_int) (.inl ⟨by decide, by decide⟩))) ve_int (by decide)) ?_)
        · unfold mixD; omega
        · unfold mixD; omega
        refine vss_one (vs_app 4 rfl (ve_mod (ve_fdiv (ve_var 6 rfl) ve_int ⟨by decide, by decide⟩) ve_int (by decide)) hz ⟨some (.sh (.int (k : Nat))), some (.sh (.int (mix2 (mixD (lnAt ns at' k).1 at' k) k))), ?_⟩)
        rw [lnB hb]
        show _ = [_, _, _, _, some (R.ow (natD (_ ++ _))), _, _]
        rw [natD_app, show natD [(mix2 (mixD (lnAt ns at' k).1 at' k) k / 7 % 1009).toNat] = [.int (mix2 (mixD (lnAt ns at' k).1 at' k) k / 7 % 1009)] from congrArg (fun z => [D.int z]) (nat_int (Int.emod_nonneg _ (by decide)))]
        rfl
    · rintro G ⟨a, b, rfl⟩
      refine vss_one (vs_retO 4 rfl ?_)
      rw [rng_len]
      exact hp

/-! ### _law_refused -/
theorem scRF : FnScope ["first", "second", "which", "e"] ["first", "second", "which"] (defScope (topS 26)) := ⟨rfl, rfl, rfl, by decide +kernel, rfl, by decide +kernel, by decide +kernel⟩
def spRF : VSpec := fun rs post _ => ∃ (xs ys : List Str) (n : Int), rs = [.en (wsD xs), .en (wsD ys), .sh (.int n)] ∧ xs.length ≤ 2000 ∧ ys.length ≤ 2000 ∧ post (.sh (if 1900 < (xs.length + 1) * (ys.length + 1) then .int 1900 else .non))
theorem ok_RF {f C fI B : Addr} {qual : Str} {fd : FuncData} (F' : Fun K "_law_refused" "_law_refused" (topS 26) f fd) (T : InkTxt P K C fI "limit" qual) (TC : InkC K C) (mC : mg "TooMany" = some (.ref C)) (mB : mg "BadNumber" = some (.ref B)) (mi : mg "isinstance" = none) (hx : PySem.W.exmOne K (.ref C) (.ref C) = some true) (hB : PySem.W.kitOne K (.ref C) (.ref B) = some false) (hno : PySem.W.findIn K (.ref C) "limit" = some none)
    (cCH : Cl P w K mg base 3 "changes" (spCH C)) (cCC : Cl P w K mg base 4 "change_count" (spCC C)) : FnV P w K mg base 5 f fd ["first", "second", "which"] spRF := by
  refine FnV.mk F' scRF (fun rs post xp h => ?_) fun cdv A outer s H E hr gd rs post xp h => ?_
  · obtain ⟨xs, ys, n, rfl, _⟩ := h
    rfl
  · obtain ⟨xs, ys, n, rfl, hx1, hy1, hp⟩ := h
    by_cases hbig : 1900 < (xs.length + 1) * (ys.length + 1)
    · rw [if_pos hbig] at hp
      refine vss_cons (vs_try (cn := "TooMany") (CX := .ref C) gd 3 rfl rfl rfl rfl ⟨rfl, by decide, .inl mC⟩ (fun x => x = xTM C) ?_ fun pn xe gd' => ?_)
      · rintro x rfl
        refine ⟨true, hx, (fun z => nomatch z), fun _ => ⟨_, _, rfl, fun a oe dd pn hz hv => ?_⟩⟩
        refine vss_cons (vs_if (vt_val (ve_isX TC hz hv mi mB hB (ve_var 3 rfl))) (fun z => nomatch z) fun _ => ?_)
        refine vss_nil ?_
        refine vss_one (vs_ret (ve_excf T hz hv hno (ve_var 3 rfl) (j := 0) rfl rfl ?_) hp)
        intro vs hl
        match vs, hl with
        | [v], _ => rfl
      · refine vss_one (vs_if (vt_eqI (ve_var 2 rfl) ve_int) (fun _ => ?_) fun _ => ?_)
        · exact vss_one (vs_exprX (vx_call (cCH.cal hr) (va_cons (ve_varL 0 rfl rfl) (va_cons (ve_varL 1 rfl rfl) va_nil)) fun post xp h => ⟨_, _, rfl, hx1, hy1, by rw [if_pos hbig]; exact h⟩) rfl)
        · exact vss_one (vs_exprX (vx_call (cCC.cal hr) (va_cons (ve_varL 0 rfl rfl) (va_cons (ve_varL 1 rfl rfl) va_nil)) fun post xp h => ⟨_, _, rfl, hx1, hy1, by rw [if_pos hbig]; exact h⟩) rfl)
    · rw [if_neg hbig] at hp
      refine vss_cons (vs_try (cn := "TooMany") (CX := .ref C) gd 3 rfl rfl rfl rfl ⟨rfl, by decide, .inl mC⟩ (fun _ => False) (fun x z => z.elim) fun pn xe gd' => ?_)
      refine vss_one (vs_if (vt_eqI (ve_var 2 rfl) ve_int) (fun _ => ?_) fun _ => ?_)
      · refine vss_one (vs_expr (ve_call (out := .ow (dueD xs ys)) (cCH.cal hr) (va_cons (ve_varL 0 rfl rfl) (va_cons (ve_varL 1 rfl rfl) va_nil)) fun post xp h => ⟨_, _, rfl, hx1, hy1, by rw [if_neg hbig]; exact h⟩) ?_)
        exact vss_one (vs_ret ve_non hp)
      · refine vss_one (vs_expr (ve_call (out := .sh (.int ((dueD xs ys).filterMap nst).length)) (cCC.cal hr) (va_cons (ve_varL 0 rfl rfl) (va_cons (ve_varL 1 rfl rfl) va_nil)) fun post xp h => ⟨_, _, rfl, hx1, hy1, by rw [if_neg hbig]; exact h⟩) ?_)
        exact vss_one (vs_ret ve_non hp)
end
end K86

-- K86j
set_option Elab.async false
set_option linter.all false
set_option autoImplicit false
set_option maxRecDepth 100000
set_option maxHeartbeats 4000000
namespace K86
open PySem PySem.Spec L2 VL
open PyProof.Rows (envOfC)
/-! ### _law_least -/
abbrev rw' (m : Nat) (f : Nat → Nat → Int) (i : Nat) : List Int := (List.range (m + 1)).map (f i)
def tab (n m : Nat) (f : Nat → Nat → Int) : List (List Int) := (List.range (n + 1)).map (rw' m f)
def upf (f : Nat → Nat → Int) (i j : Nat) (x : Int) : Nat → Nat → Int := fun a b => if a = i ∧ b = j then x else f a b
theorem upf_same {f : Nat → Nat → Int} {i j : Nat} {x : Int} : upf f i j x i j = x := if_pos ⟨rfl, rfl⟩
theorem upf_ne {f : Nat → Nat → Int} {i j a b : Nat} {x : Int} (h : ¬ (a = i ∧ b = j)) : upf f i j x a b = f a b := if_neg h
theorem set_map {α β : Type} {g : α → β} {l : List α} {i : Nat} {y : α} : (l.map g).set i (g y) = (l.set i y).map g := List.map_set.symm
theorem set_range {α : Type} {g : Nat → α} {n i : Nat} {y : α} : ((List.range n).map g).set i y = (List.range n).map fun k => if k = i then y else g k := by
  refine List.ext_getElem? fun k => ?_
  by_cases hk : k < n
  · rw [List.getElem?_map, List.getElem?_range hk]
    by_cases e : i = k
    · subst e
      rw [List.getElem?_set_self (by rw [List.length_map, List.length_range]; exact hk)]
      show _ = some (if i = i then y else g i)
      rw [if_pos rfl]
    · rw [List.getElem?_set_ne e, List.getElem?_map, List.getElem?_range hk]
      show some (g k) = some (if k = i then y else g k)
      rw [if_neg (fun z => e z.symm)]
  · rw [List.getElem?_eq_none (by rw [List.length_set, List.length_map, List.length_range]; omega), List.getElem?_eq_none (by rw [List.length_map, List.length_range]; omega)]
theorem rw_set {m : Nat} {f : Nat → Nat → Int} {i j : Nat} {x : Int} : (intsV (rw' m f i)).set j (.int x) = intsV (rw' m (upf f i j x) i) := by
  unfold intsV
  rw [set_map, set_range]
  congr 1
  refine List.map_congr_left fun k _ => ?_
  unfold upf
  by_cases e : k = j
  · rw [if_pos e, if_pos ⟨rfl, e⟩]
  · rw [if_neg e, if_neg (fun z => e z.2)]
theorem tab_set {n m : Nat} {f : Nat → Nat → Int} {i j : Nat} {x : Int} : ((tab n m f).map intsV).set i (intsV (rw' m (upf f i j x) i)) = (tab n m (upf f i j x)).map intsV := by
  rw [set_map]
  congr 1
  unfold tab
  rw [set_range]
  refine List.map_congr_left fun k _ => ?_
  by_cases e : k = i
  · rw [if_pos e, e]
  · rw [if_neg e]
    refine List.map_congr_left fun b _ => ?_
    exact (upf_ne fun z => e z.1).symm
theorem rw_at {m : Nat} {f : Nat → Nat → Int} {i j : Nat} (h : j ≤ m) : atI (intsV (rw' m f i)) (j : Nat) = some (.int (f i j)) := by
  refine at_nat rfl ?_
  unfold intsV
  rw [List.getElem?_map, List.getElem?_map, List.getElem?_range (by omega)]
  rfl
theorem rows_row {a b : Addr} {bs : List Addr} {M : Hp} {n m i : Nat} {f : Nat → Nat → Int} (r : Rows a bs M ((tab n m f).map intsV)) (hb : bs[i]? = some b) (hi : i ≤ n) : M b = some (.lst (intsV (rw' m f i))) :=
  r.row i b _ hb (by
    unfold tab
    rw [List.getElem?_map, List.getElem?_map, List.getElem?_range (by omega)]
    rfl)
theorem rows_len {a : Addr} {bs : List Addr} {M : Hp} {n m : Nat} {f : Nat → Nat → Int} (r : Rows a bs M ((tab n m f).map intsV)) : bs.length = n + 1 := by
  rw [r.len]
  unfold tab
  rw [List.length_map, List.length_map, List.length_range]
theorem bs_at {bs : List Addr} {i : Nat} {b : Addr} (h : bs[i]? = some b) : atI (bs.map V.ref) (i : Nat) = some (.ref b) := at_nat rfl (by rw [List.getElem?_map, h]; rfl)
def leastD (xs ys : List Str) : D := .lst ((List.range (xs.length + 1)).map fun i => .lst ((List.range (ys.length + 1)).map fun j => .int (ee xs ys i j : Nat)))
theorem least_den {xs ys : List Str} {f : Nat → Nat → Int} (h : ∀ i j, i ≤ xs.length → j ≤ ys.length → f i j = (ee xs ys i j : Nat)) : D.lst ((tab xs.length ys.length f).map fun ns => .lst (intsD ns)) = leastD xs ys := by
  unfold leastD tab
  rw [List.map_map]
  congr 1
  refine List.map_congr_left fun i hi => ?_
  rw [List.mem_range] at hi
  show D.lst (intsD (rw' _ f i)) = _
  unfold intsD rw'
  rw [List.map_map]
  congr 1
  refine List.map_congr_left fun j hj => ?_
  rw [List.mem_range] at hj
  show D.int (f i j) = _
  rw [h i j (by omega) (by omega)]
theorem ixN_at {n j : Nat} (hj : j < n) : ixN n (j : Int) = some j := by
  unfold ixN
  simp [hj]
section
variable {P : Program} {w : World} {K : PySem.W.Frag} {mg : Str → Option Value} {base : Heap}
abbrev nLL : List Str := ["first", "second", "rows", "i", "j", "row", "k"]
theorem scLL : FnScope nLL ["first", "second"] (defScope (topS 22)) := ⟨rfl, rfl, rfl, by decide +kernel, rfl, by decide +kernel, by decide +kernel⟩
def spLL : VSpec := fun rs post _ => ∃ xs ys : List Str, rs = [.en (wsD xs), .en (wsD ys)] ∧ xs.length ≤ 2000 ∧ ys.length ≤ 2000 ∧ post (.sh (leastD xs ys))
def gLL (xs ys : List Str) (a : Addr) (M : Hp) (x y z u : Option R) : Gm := [some (.en (wsD xs)), some (.en (wsD ys)), some (.reg (.ref a) M), x, y, z, u]
theorem ok_LL {f : Addr} {fd : FuncData} (F' : Fun K "_law_least" "_law_least" (topS 22) f fd) (ml : mg "len" = none) (mr : mg "range" = none) (mm : mg "min" = none) : FnV P w K mg base 1 f fd ["first", "second"] spLL := by
  refine FnV.mk F' scLL (fun rs post xp h => ?_) fun cdv A outer s H E hr gd rs post xp h => ?_
  · obtain ⟨xs, ys, rfl, _⟩ := h
    rfl
  · obtain ⟨xs, ys, rfl, hx, hy, hp⟩ := h
    have lx : (wsD xs).length = xs.length := List.length_map _
    have ly : (wsD ys).length = ys.length := List.length_map _
    refine vss_cons (vs_lcR gd (F := fun _ => rw' ys.length (fun _ _ => 0) 0) 2 [("k", 6)] (VI.m (vi_rng1 mr (ve_add (ve_len ml (ve_varL 0 rfl rfl) rfl) ve_int) ?_ ?_)) (blkOk_by (N := nLL) (sc := defScope (topS 22)) (by decide +kernel)) ?_ ?_ fun a bs M r => ?_)
    · omega
    · omega
    · intro i d hd
      refine ⟨_, [6], by decide, fun s H C cl fp => vg_name gd.bk 6 rfl, fun s H C cl fp => vts_nil, fun s H C cl fp => VE.is (ve_repL (ve_lst (vas_cons ve_int vas_nil)) (ve_add (ve_len ml (ve_varL 1 rfl rfl) rfl) ve_int) rfl ?_ ?_ ?_) ?_⟩
      · omega
      · omega
      · rw [ly]
        refine sz_le (m := 4000) ?_ (by decide)
        simp only [List.length_singleton]
        omega
      · rw [ly]
        congr 1
        have e : ((ys.length : Int) + 1).toNat = ys.length + 1 := by omega
        rw [e]
        unfold intsD rw'
        rw [List.map_map]
        generalize ys.length + 1 = n
        induction n with
        | zero => rfl
        | succ n ih => rw [List.replicate_succ, List.flatten_cons, ih, List.range_succ_eq_map, List.map_cons, List.map_map]; rfl
    · rw [rng_len]
      refine sz_le (m := 4000) ?_ (by decide)
      omega
    have r0 : Rows a bs M ((tab xs.length ys.length fun _ _ => 0).map intsV) := by
      have e : (rng 0 ((xs.length : Int) + 1).toNat).map (fun _ => intsV (rw' ys.length (fun _ _ => 0) 0)) = (tab xs.length ys.length fun _ _ => 0).map intsV := by
        unfold tab rng
        rw [List.map_map, List.map_map, show ((xs.length : Int) + 1).toNat = xs.length + 1 by omega]
        rfl
      rw [← e, ← lx]
      exact r
    refine vss_cons (vs_for gd (fun k G => ∃ a bs M f x y z u, G = gLL xs ys a M x y z u ∧ Rows a bs M ((tab xs.length ys.length f).map intsV) ∧ ∀ i j, xs.length < i + k → i ≤ xs.length → j ≤ ys.length → f i j = (ee xs ys i j : Nat)) (vi_rng3 mr (ve_len ml (ve_varL 0 rfl rfl) rfl) (ve_neg ve_int) (ve_neg ve_int) (RgC.neg (by omega) (by omega) (by omega) (by omega))) ⟨a, bs, M, _, _, _, _, _, rfl, r0, fun i j h1 h2 => by omega⟩ ?_ ?_)
    · rintro k d G hk ⟨a, bs, M, f, x, y, z, u, rfl, r, hf⟩
      have hk2 : k < xs.length + 1 := by
        obtain ⟨q, _⟩ := List.getElem?_eq_some_iff.mp hk
        rw [rngC_len, lx] at q
        omega
      rw [rngC_at (by rw [lx]; omega)] at hk
      cases hk
      obtain ⟨i, hi, hi2⟩ : ∃ i : Nat, ((wsD xs).length : Int) + (k : Nat) * (-1) = (i : Nat) ∧ i + k = xs.length := ⟨xs.length - k, by rw [lx]; omega, by omega⟩
      rw [hi]
      refine ⟨_, vg_name gd 3 ?_⟩
      refine vss_one (vs_for gd (fun l G => ∃ a bs M f y z u, G = gLL xs ys a M (some (.sh (.int (i : Nat)))) y z u ∧ Rows a bs M ((tab xs.length ys.length f).map intsV) ∧ (∀ i' j, i < i' → i' ≤ xs.length → j ≤ ys.length → f i' j = (ee xs ys i' j : Nat)) ∧ ∀ j, ys.length < j + l → j ≤ ys.length → f i j = (ee xs ys i j : Nat)) (vi_rng3 mr (ve_len ml (ve_varL 1 rfl rfl) rfl) (ve_neg ve_int) (ve_neg ve_int) (RgC.neg (by omega) (by omega) (by omega) (by omega))) ⟨a, bs, M, f, _, _, _, rfl, r, fun i' j h1 h2 h3 => hf i' j (by omega) h2 h3, fun j h1 h2 => by omega⟩ ?_ ?_)
      · rintro l d G hl ⟨a, bs, M, f, y, z, u, rfl, r, hf1, hf2⟩
        have hl2 : l < ys.length + 1 := by
          obtain ⟨q, _⟩ := List.getElem?_eq_some_iff.mp hl
          rw [rngC_len, ly] at q
          omega
        rw [rngC_at (by rw [ly]; omega)] at hl
        cases hl
        obtain ⟨j, hj, hj2⟩ : ∃ j : Nat, ((wsD ys).length : Int) + (l : Nat) * (-1) = (j : Nat) ∧ j + l = ys.length := ⟨ys.length - l, by rw [ly]; omega, by omega⟩
        rw [hj]
        refine ⟨_, vg_name gd 4 ?_⟩
        have hbl := rows_len r
        obtain ⟨b, hb⟩ : ∃ b, bs[i]? = some b := ⟨_, List.getElem?_eq_getElem (by omega)⟩
        have hMb := rows_row r hb (by omega)
        refine vss_cons (vs_set gd 5 (ve_ixG 2 rfl r.top (ve_varR 2 rfl) (ve_var 3 rfl) (bs_at hb) fun S => .raw _) ?_)
        have hixj : ∀ (g : Nat → Nat → Int), ixN (intsV (rw' ys.length g i)).length ((j : Nat) : Int) = some j := fun g => by
          unfold intsV
          rw [List.length_map, List.length_map, List.length_range]
          exact ixN_at (by omega)
        -- a step of the inner loop is done
        have fin : ∀ (g : Nat → Nat → Int) (v : Int), v = (ee xs ys i j : Nat) → (∀ a b, ¬ (a = i ∧ b = j) → g a b = f a b) → g i j = v → ((∀ i' j, i < i' → i' ≤ xs.length → j ≤ ys.length → g i' j = (ee xs ys i' j : Nat)) ∧ ∀ j', ys.length < j' + (l + 1) → j' ≤ ys.length → g i j' = (ee xs ys i j' : Nat)) := fun g v hv h1 h2 => by
          refine ⟨fun i' j' q1 q2 q3 => ?_, fun j' q1 q2 => ?_⟩
          · rw [h1 _ _ (by omega)]
            exact hf1 i' j' q1 q2 q3
          · by_cases e : j' = j
            · subst e
              rw [h2, hv]
            · rw [h1 _ _ (by omega)]
              exact hf2 j' (by omega) q2
        have hset : ∀ v, Rows a bs (upd M b (.lst ((intsV (rw' ys.length f i)).set j (.int v)))) ((tab xs.length ys.length (upf f i j v)).map intsV) := fun v => by
          have := r.set (vs := intsV (rw' ys.length (upf f i j v) i)) hb
          rw [tab_set] at this
          rw [rw_set]
          exact this
        have di : ∀ (v : Int) (S : Hp) (u : V), Den S (.int v) u → u = .int v := fun v S u h => den_int.mp h
        have q : ∀ (m n : Nat), decide ((m : Int) = (n : Int)) = decide (m = n) := fun m n => decide_eq_decide.mpr Int.ofNat_inj
        by_cases c1 : i = xs.length
        · refine vss_one (vs_if (k := true) (VT.is (vt_eqI (ve_var 3 rfl) (ve_len ml (ve_varL 0 rfl rfl) rfl)) (by rw [lx, q]; exact decide_eq_true c1)) (fun _ => ?_) fun z => nomatch z)
          refine vss_one (vs_setiR 2 5 rfl hMb rfl (ve_sub (ve_len ml (ve_varL 1 rfl rfl) rfl) (ve_var 4 rfl)) (di _) (ve_var 4 rfl) (hixj f) ⟨a, bs, _, _, _, _, _, rfl, hset _, ?_⟩)
          refine fin _ _ ?_ (fun a b h => upf_ne h) upf_same
          rw [ly, ee_l (by omega)]
          omega
        · refine vss_one (vs_if (k := false) (VT.is (vt_eqI (ve_var 3 rfl) (ve_len ml (ve_varL 0 rfl rfl) rfl)) (by rw [lx, q]; exact decide_eq_false c1)) (fun z => nomatch z) fun _ => ?_)
          by_cases c2 : j = ys.length
          · refine vss_one (vs_if (k := true) (VT.is (vt_eqI (ve_var 4 rfl) (ve_len ml (ve_varL 1 rfl rfl) rfl)) (by rw [ly, q]; exact decide_eq_true c2)) (fun _ => ?_) fun z => nomatch z)
            refine vss_one (vs_setiR 2 5 rfl hMb rfl (ve_sub (ve_len ml (ve_varL 0 rfl rfl) rfl) (ve_var 3 rfl)) (di _) (ve_var 4 rfl) (hixj f) ⟨a, bs, _, _, _, _, _, rfl, hset _, ?_⟩)
            refine fin _ _ ?_ (fun a b h => upf_ne h) upf_same
            rw [lx, ee_r (by omega)]
            omega
          · refine vss_one (vs_if (k := false) (VT.is (vt_eqI (ve_var 4 rfl) (ve_len ml (ve_varL 1 rfl rfl) rfl)) (by rw [ly, q]; exact decide_eq_false c2)) (fun z => nomatch z) fun _ => ?_)
            have hxi : i < xs.length := by omega
            have hyj : j < ys.length := by omega
            obtain ⟨b', hb'⟩ : ∃ b', bs[i + 1]? = some b' := ⟨_, List.getElem?_eq_getElem (by omega)⟩
            have hMb' := rows_row r hb' (by omega)
            have nb : b' ≠ b := fun z => by
              subst z
              have := (List.getElem?_inj (by omega) r.nd).mp (hb'.trans hb.symm)
              omega
            have e1 : f (i + 1) j = (ee xs ys (i + 1) j : Nat) := hf1 _ _ (by omega) (by omega) (by omega)
            have e2 : f i (j + 1) = (ee xs ys i (j + 1) : Nat) := hf2 _ (by omega) (by omega)
            have e3 : f (i + 1) (j + 1) = (ee xs ys (i + 1) (j + 1) : Nat) := hf1 _ _ (by omega) (by omega) (by omega)
            have hee := ee_s (xs := xs) (ys := ys) (i := i) (j := j) (List.getElem?_eq_getElem hxi) (List.getElem?_eq_getElem hyj)
            have mn : ∀ (m n : Nat), (if (n : Int) < (m : Int) then (n : Int) else (m : Int)) = ((min m n : Nat) : Int) := fun m n => by
              split <;> omega
            refine vss_cons (vs_setiR 2 5 rfl hMb rfl (d := .int (1 + (min (ee xs ys (i + 1) j) (ee xs ys i (j + 1)) : Nat))) (ve_add ve_int (VE.is (ve_min2 gd mm (ve_ixG 2 rfl hMb' (ve_ixG 2 rfl r.top (ve_varR 2 rfl) (ve_add (ve_var 3 rfl) ve_int) (bs_at hb') fun S => .raw _) (ve_var 4 rfl) (rw_at (by omega)) fun S => .int _) (ve_ixG 2 rfl hMb (ve_var 5 rfl) (ve_add (ve_var 4 rfl) ve_int) (rw_at (j := j + 1) (by omega)) fun S => .int _)) ?_)) (di _) (ve_var 4 rfl) (hixj f) ?_)
            · rw [e1, e2, mn]
            have r2 := hset (1 + (min (ee xs ys (i + 1) j) (ee xs ys i (j + 1)) : Nat))
            have hMb2 := rows_row r2 hb (by omega)
            have hMb2' := rows_row r2 hb' (by omega)
            by_cases c3 : xs[i] = ys[j]
            · rw [if_pos c3] at hee
              refine vss_one (vs_if (k := true) (VT.is (vt_eqS (ve_ix (ve_varL 0 rfl rfl) (ve_var 3 rfl) rfl (at_nat rfl (ws_at (List.getElem?_eq_getElem hxi)))) (ve_ix (ve_varL 1 rfl rfl) (ve_var 4 rfl) rfl (at_nat rfl (ws_at (List.getElem?_eq_getElem hyj))))) (decide_eq_true c3)) (fun _ => ?_) fun z => nomatch z)
              refine vss_one (vs_setiR 2 5 rfl hMb2 rfl (d := .int (ee xs ys i j : Nat)) (VE.is (ve_min2 gd mm (ve_ixG 2 rfl hMb2 (ve_var 5 rfl) (ve_var 4 rfl) (rw_at (by omega)) fun S => .int _) (ve_ixG 2 rfl hMb2' (ve_ixG 2 rfl r2.top (ve_varR 2 rfl) (ve_add (ve_var 3 rfl) ve_int) (bs_at hb') fun S => .raw _) (ve_add (ve_var 4 rfl) ve_int) (rw_at (j := j + 1) (by omega)) fun S => .int _)) ?_) (di _) (ve_var 4 rfl) (hixj _) ⟨a, bs, _, upf (upf f i j (1 + (min (ee xs ys (i + 1) j) (ee xs ys i (j + 1)) : Nat))) i j (ee xs ys i j : Nat), _, _, _, rfl, ?_, ?_⟩)
              · rw [upf_same, upf_ne (by omega), e3, hee]
                congr 2
                have := mn (1 + min (ee xs ys (i + 1) j) (ee xs ys i (j + 1))) (ee xs ys (i + 1) (j + 1))
                rw [← this]
                push_cast
                rfl
              · have := r2.set (vs := intsV (rw' ys.length (upf (upf f i j (1 + (min (ee xs ys (i + 1) j) (ee xs ys i (j + 1)) : Nat))) i j (ee xs ys i j : Nat)) i)) hb
                rw [tab_set] at this
                rw [rw_set (x := (ee xs ys i j : Nat))]
                exact this
              · exact fin _ _ rfl (fun a b h => by rw [upf_ne h, upf_ne h]) upf_same
            · rw [if_neg c3] at hee
              refine vss_one (vs_if (k := false) (VT.is (vt_eqS (ve_ix (ve_varL 0 rfl rfl) (ve_var 3 rfl) rfl (at_nat rfl (ws_at (List.getElem?_eq_getElem hxi)))) (ve_ix (ve_varL 1 rfl rfl) (ve_var 4 rfl) rfl (at_nat rfl (ws_at (List.getElem?_eq_getElem hyj))))) (decide_eq_false c3)) (fun z => nomatch z) fun _ => ?_)
              refine vss_nil ⟨a, bs, _, _, _, _, _, rfl, r2, ?_⟩
              refine fin _ _ ?_ (fun a b h => upf_ne h) upf_same
              rw [hee]
              omega
      · rintro G ⟨a, bs, M, f, y, z, u, rfl, r, hf1, hf2⟩
        rw [rngC_len, ly] at hf2
        refine ⟨a, bs, M, f, _, _, _, _, rfl, r, fun i' j h1 h2 h3 => ?_⟩
        by_cases e : i' = i
        · subst e
          exact hf2 j (by omega) h3
        · exact hf1 i' j (by omega) h2 h3
    · rintro G ⟨a, bs, M, f, x, y, z, u, rfl, r, hf⟩
      rw [rngC_len, lx] at hf
      refine vss_frzR 2 rfl r.den ?_
      rw [least_den fun i j h1 h2 => hf i j (by omega) h1 h2]
      exact vss_one (vs_ret (ve_var 2 rfl) hp)
end
end K86

-- K86k
set_option Elab.async false
set_option linter.all false
set_option autoImplicit false
set_option maxRecDepth 100000
set_option maxHeartbeats 4000000
namespace K86
open PySem PySem.Spec L2 VL
open PyProof.Rows (envOfC)
/-! ### _law_due -/
def lrow (xs ys : List Str) (i : Nat) : List D := (List.range (ys.length + 1)).map fun j => .int (ee xs ys i j : Nat)
def lrows (xs ys : List Str) : List D := (List.range (xs.length + 1)).map fun i => .lst (lrow xs ys i)
theorem lrows_at {xs ys : List Str} {i : Nat} (h : i ≤ xs.length) : (lrows xs ys)[i]? = some (.lst (lrow xs ys i)) := by
  unfold lrows
  rw [List.getElem?_map, List.getElem?_range (by omega)]
  rfl
theorem lrow_at {xs ys : List Str} {i j : Nat} (h : j ≤ ys.length) : (lrow xs ys i)[j]? = some (.int (ee xs ys i j : Nat)) := by
  unfold lrow
  rw [List.getElem?_map, List.getElem?_range (by omega)]
  rfl
section
variable {P : Program} {w : World} {K : PySem.W.Frag} {mg : Str → Option Value} {base : Heap}
abbrev nLD : List Str := ["first", "second", "rows", "i", "j", "found", "turn"]
theorem scLD : FnScope nLD ["first", "second"] (defScope (topS 23)) := ⟨rfl, rfl, rfl, by decide +kernel, rfl, by decide +kernel, by decide +kernel⟩
def spLD : VSpec := fun rs post _ => ∃ xs ys : List Str, rs = [.en (wsD xs), .en (wsD ys)] ∧ xs.length ≤ 2000 ∧ ys.length ≤ 2000 ∧ post (.ow (dueD xs ys))
theorem ok_LD {f : Addr} {fd : FuncData} (F' : Fun K "_law_due" "_law_due" (topS 23) f fd) (ml : mg "len" = none) (mr : mg "range" = none) (cLL : Cl P w K mg base 1 "_law_least" spLL) : FnV P w K mg base 2 f fd ["first", "second"] spLD := by
  refine FnV.mk F' scLD (fun rs post xp h => ?_) fun cdv A outer s H E hr gd rs post xp h => ?_
  · obtain ⟨xs, ys, rfl, _⟩ := h
    rfl
  · obtain ⟨xs, ys, rfl, hx, hy, hp⟩ := h
    have lx : (wsD xs).length = xs.length := List.length_map _
    have ly : (wsD ys).length = ys.length := List.length_map _
    have q : ∀ (m n : Nat), decide ((m : Int) = (n : Int)) = decide (m = n) := fun m n => decide_eq_decide.mpr Int.ofNat_inj
    refine vss_cons (vs_set gd 2 (d := .lst (lrows xs ys)) (ve_call (cLL.cal hr) (va_cons (ve_varL 0 rfl rfl) (va_cons (ve_varL 1 rfl rfl) va_nil)) fun post xp h => ⟨_, _, rfl, hx, hy, h⟩) ?_)
    refine vss_cons (vs_unp (ve_tup (vas_cons ve_int (vas_cons ve_int vas_nil))) ⟨_, vg_tup gd (vgs_cons (vg_name gd 3 (vgs_cons (vg_name gd 4 (vgs_nil ?_)))))⟩)
    refine vss_cons (vs_setO gd 5 (ve_lst vas_nil) ?_)
    refine vss_cons (vs_for gd (fun t G => ∃ (pre : List D) (i j : Nat) (z : Option R), G = [some (.en (wsD xs)), some (.en (wsD ys)), some (.sh (.lst (lrows xs ys))), some (.sh (.int (i : Nat))), some (.sh (.int (j : Nat))), some (.ow pre), z] ∧ pre ++ due xs ys (xs.length + ys.length - t) i j = dueD xs ys ∧ i ≤ xs.length ∧ j ≤ ys.length ∧ pre.length ≤ t) (vi_rng1 mr (ve_add (ve_len ml (ve_varL 0 rfl rfl) rfl) (ve_len ml (ve_varL 1 rfl rfl) rfl)) ?_ ?_) ⟨[], 0, 0, _, rfl, rfl, Nat.zero_le _, Nat.zero_le _, Nat.zero_le _⟩ ?_ ?_)
    · omega
    · omega
    · rintro t d G ht ⟨pre, i, j, z, rfl, hpre, hi, hj, hpl⟩
      have ht2 : t < xs.length + ys.length := by
        obtain ⟨q, _⟩ := List.getElem?_eq_some_iff.mp ht
        rw [rng_len, lx, ly] at q
        omega
      refine ⟨_, vg_name gd 6 ?_⟩
      obtain ⟨k, hk⟩ : ∃ k, xs.length + ys.length - t = k + 1 := ⟨xs.length + ys.length - t - 1, by omega⟩
      have hk2 : xs.length + ys.length - (t + 1) = k := by omega
      rw [hk] at hpre
      have hz : pre.length < sizeLine := sz_lt (m := 4001) (by omega) (by decide)
      by_cases hor : i < xs.length ∨ j < ys.length
      · refine vss_one (vs_if (k := true) (VT.is (VW.t (vw_or (vt_lt (ve_var 3 rfl) (ve_len ml (ve_varL 0 rfl rfl) rfl)) fun _ => vw_or1 (vt_lt (ve_var 4 rfl) (ve_len ml (ve_varL 1 rfl rfl) rfl)))) ?_) (fun _ => ?_) fun z => nomatch z)
        · rw [lx, ly, Bool.or_eq_true, decide_eq_true_eq, decide_eq_true_eq]
          omega
        by_cases c1 : j < ys.length ∧ ee xs ys i j = 1 + ee xs ys i (j + 1)
        · have e : due xs ys (k + 1) i j = come j :: due xs ys k i (j + 1) := by
            show (if _ then _ else _) = _
            rw [if_pos hor, if_pos c1]
          rw [e] at hpre
          refine vss_one (vs_if (k := true) (VT.is (VW.t (vw_and (vt_lt (ve_var 4 rfl) (ve_len ml (ve_varL 1 rfl rfl) rfl)) fun _ => vw_and1 (vt_eqI (ve_ix (ve_ix (ve_var 2 rfl) (ve_var 3 rfl) rfl (at_nat rfl (lrows_at hi))) (ve_var 4 rfl) rfl (at_nat rfl (lrow_at hj))) (ve_add ve_int (ve_ix (ve_ix (ve_var 2 rfl) (ve_var 3 rfl) rfl (at_nat rfl (lrows_at hi))) (ve_add (ve_var 4 rfl) ve_int) rfl (at_nat (k := j + 1) rfl (lrow_at c1.1))))))) ?_) (fun _ => ?_) fun z => nomatch z)
          · rw [ly, Bool.and_eq_true, decide_eq_true_eq, decide_eq_true_eq]
            omega
          refine vss_cons (vs_app 5 rfl (ve_tup (vas_cons ve_str (vas_cons (ve_var 4 rfl) vas_nil))) hz ?_)
          refine vss_one (vs_set gd 4 (ve_add (ve_var 4 rfl) ve_int) ⟨pre ++ [come j], i, j + 1, _, rfl, ?_, hi, by omega, by rw [List.length_append, List.length_singleton]; omega⟩)
          rw [hk2, ← hpre, List.append_assoc]
          rfl
        · refine vss_one (vs_if (k := decide (j < ys.length) && decide (ee xs ys i j = 1 + ee xs ys i (j + 1))) (VW.t ?_) (fun z => ?_) fun _ => ?_)
          · have e : decide (((j : Nat) : Int) < (wsD ys).length) = decide (j < ys.length) := by rw [ly]; exact decide_eq_decide.mpr (by omega)
            rw [← e]
            refine vw_and (vt_lt (ve_var 4 rfl) (ve_len ml (ve_varL 1 rfl rfl) rfl)) fun hb => ?_
            rw [e, decide_eq_true_eq] at hb
            refine vw_and1 (VT.is (vt_eqI (ve_ix (ve_ix (ve_var 2 rfl) (ve_var 3 rfl) rfl (at_nat rfl (lrows_at hi))) (ve_var 4 rfl) rfl (at_nat rfl (lrow_at hj))) (ve_add ve_int (ve_ix (ve_ix (ve_var 2 rfl) (ve_var 3 rfl) rfl (at_nat rfl (lrows_at hi))) (ve_add (ve_var 4 rfl) ve_int) rfl (at_nat (k := j + 1) rfl (lrow_at hb))))) ?_)
            exact decide_eq_decide.mpr (by omega)
          · rw [Bool.and_eq_true, decide_eq_true_eq, decide_eq_true_eq] at z
            exact absurd z c1
          by_cases c2 : i < xs.length ∧ ee xs ys i j = 1 + ee xs ys (i + 1) j
          · have e : due xs ys (k + 1) i j = go i :: due xs ys k (i + 1) j := by
              show (if _ then _ else _) = _
              rw [if_pos hor, if_neg c1, if_pos c2]
            rw [e] at hpre
            refine vss_one (vs_if (k := true) (VT.is (VW.t (vw_and (vt_lt (ve_var 3 rfl) (ve_len ml (ve_varL 0 rfl rfl) rfl)) fun _ => vw_and1 (vt_eqI (ve_ix (ve_ix (ve_var 2 rfl) (ve_var 3 rfl) rfl (at_nat rfl (lrows_at hi))) (ve_var 4 rfl) rfl (at_nat rfl (lrow_at hj))) (ve_add ve_int (ve_ix (ve_ix (ve_var 2 rfl) (ve_add (ve_var 3 rfl) ve_int) rfl (at_nat (k := i + 1) rfl (lrows_at c2.1))) (ve_var 4 rfl) rfl (at_nat rfl (lrow_at hj))))))) ?_) (fun _ => ?_) fun z => nomatch z)
            · rw [lx, Bool.and_eq_true, decide_eq_true_eq, decide_eq_true_eq]
              omega
            refine vss_cons (vs_app 5 rfl (ve_tup (vas_cons ve_str (vas_cons (ve_var 3 rfl) vas_nil))) hz ?_)
            refine vss_one (vs_set gd 3 (ve_add (ve_var 3 rfl) ve_int) ⟨pre ++ [go i], i + 1, j, _, rfl, ?_, by omega, hj, by rw [List.length_append, List.length_singleton]; omega⟩)
            rw [hk2, ← hpre, List.append_assoc]
            rfl
          · refine vss_one (vs_if (k := decide (i < xs.length) && decide (ee xs ys i j = 1 + ee xs ys (i + 1) j)) (VW.t ?_) (fun z => ?_) fun _ => ?_)
            · have e : decide (((i : Nat) : Int) < (wsD xs).length) = decide (i < xs.length) := by rw [lx]; exact decide_eq_decide.mpr (by omega)
              rw [← e]
              refine vw_and (vt_lt (ve_var 3 rfl) (ve_len ml (ve_varL 0 rfl rfl) rfl)) fun hb => ?_
              rw [e, decide_eq_true_eq] at hb
              refine vw_and1 (VT.is (vt_eqI (ve_ix (ve_ix (ve_var 2 rfl) (ve_var 3 rfl) rfl (at_nat rfl (lrows_at hi))) (ve_var 4 rfl) rfl (at_nat rfl (lrow_at hj))) (ve_add ve_int (ve_ix (ve_ix (ve_var 2 rfl) (ve_add (ve_var 3 rfl) ve_int) rfl (at_nat (k := i + 1) rfl (lrows_at hb))) (ve_var 4 rfl) rfl (at_nat rfl (lrow_at hj))))) ?_)
              exact decide_eq_decide.mpr (by omega)
            · rw [Bool.and_eq_true, decide_eq_true_eq, decide_eq_true_eq] at z
              exact absurd z c2
            have hs := ee_one (xs := xs) (ys := ys) hor
            rcases hs with h | h | ⟨x, h1, h2, h3⟩
            · exact absurd h c1
            · exact absurd h c2
            have hi2 : i < xs.length := (List.getElem?_eq_some_iff.mp h1).1
            have hj2 : j < ys.length := (List.getElem?_eq_some_iff.mp h2).1
            have e : due xs ys (k + 1) i j = stay i j :: due xs ys k (i + 1) (j + 1) := by
              show (if _ then _ else _) = _
              rw [if_pos hor, if_neg c1, if_neg c2]
            rw [e] at hpre
            refine vss_cons (vs_app 5 rfl (ve_tup (vas_cons ve_str (vas_cons (ve_var 3 rfl) (vas_cons (ve_var 4 rfl) vas_nil)))) hz ?_)
            refine vss_one (vs_par gd 3 4 (vas_cons (ve_add (ve_var 3 rfl) ve_int) (vas_cons (ve_add (ve_var 4 rfl) ve_int) vas_nil)) ⟨pre ++ [stay i j], i + 1, j + 1, _, rfl, ?_, hi2, hj2, by rw [List.length_append, List.length_singleton]; omega⟩)
            rw [hk2, ← hpre, List.append_assoc]
            rfl
      · refine vss_one (vs_if (k := false) (VT.is (VW.t (vw_or (vt_lt (ve_var 3 rfl) (ve_len ml (ve_varL 0 rfl rfl) rfl)) fun _ => vw_or1 (vt_lt (ve_var 4 rfl) (ve_len ml (ve_varL 1 rfl rfl) rfl)))) ?_) (fun z => nomatch z) fun _ => ?_)
        · rw [lx, ly, Bool.or_eq_false_iff, decide_eq_false_iff_not, decide_eq_false_iff_not]
          omega
        refine vss_nil ⟨pre, i, j, _, rfl, ?_, hi, hj, by omega⟩
        rw [due_end hor] at hpre ⊢
        exact hpre
    · rintro G ⟨pre, i, j, z, rfl, hpre, hi, hj, hpl⟩
      rw [rng_len, lx, ly, show xs.length + ys.length - ((xs.length : Int) + (ys.length : Int)).toNat = 0 by omega] at hpre
      refine vss_one (vs_retO 5 rfl ?_)
      rw [← hpre, show due xs ys 0 i j = [] from rfl, List.append_nil] at hp
      exact hp
end
end K86

-- K86l
set_option Elab.async false
set_option linter.all false
set_option autoImplicit false
set_option maxRecDepth 100000
set_option maxHeartbeats 4000000
namespace K86
open PySem PySem.Spec L2 VL
open PyProof.Rows (envOfC)
/-! ### _law_bent -/
def otherL (ns : List Nat) (k : Nat) : List D := [.tup [.str "come", .int ((ns.getD (k + 4) 0 : Nat) % 13)], .tup [.str "go", .int ((ns.getD (k + 4) 0 : Nat) % 13)], .tup [.str "stay", .int ((ns.getD (k + 4) 0 : Nat) % 13), .int ((ns.getD (k + 5) 0 : Nat) % 13)], .non, .tup [.str "come"], .lst [.str "go", .int 0]]
def bAt (ds : List D) (ns : List Nat) (k : Nat) : Int := ((ns.getD k 0 : Nat) : Int) % ((ds.length : Nat) : Int)
abbrev bA (ds : List D) (ns : List Nat) (k : Nat) : D := .lst (cutD ds none (some (bAt ds ns k)) ++ [(otherL ns k).getD (ns.getD (k + 9) 0 % 6) .non] ++ cutD ds (some (bAt ds ns k + 1)) none)
abbrev bB (ds : List D) (ns : List Nat) (k : Nat) : D := .lst (cutD ds none (some (bAt ds ns k)) ++ (cutD ds (some (bAt ds ns k)) (some (bAt ds ns k + 2))).reverse ++ cutD ds (some (bAt ds ns k + 2)) none)
abbrev bC (ds : List D) (ns : List Nat) (k : Nat) : D := .lst (cutD ds none (some (bAt ds ns k)) ++ cutD ds (some (bAt ds ns k)) (some (bAt ds ns k + 1)) ++ cutD ds (some (bAt ds ns k)) none)
def bStep (ds : List D) (ns : List Nat) (k : Nat) : List D := if ds.isEmpty = true then [] else
  [bA ds ns k, bB ds ns k, bC ds ns k]
def bBase (ds : List D) : List D := [.lst ds, .tup ds, .non, .lst [], .lst (ds ++ [.tup [.str "come", .int 0]]), .lst (cutD ds (some 1) none), .lst (cutD ds none (some (-1))), .lst ds.reverse, .str "a", .int 5]
def bentD (ds : List D) (ns : List Nat) : Nat → List D
  | 0 => bBase ds
  | k + 1 => bentD ds ns k ++ bStep ds ns k
def Fine (d : D) : Prop := d.okN 2 = true ∧ ∀ es, d = .lst es → ∀ e ∈ es, e.okN 1 = true
theorem fine_lst {es : List D} (h : ∀ e ∈ es, e.okN 1 = true) : Fine (.lst es) := ⟨okN_lst (okA_of h), fun es' e => by cases e; exact h⟩
theorem mem_cut {ds : List D} {a b : Option Int} {e : D} (h : e ∈ cutD ds a b) : e ∈ ds := List.mem_of_mem_drop (List.mem_of_mem_take h)
theorem cut_len {ds : List D} {a b : Option Int} : (cutD ds a b).length ≤ ds.length := by
  unfold cutD
  rw [List.length_take, List.length_drop]
  omega
theorem otherL_ok {ns : List Nat} {k : Nat} : ∀ e ∈ otherL ns k, e.okN 1 = true := fun e h => by
  unfold otherL at h
  simp only [List.mem_cons, List.not_mem_nil, or_false] at h
  have s : ∀ {n : Nat}, (D.str "come").okN n = true := fun {n} => okN_str (by decide +kernel)
  have s2 : ∀ {n : Nat}, (D.str "go").okN n = true := fun {n} => okN_str (by decide +kernel)
  have s3 : ∀ {n : Nat}, (D.str "stay").okN n = true := fun {n} => okN_str (by decide +kernel)
  rcases h with rfl | rfl | rfl | rfl | rfl | rfl
  · exact okN_tup (okA_cons s (okA_cons okN_int okA_nil))
  · exact okN_tup (okA_cons s2 (okA_cons okN_int okA_nil))
  · exact okN_tup (okA_cons s3 (okA_cons okN_int (okA_cons okN_int okA_nil)))
  · exact okN_non
  · exact okN_tup (okA_cons s okA_nil)
  · exact okN_lst (okA_cons s2 (okA_cons okN_int okA_nil))
theorem other_at {ns : List Nat} {k n : Nat} : (otherL ns k)[n % 6]? = some ((otherL ns k).getD (n % 6) .non) := by
  have h : n % 6 < (otherL ns k).length := Nat.mod_lt _ (by decide)
  rw [List.getD_eq_getElem?_getD, List.getElem?_eq_getElem h]
  rfl
theorem other_ok {ns : List Nat} {k n : Nat} : ((otherL ns k).getD (n % 6) .non).okN 1 = true := otherL_ok _ (List.mem_of_getElem? other_at)
theorem bStep_fine {ds : List D} {ns : List Nat} {k : Nat} (h : ∀ e ∈ ds, e.okN 1 = true) : ∀ d ∈ bStep ds ns k, Fine d := fun d hd => by
  unfold bStep at hd
  split at hd
  · cases hd
  · simp only [List.mem_cons, List.not_mem_nil, or_false] at hd
    rcases hd with rfl | rfl | rfl
    · refine fine_lst fun e he => ?_
      simp only [List.mem_append, List.mem_singleton] at he
      rcases he with (he | he) | he
      · exact h e (mem_cut he)
      · subst he; exact other_ok
      · exact h e (mem_cut he)
    · refine fine_lst fun e he => ?_
      simp only [List.mem_append, List.mem_reverse] at he
      rcases he with (he | he) | he <;> exact h e (mem_cut he)
    · refine fine_lst fun e he => ?_
      simp only [List.mem_append] at he
      rcases he with (he | he) | he <;> exact h e (mem_cut he)
theorem bent_fine {ds : List D} {ns : List Nat} (h : ∀ e ∈ ds, e.okN 1 = true) : ∀ k, ∀ d ∈ bentD ds ns k, Fine d
  | 0 => fun d hd => by
    unfold bentD bBase at hd
    simp only [List.mem_cons, List.not_mem_nil, or_false] at hd
    rcases hd with rfl | rfl | rfl | rfl | rfl | rfl | rfl | rfl | rfl | rfl
    · exact fine_lst h
    · exact ⟨okN_tup (okA_of h), fun _ z => nomatch z⟩
    · exact ⟨okN_non, fun _ z => nomatch z⟩
    · exact fine_lst fun e he => nomatch he
    · refine fine_lst fun e he => ?_
      rcases List.mem_append.mp he with q | q
      · exact h e q
      · rw [List.mem_singleton] at q
        subst q
        exact okN_tup (okA_cons (okN_str (by decide +kernel)) (okA_cons okN_int okA_nil))
    · exact fine_lst fun e he => h e (mem_cut he)
    · exact fine_lst fun e he => h e (mem_cut he)
    · exact fine_lst fun e he => h e (List.mem_reverse.mp he)
    · exact ⟨okN_str (by decide +kernel), fun _ z => nomatch z⟩
    · exact ⟨okN_int, fun _ z => nomatch z⟩
  | k + 1 => fun d hd => by
    rcases List.mem_append.mp hd with q | q
    · exact bent_fine h k d q
    · exact bStep_fine h d q
theorem bent_len {ds : List D} {ns : List Nat} : ∀ k, (bentD ds ns k).length ≤ 10 + 3 * k
  | 0 => Nat.le_refl _
  | k + 1 => by
    have := bent_len (ds := ds) (ns := ns) k
    unfold bentD
    rw [List.length_append]
    have : (bStep ds ns k).length ≤ 3 := by unfold bStep; split <;> simp
    omega
theorem eqD_nil {ds : List D} : eqD (.lst ds) (.lst []) = ds.isEmpty := by
  cases ds with
  | nil => exact eqD_refl (okN_ok (n := 1) (okN_lst (n := 0) okA_nil))
  | cons d r => unfold eqD D.py D.pyAll; rfl
section
variable {P : Program} {w : World} {K : PySem.W.Frag} {mg : Str → Option Value} {base : Heap}
theorem scLB : FnScope ["told", "numbers", "found", "k", "at", "other"] ["told", "numbers"] (defScope (topS 25)) := ⟨rfl, rfl, rfl, by decide +kernel, rfl, by decide +kernel, by decide +kernel⟩
def spLB : VSpec := fun rs post _ => ∃ (ds : List D) (ns : List Nat), rs = [.sh (.lst ds), .en (natD ns)] ∧ ds.length ≤ 1000 ∧ 13 ≤ ns.length ∧ (∀ e ∈ ds, e.okN 1 = true) ∧ post (.ow (bentD ds ns 4))
theorem nat_at {ns : List Nat} {k : Nat} (h : k < ns.length) : (natD ns)[k]? = some (.int (ns.getD k 0 : Nat)) := by
  unfold natD
  rw [List.getElem?_map, List.getElem?_eq_getElem h, List.getD_eq_getElem?_getD, List.getElem?_eq_getElem h]
  rfl
theorem ok_LB {f : Addr} {fd : FuncData} (F' : Fun K "_law_bent" "_law_bent" (topS 25) f fd) (ml : mg "len" = none) (mr : mg "range" = none) (mt : mg "tuple" = none) : FnV P w K mg base 1 f fd ["told", "numbers"] spLB := by
  refine FnV.mk F' scLB (fun rs post xp h => ?_) fun cdv A outer s H E hr gd rs post xp h => ?_
  · obtain ⟨ds, ns, rfl, _⟩ := h
    rfl
  · obtain ⟨ds, ns, rfl, hds, hns, hel, hp⟩ := h
    have s1 : ds.length + [D.tup [.str "come", .int 0]].length ≤ sizeLine := sz_le (m := 2000) (by simp only [List.length_singleton]; omega) (by decide)
    refine vss_cons (vs_setO gd 2 (ds := bBase ds) (ve_lst (vas_cons (ve_var 0 rfl) (vas_cons (ve_tuple mt (ve_var 0 rfl) rfl) (vas_cons ve_non (vas_cons (ve_pub (ve_lst vas_nil)) (vas_cons (ve_pub (ve_addL (ve_var 0 rfl) (ve_lst (vas_cons (ve_tup (vas_cons ve_str (vas_cons ve_int vas_nil))) vas_nil)) rfl rfl s1)) (vas_cons (ve_pub (ve_sl (ve_var 0 rfl) rfl (vo_some ve_int) vo_none)) (vas_cons (ve_pub (ve_sl (ve_var 0 rfl) rfl vo_none (vo_some (ve_neg ve_int)))) (vas_cons (ve_pub (ve_rev (ve_var 0 rfl) rfl)) (vas_cons ve_str (vas_cons ve_int vas_nil)))))))))) (by rw [sizeLine_eq]; exact (by decide : 10 ≤ 16777216))) ?_)
    refine vss_cons (vs_for gd (fun k G => ∃ a b c, G = [some (.sh (.lst ds)), some (.en (natD ns)), some (.ow (bentD ds ns k)), a, b, c]) (vi_rng1 mr ve_int (by decide) (by decide)) ⟨none, none, none, rfl⟩ ?_ ?_)
    · rintro k d G hk ⟨a, b, c, rfl⟩
      have hk2 : k < 4 := by
        obtain ⟨q, _⟩ := List.getElem?_eq_some_iff.mp hk
        rw [rng_len] at q
        exact q
      rw [show Int.toNat 4 = 4 from rfl, rng_at hk2] at hk
      cases hk
      rw [Int.zero_add]
      refine ⟨_, vg_name gd 3 ?_⟩
      have hdk : (D.lst ds).ok = true := okN_ok (okN_lst (okA_of hel))
      have hnk : (D.lst []).ok = true := okN_ok (okN_lst (n := 0) okA_nil)
      refine vss_one (vs_if (VT.is (vt_neD gd (ve_var 0 rfl) (ve_lst vas_nil) hdk hnk) (congrArg (!·) eqD_nil)) (fun he => ?_) fun he => ?_)
      · have hne : ds.isEmpty = false := by simpa using he
        have hpos : 0 < ds.length := by cases ds with | nil => cases hne | cons _ _ => exact Nat.succ_pos _
        refine vss_cons (vs_set gd 4 (d := .int (bAt ds ns k)) (ve_mod (ve_ix (ve_varL 1 rfl rfl) (ve_var 3 rfl) rfl (at_nat rfl (nat_at (by omega)))) (ve_len ml (ve_var 0 rfl) rfl) (by omega)) ?_)
        refine vss_cons (vs_setO gd 5 (ds := otherL ns k) (ve_lst (vas_cons (ve_tup (vas_cons ve_str (vas_cons (ve_mod (ve_ix (ve_varL 1 rfl rfl) (ve_add (ve_var 3 rfl) ve_int) rfl (at_nat (k := k + 4) rfl (nat_at (by omega)))) ve_int (by decide)) vas_nil)))
          (vas_cons (ve_tup (vas_cons ve_str (vas_cons (ve_mod (ve_ix (ve_varL 1 rfl rfl) (ve_add (ve_var 3 rfl) ve_int) rfl (at_nat (k := k + 4) rfl (nat_at (by omega)))) ve_int (by decide)) vas_nil)))
          (vas_cons (ve_tup (vas_cons ve_str (vas_cons (ve_mod (ve_ix (ve_varL 1 rfl rfl) (ve_add (ve_var 3 rfl) ve_int) rfl (at_nat (k := k + 4) rfl (nat_at (by omega)))) ve_int (by decide)) (vas_cons (ve_mod (ve_ix (ve_varL 1 rfl rfl) (ve_add (ve_var 3 rfl) ve_int) rfl (at_nat (k := k + 5) rfl (nat_at (by omega)))) ve_int (by decide)) vas_nil))))
          (vas_cons ve_non (vas_cons (ve_tup (vas_cons ve_str vas_nil)) (vas_cons (ve_pub (ve_lst (vas_cons ve_str (vas_cons ve_int vas_nil)))) vas_nil)))))) (by rw [sizeLine_eq]; exact (by decide : 6 ≤ 16777216))) ?_)
        have l1 := fun (a b : Option Int) => cut_len (ds := ds) (a := a) (b := b)
        have hb := bent_len (ds := ds) (ns := ns) k
        have sz : ∀ {n : Nat}, n ≤ 10000 → n ≤ sizeLine := fun h => sz_le h (by decide)
        have e6 : ((ns.getD (k + 9) 0 : Nat) : Int) % 6 = ((ns.getD (k + 9) 0 % 6 : Nat) : Int) := rfl
        refine vss_cons (vs_app 2 rfl (ve_pub (ve_addL (ve_addL (ve_sl (ve_var 0 rfl) rfl vo_none (vo_some (ve_var 4 rfl))) (ve_lst (vas_cons (ve_ix (ve_varL 5 rfl rfl) (ve_mod (ve_ix (ve_varL 1 rfl rfl) (ve_add (ve_var 3 rfl) ve_int) rfl (at_nat (k := k + 9) rfl (nat_at (by omega)))) ve_int (by decide)) rfl (at_nat e6 other_at)) vas_nil)) rfl rfl (sz ?_)) (ve_sl (ve_var 0 rfl) rfl (vo_some (ve_add (ve_var 4 rfl) ve_int)) vo_none) rfl rfl (sz ?_))) (sz ?_) ?_)
        · have := l1 none (some (bAt ds ns k)); simp only [List.length_singleton]; omega
        · have := l1 none (some (bAt ds ns k)); have := l1 (some (bAt ds ns k + 1)) none; simp only [List.length_append, List.length_singleton]; omega
        · omega
        refine vss_cons (vs_app 2 rfl (ve_pub (ve_addL (ve_addL (ve_sl (ve_var 0 rfl) rfl vo_none (vo_some (ve_var 4 rfl))) (ve_rev (ve_sl (ve_var 0 rfl) rfl (vo_some (ve_var 4 rfl)) (vo_some (ve_add (ve_var 4 rfl) ve_int))) rfl) rfl rfl (sz ?_)) (ve_sl (ve_var 0 rfl) rfl (vo_some (ve_add (ve_var 4 rfl) ve_int)) vo_none) rfl rfl (sz ?_))) (sz ?_) ?_)
        · have := l1 none (some (bAt ds ns k)); have := l1 (some (bAt ds ns k)) (some (bAt ds ns k + 2)); simp only [List.length_reverse]; omega
        · have := l1 none (some (bAt ds ns k)); have := l1 (some (bAt ds ns k)) (some (bAt ds ns k + 2)); have := l1 (some (bAt ds ns k + 2)) none; simp only [List.length_append, List.length_reverse]; omega
        · rw [List.length_append, List.length_singleton]; omega
        refine vss_one (vs_app 2 rfl (ve_pub (ve_addL (ve_addL (ve_sl (ve_var 0 rfl) rfl vo_none (vo_some (ve_var 4 rfl))) (ve_sl (ve_var 0 rfl) rfl (vo_some (ve_var 4 rfl)) (vo_some (ve_add (ve_var 4 rfl) ve_int))) rfl rfl (sz ?_)) (ve_sl (ve_var 0 rfl) rfl (vo_some (ve_var 4 rfl)) vo_none) rfl rfl (sz ?_))) (sz ?_) ⟨some (.sh (.int (k : Nat))), some (.sh (.int (bAt ds ns k))), some (.ow (otherL ns k)), ?_⟩)
        · have := l1 none (some (bAt ds ns k)); have := l1 (some (bAt ds ns k)) (some (bAt ds ns k + 1)); omega
        · have := l1 none (some (bAt ds ns k)); have := l1 (some (bAt ds ns k)) (some (bAt ds ns k + 1)); have := l1 (some (bAt ds ns k)) none; simp only [List.length_append]; omega
        · simp only [List.length_append, List.length_singleton]; omega
        have e : bentD ds ns (k + 1) = (((bentD ds ns k ++ [bA ds ns k]) ++ [bB ds ns k]) ++ [bC ds ns k]) := by
          show bentD ds ns k ++ (if _ then _ else _) = _
          rw [if_neg (by rw [hne]; decide), List.append_assoc, List.append_assoc]
          rfl
        rw [e]
        rfl
      · have hne : ds.isEmpty = true := by simpa using he
        refine vss_nil ⟨some (.sh (.int (k : Nat))), b, c, ?_⟩
        have e : bentD ds ns (k + 1) = bentD ds ns k := by
          show bentD ds ns k ++ (if _ then _ else _) = _
          rw [if_pos hne, List.append_nil]
        rw [e]
        rfl
    · rintro G ⟨a, b, c, rfl⟩
      exact vss_one (vs_retO 2 rfl hp)
end
end K86

-- K86n
set_option Elab.async false
set_option linter.all false
set_option autoImplicit false
set_option maxRecDepth 100000
set_option maxHeartbeats 8000000
namespace K86
open PySem PySem.Spec L2 VL
open PyProof.Rows (envOfC)
open PySem.Ink (InkTxt)
/-- A is known of G -/
def Sub : Gm → Gm → Prop
  | [], [] => True
  | none :: A, _ :: G => Sub A G
  | some r :: A, g :: G => g = some r ∧ Sub A G
  | _, _ => False
theorem Sub.le : ∀ {A G : Gm}, Sub A G → A.length = G.length ∧ ∀ (i : Nat) (r : R), A[i]? = some (some r) → G[i]? = some (some r)
  | [], [], _ => ⟨rfl, fun i r h => h⟩
  | none :: A, g :: G, h => by
    obtain ⟨h1, h2⟩ := Sub.le (A := A) (G := G) h
    refine ⟨by rw [List.length_cons, List.length_cons, h1], fun i r e => ?_⟩
    cases i with
    | zero => cases e
    | succ i => exact h2 i r e
  | some r :: A, g :: G, h => by
    obtain ⟨h1, h2⟩ := Sub.le (A := A) (G := G) h.2
    refine ⟨by rw [List.length_cons, List.length_cons, h1], fun i r e => ?_⟩
    cases i with
    | zero => cases e; rw [h.1]; rfl
    | succ i => exact h2 i r e
  | [], _ :: _, h => h.elim
  | some _ :: _, [], h => h.elim
  | none :: _, [], h => h.elim
theorem vss_sub {X : Cx} {A G : Gm} {sts : List Stmt} {V : EndV} (s : Sub A G) (h : VSs X A sts V) : VSs X G sts V := vss_weak s.le h

/-! ### the words -/
def abc (i : Int) : Str := if i = 0 then "a" else if i = 1 then "b" else "c"
theorem abc_at {i : Int} (h0 : 0 ≤ i) (h3 : i < 3) : atI [D.str "a", .str "b", .str "c"] i = some (.str (abc i)) := by
  have : i = 0 ∨ i = 1 ∨ i = 2 := by omega
  rcases this with rfl | rfl | rfl <;> rfl
def wF (m : Int) : D → Option Str
  | .int n => some (abc (n % m))
  | _ => none
def wFD (m : Int) (d : D) : Option D := (wF m d).map D.str
def wds (m : Int) (l : List D) : List Str := l.filterMap (wF m)
theorem wds_eq {m : Int} {l : List D} : l.filterMap (wFD m) = wsD (wds m l) := by
  unfold wds wsD wFD
  rw [List.map_filterMap]
def Ltr (xs : List Str) : Prop := ∀ x ∈ xs, PyData.strOk x = true
theorem wds_ok {m : Int} {l : List D} : Ltr (wds m l) := fun x hx => by
  obtain ⟨d, _, h⟩ := List.mem_filterMap.mp hx
  unfold wF at h
  split at h
  · cases h
    unfold abc
    split
    · decide +kernel
    · split <;> decide +kernel
  · cases h
theorem ws_ok {xs : List Str} (h : Ltr xs) : (D.lst (wsD xs)).okN 1 = true := okN_lst (okA_of fun d hd => by
  obtain ⟨x, hx, rfl⟩ := List.mem_map.mp hd
  exact okN_str (h x hx))
theorem cut_le {l : List D} {a c : Nat} : (cutD l (some (a : Int)) (some ((a + c : Nat) : Int))).length ≤ c := by
  unfold cutD
  rw [HT.sIx_nat, HT.sIx_nat, List.length_take, List.length_drop]
  omega
theorem wds_len {m : Int} {l : List D} {n : Nat} (h : l.length ≤ n) : (wds m l).length ≤ n := Nat.le_trans (List.length_filterMap_le _ _) h
def cutS (xs : List Str) (lo hi : Option Int) : List Str := (xs.drop (HT.sIx xs.length 0 lo)).take (HT.sIx xs.length xs.length hi - HT.sIx xs.length 0 lo)
theorem cut_ws {xs : List Str} {lo hi : Option Int} : cutD (wsD xs) lo hi = wsD (cutS xs lo hi) := by
  unfold cutD cutS wsD
  rw [List.length_map, List.map_take, List.map_drop]
theorem cutS_len {xs : List Str} {lo hi : Option Int} : (cutS xs lo hi).length ≤ xs.length := by
  unfold cutS
  rw [List.length_take, List.length_drop]
  omega
theorem cutS_two {xs : List Str} : (cutS xs none (some 2)).length ≤ 2 := by
  unfold cutS
  rw [HT.sIx_none, show HT.sIx xs.length xs.length (some 2) = min 2 xs.length from HT.sIx_nat xs.length _ 2, List.length_take]
  omega
theorem cutS_mem {xs : List Str} {lo hi : Option Int} {x : Str} (h : x ∈ cutS xs lo hi) : x ∈ xs := List.mem_of_mem_drop (List.mem_of_mem_take h)
theorem ltr_app {xs ys : List Str} (h : Ltr xs) (k : Ltr ys) : Ltr (xs ++ ys) := fun x hx => by
  rcases List.mem_append.mp hx with q | q
  · exact h x q
  · exact k x q
theorem ltr_cut {xs : List Str} {lo hi : Option Int} (h : Ltr xs) : Ltr (cutS xs lo hi) := fun x hx => h x (cutS_mem hx)
theorem ws_app {xs ys : List Str} : wsD xs ++ wsD ys = wsD (xs ++ ys) := List.map_append.symm
/-- the pairs -/
def prL (xs ys : List Str) (a : Int) : List (List Str × List Str) := [(xs, ys), (ys, xs), (xs, xs), ([], ys), (xs, []), (xs, cutS xs (some a) none ++ cutS ys none (some 2)), ([], [])]
def pD (p : List Str × List Str) : D := .tup [.lst (wsD p.1), .lst (wsD p.2)]
def PairOk (p : List Str × List Str) : Prop := p.1.length ≤ 14 ∧ p.2.length ≤ 14 ∧ Ltr p.1 ∧ Ltr p.2
theorem prL_ok {xs ys : List Str} {a : Int} (hx : xs.length ≤ 12) (hy : ys.length ≤ 12) (lx : Ltr xs) (ly : Ltr ys) : ∀ p ∈ prL xs ys a, PairOk p := fun p hp => by
  unfold prL at hp
  simp only [List.mem_cons, List.not_mem_nil, or_false] at hp
  have l0 : Ltr [] := fun _ h => nomatch h
  have n0 : ([] : List Str).length ≤ 14 := by decide
  have hx' : xs.length ≤ 14 := by omega
  have hy' : ys.length ≤ 14 := by omega
  rcases hp with rfl | rfl | rfl | rfl | rfl | rfl | rfl
  · exact ⟨hx', hy', lx, ly⟩
  · exact ⟨hy', hx', ly, lx⟩
  · exact ⟨hx', hx', lx, lx⟩
  · exact ⟨n0, hy', l0, ly⟩
  · exact ⟨hx', n0, lx, l0⟩
  · refine ⟨hx', ?_, lx, ltr_app (ltr_cut lx) (ltr_cut ly)⟩
    have h1 := cutS_len (xs := xs) (lo := some a) (hi := none)
    have h2 := cutS_two (xs := ys)
    show (cutS xs (some a) none ++ cutS ys none (some 2)).length ≤ 14
    rw [List.length_append]
    omega
  · exact ⟨n0, n0, l0, l0⟩
theorem pair_sm {p : List Str × List Str} (h : PairOk p) : ¬ 1900 < (p.1.length + 1) * (p.2.length + 1) := by
  have := Nat.mul_le_mul (show p.1.length + 1 ≤ 15 by have := h.1; omega) (show p.2.length + 1 ≤ 15 by have := h.2.1; omega)
  omega
theorem due_ok {xs ys : List Str} : ∀ e ∈ dueD xs ys, e.okN 1 = true := fun e h => chg_ok (due_chg e h)
theorem due_lok {xs ys : List Str} : (D.lst (dueD xs ys)).ok = true := okN_ok (okN_lst (okA_of due_ok)) (by decide)
theorem done_due {xs ys : List Str} : (dueD xs ys).filterMap (dn xs ys) = wsD ys := by
  have := (due_all (xs := xs) (ys := ys) (xs.length + ys.length) 0 0 (Nat.zero_le _) (Nat.zero_le _) (by omega)).2
  rw [List.drop_zero] at this
  exact this
def nD (nm : List Nat) (lo hi : Option Int) : List Nat := (nm.drop (HT.sIx nm.length 0 lo)).take (HT.sIx nm.length nm.length hi - HT.sIx nm.length 0 lo)
theorem cut_nat {nm : List Nat} {lo hi : Option Int} : cutD (natD nm) lo hi = natD (nD nm lo hi) := by
  unfold cutD nD natD
  rw [List.length_map, List.map_take, List.map_drop]
theorem nD_len {nm : List Nat} (h : nm.length = 60) : 13 ≤ (nD nm (some 41) (some 56)).length := by
  unfold nD
  rw [show HT.sIx nm.length 0 (some 41) = min 41 nm.length from HT.sIx_nat _ _ 41, show HT.sIx nm.length nm.length (some 56) = min 56 nm.length from HT.sIx_nat _ _ 56, List.length_take, List.length_drop, h]
  decide
end K86

-- K86o
set_option Elab.async false
set_option linter.all false
set_option autoImplicit false
set_option maxRecDepth 100000
set_option maxHeartbeats 16000000
namespace K86
open PySem PySem.Spec L2 VL
open PyProof.Rows (envOfC)
open PySem.Ink (InkTxt)
section
variable {P : Program} {w : World} {K : PySem.W.Frag} {mg : Str → Option Value} {base : Heap}
theorem ve_isB {X : Cx} {G : Gm} {pos p p2 : Pos} {e : Expr} {b : Bool} (mi : X.mg "isinstance" = none) (mT : X.mg "bool" = none) (h : VE X G e (.sh (.bl b))) (hg : Gl X "isinstance" := by rfl) (hgT : Gl X "bool" := by rfl)
    (he : starEach [e, .Name "bool" p2] X.env = (false, eval e X.env) :: starEach [.Name "bool" p2] X.env := by rfl)
    (he2 : starEach [.Name "bool" p2] X.env = (false, eval (.Name "bool" p2) X.env) :: starEach [] X.env := by rfl) (hpl : (backTo pos (starEach [.Name "bool" p2] X.env)).any (·.1) = false := by rfl) :
    VE X G (.Call (.Name "isinstance" p) [e, .Name "bool" p2] [] pos) (.sh (.bl true)) :=
  ve_isi (T := "bool") mi mT (by decide +kernel) h (.inl rfl) (by show PySem.W.kitOne _ (.type "bool") (.type "bool") = some true; exact L2.kit_ty (by decide +kernel)) hgT hg (by decide) (by decide) he he2 hpl
theorem ve_isT {X : Cx} {G : Gm} {pos p p2 : Pos} {e : Expr} {ds : List D} (mi : X.mg "isinstance" = none) (mT : X.mg "tuple" = none) (h : VE X G e (.sh (.tup ds))) (hp : (D.tup ds).pl = true) (hg : Gl X "isinstance" := by rfl) (hgT : Gl X "tuple" := by rfl)
    (he : starEach [e, .Name "tuple" p2] X.env = (false, eval e X.env) :: starEach [.Name "tuple" p2] X.env := by rfl)
    (he2 : starEach [.Name "tuple" p2] X.env = (false, eval (.Name "tuple" p2) X.env) :: starEach [] X.env := by rfl) (hpl : (backTo pos (starEach [.Name "tuple" p2] X.env)).any (·.1) = false := by rfl) :
    VE X G (.Call (.Name "isinstance" p) [e, .Name "tuple" p2] [] pos) (.sh (.bl true)) :=
  ve_isi (T := "tuple") mi mT (by decide +kernel) h (.inl hp) (by show PySem.W.kitOne _ (.type "tuple") (.type "tuple") = some true; exact L2.kit_ty (by decide +kernel)) hgT hg (by decide) (by decide) he he2 hpl
theorem chg_tup {xs ys : List Str} {d : D} (h : Chg xs ys d) : ∃ ds, d = .tup ds := by
  rcases h with ⟨j, rfl, _⟩ | ⟨i, rfl, _⟩ | ⟨i, j, rfl, _⟩ <;> exact ⟨_, rfl⟩
theorem eq_self {d : D} (h : d.ok = true) : (!eqD d d) = false := by rw [eqD_refl h]; rfl

abbrev nLw : List Str := ["script", "at", "numbers", "first", "second", "pairs", "one", "other", "due", "turn", "left", "right", "told", "value", "some", "which", "number", "change"]
theorem scLw : FnScope nLw ["script"] (defScope (topS 27)) := ⟨rfl, rfl, rfl, by decide +kernel, rfl, by decide +kernel, by decide +kernel⟩
def spLw (K : PySem.W.Frag) : VSpec := fun rs post _ => ∃ ns : List Int, rs = [.sh (.scr K ns)] ∧ post (.sh (.bl true))
def gScr (K : PySem.W.Frag) (ns : List Int) : Gm := [some (.sh (.scr K ns)), none, none, none, none, none, none, none, none, none, none, none, none, none, none, none, none, none]
def gNum (K : PySem.W.Frag) (ns : List Int) (nm : List Nat) (x1 x2 : Option R) : Gm := [some (.sh (.scr K ns)), none, some (.ow (natD nm)), x1, x2, none, none, none, none, none, none, none, none, none, none, none, none, none]
def gPr (K : PySem.W.Frag) (ns : List Int) (nm : List Nat) (ps : List (List Str × List Str)) : Gm := [some (.sh (.scr K ns)), none, some (.ow (natD nm)), none, none, some (.sh (.lst (ps.map pD))), none, none, none, none, none, none, none, none, none, none, none, none]
def gDue (K : PySem.W.Frag) (ns : List Int) (nm : List Nat) (ps : List (List Str × List Str)) (xs ys : List Str) : Gm := [some (.sh (.scr K ns)), none, some (.ow (natD nm)), none, none, some (.sh (.lst (ps.map pD))), some (.sh (.lst (wsD xs))), some (.sh (.lst (wsD ys))), some (.sh (.lst (dueD xs ys))), none, none, none, none, none, none, none, none, none]
structure Fns (P : Program) (w : World) (K : PySem.W.Frag) (mg : Str → Option Value) (base : Heap) (C : Addr) : Prop where
  cLN : Cl P w K mg base 1 "_law_numbers" (spLN K)
  cLD : Cl P w K mg base 2 "_law_due" spLD
  cCH : Cl P w K mg base 3 "changes" (spCH C)
  cDN : Cl P w K mg base 1 "done" spDN
  cCC : Cl P w K mg base 4 "change_count" (spCC C)
  cLB : Cl P w K mg base 1 "_law_bent" spLB
  cAC : Cl P w K mg base 1 "are_changes" spAC
  cLR : Cl P w K mg base 1 "_law_right" spAC
  cRF : Cl P w K mg base 5 "_law_refused" spRF
structure Mgs (mg : Str → Option Value) : Prop where
  len : mg "len" = none
  range : mg "range" = none
  list : mg "list" = none
  isi : mg "isinstance" = none
  tuple : mg "tuple" = none
  bool : mg "bool" = none
def pairBody : List Stmt := match topS 27 with
  | .FunctionDef _ _ (.For _ _ b _ _ :: _) .. => (match b.getD 4 (.Pass ⟨0, 0, 0, 0⟩) with | .For _ _ b _ _ => b | _ => [])
  | _ => []
/-- one pair -/
theorem pair_ok {f C : Addr} {cdv : Value} {A : Around} {outer : List Env} {s : Shared} {H : Hp} {E : XK} (F : Fns P w K mg base C) (m : Mgs mg) (hr : Room 5 (A.deeper (envOfC "law" (defScope (topS 27)) s.heap.objs.size f cdv)))
    (gd : Good (cxOf (L2.CX P w) P w K mg base nLw "law" (defScope (topS 27)) f cdv A outer s H E)) {ns : List Int} {nm : List Nat} {ps : List (List Str × List Str)} {p : List Str × List Str} (hnm : nm.length = 60) (hp : PairOk p) {G : Gm} {V : EndV}
    (hG : Sub (gPr K ns nm ps) G) (h6 : G[6]? = some (some (.sh (.lst (wsD p.1))))) (h7 : G[7]? = some (some (.sh (.lst (wsD p.2))))) (hV : ∀ G, Sub (gPr K ns nm ps) G → V.nx G) :
    VSs (cxOf (L2.CX P w) P w K mg base nLw "law" (defScope (topS 27)) f cdv A outer s H E) G pairBody V := by
  obtain ⟨xs, ys⟩ := p
  have hx : xs.length ≤ 14 := hp.1
  have hy : ys.length ≤ 14 := hp.2.1
  have hsm : ¬ 1900 < (xs.length + 1) * (ys.length + 1) := pair_sm hp
  have hx2 : xs.length ≤ 2000 := by omega
  have hy2 : ys.length ≤ 2000 := by omega
  have okx : (D.lst (wsD xs)).ok = true := okN_ok (ws_ok hp.2.2.1)
  have oky : (D.lst (wsD ys)).ok = true := okN_ok (ws_ok hp.2.2.2)
  have okd : (D.lst (dueD xs ys)).ok = true := due_lok
  have hdl : (dueD xs ys).length ≤ 28 := by
    have := chg_len (xs := xs) (ys := ys)
    omega
  have hG2 : Sub ((gPr K ns nm ps).set 6 (some (.sh (.lst (wsD xs)))) |>.set 7 (some (.sh (.lst (wsD ys))))) G := by
    match G, hG, h6, h7 with
    | [_, _, _, _, _, _, _, _, _, _, _, _, _, _, _, _, _, _], hG, h6, h7 =>
      cases h6
      cases h7
      exact ⟨hG.1, hG.2.1, hG.2.2.1, rfl, rfl, trivial⟩
  refine vss_sub hG2 ?_
  refine vss_cons (vs_setO gd 8 (ds := dueD xs ys) (ve_call (F.cLD.cal hr) (va_cons (ve_lv (ve_var 6 rfl) rfl) (va_cons (ve_lv (ve_var 7 rfl) rfl) va_nil)) fun post xp h => ⟨_, _, rfl, hx2, hy2, h⟩) ?_)
  refine vss_frz 8 rfl ?_
  refine vss_cons (vs_for gd (fun _ G => Sub (gDue K ns nm ps xs ys) G) (vi_rng1 m.range ve_int (by decide) (by decide)) ⟨rfl, rfl, rfl, rfl, rfl, rfl, trivial⟩ ?_ ?_)
  · rintro k d G hk hS
    have hlen := hS.le.1
    match G, hS with
    | [g0, g1, g2, g3, g4, g5, g6, g7, g8, g9, g10, g11, g12, g13, g14, g15, g16, g17], hS =>
    obtain ⟨rfl, rfl, rfl, rfl, rfl, rfl, _⟩ := hS
    obtain ⟨i, hi⟩ : ∃ i, d = .int i := by
      obtain ⟨q, _⟩ := List.getElem?_eq_some_iff.mp hk
      rw [rng_len] at q
      rw [rng_at q] at hk
      cases hk
      exact ⟨_, rfl⟩
    refine ⟨_, vg_name gd 9 ?_⟩
    refine vss_cons (vs_par gd 10 11 (vas_cons (ve_pub (ve_list m.list (ve_var 6 rfl) rfl)) (vas_cons (ve_pub (ve_list m.list (ve_var 7 rfl) rfl)) vas_nil)) ?_)
    refine vss_cons (vs_setO gd 12 (ds := dueD xs ys) (ve_call (F.cCH.cal hr) (va_cons (ve_lv (ve_var 10 rfl) rfl) (va_cons (ve_lv (ve_var 11 rfl) rfl) va_nil)) fun post xp h => ⟨_, _, rfl, hx2, hy2, by rw [if_neg hsm]; exact h⟩) ?_)
    refine vss_cons (vs_if (k := false) (VT.is (VW.t (vw_or (vt_not (vt_val (ve_isL m.isi m.list (ve_varL 12 rfl rfl) (ok_pl okd)))) fun _ => vw_or (vt_neD gd (ve_varL 12 rfl rfl) (ve_var 8 rfl) okd okd) fun _ => vw_or (vt_neD gd (ve_var 10 rfl) (ve_var 6 rfl) okx okx) fun _ => vw_or1 (vt_neD gd (ve_var 11 rfl) (ve_var 7 rfl) oky oky))) ?_) (fun z => nomatch z) fun _ => ?_)
    · exact Bool.or_eq_false_iff.mpr ⟨rfl, Bool.or_eq_false_iff.mpr ⟨eq_self okd, Bool.or_eq_false_iff.mpr ⟨eq_self okx, eq_self oky⟩⟩⟩
    refine vss_nil ?_
    have okn : (D.lst []).ok = true := okN_ok (okN_lst (n := 0) okA_nil) (by decide)
    refine vss_cons (vs_if (k := false) (VT.is (VW.t (vw_or (vt_neD gd (ve_lc (ds := dueD xs ys) (F := fun _ => none) gd [("change", 17)] (vim_list (ve_varL 12 rfl rfl) rfl) (blkOk_by (N := nLw) (sc := defScope (topS 27)) (by decide +kernel)) ?_ (sz_le (m := 28) hdl (by decide))) (ve_lst vas_nil) ?_ okn) fun _ => vw_or1 (vt_neD gd (ra := .ow (wsD ys)) (ve_call (F.cDN.cal hr) (va_cons (ve_lv (ve_var 10 rfl) rfl) (va_cons (ve_lv (ve_var 11 rfl) rfl) (va_cons (ve_varL 12 rfl rfl) va_nil))) fun post xp h => ⟨xs, ys, _, rfl, by omega, due_chg, by rw [done_due]; exact h⟩) (ve_var 7 rfl) oky oky))) ?_) (fun z => nomatch z) fun _ => ?_)
    · intro i d hd
      obtain ⟨es, rfl⟩ := chg_tup (due_chg d (List.mem_of_getElem? hd))
      have hel := due_ok _ (List.mem_of_getElem? hd)
      refine ⟨_, [17], by decide, fun s H C cl fp => vg_name gd.bk 17 rfl, fun s H C cl fp => vts_one (vt_not (vt_val (ve_isT m.isi m.tuple (ve_var 17 rfl) (ok_pl (okN_ok hel))))), fun d' he => nomatch he⟩
    · rw [show (dueD xs ys).filterMap (fun _ => (none : Option D)) = [] from by induction dueD xs ys with | nil => rfl | cons a r ih => exact ih]
      exact okn
    · rw [show (dueD xs ys).filterMap (fun _ => (none : Option D)) = [] from by induction dueD xs ys with | nil => rfl | cons a r ih => exact ih]
      exact Bool.or_eq_false_iff.mpr ⟨eq_self okn, eq_self oky⟩
    refine vss_nil ?_
    exact vss_one (vs_app 12 rfl ve_int (sz_lt (m := 29) (by omega) (by decide)) ⟨rfl, rfl, rfl, rfl, rfl, rfl, trivial⟩)
  · rintro G hS
    refine vss_sub hS ?_
    have hcl : ((dueD xs ys).filterMap nst).length = ((dueD xs ys).filterMap nst).length := rfl
    refine vss_cons (vs_if (k := false) (VT.is (vt_neI (ve_call (out := .sh (.int ((dueD xs ys).filterMap nst).length)) (F.cCC.cal hr) (va_cons (ve_lv (ve_var 6 rfl) rfl) (va_cons (ve_lv (ve_var 7 rfl) rfl) va_nil)) fun post xp h => ⟨_, _, rfl, hx2, hy2, by rw [if_neg hsm]; exact h⟩) (ve_len m.len (ve_lc (ds := dueD xs ys) (F := nst) gd [("change", 17)] (vim_list (ve_var 8 rfl) rfl) (blkOk_by (N := nLw) (sc := defScope (topS 27)) (by decide +kernel)) ?_ (sz_le (m := 28) hdl (by decide))) rfl)) ?_) (fun z => nomatch z) fun _ => ?_)
    · intro i d hd
      obtain ⟨t, r, e, e2⟩ := nst_chg (due_chg d (List.mem_of_getElem? hd))
      subst e
      refine ⟨_, [17], by decide, fun s H C cl fp => vg_name gd.bk 17 rfl, fun s H C cl fp => vts_one (VT.is (vt_neS (ve_ixT (ve_var 17 rfl) ve_int (at_nat rfl rfl)) ve_str) ?_), fun d' he s H C cl fp => VE.is (ve_var 17 rfl) ?_⟩
      · rw [e2]
        split
        · rename_i h; rw [decide_eq_true h]; rfl
        · rename_i h; rw [decide_eq_false h]; rfl
      · rw [e2] at he
        split at he
        · cases he
        · cases he; rfl
    · rw [decide_eq_true rfl]
      rfl
    refine vss_nil ?_
    have hfine := fun k => bent_fine (ns := nD nm (some 41) (some 56)) (due_ok (xs := xs) (ys := ys)) k
    refine vss_one (vs_for gd (fun _ G => Sub (gDue K ns nm ps xs ys) G) (ds := bentD (dueD xs ys) (nD nm (some 41) (some 56)) 4) (vi_list (ve_pub (ve_call (F.cLB.cal hr) (va_cons (ve_var 8 rfl) (va_cons (ve_sl (ve_varL 2 rfl rfl) rfl (vo_some ve_int) (vo_some ve_int)) va_nil)) fun post xp h => ⟨_, _, by rw [cut_nat]; rfl, by omega, nD_len hnm, due_ok, h⟩))) ⟨rfl, rfl, rfl, rfl, rfl, rfl, trivial⟩ ?_ ?_)
    · rintro k d G hk hS
      match G, hS with
      | [g0, g1, g2, g3, g4, g5, g6, g7, g8, g9, g10, g11, g12, g13, g14, g15, g16, g17], hS =>
      obtain ⟨rfl, rfl, rfl, rfl, rfl, rfl, _⟩ := hS
      obtain ⟨hf1, hf2⟩ := hfine 4 d (List.mem_of_getElem? hk)
      have hdo : d.ok = true := okN_ok hf1
      have hde : ∀ ds, d = .lst ds → ∀ e ∈ ds, e.ok = true := fun ds e x hx => okN_ok (hf2 ds e x hx)
      refine ⟨_, vg_name gd 13 ?_⟩
      refine vss_cons (vs_set gd 12 (d := .bl (rightD xs ys d)) (ve_call (F.cAC.cal hr) (va_cons (ve_lv (ve_var 6 rfl) rfl) (va_cons (ve_lv (ve_var 7 rfl) rfl) (va_cons (ve_var 13 rfl) va_nil))) fun post xp h => ⟨_, _, _, rfl, hdo, hde, h⟩) ?_)
      have okb : (D.bl (rightD xs ys d)).ok = true := okN_ok (okN_bl (n := 0)) (by decide)
      refine vss_one (vs_if (k := false) (VT.is (VW.t (vw_or (vt_not (vt_val (ve_isB m.isi m.bool (ve_var 12 rfl)))) fun _ => vw_or1 (vt_neD gd (rb := .sh (.bl (rightD xs ys d))) (ve_var 12 rfl) (ve_call (F.cLR.cal hr) (va_cons (ve_lv (ve_var 6 rfl) rfl) (va_cons (ve_lv (ve_var 7 rfl) rfl) (va_cons (ve_var 13 rfl) va_nil))) fun post xp h => ⟨_, _, _, rfl, hdo, hde, h⟩) okb okb))) ?_) (fun z => nomatch z) fun _ => ?_)
      · exact Bool.or_eq_false_iff.mpr ⟨rfl, eq_self okb⟩
      exact vss_nil ⟨rfl, rfl, rfl, rfl, rfl, rfl, trivial⟩
    · rintro G hS
      refine hV _ ?_
      match G, hS with
      | [g0, g1, g2, g3, g4, g5, g6, g7, g8, g9, g10, g11, g12, g13, g14, g15, g16, g17], hS => exact ⟨hS.1, hS.2.1, hS.2.2.1, trivial⟩
end
end K86

-- K86p
set_option Elab.async false
set_option linter.all false
set_option autoImplicit false
set_option maxRecDepth 100000
set_option maxHeartbeats 16000000
namespace K86
open PySem PySem.Spec L2 VL
open PyProof.Rows (envOfC)
open PySem.Ink (InkTxt)
theorem rep_ws {a : Str} {n : Nat} : (List.replicate n [D.str a]).flatten = wsD (List.replicate n a) := by
  induction n with
  | zero => rfl
  | succ n ih => rw [List.replicate_succ, List.flatten_cons, ih, List.replicate_succ]; rfl
theorem isN_non : isNon .non = true := rfl
section
variable {P : Program} {w : World} {K : PySem.W.Frag} {mg : Str → Option Value} {base : Heap}
theorem mem_nat {nm : List Nat} {d : D} (h : d ∈ natD nm) : ∃ n : Nat, d = .int (n : Nat) := by
  obtain ⟨n, _, rfl⟩ := List.mem_map.mp h
  exact ⟨n, rfl⟩
def gSo (so : Int) : Gm := [none, none, none, none, none, none, none, none, none, none, none, none, none, none, some (.sh (.int so)), none, none, none]
theorem ve_aN {X : Cx} {G : Gm} {n : Int} {j k : Nat} {p1 p2 p3 p4 : Pos} (h0 : 0 ≤ n) (h1 : n ≤ 2000) (he : starEach [.Constant (.str "a") j p1] X.env = (false, eval (.Constant (.str "a") j p1) X.env) :: starEach [] X.env := by rfl) :
    VE X G (.BinOp (.List [.Constant (.str "a") j p1] p2) .Mult (.Constant (.int n) k p3) p4) (.ow (wsD (List.replicate n.toNat "a"))) :=
  VE.is (ve_repL (ve_lst (vas_cons ve_str vas_nil he)) ve_int rfl (by omega) (by omega) (sz_le (m := 2000) (by simp only [List.length_singleton]; omega) (by decide))) (by rw [rep_ws])
theorem rf_n {xs ys : List Str} {n : Int} {post : R → Prop} {xp : XV → Prop} (hx : xs.length ≤ 2000) (hy : ys.length ≤ 2000) (hb : ¬ 1900 < (xs.length + 1) * (ys.length + 1)) (h : post (.sh .non)) : spRF [.en (wsD xs), .en (wsD ys), .sh (.int n)] post xp := ⟨xs, ys, n, rfl, hx, hy, by rw [if_neg hb]; exact h⟩
theorem rf_y {xs ys : List Str} {n : Int} {post : R → Prop} {xp : XV → Prop} (hx : xs.length ≤ 2000) (hy : ys.length ≤ 2000) (hb : 1900 < (xs.length + 1) * (ys.length + 1)) (h : post (.sh (.int 1900))) : spRF [.en (wsD xs), .en (wsD ys), .sh (.int n)] post xp := ⟨xs, ys, n, rfl, hx, hy, by rw [if_pos hb]; exact h⟩
theorem rl {n : Nat} {a : Str} (h : n ≤ 2000) : (List.replicate n a).length ≤ 2000 := by rw [List.length_replicate]; exact h
theorem ok_Lw {f C : Addr} {fd : FuncData} (F' : Fun K "law" "law" (topS 27) f fd) (F : Fns P w K mg base C) (m : Mgs mg) : FnV P w K mg base 6 f fd ["script"] (spLw K) := by
  refine FnV.mk F' scLw (fun rs post xp h => ?_) fun cdv A outer s H E hr gd rs post xp h => ?_
  · obtain ⟨ns, rfl, _⟩ := h
    rfl
  · obtain ⟨ns, rfl, hp⟩ := h
    refine vss_cons (vs_for gd (fun _ G => Sub (gScr K ns) G) (vi_rng1 m.range ve_int (by decide) (by decide)) ⟨rfl, trivial⟩ ?_ ?_)
    · rintro k d G hk hS
      match G, hS with
      | [g0, g1, g2, g3, g4, g5, g6, g7, g8, g9, g10, g11, g12, g13, g14, g15, g16, g17], hS =>
      obtain ⟨rfl, _⟩ := hS
      have hk2 : k < 3 := by
        obtain ⟨q, _⟩ := List.getElem?_eq_some_iff.mp hk
        rw [rng_len] at q
        exact q
      rw [show Int.toNat 3 = 3 from rfl, rng_at hk2] at hk
      cases hk
      rw [Int.zero_add]
      refine ⟨_, vg_name gd 1 ?_⟩
      refine vss_cons (vs_setO gd 2 (ds := natD (lnAt ns k 60).2) (ve_call (F.cLN.cal hr) (va_cons (ve_var 0 rfl) (va_cons (ve_var 1 rfl) (va_cons ve_int va_nil))) fun post xp h => ⟨ns, k, 60, rfl, by omega, by decide, h⟩) ?_)
      have hnm : (lnAt ns k 60).2.length = 60 := lnAt_len 60
      generalize (lnAt ns k 60).2 = nm at hnm
      have hn0 : ((nm.getD 0 0 : Nat) : Int) % 3 < 3 := Int.emod_lt_of_pos _ (by decide)
      have hn1 : 0 ≤ ((nm.getD 0 0 : Nat) : Int) % 3 := Int.emod_nonneg _ (by decide)
      have cutn : ∀ (lo hi : Option Int) (i : Nat) (d : D), (cutD (natD nm) lo hi)[i]? = some d → ∃ n : Nat, d = .int (n : Nat) := fun lo hi i d hd => mem_nat (mem_cut (List.mem_of_getElem? hd))
      have hcl : ∀ (lo hi : Option Int), (cutD (natD nm) lo hi).length ≤ sizeLine := fun lo hi => sz_le (m := 60) (Nat.le_trans cut_len (by unfold natD; rw [List.length_map, hnm]; exact Nat.le_refl _)) (by decide)
      have hat : ∀ (n : Nat), atI [D.str "a", .str "b", .str "c"] ((n : Int) % (1 + ((nm.getD 0 0 : Nat) : Int) % 3)) = some (.str (abc ((n : Int) % (1 + ((nm.getD 0 0 : Nat) : Int) % 3)))) := fun n =>
        abc_at (Int.emod_nonneg _ (by omega)) (by have := Int.emod_lt_of_pos (n : Int) (show 0 < 1 + ((nm.getD 0 0 : Nat) : Int) % 3 by omega); omega)
      refine vss_cons (vs_lc gd (F := wFD (1 + ((nm.getD 0 0 : Nat) : Int) % 3)) 3 [("number", 16)] (vim_list (ve_sl (ve_varL 2 rfl rfl) rfl (vo_some ve_int) (vo_some (ve_add ve_int (ve_mod (ve_ix (ve_varL 2 rfl rfl) ve_int rfl (at_nat (k := 1) rfl (nat_at (by omega)))) ve_int (by decide))))) rfl) (blkOk_by (N := nLw) (sc := defScope (topS 27)) (by decide +kernel)) ?_ (hcl _ _) ?_)
      · intro i d hd
        obtain ⟨n, rfl⟩ := cutn _ _ i d hd
        refine ⟨_, [16], by decide, fun s H C cl fp => vg_name gd.bk 16 rfl, fun s H C cl fp => vts_nil, fun d' he s H C cl fp => ?_⟩
        cases he
        exact ve_ix (ve_lst (vas_cons ve_str (vas_cons ve_str (vas_cons ve_str vas_nil)))) (ve_mod (ve_var 16 rfl) (ve_add ve_int (ve_mod (ve_ix (ve_varL 2 rfl rfl) ve_int rfl (at_nat (k := 0) rfl (nat_at (by omega)))) ve_int (by decide))) (by omega)) rfl (hat n)
      refine vss_cons (vs_lc gd (F := wFD (1 + ((nm.getD 0 0 : Nat) : Int) % 3)) 4 [("number", 16)] (vim_list (ve_sl (ve_varL 2 rfl rfl) rfl (vo_some ve_int) (vo_some (ve_add ve_int (ve_mod (ve_ix (ve_varL 2 rfl rfl) ve_int rfl (at_nat (k := 3) rfl (nat_at (by omega)))) ve_int (by decide))))) rfl) (blkOk_by (N := nLw) (sc := defScope (topS 27)) (by decide +kernel)) ?_ (hcl _ _) ?_)
      · intro i d hd
        obtain ⟨n, rfl⟩ := cutn _ _ i d hd
        refine ⟨_, [16], by decide, fun s H C cl fp => vg_name gd.bk 16 rfl, fun s H C cl fp => vts_nil, fun d' he s H C cl fp => ?_⟩
        cases he
        exact ve_ix (ve_lst (vas_cons ve_str (vas_cons ve_str (vas_cons ve_str vas_nil)))) (ve_mod (ve_var 16 rfl) (ve_add ve_int (ve_mod (ve_ix (ve_varL 2 rfl rfl) ve_int rfl (at_nat (k := 0) rfl (nat_at (by omega)))) ve_int (by decide))) (by omega)) rfl (hat n)
      have b1 : ((nm.getD 1 0 : Nat) : Int) % 13 < 13 := Int.emod_lt_of_pos _ (by decide)
      have b1' : 0 ≤ ((nm.getD 1 0 : Nat) : Int) % 13 := Int.emod_nonneg _ (by decide)
      have b3 : ((nm.getD 3 0 : Nat) : Int) % 13 < 13 := Int.emod_lt_of_pos _ (by decide)
      have b3' : 0 ≤ ((nm.getD 3 0 : Nat) : Int) % 13 := Int.emod_nonneg _ (by decide)
      have cl2 : ∀ (a c : Nat) (z : Int), 0 ≤ z → z < 13 → (cutD (natD nm) (some (a : Int)) (some ((a : Int) + z))).length ≤ 12 := fun a c z h0 h1 => by
        obtain ⟨n, rfl⟩ : ∃ n : Nat, z = n := ⟨z.toNat, by omega⟩
        have := cut_le (l := natD nm) (a := a) (c := n)
        rw [show ((a : Int) + (n : Int)) = ((a + n : Nat) : Int) by omega]
        omega
      rw [wds_eq, wds_eq]
      have hx := wds_len (m := 1 + ((nm.getD 0 0 : Nat) : Int) % 3) (cl2 2 0 _ b1' b1)
      have hy := wds_len (m := 1 + ((nm.getD 0 0 : Nat) : Int) % 3) (cl2 20 0 _ b3' b3)
      have lx : Ltr (wds (1 + ((nm.getD 0 0 : Nat) : Int) % 3) (cutD (natD nm) (some 2) (some (2 + ((nm.getD 1 0 : Nat) : Int) % 13)))) := wds_ok
      have ly : Ltr (wds (1 + ((nm.getD 0 0 : Nat) : Int) % 3) (cutD (natD nm) (some 20) (some (20 + ((nm.getD 3 0 : Nat) : Int) % 13)))) := wds_ok
      change (wds (1 + ((nm.getD 0 0 : Nat) : Int) % 3) (cutD (natD nm) (some 2) (some (2 + ((nm.getD 1 0 : Nat) : Int) % 13)))).length ≤ 12 at hx
      change (wds (1 + ((nm.getD 0 0 : Nat) : Int) % 3) (cutD (natD nm) (some 20) (some (20 + ((nm.getD 3 0 : Nat) : Int) % 13)))).length ≤ 12 at hy
      generalize wds (1 + ((nm.getD 0 0 : Nat) : Int) % 3) (cutD (natD nm) (some 2) (some (2 + ((nm.getD 1 0 : Nat) : Int) % 13))) = xs at hx lx ⊢
      generalize wds (1 + ((nm.getD 0 0 : Nat) : Int) % 3) (cutD (natD nm) (some 20) (some (20 + ((nm.getD 3 0 : Nat) : Int) % 13))) = ys at hy ly ⊢
      refine vss_frz 3 rfl ?_
      refine vss_frz 4 rfl ?_
      have hsz : (cutD (wsD xs) (some (((nm.getD 40 0 : Nat) : Int) % 3)) none).length + (cutD (wsD ys) none (some 2)).length ≤ sizeLine := sz_le (m := 24) (by
        have h1 := cut_len (ds := wsD xs) (a := some (((nm.getD 40 0 : Nat) : Int) % 3)) (b := none)
        have h2 := cut_len (ds := wsD ys) (a := none) (b := some 2)
        unfold wsD at h1 h2
        rw [List.length_map] at h1 h2
        unfold wsD
        omega) (by decide)
      have e6 : cutD (wsD xs) (some (((nm.getD 40 0 : Nat) : Int) % 3)) none ++ cutD (wsD ys) none (some 2) = wsD (cutS xs (some (((nm.getD 40 0 : Nat) : Int) % 3)) none ++ cutS ys none (some 2)) := by rw [cut_ws, cut_ws, ws_app]
      refine vss_cons (vs_setO gd 5 (ds := (prL xs ys (((nm.getD 40 0 : Nat) : Int) % 3)).map pD) (ve_lst (vas_cons (ve_tup (vas_cons (ve_var 3 rfl) (vas_cons (ve_var 4 rfl) vas_nil))) (vas_cons (ve_tup (vas_cons (ve_var 4 rfl) (vas_cons (ve_var 3 rfl) vas_nil))) (vas_cons (ve_tup (vas_cons (ve_var 3 rfl) (vas_cons (ve_pub (ve_list m.list (ve_var 3 rfl) rfl)) vas_nil))) (vas_cons (ve_tup (vas_cons (ve_pub (ve_lst vas_nil)) (vas_cons (ve_var 4 rfl) vas_nil))) (vas_cons (ve_tup (vas_cons (ve_var 3 rfl) (vas_cons (ve_pub (ve_lst vas_nil)) vas_nil)))
        (vas_cons (ve_tup (vas_cons (ve_var 3 rfl) (vas_cons (VE.is (ve_pub (ve_addL (ve_sl (ve_var 3 rfl) rfl (vo_some (ve_mod (ve_ix (ve_varL 2 rfl rfl) ve_int rfl (at_nat (k := 40) rfl (nat_at (by omega)))) ve_int (by decide))) vo_none) (ve_sl (ve_var 4 rfl) rfl vo_none (vo_some ve_int)) rfl rfl hsz)) (by rw [e6])) vas_nil))) (vas_cons (ve_tup (vas_cons (ve_pub (ve_lst vas_nil)) (vas_cons (ve_pub (ve_lst vas_nil)) vas_nil))) vas_nil))))))) (by rw [sizeLine_eq]; exact (by decide : 7 ≤ 16777216))) ?_)
      have hps := prL_ok (a := (((nm.getD 40 0 : Nat) : Int) % 3)) hx hy lx ly
      generalize prL xs ys (((nm.getD 40 0 : Nat) : Int) % 3) = ps at hps ⊢
      refine vss_frz 5 rfl ?_
      refine vss_one (vs_for gd (ds := ps.map pD) (fun _ G => Sub (gPr K ns nm ps) G) (vi_list (ve_var 5 rfl)) ⟨rfl, rfl, rfl, trivial⟩ ?_ ?_)
      · rintro l d G hl hS
        match G, hS with
        | [g0, g1, g2, g3, g4, g5, g6, g7, g8, g9, g10, g11, g12, g13, g14, g15, g16, g17], hS =>
        obtain ⟨rfl, rfl, rfl, _⟩ := hS
        rw [List.getElem?_map] at hl
        cases hq : ps[l]? with
        | none => rw [hq] at hl; cases hl
        | some p =>
          rw [hq] at hl
          cases hl
          refine ⟨[6, 7], vg_tup gd (vgs_cons (ts := [6]) (us := [7]) (vg_name gd 6 (vgs_cons (ts := [7]) (us := []) (vg_name gd 7 (vgs_nil ?_)))))⟩
          exact pair_ok F m hr gd hnm (hps p (List.mem_of_getElem? hq)) ⟨rfl, rfl, rfl, trivial⟩ rfl rfl fun G h => h
      · rintro G hS
        match G, hS with
        | [g0, g1, g2, g3, g4, g5, g6, g7, g8, g9, g10, g11, g12, g13, g14, g15, g16, g17], hS => exact ⟨hS.1, trivial⟩
    · rintro G hS
      refine vss_sub hS ?_
      have hn3 : (lnAt ns 3 1).2.length = 1 := lnAt_len 1
      match G, hS with
      | [g0, g1, g2, g3, g4, g5, g6, g7, g8, g9, g10, g11, g12, g13, g14, g15, g16, g17], hS =>
      obtain ⟨rfl, _⟩ := hS
      refine vss_cons (vs_set gd 14 (d := .int (((lnAt ns 3 1).2.getD 0 0 : Nat) % 9)) (ve_mod (ve_ix (ra := .ow (natD (lnAt ns 3 1).2)) (ds := natD (lnAt ns 3 1).2) (ve_call (out := .ow (natD (lnAt ns 3 1).2)) (F.cLN.cal hr) (va_cons (ve_var 0 rfl) (va_cons ve_int (va_cons ve_int va_nil))) fun post xp h => ⟨ns, 3, 1, rfl, by decide, by decide, h⟩) ve_int rfl (at_nat (k := 0) rfl (nat_at (by omega)))) ve_int (by decide)) ?_)
      generalize (((lnAt ns 3 1).2.getD 0 0 : Nat) : Int) % 9 = so
      refine vss_sub (A := gSo so) ⟨rfl, trivial⟩ ?_
      refine vss_cons (vs_if (k := false) (VT.is (VW.t (vw_and (vt_eqI (ve_var 14 rfl) ve_int) fun _ => vw_and1 (vt_notN (ve_call (out := .sh .non) (F.cRF.cal hr) (va_cons (ve_lst vas_nil) (va_cons (ve_aN (by decide) (by decide)) (va_cons ve_int va_nil))) fun post xp h => rf_n (xs := []) (by decide) (rl (by decide)) (by rw [List.length_replicate]; decide) h)))) (Bool.and_false _)) (fun z => nomatch z) fun _ => ?_)
      refine vss_nil ?_
      refine vss_cons (vs_for gd (fun _ G => Sub (gSo so) G) (vi_rng1 m.range ve_int (by decide) (by decide)) ⟨rfl, trivial⟩ ?_ ?_)
      · rintro k d G hk hS
        match G, hS with
        | [g0, g1, g2, g3, g4, g5, g6, g7, g8, g9, g10, g11, g12, g13, g14, g15, g16, g17], hS =>
        obtain ⟨rfl, _⟩ := hS
        have hk2 : k < 2 := by
          obtain ⟨q, _⟩ := List.getElem?_eq_some_iff.mp hk
          rw [rng_len] at q
          exact q
        rw [show Int.toNat 2 = 2 from rfl, rng_at hk2] at hk
        cases hk
        refine ⟨_, vg_name gd 15 ?_⟩
        refine vss_one (vs_if (k := false) (VT.is (VW.t (vw_or (VW.t (vw_and (vt_eqI (ve_var 14 rfl) (ve_var 15 rfl)) fun _ => vw_and1 (vt_notN (ve_call (out := .sh .non) (F.cRF.cal hr) (va_cons (ve_aN (by decide) (by decide)) (va_cons (ve_aN (by decide) (by decide)) (va_cons (ve_var 15 rfl) va_nil))) fun post xp h => rf_n (rl (by decide)) (rl (by decide)) (by rw [List.length_replicate, List.length_replicate]; decide) h)))) fun _ =>
          vw_or1 (vt_neI (ve_call (out := .sh (.int 1900)) (F.cRF.cal hr) (va_cons (ve_aN (by decide) (by decide)) (va_cons (ve_aN (by decide) (by decide)) (va_cons (ve_var 15 rfl) va_nil))) fun post xp h => rf_y (rl (by decide)) (rl (by decide)) (by rw [List.length_replicate, List.length_replicate]; decide) h) ve_int))) (by rw [show (!isNon D.non) = false from rfl, Bool.and_false]; rfl)) (fun z => nomatch z) fun _ => ?_)
        exact vss_nil ⟨rfl, trivial⟩
      · rintro G hS
        refine vss_one (vs_ret (VE.is (ve_eqI (ve_call (out := .sh (.int 1900)) (F.cRF.cal hr) (va_cons (ve_aN (by decide) (by decide)) (va_cons (ve_lst vas_nil) (va_cons ve_int va_nil))) fun post xp h => rf_y (ys := []) (rl (by decide)) (by decide) (by rw [List.length_replicate]; decide) h) ve_int) rfl) hp)
end
end K86

-- K86z
set_option Elab.async false
set_option linter.all false
set_option autoImplicit false
set_option maxRecDepth 100000
set_option maxHeartbeats 16000000
namespace K86
open PySem PySem.Spec L2 VL
open PyProof.Rows (envOfC)
open PySem.Ink (InkTxt)
/-! ### the end -/
/-- the promise hangs on the written part, the errors' air on the world -/
theorem walk_kw {l : PySem.W.OpenLaw} {n k : Nat} {q : Program} {loose : List Str} {XP : (Str → Option Value) → Heap → Prop} {YP : World → Heap → Prop} {d : DefRec} {K : Params → PySem.W.Frag} {CX : World → CXT} {sp : PySem.W.Frag → Sp} {x : Str}
    (hn : l.most = some n) (hn2 : n ≤ sizeLine) (hdf : d.params.defaults = []) (hr : Room k callerA) (hY : ∀ (w : World) (h : Heap), YP w h → (K w.params).In h)
    (F : ∀ (w : World) (mg : Str → Option Value) (fa : Addr) (h : Heap), (K w.params).In h → h.Ns mainGlobals mg → mg d.name = some (.ref fa) → ∃ fd : FuncData, (∀ (s : Shared) (u : Value), BindsTo s fd ⟨[u], []⟩ [(x, u)]) ∧ ∀ base : Heap, (K w.params).In base → base.Ns mainGlobals mg → FnOk l.prog w (K w.params) mg base (CX w) k fa fd [x] (sp (K w.params)))
    (S : ∀ (K : PySem.W.Frag) (H : Hp) (a : Addr) (ns : List Int), ns.length ≤ n → Only H → SqL K H a (ns.map V.int) → sp K [.ref a] H (fun v _ => v = .bl true) fun _ _ _ => False) (C : ∀ (w : World) (H : Hp) (s : Shared) (e : Value) (s' : Shared), CX w [] H s (fun _ _ _ => False) e s' → False) :
    PySem.W.WalkO q loose XP YP l.row.toRowW d [] (fun f vs => PySem.call f vs) :=
  L2.walk_of (K := K) (CX := CX) (sp := fun w => sp (K w.params)) hn hn2 hdf hr hY F (fun w H a ns h1 h2 h3 => S (K w.params) H a ns h1 h2 h3) C
theorem cl_of {P : Program} {w : World} {K : PySem.W.Frag} {mg : Str → Option Value} {base h : Heap} {j : Nat} {x : Str} {st : Stmt} {ps : List Str} {sp : VSpec} {f : Addr} {od an : Option Addr} {sl : Array (Option Value)} {oc kV dc pm cd ct : Value} (X : K.In h) (G : h.Ns mainGlobals mg)
    (a : PySem.W.nsIn K mainGlobals x = some (some (.ref f))) (l : K.lookup f = some ⟨oc, od, .func (PySem.W.fnOf x x (defArgs st) (defBody st) (defScope st) .none kV dc pm an cd ct), sl⟩) (c : PySem.W.codeIn K cd x = true) (k : PySem.W.keepIn K (.ref f) = true)
    (b : ∀ fd, Fun K x x st f fd → Binds K fd ps []) (ok : ∀ fd, Fun K x x st f fd → FnV P w K mg base j f fd ps sp) : Cl P w K mg base j x sp :=
  ⟨f, _, ps, ok _ (fun_mk (st := st) l c k), PySem.W.mg_of X G a, k, b _ (fun_mk (st := st) l c k)⟩
/-- what == of classes asks -/
theorem exm_own {K : PySem.W.Frag} {S : Addr} (h1 : PySem.W.subIn K (.ref S) (.type "BaseException") = some true) (h2 : PySem.W.isClsIn K S = true) (h3 : PySem.W.typeIn K (.ref S) = some (.type "type")) (h4 : PySem.W.subIn K (.ref S) (.ref S) = some true) :
    PySem.W.exmOne K (.ref S) (.ref S) = some true := by
  have e1 : (PySem.W.subIn K (.ref S) (.type "BaseException") == some true) = true := by rw [h1] <;> rfl
  have h2' : (PySem.W.clsIn K S).isSome = true := h2
  unfold PySem.W.exmOne
  rw [if_pos e1]
  unfold PySem.W.kitCls
  simp only [h2', h3, Bool.true_and, beq_self_eq_true, if_true]
  exact h4
theorem kit_own {K : PySem.W.Frag} {S B : Addr} {b : Bool} (ne : S ≠ B) (h2 : PySem.W.isClsIn K B = true) (h3 : PySem.W.typeIn K (.ref B) = some (.type "type")) (h4 : PySem.W.subIn K (.ref S) (.ref B) = some b) : PySem.W.kitOne K (.ref S) (.ref B) = some b := by
  have h2' : (PySem.W.clsIn K B).isSome = true := h2
  unfold PySem.W.kitOne
  rw [if_neg (by intro z; exact ne (by cases beq_iff_eq.mp z; rfl))]
  unfold PySem.W.kitCls
  simp only [h2', h3, Bool.true_and, beq_self_eq_true, if_true]
  exact h4
theorem all_mk {w : World} {K : PySem.W.Frag} {h : Heap} {mg : Str → Option Value} {fa C B IE fI : Addr} (X : K.In h) (G : h.Ns mainGlobals mg) (hfa : mg "law" = some (.ref fa))
    {f1 f2 f3 f4 f5 f6 f7 f8 f9 f10 f11 f12 f13 f14 f15 f16 f17 : Addr}
    {od1 an1 od2 an2 od3 an3 od4 an4 od5 an5 od6 an6 od7 an7 od8 an8 od9 an9 od10 an10 od11 an11 od12 an12 od13 an13 od14 an14 od15 an15 od16 an16 od17 an17 : Option Addr} {sl1 sl2 sl3 sl4 sl5 sl6 sl7 sl8 sl9 sl10 sl11 sl12 sl13 sl14 sl15 sl16 sl17 : Array (Option Value)}
    {oc1 kV1 dc1 pm1 cd1 ct1 oc2 kV2 dc2 pm2 cd2 ct2 oc3 kV3 dc3 pm3 cd3 ct3 oc4 kV4 dc4 pm4 cd4 ct4 oc5 kV5 dc5 pm5 cd5 ct5 oc6 kV6 dc6 pm6 cd6 ct6 oc7 kV7 dc7 pm7 cd7 ct7 oc8 kV8 dc8 pm8 cd8 ct8 oc9 kV9 dc9 pm9 cd9 ct9 oc10 kV10 dc10 pm10 cd10 ct10 oc11 kV11 dc11 pm11 cd11 ct11 oc12 kV12 dc12 pm12 cd12 ct12 oc13 kV13 dc13 pm13 cd13 ct13 oc14 kV14 dc14 pm14 cd14 ct14 oc15 kV15 dc15 pm15 cd15 ct15 oc16 kV16 dc16 pm16 cd16 ct16 oc17 kV17 dc17 pm17 cd17 ct17 : Value}
    {nm q : Str} {N : Addr} {bs : List Value} {sn : List Str} {sub : List Value} {ab : Bool} {col : Option Bool} {dd : Option Addr} {m0 m1 m2 m3 m5 : Option Value} {tk1 tk2 : Tok}
    {ocI kVI dcI pmI ctI : Value} {odI anI : Option Addr} {slI : Array (Option Value)} {cda cc : Addr} {p1 p2 q0 q1 q2 q3 q4 q5 q6 q7 q8 q9 : Pos} {ccl cl : Value} {cdd cld : Option Addr} {vs : Array Value} {ccs csl : Array (Option Value)} {file : Str} {tf : Tok}
    (a1 : PySem.W.nsIn K mainGlobals "change_of" = some (some (.ref f1)))
    (l1 : K.lookup f1 = some ⟨oc1, od1, .func (PySem.W.fnOf "change_of" "change_of" (defArgs (topS 15)) (defBody (topS 15)) (defScope (topS 15)) .none kV1 dc1 pm1 an1 cd1 ct1), sl1⟩)
    (c1 : PySem.W.codeIn K cd1 "change_of" = true)
    (k1 : PySem.W.keepIn K (.ref f1) = true)
    (a2 : PySem.W.nsIn K mainGlobals "check_sizes" = some (some (.ref f2)))
    (l2 : K.lookup f2 = some ⟨oc2, od2, .func (PySem.W.fnOf "check_sizes" "check_sizes" (defArgs (topS 13)) (defBody (topS 13)) (defScope (topS 13)) .none kV2 dc2 pm2 an2 cd2 ct2), sl2⟩)
    (c2 : PySem.W.codeIn K cd2 "check_sizes" = true)
    (k2 : PySem.W.keepIn K (.ref f2) = true)
    (a3 : PySem.W.nsIn K mainGlobals "change_table" = some (some (.ref f3)))
    (l3 : K.lookup f3 = some ⟨oc3, od3, .func (PySem.W.fnOf "change_table" "change_table" (defArgs (topS 14)) (defBody (topS 14)) (defScope (topS 14)) .none kV3 dc3 pm3 an3 cd3 ct3), sl3⟩)
    (c3 : PySem.W.codeIn K cd3 "change_table" = true)
    (k3 : PySem.W.keepIn K (.ref f3) = true)
    (a4 : PySem.W.nsIn K mainGlobals "least_ahead" = some (some (.ref f4)))
    (l4 : K.lookup f4 = some ⟨oc4, od4, .func (PySem.W.fnOf "least_ahead" "least_ahead" (defArgs (topS 7)) (defBody (topS 7)) (defScope (topS 7)) .none kV4 dc4 pm4 an4 cd4 ct4), sl4⟩)
    (c4 : PySem.W.codeIn K cd4 "least_ahead" = true)
    (k4 : PySem.W.keepIn K (.ref f4) = true)
    (a5 : PySem.W.nsIn K mainGlobals "first_way" = some (some (.ref f5)))
    (l5 : K.lookup f5 = some ⟨oc5, od5, .func (PySem.W.fnOf "first_way" "first_way" (defArgs (topS 8)) (defBody (topS 8)) (defScope (topS 8)) .none kV5 dc5 pm5 an5 cd5 ct5), sl5⟩)
    (c5 : PySem.W.codeIn K cd5 "first_way" = true)
    (k5 : PySem.W.keepIn K (.ref f5) = true)
    (a6 : PySem.W.nsIn K mainGlobals "told_answer" = some (some (.ref f6)))
    (l6 : K.lookup f6 = some ⟨oc6, od6, .func (PySem.W.fnOf "told_answer" "told_answer" (defArgs (topS 10)) (defBody (topS 10)) (defScope (topS 10)) .none kV6 dc6 pm6 an6 cd6 ct6), sl6⟩)
    (c6 : PySem.W.codeIn K cd6 "told_answer" = true)
    (k6 : PySem.W.keepIn K (.ref f6) = true)
    (a7 : PySem.W.nsIn K mainGlobals "changes" = some (some (.ref f7)))
    (l7 : K.lookup f7 = some ⟨oc7, od7, .func (PySem.W.fnOf "changes" "changes" (defArgs (topS 16)) (defBody (topS 16)) (defScope (topS 16)) .none kV7 dc7 pm7 an7 cd7 ct7), sl7⟩)
    (c7 : PySem.W.codeIn K cd7 "changes" = true)
    (k7 : PySem.W.keepIn K (.ref f7) = true)
    (a8 : PySem.W.nsIn K mainGlobals "change_count" = some (some (.ref f8)))
    (l8 : K.lookup f8 = some ⟨oc8, od8, .func (PySem.W.fnOf "change_count" "change_count" (defArgs (topS 17)) (defBody (topS 17)) (defScope (topS 17)) .none kV8 dc8 pm8 an8 cd8 ct8), sl8⟩)
    (c8 : PySem.W.codeIn K cd8 "change_count" = true)
    (k8 : PySem.W.keepIn K (.ref f8) = true)
    (a9 : PySem.W.nsIn K mainGlobals "done" = some (some (.ref f9)))
    (l9 : K.lookup f9 = some ⟨oc9, od9, .func (PySem.W.fnOf "done" "done" (defArgs (topS 18)) (defBody (topS 18)) (defScope (topS 18)) .none kV9 dc9 pm9 an9 cd9 ct9), sl9⟩)
    (c9 : PySem.W.codeIn K cd9 "done" = true)
    (k9 : PySem.W.keepIn K (.ref f9) = true)
    (a10 : PySem.W.nsIn K mainGlobals "are_changes" = some (some (.ref f10)))
    (l10 : K.lookup f10 = some ⟨oc10, od10, .func (PySem.W.fnOf "are_changes" "are_changes" (defArgs (topS 19)) (defBody (topS 19)) (defScope (topS 19)) .none kV10 dc10 pm10 an10 cd10 ct10), sl10⟩)
    (c10 : PySem.W.codeIn K cd10 "are_changes" = true)
    (k10 : PySem.W.keepIn K (.ref f10) = true)
    (a11 : PySem.W.nsIn K mainGlobals "_law_numbers" = some (some (.ref f11)))
    (l11 : K.lookup f11 = some ⟨oc11, od11, .func (PySem.W.fnOf "_law_numbers" "_law_numbers" (defArgs (topS 21)) (defBody (topS 21)) (defScope (topS 21)) .none kV11 dc11 pm11 an11 cd11 ct11), sl11⟩)
    (c11 : PySem.W.codeIn K cd11 "_law_numbers" = true)
    (k11 : PySem.W.keepIn K (.ref f11) = true)
    (a12 : PySem.W.nsIn K mainGlobals "_law_least" = some (some (.ref f12)))
    (l12 : K.lookup f12 = some ⟨oc12, od12, .func (PySem.W.fnOf "_law_least" "_law_least" (defArgs (topS 22)) (defBody (topS 22)) (defScope (topS 22)) .none kV12 dc12 pm12 an12 cd12 ct12), sl12⟩)
    (c12 : PySem.W.codeIn K cd12 "_law_least" = true)
    (k12 : PySem.W.keepIn K (.ref f12) = true)
    (a13 : PySem.W.nsIn K mainGlobals "_law_due" = some (some (.ref f13)))
    (l13 : K.lookup f13 = some ⟨oc13, od13, .func (PySem.W.fnOf "_law_due" "_law_due" (defArgs (topS 23)) (defBody (topS 23)) (defScope (topS 23)) .none kV13 dc13 pm13 an13 cd13 ct13), sl13⟩)
    (c13 : PySem.W.codeIn K cd13 "_law_due" = true)
    (k13 : PySem.W.keepIn K (.ref f13) = true)
    (a14 : PySem.W.nsIn K mainGlobals "_law_right" = some (some (.ref f14)))
    (l14 : K.lookup f14 = some ⟨oc14, od14, .func (PySem.W.fnOf "_law_right" "_law_right" (defArgs (topS 24)) (defBody (topS 24)) (defScope (topS 24)) .none kV14 dc14 pm14 an14 cd14 ct14), sl14⟩)
    (c14 : PySem.W.codeIn K cd14 "_law_right" = true)
    (k14 : PySem.W.keepIn K (.ref f14) = true)
    (a15 : PySem.W.nsIn K mainGlobals "_law_bent" = some (some (.ref f15)))
    (l15 : K.lookup f15 = some ⟨oc15, od15, .func (PySem.W.fnOf "_law_bent" "_law_bent" (defArgs (topS 25)) (defBody (topS 25)) (defScope (topS 25)) .none kV15 dc15 pm15 an15 cd15 ct15), sl15⟩)
    (c15 : PySem.W.codeIn K cd15 "_law_bent" = true)
    (k15 : PySem.W.keepIn K (.ref f15) = true)
    (a16 : PySem.W.nsIn K mainGlobals "_law_refused" = some (some (.ref f16)))
    (l16 : K.lookup f16 = some ⟨oc16, od16, .func (PySem.W.fnOf "_law_refused" "_law_refused" (defArgs (topS 26)) (defBody (topS 26)) (defScope (topS 26)) .none kV16 dc16 pm16 an16 cd16 ct16), sl16⟩)
    (c16 : PySem.W.codeIn K cd16 "_law_refused" = true)
    (k16 : PySem.W.keepIn K (.ref f16) = true)
    (a17 : PySem.W.nsIn K mainGlobals "law" = some (some (.ref f17)))
    (l17 : K.lookup f17 = some ⟨oc17, od17, .func (PySem.W.fnOf "law" "law" (defArgs (topS 27)) (defBody (topS 27)) (defScope (topS 27)) .none kV17 dc17 pm17 an17 cd17 ct17), sl17⟩)
    (c17 : PySem.W.codeIn K cd17 "law" = true)
    (k17 : PySem.W.keepIn K (.ref f17) = true)
    (z_len : PySem.W.nsIn K mainGlobals "len" = some none)
    (z_range : PySem.W.nsIn K mainGlobals "range" = some none)
    (z_list : PySem.W.nsIn K mainGlobals "list" = some none)
    (z_isinstance : PySem.W.nsIn K mainGlobals "isinstance" = some none)
    (z_tuple : PySem.W.nsIn K mainGlobals "tuple" = some none)
    (z_bool : PySem.W.nsIn K mainGlobals "bool" = some none)
    (z_int : PySem.W.nsIn K mainGlobals "int" = some none)
    (z_min : PySem.W.nsIn K mainGlobals "min" = some none)
    (z_zip : PySem.W.nsIn K mainGlobals "zip" = some none)
    (vb : PySem.W.nsIn K mainGlobals "BEST" = some (some (.str "best" tk1)))
    (vm : PySem.W.nsIn K mainGlobals "MOST_CELLS" = some (some (.int 1900 tk2)))
    (aC : PySem.W.nsIn K mainGlobals "TooMany" = some (some (.ref C)))
    (aB : PySem.W.nsIn K mainGlobals "BadNumber" = some (some (.ref B)))
    (xC : K.lookup C = some (PySem.excClassObj nm q C N bs [.ref IE, .type "ValueError", .type "Exception", .type "BaseException", .type "object"] true sn sub ab col dd m0 m1 m2 m3 m5 "ValueError.__new__"))
    (sa : PySem.W.findIn K (.ref C) "__setattr__" = some (some (.builtin "object.__setattr__")))
    (nl : PySem.W.findIn K (.ref C) "limit" = some none)
    (iC : PySem.W.findIn K (.ref C) "__init__" = some (some (.ref fI)))
    (tI : PySem.W.typeIn K (.ref fI) = some (.type "function"))
    (kC : PySem.W.keepIn K (.ref C) = true)
    (tC : PySem.W.typeIn K (.ref C) = some (.type "type"))
    (vC : PySem.W.subIn K (.ref C) (.type "ValueError") = some true)
    (ga : PySem.W.findIn K (.ref C) "__getattribute__" = some (some (.builtin "BaseException.__getattribute__")))
    (gg : PySem.W.findIn K (.ref C) "__getattr__" = some none)
    (eC : PySem.W.subIn K (.ref C) (.type "BaseException") = some true)
    (hC : PySem.W.hasDictIn K C = true)
    (op : PySem.W.nsIn K cStatics "thirdparty.any" = some none)
    (ms : PySem.W.nsIn K mainGlobals "super" = some none)
    (lI : K.lookup fI = some ⟨ocI, odI, .func (PySem.W.ksFn "__init__" "TooMany.__init__" (PySem.Ink.iA "limit" p1 p2) (PySem.Ink.iB "limit" q0 q1 q2 q3 q4 q5 q6 q7 q8 q9) (PySem.Ink.iS "limit") .none kVI dcI pmI anI (.ref cda) ctI cc), slI⟩)
    (cI : PySem.W.codeIn K (.ref cda) "TooMany.__init__" = true)
    (lc : K.lookup cda = some ⟨ccl, cdd, .fields vs, ccs⟩)
    (lv : vs[2]? = some (.str file tf))
    (lf : ((PySem.Challenge.pw_inkedtrue_k86_least_changes.main.file : Str) == file) = true)
    (ll : K.lookup cc = some ⟨cl, cld, .cell (some (.ref C)), csl⟩)
    (lq : (q2.endLine == q4.line) = true)
    (su : PySem.W.ks_superIn K C C "__init__" = some (some (.builtin "ValueError.__init__")))
    (yC : PySem.W.isClsIn K C = true)
    (yS : PySem.W.subIn K (.ref C) (.ref C) = some true)
    (yB : PySem.W.isClsIn K B = true)
    (tB : PySem.W.typeIn K (.ref B) = some (.type "type"))
    (sB : PySem.W.subIn K (.ref C) (.ref B) = some false)
    (nB : C ≠ B)
    (hcl : PySem.W.findIn K (.ref C) "__class__" = some (some (.builtin "object.__class__")))
    (hgt : PySem.W.specialIn K (.builtin "object.__class__") "__get__" = some (some (.builtin "getset_descriptor.__get__")))
    (htk : PySem.W.takesIn K (.builtin "object.__class__") = some true)
    (hmr : PySem.W.mroIn K C (.type "object") = some true)
    : ∃ fd : FuncData, (∀ (s : Shared) (v : Value), BindsTo s fd ⟨[v], []⟩ [("script", v)]) ∧ ∀ base : Heap, K.In base → base.Ns mainGlobals mg → FnOk PySem.Challenge.pw_inkedtrue_k86_least_changes w K mg base (L2.CX PySem.Challenge.pw_inkedtrue_k86_least_changes w) 6 fa fd ["script"] (spV (spLw K)) := by
  have e := hfa.symm.trans (PySem.W.mg_of X G a17)
  cases e
  have m : Mgs mg := ⟨PySem.W.mg_none_of X G z_len, PySem.W.mg_none_of X G z_range, PySem.W.mg_none_of X G z_list, PySem.W.mg_none_of X G z_isinstance, PySem.W.mg_none_of X G z_tuple, PySem.W.mg_none_of X G z_bool⟩
  have mint : mg "int" = none := PySem.W.mg_none_of X G z_int
  have mmin : mg "min" = none := PySem.W.mg_none_of X G z_min
  have mzip : mg "zip" = none := PySem.W.mg_none_of X G z_zip
  have mbest : mg "BEST" = some (.str "best" tk1) := PySem.W.mg_of X G vb
  have mcells : mg "MOST_CELLS" = some (.int 1900 tk2) := PySem.W.mg_of X G vm
  have mC : mg "TooMany" = some (.ref C) := PySem.W.mg_of X G aC
  have mB : mg "BadNumber" = some (.ref B) := PySem.W.mg_of X G aB
  have T : InkTxt PySem.Challenge.pw_inkedtrue_k86_least_changes K C fI "limit" "TooMany.__init__" :=
    { fok := ⟨by decide, by decide, by decide, by decide, by decide, by decide⟩, cls := ⟨nm, q, N, bs, _, sn, sub, ab, col, dd, m0, m1, m2, m3, m5, xC, rfl⟩, sa := sa, noN := nl, iC := iC, tC := tI, kC := kC, tyC := tC, veC := vC, xf := ⟨ga, gg, eC, hC⟩, sup := su, op := op, ms := ms, msp := by decide +kernel,
      fn := ⟨_, _, _, _, _, _, _, _, _, _, _, _, _, _, _, _, _, _, _, _, _, _, _, _, _, _, _, _, _, _, _, lI, cI, lc, lv, lf, ll, lq, fun a b => rfl⟩ }
  have TC : InkC K C := ⟨yC, ga, gg, eC, hcl, hgt, htk, hmr⟩
  have hx := exm_own eC yC tC yS
  have hB := kit_own nB yB tB sB
  have hno := nl
  refine ⟨PySem.W.fnOf "law" "law" (defArgs (topS 27)) (defBody (topS 27)) (defScope (topS 27)) .none kV17 dc17 pm17 an17 cd17 ct17, fun s v => .of_eq rfl, fun base _ _ => ?_⟩
  have d1 : Cl PySem.Challenge.pw_inkedtrue_k86_least_changes w K mg base 1 "change_of" (spCO) := cl_of (st := topS 15) (ps := ["first", "second", "at", "behind"]) X G a1 l1 c1 k1 (fun fd F => F.binds (ps := ["first", "second", "at", "behind"]) fun _ _ _ _ _ _ us hl => match us, hl with | [_, _, _, _], _ => rfl) fun fd F => ok_CO F m.len
  have d2 : Cl PySem.Challenge.pw_inkedtrue_k86_least_changes w K mg base 1 "check_sizes" (spCS C) := cl_of (st := topS 13) (ps := ["first", "second"]) X G a2 l2 c2 k2 (fun fd F => F.binds (ps := ["first", "second"]) fun _ _ _ _ _ _ us hl => match us, hl with | [_, _], _ => rfl) fun fd F => ok_CS F m.len mcells T mC
  have d3 : Cl PySem.Challenge.pw_inkedtrue_k86_least_changes w K mg base 1 "change_table" (spCT) := cl_of (st := topS 14) (ps := ["first", "second"]) X G a3 l3 c3 k3 (fun fd F => F.binds (ps := ["first", "second"]) fun _ _ _ _ _ _ us hl => match us, hl with | [_, _], _ => rfl) fun fd F => ok_CT F m.len m.range
  have d4 : Cl PySem.Challenge.pw_inkedtrue_k86_least_changes w K mg base 1 "least_ahead" (spLA) := cl_of (st := topS 7) (ps := ["table"]) X G a4 l4 c4 k4 (fun fd F => F.binds (ps := ["table"]) fun _ _ _ _ _ _ us hl => match us, hl with | [_], _ => rfl) fun fd F => ok_LA F m.len m.range mmin
  have d5 : Cl PySem.Challenge.pw_inkedtrue_k86_least_changes w K mg base 1 "first_way" (spFW) := cl_of (st := topS 8) (ps := ["table", "ahead"]) X G a5 l5 c5 k5 (fun fd F => F.binds (ps := ["table", "ahead"]) fun _ _ _ _ _ _ us hl => match us, hl with | [_, _], _ => rfl) fun fd F => ok_FW F m.len
  have d6 : Cl PySem.Challenge.pw_inkedtrue_k86_least_changes w K mg base 2 "told_answer" (spTA) := cl_of (st := topS 10) (ps := ["table"]) X G a6 l6 c6 k6 (fun fd F => F.binds (ps := ["table"]) fun _ _ _ _ _ _ us hl => match us, hl with | [_], _ => rfl) fun fd F => ok_TA F mbest d4 d5
  have d7 : Cl PySem.Challenge.pw_inkedtrue_k86_least_changes w K mg base 3 "changes" (spCH C) := cl_of (st := topS 16) (ps := ["first", "second"]) X G a7 l7 c7 k7 (fun fd F => F.binds (ps := ["first", "second"]) fun _ _ _ _ _ _ us hl => match us, hl with | [_, _], _ => rfl) fun fd F => ok_CH F mzip d2 d3 d6 d1
  have d8 : Cl PySem.Challenge.pw_inkedtrue_k86_least_changes w K mg base 4 "change_count" (spCC C) := cl_of (st := topS 17) (ps := ["first", "second"]) X G a8 l8 c8 k8 (fun fd F => F.binds (ps := ["first", "second"]) fun _ _ _ _ _ _ us hl => match us, hl with | [_, _], _ => rfl) fun fd F => ok_CC F m.len d7
  have d9 : Cl PySem.Challenge.pw_inkedtrue_k86_least_changes w K mg base 1 "done" (spDN) := cl_of (st := topS 18) (ps := ["first", "second", "listed"]) X G a9 l9 c9 k9 (fun fd F => F.binds (ps := ["first", "second", "listed"]) fun _ _ _ _ _ _ us hl => match us, hl with | [_, _, _], _ => rfl) fun fd F => ok_DN F
  have d10 : Cl PySem.Challenge.pw_inkedtrue_k86_least_changes w K mg base 1 "are_changes" (spAC) := cl_of (st := topS 19) (ps := ["first", "second", "value"]) X G a10 l10 c10 k10 (fun fd F => F.binds (ps := ["first", "second", "value"]) fun _ _ _ _ _ _ us hl => match us, hl with | [_, _, _], _ => rfl) fun fd F => ok_AC F m.len m.isi m.list
  have d11 : Cl PySem.Challenge.pw_inkedtrue_k86_least_changes w K mg base 1 "_law_numbers" (spLN K) := cl_of (st := topS 21) (ps := ["script", "at", "count"]) X G a11 l11 c11 k11 (fun fd F => F.binds (ps := ["script", "at", "count"]) fun _ _ _ _ _ _ us hl => match us, hl with | [_, _, _], _ => rfl) fun fd F => ok_LN F m.len mint m.range
  have d12 : Cl PySem.Challenge.pw_inkedtrue_k86_least_changes w K mg base 1 "_law_least" (spLL) := cl_of (st := topS 22) (ps := ["first", "second"]) X G a12 l12 c12 k12 (fun fd F => F.binds (ps := ["first", "second"]) fun _ _ _ _ _ _ us hl => match us, hl with | [_, _], _ => rfl) fun fd F => ok_LL F m.len m.range mmin
  have d13 : Cl PySem.Challenge.pw_inkedtrue_k86_least_changes w K mg base 2 "_law_due" (spLD) := cl_of (st := topS 23) (ps := ["first", "second"]) X G a13 l13 c13 k13 (fun fd F => F.binds (ps := ["first", "second"]) fun _ _ _ _ _ _ us hl => match us, hl with | [_, _], _ => rfl) fun fd F => ok_LD F m.len m.range d12
  have d14 : Cl PySem.Challenge.pw_inkedtrue_k86_least_changes w K mg base 1 "_law_right" (spAC) := cl_of (st := topS 24) (ps := ["first", "second", "value"]) X G a14 l14 c14 k14 (fun fd F => F.binds (ps := ["first", "second", "value"]) fun _ _ _ _ _ _ us hl => match us, hl with | [_, _, _], _ => rfl) fun fd F => ok_LR F m.len m.isi m.list
  have d15 : Cl PySem.Challenge.pw_inkedtrue_k86_least_changes w K mg base 1 "_law_bent" (spLB) := cl_of (st := topS 25) (ps := ["told", "numbers"]) X G a15 l15 c15 k15 (fun fd F => F.binds (ps := ["told", "numbers"]) fun _ _ _ _ _ _ us hl => match us, hl with | [_, _], _ => rfl) fun fd F => ok_LB F m.len m.range m.tuple
  have d16 : Cl PySem.Challenge.pw_inkedtrue_k86_least_changes w K mg base 5 "_law_refused" (spRF) := cl_of (st := topS 26) (ps := ["first", "second", "which"]) X G a16 l16 c16 k16 (fun fd F => F.binds (ps := ["first", "second", "which"]) fun _ _ _ _ _ _ us hl => match us, hl with | [_, _, _], _ => rfl) fun fd F => ok_RF F T TC mC mB m.isi hx hB hno d7 d8
  exact ok_Lw (fun_mk (st := topS 27) l17 c17 k17) ⟨d11, d13, d7, d9, d8, d15, d10, d14, d16⟩ m
end K86
open PySem PySem.W PyProof.Rows
set_option maxHeartbeats 0 in
theorem PySem.Challenge.cw_inkedtrue_k86_least_changes_holds : PySem.Challenge.rw_inkedtrue_k86_least_changes.Holds := by
  w_on; o_law; k_head; (case hw => w_witness2)
  k_fill
  refine K86.walk_kw (l := PySem.Challenge.rw_inkedtrue_k86_least_changes) (n := 63) (k := 6) (x := "script") (CX := fun w => L2.CX PySem.Challenge.pw_inkedtrue_k86_least_changes w) (sp := fun K => VL.spV (K86.spLw K)) rfl (by decide) rfl ⟨rfl, by decide, by decide⟩ (fun w h Y => PySem.W.kIn_of Y) ?F ?S (fun w H s e s' hc => by obtain ⟨_, _, _, _, _, _, _, _, _, _, _, _, z⟩ := hc; exact z)
  case F =>
    intro w mg fa h KX G hmg
    refine' K86.all_mk KX G hmg ?a1 ?l1 ?c1 ?k1 ?a2 ?l2 ?c2 ?k2 ?a3 ?l3 ?c3 ?k3 ?a4 ?l4 ?c4 ?k4 ?a5 ?l5 ?c5 ?k5 ?a6 ?l6 ?c6 ?k6 ?a7 ?l7 ?c7 ?k7 ?a8 ?l8 ?c8 ?k8 ?a9 ?l9 ?c9 ?k9 ?a10 ?l10 ?c10 ?k10 ?a11 ?l11 ?c11 ?k11 ?a12 ?l12 ?c12 ?k12 ?a13 ?l13 ?c13 ?k13 ?a14 ?l14 ?c14 ?k14 ?a15 ?l15 ?c15 ?k15 ?a16 ?l16 ?c16 ?k16 ?a17 ?l17 ?c17 ?k17 ?z_len ?z_range ?z_list ?z_isinstance ?z_tuple ?z_bool ?z_int ?z_min ?z_zip ?vb ?vm ?aC ?aB ?xC ?sa ?nl ?iC ?tI ?kC ?tC ?vC ?ga ?gg ?eC ?hC ?op ?ms ?lI ?cI ?lc ?lv ?lf ?ll ?lq ?su ?yC ?yS ?yB ?tB ?sB ?nB ?hcl ?hgt ?htk ?hmr
    (case a1 => k_is); (case l1 => k_is); (case c1 => k_is); (case k1 => k_is); (case a2 => k_is); (case l2 => k_is); (case c2 => k_is); (case k2 => k_is); (case a3 => k_is); (case l3 => k_is); (case c3 => k_is); (case k3 => k_is); (case a4 => k_is); (case l4 => k_is); (case c4 => k_is); (case k4 => k_is); (case a5 => k_is); (case l5 => k_is); (case c5 => k_is); (case k5 => k_is); (case a6 => k_is); (case l6 => k_is); (case c6 => k_is); (case k6 => k_is); (case a7 => k_is); (case l7 => k_is); (case c7 => k_is); (case k7 => k_is); (case a8 => k_is); (case l8 => k_is); (case c8 => k_is); (case k8 => k_is); (case a9 => k_is); (case l9 => k_is); (case c9 => k_is); (case k9 => k_is); (case a10 => k_is); (case l10 => k_is); (case c10 => k_is); (case k10 => k_is); (case a11 => k_is); (case l11 => k_is); (case c11 => k_is); (case k11 => k_is); (case a12 => k_is); (case l12 => k_is); (case c12 => k_is); (case k12 => k_is); (case a13 => k_is); (case l13 => k_is); (case c13 => k_is); (case k13 => k_is); (case a14 => k_is); (case l14 => k_is); (case c14 => k_is); (case k14 => k_is); (case a15 => k_is); (case l15 => k_is); (case c15 => k_is); (case k15 => k_is); (case a16 => k_is); (case l16 => k_is); (case c16 => k_is); (case k16 => k_is); (case a17 => k_is); (case l17 => k_is); (case c17 => k_is); (case k17 => k_is); (case z_len => k_is); (case z_range => k_is); (case z_list => k_is); (case z_isinstance => k_is); (case z_tuple => k_is); (case z_bool => k_is); (case z_int => k_is); (case z_min => k_is); (case z_zip => k_is); (case vb => k_is); (case vm => k_is); (case aC => k_is); (case aB => k_is); (case xC => k_is); (case sa => k_is); (case nl => k_is); (case iC => k_is); (case tI => k_is); (case kC => k_is); (case tC => k_is); (case vC => k_is); (case ga => k_is); (case gg => k_is); (case eC => k_is); (case hC => k_is); (case op => k_is); (case ms => k_is); (case lI => k_is); (case cI => k_is); (case lc => k_is); (case lv => rfl); (case lf => decide +kernel); (case ll => k_is); (case lq => decide +kernel); (case su => ks_is); (case yC => k_is); (case yS => k_is); (case yB => k_is); (case tB => k_is); (case sB => k_is); (case nB => decide); (case hcl => k_is); (case hgt => k_is); (case htk => k_is); (case hmr => k_is)
  case S =>
    exact fun K H a ns _ _ hS => ⟨H, [.sh (.scr _ ns)], L2.Same.refl _, ⟨_, [], rfl, .scr hS, rfl⟩, (fun r hr => by cases hr with | head => rfl | tail _ h => cases h), ns, rfl, fun v H' S' g k => VL.den_bl.mp k⟩
