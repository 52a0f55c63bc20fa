import PyProof.Rows.All
import Wide.All
import OpenK.AllK
import Wide.FinOn
import HandS.ForMost
import HandS.Walk
import HandS.Strs
import HandS.SetFor
import HandS.Conv
import HandS.TupAny
import HandS.Style
import HandS.IsInst
import HandS.OwnEq
import HandS.Property
import HandS.Lambda
import HandS.Nested
import HandS.NestedK
import HandS.EndTab
import HandS.DictTup
import KE.SortKeyHeap
import HandS.SortKw
import KE.SortData
import KE.KSortKey
import PySem.Challenge.RW_followsortable_k62_whole_fewest
import PyProof.NeKinds
import KE.GoesEnum
set_option Elab.async false
set_option linter.all false
set_option maxRecDepth 100000
set_option maxHeartbeats 4000000
namespace FS
open PySem PySem.Spec PyProof.Rows L2 LamX

/-! ### data over a footprint -/
abbrev Inc (F F' : Hp) : Prop := ∀ b o, F b = some o → F' b = some o
theorem Inc.upd {F : Hp} {p : Addr} {o : HO} (h : F p = none) : Inc F (upd F p o) := fun b u e => by
  rw [upd_ne (ne_of_none e h)]
  exact e
/-- what is known of a value over immutable objects -/
structure Pd where
  p : Hp → V → Prop
  up : ∀ {F F' : Hp} {v : V}, Inc F F' → p F v → p F' v
/-- item by item -/
def Al {α : Type} (F : Hp) (r : α → Pd) : List V → List α → Prop
  | [], [] => True
  | v :: vs, x :: xs => (r x).p F v ∧ Al F r vs xs
  | _, _ => False
section
variable {α β : Type} {F F' : Hp} {r : α → Pd}
theorem Al.up (e : Inc F F') : ∀ {vs : List V} {xs : List α}, Al F r vs xs → Al F' r vs xs
  | [], [], _ => True.intro
  | _ :: _, x :: _, ⟨h, t⟩ => ⟨(r x).up e h, Al.up e t⟩
theorem Al.length : ∀ {vs : List V} {xs : List α}, Al F r vs xs → vs.length = xs.length
  | [], [], _ => rfl
  | _ :: vs, _ :: xs, ⟨_, t⟩ => by rw [List.length_cons, List.length_cons, Al.length t]
theorem Al.get : ∀ {vs : List V} {xs : List α} {i : Nat} {v : V}, Al F r vs xs → vs[i]? = some v → ∃ x, xs[i]? = some x ∧ (r x).p F v
  | _ :: _, x :: _, 0, v, ⟨h, _⟩, e => by
    simp at e
    subst e
    exact ⟨x, rfl, h⟩
  | _ :: vs, _ :: xs, i + 1, v, ⟨_, t⟩, e => by
    simpa using Al.get (i := i) t (by simpa using e)
theorem Al.get2 : ∀ {vs : List V} {xs : List α} {i : Nat} {x : α}, Al F r vs xs → xs[i]? = some x → ∃ v, vs[i]? = some v ∧ (r x).p F v
  | [], [], _, _, _, e => by simp at e
  | v :: _, _ :: _, 0, x, ⟨h, _⟩, e => by
    simp at e
    subst e
    exact ⟨v, rfl, h⟩
  | _ :: vs, _ :: xs, i + 1, v, ⟨_, t⟩, e => by
    simpa using Al.get2 (i := i) t (by simpa using e)
theorem Al.append : ∀ {vs ws : List V} {xs ys : List α}, Al F r vs xs → Al F r ws ys → Al F r (vs ++ ws) (xs ++ ys)
  | [], _, [], _, _, s => s
  | _ :: _, _, _ :: _, _, ⟨h, t⟩, s => ⟨h, Al.append t s⟩
theorem Al.drop : ∀ {vs : List V} {xs : List α} (n : Nat), Al F r vs xs → Al F r (vs.drop n) (xs.drop n)
  | _, _, 0, h => h
  | [], [], _ + 1, _ => True.intro
  | _ :: _, _ :: _, n + 1, ⟨_, t⟩ => Al.drop n t
theorem Al.take : ∀ {vs : List V} {xs : List α} (n : Nat), Al F r vs xs → Al F r (vs.take n) (xs.take n)
  | _, _, 0, _ => by simp [Al]
  | [], [], _ + 1, _ => True.intro
  | _ :: _, _ :: _, n + 1, ⟨h, t⟩ => ⟨h, Al.take n t⟩
theorem Al.map {g : β → α} : ∀ {vs : List V} {xs : List β}, Al F (fun b => r (g b)) vs xs → Al F r vs (xs.map g)
  | [], [], _ => True.intro
  | _ :: _, _ :: _, ⟨h, t⟩ => ⟨h, Al.map t⟩
theorem Al.imp {r' : α → Pd} (f : ∀ x v, (r x).p F v → (r' x).p F' v) : ∀ {vs : List V} {xs : List α}, Al F r vs xs → Al F' r' vs xs
  | [], [], _ => True.intro
  | _ :: _, _ :: _, ⟨h, t⟩ => ⟨f _ _ h, Al.imp f t⟩
end
/-- predicates one by one -/
def AlP (F : Hp) : List Pd → List V → Prop
  | [], [] => True
  | p :: ps, v :: vs => p.p F v ∧ AlP F ps vs
  | _, _ => False
theorem AlP.up {F F' : Hp} (e : Inc F F') : ∀ {ps : List Pd} {vs : List V}, AlP F ps vs → AlP F' ps vs
  | [], [], _ => True.intro
  | p :: _, _ :: _, ⟨h, t⟩ => ⟨p.up e h, AlP.up e t⟩
theorem AlP.length {F : Hp} : ∀ {ps : List Pd} {vs : List V}, AlP F ps vs → vs.length = ps.length
  | [], [], _ => rfl
  | _ :: _, _ :: _, ⟨_, t⟩ => by rw [List.length_cons, List.length_cons, AlP.length t]
theorem AlP.al {α : Type} {F : Hp} {r : α → Pd} : ∀ {xs : List α} {vs : List V}, AlP F (xs.map r) vs → Al F r vs xs
  | [], [], _ => True.intro
  | _ :: _, _ :: _, ⟨h, t⟩ => ⟨h, AlP.al t⟩

def rInt (i : Int) : Pd := ⟨fun _ v => v = .int i, fun _ h => h⟩
def rBl (b : Bool) : Pd := ⟨fun _ v => v = .bl b, fun _ h => h⟩
def rStr (x : Str) : Pd := ⟨fun _ v => v = .str x, fun _ h => h⟩
def rNon : Pd := ⟨fun _ v => v = .non, fun _ h => h⟩
def rAny : Pd := ⟨fun _ _ => True, fun _ h => h⟩
def rTup {α : Type} (r : α → Pd) (xs : List α) : Pd := ⟨fun F v => ∃ a vs, v = .ref a ∧ F a = some (.tup vs) ∧ Al F r vs xs, fun e ⟨a, vs, h1, h2, h3⟩ => ⟨a, vs, h1, e _ _ h2, h3.up e⟩⟩
def rLst {α : Type} (r : α → Pd) (xs : List α) : Pd := ⟨fun F v => ∃ a vs, v = .ref a ∧ F a = some (.lst vs) ∧ Al F r vs xs, fun e ⟨a, vs, h1, h2, h3⟩ => ⟨a, vs, h1, e _ _ h2, h3.up e⟩⟩
/-- a list or a tuple -/
def rSq {α : Type} (r : α → Pd) (xs : List α) : Pd := ⟨fun F v => (rLst r xs).p F v ∨ (rTup r xs).p F v, fun e h => h.elim (fun h => .inl ((rLst r xs).up e h)) fun h => .inr ((rTup r xs).up e h)⟩
abbrev rSet (ns : List Int) : Pd := rTup rInt ns
def rPr {α β : Type} (r : α → Pd) (s : β → Pd) (x : α × β) : Pd := ⟨fun F v => ∃ a u w, v = .ref a ∧ F a = some (.tup [u, w]) ∧ (r x.1).p F u ∧ (s x.2).p F w, fun e ⟨a, u, w, h1, h2, h3, h4⟩ => ⟨a, u, w, h1, e _ _ h2, (r x.1).up e h3, (s x.2).up e h4⟩⟩
/-- a tuple, its items told one by one -/
def rTuP (ps : List Pd) : Pd := ⟨fun F v => ∃ a vs, v = .ref a ∧ F a = some (.tup vs) ∧ AlP F ps vs, fun e ⟨a, vs, h1, h2, h3⟩ => ⟨a, vs, h1, e _ _ h2, h3.up e⟩⟩
/-- there is such a datum -/
def exP {α : Type} (P : α → Prop) (r : α → Pd) : Pd := ⟨fun F v => ∃ x, P x ∧ (r x).p F v, fun e ⟨x, h1, h2⟩ => ⟨x, h1, (r x).up e h2⟩⟩
theorem al_int {F : Hp} : ∀ {vs : List V} {ns : List Int}, Al F rInt vs ns → vs = ns.map V.int
  | [], [], _ => rfl
  | _ :: _, _ :: _, ⟨h, t⟩ => by
    have e := al_int t
    have h1 : _ = _ := h
    rw [h1, e, List.map_cons]
theorem al_int_of {F : Hp} : ∀ ns : List Int, Al F rInt (ns.map V.int) ns
  | [] => True.intro
  | _ :: ns => ⟨rfl, al_int_of ns⟩
theorem al_bl {F : Hp} : ∀ {vs : List V} {ns : List Bool}, Al F rBl vs ns → vs = ns.map V.bl
  | [], [], _ => rfl
  | _ :: _, _ :: _, ⟨h, t⟩ => by
    have e := al_bl t
    have h1 : _ = _ := h
    rw [h1, e, List.map_cons]
theorem rSet_at {F : Hp} {v : V} {ns : List Int} (h : (rSet ns).p F v) : ∃ a, v = .ref a ∧ F a = some (.tup (ns.map V.int)) := by
  obtain ⟨a, vs, h1, h2, h3⟩ := h
  rw [al_int h3] at h2
  exact ⟨a, h1, h2⟩
theorem rSet_of {F : Hp} {a : Addr} {ns : List Int} (h : F a = some (.tup (ns.map V.int))) : (rSet ns).p F (.ref a) := ⟨a, _, rfl, h, al_int_of ns⟩

/-! ### slots -/
abbrev Gm := List (Option Pd)
def EnvOk (F : Hp) : Gm → L2.St → Prop
  | [], [] => True
  | none :: G, _ :: σ => EnvOk F G σ
  | some p :: G, x :: σ => (∃ v, x = some v ∧ p.p F v) ∧ EnvOk F G σ
  | _, _ => False
theorem EnvOk.up {F F' : Hp} (e : Inc F F') : ∀ {G : Gm} {σ : L2.St}, EnvOk F G σ → EnvOk F' G σ
  | [], [], _ => True.intro
  | none :: G, _ :: σ, h => EnvOk.up (G := G) (σ := σ) e h
  | some p :: _, _ :: _, ⟨⟨v, h1, h2⟩, t⟩ => ⟨⟨v, h1, p.up e h2⟩, EnvOk.up e t⟩
theorem EnvOk.len {F : Hp} : ∀ {G : Gm} {σ : L2.St}, EnvOk F G σ → σ.length = G.length
  | [], [], _ => rfl
  | none :: G, _ :: σ, h => by rw [List.length_cons, List.length_cons, EnvOk.len (G := G) (σ := σ) h]
  | some _ :: G, _ :: σ, ⟨_, t⟩ => by rw [List.length_cons, List.length_cons, EnvOk.len t]
theorem EnvOk.get {F : Hp} : ∀ {G : Gm} {σ : L2.St} {i : Nat} {p : Pd}, EnvOk F G σ → G[i]? = some (some p) → ∃ v, σ[i]? = some (some v) ∧ p.p F v
  | none :: G, _ :: σ, 0, p, h, e => by simp at e
  | none :: G, _ :: σ, i + 1, p, h, e => by simpa using EnvOk.get (G := G) (σ := σ) (i := i) h (by simpa using e)
  | some q :: G, x :: σ, 0, p, ⟨⟨v, h1, h2⟩, _⟩, e => by
    simp at e
    subst e
    exact ⟨v, by simp [h1], h2⟩
  | some q :: G, x :: σ, i + 1, p, ⟨_, t⟩, e => by simpa using EnvOk.get (G := G) (σ := σ) (i := i) t (by simpa using e)
theorem EnvOk.set {F : Hp} {p : Pd} {v : V} (hv : p.p F v) : ∀ {G : Gm} {σ : L2.St} (i : Nat), EnvOk F G σ → EnvOk F (G.set i (some p)) (σ.set i (some v))
  | [], [], _, _ => True.intro
  | none :: G, _ :: σ, 0, h => ⟨⟨v, rfl, hv⟩, h⟩
  | none :: G, _ :: σ, i + 1, h => EnvOk.set (G := G) (σ := σ) hv i h
  | some _ :: G, _ :: σ, 0, ⟨_, t⟩ => ⟨⟨v, rfl, hv⟩, t⟩
  | some _ :: G, _ :: σ, i + 1, ⟨h, t⟩ => ⟨h, EnvOk.set hv i t⟩
/-- a slot is forgotten -/
theorem EnvOk.drop {F : Hp} {x : Option V} : ∀ {G : Gm} {σ : L2.St} (i : Nat), EnvOk F G σ → EnvOk F (G.set i none) (σ.set i x)
  | [], [], _, _ => True.intro
  | none :: G, _ :: σ, 0, h => h
  | none :: G, _ :: σ, i + 1, h => EnvOk.drop (G := G) (σ := σ) i h
  | some _ :: G, _ :: σ, 0, ⟨_, t⟩ => t
  | some _ :: G, _ :: σ, i + 1, ⟨h, t⟩ => ⟨h, EnvOk.drop i t⟩
theorem EnvOk.drop' {F : Hp} : ∀ {G : Gm} {σ : L2.St} (i : Nat), EnvOk F G σ → EnvOk F (G.set i none) σ
  | [], [], _, _ => True.intro
  | none :: G, _ :: σ, 0, h => h
  | none :: G, _ :: σ, i + 1, h => EnvOk.drop' (G := G) (σ := σ) i h
  | some _ :: G, _ :: σ, 0, ⟨_, t⟩ => t
  | some _ :: G, _ :: σ, i + 1, ⟨h, t⟩ => ⟨h, EnvOk.drop' i t⟩
/-- what holds already is told of a slot -/
theorem EnvOk.add {F : Hp} {p : Pd} {v : V} (hv : p.p F v) : ∀ {G : Gm} {σ : L2.St} (i : Nat), σ[i]? = some (some v) → EnvOk F G σ → EnvOk F (G.set i (some p)) σ
  | [], [], _, _, _ => True.intro
  | none :: G, x :: σ, 0, e, h => ⟨⟨v, by simpa using e, hv⟩, h⟩
  | none :: G, _ :: σ, i + 1, e, h => EnvOk.add (G := G) (σ := σ) hv i (by simpa using e) h
  | some _ :: G, x :: σ, 0, e, ⟨_, t⟩ => ⟨⟨v, by simpa using e, hv⟩, t⟩
  | some _ :: G, _ :: σ, i + 1, e, ⟨h, t⟩ => ⟨h, EnvOk.add hv i (by simpa using e) t⟩
/-- what one knows implies what another asks -/
def GImp : Gm → Gm → Prop
  | [], [] => True
  | _ :: G, none :: G' => GImp G G'
  | some p :: G, some q :: G' => (∀ F v, p.p F v → q.p F v) ∧ GImp G G'
  | _, _ => False
theorem GImp.ok {F : Hp} : ∀ {G G' : Gm} {σ : L2.St}, GImp G G' → EnvOk F G σ → EnvOk F G' σ
  | [], [], [], _, _ => True.intro
  | none :: G, none :: G', _ :: σ, h, t => GImp.ok (G := G) (G' := G') (σ := σ) h t
  | some _ :: G, none :: G', _ :: σ, h, ⟨_, t⟩ => GImp.ok (G := G) (G' := G') (σ := σ) h t
  | some p :: G, some q :: G', _ :: σ, ⟨h, h'⟩, ⟨⟨v, e, hv⟩, t⟩ => ⟨⟨v, e, h _ _ hv⟩, GImp.ok h' t⟩
theorem GImp.refl : ∀ G : Gm, GImp G G
  | [] => True.intro
  | none :: G => GImp.refl G
  | some _ :: G => ⟨fun _ _ h => h, GImp.refl G⟩

/-! ### growth -/
def Sub (F H : Hp) : Prop := ∀ b o, F b = some o → H b = some o ∧ ∀ ps, o ≠ .tbl ps
structure Gr (T : List (Addr × Str)) (F H F' H' : Hp) : Prop where
  fs : Inc F F'
  hk : ∀ b o, H b = some o → b ∉ T.map (·.1) → H' b = some o
  dm : ∀ b, H' b = none → H b = none
  sub : Sub F' H'
  nw : ∀ b o, F' b = some o → F b = some o ∨ H b = none ∨ (H b = some o ∧ ∃ xs, o = .tup xs)
  tb0 : Tabs T H
  tb : Tabs T H'
section
variable {T : List (Addr × Str)} {F F1 F2 H H1 H2 : Hp}
theorem Gr.hs (g : Gr T F H F1 H1) (b : Addr) (o : HO) (e : H b = some o) (n : ∀ ps, o ≠ .tbl ps) : H1 b = some o := g.hk b o e fun hb => by
  obtain ⟨p, hp, ep⟩ := List.mem_map.mp hb
  obtain ⟨ps, h1, _⟩ := g.tb0 p hp
  rw [ep, e] at h1
  exact n ps (Option.some.inj h1)
theorem Sub.at (s : Sub F H) {b : Addr} {o : HO} (h : F b = some o) : H b = some o := (s b o h).1
theorem Sub.none (s : Sub F H) {b : Addr} (h : H b = none) : F b = none := by
  cases e : F b with
  | none => rfl
  | some o =>
    rw [s.at e] at h
    cases h
theorem Gr.refl (s : Sub F H) (t : Tabs T H) : Gr T F H F H := ⟨fun _ _ h => h, fun _ _ h _ => h, fun _ h => h, s, fun _ _ h => .inl h, t, t⟩
theorem Gr.trans (a : Gr T F H F1 H1) (b : Gr T F1 H1 F2 H2) : Gr T F H F2 H2 :=
  ⟨fun c o h => b.fs c o (a.fs c o h), fun c o h n => b.hk c o (a.hk c o h n) n, fun c h => a.dm c (b.dm c h), b.sub, fun c o h => by
    rcases b.nw c o h with z | z | ⟨z, xs, ez⟩
    · exact a.nw c o z
    · exact .inr (.inl (a.dm c z))
    · cases e : H c with
      | none => exact .inr (.inl rfl)
      | some o2 =>
        by_cases hc : c ∈ T.map (·.1)
        · obtain ⟨p, hp, ep⟩ := List.mem_map.mp hc
          obtain ⟨ps, h1, _⟩ := a.tb p hp
          rw [ep, z, ez] at h1
          cases h1
        · have z2 := a.hk c o2 e hc
          rw [z] at z2
          cases z2
          exact .inr (.inr ⟨rfl, xs, ez⟩), a.tb0, b.tb⟩
/-- a new object, immutable from now on -/
theorem Gr.new {p : Addr} {o : HO} (s : Sub F H) (t : Tabs T H) (h : H p = none) (n : ∀ ps, o ≠ .tbl ps) : Gr T F H (upd F p o) (upd H p o) := by
  have f := s.none h
  refine ⟨Inc.upd f, fun b u e _ => Inc.upd h b u e, fun b e => ?_, fun b u e => ?_, fun b u e => ?_, t, t.ext (Inc.upd h)⟩
  · by_cases hb : b = p
    · rw [hb, upd_same] at e
      cases e
    · rw [upd_ne hb] at e
      exact e
  · by_cases hb : b = p
    · rw [hb, upd_same] at e
      cases e
      rw [hb]
      exact ⟨upd_same, n⟩
    · rw [upd_ne hb] at e
      rw [upd_ne hb]
      exact s b u e
  · by_cases hb : b = p
    · rw [hb]
      exact .inr (.inl h)
    · rw [upd_ne hb] at e
      exact .inl e
/-- a new object that may change -/
theorem Gr.newM {p : Addr} {o : HO} (s : Sub F H) (t : Tabs T H) (h : H p = none) : Gr T F H F (upd H p o) := by
  have f := s.none h
  refine ⟨fun _ _ h => h, fun b u e _ => Inc.upd h b u e, fun b e => ?_, fun b u e => ?_, fun b u e => .inl e, t, t.ext (Inc.upd h)⟩
  · by_cases hb : b = p
    · rw [hb, upd_same] at e
      cases e
    · rw [upd_ne hb] at e
      exact e
  · rw [upd_ne (ne_of_none e f)]
    exact s b u e
/-- it changes -/
theorem Gr.mut {p : Addr} {o o' : HO} (g : Gr T F H F1 H1) (h0 : H p = none) (h1 : F1 p = none) (h : H1 p = some o) (n : ∀ ps, o ≠ .tbl ps) (nx : ∀ c q, o ≠ CodeO c q) : Gr T F H F1 (upd H1 p o') := by
  refine ⟨g.fs, fun b u e q => ?_, fun b e => ?_, fun b u e => ?_, g.nw, g.tb0, fun q hq => ?_⟩
  · rw [upd_ne (ne_of_none e h0)]
    exact g.hk b u e q
  · by_cases hb : b = p
    · rw [hb, upd_same] at e
      cases e
    · rw [upd_ne hb] at e
      exact g.dm b e
  · rw [upd_ne (ne_of_none e h1)]
    exact g.sub b u e
  · obtain ⟨ps, e1, e2, e3⟩ := g.tb q hq
    have k : ∀ c q, H1 c = some (CodeO c q) → upd H1 p o' c = some (CodeO c q) := fun c q e => by
      by_cases hb : c = p
      · rw [hb, h] at e
        exact absurd (Option.some.inj e) (nx _ _)
      · rw [upd_ne hb]
        exact e
    refine ⟨ps, ?_, e2, fun pos cv hc => ?_⟩
    · by_cases hb : q.1 = p
      · rw [hb, h] at e1
        exact absurd (Option.some.inj e1) (n _)
      · rw [upd_ne hb]
        exact e1
    · obtain ⟨c, c1, c2⟩ := e3 pos cv hc
      exact ⟨c, c1, k c _ c2⟩
/-- the object at l is told to be immutable from now on -/
theorem Gr.freeze {l : Addr} {o : HO} (g : Gr T F H F1 H1) (h0 : H l = none) (h : H1 l = some o) (n : ∀ ps, o ≠ .tbl ps) (h1 : F1 l = none) : Gr T F H (upd F1 l o) H1 := by
  refine ⟨fun b u e => Inc.upd h1 b u (g.fs b u e), g.hk, g.dm, fun b u e => ?_, fun b u e => ?_, g.tb0, g.tb⟩
  · by_cases hb : b = l
    · rw [hb, upd_same] at e
      cases e
      rw [hb]
      exact ⟨h, n⟩
    · rw [upd_ne hb] at e
      exact g.sub b u e
  · by_cases hb : b = l
    · rw [hb]
      exact .inr (.inl h0)
    · rw [upd_ne hb] at e
      exact g.nw b u e
/-- a tuple that stands there is told -/
theorem Gr.see {q : Addr} {xs : List V} (s : Sub F H) (t : Tabs T H) (h : H q = some (.tup xs)) : ∃ F', Gr T F H F' H ∧ F' q = some (.tup xs) := by
  cases e : F q with
  | some o =>
    have h2 := s.at e
    rw [h] at h2
    cases h2
    exact ⟨F, Gr.refl s t, e⟩
  | none =>
    refine ⟨upd F q (.tup xs), ⟨fun b u e2 => Inc.upd e b u e2, fun _ _ h _ => h, fun _ h => h, fun b u e2 => ?_, fun b u e2 => ?_, t, t⟩, upd_same⟩
    · by_cases hb : b = q
      · rw [hb, upd_same] at e2
        cases e2
        rw [hb]
        exact ⟨h, fun _ z => (nomatch z)⟩
      · rw [upd_ne hb] at e2
        exact s b u e2
    · by_cases hb : b = q
      · rw [hb, upd_same] at e2
        cases e2
        rw [hb]
        exact .inr (.inr ⟨h, xs, rfl⟩)
      · rw [upd_ne hb] at e2
        exact .inl e2
/-- less is told -/
theorem Gr.weak (g : Gr T F H F1 H1) (s : Gr T F1 H1 F2 H2) : Gr T F H F1 H2 :=
  ⟨g.fs, fun c o h n => s.hk c o (g.hk c o h n) n, fun c h => g.dm c (s.dm c h), fun b o e => s.sub b o (s.fs b o e), g.nw, g.tb0, s.tb⟩
end
theorem lst_tbl {xs : List V} (ps : Array Value) : HO.lst xs ≠ .tbl ps := fun z => nomatch z
theorem tup_tbl {xs : List V} (ps : Array Value) : HO.tup xs ≠ .tbl ps := fun z => nomatch z
theorem ins_tbl {C dx : Addr} {fs : List (Str × V)} (ps : Array Value) : HO.ins C dx fs ≠ .tbl ps := fun z => nomatch z
theorem own_tbl {x : Addr} (ps : Array Value) : HO.own x ≠ .tbl ps := fun z => nomatch z
end FS
namespace FS
open PySem PySem.Spec PyProof.Rows L2 LamX

/-! ### readings that are the runs themselves -/
section
variable (X : Cx)
def We (e : Expr) : TE := fun σ H Q => ∀ (pins : List (Addr × Obj)) (s : Shared), Inv X pins σ H s → wpAny (model X.prog X.w) X.A (eval e X.env) (EP X pins σ Q) X.xe s
def Wt (e : Expr) : TT := fun σ H Q => ∀ (pins : List (Addr × Obj)) (s : Shared), Inv X pins σ H s → wpAny (model X.prog X.w) X.A (isTrue e X.env (eval e X.env)) (TP X pins σ Q) X.xe s
def Wa (es : List Expr) : TA := fun σ H Q => ∀ (pos : Pos) (pins : List (Addr × Obj)) (s : Shared), Inv X pins σ H s → wpAny (model X.prog X.w) X.A (spliced (backTo pos (starEach es X.env))) (AP X pins σ Q) X.xe s
def Ws (st : Stmt) : TS := fun D σ H => ∀ (pins : List (Addr × Obj)) (s : Shared), Inv X pins σ H s → wpAny (model X.prog X.w) X.A (exec st X.env) (SP X pins D) X.xe s
def Wss (st : List Stmt) : TS := fun D σ H => ∀ (pins : List (Addr × Obj)) (s : Shared), Inv X pins σ H s → wpAny (model X.prog X.w) X.A (execs st X.env) (SP X pins D) X.xe s
def Wi (tg e : Expr) : TI := fun σ H R => ∀ (pins : List (Addr × Obj)) (s : Shared), Inv X pins σ H s → wpAny (model X.prog X.w) X.A (eval e X.env) (fun v s1 => wpAny (model X.prog X.w) X.A (pyIter v) (PIE X pins σ tg R) X.xe s1) X.xe s
def Wg (tg : Expr) : TG := fun v σ H Q => ∀ (pins : List (Addr × Obj)) (s : Shared) (u : Value), Inv X pins σ H s → RelV v u → wpAny (model X.prog X.w) X.A (assign tg X.env u) (fun _ s' => ∃ σ' H', Inv X pins σ' H' s' ∧ Q σ' H') X.xe s
def Wts (ifs : List Expr) : TT := fun σ H Q => ∀ (pins : List (Addr × Obj)) (s : Shared), Inv X pins σ H s →
    wpAny (model X.prog X.w) X.A (forIn ifs true fun c r => if r = true then do let ok ← isTrue c X.env (eval c X.env); pure (ForInStep.yield ok) else pure (ForInStep.yield r)) (TP X pins σ Q) X.xe s
end
section
variable {X : Cx}
theorem we {e : Expr} : PE X e (We X e) := ⟨fun pins s _ _ _ I h => h pins s I⟩
theorem wt {e : Expr} : PT X e (Wt X e) := ⟨fun pins s _ _ _ I h => h pins s I⟩
theorem wa {es : List Expr} : PA X es (Wa X es) := ⟨fun pos pins s _ _ _ I h => h pos pins s I⟩
theorem ws {st : Stmt} : PS X st (Ws X st) := ⟨fun pins s _ _ _ I h => h pins s I⟩
theorem wss {st : List Stmt} : PSs X st (Wss X st) := ⟨fun pins s _ _ _ I h => h pins s I⟩
theorem wi {tg e : Expr} : PI X tg e (Wi X tg e) := ⟨fun pins s _ _ _ I h => h pins s I⟩
theorem wg {tg : Expr} : PG X tg (Wg X tg) := ⟨fun pins s _ _ _ u _ I r h => h pins s u I r⟩
theorem wts {ifs : List Expr} : PTs X ifs (Wts X ifs) := ⟨fun pins s _ _ _ I h => h pins s I⟩
end

/-! ### what an expression gives -/
section
variable (T : List (Addr × Str)) (X : Cx) (G : Gm)
def EE (e : Expr) (p : Pd) : Prop := ∀ (σ : L2.St) (F H : Hp) (Q : VK), EnvOk F G σ → Sub F H → Tabs T H → (∀ v F' H', Gr T F H F' H' → p.p F' v → Q v H') → We X e σ H Q
def ET (e : Expr) (b : Bool) : Prop := ∀ (σ : L2.St) (F H : Hp) (Q : Bool → Hp → Prop), EnvOk F G σ → Sub F H → Tabs T H → (∀ F' H', Gr T F H F' H' → Q b H') → Wt X e σ H Q
def EA (es : List Expr) (ps : List Pd) : Prop := ∀ (σ : L2.St) (F H : Hp) (Q : List V → Hp → Prop), EnvOk F G σ → Sub F H → Tabs T H → (∀ vs F' H', Gr T F H F' H' → AlP F' ps vs → Q vs H') → Wa X es σ H Q
def ETs (ifs : List Expr) (b : Bool) : Prop := ∀ (σ : L2.St) (F H : Hp) (Q : Bool → Hp → Prop), EnvOk F G σ → Sub F H → Tabs T H → (∀ F' H', Gr T F H F' H' → Q b H') → Wts X ifs σ H Q
end
section
variable {T : List (Addr × Str)} {X : Cx} {G : Gm} {a b c e : Expr} {es : List Expr} {p q o : Pd} {ps : List Pd} {pos : Pos}
theorem ee_by {te : TE} (h : PE X e te) (k : ∀ (σ : L2.St) (F H : Hp) (Q : VK), EnvOk F G σ → Sub F H → Tabs T H → (∀ v F' H', Gr T F H F' H' → p.p F' v → Q v H') → te σ H Q) : EE T X G e p :=
  fun σ F H Q g s t h' pins s0 I => h.run pins s0 σ H Q I (k σ F H Q g s t h')
theorem et_by {te : TT} {k : Bool} (h : PT X e te) (hk : ∀ (σ : L2.St) (F H : Hp) (Q : Bool → Hp → Prop), EnvOk F G σ → Sub F H → Tabs T H → (∀ F' H', Gr T F H F' H' → Q k H') → te σ H Q) : ET T X G e k :=
  fun σ F H Q g s t h' pins s0 I => h.run pins s0 σ H Q I (hk σ F H Q g s t h')
theorem EE.imp (h : EE T X G e p) (f : ∀ F v, p.p F v → q.p F v) : EE T X G e q := fun σ F H Q g s t k => h σ F H Q g s t fun v F' H' gr hv => k v F' H' gr (f _ _ hv)
theorem EE.to (h : EE T X G e p) (f : p = q) : EE T X G e q := f ▸ h
theorem ET.to {x y : Bool} (h : ET T X G e x) (f : x = y) : ET T X G e y := f ▸ h

theorem ev (i : Nat) {x : Str} {pos : Pos} (hg : G[i]? = some (some p)) (hN : X.N[i]? = some x := by rfl) (hv : Vis X.env.scope x := by first | exact Or.inl rfl | exact Or.inr (Or.inl rfl) | exact Or.inr (Or.inr rfl))
    (hd : (x == ("__debug__" : Str)) = false := by decide) (hcd : (x == ("__classdict__" : Str)) = false := by decide) : EE T X G (.Name x pos) p :=
  ee_by (pe_var hN hv hd hcd) fun σ F H Q g s t k => by
    obtain ⟨v, h1, h2⟩ := g.get hg
    exact ⟨v, h1, k v F H (Gr.refl s t) h2⟩
theorem ee_int {i : Int} {j} : EE T X G (.Constant (.int i) j pos) (rInt i) := ee_by pe_int fun σ F H Q g s t k => k _ F H (Gr.refl s t) rfl
theorem ee_bl {i : Bool} {j} : EE T X G (.Constant (.bool i) j pos) (rBl i) := ee_by pe_bl fun σ F H Q g s t k => k _ F H (Gr.refl s t) rfl
theorem ee_str {x : Str} {j} : EE T X G (.Constant (.str x) j pos) (rStr x) := ee_by pe_str fun σ F H Q g s t k => k _ F H (Gr.refl s t) rfl
theorem ee_non {j} : EE T X G (.Constant .none j pos) rNon := ee_by pe_non fun σ F H Q g s t k => k _ F H (Gr.refl s t) rfl

/-! arguments -/
theorem ea_nil : EA T X G [] [] := fun σ F H Q g s t k pos pins s0 I => pa_nil.run pos pins s0 σ H Q I (k [] F H (Gr.refl s t) True.intro)
theorem ea_cons (h : EE T X G e p) (hr : EA T X G es ps) (hs : starEach (e :: es) X.env = (false, eval e X.env) :: starEach es X.env := by rfl) : EA T X G (e :: es) (p :: ps) := fun σ F H Q g s t k pos pins s0 I => by
  refine (pa_cons we wa hs).run pos pins s0 σ H Q I ?_
  refine h σ F H _ g s t fun v F1 H1 g1 hv => ?_
  refine hr σ F1 H1 _ (g.up g1.fs) g1.sub g1.tb fun vs F2 H2 g2 hvs => ?_
  exact k _ F2 H2 (g1.trans g2) ⟨p.up g2.fs hv, hvs⟩
theorem ea1 (h : EE T X G e p) (hs : starEach [e] X.env = (false, eval e X.env) :: starEach [] X.env := by rfl) : EA T X G [e] [p] := ea_cons h ea_nil hs

/-! two operands -/
theorem ee_bin {r : R2} (h : PE X e (tOp r (We X a) (We X b))) (ha : EE T X G a p) (hb : EE T X G b q)
    (k : ∀ (F H : Hp) (x y : V) (Q : VK), Sub F H → Tabs T H → p.p F x → q.p F y → (∀ v F' H', Gr T F H F' H' → o.p F' v → Q v H') → r x y H Q) : EE T X G e o :=
  ee_by h fun σ F H Q g s t kq => ha σ F H _ g s t fun x F1 H1 g1 hx => hb σ F1 H1 _ (g.up g1.fs) g1.sub g1.tb fun y F2 H2 g2 hy =>
    k F2 H2 x y Q g2.sub g2.tb (p.up g2.fs hx) hy fun v F3 H3 g3 hv => kq v F3 H3 ((g1.trans g2).trans g3) hv
theorem et_bin {r : R2} {k0 : Bool} (h : PT X e (tTest (tOp r (We X a) (We X b)))) (ha : EE T X G a p) (hb : EE T X G b q)
    (k : ∀ (F H : Hp) (x y : V) (Q : VK), Sub F H → Tabs T H → p.p F x → q.p F y → (∀ F' H', Gr T F H F' H' → Q (.bl k0) H') → r x y H Q) : ET T X G e k0 :=
  et_by h fun σ F H Q g s t kq => ha σ F H _ g s t fun x F1 H1 g1 hx => hb σ F1 H1 _ (g.up g1.fs) g1.sub g1.tb fun y F2 H2 g2 hy =>
    k F2 H2 x y _ g2.sub g2.tb (p.up g2.fs hx) hy fun F3 H3 g3 => ⟨k0, rfl, kq F3 H3 ((g1.trans g2).trans g3)⟩
variable {i j : Int}
theorem ee_add (ha : EE T X G a (rInt i)) (hb : EE T X G b (rInt j)) : EE T X G (.BinOp a .Add b pos) (rInt (i + j)) :=
  ee_bin (pe_op op_add we we) ha hb fun F H x y Q s t hx hy k => ⟨i, j, hx, hy, k _ F H (Gr.refl s t) rfl⟩
theorem ee_sub (ha : EE T X G a (rInt i)) (hb : EE T X G b (rInt j)) : EE T X G (.BinOp a .Sub b pos) (rInt (i - j)) :=
  ee_bin (pe_op op_sub we we) ha hb fun F H x y Q s t hx hy k => ⟨i, j, hx, hy, k _ F H (Gr.refl s t) rfl⟩
theorem ee_mul (ha : EE T X G a (rInt i)) (hb : EE T X G b (rInt j)) (hc : (-(2 ^ 64) < j ∧ j < 2 ^ 64)) : EE T X G (.BinOp a .Mult b pos) (rInt (i * j)) :=
  ee_bin (pe_op op_mul we we) ha hb fun F H x y Q s t hx hy k => ⟨i, j, hx, hy, .inr hc, k _ F H (Gr.refl s t) rfl⟩
theorem ee_mulL (ha : EE T X G a (rInt i)) (hb : EE T X G b (rInt j)) (hc : (-(2 ^ 64) < i ∧ i < 2 ^ 64)) : EE T X G (.BinOp a .Mult b pos) (rInt (i * j)) :=
  ee_bin (pe_op op_mul we we) ha hb fun F H x y Q s t hx hy k => ⟨i, j, hx, hy, .inl hc, k _ F H (Gr.refl s t) rfl⟩
theorem ee_mod (ha : EE T X G a (rInt i)) (hb : EE T X G b (rInt j)) (hc : 0 < j) : EE T X G (.BinOp a .Mod b pos) (rInt (i % j)) :=
  ee_bin (pe_op op_mod we we) ha hb fun F H x y Q s t hx hy k => ⟨i, j, hx, hy, hc, k _ F H (Gr.refl s t) rfl⟩
theorem ee_div (ha : EE T X G a (rInt i)) (hb : EE T X G b (rInt j)) (hc : 0 < j ∧ j < 1073741824) : EE T X G (.BinOp a .FloorDiv b pos) (rInt (i / j)) :=
  ee_bin (pe_op op_fdiv we we) ha hb fun F H x y Q s t hx hy k => ⟨i, j, hx, hy, hc, k _ F H (Gr.refl s t) rfl⟩
theorem ee_pow (ha : EE T X G a (rInt i)) (hb : EE T X G b (rInt j)) (hc : 0 ≤ j ∧ j ≤ 1000000 ∧ i.natAbs < 2 ^ 64) : EE T X G (.BinOp a .Pow b pos) (rInt (i ^ j.toNat)) :=
  ee_bin (pe_op op_pow we we) ha hb fun F H x y Q s t hx hy k => ⟨i, j, hx, hy, hc, k _ F H (Gr.refl s t) rfl⟩
/-! comparisons of ints, as values and as tests -/
theorem ee_lt (ha : EE T X G a (rInt i)) (hb : EE T X G b (rInt j)) : EE T X G (.Compare a [.Lt] [b] pos) (rBl (decide (i < j))) :=
  ee_bin (pe_cmpR op_lt we we (nomark _)) ha hb fun F H x y Q s t hx hy k => ⟨i, j, hx, hy, k _ F H (Gr.refl s t) rfl⟩
theorem ee_ge (ha : EE T X G a (rInt i)) (hb : EE T X G b (rInt j)) : EE T X G (.Compare a [.GtE] [b] pos) (rBl (decide (j ≤ i))) :=
  ee_bin (pe_cmpR op_ge we we (nomark _)) ha hb fun F H x y Q s t hx hy k => ⟨i, j, hx, hy, k _ F H (Gr.refl s t) rfl⟩
theorem ee_eqI (ha : EE T X G a (rInt i)) (hb : EE T X G b (rInt j)) : EE T X G (.Compare a [.Eq] [b] pos) (rBl (decide (i = j))) :=
  ee_bin (pe_cmpR op_eq we we (nomark _)) ha hb fun F H x y Q s t hx hy k => by
    have ex : x = .int i := hx
    have ey : y = .int j := hy
    subst ex ey
    refine ⟨rfl, ?_⟩
    rw [show decide (V.int i = V.int j) = decide (i = j) from by simp]
    exact k _ F H (Gr.refl s t) rfl
theorem et_lt (ha : EE T X G a (rInt i)) (hb : EE T X G b (rInt j)) : ET T X G (.Compare a [.Lt] [b] pos) (decide (i < j)) :=
  et_bin (pt_cmpR op_lt we we (nomark _)) ha hb fun F H x y Q s t hx hy k => ⟨i, j, hx, hy, k F H (Gr.refl s t)⟩
theorem et_gt (ha : EE T X G a (rInt i)) (hb : EE T X G b (rInt j)) : ET T X G (.Compare a [.Gt] [b] pos) (decide (j < i)) :=
  et_bin (pt_cmpR op_gt we we (nomark _)) ha hb fun F H x y Q s t hx hy k => ⟨i, j, hx, hy, k F H (Gr.refl s t)⟩
theorem et_eqI (ha : EE T X G a (rInt i)) (hb : EE T X G b (rInt j)) : ET T X G (.Compare a [.Eq] [b] pos) (decide (i = j)) :=
  et_bin (pt_cmpR op_eq we we (nomark _)) ha hb fun F H x y Q s t hx hy k => by
    have ex : x = .int i := hx
    have ey : y = .int j := hy
    subst ex ey
    refine ⟨rfl, ?_⟩
    rw [show decide (V.int i = V.int j) = decide (i = j) from by simp]
    exact k F H (Gr.refl s t)
theorem et_neI (ha : EE T X G a (rInt i)) (hb : EE T X G b (rInt j)) : ET T X G (.Compare a [.NotEq] [b] pos) (!decide (i = j)) :=
  et_bin (pt_cmpR op_ne we we (nomark _)) ha hb fun F H x y Q s t hx hy k => by
    have ex : x = .int i := hx
    have ey : y = .int j := hy
    subst ex ey
    refine ⟨rfl, ?_⟩
    rw [show decide (V.int i = V.int j) = decide (i = j) from by simp]
    exact k F H (Gr.refl s t)
theorem et_neS {x0 y0 : Str} (ha : EE T X G a (rStr x0)) (hb : EE T X G b (rStr y0)) : ET T X G (.Compare a [.NotEq] [b] pos) (!decide (x0 = y0)) :=
  et_bin (pt_cmpR op_ne we we (nomark _)) ha hb fun F H x y Q s t hx hy k => by
    have ex : x = .str x0 := hx
    have ey : y = .str y0 := hy
    subst ex ey
    refine ⟨rfl, ?_⟩
    rw [show decide (V.str x0 = V.str y0) = decide (x0 = y0) from by simp]
    exact k F H (Gr.refl s t)
/-! in a tuple of ints -/
theorem inV_int (i : Int) (ns : List Int) : inV (.int i) (ns.map V.int) = decide (i ∈ ns) := by
  unfold inV
  rw [List.any_map, Bool.eq_iff_iff, List.any_eq_true, decide_eq_true_iff]
  constructor
  · rintro ⟨y, hy, e⟩
    have e' : (y == i) = true := e
    rw [← beq_iff_eq.mp e']
    exact hy
  · intro h
    exact ⟨i, h, (beq_iff_eq.mpr rfl : (i == i) = true)⟩
theorem flat_ints (ns : List Int) : (ns.map V.int).all flatV = true := by
  rw [List.all_map, List.all_eq_true]
  intro x _
  rfl
variable {ns ms : List Int}
theorem ee_in (ha : EE T X G a (rInt i)) (hb : EE T X G b (rSet ns)) (hm : behindInMarks .In b = false := by rfl) : EE T X G (.Compare a [.In] [b] pos) (rBl (decide (i ∈ ns))) :=
  ee_bin (pe_cmpR op_in_seq we we hm) ha hb fun F H x y Q s t hx hy k => by
    obtain ⟨l, e1, e2⟩ := rSet_at hy
    have ex : x = .int i := hx
    subst ex
    refine ⟨l, _, e1, .inr (SqT.of (s.at e2)), rfl, flat_ints ns, ?_⟩
    rw [if_neg Bool.false_ne_true, inV_int]
    exact k _ F H (Gr.refl s t) rfl
theorem et_in (ha : EE T X G a (rInt i)) (hb : EE T X G b (rSet ns)) (hm : behindInMarks .In b = false := by rfl) : ET T X G (.Compare a [.In] [b] pos) (decide (i ∈ ns)) :=
  et_bin (pt_cmpR op_in_seq we we hm) ha hb fun F H x y Q s t hx hy k => by
    obtain ⟨l, e1, e2⟩ := rSet_at hy
    have ex : x = .int i := hx
    subst ex
    refine ⟨l, _, e1, .inr (SqT.of (s.at e2)), rfl, flat_ints ns, ?_⟩
    rw [if_neg Bool.false_ne_true, inV_int]
    exact k F H (Gr.refl s t)
theorem et_notin (ha : EE T X G a (rInt i)) (hb : EE T X G b (rSet ns)) (hm : behindInMarks .NotIn b = false := by rfl) : ET T X G (.Compare a [.NotIn] [b] pos) (!decide (i ∈ ns)) :=
  et_bin (pt_cmpR op_notIn_seq we we hm) ha hb fun F H x y Q s t hx hy k => by
    obtain ⟨l, e1, e2⟩ := rSet_at hy
    have ex : x = .int i := hx
    subst ex
    refine ⟨l, _, e1, .inr (SqT.of (s.at e2)), rfl, flat_ints ns, ?_⟩
    rw [if_pos rfl, inV_int]
    exact k F H (Gr.refl s t)
/-! == of two tuples of ints -/
theorem dpall_ints {K : PySem.W.Frag} {H : Hp} : ∀ ns : List Int, DpAll K H (ns.map V.int) (ns.map PyData.int)
  | [] => .nil
  | i :: ns => .cons (.int i) (dpall_ints ns)
theorem eqvAll_ints : ∀ ns ms : List Int, PyData.eqvAll (ns.map .int) (ms.map .int) = decide (ns = ms)
  | [], [] => by simp [PyData.eqvAll]
  | [], _ :: _ => by simp [PyData.eqvAll]
  | _ :: _, [] => by simp [PyData.eqvAll]
  | n :: ns, m :: ms => by
    show PyData.eqvAll (.int n :: ns.map .int) (.int m :: ms.map .int) = _
    rw [PyData.eqvAll, eqvAll_ints ns ms, PyData.eqv]
    by_cases h : n = m <;> by_cases h' : ns = ms <;> simp [h, h']
theorem eqv_ints (ns ms : List Int) : PyData.eqv (.tuple (ns.map .int)) (.tuple (ms.map .int)) = decide (ns = ms) := by
  rw [PyData.eqv, eqvAll_ints]
end
end FS
namespace FS
open PySem PySem.Spec PyProof.Rows L2 LamX
theorem shaped_ints (ns : List Int) : SeqAt.shaped (.tuple (ns.map .int)) = true := by
  have h1 : ∀ ns : List Int, PyData.canLayAll0 (ns.map .int) = true := by
    intro ns
    induction ns with
    | nil => simp [PyData.canLayAll0]
    | cons n r ih =>
      show PyData.canLayAll0 (.int n :: r.map .int) = true
      rw [PyData.canLayAll0, ih]
      simp [PyData.canLay0]
  have h2 : ∀ ns : List Int, PyData.depthAll (ns.map .int) = 0 := by
    intro ns
    induction ns with
    | nil => simp [PyData.depthAll]
    | cons n r ih =>
      show PyData.depthAll (.int n :: r.map .int) = 0
      rw [PyData.depthAll, ih]
      simp [PyData.depth]
  unfold SeqAt.shaped
  rw [PyData.canLay0, PyData.depth, h1, h2]
  rfl
section
variable {T : List (Addr × Str)} {X : Cx} {G : Gm} {a b c e l : Expr} {es : List Expr} {p q o : Pd} {ps : List Pd} {pos : Pos} {ns ms : List Int} {i j : Int} {x y : Bool}
theorem ee_eqS (hu : X.A.units + 64 < cLine) (ha : EE T X G a (rSet ns)) (hb : EE T X G b (rSet ms)) : EE T X G (.Compare a [.Eq] [b] pos) (rBl (decide (ns = ms))) :=
  ee_bin (pe_cmpR (op_eqD hu) we we (nomark _)) ha hb fun F H x y Q s t hx hy k => by
    obtain ⟨l, e1, e2⟩ := rSet_at hx
    obtain ⟨m, e3, e4⟩ := rSet_at hy
    subst e1 e3
    refine ⟨_, _, .tup (SqT.of (s.at e2)) (dpall_ints ns), .tup (SqT.of (s.at e4)) (dpall_ints ms), shaped_ints ns, shaped_ints ms, ?_⟩
    rw [eqv_ints]
    exact k _ F H (Gr.refl s t) rfl
theorem et_neSt (hu : X.A.units + 64 < cLine) (ha : EE T X G a (rSet ns)) (hb : EE T X G b (rSet ms)) : ET T X G (.Compare a [.NotEq] [b] pos) (!decide (ns = ms)) :=
  et_bin (pt_cmpR (op_neD hu) we we (nomark _)) ha hb fun F H x y Q s t hx hy k => by
    obtain ⟨l, e1, e2⟩ := rSet_at hx
    obtain ⟨m, e3, e4⟩ := rSet_at hy
    subst e1 e3
    refine ⟨_, _, .tup (SqT.of (s.at e2)) (dpall_ints ns), .tup (SqT.of (s.at e4)) (dpall_ints ms), shaped_ints ns, shaped_ints ms, ?_⟩
    rw [eqv_ints]
    exact k F H (Gr.refl s t)

/-! ### truth, and, or, not -/
theorem et_bl (h : EE T X G e (rBl x)) (he : ∀ whole, isTrue e X.env whole = (do let v ← whole; standAt e.pos; holding [v] (truthy v)) := by intro _; rfl) : ET T X G e x :=
  et_by (pt_val we he) fun σ F H Q g s t k => h σ F H _ g s t fun v F1 H1 g1 hv => ⟨x, hv, k F1 H1 g1⟩
theorem et_not (h : ET T X G e x) : ET T X G (.UnaryOp .Not e pos) (!x) :=
  et_by (pt_not wt) fun σ F H Q g s t k => h σ F H _ g s t fun F1 H1 g1 => k F1 H1 g1
/-- and, or as tests, one operand after the other -/
def EW (T : List (Addr × Str)) (X : Cx) (G : Gm) (e : Expr) (b : Bool) : Prop := ∃ t : TT, PW X e t ∧ ∀ (σ : L2.St) (F H : Hp) (Q : Bool → Hp → Prop), EnvOk F G σ → Sub F H → Tabs T H → (∀ F' H', Gr T F H F' H' → Q b H') → t σ H Q
theorem EW.et (h : EW T X G e x) : ET T X G e x := let ⟨_, h1, h2⟩ := h; et_by h1.pt h2
theorem ew_and1 (h : ET T X G a x) : EW T X G (.BoolOp .And [a] pos) x := ⟨_, pw_and1 wt, h⟩
theorem ew_or1 (h : ET T X G a x) : EW T X G (.BoolOp .Or [a] pos) x := ⟨_, pw_or1 wt, h⟩
theorem ew_and {rest : List Expr} (h : ET T X G a x) (h2 : x = true → EW T X G (.BoolOp .And (b :: rest) pos) y) : EW T X G (.BoolOp .And (a :: b :: rest) pos) (x && y) := by
  cases x with
  | true =>
    obtain ⟨t, k1, k2⟩ := h2 rfl
    refine ⟨_, pw_and wt k1, fun σ F H Q g s t' k => h σ F H _ g s t' fun F1 H1 g1 => ?_⟩
    rw [if_pos rfl]
    exact k2 σ F1 H1 Q (g.up g1.fs) g1.sub g1.tb fun F2 H2 g2 => k F2 H2 (g1.trans g2)
  | false =>
    refine ⟨_, pw_and wt (show PW X (.BoolOp .And (b :: rest) pos) (fun _ _ _ => False) from ⟨fun _ _ _ _ _ _ _ z => z.elim⟩), fun σ F H Q g s t' k => h σ F H _ g s t' fun F1 H1 g1 => ?_⟩
    rw [if_neg Bool.false_ne_true]
    exact k F1 H1 g1
theorem ew_or {rest : List Expr} (h : ET T X G a x) (h2 : x = false → EW T X G (.BoolOp .Or (b :: rest) pos) y) : EW T X G (.BoolOp .Or (a :: b :: rest) pos) (x || y) := by
  cases x with
  | false =>
    obtain ⟨t, k1, k2⟩ := h2 rfl
    refine ⟨_, pw_or wt k1, fun σ F H Q g s t' k => h σ F H _ g s t' fun F1 H1 g1 => ?_⟩
    rw [if_neg Bool.false_ne_true]
    exact k2 σ F1 H1 Q (g.up g1.fs) g1.sub g1.tb fun F2 H2 g2 => k F2 H2 (g1.trans g2)
  | true =>
    refine ⟨_, pw_or wt (show PW X (.BoolOp .Or (b :: rest) pos) (fun _ _ _ => False) from ⟨fun _ _ _ _ _ _ _ z => z.elim⟩), fun σ F H Q g s t' k => h σ F H _ g s t' fun F1 H1 g1 => ?_⟩
    rw [if_pos rfl]
    exact k F1 H1 g1
theorem et_and2 (h : ET T X G a x) (h2 : x = true → ET T X G b y) : ET T X G (.BoolOp .And [a, b] pos) (x && y) := (ew_and h fun e => ew_and1 (h2 e)).et
theorem et_or2 (h : ET T X G a x) (h2 : x = false → ET T X G b y) : ET T X G (.BoolOp .Or [a, b] pos) (x || y) := (ew_or h fun e => ew_or1 (h2 e)).et
theorem et_or3 {z : Bool} (h : ET T X G a x) (h2 : x = false → ET T X G b y) (h3 : x = false → y = false → ET T X G c z) : ET T X G (.BoolOp .Or [a, b, c] pos) (x || (y || z)) := (ew_or h fun e => ew_or (h2 e) fun e' => ew_or1 (h3 e e')).et
theorem et_or4 {z w : Bool} {d : Expr} (h : ET T X G a x) (h2 : x = false → ET T X G b y) (h3 : x = false → y = false → ET T X G c z) (h4 : x = false → y = false → z = false → ET T X G d w) : ET T X G (.BoolOp .Or [a, b, c, d] pos) (x || (y || (z || w))) :=
  (ew_or h fun e => ew_or (h2 e) fun e' => ew_or (h3 e e') fun e'' => ew_or1 (h4 e e' e'')).et
/-- as values -/
theorem ee_one {op} (h : EE T X G a p) : EE T X G (.BoolOp op [a] pos) p := ee_by (pe_one we) fun σ F H Q g s t k => h σ F H Q g s t k
theorem ee_and {rest : List Expr} (h : EE T X G a (rBl x)) (h2 : x = true → EE T X G (.BoolOp .And (b :: rest) pos) (rBl y)) : EE T X G (.BoolOp .And (a :: b :: rest) pos) (rBl (x && y)) :=
  ee_by (pe_and we we) fun σ F H Q g s t k => h σ F H _ g s t fun v F1 H1 g1 hv => ⟨x, hv, by
    cases x with
    | true =>
      rw [if_pos rfl]
      exact h2 rfl σ F1 H1 Q (g.up g1.fs) g1.sub g1.tb fun v F2 H2 g2 hv => k v F2 H2 (g1.trans g2) hv
    | false =>
      rw [if_neg Bool.false_ne_true]
      exact k _ F1 H1 g1 rfl⟩
theorem ee_or {rest : List Expr} (h : EE T X G a (rBl x)) (h2 : x = false → EE T X G (.BoolOp .Or (b :: rest) pos) (rBl y)) : EE T X G (.BoolOp .Or (a :: b :: rest) pos) (rBl (x || y)) :=
  ee_by (pe_or we we) fun σ F H Q g s t k => h σ F H _ g s t fun v F1 H1 g1 hv => ⟨x, hv, by
    cases x with
    | true =>
      rw [if_pos rfl]
      exact k _ F1 H1 g1 rfl
    | false =>
      rw [if_neg Bool.false_ne_true]
      exact h2 rfl σ F1 H1 Q (g.up g1.fs) g1.sub g1.tb fun v F2 H2 g2 hv => k v F2 H2 (g1.trans g2) hv⟩
theorem ee_and2 (h : EE T X G a (rBl x)) (h2 : x = true → EE T X G b (rBl y)) : EE T X G (.BoolOp .And [a, b] pos) (rBl (x && y)) := ee_and h fun e => ee_one (h2 e)
theorem ee_or3 {z : Bool} (h : EE T X G a (rBl x)) (h2 : x = false → EE T X G b (rBl y)) (h3 : x = false → y = false → EE T X G c (rBl z)) : EE T X G (.BoolOp .Or [a, b, c] pos) (rBl (x || (y || z))) := ee_or h fun e => ee_or (h2 e) fun e' => ee_one (h3 e e')
/-- 0 <= x < n -/
theorem ee_chain {k : Int} (ha : EE T X G a (rInt i)) (hb : EE T X G b (rInt j)) (hc : EE T X G c (rInt k)) (hm : lastMarks [.LtE, .Lt] [b, c] = false := by with_unfolding_all rfl) : EE T X G (.Compare a [.LtE, .Lt] [b, c] pos) (rBl (decide (i ≤ j) && decide (j < k))) :=
  ee_by (pe_chain op_le op_lt we we we hm) fun σ F H Q g s t kq => ha σ F H _ g s t fun v F1 H1 g1 hv => hb σ F1 H1 _ (g.up g1.fs) g1.sub g1.tb fun v2 F2 H2 g2 hv2 => ⟨i, j, hv, hv2, _, rfl, by
    cases e : decide (i ≤ j) with
    | true =>
      rw [if_pos rfl]
      refine hc σ F2 H2 _ ((g.up g1.fs).up g2.fs) g2.sub g2.tb fun v3 F3 H3 g3 hv3 => ⟨j, k, hv2, hv3, kq _ F3 H3 ((g1.trans g2).trans g3) ?_⟩
      rw [e] at *
      rfl
    | false =>
      rw [if_neg Bool.false_ne_true]
      refine kq _ F2 H2 (g1.trans g2) ?_
      rw [e] at *
      rfl⟩

/-! ### displays -/
theorem ee_tup {k} (h : EA T X G es ps) (hl : ps.length ≤ 1000 := by decide) : EE T X G (.Tuple es k pos) (rTuP ps) :=
  ee_by (pe_tup wa) fun σ F H Q g s t kq => h σ F H _ g s t fun vs F1 H1 g1 hv => ⟨by rw [hv.length]; exact Nat.le_of_lt (small1000 hl), fun r hr => by
    have g2 := Gr.new (o := .tup vs) g1.sub g1.tb hr tup_tbl
    exact kq _ _ _ (g1.trans g2) ⟨r, vs, rfl, upd_same, hv.up g2.fs⟩⟩
theorem ee_tup2 {α β : Type} {r : α → Pd} {u : β → Pd} {x : α} {y : β} {k} (ha : EE T X G a (r x)) (hb : EE T X G b (u y)) (hs : starEach [a, b] X.env = (false, eval a X.env) :: starEach [b] X.env := by rfl) (hs2 : starEach [b] X.env = (false, eval b X.env) :: starEach [] X.env := by rfl) : EE T X G (.Tuple [a, b] k pos) (rPr r u (x, y)) :=
  (ee_tup (ea_cons ha (ea_cons hb ea_nil hs2) hs) (show 2 ≤ 1000 by decide)).imp fun F v ⟨l, vs, h1, h2, h3⟩ => by
    match vs, h3 with
    | [v1, v2], ⟨k1, k2, _⟩ => exact ⟨l, v1, v2, h1, h2, k1, k2⟩
theorem ee_tup1 {α : Type} {r : α → Pd} {x : α} {k} (ha : EE T X G a (r x)) (hs : starEach [a] X.env = (false, eval a X.env) :: starEach [] X.env := by rfl) : EE T X G (.Tuple [a] k pos) (rTup r [x]) :=
  (ee_tup (ea1 ha hs) (show 1 ≤ 1000 by decide)).imp fun F v ⟨l, vs, h1, h2, h3⟩ => by
    match vs, h3 with
    | [v1], ⟨k1, _⟩ => exact ⟨l, [v1], h1, h2, k1, True.intro⟩
theorem ee_tup0 {α : Type} {r : α → Pd} {k} : EE T X G (.Tuple [] k pos) (rTup r []) :=
  (ee_tup ea_nil (by decide)).imp fun F v ⟨l, vs, h1, h2, h3⟩ => by
    match vs, h3 with
    | [], _ => exact ⟨l, [], h1, h2, True.intro⟩
theorem ee_lst {α : Type} {r : α → Pd} {xs : List α} (h : EA T X G es (xs.map r)) (hl : xs.length ≤ 1000) : EE T X G (.List es pos) (rLst r xs) :=
  ee_by (pe_lst wa) fun σ F H Q g s t kq => h σ F H _ g s t fun vs F1 H1 g1 hv => ⟨by rw [hv.length, List.length_map]; exact Nat.le_of_lt (small1000 hl), fun w hr => by
    have g2 := Gr.new (o := .lst vs) g1.sub g1.tb hr lst_tbl
    exact kq _ _ _ (g1.trans g2) ⟨w, vs, rfl, upd_same, (hv.al).up g2.fs⟩⟩

/-! ### items -/
variable {α β : Type} {r : α → Pd} {xs : List α}
theorem al_at {F : Hp} {vs : List V} (h : Al F r vs xs) {i : Int} {x : α} (hx : atI xs i = some x) : ∃ v, atI vs i = some v ∧ (r x).p F v := by
  unfold atI at hx ⊢
  rw [h.length]
  cases e : ixN xs.length i with
  | none =>
    rw [e] at hx
    cases hx
  | some j =>
    rw [e] at hx
    exact h.get2 hx
theorem ee_ixL {x : α} (ha : EE T X G a (rLst r xs)) (hb : EE T X G b (rInt i)) (hx : atI xs i = some x) (hs : PlainIx b := by exact fun _ _ => rfl) : EE T X G (.Subscript a b pos) (r x) :=
  ee_bin (pe_ix ix_list we we hs) ha hb fun F H v w Q s t hv hw k => by
    obtain ⟨l, vs, h1, h2, h3⟩ := hv
    obtain ⟨z, e1, e2⟩ := al_at h3 hx
    exact ⟨l, vs, i, z, h1, hw, SqL.of (s.at h2), e1, k z F H (Gr.refl s t) e2⟩
theorem ee_ixT {x : α} (ha : EE T X G a (rTup r xs)) (hb : EE T X G b (rInt i)) (hx : atI xs i = some x) (hs : PlainIx b := by exact fun _ _ => rfl) : EE T X G (.Subscript a b pos) (r x) :=
  ee_bin (pe_ix ix_tup we we hs) ha hb fun F H v w Q s t hv hw k => by
    obtain ⟨l, vs, h1, h2, h3⟩ := hv
    obtain ⟨z, e1, e2⟩ := al_at h3 hx
    exact ⟨l, vs, i, z, h1, hw, SqT.of (s.at h2), e1, k z F H (Gr.refl s t) e2⟩
theorem ee_fst {u : β → Pd} {z : α × β} {k} {p1 : Pos} (ha : EE T X G a (rPr r u z)) : EE T X G (.Subscript a (.Constant (.int 0) k p1) pos) (r z.1) :=
  ee_bin (pe_ix ix_tup we we (fun _ _ => rfl)) ha ee_int fun F H v w Q s t hv hw k => by
    obtain ⟨l, v1, v2, h1, h2, h3, h4⟩ := hv
    exact ⟨l, _, 0, v1, h1, hw, SqT.of (s.at h2), rfl, k v1 F H (Gr.refl s t) h3⟩
theorem ee_snd {u : β → Pd} {z : α × β} {k} {p1 : Pos} (ha : EE T X G a (rPr r u z)) : EE T X G (.Subscript a (.Constant (.int 1) k p1) pos) (u z.2) :=
  ee_bin (pe_ix ix_tup we we (fun _ _ => rfl)) ha ee_int fun F H v w Q s t hv hw k => by
    obtain ⟨l, v1, v2, h1, h2, h3, h4⟩ := hv
    exact ⟨l, _, 1, v2, h1, hw, SqT.of (s.at h2), rfl, k v2 F H (Gr.refl s t) h4⟩
theorem alP_at {F : Hp} : ∀ {ps : List Pd} {vs : List V} {j : Nat} {p : Pd}, AlP F ps vs → ps[j]? = some p → ∃ v, vs[j]? = some v ∧ p.p F v
  | [], [], j, p, _, e => by simp at e
  | _ :: _, v :: _, 0, p, ⟨h, _⟩, e => by
    simp at e
    subst e
    exact ⟨v, rfl, h⟩
  | _ :: ps, _ :: vs, j + 1, p, ⟨_, t⟩, e => by simpa using alP_at (j := j) t (by simpa using e)
theorem ee_ixP (n : Nat) {k} {p1 : Pos} (ha : EE T X G a (rTuP ps)) (hx : ps[n]? = some p) : EE T X G (.Subscript a (.Constant (.int (n : Int)) k p1) pos) p :=
  ee_bin (pe_ix ix_tup we we (fun _ _ => rfl)) ha ee_int fun F H v w Q s t hv hw k => by
    obtain ⟨l, vs, h1, h2, h3⟩ := hv
    obtain ⟨z, e1, e2⟩ := alP_at h3 hx
    exact ⟨l, vs, n, z, h1, hw, SqT.of (s.at h2), atI_nat e1, k z F H (Gr.refl s t) e2⟩

/-! ### slices from a place on, up to a place -/
theorem cutV_from (vs : List V) (n : Nat) : cutV vs (some (n : Int)) none = vs.drop n := by
  unfold cutV
  rw [HT.sIx_nat, HT.sIx_none]
  by_cases h : n ≤ vs.length
  · rw [Nat.min_eq_left h]
    exact List.take_of_length_le (by rw [List.length_drop]; exact Nat.le_refl _)
  · rw [Nat.min_eq_right (by omega), List.drop_of_length_le (by omega), List.drop_of_length_le (by omega)]
    exact List.take_nil
theorem cutV_to (vs : List V) (n : Nat) : cutV vs none (some (n : Int)) = vs.take n := by
  unfold cutV
  rw [HT.sIx_nat, HT.sIx_none, List.drop_zero, Nat.sub_zero]
  by_cases h : n ≤ vs.length
  · rw [Nat.min_eq_left h]
  · rw [Nat.min_eq_right (by omega), List.take_of_length_le (by omega), List.take_of_length_le (by omega)]
theorem ee_sub_from {n : Nat} {p2 : Pos} (ha : EE T X G a (rLst r xs)) (hb : EE T X G b (rInt (n : Int))) : EE T X G (.Subscript a (.Slice (some b) none none p2) pos) (rLst r (xs.drop n)) :=
  ee_by (pe_slice sl_list we (po_some we) po_none) fun σ F H Q g s t k => ha σ F H _ g s t fun v F1 H1 g1 hv => hb σ F1 H1 _ (g.up g1.fs) g1.sub g1.tb fun w F2 H2 g2 hw => ⟨n, hw, by
    obtain ⟨l, vs, h1, h2, h3⟩ := (rLst r xs).up g2.fs hv
    refine ⟨l, vs, h1, SqL.of (g2.sub.at h2), fun d hd => ?_⟩
    rw [cutV_from]
    have g3 := Gr.new (o := .lst (vs.drop n)) g2.sub g2.tb hd lst_tbl
    exact k _ _ _ ((g1.trans g2).trans g3) ⟨d, _, rfl, upd_same, (h3.drop n).up g3.fs⟩⟩
theorem ee_sub_to {n : Nat} {p2 : Pos} (ha : EE T X G a (rLst r xs)) (hb : EE T X G b (rInt (n : Int))) : EE T X G (.Subscript a (.Slice none (some b) none p2) pos) (rLst r (xs.take n)) :=
  ee_by (pe_slice sl_list we po_none (po_some we)) fun σ F H Q g s t k => ha σ F H _ g s t fun v F1 H1 g1 hv => hb σ F1 H1 _ (g.up g1.fs) g1.sub g1.tb fun w F2 H2 g2 hw => ⟨n, hw, by
    obtain ⟨l, vs, h1, h2, h3⟩ := (rLst r xs).up g2.fs hv
    refine ⟨l, vs, h1, SqL.of (g2.sub.at h2), fun d hd => ?_⟩
    rw [cutV_to]
    have g3 := Gr.new (o := .lst (vs.take n)) g2.sub g2.tb hd lst_tbl
    exact k _ _ _ ((g1.trans g2).trans g3) ⟨d, _, rfl, upd_same, (h3.take n).up g3.fs⟩⟩
theorem ee_sub_fromT {n : Nat} {p2 : Pos} (ha : EE T X G a (rTup r xs)) (hb : EE T X G b (rInt (n : Int))) : EE T X G (.Subscript a (.Slice (some b) none none p2) pos) (rTup r (xs.drop n)) :=
  ee_by (pe_slice sl_tupA we (po_some we) po_none) fun σ F H Q g s t k => ha σ F H _ g s t fun v F1 H1 g1 hv => hb σ F1 H1 _ (g.up g1.fs) g1.sub g1.tb fun w F2 H2 g2 hw => ⟨n, hw, by
    obtain ⟨l, vs, h1, h2, h3⟩ := (rTup r xs).up g2.fs hv
    refine ⟨l, vs, h1, SqT.of (g2.sub.at h2), fun hz => ?_, fun _ d hd => ?_⟩
    · have e0 : min n vs.length = 0 := by
        have z := hz.1
        rw [HT.sIx_nat] at z
        exact z
      refine k _ F2 H2 (g1.trans g2) ⟨l, vs, rfl, h2, ?_⟩
      have hl := h3.length
      have e1 : xs.drop n = xs := by
        rcases Nat.eq_zero_or_pos n with e | e
        · rw [e, List.drop_zero]
        · have e2 : xs.length = 0 := by omega
          rw [List.length_eq_zero_iff.mp e2, List.drop_nil]
      rw [e1]
      exact h3
    · rw [cutV_from]
      have g3 := Gr.new (o := .tup (vs.drop n)) g2.sub g2.tb hd tup_tbl
      exact k _ _ _ ((g1.trans g2).trans g3) ⟨d, _, rfl, upd_same, (h3.drop n).up g3.fs⟩⟩
/-! ### + -/
theorem ee_catL {ys : List α} (ha : EE T X G a (rLst r xs)) (hb : EE T X G b (rLst r ys)) (hl : xs.length + ys.length ≤ 1000) : EE T X G (.BinOp a .Add b pos) (rLst r (xs ++ ys)) :=
  ee_bin (pe_op op_cat we we) ha hb fun F H v w Q s t hv hw k => by
    obtain ⟨l, vs, h1, h2, h3⟩ := hv
    obtain ⟨m, ws, k1, k2, k3⟩ := hw
    refine ⟨l, m, vs, ws, h1, k1, s.at h2, s.at k2, by rw [h3.length, k3.length]; exact Nat.le_of_lt (small1000 hl), fun d hd => ?_⟩
    have g3 := Gr.new (o := .lst (vs ++ ws)) s t hd lst_tbl
    exact k _ _ _ g3 ⟨d, _, rfl, upd_same, (h3.append k3).up g3.fs⟩
theorem ee_catT {ys : List α} (ha : EE T X G a (rTup r xs)) (hb : EE T X G b (rTup r ys)) (hl : xs.length + ys.length ≤ 1000) : EE T X G (.BinOp a .Add b pos) (rTup r (xs ++ ys)) :=
  ee_bin (pe_op op_catA we we) ha hb fun F H v w Q s t hv hw k => by
    obtain ⟨l, vs, h1, h2, h3⟩ := hv
    obtain ⟨m, ws, k1, k2, k3⟩ := hw
    refine ⟨l, m, vs, ws, h1, k1, SqT.of (s.at h2), SqT.of (s.at k2), by rw [h3.length, k3.length]; exact Nat.le_of_lt (small1000 hl), fun e => ?_, fun _ e => ?_, fun _ _ d hd => ?_⟩
    · have e2 : xs = [] := List.length_eq_zero_iff.mp (by rw [← h3.length, e]; rfl)
      exact k _ F H (Gr.refl s t) ⟨m, ws, rfl, k2, by rw [e2, List.nil_append]; exact k3⟩
    · have e2 : ys = [] := List.length_eq_zero_iff.mp (by rw [← k3.length, e]; rfl)
      exact k _ F H (Gr.refl s t) ⟨l, vs, rfl, h2, by rw [e2, List.append_nil]; exact h3⟩
    · have g3 := Gr.new (o := .tup (vs ++ ws)) s t hd tup_tbl
      exact k _ _ _ g3 ⟨d, _, rfl, upd_same, (h3.append k3).up g3.fs⟩
end
end FS
namespace FS
open PySem PySem.Spec PyProof.Rows L2 LamX

/-! ### what is walked -/
def EI (T : List (Addr × Str)) (X : Cx) (G : Gm) (tg it : Expr) (ps : List Pd) : Prop := ∀ (σ : L2.St) (F H : Hp) (R : It → Hp → Prop), EnvOk F G σ → Sub F H → Tabs T H →
  (∀ (J : It) (Fb Hb : Hp) (Gd : Hp → Prop) (Y : Nat → Hp → V → Hp → Prop), Gr T F H Fb Hb → Walk J ps.length Gd Y → (∀ H', Inc Fb H' → Gd H') →
    (∀ (i : Nat) (F0 H0 : Hp) (x : V) (H1 : Hp), Y i H0 x H1 → i < ps.length → Inc Fb F0 → Sub F0 H0 → Tabs T H0 → ∃ p F1, ps[i]? = some p ∧ Gr T F0 H0 F1 H1 ∧ p.p F1 x) → R J Hb) → Wi X tg it σ H R
section
variable {T : List (Addr × Str)} {X : Cx} {G : Gm} {a b c e l tg : Expr} {es : List Expr} {p q o : Pd} {ps : List Pd} {pos : Pos} {ns ms : List Int} {i j : Int}
variable {α β : Type} {r : α → Pd} {xs : List α}
theorem ei_list (h : EE T X G e (rLst r xs)) : EI T X G tg e (xs.map r) := fun σ F H R g s t k pins s0 I => by
  refine (pi_list we).run pins s0 σ H R I (h σ F H _ g s t fun v F1 H1 g1 hv => ?_)
  obtain ⟨a, vs, h1, h2, h3⟩ := hv
  have hl : vs.length = (xs.map r).length := by rw [h3.length, List.length_map]
  refine ⟨a, h1, ⟨vs, SqL.of (g1.sub.at h2)⟩, k _ F1 H1 _ _ g1 (hl ▸ walk_list (K := X.K) (a := a) (xs := vs)) (fun H' e => SqL.of (e _ _ h2)) fun i F0 H0 x H2 y hi e s2 t2 => ?_⟩
  obtain ⟨y1, y2⟩ := y
  subst y1
  obtain ⟨z, z1, z2⟩ := h3.get y2
  refine ⟨r z, F0, by rw [List.getElem?_map, z1]; rfl, Gr.refl s2 t2, (r z).up e z2⟩
theorem ei_tup (h : EE T X G e (rTup r xs)) : EI T X G tg e (xs.map r) := fun σ F H R g s t k pins s0 I => by
  refine (pi_tup we).run pins s0 σ H R I (h σ F H _ g s t fun v F1 H1 g1 hv => ?_)
  obtain ⟨a, vs, h1, h2, h3⟩ := hv
  have hl : vs.length = (xs.map r).length := by rw [h3.length, List.length_map]
  refine ⟨a, h1, ⟨vs, SqT.of (g1.sub.at h2)⟩, k _ F1 H1 _ _ g1 (hl ▸ walk_tup (K := X.K) (a := a) (xs := vs)) (fun H' e => SqT.of (e _ _ h2)) fun i F0 H0 x H2 y hi e s2 t2 => ?_⟩
  obtain ⟨y1, y2⟩ := y
  subst y1
  obtain ⟨z, z1, z2⟩ := h3.get y2
  refine ⟨r z, F0, by rw [List.getElem?_map, z1]; rfl, Gr.refl s2 t2, (r z).up e z2⟩
/-- a name that holds a list or a tuple -/
theorem ei_seq (i : Nat) {x : Str} {pos : Pos} (hg : G[i]? = some (some (rSq r xs))) (hN : X.N[i]? = some x := by rfl) (hv : Vis X.env.scope x := by first | exact Or.inl rfl | exact Or.inr (Or.inl rfl) | exact Or.inr (Or.inr rfl))
    (hd : (x == ("__debug__" : Str)) = false := by decide) (hcd : (x == ("__classdict__" : Str)) = false := by decide) : EI T X G tg (.Name x pos) (xs.map r) := fun σ F H R g s t k => by
  obtain ⟨v, h1, h2⟩ := g.get hg
  have back : ∀ p : Pd, p.p F v → EnvOk F (G.set i (some p)) σ := fun p hp => g.add hp i h1
  have len : i < G.length := by
    rcases Nat.lt_or_ge i G.length with z | z
    · exact z
    · rw [List.getElem?_eq_none z] at hg
      cases hg
  rcases h2 with h2 | h2
  · exact ei_list (G := G.set i (some (rLst r xs))) (ev i (by rw [List.getElem?_set_self len]) hN hv hd hcd) σ F H R (back _ h2) s t k
  · exact ei_tup (G := G.set i (some (rTup r xs))) (ev i (by rw [List.getElem?_set_self len]) hN hv hd hcd) σ F H R (back _ h2) s t k
theorem ei_range1 {p1 : Pos} {n : Nat} (hm : X.mg "range" = none) (h : EE T X G a (rInt (n : Int))) (hn : n ≤ 1000) (hg : Gl X "range" := by rfl) (hs : starEach [a] X.env = [(false, eval a X.env)] := by rfl) :
    EI T X G tg (.Call (.Name "range" p1) [a] [] pos) ((List.range n).map fun (i : Nat) => rInt (i : Int)) := fun σ F H R g s t k pins s0 I => by
  refine (pi_range1 hg hm wa hs).run pins s0 σ H R I ?_
  refine (ea1 h (by rw [hs]; rfl)) σ F H _ g s t fun vs F1 H1 g1 hv => ?_
  match vs, hv with
  | [v], ⟨hv, _⟩ =>
    have ev : v = .int (n : Int) := hv
    subst ev
    have hl : n = ((List.range n).map fun (i : Nat) => rInt (i : Int)).length := by rw [List.length_map, List.length_range]
    refine ⟨_, rfl, by omega, by omega, k _ F1 H1 _ _ g1 (by rw [← hl]; exact walk_range) (fun _ _ => True.intro) fun i F0 H0 x H2 y hi e s2 t2 => ?_⟩
    obtain ⟨y1, y2⟩ := y
    subst y1
    have hi' : i < n := by rw [← hl] at hi; exact hi
    refine ⟨rInt (i : Int), F0, by rw [List.getElem?_map, List.getElem?_range hi']; rfl, Gr.refl s2 t2, ?_⟩
    rw [y2]
    show V.int (0 + (i : Int)) = V.int (i : Int)
    rw [Int.zero_add]
theorem ei_range2 {p1 : Pos} {m n : Nat} (hm : X.mg "range" = none) (ha : EE T X G a (rInt (m : Int))) (hb : EE T X G b (rInt (n : Int))) (hn : m ≤ 1000 ∧ n ≤ 1000) (hg : Gl X "range" := by rfl) (hs : starEach [a, b] X.env = [(false, eval a X.env), (false, eval b X.env)] := by rfl) (hs2 : starEach [b] X.env = [(false, eval b X.env)] := by rfl) :
    EI T X G tg (.Call (.Name "range" p1) [a, b] [] pos) ((List.range (n - m)).map fun (i : Nat) => rInt ((m : Int) + (i : Int))) := fun σ F H R g s t k pins s0 I => by
  refine (pi_range2 hg hm wa hs hs2).run pins s0 σ H R I ?_
  refine (ea_cons ha (ea1 hb (by rw [hs2]; rfl)) (by rw [hs, hs2])) σ F H _ g s t fun vs F1 H1 g1 hv => ?_
  match vs, hv with
  | [v, w], ⟨hv, hw, _⟩ =>
    have ev : v = .int (m : Int) := hv
    have ew : w = .int (n : Int) := hw
    subst ev ew
    have hl : ((n : Int) - (m : Int)).toNat = ((List.range (n - m)).map fun (i : Nat) => rInt ((m : Int) + (i : Int))).length := by
      rw [List.length_map, List.length_range]
      omega
    refine ⟨_, _, rfl, ⟨by omega, by omega, by omega, by omega⟩, k _ F1 H1 _ _ g1 (by rw [← hl]; exact walk_range) (fun _ _ => True.intro) fun i F0 H0 x H2 y hi e s2 t2 => ?_⟩
    obtain ⟨y1, y2⟩ := y
    subst y1
    have hi' : i < n - m := by
      rw [List.length_map, List.length_range] at hi
      exact hi
    refine ⟨rInt ((m : Int) + (i : Int)), F0, by rw [List.getElem?_map, List.getElem?_range hi']; rfl, Gr.refl s2 t2, y2⟩
theorem ei_enum {p1 tpos : Pos} {elts : List Expr} {kk : Nat} (hm : X.mg "enumerate" = none) (h : EE T X G a (rLst r xs)) (hg : Gl X "enumerate" := by rfl) (hs : starEach [a] X.env = [(false, eval a X.env)] := by rfl) :
    EI T X G (.Tuple elts kk tpos) (.Call (.Name "enumerate" p1) [a] [] pos) ((xs.zip (List.range xs.length)).map fun z => rPr (fun (i : Nat) => rInt (i : Int)) r (z.2, z.1)) := fun σ F H R g s t k pins s0 I => by
  refine (pi_enum hg hm wa hs).run pins s0 σ H R I ?_
  refine (ea1 h (by rw [hs]; rfl)) σ F H _ g s t fun vs F1 H1 g1 hv => ?_
  match vs, hv with
  | [v], ⟨hv, _⟩ =>
    obtain ⟨a, vs, h1, h2, h3⟩ := hv
    have hl : vs.length = ((xs.zip (List.range xs.length)).map fun z => rPr (fun (i : Nat) => rInt (i : Int)) r (z.2, z.1)).length := by
      rw [List.length_map, List.length_zip, List.length_range, Nat.min_self, h3.length]
    refine ⟨a, vs, by rw [h1], SqL.of (g1.sub.at h2), k _ F1 H1 _ _ g1 (hl ▸ walk_enum (K := X.K) (a := a) (xs := vs)) (fun H' e => SqL.of (e _ _ h2)) fun i F0 H0 x H2 y hi e s2 t2 => ?_⟩
    obtain ⟨tt, y0, z, e1, e2, e3, e4, e5⟩ := y
    have hi' : i < xs.length := by rw [← hl, h3.length] at hi; exact hi
    obtain ⟨w, w1, w2⟩ := h3.get e5
    subst e1 e3
    cases e4
    have g3 := Gr.new (o := .tup [.int (i : Nat), z]) s2 t2 e2 tup_tbl
    refine ⟨rPr (fun (i : Nat) => rInt (i : Int)) r (i, w), _, ?_, g3, tt, _, _, rfl, upd_same, rfl, (r w).up g3.fs ((r w).up e w2)⟩
    rw [List.getElem?_map, show (xs.zip (List.range xs.length))[i]? = some (w, i) from List.getElem?_zip_eq_some.mpr ⟨w1, List.getElem?_range hi'⟩]
    rfl

/-! ### comprehensions -/
def Tb (X : Cx) (scope : Scope) (ifs : List Expr) : TT := fun σ H Q => ∀ (s : Shared) (H0 : Hp) (C : Addr) (cl : List (Str × Addr)) (fp : List Addr), Wts (X.blk s H0 scope (compEnvC scope cl C X.env) fp) ifs σ H Q
def Eb (X : Cx) (scope : Scope) (e : Expr) : TE := fun σ H Q => ∀ (s : Shared) (H0 : Hp) (C : Addr) (cl : List (Str × Addr)) (fp : List Addr), We (X.blk s H0 scope (compEnvC scope cl C X.env) fp) e σ H Q
variable {u : β → Pd} {pT : α → Bool} {f : α → β} {scope : Scope} {ifs : List Expr} {x : Str} {iter elt : Expr} {p1 : Pos}
theorem lc_read {n : Nat} (hi : EI T X G (.Name x p1) iter (xs.map r))
    (ht : ∀ a ∈ xs, ∀ (s : Shared) (H : Hp) (C : Addr) (cl : List (Str × Addr)) (fp : List Addr), ETs T (X.blk s H scope (compEnvC scope cl C X.env) fp) (G.set n (some (r a))) ifs (pT a))
    (he : ∀ a ∈ xs, pT a = true → ∀ (s : Shared) (H : Hp) (C : Addr) (cl : List (Str × Addr)) (fp : List Addr), EE T (X.blk s H scope (compEnvC scope cl C X.env) fp) (G.set n (some (r a))) elt (u (f a))) (hz : xs.length ≤ 1000)
    {σ : L2.St} {F H : Hp} {Q : VK} (g : EnvOk F G σ) (s : Sub F H) (t : Tabs T H) (k : ∀ v F' H', Gr T F H F' H' → (rLst u ((xs.filter pT).map f)).p F' v → Q v H') :
    tLc (Wi X (.Name x p1) iter) (gName n) (Tb X scope ifs) (Eb X scope elt) [n] σ H Q := by
  refine hi σ F H _ g s t fun J Fb Hb Gd Y g1 W hGd hY D hD => ?_
  have fD : Fb D = none := g1.sub.none hD
  rw [List.length_map] at W
  refine lc_it W (fun i H' => ∃ F' vs, Gr T Fb Hb F' H' ∧ F' D = none ∧ H' D = some (.lst vs) ∧ Al F' u vs (((xs.take i).filter pT).map f)) ?_ ?_ ?_ ?_
  · exact ⟨Fb, [], Gr.newM g1.sub g1.tb hD, fD, upd_same, True.intro⟩
  · rintro i H' _ ⟨F', vs, g2, _⟩
    exact hGd H' fun b o e => g2.sub.at (g2.fs b o e)
  · rintro i x H2 H3 hi ⟨F', vs, g2, d1, d2, d3⟩ y
    obtain ⟨p, F3, hp, g3, px⟩ := hY i F' H2 x H3 y (by rw [List.length_map]; exact hi) g2.fs g2.sub g2.tb
    have hxi : xs[i]? = some xs[i] := List.getElem?_eq_getElem hi
    rw [List.getElem?_map, hxi] at hp
    have ep : r xs[i] = p := Option.some.inj hp
    subst ep
    have hmem : xs[i] ∈ xs := List.getElem_mem hi
    have ew : wipe σ [n] = σ.set n none := rfl
    have g13 := (g1.trans g2).trans g3
    have env3 : EnvOk F3 (G.set n (some (r xs[i]))) ((wipe σ [n]).set n (some x)) := by
      rw [ew, List.set_set]
      exact (g.up g13.fs).set px n
    have keep : ∀ {F4 H4 : Hp}, Gr T F3 H3 F4 H4 → F4 D = none ∧ H4 D = some (.lst vs) := fun {F4 H4} g4 => by
      have h3 : H3 D = some (.lst vs) := g3.hs _ _ d2 lst_tbl
      have f3 : F3 D = none := by
        cases e : F3 D with
        | none => rfl
        | some o =>
          rcases g3.nw _ _ e with z | z | ⟨z, xs, ez⟩
          · rw [d1] at z; cases z
          · rw [d2] at z; cases z
          · rw [d2, ez] at z; cases z
      refine ⟨?_, g4.hs _ _ h3 lst_tbl⟩
      cases e : F4 D with
      | none => rfl
      | some o =>
        rcases g4.nw _ _ e with z | z | ⟨z, xs, ez⟩
        · rw [f3] at z; cases z
        · rw [h3] at z; cases z
        · rw [h3, ez] at z; cases z
    refine ⟨?_, fun s0 H0 C cl fp => ht xs[i] hmem s0 H0 C cl fp _ F3 H3 _ env3 g3.sub g3.tb fun F4 H4 g4 => ?_⟩
    · rw [ew]
      show ((σ.set n none).set n (some x)).set n none = σ.set n none
      rw [List.set_set, List.set_set]
    have etk : xs.take (i + 1) = xs.take i ++ [xs[i]] := by rw [List.take_add_one, hxi] <;> rfl
    cases hb : pT xs[i] with
    | true =>
      rw [if_pos rfl]
      refine fun s1 H01 C1 cl1 fp1 => he xs[i] hmem hb s1 H01 C1 cl1 fp1 _ F4 H4 _ (env3.up g4.fs) g4.sub g4.tb fun v F5 H5 g5 hv => ?_
      obtain ⟨k1, k2⟩ := keep (g4.trans g5)
      have g25 := ((g2.trans g3).trans g4).trans g5
      have hvl : vs.length ≤ xs.length := by
        rw [d3.length, List.length_map]
        exact Nat.le_trans (List.length_filter_le _ _) (by rw [List.length_take]; exact Nat.min_le_right _ _)
      refine ⟨vs, k2, small1000 (by omega), F5, vs ++ [v], Gr.mut g25 hD k1 k2 lst_tbl (fun _ _ z => by unfold CodeO at z; cases z), k1, upd_same, ?_⟩
      rw [etk, List.filter_append, List.map_append, List.filter_cons, if_pos hb]
      exact (d3.up ((g3.trans g4).trans g5).fs).append ⟨hv, True.intro⟩
    | false =>
      rw [if_neg Bool.false_ne_true]
      obtain ⟨k1, k2⟩ := keep g4
      refine ⟨F4, vs, (g2.trans g3).trans g4, k1, k2, ?_⟩
      rw [etk, List.filter_append, List.map_append, List.filter_cons, if_neg (by rw [hb]; exact Bool.false_ne_true)]
      show Al F4 u vs (List.map f (List.filter pT (List.take i xs)) ++ [])
      rw [List.append_nil]
      exact d3.up (g3.trans g4).fs
  · rintro H' ⟨F', vs, g2, d1, d2, d3⟩
    rw [List.take_length] at d3
    have g3 : Gr T F H F' H' := g1.trans g2
    have h0 : H D = none := g1.dm D hD
    exact k (.ref D) _ H' (g3.freeze h0 d2 lst_tbl d1) ⟨D, vs, rfl, upd_same, d3.up (Inc.upd d1)⟩
variable {Ns psn : List Str} {sc : Scope}
theorem ee_lc (n : Nat) (hc : X.calm = true) (S : FnScope Ns psn sc) (hi : EI T X G (.Name x p1) iter (xs.map r))
    (ht : ∀ a ∈ xs, ∀ (s : Shared) (H : Hp) (C : Addr) (cl : List (Str × Addr)) (fp : List Addr), ETs T (X.blk s H scope (compEnvC scope cl C X.env) fp) (G.set n (some (r a))) ifs (pT a))
    (he : ∀ a ∈ xs, pT a = true → ∀ (s : Shared) (H : Hp) (C : Addr) (cl : List (Str × Addr)) (fp : List Addr), EE T (X.blk s H scope (compEnvC scope cl C X.env) fp) (G.set n (some (r a))) elt (u (f a))) (hz : xs.length ≤ 1000)
    (eN : X.N = Ns := by rfl) (eS : X.env.scope = sc := by rfl) (ok : blkC Ns sc scope [(x, n)] = true := by decide +kernel) (hx : X.N[n]? = some x := by rfl)
    (hg : ∀ (s : Shared) (H : Hp) (C : Addr) (cl : List (Str × Addr)) (fp : List Addr), Loc (X.blk s H scope (compEnvC scope cl C X.env) fp).env.scope x := by intro _ _ _ _ _; exact Or.inl rfl)
    (hg2 : ∀ (s : Shared) (H : Hp) (C : Addr) (cl : List (Str × Addr)) (fp : List Addr), (X.blk s H scope (compEnvC scope cl C X.env) fp).fn x = true ∨ (X.blk s H scope (compEnvC scope cl C X.env) fp).env.scope.names.lookup x = some .local := by intro _ _ _ _ _; exact Or.inr rfl)
    (hs : ∀ x, foldedSetIterable iter X.env x = pure x := by intro _; rfl) : EE T X G (.ListComp elt [⟨.Name x p1, iter, ifs, 0⟩] scope pos) (rLst u ((xs.filter pT).map f)) :=
  have hN : X.N.Nodup := eN ▸ S.nd
  have ok2 : BlkOk X.N X.env.scope scope [(x, n)] := by
    rw [eN, eS]
    exact blkOk_by ok
  ee_by (pe_lc (own := [(x, n)]) hc hN wi ok2 (fun s H C cl fp => pg_name hN hx (hg s H C cl fp) (hg2 s H C cl fp)) (fun s H C cl fp => ⟨fun pins s' σ H' Q I h => h s H C cl fp pins s' I⟩) (fun s H C cl fp => ⟨fun pins s' σ H' Q I h => h s H C cl fp pins s' I⟩) hs)
    fun σ F H Q g s t k => lc_read hi ht he hz g s t k
theorem ets_nil {G : Gm} {X : Cx} : ETs T X G [] true := fun σ F H Q g s t k pins s0 I => pts_nil.run pins s0 σ H Q I (k F H (Gr.refl s t))
theorem ets_one {b : Bool} (h : ET T X G c b) : ETs T X G [c] b := fun σ F H Q g s t k pins s0 I => (pts_one wt).run pins s0 σ H Q I (h σ F H Q g s t k)
/-- without a test -/
theorem ee_lc0 (n : Nat) (hc : X.calm = true) (S : FnScope Ns psn sc) (hi : EI T X G (.Name x p1) iter (xs.map r))
    (he : ∀ a ∈ xs, ∀ (s : Shared) (H : Hp) (C : Addr) (cl : List (Str × Addr)) (fp : List Addr), EE T (X.blk s H scope (compEnvC scope cl C X.env) fp) (G.set n (some (r a))) elt (u (f a))) (hz : xs.length ≤ 1000)
    (eN : X.N = Ns := by rfl) (eS : X.env.scope = sc := by rfl) (ok : blkC Ns sc scope [(x, n)] = true := by decide +kernel) (hx : X.N[n]? = some x := by rfl)
    (hg : ∀ (s : Shared) (H : Hp) (C : Addr) (cl : List (Str × Addr)) (fp : List Addr), Loc (X.blk s H scope (compEnvC scope cl C X.env) fp).env.scope x := by intro _ _ _ _ _; exact Or.inl rfl)
    (hg2 : ∀ (s : Shared) (H : Hp) (C : Addr) (cl : List (Str × Addr)) (fp : List Addr), (X.blk s H scope (compEnvC scope cl C X.env) fp).fn x = true ∨ (X.blk s H scope (compEnvC scope cl C X.env) fp).env.scope.names.lookup x = some .local := by intro _ _ _ _ _; exact Or.inr rfl)
    (hs : ∀ x, foldedSetIterable iter X.env x = pure x := by intro _; rfl) : EE T X G (.ListComp elt [⟨.Name x p1, iter, [], 0⟩] scope pos) (rLst u (xs.map f)) :=
  (ee_lc (pT := fun _ => true) n hc S hi (fun _ _ _ _ _ _ _ => ets_nil) (fun a h _ => he a h) hz eN eS ok hx hg hg2 hs).to (by rw [List.filter_eq_self.mpr fun _ _ => rfl])
end
end FS
namespace FS
open PySem PySem.Spec PyProof.Rows L2 LamX

/-! ### statements: what is known ahead, what is known behind -/
/-- an object that the def changes -/
structure Mo where
  r : Hp → HO → Prop
  up : ∀ {F F' : Hp} {o : HO}, Inc F F' → r F o → r F' o
  tb : ∀ F o, r F o → (∀ ps, o ≠ .tbl ps) ∧ ∀ c q, o ≠ CodeO c q
  nt : ∀ F o, r F o → ∀ xs, o ≠ .tup xs
def mLst {α : Type} (r : α → Pd) (xs : List α) : Mo := ⟨fun F o => ∃ vs, o = .lst vs ∧ Al F r vs xs, fun e ⟨vs, h1, h2⟩ => ⟨vs, h1, h2.up e⟩, fun F o ⟨vs, h1, _⟩ => by
  subst h1
  exact ⟨lst_tbl, fun _ _ z => by unfold CodeO at z; cases z⟩, fun F o ⟨vs, h1, _⟩ xs z => by rw [h1] at z; cases z⟩
/-- .. read -/
def Mo.pd (M : Mo) : Pd := ⟨fun F v => ∃ l o, v = .ref l ∧ F l = some o ∧ M.r F o, fun e ⟨l, o, h1, h2, h3⟩ => ⟨l, o, h1, e _ _ h2, M.up e h3⟩⟩
theorem mLst_pd {α : Type} {r : α → Pd} {xs : List α} {F : Hp} {v : V} (h : (mLst r xs).pd.p F v) : (rLst r xs).p F v := by
  obtain ⟨l, o, h1, h2, vs, h3, h4⟩ := h
  subst h3
  exact ⟨l, vs, h1, h2, h4⟩
structure As where
  G : Gm
  m : Option (Nat × Mo)
def MOk (F0 H0 : Hp) (m : Option (Nat × Mo)) (σ : L2.St) (F H : Hp) : Prop := match m with
  | none => True
  | some (j, M) => ∃ l o, σ[j]? = some (some (.ref l)) ∧ H l = some o ∧ F l = none ∧ H0 l = none ∧ M.r F o
structure Sat (T : List (Addr × Str)) (F0 H0 : Hp) (a : As) (σ : L2.St) (F H : Hp) : Prop where
  gr : Gr T F0 H0 F H
  env : EnvOk F a.G σ
  mo : MOk F0 H0 a.m σ F H
/-- all that is known, the changing object as it stands -/
def As.rd (a : As) : Gm := match a.m with
  | none => a.G
  | some (j, M) => a.G.set j (some M.pd)
def MImp : Option (Nat × Mo) → Option (Nat × Mo) → Prop
  | none, none => True
  | some (j, M), some (j', M') => j = j' ∧ ∀ F o, M.r F o → M'.r F o
  | _, _ => False
def AImp (a b : As) : Prop := GImp a.G b.G ∧ MImp a.m b.m
theorem MImp.refl : ∀ m : Option (Nat × Mo), MImp m m
  | none => True.intro
  | some (_, _) => ⟨rfl, fun _ _ h => h⟩
theorem AImp.refl (a : As) : AImp a a := ⟨GImp.refl _, MImp.refl _⟩
theorem AImp.sat {T : List (Addr × Str)} {F0 H0 F H : Hp} {a b : As} {σ : L2.St} (h : AImp a b) (s : Sat T F0 H0 a σ F H) : Sat T F0 H0 b σ F H := by
  obtain ⟨g, e, m⟩ := s
  refine ⟨g, h.1.ok e, ?_⟩
  have q := h.2
  obtain ⟨G, am⟩ := a
  obtain ⟨G', bm⟩ := b
  match am, bm, m, q with
  | none, none, _, _ => exact True.intro
  | some (j, M), some (j', M'), ⟨l, o, h1, h2, h3, h4, h5⟩, ⟨ej, f⟩ => exact ⟨l, o, ej ▸ h1, h2, h3, h4, f _ _ h5⟩

section
variable (T : List (Addr × Str)) (X : Cx)
def SS (a : As) (sts : List Stmt) (N : As → Prop) (R : Pd) : Prop := ∀ (F0 H0 F H : Hp) (σ : L2.St) (D : Ends), Sat T F0 H0 a σ F H →
  (∀ a', N a' → ∀ σ' F' H', Sat T F0 H0 a' σ' F' H' → D.nx σ' H') → (∀ v F' H', Gr T F0 H0 F' H' → R.p F' v → D.rt v H') → Wss X sts D σ H
def S1 (a : As) (st : Stmt) (N : As → Prop) (R : Pd) : Prop := ∀ (F0 H0 F H : Hp) (σ : L2.St) (D : Ends), Sat T F0 H0 a σ F H →
  (∀ a', N a' → ∀ σ' F' H', Sat T F0 H0 a' σ' F' H' → D.nx σ' H') → (∀ v F' H', Gr T F0 H0 F' H' → R.p F' v → D.rt v H') → Ws X st D σ H
end
section
variable {T : List (Addr × Str)} {X : Cx} {a b : As} {G : Gm} {N N' : As → Prop} {R p q : Pd} {st : Stmt} {sts : List Stmt} {e c tg it : Expr} {pos pos' : Pos} {F0 H0 F H F1 H1 : Hp} {σ : L2.St}
/-- an expression is run: what may change stands as it stood -/
theorem Sat.grow (s : Sat T F0 H0 a σ F H) (g : Gr T F H F1 H1) : Sat T F0 H0 a σ F1 H1 := by
  refine ⟨s.gr.trans g, s.env.up g.fs, ?_⟩
  have m := s.mo
  obtain ⟨G, am⟩ := a
  match am, m with
  | none, _ => exact True.intro
  | some (j, M), ⟨l, o, h1, h2, h3, h4, h5⟩ =>
    refine ⟨l, o, h1, g.hs _ _ h2 (M.tb _ _ h5).1, ?_, h4, M.up g.fs h5⟩
    cases e : F1 l with
    | none => rfl
    | some o' =>
      rcases g.nw _ _ e with z | z | ⟨z, xs, ez⟩
      · rw [h3] at z; cases z
      · rw [h2] at z; cases z
      · rw [h2] at z
        cases z
        exact absurd ez (M.nt _ _ h5 xs)
/-- all is told immutable for the reading of an expression -/
theorem Sat.read (s : Sat T F0 H0 a σ F H) : ∃ F1, Gr T F0 H0 F1 H ∧ EnvOk F1 a.rd σ ∧ Inc F F1 ∧ ∀ {F2 H2 : Hp}, Gr T F1 H F2 H2 → Sat T F0 H0 a σ F H2 := by
  obtain ⟨G, am⟩ := a
  have m := s.mo
  match am, m with
  | none, _ => exact ⟨F, s.gr, s.env, fun _ _ h => h, fun {F2 H2} g => ⟨s.gr.weak g, s.env, True.intro⟩⟩
  | some (j, M), ⟨l, o, h1, h2, h3, h4, h5⟩ =>
    have n := M.tb _ _ h5
    have hi : Inc F (upd F l o) := Inc.upd h3
    refine ⟨upd F l o, s.gr.freeze h4 h2 n.1 h3, (s.env.up hi).add (p := M.pd) (v := .ref l) (show M.pd.p _ _ from ⟨l, o, rfl, upd_same, M.up hi h5⟩) j h1, hi, fun {F2 H2} g => ?_⟩
    have h2' : H2 l = some o := g.hs _ _ h2 n.1
    refine ⟨⟨s.gr.fs, fun b u e q => g.hk _ _ (s.gr.hk b u e q) q, fun b e => s.gr.dm b (g.dm b e), fun b u e => ⟨g.hs _ _ (s.gr.sub.at e) (s.gr.sub b u e).2, (s.gr.sub b u e).2⟩, s.gr.nw, s.gr.tb0, g.tb⟩, s.env, l, o, h1, h2', h3, h4, h5⟩
theorem ss_nil (h : N a) : SS T X a [] N R := fun F0 H0 F H σ D s n r pins s0 I => pss_nil.run pins s0 σ H D I (n a h σ F H s)
theorem ss_cons (h : S1 T X a st (fun a' => SS T X a' sts N R) R) : SS T X a (st :: sts) N R := fun F0 H0 F H σ D s n r pins s0 I =>
  (pss_cons ws wss).run pins s0 σ H D I (h F0 H0 F H σ _ s (fun a' ha σ' F' H' s' => ha F0 H0 F' H' σ' D s' n r) r)
theorem ss_one (h : S1 T X a st N R) : SS T X a [st] N R := fun F0 H0 F H σ D s n r pins s0 I =>
  (pss_one ws).run pins s0 σ H D I (h F0 H0 F H σ D s n r)
theorem SS.mono (h : SS T X a sts N R) (f : ∀ a', N a' → N' a') : SS T X a sts N' R := fun F0 H0 F H σ D s n r => h F0 H0 F H σ D s (fun a' ha => n a' (f a' ha)) r
theorem SS.pre (h : SS T X b sts N R) (f : AImp a b) : SS T X a sts N R := fun F0 H0 F H σ D s n r => h F0 H0 F H σ D (f.sat s) n r
/-- the changing object changes no more -/
theorem ss_freeze {j : Nat} {M : Mo} (h : SS T X ⟨G.set j (some M.pd), none⟩ sts N R) : SS T X ⟨G, some (j, M)⟩ sts N R := fun F0 H0 F H σ D s n r => by
  obtain ⟨F1, g1, e1, hi, _⟩ := s.read
  exact h F0 H0 F1 H σ D ⟨g1, e1, True.intro⟩ n r
/-- a datum that is there -/
theorem ss_ex {α : Type} {P : α → Prop} {r : α → Pd} {i : Nat} {m : Option (Nat × Mo)} (hg : G[i]? = some (some (exP P r))) (h : ∀ x, P x → SS T X ⟨G.set i (some (r x)), m⟩ sts N R) : SS T X ⟨G, m⟩ sts N R := fun F0 H0 F H σ D s n q => by
  obtain ⟨v, h1, x, h2, h3⟩ := s.env.get hg
  exact h x h2 F0 H0 F H σ D ⟨s.gr, s.env.add h3 i h1, s.mo⟩ n q

/-! x = e -/
theorem s1_set (i : Nat) {x : Str} (h : EE T X a.G e p) (hn : N ⟨a.G.set i (some p), a.m⟩) (hm : ∀ j M, a.m = some (j, M) → i ≠ j) (hN : X.N.Nodup) (hi : X.N[i]? = some x := by rfl) (hx : Loc X.env.scope x := by first | exact Or.inl rfl | exact Or.inr rfl) (hs : swapsWith e (some (.Name x pos')) pos.line X.env = pure false := by rfl)
    (hf : X.fn x = true ∨ X.env.scope.names.lookup x = some .local := by exact Or.inl rfl) : S1 T X a (.Assign [.Name x pos'] e pos) N R := fun F0 H0 F H σ D s n r pins s0 I => by
  refine (ps_set hN hi hx we hs hf).run pins s0 σ H D I (h σ F H _ s.env s.gr.sub s.gr.tb fun v F1 H1 g1 hv => ?_)
  have s1 := s.grow g1
  refine n _ hn _ F1 H1 ⟨s1.gr, s1.env.set hv i, ?_⟩
  have m := s1.mo
  obtain ⟨G, am⟩ := a
  match am, m, hm with
  | none, _, _ => exact True.intro
  | some (j, M), ⟨l, o, h1, h2⟩, hm => exact ⟨l, o, by rw [List.getElem?_set_ne (hm j M rfl)]; exact h1, h2⟩
/-- x = [e for ..], x a plain local -/
theorem s1_setLc {α β : Type} {r : α → Pd} {u : β → Pd} {xs : List α} {f : α → β} {scope : Scope} {y x : Str} {py p1 : Pos} {iter elt : Expr} {Ns psn : List Str} {sc : Scope} (i n : Nat) (hc : X.calm = true) (S : FnScope Ns psn sc) (hi : EI T X G (.Name x p1) iter (xs.map r))
    (he : ∀ a ∈ xs, ∀ (s : Shared) (H : Hp) (C : Addr) (cl : List (Str × Addr)) (fp : List Addr), EE T (X.blk s H scope (compEnvC scope cl C X.env) fp) (G.set n (some (r a))) elt (u (f a))) (hz : xs.length ≤ 1000)
    (hn : N ⟨G.set i (some (rLst u (xs.map f))), none⟩)
    (eN : X.N = Ns := by rfl) (eS : X.env.scope = sc := by rfl) (ok : blkC Ns sc scope [(x, n)] = true := by decide +kernel) (hx : X.N[n]? = some x := by rfl) (hy : X.N[i]? = some y := by rfl) (hyl : X.env.scope.names.lookup y = some .local := by rfl)
    (hsw : swapsWith (.ListComp elt [⟨.Name x p1, iter, [], 0⟩] scope pos) (some (.Name y py)) pos'.line X.env = pure true := by exact sw_true rfl rfl rfl (by decide +kernel))
    (hg : ∀ (s : Shared) (H : Hp) (C : Addr) (cl : List (Str × Addr)) (fp : List Addr), Loc (X.blk s H scope (compEnvC scope cl C X.env) fp).env.scope x := by intro _ _ _ _ _; exact Or.inl rfl)
    (hg2 : ∀ (s : Shared) (H : Hp) (C : Addr) (cl : List (Str × Addr)) (fp : List Addr), (X.blk s H scope (compEnvC scope cl C X.env) fp).fn x = true ∨ (X.blk s H scope (compEnvC scope cl C X.env) fp).env.scope.names.lookup x = some .local := by intro _ _ _ _ _; exact Or.inr rfl)
    (hs : ∀ x, foldedSetIterable iter X.env x = pure x := by intro _; rfl) : S1 T X ⟨G, none⟩ (.Assign [.Name y py] (.ListComp elt [⟨.Name x p1, iter, [], 0⟩] scope pos) pos') N R := fun F0 H0 F H σ D s nn rr pins s0 I => by
  have hN : X.N.Nodup := eN ▸ S.nd
  have ok2 : BlkOk X.N X.env.scope scope [(x, n)] := by
    rw [eN, eS]
    exact blkOk_by ok
  refine (ps_setLc (own := [(x, n)]) hc hN hy hyl hsw wi ok2 (fun s H C cl fp => pg_name hN hx (hg s H C cl fp) (hg2 s H C cl fp)) (tt := Tb X scope []) (te := Eb X scope elt) (fun s H C cl fp => ⟨fun pins s' σ H' Q I h => h s H C cl fp pins s' I⟩) (fun s H C cl fp => ⟨fun pins s' σ H' Q I h => h s H C cl fp pins s' I⟩) hs).run pins s0 σ H D I ?_
  refine lc_read (pT := fun _ => true) (f := f) (u := u) (n := n) hi (fun _ _ _ _ _ _ _ => ets_nil) (fun a h _ => he a h) hz s.env s.gr.sub s.gr.tb fun v F1 H1 g1 hv => ?_
  rw [List.filter_eq_self.mpr fun _ _ => rfl] at hv
  have s1 := s.grow g1
  exact nn _ hn _ F1 H1 ⟨s1.gr, s1.env.set hv i, True.intro⟩

/-! if, return -/
theorem s1_if {k : Bool} {body orelse : List Stmt} (h : ET T X a.rd c k) (h1 : k = true → SS T X a body N R) (h2 : k = false → SS T X a orelse N R) : S1 T X a (.If c body orelse pos) N R := fun F0 H0 F H σ D s n r pins s0 I => by
  obtain ⟨F1, g1, e1, hi, back⟩ := s.read
  refine (ps_if wt wss wss).run pins s0 σ H D I (h σ F1 H _ e1 g1.sub g1.tb fun F2 H2 g2 => ?_)
  have s2 := back g2
  cases k with
  | true =>
    rw [if_pos rfl]
    exact h1 rfl F0 H0 F H2 σ D s2 n r
  | false =>
    rw [if_neg Bool.false_ne_true]
    exact h2 rfl F0 H0 F H2 σ D s2 n r
theorem s1_ret (h : EE T X a.rd e R) : S1 T X a (.Return (some e) pos) N R := fun F0 H0 F H σ D s n r pins s0 I => by
  obtain ⟨F1, g1, e1, hi, back⟩ := s.read
  exact (ps_ret we).run pins s0 σ H D I (h σ F1 H _ e1 g1.sub g1.tb fun v F2 H2 g2 hv => r v F2 H2 (g1.trans g2) hv)
/-- no statement comes behind -/
theorem ss_ret (h : EE T X a.rd e R) : SS T X a (.Return (some e) pos :: sts) N R := ss_cons (s1_ret h)

/-! lists that grow -/
theorem s1_new {α : Type} {r : α → Pd} {xs : List α} {es : List Expr} {x : Str} (i : Nat) (h : EA T X G es (xs.map r)) (hl : xs.length ≤ 1000) (hn : N ⟨G.set i none, some (i, mLst r xs)⟩) (hiG : i < G.length) (hN : X.N.Nodup) {p2 : Pos} (hi : X.N[i]? = some x := by rfl) (hx : Loc X.env.scope x := by first | exact Or.inl rfl | exact Or.inr rfl)
    (hf : X.fn x = true ∨ X.env.scope.names.lookup x = some .local := by exact Or.inl rfl) (hs : swapsWith (.List es pos) (some (.Name x pos')) p2.line X.env = pure false := by rfl) :
    S1 T X ⟨G, none⟩ (.Assign [.Name x pos'] (.List es pos) p2) N R := fun F0 H0 F H σ D s n r2 pins s0 I => by
  refine (ps_set hN hi hx (pe_lst wa) hs hf).run pins s0 σ H D I (h σ F H _ s.env s.gr.sub s.gr.tb fun vs F1 H1 g1 hv => ⟨by rw [hv.length, List.length_map]; exact Nat.le_of_lt (small1000 hl), fun w hw => ?_⟩)
  have s1 := s.grow g1
  have g2 := Gr.newM (o := .lst vs) g1.sub g1.tb hw
  refine n _ hn _ F1 _ ⟨s1.gr.trans g2, s1.env.drop i, w, _, ?_, upd_same, g1.sub.none hw, s1.gr.dm w hw, vs, rfl, hv.al⟩
  have hl := s.env.len
  exact List.getElem?_set_self (by rw [hl]; exact hiG)
theorem s1_app {α : Type} {r : α → Pd} {xs : List α} {x0 : α} {x : Str} {p1 apos cpos : Pos} (j : Nat) (h : EE T X G e (r x0)) (hl : xs.length ≤ 999) (hn : N ⟨G, some (j, mLst r (xs ++ [x0]))⟩) (hN : X.N[j]? = some x := by rfl)
    (hv : Vis X.env.scope x := by first | exact Or.inl rfl | exact Or.inr (Or.inl rfl) | exact Or.inr (Or.inr rfl)) (hd : (x == ("__debug__" : Str)) = false := by decide) (hcd : (x == ("__classdict__" : Str)) = false := by decide)
    (hp : PE X (.Call (.Attribute (.Name x p1) "append" apos) [e] [] cpos) (tBM X.K "list" rAppend (tVar j) (tCons (We X e) tNil)) := by exact pe_bm PySem.F.plainAttrs_list PySem.F.slot_list_append PySem.F.type_list_append mt_append (pv _) (pa_cons we pa_nil))
    (hs : swapsWith (.Call (.Attribute (.Name x p1) "append" apos) [e] [] cpos) none pos.line X.env = pure false := by rfl) :
    S1 T X ⟨G, some (j, mLst r xs)⟩ (.Expr (.Call (.Attribute (.Name x p1) "append" apos) [e] [] cpos) pos) N R := fun F0 H0 F H σ D s n r2 pins s0 I => by
  obtain ⟨l, o, h1, h2, h3, h4, vs, h5, h6⟩ := s.mo
  subst h5
  refine (ps_expr hp hs).run pins s0 σ H D I ?_
  refine ⟨.ref l, h1, .inl ⟨rfl, _, SqL.of h2⟩, h σ F H _ s.env s.gr.sub s.gr.tb fun v F1 H1 g1 hv => ?_⟩
  have s1 := s.grow g1
  obtain ⟨l', o', k1, k2, k3, k4, vs', k5, k6⟩ := s1.mo
  rw [h1] at k1
  cases k1
  subst k5
  have hvl := k6.length
  refine ⟨l, vs', v, rfl, rfl, k2, small1000 (by omega), ?_⟩
  exact n _ hn _ F1 _ ⟨Gr.mut s1.gr k4 k3 k2 lst_tbl (fun _ _ z => by unfold CodeO at z; cases z), s1.env, l, _, h1, upd_same, k3, k4, _, rfl, k6.append ⟨hv, True.intro⟩⟩

/-! n += e -/
theorem s1_inc {x : Str} {i0 j0 : Int} (i : Nat) (hg : a.G[i]? = some (some (rInt i0))) (h : EE T X a.G e (rInt j0)) (hn : N ⟨a.G.set i (some (rInt (i0 + j0))), a.m⟩) (hm : ∀ j M, a.m = some (j, M) → i ≠ j) (hN : X.N.Nodup) (hi : X.N[i]? = some x := by rfl) (hx : Loc X.env.scope x := by first | exact Or.inl rfl | exact Or.inr rfl)
    (hf : X.fn x = true ∨ X.env.scope.names.lookup x = some .local := by exact Or.inl rfl) : S1 T X a (.AugAssign (.Name x pos') .Add e pos) N R := fun F0 H0 F H σ D s n r pins s0 I => by
  obtain ⟨w, h1, h2⟩ := s.env.get hg
  refine (ps_aug hN hi hx we ip_add hf).run pins s0 σ H D I ⟨w, h1, h σ F H _ s.env s.gr.sub s.gr.tb fun v F1 H1 g1 hv => ⟨i0, j0, h2, hv, ?_⟩⟩
  have s1 := s.grow g1
  refine n _ hn _ F1 H1 ⟨s1.gr, s1.env.set (p := rInt (i0 + j0)) rfl i, ?_⟩
  have m := s1.mo
  obtain ⟨G, am⟩ := a
  match am, m, hm with
  | none, _, _ => exact True.intro
  | some (j, M), ⟨l, o, h1, h2⟩, hm => exact ⟨l, o, by rw [List.getElem?_set_ne (hm j M rfl)]; exact h1, h2⟩

/-! targets -/
/-- what a target makes of the slots; ws: those that it stores -/
def TG1 (T : List (Addr × Str)) (X : Cx) (tg : Expr) (ws : List Nat) (p : Pd) (G G' : Gm) : Prop := ∀ (σ : L2.St) (F H : Hp) (v : V) (Q : L2.St → Hp → Prop), EnvOk F G σ → p.p F v → Sub F H → Tabs T H →
  (∀ σ', EnvOk F G' σ' → (∀ j, j ∉ ws → σ'[j]? = σ[j]?) → Q σ' H) → Wg X tg v σ H Q
theorem tg_name (i : Nat) {x : Str} (hN : X.N.Nodup) (hi : X.N[i]? = some x := by rfl) (hx : Loc X.env.scope x := by first | exact Or.inl rfl | exact Or.inr rfl) (hf : X.fn x = true ∨ X.env.scope.names.lookup x = some .local := by exact Or.inl rfl) : TG1 T X (.Name x pos) [i] p G (G.set i (some p)) := fun σ F H v Q g hv s t k pins s0 u I r =>
  (pg_name hN hi hx hf).run pins s0 σ H v u Q I r (k _ (g.set hv i) fun j hj => List.getElem?_set_ne fun z => hj (by rw [z]; exact List.mem_singleton_self _))
theorem tg_pair {α β : Type} {r : α → Pd} {u : β → Pd} {z : α × β} {t1 t2 : Expr} {k : Nat} {w1 w2 : List Nat} {G1 G2 : Gm} (hc : X.calm = true) (h1 : TG1 T X t1 w1 (r z.1) G G1) (h2 : TG1 T X t2 w2 (u z.2) G1 G2)
    (e1 : (assignEach [t1, t2] X.env).map (·.2) = assign t1 X.env :: (assignEach [t2] X.env).map (·.2) := by rfl) (e2 : (assignEach [t2] X.env).map (·.2) = assign t2 X.env :: (assignEach [] X.env).map (·.2) := by rfl)
    (hn : (assignEach [t1, t2] X.env).length = 2 := by rfl) (hst : (assignEach [t1, t2] X.env).findIdx? (·.1) = none := by rfl) : TG1 T X (.Tuple [t1, t2] k pos) (w1 ++ w2) (rPr r u z) G G2 := fun σ F H v Q g hv s t kq pins s0 w I rr => by
  refine (pg_tup (n := 2) hc (pgs_cons wg (pgs_cons wg pgs_nil e2) e1) hn hst).run pins s0 σ H v w Q I rr ?_
  obtain ⟨l, v1, v2, q1, q2, q3, q4⟩ := hv
  refine ⟨l, [v1, v2], q1, SqT.of (s.at q2), rfl, v1, [v2], rfl, h1 σ F H v1 _ g q3 s t fun σ1 g1 k1 => ⟨v2, [], rfl, h2 σ1 F H v2 _ g1 q4 s t fun σ2 g2 k2 => ⟨rfl, kq σ2 g2 fun j hj => ?_⟩⟩⟩
  rw [k2 j fun z => hj (List.mem_append_right _ z), k1 j fun z => hj (List.mem_append_left _ z)]
theorem tg_three {p1 p2 p3 : Pd} {t1 t2 t3 : Expr} {k : Nat} {w1 w2 w3 : List Nat} {G1 G2 G3 : Gm} (hc : X.calm = true) (h1 : TG1 T X t1 w1 p1 G G1) (h2 : TG1 T X t2 w2 p2 G1 G2) (h3 : TG1 T X t3 w3 p3 G2 G3)
    (e1 : (assignEach [t1, t2, t3] X.env).map (·.2) = assign t1 X.env :: (assignEach [t2, t3] X.env).map (·.2) := by rfl) (e2 : (assignEach [t2, t3] X.env).map (·.2) = assign t2 X.env :: (assignEach [t3] X.env).map (·.2) := by rfl) (e3 : (assignEach [t3] X.env).map (·.2) = assign t3 X.env :: (assignEach [] X.env).map (·.2) := by rfl)
    (hn : (assignEach [t1, t2, t3] X.env).length = 3 := by rfl) (hst : (assignEach [t1, t2, t3] X.env).findIdx? (·.1) = none := by rfl) : TG1 T X (.Tuple [t1, t2, t3] k pos) (w1 ++ (w2 ++ w3)) (rTuP [p1, p2, p3]) G G3 := fun σ F H v Q g hv s t kq pins s0 w I rr => by
  refine (pg_tup (n := 3) hc (pgs_cons wg (pgs_cons wg (pgs_cons wg pgs_nil e3) e2) e1) hn hst).run pins s0 σ H v w Q I rr ?_
  obtain ⟨l, vs, q1, q2, q3⟩ := hv
  match vs, q3 with
  | [v1, v2, v3], ⟨q3, q4, q5, _⟩ =>
    refine ⟨l, [v1, v2, v3], q1, SqT.of (s.at q2), rfl, v1, [v2, v3], rfl, h1 σ F H v1 _ g q3 s t fun σ1 g1 k1 => ⟨v2, [v3], rfl, h2 σ1 F H v2 _ g1 q4 s t fun σ2 g2 k2 => ⟨v3, [], rfl, h3 σ2 F H v3 _ g2 q5 s t fun σ3 g3 k3 => ⟨rfl, kq σ3 g3 fun j hj => ?_⟩⟩⟩⟩
    rw [k3 j fun z => hj (List.mem_append_right _ (List.mem_append_right _ z)), k2 j fun z => hj (List.mem_append_right _ (List.mem_append_left _ z)), k1 j fun z => hj (List.mem_append_left _ z)]
theorem Sat.store {ws : List Nat} {G' : Gm} {σ' : L2.St} (s : Sat T F0 H0 a σ F H) (g : EnvOk F G' σ') (k : ∀ j, j ∉ ws → σ'[j]? = σ[j]?) (hm : ∀ j M, a.m = some (j, M) → j ∉ ws) : Sat T F0 H0 ⟨G', a.m⟩ σ' F H := by
  refine ⟨s.gr, g, ?_⟩
  have m := s.mo
  obtain ⟨G, am⟩ := a
  match am, m, hm with
  | none, _, _ => exact True.intro
  | some (j, M), ⟨l, o, h1, h2⟩, hm => exact ⟨l, o, by rw [k j (hm j M rfl)]; exact h1, h2⟩
theorem s1_unp {ws : List Nat} {G' : Gm} (h : EE T X a.G e p) (ht : TG1 T X tg ws p a.G G') (hn : N ⟨G', a.m⟩) (hm : ∀ j M, a.m = some (j, M) → j ∉ ws) (hs : swapsWithSole [tg] e pos.line X.env = pure false := by rfl) (hw : swappedStores [tg] e X.env = pure none := by rfl)
    (h1 : (assignEach [tg] X.env).map (·.2) = [assign tg X.env] := by rfl) : S1 T X a (.Assign [tg] e pos) N R := fun F0 H0 F H σ D s n r pins s0 I => by
  refine (ps_asg we wg hs hw h1).run pins s0 σ H D I (h σ F H _ s.env s.gr.sub s.gr.tb fun v F1 H1 g1 hv => ?_)
  have s1 := s.grow g1
  exact ht σ F1 H1 v _ s1.env hv g1.sub g1.tb fun σ' g' k' => n _ hn σ' F1 H1 (s1.store g' k' hm)

/-! for, while -/
/-- as if the def began here -/
theorem Sat.rebase (s : Sat T F0 H0 a σ F H) : ∃ Hn, Gr T F0 H0 F Hn ∧ Sat T F Hn a σ F H := by
  obtain ⟨G, am⟩ := a
  have m := s.mo
  match am, m with
  | none, _ => exact ⟨H, s.gr, Gr.refl s.gr.sub s.gr.tb, s.env, True.intro⟩
  | some (j, M), ⟨l, o, h1, h2, h3, h4, h5⟩ =>
    have n := M.tb _ _ h5
    have at_ : ∀ b, b ≠ l → (fun b => if b = l then none else H b) b = H b := fun b hb => if_neg hb
    have atl : (fun b => if b = l then none else H b) l = none := if_pos rfl
    have tn : Tabs T (fun b => if b = l then none else H b) := fun q hq => by
      obtain ⟨ps, e1, e2, e3⟩ := s.gr.tb q hq
      have nl : ∀ b u, H b = some u → o ≠ u → b ≠ l := fun b u e z hb => by
        rw [hb, h2] at e
        exact z (Option.some.inj e)
      refine ⟨ps, (at_ _ (nl _ _ e1 (n.1 ps))).trans e1, e2, fun pos cv hc => ?_⟩
      obtain ⟨c, c1, c2⟩ := e3 pos cv hc
      exact ⟨c, c1, (at_ _ (nl _ _ c2 (n.2 _ _))).trans c2⟩
    refine ⟨fun b => if b = l then none else H b, ⟨s.gr.fs, fun b u e q => ?_, fun b e => ?_, fun b u e => ?_, s.gr.nw, s.gr.tb0, tn⟩, ⟨fun _ _ h => h, fun b u e q => ?_, fun b e => ?_, s.gr.sub, fun b u e => .inl e, tn, s.gr.tb⟩, s.env, l, o, h1, h2, h3, atl, h5⟩
    · exact (at_ b (ne_of_none e h4)).trans (s.gr.hk b u e q)
    · by_cases hb : b = l
      · rw [hb]
        exact h4
      · exact s.gr.dm b ((at_ b hb).symm.trans e)
    · exact ⟨(at_ b (ne_of_none e h3)).trans (s.gr.sub.at e), (s.gr.sub b u e).2⟩
    · by_cases hb : b = l
      · subst hb
        have z := atl.symm.trans e
        cases z
      · exact (at_ b hb).symm.trans e
    · by_cases hb : b = l
      · rw [hb]
        exact atl
      · exact (at_ b hb).trans e
theorem Sat.onto {Fb Hn : Hp} (g : Gr T F0 H0 Fb Hn) (s : Sat T Fb Hn a σ F H) : Sat T F0 H0 a σ F H := by
  refine ⟨g.trans s.gr, s.env, ?_⟩
  have m := s.mo
  obtain ⟨G, am⟩ := a
  match am, m with
  | none, _ => exact True.intro
  | some (j, M), ⟨l, o, h1, h2, h3, h4, h5⟩ => exact ⟨l, o, h1, h2, h3, g.dm l h4, h5⟩
theorem s1_for {ps : List Pd} {ws : List Nat} {body : List Stmt} (hp : PassesOwn (model X.prog X.w) X.A X.env X.xe) (hc : X.calm = true) (hi : EI T X a.G tg it ps) (Iv : Nat → As) (h0 : AImp a (Iv 0))
    (hm : ∀ i j M, (Iv i).m = some (j, M) → j ∉ ws)
    (hs : ∀ i p, ps[i]? = some p → ∃ G', TG1 T X tg ws p (Iv i).G G' ∧ SS T X ⟨G', (Iv i).m⟩ body (fun a' => AImp a' (Iv (i + 1))) R)
    (hn : N (Iv ps.length)) (hf : ∀ x, foldedSetIterable it X.env x = pure x := by intro _; rfl) : S1 T X a (.For tg it body [] pos) N R := fun F0 H0 F H σ D s n r pins s0 I => by
  refine (ps_for hp hc wi wg wss hf).run pins s0 σ H D I (hi σ F H _ s.env s.gr.sub s.gr.tb fun J Fb Hb Gd Y g1 W hGd hY => ?_)
  obtain ⟨Hn, gn, sn⟩ := (s.grow g1).rebase
  refine for_it W (fun i σ' H' => ∃ F', Sat T Fb Hn (Iv i) σ' F' H') ⟨Fb, h0.sat sn⟩ ?_ ?_ ?_
  · rintro i σ' H' _ ⟨F', s'⟩
    exact hGd H' fun b o e => s'.gr.sub.at (s'.gr.fs b o e)
  · rintro i x σ' H2 H3 hil ⟨F', s'⟩ y
    obtain ⟨p, F3, hpi, g3, px⟩ := hY i F' H2 x H3 y hil s'.gr.fs s'.gr.sub s'.gr.tb
    obtain ⟨G', ht, hb⟩ := hs i p hpi
    have s3 := s'.grow g3
    refine ht σ' F3 H3 x _ s3.env px g3.sub g3.tb fun σ4 e4 k4 => ?_
    have s4 := s3.store e4 k4 (hm i)
    exact hb Fb Hn F3 H3 σ4 _ s4 (fun a' ha σ5 F5 H5 s5 => ⟨F5, ha.sat s5⟩) fun v F5 H5 g5 hv => r v F5 H5 (gn.trans g5) hv
  · rintro σ' H' ⟨F', s'⟩
    exact n _ hn σ' F' H' (s'.onto gn)
/-- over a list (or a tuple), its item in the slot n -/
theorem s1_forX {α : Type} {r : α → Pd} {xs : List α} {body : List Stmt} {x : Str} {px : Pos} (n : Nat) (hp : PassesOwn (model X.prog X.w) X.A X.env X.xe) (hc : X.calm = true) (hi : EI T X a.G (.Name x px) it (xs.map r)) (Iv : Nat → As) (h0 : AImp a (Iv 0))
    (hm : ∀ i j M, (Iv i).m = some (j, M) → j ≠ n) (hN : X.N.Nodup)
    (hs : ∀ i z, xs[i]? = some z → SS T X ⟨(Iv i).G.set n (some (r z)), (Iv i).m⟩ body (fun a' => AImp a' (Iv (i + 1))) R)
    (hn : N (Iv xs.length)) (hx : X.N[n]? = some x := by rfl) (hl : Loc X.env.scope x := by first | exact Or.inl rfl | exact Or.inr rfl) (hf : ∀ x, foldedSetIterable it X.env x = pure x := by intro _; rfl) (hfn : X.fn x = true ∨ X.env.scope.names.lookup x = some .local := by exact Or.inl rfl) : S1 T X a (.For (.Name x px) it body [] pos) N R :=
  s1_for hp hc hi Iv h0 (fun i j M e z => hm i j M e (List.mem_singleton.mp z)) (fun i p hpi => by
    rw [List.getElem?_map] at hpi
    cases e : xs[i]? with
    | none =>
      rw [e] at hpi
      cases hpi
    | some z =>
      rw [e] at hpi
      have ep : r z = p := Option.some.inj hpi
      subst ep
      exact ⟨_, tg_name n hN hx hl hfn, hs i z e⟩) (by rw [List.length_map]; exact hn) hf
/-- while: Iv by a datum, μ falls -/
theorem s1_while {ι : Type} {body : List Stmt} {k : ι → Bool} (hp : PassesOwn (model X.prog X.w) X.A X.env X.xe) (Iv : ι → As) (μ : ι → Nat) (i0 : ι) (h0 : AImp a (Iv i0))
    (ht : ∀ i, ET T X (Iv i).rd c (k i)) (hs : ∀ i, k i = true → SS T X (Iv i) body (fun a' => ∃ i', μ i' < μ i ∧ AImp a' (Iv i')) R) (hn : ∀ i, k i = false → N (Iv i)) : S1 T X a (.While c body [] pos) N R := fun F0 H0 F H σ D s n r pins s0 I => by
  refine (ps_while hp wt wss).run pins s0 σ H D I ?_
  refine ⟨fun m σ' H' => ∃ i F', m = μ i ∧ Sat T F0 H0 (Iv i) σ' F' H', ⟨_, i0, F, rfl, h0.sat s⟩, ?_⟩
  rintro m σ' H' ⟨i, F', rfl, s'⟩
  obtain ⟨F1, g1, e1, _, back⟩ := s'.read
  refine ht i σ' F1 H' _ e1 g1.sub g1.tb fun F2 H2 g2 => ?_
  have s2 := back g2
  cases hk : k i with
  | true =>
    rw [if_pos rfl]
    refine ⟨fun σ3 H3 => ∃ i' F3, μ i' < μ i ∧ Sat T F0 H0 (Iv i') σ3 F3 H3, fun σ3 H3 ⟨i', F3, q1, q2⟩ => ⟨_, q1, i', F3, rfl, q2⟩, ?_⟩
    exact hs i hk F0 H0 F' H2 σ' _ s2 (fun a' ⟨i', q1, q2⟩ σ3 F3 H3 s3 => ⟨i', F3, q1, q2.sat s3⟩) r
  | false =>
    rw [if_neg Bool.false_ne_true]
    exact n _ (hn i hk) σ' F' H2 s2
end
end FS
namespace FS
open PySem PySem.Spec PyProof.Rows L2 LamX
/-- an empty set, new -/
abbrev newSet (w : World) : Obj := { cls := .type "set", dict := none, data := .set #[] 0 (.fresh 0 0 (!w.params.followText "set-order")) }
section
variable {P : Program} {w : World} {A : Around} {E : Value → Shared → Prop} {s : Shared}
/-- set(l), l a list of ints -/
theorem set_of_list {l : Addr} {its : Array Value} (ns : List Int) {Q : Value → Shared → Prop} (h0 : A.handled = none) (hl : s.heap.IsList l its) (hit : IntsAre its.toList ns) (hb : ns.length + 1 < scanBound)
    (h : ∀ (h' : Heap) (tk c : Nat), SetR w h' s.heap.objs.size (fun j => decide (j ∈ ns)) c → c ≤ ns.length → (∀ b o, s.heap.get? b = some o → h'.get? b = some o) → Q (.ref s.heap.objs.size) { s with heap := h', toks := tk }) :
    wpAny (model P w) A (call (.type "set") [.ref l]) Q E s := by
  have sz : its.size = ns.length := by
    have q := IntsAre.length hit
    rwa [Array.length_toList] at q
  obtain ⟨c0, t0, m0⟩ := F.called_set.mro
  have m1 := F.called_set.made
  have m2 := F.called_set.sub
  refine wpAny_call (codeAny_of_tree (show wpAny _ _ (callAny (.type "set") _) _ _ _ from ?_))
  refine wpAny_pure ⟨Code.quiet_builtin _ (by decide +kernel), codeAny_builtin F.entry_type_call ?_⟩
  rw [Around.under_plain (weight_type_call_type "set" [.ref l] []) rfl]
  have k1 := F.called_set.notType
  have k2 := F.called_set.canCreate
  have k3 := F.typeCall_set_1 (.ref l)
  repeat (any_goals (first | assumption | wp_step))
  refine codeAny_mono (code_set_led1 (.ref l) (E := E) (Q₁ := fun obj s1 => obj = .ref s.heap.objs.size ∧ s1 = { s with heap := s.heap.push (newSet w) }) ⟨rfl, rfl⟩) fun r s1 hr => ?_
  match r, hr with
  | .error e, hr => exact hr
  | .ok (.ret obj), hr =>
    obtain ⟨e1, e2⟩ := hr
    subst e1 e2
    have o1 : (s.heap.push (newSet w)).get? s.heap.objs.size = some (newSet w) := Heap.get?_push_size _ rfl
    have o2 : Shared.TypeIs { s with heap := s.heap.push (newSet w) } (.ref s.heap.objs.size) "set" := ⟨_, o1, rfl⟩
    have i1 := F.called_set.init.lookup
    have i2 := F.called_set.init.bind (.ref s.heap.objs.size)
    repeat (any_goals (first | assumption | wp_step))
    refine codeAny_mono (codeAny_call_builtin (R := wants (fun r s2 => r = .none ∧ ∃ h' tk c, s2 = { s with heap := h', toks := tk } ∧ SetR w h' s.heap.objs.size (fun j => decide (j ∈ ns)) c ∧ c ≤ ns.length ∧
        (∀ b o, s.heap.get? b = some o → h'.get? b = some o)) E) F.called_set.init.plain F.entry_set_init (check_set_init_1 o2 ?_)) fun r2 s2 hr2 => ?_
    · obtain ⟨⟨oc, od, ot, osl⟩, q1, q2, q3, q4⟩ := hl
      simp only at q2 q4
      subst q2; subst q4
      have q5 : (s.heap.push (newSet w)).get? l = some { cls := .type "list", dict := od, data := .seq its q3, slots := osl } := Heap.get?_push_of_some _ q1
      have f1 := F.sub_list_set
      have f2 := F.sub_list_frozenset
      have f3 : (Value.type "list" == Value.type "dict") = false := by decide
      have q6 : (s.heap.push (newSet w)).IsList l its := ⟨_, q5, rfl, q3, rfl⟩
      unfold Builtin.«set.__init__» noKeywords Builtin.Frozenset.updateFrom
      generalize hit2 : pyIter = pit
      wp_walk
      subst hit2
      refine wpAny_pyIter_list q6 (wpAny_bind (wpAny_runValue ?_))
      have lS : l < s.heap.objs.size := Heap.lt_size q1
      have h3 : A.in1.in1.in1.handled = none := by simp [h0]
      have sz1 : (s.heap.push (newSet w)).objs.size = s.heap.objs.size + 1 := Heap.size_push ..
      have nI : l ≠ (s.heap.push (newSet w)).objs.size := by
        rw [sz1]
        exact Nat.ne_of_lt (Nat.lt_succ_of_lt lS)
      have nS : s.heap.objs.size ∉ [(s.heap.push (newSet w)).objs.size, l] := by
        rw [sz1]
        simp only [List.mem_cons, List.not_mem_nil, or_false, not_or]
        exact ⟨Nat.ne_of_lt (Nat.lt_succ_self _), Nat.ne_of_gt lS⟩
      have vals : ∀ (i : Nat) (v : Value), its[i]? = some v → ∃ k t, ns[i]? = some k ∧ v = .int k t := fun i v hv => by
        have hi : i < ns.length := sz ▸ (Array.getElem?_eq_some_iff.mp hv).1
        obtain ⟨t, e⟩ := PyProof.Rows.IntsAre.int_at hit i v (by rw [Array.getElem?_toList]; exact hv)
        refine ⟨ns[i], t, List.getElem?_eq_getElem hi, ?_⟩
        rw [e, List.getD_eq_getElem?_getD, List.getElem?_eq_getElem hi] <;> rfl
      refine set_update_ints ((Walks.list h3 _ l nI its).toS) s.heap.objs.size nS ns sz hb vals (its.size - 0) 0 _ (by omega) (Nat.zero_le _) ⟨⟨_, Heap.get?_push_size _ rfl, rfl, rfl⟩, (q6.push _)⟩ ?g1 ?g2
      case g1 =>
        have z : ((s.heap.push (newSet w)).push { cls := .type "list_iterator", data := .fields #[.ref l, .int 0 0] }).get? s.heap.objs.size = some (newSet w) := Heap.get?_push_of_some _ o1
        exact ⟨0, Nat.le_refl 0, setR_new_at z⟩
      case g2 =>
        intro s' c' hm hc' hS'
        obtain ⟨h', g2, d', tk', os'⟩ := s'
        obtain rfl : g2 = s.gens := hm.gens
        obtain rfl : d' = s.drawn := hm.drawn
        obtain rfl : os' = s.os := hm.os
        refine wpAny_pure (show wpAny _ _ (ret Value.none) _ _ _ from ?_)
        rw [sz] at hc'
        refine wpAny_pure ⟨rfl, h', tk', c', rfl, hS', hc', fun b o e => ?_⟩
        have b0 : b < s.heap.objs.size := Heap.lt_size e
        have b1 : b ≠ (s.heap.push (newSet w)).objs.size := by
          rw [sz1]
          exact Nat.ne_of_lt (Nat.lt_succ_of_lt b0)
        refine hm.heap b o ?_ (Heap.get?_push_of_some _ (Heap.get?_push_of_some _ e))
        simp only [List.mem_cons, List.not_mem_nil, or_false, not_or]
        exact ⟨Nat.ne_of_lt b0, b1⟩
    · match r2, hr2 with
      | .error e, hr2 => exact hr2
      | .ok (.ret r), hr2 =>
        obtain ⟨e1, h', tk, c', e2, hS', hc', hk'⟩ := hr2
        subst e1 e2
        repeat (any_goals (first | assumption | wp_step))
        exact h _ _ _ hS' hc' hk'
      | .ok .next, hr2 => exact hr2.elim
      | .ok .brk, hr2 => exact hr2.elim
      | .ok .cont, hr2 => exact hr2.elim
  | .ok .next, hr => exact hr.elim
  | .ok .brk, hr => exact hr.elim
  | .ok .cont, hr => exact hr.elim
end
section
variable {X : Cx}
def rSetI (K : PySem.W.Frag) (w : World) : List V → Hp → VK → Prop := fun xs H Q => ∃ (p : Addr) (ns : List Int), xs = [.ref p] ∧ (SqL K H p (ns.map V.int) ∨ SqT K H p (ns.map V.int)) ∧ ns.length ≤ 60 ∧
  ∀ a c, H a = none → c ≤ ns.length → Q (.ref a) (upd H a (SetO w a (fun j => decide (j ∈ ns)) c))
/-- set(xs) of a list or a tuple of ints -/
theorem cr_setI (hc : X.calm = true) : CallR X (.type "set") (rSetI X.K X.w) := by
  intro pins s σ H xs us Q I r h
  obtain ⟨p, ns, rfl, hs, hl, q⟩ := h
  rw [Vals.ref1 r]
  have hb : ns.length + 1 < scanBound := by unfold scanBound; omega
  have fin : ∀ (h' : Heap) (tk c : Nat), SetR X.w h' s.heap.objs.size (fun j => decide (j ∈ ns)) c → c ≤ ns.length → (∀ b o, s.heap.get? b = some o → h'.get? b = some o) → EP X pins σ Q (.ref s.heap.objs.size) { s with heap := h', toks := tk } := fun h' tk c R hc k =>
    ⟨.ref s.heap.objs.size, _, I.laid (a := s.heap.objs.size) (t' := tk) k (Nat.le_refl _) (setO_new R), rfl, q _ c (I.hok.fresh (Nat.le_refl _)) hc⟩
  rcases hs with hs | hs
  · obtain ⟨its, rv, hL, hz⟩ := I.list hs
    exact set_of_list ns (I.ok.hd hc) hL.isList (by simpa using rv.ints) hb fin
  · obtain ⟨its, rv, hT, hz⟩ := I.tuple hs
    exact call_set_tupI ns (I.ok.hd hc) (show s.heap.IsTuple p its.toArray from hT) (by simpa using rv.ints) hb fin
end
end FS
/-! ### sets of columns: sorted lists of ints; plain mathematics -/
namespace FM
abbrev Srt (a : List Int) : Prop := a.Pairwise (· < ·)
def insS (x : Int) : List Int → List Int
  | [] => [x]
  | y :: r => if x < y then x :: y :: r else if x = y then y :: r else y :: insS x r
def mkSet (ns : List Int) : List Int := ns.foldr insS []
theorem mem_insS {x c : Int} : ∀ {l : List Int}, c ∈ insS x l ↔ c = x ∨ c ∈ l
  | [] => by simp [insS]
  | y :: r => by
    unfold insS
    split
    · simp
    · split
      · rename_i h
        subst h
        simp
      · rw [List.mem_cons, mem_insS (l := r), List.mem_cons]
        constructor
        · rintro (h | h | h)
          · exact .inr (.inl h)
          · exact .inl h
          · exact .inr (.inr h)
        · rintro (h | h | h)
          · exact .inr (.inl h)
          · exact .inl h
          · exact .inr (.inr h)
theorem srt_insS {x : Int} : ∀ {l : List Int}, Srt l → Srt (insS x l)
  | [], _ => by simp [insS]
  | y :: r, h => by
    obtain ⟨h1, h2⟩ := List.pairwise_cons.mp h
    unfold insS
    split
    · rename_i hx
      refine List.pairwise_cons.mpr ⟨fun z hz => ?_, h⟩
      rcases List.mem_cons.mp hz with e | e
      · rw [e]; exact hx
      · exact Int.lt_trans hx (h1 z e)
    · split
      · exact h
      · rename_i hx hy
        refine List.pairwise_cons.mpr ⟨fun z hz => ?_, srt_insS h2⟩
        rcases mem_insS.mp hz with e | e
        · omega
        · exact h1 z e
theorem mem_mkSet {c : Int} : ∀ {l : List Int}, c ∈ mkSet l ↔ c ∈ l
  | [] => by simp [mkSet]
  | x :: r => by
    show c ∈ insS x (mkSet r) ↔ c ∈ x :: r
    rw [mem_insS, mem_mkSet (l := r), List.mem_cons]
theorem srt_mkSet : ∀ l : List Int, Srt (mkSet l)
  | [] => List.Pairwise.nil
  | x :: r => srt_insS (srt_mkSet r)
theorem srt_ext : ∀ {a b : List Int}, Srt a → Srt b → (∀ c, c ∈ a ↔ c ∈ b) → a = b
  | [], [], _, _, _ => rfl
  | [], y :: r, _, _, h => absurd ((h y).mpr List.mem_cons_self) (by simp)
  | x :: r, [], _, _, h => absurd ((h x).mp List.mem_cons_self) (by simp)
  | x :: r, y :: s, ha, hb, h => by
    obtain ⟨a1, a2⟩ := List.pairwise_cons.mp ha
    obtain ⟨b1, b2⟩ := List.pairwise_cons.mp hb
    have e : x = y := by
      rcases List.mem_cons.mp ((h x).mp List.mem_cons_self) with e | e
      · exact e
      · rcases List.mem_cons.mp ((h y).mpr List.mem_cons_self) with e2 | e2
        · exact e2.symm
        · have := b1 x e
          have := a1 y e2
          omega
    subst e
    have : r = s := srt_ext a2 b2 fun c => by
      constructor
      · intro hc
        rcases List.mem_cons.mp ((h c).mp (List.mem_cons_of_mem _ hc)) with e | e
        · have := a1 c hc
          omega
        · exact e
      · intro hc
        rcases List.mem_cons.mp ((h c).mpr (List.mem_cons_of_mem _ hc)) with e | e
        · have := b1 c hc
          omega
        · exact e
    rw [this]
theorem mkSet_of {a ns : List Int} (ha : Srt a) (h : ∀ c, c ∈ a ↔ c ∈ ns) : a = mkSet ns := srt_ext ha (srt_mkSet ns) fun c => (h c).trans mem_mkSet.symm
theorem mkSet_self {a : List Int} (ha : Srt a) : mkSet a = a := (mkSet_of ha fun _ => Iff.rfl).symm
theorem len_insS (x : Int) : ∀ l : List Int, (insS x l).length ≤ l.length + 1
  | [] => by simp [insS]
  | y :: r => by
    unfold insS
    split
    · simp
    · split
      · simp
      · have := len_insS x r
        simp
        omega
theorem len_mkSet : ∀ l : List Int, (mkSet l).length ≤ l.length
  | [] => Nat.le_refl _
  | x :: r => by
    have h1 := len_insS x (mkSet r)
    have h2 := len_mkSet r
    show (insS x (mkSet r)).length ≤ r.length + 1
    omega
def met (a b : List Int) : List Int := a.filter fun c => decide (c ∈ b)
def less (a b : List Int) : List Int := a.filter fun c => !decide (c ∈ b)
def within (a b : List Int) : Bool := a.all fun c => decide (c ∈ b)
def uni (a b : List Int) : List Int := mkSet (a ++ b)
end FM
namespace FM
/-! ### sets within 0 .. 4, closures -/
def S5 (a : List Int) : Prop := Srt a ∧ ∀ c ∈ a, 0 ≤ c ∧ c < 5
abbrev Row := List Int × List Int
def Rw (D : List Row) : Prop := ∀ p ∈ D, S5 p.1 ∧ S5 p.2
theorem srt_len : ∀ {a : List Int} {lo hi : Int}, Srt a → (∀ c ∈ a, lo ≤ c ∧ c < hi) → (a.length : Int) ≤ if lo ≤ hi then hi - lo else 0
  | [], lo, hi, _, _ => by simp only [List.length_nil]; split <;> omega
  | x :: r, lo, hi, h, b => by
    obtain ⟨h1, h2⟩ := List.pairwise_cons.mp h
    have hx := b x List.mem_cons_self
    have ih := srt_len (lo := x + 1) (hi := hi) h2 fun c hc => ⟨h1 c hc, (b c (List.mem_cons_of_mem _ hc)).2⟩
    rw [List.length_cons]
    split at ih <;> split <;> omega
theorem S5.len {a : List Int} (h : S5 a) : a.length ≤ 5 := by
  have q := srt_len h.1 h.2
  simp at q
  omega
theorem S5.len60 {a : List Int} (h : S5 a) : a.length ≤ 60 := by have := h.len; omega
theorem s5_nil : S5 [] := ⟨List.Pairwise.nil, fun _ h => by simp at h⟩
theorem S5.filter {a : List Int} (h : S5 a) (p : Int → Bool) : S5 (a.filter p) := ⟨h.1.filter p, fun c hc => h.2 c (List.mem_filter.mp hc).1⟩
theorem S5.met {a b : List Int} (h : S5 a) : S5 (met a b) := h.filter _
theorem S5.less {a b : List Int} (h : S5 a) : S5 (less a b) := h.filter _
theorem S5.mk {ns : List Int} (h : ∀ c ∈ ns, 0 ≤ c ∧ c < 5) : S5 (mkSet ns) := ⟨srt_mkSet ns, fun c hc => h c (mem_mkSet.mp hc)⟩
theorem S5.uni {a b : List Int} (ha : S5 a) (hb : S5 b) : S5 (uni a b) := S5.mk fun c hc => (List.mem_append.mp hc).elim (ha.2 c) (hb.2 c)
theorem mem_met {a b : List Int} {c : Int} : c ∈ met a b ↔ c ∈ a ∧ c ∈ b := by simp [met]
theorem mem_less {a b : List Int} {c : Int} : c ∈ less a b ↔ c ∈ a ∧ c ∉ b := by simp [less]
theorem mem_uni {a b : List Int} {c : Int} : c ∈ uni a b ↔ c ∈ a ∨ c ∈ b := by simp [uni, mem_mkSet]
theorem within_iff {a b : List Int} : within a b = true ↔ ∀ c ∈ a, c ∈ b := by simp [within, List.all_eq_true]
theorem within_false {a b : List Int} : within a b = false ↔ ¬ ∀ c ∈ a, c ∈ b := by rw [← within_iff, Bool.not_eq_true]
theorem within_refl (a : List Int) : within a a = true := within_iff.mpr fun _ h => h
theorem S5.one {c : Int} (h : 0 ≤ c ∧ c < 5) : S5 [c] := ⟨List.pairwise_singleton _ _, fun d hd => by rw [List.mem_singleton.mp hd]; exact h⟩
/-- a sorted set within another one and as long is it -/
theorem srt_sub_len : ∀ {a b : List Int}, Srt a → Srt b → (∀ c ∈ a, c ∈ b) → a.length ≤ b.length ∧ (b.length ≤ a.length → a = b)
  | [], b, _, _, _ => ⟨by simp, fun h => (List.length_eq_zero_iff.mp (Nat.le_zero.mp h)).symm⟩
  | x :: r, [], _, _, h => absurd (h x List.mem_cons_self) (by simp)
  | x :: r, y :: s, ha, hb, h => by
    obtain ⟨a1, a2⟩ := List.pairwise_cons.mp ha
    obtain ⟨b1, b2⟩ := List.pairwise_cons.mp hb
    rcases Int.lt_trichotomy x y with e | e | e
    · rcases List.mem_cons.mp (h x List.mem_cons_self) with q | q
      · omega
      · have := b1 x q
        omega
    · subst e
      have sub : ∀ c ∈ r, c ∈ s := fun c hc => by
        rcases List.mem_cons.mp (h c (List.mem_cons_of_mem _ hc)) with q | q
        · have := a1 c hc
          omega
        · exact q
      obtain ⟨l1, l2⟩ := srt_sub_len a2 b2 sub
      refine ⟨by simp; omega, fun hl => ?_⟩
      rw [l2 (by simp at hl; omega)]
    · have sub : ∀ c ∈ x :: r, c ∈ s := fun c hc => by
        rcases List.mem_cons.mp (h c hc) with q | q
        · rcases List.mem_cons.mp hc with z | z
          · omega
          · have := a1 c z
            omega
        · exact q
      obtain ⟨l1, l2⟩ := srt_sub_len ha b2 sub
      refine ⟨by simp at l1 ⊢; omega, fun hl => ?_⟩
      simp at hl l1
      omega
def Cld (D : List Row) (S : Int → Prop) : Prop := ∀ p ∈ D, (∀ c ∈ p.1, S c) → ∀ c ∈ p.2, S c
def Clo (D : List Row) (x : List Int) (c : Int) : Prop := ∀ S : Int → Prop, Cld D S → (∀ c ∈ x, S c) → S c
theorem clo_self {D : List Row} {x : List Int} {c : Int} (h : c ∈ x) : Clo D x c := fun _ _ k => k c h
theorem clo_cld (D : List Row) (x : List Int) : Cld D (Clo D x) := fun p hp h c hc S k hx => k p hp (fun c hc => h c hc S k hx) c hc
theorem clo_least {D : List Row} {x : List Int} {S : Int → Prop} (k : Cld D S) (h : ∀ c ∈ x, S c) : ∀ c, Clo D x c → S c := fun c q => q S k h
open Classical in
/-- the closure as a set -/
noncomputable def clo (D : List Row) (x : List Int) : List Int := ([0, 1, 2, 3, 4] : List Int).filter fun c => decide (Clo D x c)
theorem s5_clo (D : List Row) (x : List Int) : S5 (clo D x) := by
  have h : S5 [0, 1, 2, 3, 4] := ⟨by decide, by decide⟩
  exact h.filter _
theorem clo_5 {D : List Row} {x : List Int} {c : Int} (hD : Rw D) (hx : S5 x) (h : Clo D x c) : 0 ≤ c ∧ c < 5 :=
  clo_least (S := fun c => 0 ≤ c ∧ c < 5) (fun p hp _ c hc => (hD p hp).2.2 c hc) hx.2 c h
theorem mem5 {c : Int} (h : 0 ≤ c ∧ c < 5) : c ∈ ([0, 1, 2, 3, 4] : List Int) := by
  have h1 : c = 0 ∨ c = 1 ∨ c = 2 ∨ c = 3 ∨ c = 4 := by omega
  rcases h1 with h | h | h | h | h <;> rw [h] <;> decide
theorem mem_clo {D : List Row} {x : List Int} {c : Int} (hD : Rw D) (hx : S5 x) : c ∈ clo D x ↔ Clo D x c := by
  unfold clo
  rw [List.mem_filter]
  constructor
  · intro h
    simpa using h.2
  · intro h
    exact ⟨mem5 (clo_5 hD hx h), by simpa using h⟩
theorem clo_unique {D : List Row} {x f : List Int} (hD : Rw D) (hx : S5 x) (hf : S5 f) (h1 : ∀ c ∈ x, c ∈ f) (h2 : ∀ c ∈ f, Clo D x c) (h3 : Cld D (· ∈ f)) : f = clo D x :=
  srt_ext hf.1 (s5_clo D x).1 fun c => by
    rw [mem_clo hD hx]
    exact ⟨h2 c, clo_least (S := (· ∈ f)) h3 h1 c⟩
theorem sub_clo {D : List Row} {x : List Int} (hD : Rw D) (hx : S5 x) : ∀ c ∈ x, c ∈ clo D x := fun c h => (mem_clo hD hx).mpr (clo_self h)
theorem clo_closed {D : List Row} {x : List Int} (hD : Rw D) (hx : S5 x) : Cld D (· ∈ clo D x) := fun p hp h c hc =>
  (mem_clo hD hx).mpr (clo_cld D x p hp (fun c hc => (mem_clo hD hx).mp (h c hc)) c hc)
/-- x is closed -/
theorem clo_eq_iff {D : List Row} {x : List Int} (hD : Rw D) (hx : S5 x) : clo D x = x ↔ Cld D (· ∈ x) :=
  ⟨fun h => by have := clo_closed hD hx; rw [h] at this; exact this, fun h => (clo_unique hD hx hx (fun _ h => h) (fun c hc => clo_self hc) h).symm⟩
/-! two lists that say the same -/
def Eqv (D E : List Row) : Prop := ∀ S : Int → Prop, Cld D S ↔ Cld E S
theorem Eqv.refl (D : List Row) : Eqv D D := fun _ => Iff.rfl
theorem Eqv.symm {D E : List Row} (h : Eqv D E) : Eqv E D := fun S => (h S).symm
theorem Eqv.trans {D E F : List Row} (h : Eqv D E) (k : Eqv E F) : Eqv D F := fun S => (h S).trans (k S)
theorem Eqv.Clo {D E : List Row} (h : Eqv D E) {x : List Int} {c : Int} : FM.Clo D x c ↔ FM.Clo E x c := ⟨fun k S hS => k S ((h S).mpr hS), fun k S hS => k S ((h S).mp hS)⟩
theorem Eqv.clo {D E : List Row} (h : Eqv D E) (x : List Int) : FM.clo D x = FM.clo E x := by
  have e : FM.Clo D x = FM.Clo E x := funext fun c => propext h.Clo
  unfold FM.clo
  rw [e]
/-- p follows from D -/
noncomputable def says (D : List Row) (p : Row) : Bool := within p.2 (clo D p.1)
theorem says_iff {D : List Row} {p : Row} (hD : Rw D) (hp : S5 p.1) : says D p = true ↔ ∀ S, Cld D S → (∀ c ∈ p.1, S c) → ∀ c ∈ p.2, S c := by
  unfold says
  rw [within_iff]
  constructor
  · intro h S hS h1 c hc
    exact clo_least hS h1 c ((mem_clo hD hp).mp (h c hc))
  · intro h c hc
    exact (mem_clo hD hp).mpr fun S hS h1 => h S hS h1 c hc
theorem says_of_eqv {D E : List Row} (hD : Rw D) (hE : Rw E) (h : Eqv D E) : ∀ p ∈ E, says D p = true := fun p hp => (says_iff hD (hE p hp).1).mpr fun S hS => (h S).mp hS p hp

/-! ### the program's closure: rounds over the rows -/
def step (z : List Int × Bool) (p : Row) : List Int × Bool := if (within p.1 z.1 && !within p.2 z.1) = true then (uni z.1 p.2, true) else z
structure StepInv (D : List Row) (x f0 : List Int) (E : List Row) (z : List Int × Bool) : Prop where
  s5 : S5 z.1
  sub : ∀ c ∈ f0, c ∈ z.1
  clo : ∀ c ∈ z.1, Clo D x c
  no : z.2 = false → z.1 = f0 ∧ ∀ p ∈ E, (∀ c ∈ p.1, c ∈ f0) → ∀ c ∈ p.2, c ∈ f0
  yes : z.2 = true → f0.length < z.1.length
theorem step_inv {D : List Row} {x f0 : List Int} {E : List Row} {z : List Int × Bool} {p : Row} (hD : Rw D) (hp : p ∈ D) (hf : S5 f0) (h : StepInv D x f0 E z) : StepInv D x f0 (E ++ [p]) (step z p) := by
  unfold step
  split
  · rename_i hc
    simp only [Bool.and_eq_true, Bool.not_eq_true'] at hc
    obtain ⟨h1, h2⟩ := hc
    have w1 := within_iff.mp h1
    have w2 := within_false.mp h2
    have s' : S5 (uni z.1 p.2) := h.s5.uni (hD p hp).2
    have sub' : ∀ c ∈ z.1, c ∈ uni z.1 p.2 := fun c hc => mem_uni.mpr (.inl hc)
    refine ⟨s', fun c hc => sub' c (h.sub c hc), fun c hc => ?_, fun e => absurd e (by simp), fun _ => ?_⟩
    · rcases mem_uni.mp hc with e | e
      · exact h.clo c e
      · exact clo_cld D x p hp (fun c hc => h.clo c (w1 c hc)) c e
    · have q := srt_sub_len h.s5.1 s'.1 sub'
      have q2 := srt_sub_len hf.1 h.s5.1 h.sub
      have ne : ¬ (uni z.1 p.2).length ≤ z.1.length := fun hl => by
        have e := q.2 hl
        refine w2 fun c hc => ?_
        rw [e]
        exact mem_uni.mpr (.inr hc)
      show f0.length < (uni z.1 p.2).length
      omega
  · rename_i hc
    refine ⟨h.s5, h.sub, h.clo, fun e => ?_, h.yes⟩
    obtain ⟨e1, e2⟩ := h.no e
    refine ⟨e1, fun q hq => ?_⟩
    rcases List.mem_append.mp hq with hq | hq
    · exact e2 q hq
    · rw [List.mem_singleton.mp hq]
      intro hl c hc2
      rw [e1] at hc
      have w1 : within p.1 f0 = true := within_iff.mpr hl
      rw [w1] at hc
      simp only [Bool.true_and, Bool.not_eq_true', Bool.not_eq_false] at hc
      exact within_iff.mp hc c hc2
theorem fold_inv {D : List Row} {x f0 : List Int} (hD : Rw D) (hf : S5 f0) : ∀ (L E : List Row) (z : List Int × Bool), (∀ p ∈ L, p ∈ D) → StepInv D x f0 E z → StepInv D x f0 (E ++ L) (L.foldl step z)
  | [], E, z, _, h => by rw [List.append_nil]; exact h
  | p :: L, E, z, hL, h => by
    have h1 := step_inv hD (hL p List.mem_cons_self) hf h
    have h2 := fold_inv hD hf L (E ++ [p]) (step z p) (fun q hq => hL q (List.mem_cons_of_mem _ hq)) h1
    rw [List.append_assoc] at h2
    exact h2
/-- what stands between two rounds -/
structure RoundInv (D : List Row) (x : List Int) (z : List Int × Bool) : Prop where
  s5 : S5 z.1
  sub : ∀ c ∈ x, c ∈ z.1
  clo : ∀ c ∈ z.1, Clo D x c
  no : z.2 = false → Cld D (· ∈ z.1)
def mea (z : List Int × Bool) : Nat := (5 - z.1.length) * 2 + (if z.2 = true then 1 else 0)
theorem round_inv {D : List Row} {x : List Int} {z : List Int × Bool} (hD : Rw D) (h : RoundInv D x z) (hz : z.2 = true) : RoundInv D x (D.foldl step (z.1, false)) ∧ mea (D.foldl step (z.1, false)) < mea z := by
  have i0 : StepInv D x z.1 [] (z.1, false) := ⟨h.s5, fun _ h => h, h.clo, fun _ => ⟨rfl, fun p hp => by simp at hp⟩, fun e => by simp at e⟩
  have i1 := fold_inv hD h.s5 D [] (z.1, false) (fun _ h => h) i0
  rw [List.nil_append] at i1
  generalize D.foldl step (z.1, false) = y at i1 ⊢
  have l1 := i1.s5.len
  have l2 := h.s5.len
  refine ⟨⟨i1.s5, fun c hc => i1.sub c (h.sub c hc), i1.clo, fun e => ?_⟩, ?_⟩
  · obtain ⟨e1, e2⟩ := i1.no e
    rw [e1]
    exact e2
  · unfold mea
    rw [if_pos hz]
    cases e : y.2 with
    | true =>
      have := i1.yes e
      simp
      omega
    | false =>
      obtain ⟨e1, _⟩ := i1.no e
      rw [e1]
      simp
theorem RoundInv.start {D : List Row} {x : List Int} (hx : S5 x) : RoundInv D x (x, true) := ⟨hx, fun _ h => h, fun c h => clo_self h, fun e => by simp at e⟩
theorem RoundInv.done {D : List Row} {x : List Int} {z : List Int × Bool} (hD : Rw D) (hx : S5 x) (h : RoundInv D x z) (hz : z.2 = false) : z.1 = FM.clo D x := clo_unique hD hx h.s5 h.sub h.clo (h.no hz)

/-! ### the law's closure: as many rounds as rows, and one more -/
def lstep (f : List Int) (p : Row) : List Int := if within p.1 f = true then uni f p.2 else f
def lround (D : List Row) (f : List Int) : List Int := D.foldl lstep f
def lrounds (D : List Row) : Nat → List Int → List Int
  | 0, f => f
  | n + 1, f => lrounds D n (lround D f)
theorem lrounds_succ (D : List Row) : ∀ (n : Nat) (f : List Int), lrounds D (n + 1) f = lround D (lrounds D n f)
  | 0, _ => rfl
  | n + 1, f => lrounds_succ D n (lround D f)
structure LInv (D : List Row) (x f : List Int) : Prop where
  s5 : S5 f
  sub : ∀ c ∈ x, c ∈ f
  clo : ∀ c ∈ f, Clo D x c
theorem lstep_inv {D : List Row} {x f : List Int} {p : Row} (hD : Rw D) (hp : p ∈ D) (h : LInv D x f) : LInv D x (lstep f p) ∧ (∀ c ∈ f, c ∈ lstep f p) := by
  unfold lstep
  split
  · rename_i hc
    have w1 := within_iff.mp hc
    refine ⟨⟨h.s5.uni (hD p hp).2, fun c hc => mem_uni.mpr (.inl (h.sub c hc)), fun c hc => ?_⟩, fun c hc => mem_uni.mpr (.inl hc)⟩
    rcases mem_uni.mp hc with e | e
    · exact h.clo c e
    · exact clo_cld D x p hp (fun c hc => h.clo c (w1 c hc)) c e
  · exact ⟨h, fun _ h => h⟩
theorem lfold_inv {D : List Row} {x : List Int} (hD : Rw D) : ∀ (L : List Row) (f : List Int), (∀ p ∈ L, p ∈ D) → LInv D x f → LInv D x (L.foldl lstep f) ∧ (∀ c ∈ f, c ∈ L.foldl lstep f)
  | [], f, _, h => ⟨h, fun _ h => h⟩
  | p :: L, f, hL, h => by
    obtain ⟨h1, h2⟩ := lstep_inv hD (hL p List.mem_cons_self) h
    obtain ⟨h3, h4⟩ := lfold_inv hD L (lstep f p) (fun q hq => hL q (List.mem_cons_of_mem _ hq)) h1
    exact ⟨h3, fun c hc => h4 c (h2 c hc)⟩
/-- a row that serves f does so behind the fold: its right side is in -/
theorem lfold_fires {D : List Row} {x : List Int} (hD : Rw D) : ∀ (L : List Row) (f : List Int), (∀ p ∈ L, p ∈ D) → LInv D x f → ∀ p ∈ L, (∀ c ∈ p.1, c ∈ f) → ∀ c ∈ p.2, c ∈ L.foldl lstep f
  | [], _, _, _, p, hp, _ => by simp at hp
  | q :: L, f, hL, h, p, hp, hl => by
    obtain ⟨h1, h2⟩ := lstep_inv hD (hL q List.mem_cons_self) h
    have hL' : ∀ p ∈ L, p ∈ D := fun r hr => hL r (List.mem_cons_of_mem _ hr)
    rcases List.mem_cons.mp hp with e | e
    · subst e
      intro c hc
      refine (lfold_inv hD L (lstep f p) hL' h1).2 c ?_
      unfold lstep
      rw [if_pos (within_iff.mpr hl)]
      exact mem_uni.mpr (.inr hc)
    · exact lfold_fires hD L (lstep f q) hL' h1 p e fun c hc => h2 c (hl c hc)
/-- the rows whose right side is in -/
def inn (D : List Row) (f : List Int) : Nat := D.countP fun p => within p.2 f
theorem inn_mono {f g : List Int} (h : ∀ c ∈ f, c ∈ g) : ∀ D : List Row, inn D f ≤ inn D g := fun D => List.countP_mono_left fun p _ hp => within_iff.mpr fun c hc => h c (within_iff.mp hp c hc)
theorem countP_lt {α : Type} {p q : α → Bool} : ∀ {l : List α}, (∀ x ∈ l, p x = true → q x = true) → (∃ x ∈ l, p x = false ∧ q x = true) → l.countP p < l.countP q
  | [], _, ⟨x, hx, _⟩ => by simp at hx
  | y :: l, h, ⟨x, hx, h1, h2⟩ => by
    rw [List.countP_cons, List.countP_cons]
    have mono : l.countP p ≤ l.countP q := List.countP_mono_left fun z hz => h z (List.mem_cons_of_mem _ hz)
    rcases List.mem_cons.mp hx with e | e
    · rw [← e, if_neg (by simp [h1]), if_pos h2]
      omega
    · have ih := countP_lt (l := l) (fun z hz => h z (List.mem_cons_of_mem _ hz)) ⟨x, e, h1, h2⟩
      have := h y List.mem_cons_self
      split
      · rename_i hy
        rw [if_pos (this hy)]
        omega
      · split <;> omega
theorem lrounds_inv {D : List Row} {x : List Int} (hD : Rw D) (hx : S5 x) : ∀ n : Nat, LInv D x (lrounds D n x) ∧ (Cld D (· ∈ lrounds D n x) ∨ n ≤ inn D (lrounds D n x))
  | 0 => ⟨⟨hx, fun _ h => h, fun c h => clo_self h⟩, .inr (Nat.zero_le _)⟩
  | n + 1 => by
    obtain ⟨h, k⟩ := lrounds_inv hD hx n
    rw [lrounds_succ]
    generalize lrounds D n x = f at h k ⊢
    obtain ⟨h1, h2⟩ := lfold_inv hD D f (fun _ h => h) h
    refine ⟨h1, ?_⟩
    by_cases hc : Cld D (· ∈ f)
    · -- closed: it stays
      left
      have e : ∀ c, c ∈ lround D f → c ∈ f := by
        have stay : ∀ (L : List Row), (∀ p ∈ L, p ∈ D) → ∀ g, (∀ c ∈ g, c ∈ f) → ∀ c ∈ L.foldl lstep g, c ∈ f := by
          intro L
          induction L with
          | nil => intro _ g hg; exact hg
          | cons p L ih =>
            intro hL g hg
            refine ih (fun q hq => hL q (List.mem_cons_of_mem _ hq)) (lstep g p) fun c hcg => ?_
            unfold lstep at hcg
            split at hcg
            · rename_i hw
              rcases mem_uni.mp hcg with z | z
              · exact hg c z
              · exact hc p (hL p List.mem_cons_self) (fun d hd => hg d (within_iff.mp hw d hd)) c z
            · exact hg c hcg
        exact stay D (fun _ h => h) f fun _ h => h
      intro p hp hl c hcc
      exact h2 c (hc p hp (fun d hd => e d (hl d hd)) c hcc)
    · rcases k with k | k
      · exact absurd k hc
      · right
        -- some row is not kept: behind the round its right side is in
        have ⟨p, hp, hl, hr⟩ : ∃ p ∈ D, (∀ c ∈ p.1, c ∈ f) ∧ ¬ ∀ c ∈ p.2, c ∈ f := by
          unfold Cld at hc
          apply Classical.byContradiction
          intro hn
          exact hc fun p hp hl => Classical.byContradiction fun hr => hn ⟨p, hp, hl, hr⟩
        have lt : inn D f < inn D (lround D f) := countP_lt (fun q hq hw => within_iff.mpr fun c hc => h2 c (within_iff.mp hw c hc))
          ⟨p, hp, within_false.mpr hr, within_iff.mpr (lfold_fires hD D f (fun _ h => h) h p hp hl)⟩
        omega
theorem law_clo {D : List Row} {x : List Int} (hD : Rw D) (hx : S5 x) : lrounds D (D.length + 1) x = clo D x := by
  obtain ⟨h, k⟩ := lrounds_inv hD hx (D.length + 1)
  refine clo_unique hD hx h.s5 h.sub h.clo ?_
  rcases k with k | k
  · exact k
  · have : inn D (lrounds D (D.length + 1) x) ≤ D.length := List.countP_le_length
    omega
end FM
/-! ### all sets, the spread sets; plain mathematics -/
namespace FM
/-! loops over a list -/
theorem foldl_take {α β : Type} {f : β → α → β} {z : β} {L : List α} {i : Nat} {a : α} (h : L[i]? = some a) : (L.take (i + 1)).foldl f z = f ((L.take i).foldl f z) a := by
  rw [List.take_add_one, h, List.foldl_append]
  rfl
/-- the columns below n -/
def wholeN (n : Nat) : List Int := (List.range n).map fun (i : Nat) => (i : Int)
theorem mem_whole {n : Nat} {c : Int} : c ∈ wholeN n ↔ 0 ≤ c ∧ c < n := by
  unfold wholeN
  rw [List.mem_map]
  constructor
  · rintro ⟨i, hi, e⟩
    have := List.mem_range.mp hi
    omega
  · rintro ⟨h1, h2⟩
    exact ⟨c.toNat, List.mem_range.mpr (by omega), by omega⟩
theorem srt_whole (n : Nat) : Srt (wholeN n) := by
  unfold wholeN
  rw [Srt, List.pairwise_map]
  exact List.pairwise_lt_range.imp fun h => by omega
/-- sets of the columns below n -/
def Sn (n : Nat) (a : List Int) : Prop := Srt a ∧ ∀ c ∈ a, 0 ≤ c ∧ c < n
theorem Sn.s5 {n : Nat} {a : List Int} (hn : n ≤ 5) (h : Sn n a) : S5 a := ⟨h.1, fun c hc => by have := h.2 c hc; omega⟩
theorem Sn.filter {n : Nat} {a : List Int} (h : Sn n a) (p : Int → Bool) : Sn n (a.filter p) := ⟨h.1.filter p, fun c hc => h.2 c (List.mem_filter.mp hc).1⟩
def Rn (n : Nat) (D : List Row) : Prop := ∀ p ∈ D, Sn n p.1 ∧ Sn n p.2
theorem Rn.rw {n : Nat} {D : List Row} (hn : n ≤ 5) (h : Rn n D) : Rw D := fun p hp => ⟨(h p hp).1.s5 hn, (h p hp).2.s5 hn⟩
theorem sn_clo {n : Nat} {D : List Row} {x : List Int} (hn : n ≤ 5) (hD : Rn n D) (hx : Sn n x) : Sn n (clo D x) := by
  refine ⟨(s5_clo D x).1, fun c hc => ?_⟩
  have h := (mem_clo (hD.rw hn) (hx.s5 hn)).mp hc
  exact h (fun c => 0 ≤ c ∧ c < n) (fun p hp _ c hc => (hD p hp).2.2 c hc) hx.2
/-! all sets -/
def sub1 (found : List (List Int)) (c : Int) : List (List Int) := found ++ found.map fun p => p ++ [c]
def subs (cols : List Int) : List (List Int) := cols.foldl sub1 [[]]
theorem mem_subs : ∀ {cols : List Int} {F : List (List Int)} {x : List Int}, x ∈ cols.foldl sub1 F ↔ ∃ f ∈ F, ∃ s, List.Sublist s cols ∧ x = f ++ s
  | [], F, x => by
    constructor
    · intro h
      exact ⟨x, h, [], List.Sublist.slnil, by simp⟩
    · rintro ⟨f, hf, s, hs, e⟩
      rw [List.sublist_nil.mp hs, List.append_nil] at e
      rw [e]
      exact hf
  | c :: cs, F, x => by
    rw [List.foldl_cons, mem_subs]
    constructor
    · rintro ⟨f, hf, s, hs, e⟩
      rcases List.mem_append.mp hf with h | h
      · exact ⟨f, h, s, hs.cons _, e⟩
      · obtain ⟨g, hg, eg⟩ := List.mem_map.mp h
        exact ⟨g, hg, c :: s, hs.cons_cons _, by rw [e, ← eg]; simp⟩
    · rintro ⟨f, hf, s, hs, e⟩
      rcases List.sublist_cons_iff.mp hs with h | ⟨r, h1, h2⟩
      · exact ⟨f, List.mem_append_left _ hf, s, h, e⟩
      · exact ⟨f ++ [c], List.mem_append_right _ (List.mem_map.mpr ⟨f, hf, rfl⟩), r, h2, by rw [e, h1]; simp⟩
theorem len_subs : ∀ (cols : List Int) (F : List (List Int)), (cols.foldl sub1 F).length = F.length * 2 ^ cols.length
  | [], F => by simp
  | c :: cs, F => by
    rw [List.foldl_cons, len_subs, sub1, List.length_append, List.length_map, List.length_cons, Nat.pow_succ, ← Nat.mul_two, Nat.mul_assoc, Nat.mul_comm 2]
theorem sub_of_srt : ∀ {a b : List Int}, Srt a → Srt b → (∀ c ∈ a, c ∈ b) → List.Sublist a b
  | [], _, _, _, _ => List.nil_sublist _
  | x :: r, [], _, _, h => absurd (h x List.mem_cons_self) (by simp)
  | x :: r, y :: s, ha, hb, h => by
    obtain ⟨a1, a2⟩ := List.pairwise_cons.mp ha
    obtain ⟨b1, b2⟩ := List.pairwise_cons.mp hb
    by_cases e : x = y
    · subst e
      refine (sub_of_srt a2 b2 fun c hc => ?_).cons_cons _
      rcases List.mem_cons.mp (h c (List.mem_cons_of_mem _ hc)) with z | z
      · have := a1 c hc
        omega
      · exact z
    · refine (sub_of_srt ha b2 fun c hc => ?_).cons _
      have hx : x ∈ s := (List.mem_cons.mp (h x List.mem_cons_self)).elim (fun z => absurd z e) id
      rcases List.mem_cons.mp (h c hc) with z | z
      · rcases List.mem_cons.mp hc with w | w
        · rw [w]
          exact hx
        · have := a1 c w
          have := b1 x hx
          omega
      · exact z
theorem mem_subs_whole {n : Nat} {x : List Int} : x ∈ subs (wholeN n) ↔ Sn n x := by
  unfold subs
  rw [mem_subs]
  constructor
  · rintro ⟨f, hf, s, hs, e⟩
    rw [List.mem_singleton.mp hf, List.nil_append] at e
    rw [e]
    exact ⟨(srt_whole n).sublist hs, fun c hc => mem_whole.mp (hs.subset hc)⟩
  · intro h
    exact ⟨[], List.mem_singleton_self _, x, sub_of_srt h.1 (srt_whole n) fun c hc => mem_whole.mpr (h.2 c hc), rfl⟩
/-- every set of columns below n, smaller ones first -/
structure Alls (n : Nat) (L : List (List Int)) : Prop where
  mem : ∀ x, x ∈ L ↔ Sn n x
  ord : L.Pairwise fun x y => x.length ≤ y.length
  len : L.length = 2 ^ n
/-! the spread sets -/
noncomputable def sstep (D : List Row) (found : List Row) (x : List Int) : List Row :=
  if clo D x = x then found else if ((found.filter fun p => within p.1 x).map fun p => within p.2 x).all id = true then found ++ [(x, clo D x)] else found
noncomputable def spr (D : List Row) (L : List (List Int)) : List Row := L.foldl (sstep D) []
structure Spr (n : Nat) (D : List Row) (done rest : List (List Int)) (F : List Row) : Prop where
  at_ : ∀ p ∈ F, Sn n p.1 ∧ p.2 = clo D p.1 ∧ p.2 ≠ p.1
  seen : ∀ x ∈ done, clo D x = x ∨ ∃ p ∈ F, p.1.length ≤ x.length ∧ within p.1 x = true ∧ within p.2 x = false
  low : ∀ p ∈ F, ∀ x ∈ rest, p.1.length ≤ x.length
  small : ∀ p ∈ F, ∀ q ∈ F, q.1.length < p.1.length → within q.1 p.1 = true → within q.2 p.1 = true
  pair : F.Pairwise fun p q => p.1.length ≤ q.1.length ∧ (within p.1 q.1 = true → within p.2 q.1 = true)
theorem all_cond {F : List Row} {x : List Int} : ((F.filter fun p => within p.1 x).map fun p => within p.2 x).all id = true ↔ ∀ p ∈ F, within p.1 x = true → within p.2 x = true := by
  rw [List.all_eq_true]
  constructor
  · intro h p hp hw
    exact h _ (List.mem_map.mpr ⟨p, List.mem_filter.mpr ⟨hp, hw⟩, rfl⟩)
  · intro h b hb
    obtain ⟨p, hp, e⟩ := List.mem_map.mp hb
    obtain ⟨h1, h2⟩ := List.mem_filter.mp hp
    rw [← e]
    exact h p h1 h2
theorem within_self_clo {n : Nat} {D : List Row} {x : List Int} (hn : n ≤ 5) (hD : Rn n D) (hx : Sn n x) (h : clo D x ≠ x) : within (clo D x) x = false := by
  rw [within_false]
  intro k
  exact h (srt_ext (s5_clo D x).1 hx.1 fun c => ⟨k c, sub_clo (hD.rw hn) (hx.s5 hn) c⟩)
theorem spr_step {n : Nat} {D : List Row} {done rest : List (List Int)} {F : List Row} {x : List Int} (hn : n ≤ 5) (hD : Rn n D) (hx : Sn n x) (ho : ∀ y ∈ rest, x.length ≤ y.length) (h : Spr n D done (x :: rest) F) : Spr n D (done ++ [x]) rest (sstep D F x) := by
  have low' : ∀ p ∈ F, ∀ y ∈ rest, p.1.length ≤ y.length := fun p hp y hy => h.low p hp y (List.mem_cons_of_mem _ hy)
  have lowx : ∀ p ∈ F, p.1.length ≤ x.length := fun p hp => h.low p hp x List.mem_cons_self
  unfold sstep
  split
  · rename_i e
    refine ⟨h.at_, fun y hy => ?_, low', h.small, h.pair⟩
    rcases List.mem_append.mp hy with z | z
    · exact h.seen y z
    · rw [List.mem_singleton.mp z]
      exact .inl e
  · rename_i e
    split
    · rename_i c
      rw [all_cond] at c
      refine ⟨fun p hp => ?_, fun y hy => ?_, fun p hp y hy => ?_, fun p hp q hq hl hw => ?_, ?_⟩
      · rcases List.mem_append.mp hp with z | z
        · exact h.at_ p z
        · rw [List.mem_singleton.mp z]
          exact ⟨hx, rfl, e⟩
      · rcases List.mem_append.mp hy with z | z
        · rcases h.seen y z with k | ⟨p, hp, k⟩
          · exact .inl k
          · exact .inr ⟨p, List.mem_append_left _ hp, k⟩
        · rw [List.mem_singleton.mp z]
          exact .inr ⟨(x, clo D x), List.mem_append_right _ (List.mem_singleton_self _), Nat.le_refl _, within_refl x, within_self_clo hn hD hx e⟩
      · rcases List.mem_append.mp hp with z | z
        · exact low' p z y hy
        · rw [List.mem_singleton.mp z]
          exact ho y hy
      · rcases List.mem_append.mp hp with z | z
        · rcases List.mem_append.mp hq with w | w
          · exact h.small p z q w hl hw
          · rw [List.mem_singleton.mp w] at hl
            have := lowx p z
            have hl : x.length < p.1.length := hl
            omega
        · rw [List.mem_singleton.mp z] at hl hw ⊢
          rcases List.mem_append.mp hq with w | w
          · exact c q w hw
          · rw [List.mem_singleton.mp w] at hl
            exact absurd hl (Nat.lt_irrefl _)
      · refine List.pairwise_append.mpr ⟨h.pair, List.pairwise_singleton _ _, fun p hp q hq => ?_⟩
        rw [List.mem_singleton.mp hq]
        exact ⟨lowx p hp, c p hp⟩
    · rename_i c
      rw [all_cond] at c
      refine ⟨h.at_, fun y hy => ?_, low', h.small, h.pair⟩
      rcases List.mem_append.mp hy with z | z
      · exact h.seen y z
      · rw [List.mem_singleton.mp z]
        refine .inr (Classical.byContradiction fun no => c fun p hp hw => ?_)
        cases e2 : within p.2 x with
        | true => rfl
        | false => exact absurd ⟨p, hp, lowx p hp, hw, e2⟩ no
theorem spr_fold {n : Nat} {D : List Row} (hn : n ≤ 5) (hD : Rn n D) : ∀ (rest done : List (List Int)) (F : List Row), (∀ x ∈ rest, Sn n x) → rest.Pairwise (fun x y => x.length ≤ y.length) → Spr n D done rest F → Spr n D (done ++ rest) [] (rest.foldl (sstep D) F)
  | [], done, F, _, _, h => by simpa using h
  | x :: rest, done, F, hs, ho, h => by
    obtain ⟨o1, o2⟩ := List.pairwise_cons.mp ho
    have := spr_fold hn hD rest (done ++ [x]) (sstep D F x) (fun y hy => hs y (List.mem_cons_of_mem _ hy)) o2 (spr_step hn hD (hs x List.mem_cons_self) o1 h)
    simpa using this
/-- what the spread sets keep -/
structure Sprd (n : Nat) (D : List Row) (F : List Row) : Prop where
  at_ : ∀ p ∈ F, Sn n p.1 ∧ p.2 = clo D p.1 ∧ p.2 ≠ p.1
  seen : ∀ x, Sn n x → clo D x = x ∨ ∃ p ∈ F, p.1.length ≤ x.length ∧ within p.1 x = true ∧ within p.2 x = false
  small : ∀ p ∈ F, ∀ q ∈ F, q.1.length < p.1.length → within q.1 p.1 = true → within q.2 p.1 = true
  pair : F.Pairwise fun p q => p.1.length ≤ q.1.length ∧ (within p.1 q.1 = true → within p.2 q.1 = true)
theorem sprd_of {n : Nat} {D : List Row} {L : List (List Int)} (hn : n ≤ 5) (hD : Rn n D) (hL : Alls n L) : Sprd n D (spr D L) := by
  have h := spr_fold hn hD L [] [] (fun x hx => (hL.mem x).mp hx) hL.ord ⟨fun p hp => by simp at hp, fun p hp => by simp at hp, fun p hp => by simp at hp, fun p hp => by simp at hp, List.Pairwise.nil⟩
  exact ⟨h.at_, fun x hx => h.seen x (by rw [List.nil_append]; exact (hL.mem x).mpr hx), h.small, h.pair⟩
theorem len_spr (D : List Row) : ∀ (L : List (List Int)) (F : List Row), (L.foldl (sstep D) F).length ≤ F.length + L.length
  | [], F => Nat.le_refl _
  | x :: L, F => by
    have h1 := len_spr D L (sstep D F x)
    have h2 : (sstep D F x).length ≤ F.length + 1 := by
      unfold sstep
      split
      · omega
      · split
        · rw [List.length_append]
          simp
        · omega
    rw [List.foldl_cons, List.length_cons]
    omega
/-! between -/
def setB (p q : Row) : List Int := if within p.1 q.1 = true then p.2 else if within q.1 p.1 = true then q.2 else met p.1 q.1
theorem sub_len_eq {a b : List Int} (ha : Srt a) (hb : Srt b) (h : within a b = true) : a.length ≤ b.length ∧ (b.length ≤ a.length → a = b) := srt_sub_len ha hb (within_iff.mp h)
theorem met_closed {n : Nat} {D F : List Row} {p q : Row} (hn : n ≤ 5) (hD : Rn n D) (h : Sprd n D F) (hp : p ∈ F) (hq : q ∈ F) (n1 : within p.1 q.1 = false) (n2 : within q.1 p.1 = false) : clo D (met p.1 q.1) = met p.1 q.1 := by
  obtain ⟨sp, _, _⟩ := h.at_ p hp
  obtain ⟨sq, _, _⟩ := h.at_ q hq
  have sm : Sn n (met p.1 q.1) := sp.filter _
  have inp : within (met p.1 q.1) p.1 = true := within_iff.mpr fun c hc => (mem_met.mp hc).1
  have inq : within (met p.1 q.1) q.1 = true := within_iff.mpr fun c hc => (mem_met.mp hc).2
  have lp : (met p.1 q.1).length < p.1.length := by
    have k := sub_len_eq sm.1 sp.1 inp
    rcases Nat.lt_or_ge (met p.1 q.1).length p.1.length with z | z
    · exact z
    · rw [k.2 z] at inq
      rw [inq] at n1
      cases n1
  have lq : (met p.1 q.1).length < q.1.length := by
    have k := sub_len_eq sm.1 sq.1 inq
    rcases Nat.lt_or_ge (met p.1 q.1).length q.1.length with z | z
    · exact z
    · rw [k.2 z] at inp
      rw [inp] at n2
      cases n2
  rcases h.seen _ sm with z | ⟨r, hr, k1, k2, k3⟩
  · exact z
  · exfalso
    have tr : ∀ {a b c : List Int}, within a b = true → within b c = true → within a c = true := fun h1 h2 => within_iff.mpr fun c hc => within_iff.mp h2 c (within_iff.mp h1 c hc)
    have u1 := h.small p hp r hr (by omega) (tr k2 inp)
    have u2 := h.small q hq r hr (by omega) (tr k2 inq)
    rw [within_false] at k3
    exact k3 fun c hc => mem_met.mpr ⟨within_iff.mp u1 c hc, within_iff.mp u2 c hc⟩
/-- of two of them, in order: the set between -/
structure Btw (n : Nat) (D : List Row) (p q : Row) : Prop where
  sn : Sn n (setB p q)
  closed : clo D (setB p q) = setB p q
  low : within p.1 q.1 = true → within p.1 (setB p q) = true ∧ within (setB p q) q.1 = true
  high : within p.1 q.1 = false → within q.1 p.1 = false ∧ setB p q = met p.1 q.1
theorem clo_idem {D : List Row} {x : List Int} (hD : Rw D) (hx : S5 x) : clo D (clo D x) = clo D x := (clo_eq_iff hD (s5_clo D x)).mpr (clo_closed hD hx)
theorem btw_of {n : Nat} {D F : List Row} {p q : Row} (hn : n ≤ 5) (hD : Rn n D) (h : Sprd n D F) (hp : p ∈ F) (hq : q ∈ F) (o : p.1.length ≤ q.1.length ∧ (within p.1 q.1 = true → within p.2 q.1 = true)) : Btw n D p q := by
  obtain ⟨sp, ep, _⟩ := h.at_ p hp
  obtain ⟨sq, _, _⟩ := h.at_ q hq
  have eq : within p.1 q.1 = false → within q.1 p.1 = false := fun n1 => by
    cases e : within q.1 p.1 with
    | false => rfl
    | true =>
      have k := (sub_len_eq sq.1 sp.1 e).2 o.1
      rw [k, within_refl] at n1
      cases n1
  cases c1 : within p.1 q.1 with
  | true =>
    have es : setB p q = p.2 := if_pos c1
    have w2 := o.2 c1
    refine ⟨?_, ?_, fun _ => ?_, fun z => ?_⟩
    · rw [es, ep]
      exact sn_clo hn hD sp
    · rw [es, ep]
      exact clo_idem (hD.rw hn) (sp.s5 hn)
    · rw [es]
      refine ⟨?_, w2⟩
      rw [ep]
      exact within_iff.mpr (sub_clo (hD.rw hn) (sp.s5 hn))
    · rw [c1] at z
      cases z
  | false =>
    have c2 := eq c1
    have es : setB p q = met p.1 q.1 := by
      unfold setB
      rw [c1, c2]
      rfl
    refine ⟨?_, ?_, fun z => ?_, fun _ => ⟨c2, es⟩⟩
    · rw [es]
      exact sp.filter _
    · rw [es]
      exact met_closed hn hD h hp hq c1 c2
    · rw [c1] at z
      cases z
/-! the cover says the same -/
theorem spr_eqv {n : Nat} {D F : List Row} (hn : n ≤ 5) (hD : Rn n D) (h : Sprd n D F) : Eqv F D := fun S => by
  classical
  constructor
  · intro k p hp hin c hc
    have sn : Sn n ((wholeN n).filter fun c => decide (S c)) := ⟨(srt_whole n).filter _, fun c hc => mem_whole.mp (List.mem_filter.mp hc).1⟩
    have my : ∀ {c}, c ∈ (wholeN n).filter (fun c => decide (S c)) ↔ (0 ≤ c ∧ c < n) ∧ S c := fun {c} => by rw [List.mem_filter, mem_whole, decide_eq_true_iff]
    have cl : clo D ((wholeN n).filter fun c => decide (S c)) = (wholeN n).filter fun c => decide (S c) := by
      rcases h.seen _ sn with z | ⟨r, hr, _, k2, k3⟩
      · exact z
      · exfalso
        obtain ⟨sr, er, _⟩ := h.at_ r hr
        rw [within_false] at k3
        refine k3 fun c hc => my.mpr ⟨?_, k r hr (fun c hc => (my.mp (within_iff.mp k2 c hc)).2) c hc⟩
        rw [er] at hc
        exact (sn_clo hn hD sr).2 c hc
    have cl2 := (clo_eq_iff (hD.rw hn) (sn.s5 hn)).mp cl
    exact (my.mp (cl2 p hp (fun c hc => my.mpr ⟨(hD p hp).1.2 c hc, hin c hc⟩) c hc)).2
  · intro k p hp hin c hc
    obtain ⟨sp, ep, _⟩ := h.at_ p hp
    rw [ep] at hc
    exact (mem_clo (hD.rw hn) (sp.s5 hn)).mp hc S k hin
/-! no cover is shorter -/
theorem nodup_le {α : Type} : ∀ {l E : List α}, l.Nodup → (∀ x ∈ l, x ∈ E) → l.length ≤ E.length
  | [], _, _, _ => Nat.zero_le _
  | x :: r, E, h, s => by
    classical
    obtain ⟨h1, h2⟩ := List.nodup_cons.mp h
    have hx := s x List.mem_cons_self
    have k := nodup_le (E := E.erase x) h2 fun y hy => (List.mem_erase_of_ne (fun z => h1 (by rw [← z]; exact hy))).mpr (s y (List.mem_cons_of_mem _ hy))
    rw [List.length_erase_of_mem hx] at k
    have := List.length_pos_of_mem hx
    rw [List.length_cons]
    omega
theorem fewest_le {n : Nat} {D F E : List Row} (hn : n ≤ 5) (hD : Rn n D) (h : Sprd n D F) (hE : Eqv E D) : F.length ≤ E.length := by
  classical
  have viol : ∀ p : Row, p ∈ F → ∃ r ∈ E, (∀ c ∈ r.1, c ∈ p.1) ∧ ¬ ∀ c ∈ r.2, c ∈ p.1 := fun p hp => Classical.byContradiction fun no => by
    obtain ⟨sp, ep, np⟩ := h.at_ p hp
    have k : Cld E (· ∈ p.1) := fun r hr h1 => Classical.byContradiction fun h2 => no ⟨r, hr, h1, h2⟩
    have k2 := (hE _).mp k
    rw [ep] at np
    exact np ((clo_eq_iff (hD.rw hn) (sp.s5 hn)).mpr k2)
  let f : Row → Row := fun p => if hp : p ∈ F then Classical.choose (viol p hp) else p
  have fs : ∀ p ∈ F, f p ∈ E ∧ (∀ c ∈ (f p).1, c ∈ p.1) ∧ ¬ ∀ c ∈ (f p).2, c ∈ p.1 := fun p hp => by
    have e : f p = Classical.choose (viol p hp) := dif_pos hp
    rw [e]
    exact Classical.choose_spec (viol p hp)
  have nd : (F.map f).Nodup := by
    rw [List.Nodup, List.pairwise_map]
    refine List.Pairwise.imp_of_mem (fun {p q} hp hq o e => ?_) h.pair
    have b := btw_of hn hD h hp hq o
    have cl : Cld E (· ∈ setB p q) := (hE _).mpr ((clo_eq_iff (hD.rw hn) (b.sn.s5 hn)).mp b.closed)
    obtain ⟨m1, u1, v1⟩ := fs p hp
    obtain ⟨m2, u2, v2⟩ := fs q hq
    rw [← e] at u2 v2
    cases c : within p.1 q.1 with
    | true =>
      obtain ⟨l1, l2⟩ := b.low c
      exact v2 fun c hc => within_iff.mp l2 c (cl (f p) m1 (fun c hc => within_iff.mp l1 c (u1 c hc)) c hc)
    | false =>
      obtain ⟨_, es⟩ := b.high c
      rw [es] at cl
      exact v1 fun c hc => (mem_met.mp (cl (f p) m1 (fun c hc => mem_met.mpr ⟨u1 c hc, u2 c hc⟩) c hc)).1
  have k := nodup_le (E := E) nd fun r hr => by
    obtain ⟨p, hp, e⟩ := List.mem_map.mp hr
    rw [← e]
    exact (fs p hp).1
  rw [List.length_map] at k
  exact k
end FM
/-! ### the list of sets between, covers reduced, covers grouped -/
namespace FM
/-! indices -/
def rowB (L : List Row) (i : Nat) : List (List Int) := match L[i]? with
  | some p => (L.drop (i + 1)).map (setB p)
  | none => []
def btwTo (L : List Row) : Nat → List (List Int)
  | 0 => []
  | i + 1 => btwTo L i ++ rowB L i
def btw (L : List Row) : List (List Int) := btwTo L L.length
def off (m : Nat) : Nat → Nat
  | 0 => 0
  | i + 1 => off m i + (m - (i + 1))
theorem len_rowB {L : List Row} {i : Nat} (h : i < L.length) : (rowB L i).length = L.length - (i + 1) := by
  unfold rowB
  rw [List.getElem?_eq_getElem h]
  simp
theorem len_btwTo {L : List Row} : ∀ {i : Nat}, i ≤ L.length → (btwTo L i).length = off L.length i
  | 0, _ => rfl
  | i + 1, h => by
    show (btwTo L i ++ rowB L i).length = off L.length i + (L.length - (i + 1))
    rw [List.length_append, len_btwTo (Nat.le_of_succ_le h), len_rowB h]
theorem len_btw (L : List Row) : (btw L).length = off L.length L.length := len_btwTo (Nat.le_refl _)
theorem btwTo_pre {L : List Row} {i : Nat} : ∀ d : Nat, ∃ r, btwTo L (i + d) = btwTo L i ++ r
  | 0 => ⟨[], by simp⟩
  | d + 1 => by
    obtain ⟨r, e⟩ := btwTo_pre (L := L) (i := i) d
    exact ⟨r ++ rowB L (i + d), by rw [← Nat.add_assoc, btwTo, e, List.append_assoc]⟩
theorem rowB_at {L : List Row} {i t : Nat} {p q : Row} (hp : L[i]? = some p) (hq : L[i + 1 + t]? = some q) : (rowB L i)[t]? = some (setB p q) := by
  unfold rowB
  rw [hp]
  simp only [List.getElem?_map, List.getElem?_drop, hq]
  rfl
theorem btw_at {L : List Row} {i t : Nat} {p q : Row} (hp : L[i]? = some p) (hq : L[i + 1 + t]? = some q) : (btw L)[off L.length i + t]? = some (setB p q) := by
  have hi : i < L.length := (List.getElem?_eq_some_iff.mp hp).1
  obtain ⟨r, e⟩ := btwTo_pre (L := L) (i := i + 1) (L.length - (i + 1))
  have e1 : i + 1 + (L.length - (i + 1)) = L.length := by omega
  rw [e1] at e
  have e2 : btw L = btwTo L i ++ (rowB L i ++ r) := by
    unfold btw
    rw [e, btwTo, List.append_assoc]
  have k := len_btwTo (Nat.le_of_lt hi)
  rw [e2, List.getElem?_append_right (by omega), k, Nat.add_sub_cancel_left]
  have ht := rowB_at hp hq
  rw [List.getElem?_append_left (List.getElem?_eq_some_iff.mp ht).1]
  exact ht
theorem off_mul {m : Nat} : ∀ {i : Nat}, i ≤ m → 2 * (off m i : Int) + i * i + i = 2 * m * i
  | 0, _ => by simp [off]
  | i + 1, h => by
    have ih := off_mul (m := m) (i := i) (Nat.le_of_succ_le h)
    have e : (off m (i + 1) : Int) = off m i + (m - (i + 1)) := by
      show ((off m i + (m - (i + 1)) : Nat) : Int) = _
      omega
    rw [e]
    have e2 : ((i + 1 : Nat) : Int) = (i : Int) + 1 := by omega
    rw [e2]
    have h1 : ((i : Int) + 1) * (i + 1) = i * i + 2 * i + 1 := by
      rw [Int.add_mul, Int.mul_add]
      omega
    have h2 : 2 * (m : Int) * (i + 1) = 2 * m * i + 2 * m := by
      rw [Int.mul_add, Int.mul_one]
    rw [h1, h2]
    omega
theorem off_all (m : Nat) : (m : Int) * (m - 1) / 2 = off m m := by
  have h := off_mul (m := m) (i := m) (Nat.le_refl _)
  have h1 : (m : Int) * (m - 1) = m * m - m := by rw [Int.mul_sub, Int.mul_one]
  have h2 : 2 * (m : Int) * m = 2 * (m * m) := Int.mul_assoc _ _ _
  rw [h2] at h
  rw [h1]
  omega
theorem btw_mem {n : Nat} {D F : List Row} (hn : n ≤ 5) (hD : Rn n D) (h : Sprd n D F) {i j : Nat} {p q : Row} (hp : F[i]? = some p) (hq : F[j]? = some q) (hij : i < j) : Btw n D p q := by
  obtain ⟨hi, ei⟩ := List.getElem?_eq_some_iff.mp hp
  obtain ⟨hj, ej⟩ := List.getElem?_eq_some_iff.mp hq
  have o := List.pairwise_iff_getElem.mp h.pair i j hi hj hij
  rw [ei, ej] at o
  exact btw_of hn hD h (List.mem_of_getElem? hp) (List.mem_of_getElem? hq) o
/-- each set between is one of two of them -/
theorem mem_btwTo {L : List Row} {x : List Int} : ∀ {k : Nat}, x ∈ btwTo L k → ∃ i t p q, L[i]? = some p ∧ L[i + 1 + t]? = some q ∧ x = setB p q
  | 0, h => by simp [btwTo] at h
  | k + 1, h => by
    rcases List.mem_append.mp h with z | z
    · exact mem_btwTo z
    · unfold rowB at z
      cases e : L[k]? with
      | none =>
        rw [e] at z
        simp at z
      | some p =>
        rw [e] at z
        obtain ⟨q, hq, ex⟩ := List.mem_map.mp z
        obtain ⟨t, ht⟩ := List.mem_iff_getElem?.mp hq
        rw [List.getElem?_drop] at ht
        exact ⟨k, t, p, q, e, ht, ex.symm⟩
theorem sn_btw {n : Nat} {D F : List Row} (hn : n ≤ 5) (hD : Rn n D) (h : Sprd n D F) : ∀ x ∈ btw F, Sn n x := fun x hx => by
  obtain ⟨i, t, p, q, hp, hq, e⟩ := mem_btwTo hx
  rw [e]
  exact (btw_mem hn hD h hp hq (by omega)).sn
theorem len_btw_le {L : List Row} (h : L.length ≤ 32) : (btw L).length ≤ 600 := by
  rw [len_btw]
  have k := off_mul (m := L.length) (i := L.length) (Nat.le_refl _)
  have h2 : 2 * (L.length : Int) * L.length = 2 * (L.length * L.length) := Int.mul_assoc _ _ _
  rw [h2] at k
  have h3 : (L.length : Int) * L.length ≤ 32 * 32 := Int.mul_le_mul (by omega) (by omega) (by omega) (by omega)
  omega
/-! reduced covers -/
def ones (p : Row) : List Row := (less p.2 p.1).map fun c => (p.1, [c])
def red0 (D : List Row) : List Row := D.flatMap ones
theorem len_ones {p : Row} (h : S5 p.2) : (ones p).length ≤ 5 := by
  unfold ones
  rw [List.length_map]
  exact h.less.len
theorem len_red0 : ∀ {D : List Row}, Rw D → (red0 D).length ≤ 5 * D.length
  | [], _ => Nat.le_refl _
  | p :: D, h => by
    have h1 := len_ones (h p List.mem_cons_self).2
    have h2 := len_red0 (D := D) fun q hq => h q (List.mem_cons_of_mem _ hq)
    have e : red0 (p :: D) = ones p ++ red0 D := by
      unfold red0
      rw [List.flatMap_cons]
    rw [e, List.length_append, List.length_cons]
    omega
theorem mem_red0 {D : List Row} {r : Row} : r ∈ red0 D ↔ ∃ p ∈ D, ∃ c ∈ less p.2 p.1, r = (p.1, [c]) := by
  unfold red0 ones
  rw [List.mem_flatMap]
  constructor
  · rintro ⟨p, hp, h⟩
    obtain ⟨c, hc, e⟩ := List.mem_map.mp h
    exact ⟨p, hp, c, hc, e.symm⟩
  · rintro ⟨p, hp, c, hc, e⟩
    exact ⟨p, hp, List.mem_map.mpr ⟨c, hc, e.symm⟩⟩
theorem rw_red0 {D : List Row} (h : Rw D) : Rw (red0 D) := fun r hr => by
  obtain ⟨p, hp, c, hc, e⟩ := mem_red0.mp hr
  rw [e]
  exact ⟨(h p hp).1, S5.one ((h p hp).2.2 c (mem_less.mp hc).1)⟩
theorem eqv_red0 (D : List Row) : Eqv (red0 D) D := fun S => by
  classical
  constructor
  · intro k p hp hin c hc
    by_cases h : c ∈ p.1
    · exact hin c h
    · exact k (p.1, [c]) (mem_red0.mpr ⟨p, hp, c, mem_less.mpr ⟨hc, h⟩, rfl⟩) hin c (List.mem_singleton_self _)
  · intro k r hr hin d hd
    obtain ⟨p, hp, c, hc, e⟩ := mem_red0.mp hr
    rw [e] at hin hd
    rw [List.mem_singleton.mp hd]
    exact k p hp hin c (mem_less.mp hc).1
noncomputable def slstep (D : List Row) (p : Row) (left : List Int) (c : Int) : List Int := if within p.2 (clo D (less left [c])) = true then less left [c] else left
noncomputable def sl (D : List Row) (p : Row) : List Int := p.1.foldl (slstep D p) p.1
structure SlOk (D : List Row) (p : Row) (left : List Int) : Prop where
  s5 : S5 left
  sub : ∀ c ∈ left, c ∈ p.1
  say : says D (left, p.2) = true
theorem slstep_ok {D : List Row} {p : Row} {left : List Int} (c : Int) (h : SlOk D p left) : SlOk D p (slstep D p left c) := by
  unfold slstep
  split
  · rename_i e
    exact ⟨h.s5.less, fun d hd => h.sub d (mem_less.mp hd).1, e⟩
  · exact h
theorem slfold_ok {D : List Row} {p : Row} : ∀ (L : List Int) {left : List Int}, SlOk D p left → SlOk D p (L.foldl (slstep D p) left)
  | [], _, h => h
  | c :: L, _, h => slfold_ok L (slstep_ok c h)
theorem sl_ok {D : List Row} {p : Row} (hD : Rw D) (hp : p ∈ D) : SlOk D p (sl D p) := slfold_ok _ ⟨(hD p hp).1, fun _ h => h, (says_iff hD (hD p hp).1).mpr fun S hS h => hS p hp h⟩
noncomputable def red1 (D : List Row) : List Row := D.map fun p => (sl D p, p.2)
theorem rw_red1 {D : List Row} (hD : Rw D) : Rw (red1 D) := fun r hr => by
  obtain ⟨p, hp, e⟩ := List.mem_map.mp hr
  rw [← e]
  exact ⟨(sl_ok hD hp).s5, (hD p hp).2⟩
theorem eqv_red1 {D : List Row} (hD : Rw D) : Eqv (red1 D) D := fun S => by
  constructor
  · intro k p hp hin
    exact k (sl D p, p.2) (List.mem_map.mpr ⟨p, hp, rfl⟩) fun c hc => hin c ((sl_ok hD hp).sub c hc)
  · intro k r hr hin
    obtain ⟨p, hp, e⟩ := List.mem_map.mp hr
    rw [← e] at hin ⊢
    exact (says_iff hD (sl_ok hD hp).s5).mp (sl_ok hD hp).say S k hin
theorem drop_eqv {D : List Row} {i : Nat} {p : Row} (hD : Rw D) (hp : D[i]? = some p) (h : says (D.take i ++ D.drop (i + 1)) p = true) : Eqv (D.take i ++ D.drop (i + 1)) D := fun S => by
  have hm : ∀ r, r ∈ D ↔ r = p ∨ r ∈ D.take i ++ D.drop (i + 1) := fun r => by
    have hi := (List.getElem?_eq_some_iff.mp hp)
    obtain ⟨hi, ei⟩ := hi
    have e : D = D.take i ++ p :: D.drop (i + 1) := by
      rw [← ei]
      simp
    constructor
    · intro hr
      rw [e] at hr
      rcases List.mem_append.mp hr with z | z
      · exact .inr (List.mem_append_left _ z)
      · rcases List.mem_cons.mp z with z | z
        · exact .inl z
        · exact .inr (List.mem_append_right _ z)
    · intro hr
      rw [e]
      rcases hr with z | z
      · rw [z]
        simp
      · rcases List.mem_append.mp z with z | z
        · exact List.mem_append_left _ z
        · exact List.mem_append_right _ (List.mem_cons_of_mem _ z)
  have hO : Rw (D.take i ++ D.drop (i + 1)) := fun r hr => hD r ((hm r).mpr (.inr hr))
  constructor
  · intro k r hr hin
    rcases (hm r).mp hr with z | z
    · rw [z] at hin ⊢
      exact (says_iff hO (hD p (List.mem_of_getElem? hp)).1).mp h S k hin
    · exact k r z hin
  · intro k r hr
    exact k r ((hm r).mpr (.inr hr))
/-! equal left sides put together -/
def gget : List Row → List Int → List Int
  | [], _ => []
  | (a, b) :: G, k => if a = k then b else gget G k
def gput : List Row → List Int → List Int → List Row
  | [], k, v => [(k, v)]
  | (a, b) :: G, k, v => if a = k then (k, v) :: G else (a, b) :: gput G k v
def gstep (G : List Row) (p : Row) : List Row := gput G p.1 (uni (gget G p.1) p.2)
def grp (D : List Row) : List Row := D.foldl gstep []
theorem cld_cons {p : Row} {G : List Row} {S : Int → Prop} : Cld (p :: G) S ↔ ((∀ c ∈ p.1, S c) → ∀ c ∈ p.2, S c) ∧ Cld G S := by
  constructor
  · intro h
    exact ⟨h p List.mem_cons_self, fun r hr => h r (List.mem_cons_of_mem _ hr)⟩
  · rintro ⟨h1, h2⟩ r hr
    rcases List.mem_cons.mp hr with z | z
    · rw [z]
      exact h1
    · exact h2 r z
theorem cld_gput {k v : List Int} {S : Int → Prop} : ∀ {G : List Row}, Cld (gput G k (uni (gget G k) v)) S ↔ Cld G S ∧ ((∀ c ∈ k, S c) → ∀ c ∈ v, S c)
  | [] => by
    show Cld [(k, uni [] v)] S ↔ _
    rw [cld_cons]
    constructor
    · rintro ⟨h, _⟩
      exact ⟨fun r hr => by simp at hr, fun hk c hc => h hk c (mem_uni.mpr (.inr hc))⟩
    · rintro ⟨_, h⟩
      refine ⟨fun hk c hc => ?_, fun r hr => by simp at hr⟩
      rcases mem_uni.mp hc with z | z
      · simp at z
      · exact h hk c z
  | (a, b) :: G => by
    unfold gput gget
    split
    · rename_i e
      subst e
      rw [cld_cons, cld_cons]
      constructor
      · rintro ⟨h1, h2⟩
        exact ⟨⟨fun ha c hc => h1 ha c (mem_uni.mpr (.inl hc)), h2⟩, fun ha c hc => h1 ha c (mem_uni.mpr (.inr hc))⟩
      · rintro ⟨⟨h1, h2⟩, h3⟩
        exact ⟨fun ha c hc => (mem_uni.mp hc).elim (h1 ha c) (h3 ha c), h2⟩
    · rw [cld_cons, cld_cons, cld_gput (G := G)]
      constructor
      · rintro ⟨h1, h2, h3⟩
        exact ⟨⟨h1, h2⟩, h3⟩
      · rintro ⟨⟨h1, h2⟩, h3⟩
        exact ⟨h1, h2, h3⟩
theorem cld_gfold {S : Int → Prop} : ∀ {D G : List Row}, Cld (D.foldl gstep G) S ↔ Cld G S ∧ Cld D S
  | [], G => by
    constructor
    · intro h
      exact ⟨h, fun r hr => by simp at hr⟩
    · exact fun h => h.1
  | p :: D, G => by
    rw [List.foldl_cons, cld_gfold (D := D), cld_cons]
    unfold gstep
    rw [cld_gput]
    constructor
    · rintro ⟨⟨h1, h2⟩, h3⟩
      exact ⟨h1, h2, h3⟩
    · rintro ⟨h1, h2, h3⟩
      exact ⟨⟨h1, h2⟩, h3⟩
theorem eqv_grp (D : List Row) : Eqv (grp D) D := fun S => by
  unfold grp
  rw [cld_gfold]
  exact ⟨fun h => h.2, fun h => ⟨fun r hr => by simp at hr, h⟩⟩
theorem s5_gget {G : List Row} {k : List Int} (h : Rw G) : S5 (gget G k) := by
  induction G with
  | nil => exact s5_nil
  | cons p G ih =>
    obtain ⟨a, b⟩ := p
    unfold gget
    split
    · exact (h _ List.mem_cons_self).2
    · exact ih fun r hr => h r (List.mem_cons_of_mem _ hr)
theorem rw_gput {k v : List Int} (hk : S5 k) (hv : S5 v) : ∀ {G : List Row}, Rw G → Rw (gput G k v)
  | [], _ => fun r hr => by
    have hr : r ∈ [(k, v)] := hr
    rw [List.mem_singleton.mp hr]
    exact ⟨hk, hv⟩
  | (a, b) :: G, h => by
    have h1 := h _ List.mem_cons_self
    have h2 : Rw G := fun r hr => h r (List.mem_cons_of_mem _ hr)
    unfold gput
    split
    · intro r hr
      rcases List.mem_cons.mp hr with z | z
      · rw [z]
        exact ⟨hk, hv⟩
      · exact h2 r z
    · intro r hr
      rcases List.mem_cons.mp hr with z | z
      · rw [z]
        exact h1
      · exact rw_gput hk hv h2 r z
theorem rw_gstep {G : List Row} {p : Row} (h : Rw G) (hp : S5 p.1 ∧ S5 p.2) : Rw (gstep G p) := rw_gput hp.1 ((s5_gget h).uni hp.2) h
theorem len_gput (k v : List Int) : ∀ G : List Row, (gput G k v).length ≤ G.length + 1
  | [] => Nat.le_refl _
  | (a, b) :: G => by
    unfold gput
    split
    · simp
    · have := len_gput k v G
      simp
      omega
theorem gkeys {k v : List Int} : ∀ {G : List Row}, ∀ x, x ∈ (gput G k v).map (·.1) ↔ x ∈ G.map (·.1) ∨ x = k
  | [], x => by simp [gput]
  | (a, b) :: G, x => by
    unfold gput
    split
    · rename_i e
      subst e
      rw [List.map_cons, List.map_cons]
      constructor
      · exact fun h => .inl h
      · rintro (h | h)
        · exact h
        · rw [h]
          exact List.mem_cons_self
    · rw [List.map_cons, List.mem_cons, gkeys (G := G), List.map_cons, List.mem_cons]
      constructor
      · rintro (h | h | h)
        · exact .inl (.inl h)
        · exact .inl (.inr h)
        · exact .inr h
      · rintro ((h | h) | h)
        · exact .inl h
        · exact .inr (.inl h)
        · exact .inr (.inr h)
theorem gnodup {k v : List Int} : ∀ {G : List Row}, (G.map (·.1)).Nodup → ((gput G k v).map (·.1)).Nodup
  | [], _ => by simp [gput]
  | (a, b) :: G, h => by
    obtain ⟨h1, h2⟩ := List.nodup_cons.mp h
    unfold gput
    split
    · rename_i e
      subst e
      exact List.nodup_cons.mpr ⟨h1, h2⟩
    · rename_i e
      refine List.nodup_cons.mpr ⟨fun z => ?_, gnodup h2⟩
      rcases (gkeys (G := G) a).mp z with z | z
      · exact h1 z
      · exact e z
theorem gget_of : ∀ {G : List Row} {p : Row}, (G.map (·.1)).Nodup → p ∈ G → gget G p.1 = p.2
  | (a, b) :: G, p, h, hp => by
    obtain ⟨h1, h2⟩ := List.nodup_cons.mp h
    unfold gget
    rcases List.mem_cons.mp hp with z | z
    · rw [z, if_pos rfl]
    · rw [if_neg, gget_of h2 z]
      intro e
      exact h1 (by
        show a ∈ G.map (·.1)
        rw [e]
        exact List.mem_map.mpr ⟨p, z, rfl⟩)
end FM
namespace FS
open PySem PySem.Spec PyProof.Rows L2 LamX FM
section
variable {T : List (Addr × Str)} {X : Cx} {G : Gm} {a b c e l : Expr} {es : List Expr} {p q o : Pd} {ps : List Pd} {pos : Pos} {ns ms : List Int} {i j : Int}
variable {α β : Type} {r : α → Pd} {xs : List α}
/-! ### calls of built-ins -/
theorem ee_call1 {te : List V → Hp → VK → Prop} (h : PE X e (tCB te (Wa X [a]))) (ha : EE T X G a p) (k : ∀ (F H : Hp) (v : V) (Q : VK), Sub F H → Tabs T H → p.p F v → (∀ v F' H', Gr T F H F' H' → o.p F' v → Q v H') → te [v] H Q)
    (hs : starEach [a] X.env = (false, eval a X.env) :: starEach [] X.env := by rfl) : EE T X G e o :=
  ee_by h fun σ F H Q g s t kq => ea1 ha hs σ F H _ g s t fun vs F1 H1 g1 hv => by
    match vs, hv with
    | [v], ⟨hv, _⟩ => exact k F1 H1 v Q g1.sub g1.tb hv fun w F2 H2 g2 hw => kq w F2 H2 (g1.trans g2) hw
variable {p1 p2 p3 : Pos}
theorem ee_lenL (hm : X.mg "len" = none) (ha : EE T X G a (rLst r xs)) (hg : Gl X "len" := by rfl) (hs : starEach [a] X.env = (false, eval a X.env) :: starEach [] X.env := by rfl) : EE T X G (.Call (.Name "len" p1) [a] [] pos) (rInt xs.length) :=
  ee_call1 (pe_callB call_len_seq hg hm PySem.boot_len wa (he := hs)) ha (fun F H v Q s t ⟨l, vs, h1, h2, h3⟩ k => ⟨l, vs, by rw [h1], .inl (SqL.of (s.at h2)), k _ F H (Gr.refl s t) (by rw [h3.length]; rfl)⟩) hs
theorem ee_lenT (hm : X.mg "len" = none) (ha : EE T X G a (rTup r xs)) (hg : Gl X "len" := by rfl) (hs : starEach [a] X.env = (false, eval a X.env) :: starEach [] X.env := by rfl) : EE T X G (.Call (.Name "len" p1) [a] [] pos) (rInt xs.length) :=
  ee_call1 (pe_callB call_len_seq hg hm PySem.boot_len wa (he := hs)) ha (fun F H v Q s t ⟨l, vs, h1, h2, h3⟩ k => ⟨l, vs, by rw [h1], .inr (SqT.of (s.at h2)), k _ F H (Gr.refl s t) (by rw [h3.length]; rfl)⟩) hs
theorem ee_lenP (hm : X.mg "len" = none) (ha : EE T X G a (rTuP ps)) (hg : Gl X "len" := by rfl) (hs : starEach [a] X.env = (false, eval a X.env) :: starEach [] X.env := by rfl) : EE T X G (.Call (.Name "len" p1) [a] [] pos) (rInt ps.length) :=
  ee_call1 (pe_callB call_len_seq hg hm PySem.boot_len wa (he := hs)) ha (fun F H v Q s t ⟨l, vs, h1, h2, h3⟩ k => ⟨l, vs, by rw [h1], .inr (SqT.of (s.at h2)), k _ F H (Gr.refl s t) (by rw [h3.length]; rfl)⟩) hs
theorem ee_list (hm : X.mg "list" = none) (ha : EE T X G a (rTup r xs)) (hg : Gl X "list" := by rfl) (hs : starEach [a] X.env = (false, eval a X.env) :: starEach [] X.env := by rfl) : EE T X G (.Call (.Name "list" p1) [a] [] pos) (rLst r xs) :=
  ee_call1 (pe_callTy call_list_of hg hm boot_list wa (he := hs)) ha (fun F H v Q s t ⟨l, vs, h1, h2, h3⟩ k => ⟨l, vs, by rw [h1], .inr (SqT.of (s.at h2)), fun d hd => by
    have g := Gr.new (o := .lst vs) s t hd lst_tbl
    exact k _ _ _ g ⟨d, vs, rfl, upd_same, h3.up g.fs⟩⟩) hs
theorem ee_tuple (hm : X.mg "tuple" = none) (ha : EE T X G a (rLst r xs)) (hg : Gl X "tuple" := by rfl) (hs : starEach [a] X.env = (false, eval a X.env) :: starEach [] X.env := by rfl) : EE T X G (.Call (.Name "tuple" p1) [a] [] pos) (rTup r xs) :=
  ee_call1 (pe_callTy call_tuple_of hg hm boot_tuple wa (he := hs)) ha (fun F H v Q s t ⟨l, vs, h1, h2, h3⟩ k => ⟨l, vs, by rw [h1], .inl ⟨SqL.of (s.at h2), fun d hd => by
    have g := Gr.new (o := .tup vs) s t hd tup_tbl
    exact k _ _ _ g ⟨d, vs, rfl, upd_same, h3.up g.fs⟩⟩⟩) hs
theorem ee_tupRg {n : Nat} (hc : X.calm = true) (hm : X.mg "tuple" = none) (hm2 : X.mg "range" = none) (ha : EE T X G a (rInt (n : Int))) (hn : n ≤ 1000) (hg : Gl X "tuple" := by rfl) (hg2 : Gl X "range" := by rfl) (na : starEach [a] X.env = (false, eval a X.env) :: starEach [] X.env := by rfl)
    (na2 : starEach [.Call (.Name "range" p2) [a] [] p3] X.env = (false, eval (.Call (.Name "range" p2) [a] [] p3) X.env) :: starEach [] X.env := by rfl) : EE T X G (.Call (.Name "tuple" p1) [.Call (.Name "range" p2) [a] [] p3] [] pos) (rSet ((List.range n).map fun (i : Nat) => (i : Int))) :=
  ee_by (pe_tupRg hc hg hm (prg_1 hg2 hm2 we na) na2) fun σ F H Q g s t k => ha σ F H _ g s t fun v F1 H1 g1 hv => ⟨n, hv, RgOk.of_le (Int.le_refl 0) (by omega) (by omega) (by omega), fun d hd => by
    have e : rgV 0 (n : Int) = ((List.range n).map fun (i : Nat) => (i : Int)).map V.int := by
      unfold rgV
      rw [List.map_map, Int.sub_zero, Int.toNat_natCast]
      refine List.map_congr_left fun i _ => ?_
      show V.int (0 + (i : Int)) = V.int (i : Int)
      rw [Int.zero_add]
    rw [e]
    have g2 := Gr.new (o := .tup (((List.range n).map fun (i : Nat) => (i : Int)).map V.int)) g1.sub g1.tb hd tup_tbl
    exact k _ _ _ (g1.trans g2) (rSet_of upd_same)⟩
theorem ee_all {bs : List Bool} (hc : X.calm = true) (hm : X.mg "all" = none) (ha : EE T X G a (rLst rBl bs)) (hg : Gl X "all" := by rfl) (hs : starEach [a] X.env = (false, eval a X.env) :: starEach [] X.env := by rfl) : EE T X G (.Call (.Name "all" p1) [a] [] pos) (rBl (bs.all id)) :=
  ee_call1 (pe_callB (cr_all hc) hg hm (by decide +kernel) wa (he := hs)) ha (fun F H v Q s t ⟨l, vs, h1, h2, h3⟩ k => ⟨l, bs, by rw [h1], by rw [al_bl h3] at h2; exact SqL.of (s.at h2), k _ F H (Gr.refl s t) rfl⟩) hs
theorem ee_any {bs : List Bool} (hc : X.calm = true) (hm : X.mg "any" = none) (ha : EE T X G a (rLst rBl bs)) (hg : Gl X "any" := by rfl) (hs : starEach [a] X.env = (false, eval a X.env) :: starEach [] X.env := by rfl) : EE T X G (.Call (.Name "any" p1) [a] [] pos) (rBl (bs.any id)) :=
  ee_call1 (pe_callB (cr_any hc) hg hm (by decide +kernel) wa (he := hs)) ha (fun F H v Q s t ⟨l, vs, h1, h2, h3⟩ k => ⟨l, bs, by rw [h1], by rw [al_bl h3] at h2; exact SqL.of (s.at h2), k _ F H (Gr.refl s t) rfl⟩) hs
/-- sorted(set(x)), as a list: the set object is told of nowhere -/
theorem ee_sset (hc : X.calm = true) (hm : X.mg "sorted" = none) (hm2 : X.mg "set" = none) (ha : EE T X G a (rSq rInt ns)) (hn : ns.length ≤ 60) (hg : Gl X "sorted" := by rfl) (hg2 : Gl X "set" := by rfl) (hs : starEach [a] X.env = (false, eval a X.env) :: starEach [] X.env := by rfl)
    (hs2 : starEach [.Call (.Name "set" p2) [a] [] p3] X.env = (false, eval (.Call (.Name "set" p2) [a] [] p3) X.env) :: starEach [] X.env := by rfl) : EE T X G (.Call (.Name "sorted" p1) [.Call (.Name "set" p2) [a] [] p3] [] pos) (rLst rInt (mkSet ns)) :=
  ee_by (pe_callB (cr_sortedSet hc) hg hm (by decide +kernel) (pa_cons (pe_callTy (cr_setI hc) hg2 hm2 (by decide +kernel) (pa_cons we pa_nil hs) (he := hs)) pa_nil hs2) (he := hs2)) fun σ F H Q g s t k => ha σ F H _ g s t fun v F1 H1 g1 hv => by
    have hv2 : ∃ p, v = .ref p ∧ (SqL X.K H1 p (ns.map V.int) ∨ SqT X.K H1 p (ns.map V.int)) := by
      rcases hv with ⟨l, vs, h1, h2, h3⟩ | hv
      · rw [al_int h3] at h2
        exact ⟨l, h1, .inl (SqL.of (g1.sub.at h2))⟩
      · obtain ⟨l, h1, h2⟩ := rSet_at hv
        exact ⟨l, h1, .inr (SqT.of (g1.sub.at h2))⟩
    obtain ⟨p, e1, e2⟩ := hv2
    refine ⟨p, ns, by rw [e1], e2, hn, fun b cc hb hcc => ⟨b, _, cc, rfl, upd_same, by omega, fun ns' d hs' hmem hl hd => ?_⟩⟩
    have g2 := Gr.newM (o := SetO X.w b (fun j => decide (j ∈ ns)) cc) g1.sub g1.tb hb
    have g3 := Gr.new (o := .lst (ns'.map V.int)) g2.sub g2.tb hd lst_tbl
    have em : ns' = mkSet ns := mkSet_of hs' fun c => (hmem c).trans decide_eq_true_iff
    rw [em]
    rw [em] at g3
    exact k _ _ _ ((g1.trans g2).trans g3) ⟨d, _, rfl, upd_same, al_int_of _⟩

theorem EE.sqL (h : EE T X G e (rLst r xs)) : EE T X G e (rSq r xs) := h.imp fun _ _ h => Or.inl h
theorem EE.sqT (h : EE T X G e (rTup r xs)) : EE T X G e (rSq r xs) := h.imp fun _ _ h => Or.inr h
/-! ### defs -/
/-- the promise of a def, by data -/
def spG (T : List (Addr × Str)) {ι : Type} (pre : ι → Prop) (args : ι → List Pd) (res : ι → Pd) : Sp := fun vs H Q _ => ∃ (x : ι) (F : Hp), pre x ∧ Sub F H ∧ Tabs T H ∧ AlP F (args x) vs ∧ ∀ v F' H', Gr T F H F' H' → (res x).p F' v → Q v H'
/-- a def that stands at a global name and keeps its promise -/
def Callee (T : List (Addr × Str)) (P : Program) (w : World) (K : PySem.W.Frag) (mg : Str → Option Value) (base : Heap) (k : Nat) (x : Str) (ps : List Str) {ι : Type} (pre : ι → Prop) (args : ι → List Pd) (res : ι → Pd) : Prop :=
  ∃ f fd, FnOk P w K mg base CX0 k f fd ps (spG T pre args res) ∧ mg x = some (.ref f) ∧ PySem.W.keepIn K (.ref f) = true ∧ Binds K fd ps []
theorem Callee.mono {P : Program} {w : World} {K : PySem.W.Frag} {mg : Str → Option Value} {base : Heap} {k k' : Nat} {x : Str} {ps : List Str} {ι : Type} {pre : ι → Prop} {args : ι → List Pd} {res : ι → Pd} (c : Callee T P w K mg base k x ps pre args res) (h : k ≤ k') : Callee T P w K mg base k' x ps pre args res :=
  let ⟨f, fd, h1, h2⟩ := c; ⟨f, fd, h1.mono h, h2⟩
theorem ee_call {ι : Type} {pre : ι → Prop} {args : ι → List Pd} {res : ι → Pd} {k : Nat} {x : Str} {pns : List Str} (cl : Callee T X.prog X.w X.K X.mg X.base k x pns pre args res) (hr : Room k X.A) (z : ι) (hz : pre z) (ha : EA T X G (e :: es) (args z)) (ho : res z = o := by rfl) (hg : Gl X x := by rfl)
    (hdb : (x == ("__debug__" : Str)) = false := by decide) (he : starEach (e :: es) X.env = (false, eval e X.env) :: starEach es X.env := by rfl) (hpl : (backTo pos (starEach es X.env)).any (·.1) = false := by rfl) : EE T X G (.Call (.Name x p1) (e :: es) [] pos) o := by
  subst ho
  obtain ⟨f, fd, h1, h2, h3, h4⟩ := cl
  refine ee_by (pe_call h1 hr hg h2 h3 h4 .nil pass0 wa hdb he hpl) fun σ F H Q g s t kq => ha σ F H _ g s t fun vs F1 H1 g1 hv => ?_
  show spG T pre args res (vs ++ []) H1 Q E0
  rw [List.append_nil]
  exact ⟨z, F1, hz, g1.sub, g1.tb, hv, fun v F2 H2 g2 hw => kq v F2 H2 (g1.trans g2) hw⟩
end
/-- a def of the text that stands at its name -/
def TextFn (K : PySem.W.Frag) (mg : Str → Option Value) (x : Str) (st : Stmt) : Prop := ∃ f fd, Fun K x x st f fd ∧ mg x = some (.ref f)
/-- what the slots hold at the start -/
def startG (n : Nat) (ps : List Pd) : Gm := ps.map some ++ List.replicate (n - ps.length) none
theorem env_none {F : Hp} : ∀ n : Nat, EnvOk F (List.replicate n none) (List.replicate n none)
  | 0 => True.intro
  | n + 1 => env_none (F := F) n
theorem env_start {F : Hp} {m : Nat} : ∀ {ps : List Pd} {vs : List V}, AlP F ps vs → EnvOk F (ps.map some ++ List.replicate m none) (vs.map some ++ List.replicate m none)
  | [], [], _ => env_none m
  | _ :: _, v :: _, ⟨h, t⟩ => ⟨⟨v, rfl, h⟩, env_start t⟩
section
variable {T : List (Addr × Str)} {P : Program} {w : World} {K : PySem.W.Frag} {mg : Str → Option Value} {base : Heap} {ι : Type} {pre : ι → Prop} {args : ι → List Pd} {res : ι → Pd}
theorem fn_by {x qual : Str} {st : Stmt} {f : Addr} {fd : FuncData} {N ps : List Str} {k : Nat} (Fn : Fun K x qual st f fd) (S : FnScope N ps (defScope st)) (hl : ∀ z, (args z).length = ps.length)
    (h : ∀ z, pre z → ∀ (cdv : Value) (A : Around) (outer : List Env) (s : Shared) (H : Hp) (E : XK), Room k (A.deeper (envOfC qual (defScope st) s.heap.objs.size f cdv)) →
      SS T (cxOf CX0 P w K mg base N qual (defScope st) f cdv A outer s H E).nox ⟨startG N.length (args z), none⟩ (defBody st) (fun _ => False) (res z)) : FnOk P w K mg base CX0 (k + 1) f fd ps (spG T pre args res) := by
  refine Fn.ok S (fun vs H Q E ⟨z, F, _, _, _, hv, _⟩ => by rw [hv.length, hl]) fun cdv A outer s H vs Q E hr ⟨z, F, hz, hs, ht, hv, hq⟩ => ⟨_, wss, ?_⟩
  have hvl := hv.length
  refine h z hz cdv A outer s H E hr F H F H _ _ ⟨Gr.refl hs ht, ?_, True.intro⟩ (fun _ z => z.elim) fun v F' H' g hw => hq v F' H' g hw
  show EnvOk F (startG N.length (args z)) (L2.start N vs)
  unfold startG L2.start
  rw [hvl]
  exact env_start hv
theorem callee_by {x : Str} {st : Stmt} {N ps : List Str} {k : Nat} (Fn : TextFn K mg x st) (S : FnScope N ps (defScope st)) (hl : ∀ z, (args z).length = ps.length)
    (hb : ∀ (kV doc pm : Value) (an : Option Addr) (cdv ct : Value) (us : List Value), us.length = ps.length → bindArgs (PySem.W.fnOf x x (defArgs st) (defBody st) (defScope st) .none kV doc pm an cdv ct) ⟨us, []⟩ = pure (ps.zip us))
    (h : ∀ z, pre z → ∀ (f : Addr) (cdv : Value) (A : Around) (outer : List Env) (s : Shared) (H : Hp) (E : XK), Room k (A.deeper (envOfC x (defScope st) s.heap.objs.size f cdv)) →
      SS T (cxOf CX0 P w K mg base N x (defScope st) f cdv A outer s H E).nox ⟨startG N.length (args z), none⟩ (defBody st) (fun _ => False) (res z)) : Callee T P w K mg base (k + 1) x ps pre args res := by
  obtain ⟨f, fd, F, hm⟩ := Fn
  exact ⟨f, fd, fn_by F S hl fun z hz cdv A outer s H E hr => h z hz f cdv A outer s H E hr, hm, F.kp, F.binds hb⟩
end
end FS
namespace FS
open PySem PySem.Spec PyProof.Rows L2 LamX FM
/-! ### the class: two sets -/
def nL : Str := "left"
def nR : Str := "right"
/-- an instance of the class at C with the two sets -/
def rFd (C : Addr) (x : List Int × List Int) : Pd := ⟨fun F v => ∃ a dx fs u w, v = .ref a ∧ F a = some (.ins C dx fs) ∧ fs.lookup nL = some u ∧ fs.lookup nR = some w ∧ (rSet x.1).p F u ∧ (rSet x.2).p F w,
  fun e ⟨a, dx, fs, u, w, h1, h2, h3, h4, h5, h6⟩ => ⟨a, dx, fs, u, w, h1, e _ _ h2, h3, h4, (rSet x.1).up e h5, (rSet x.2).up e h6⟩⟩
/-- the value at p -/
def rAt (p : Addr) : Pd := ⟨fun _ v => v = .ref p, fun _ h => h⟩
/-- an instance that is being made -/
def mI (C p : Addr) (n : Nat) (ps : List (Str × List Int)) : Mo := ⟨fun F o => ∃ dx fs, o = .ins C dx fs ∧ fs.length ≤ n ∧ ∀ q ∈ ps, ∃ u, fs.lookup q.1 = some u ∧ (rSet q.2).p F u,
  fun e ⟨dx, fs, h1, h2, h3⟩ => ⟨dx, fs, h1, h2, fun q hq => let ⟨u, h4, h5⟩ := h3 q hq; ⟨u, h4, (rSet q.2).up e h5⟩⟩, fun F o h => by
  obtain ⟨dx, fs, h1, _⟩ := h
  subst h1
  exact ⟨fun _ z => (nomatch z), fun _ _ z => by unfold CodeO at z; cases z⟩, fun F o h xs z => by
  obtain ⟨dx, fs, h1, _⟩ := h
  rw [h1] at z
  cases z⟩
/-- no value -/
def rNo : Pd := ⟨fun _ _ => False, fun _ h => h⟩
section
variable {T : List (Addr × Str)} {X : Cx} {G : Gm} {a b c e l : Expr} {p q o : Pd} {pos pos' p1 p2 : Pos} {C : Addr} {z : List Int × List Int} {N : As → Prop} {R : Pd}
theorem ee_left (cl : Cls X.K C) (n : NoAttr X.K C nL) (h : EE T X G e (rFd C z)) (hb : attributeBase e nL X.env (eval e X.env) = eval e X.env := by rfl) : EE T X G (.Attribute e nL pos) (rSet z.1) :=
  ee_by (pe_fld we hb) fun σ F H Q g s t k => h σ F H _ g s t fun v F1 H1 g1 ⟨a, dx, fs, u, w, h1, h2, h3, h4, h5, h6⟩ => ⟨a, C, dx, fs, u, h1, g1.sub.at h2, cl, n, h3, k u F1 H1 g1 h5⟩
theorem ee_right (cl : Cls X.K C) (n : NoAttr X.K C nR) (h : EE T X G e (rFd C z)) (hb : attributeBase e nR X.env (eval e X.env) = eval e X.env := by rfl) : EE T X G (.Attribute e nR pos) (rSet z.2) :=
  ee_by (pe_fld we hb) fun σ F H Q g s t k => h σ F H _ g s t fun v F1 H1 g1 ⟨a, dx, fs, u, w, h1, h2, h3, h4, h5, h6⟩ => ⟨a, C, dx, fs, w, h1, g1.sub.at h2, cl, n, h4, k w F1 H1 g1 h6⟩
/-- self.f = e -/
theorem s1_fld {x f : Str} {ns : List Int} {m : Nat} {ps : List (Str × List Int)} {p0 : Addr} (j : Nat) (cl : Cls X.K C) (n : NoAttr X.K C f) (h : EE T X G e (rSet ns)) (hm : m ≤ 900) (hf : ∀ q ∈ ps, q.1 ≠ f) (hn : N ⟨G, some (j, mI C p0 (m + 1) ((f, ns) :: ps))⟩) (hN : X.N[j]? = some x := by rfl)
    (hv : Vis X.env.scope x := by first | exact Or.inl rfl | exact Or.inr (Or.inl rfl) | exact Or.inr (Or.inr rfl)) (hd : (x == ("__debug__" : Str)) = false := by decide) (hcd : (x == ("__classdict__" : Str)) = false := by decide)
    (hs : swapsWith e (some (.Attribute (.Name x p1) f pos')) pos.line X.env = pure false := by rfl) :
    S1 T X ⟨G, some (j, mI C p0 m ps)⟩ (.Assign [.Attribute (.Name x p1) f pos'] e pos) N R := fun F0 H0 F H σ D s nn r2 pins s0 I => by
  refine (ps_fld (pv j hN hv hd hcd) we hs).run pins s0 σ H D I ?_
  refine h σ F H _ s.env s.gr.sub s.gr.tb fun v F1 H1 g1 hv => ?_
  have s1 := s.grow g1
  obtain ⟨l, o, k1, k2, k3, k4, dx, fs, k5, k6, k7⟩ := s1.mo
  subst k5
  refine ⟨.ref l, k1, l, C, dx, fs, rfl, k2, cl, n, by omega, ?_⟩
  refine nn _ hn _ F1 _ ⟨Gr.mut s1.gr k4 k3 k2 (fun _ z => nomatch z) (fun _ _ z => by unfold CodeO at z; cases z), s1.env, l, _, k1, upd_same, k3, k4, dx, _, rfl, ?_, fun q hq => ?_⟩
  · have := length_putF f v fs
    omega
  · rw [lookup_putF]
    rcases List.mem_cons.mp hq with e | hq
    · subst e
      exact ⟨v, if_pos rfl, hv⟩
    · rw [if_neg (hf q hq)]
      exact k7 q hq
end
/-- the promise of __init__ -/
def spInit (T : List (Addr × Str)) (C : Addr) : Sp := fun vs H Q _ => ∃ (F Hd : Hp) (p dx : Addr) (v1 v2 : V) (l r : List Int), vs = [.ref p, v1, v2] ∧ H = upd Hd p (.ins C dx []) ∧ Hd p = none ∧ Sub F Hd ∧ Tabs T Hd ∧ (rSq rInt l).p F v1 ∧ (rSq rInt r).p F v2 ∧ l.length ≤ 60 ∧ r.length ≤ 60 ∧
  ∀ F' H', Gr T F Hd F' H' → (rFd C (mkSet l, mkSet r)).p F' (.ref p) → Q .non H'
section
variable {T : List (Addr × Str)} {P : Program} {w : World} {K : PySem.W.Frag} {mg : Str → Option Value} {base : Heap}
theorem fn_init {x qual : Str} {st : Stmt} {f C : Addr} {fd : FuncData} {N : List Str} {a b c : Str} {k : Nat} (Fn : Fun K x qual st f fd) (S : FnScope N [a, b, c] (defScope st))
    (h : ∀ (l r : List Int) (p : Addr), l.length ≤ 60 → r.length ≤ 60 → ∀ (cdv : Value) (A : Around) (outer : List Env) (s : Shared) (H : Hp) (E : XK), Room k (A.deeper (envOfC qual (defScope st) s.heap.objs.size f cdv)) →
      SS T (cxOf CX0 P w K mg base N qual (defScope st) f cdv A outer s H E).nox ⟨[some (rAt p), some (rSq rInt l), some (rSq rInt r)] ++ List.replicate (N.length - 3) none, some (0, mI C p 0 [])⟩ (defBody st)
        (fun a' => ∃ G', a' = ⟨some (rAt p) :: G', some (0, mI C p 2 [(nR, mkSet r), (nL, mkSet l)])⟩) rNo) : FnOk P w K mg base CX0 (k + 1) f fd [a, b, c] (spInit T C) := by
  refine Fn.ok S (fun vs H Q E ⟨F, Hd, p, dx, v1, v2, l, r, e, _⟩ => by rw [e]; rfl) fun cdv A outer s H vs Q E hr ⟨F, Hd, p, dx, v1, v2, l, r, e, eH, hp, hs, ht, h1, h2, hl, hr2, hq⟩ => ⟨_, wss, ?_⟩
  subst e eH
  have fn := hs.none hp
  have fin : ∀ σ' F' H' G', Sat T F Hd ⟨some (rAt p) :: G', some (0, mI C p 2 [(nR, mkSet r), (nL, mkSet l)])⟩ σ' F' H' → Q .non H' := fun σ' F' H' G' s' => by
    have hg := s'.gr
    obtain ⟨l', o, k1, k2, k3, k4, dx', fs, k5, k6, k7⟩ := s'.mo
    obtain ⟨v, e1, e2⟩ := s'.env.get (i := 0) (p := rAt p) rfl
    have e2 : v = .ref p := e2
    rw [k1] at e1
    subst e2
    cases e1
    subst k5
    have hi : Inc F' (upd F' p (.ins C dx' fs)) := Inc.upd k3
    have g2 := hg.freeze k4 k2 (fun _ z => nomatch z) k3
    refine hq _ H' g2 ?_
    obtain ⟨w, w1, w2⟩ := k7 (nR, mkSet r) (List.mem_cons_self ..)
    obtain ⟨u, u1, u2⟩ := k7 (nL, mkSet l) (List.mem_cons_of_mem _ (List.mem_cons_self ..))
    exact ⟨p, dx', fs, u, w, rfl, upd_same, u1, w1, (rSet _).up hi u2, (rSet _).up hi w2⟩
  refine h l r p hl hr2 cdv A outer s _ E hr F Hd F _ _ _ ⟨Gr.newM hs ht hp, ?_, ?_⟩ (fun a' ⟨G', e⟩ σ' F' H' s' => ?_) fun v F' H' g hv => ?_
  · show EnvOk F ([some (rAt p), some (rSq rInt l), some (rSq rInt r)] ++ List.replicate (N.length - 3) none) (L2.start N [.ref p, v1, v2])
    exact ⟨⟨_, rfl, rfl⟩, ⟨_, rfl, h1⟩, ⟨_, rfl, h2⟩, env_none _⟩
  · exact ⟨p, _, rfl, upd_same, fn, hp, dx, [], rfl, Nat.le_refl 0, fun q hq => by simp at hq⟩
  · subst e
    exact fin σ' F' H' G' s'
  · exact False.elim hv
end
section
variable {T : List (Addr × Str)} {X : Cx} {G : Gm} {a b c e l : Expr} {p q o : Pd} {pos pos' p1 p2 : Pos} {C : Addr} {z : List Int × List Int} {N : As → Prop} {R : Pd}
/-- C(a, b) -/
theorem ee_make {x : Str} {f : Addr} {fd : FuncData} {ps : List Str} {k : Nat} {ls rs : List Int} (M : Mk X.K C f) (F : FnOk X.prog X.w X.K X.mg X.base CX0 k f fd ps (spInit T C)) (hb : Binds X.K fd ps []) (hm : X.mg x = some (.ref C)) (hr : Room (k + 1) X.A)
    (ha : EA T X G [a, b] [rSq rInt ls, rSq rInt rs]) (hl : ls.length ≤ 60) (hrl : rs.length ≤ 60) (hg : Gl X x := by rfl) (hdb : (x == ("__debug__" : Str)) = false := by decide) (he : starEach [a, b] X.env = (false, eval a X.env) :: starEach [b] X.env := by rfl)
    (hpl : (backTo pos (starEach [b] X.env)).any (·.1) = false := by rfl) : EE T X G (.Call (.Name x p1) [a, b] [] pos) (rFd C (mkSet ls, mkSet rs)) :=
  ee_by (pe_make M F hr hg hm hb .nil pass0 wa hdb he hpl) fun σ F0 H Q g s t kq => ha σ F0 H _ g s t fun vs F1 H1 g1 hv => fun y dx hy hdx hne => by
    match vs, hv with
    | [v1, v2], ⟨h1, h2, _⟩ =>
      have g2 := Gr.newM (o := .own y) g1.sub g1.tb hdx
      have hy2 : upd H1 dx (.own y) y = none := by
        rw [upd_ne fun z => hne z.symm]
        exact hy
      exact ⟨F1, upd H1 dx (.own y), y, dx, v1, v2, ls, rs, rfl, rfl, hy2, g2.sub, g2.tb, h1, h2, hl, hrl, fun F' H' g3 hw => ⟨rfl, kq _ F' H' ((g1.trans g2).trans g3) hw⟩⟩
/-- what isinstance asks of the class -/
structure IsC (K : PySem.W.Frag) (C : Addr) : Prop where
  cl : Cls K C
  ha : PySem.W.findIn K (.ref C) "__class__" = some (some (.builtin "object.__class__"))
  hn : PySem.W.specialIn K (.builtin "object.__class__") "__get__" = some (some (.builtin "getset_descriptor.__get__"))
  htk : PySem.W.takesIn K (.builtin "object.__class__") = some true
  hm : PySem.W.mroIn K C (.type "object") = some true
  me : PySem.W.kitOne K (.ref C) (.ref C) = some true
/-- isinstance(e, c), c the name of a class -/
theorem ee_isi {cv : V} {cu : Value} {k : Bool} (hm : X.mg "isinstance" = none) (h : EE T X G a p) (hc : PE X c (tC cv)) (cl : ClsV cv cu) (hk : ∀ F H v, Sub F H → p.p F v → ∃ t, TyX X.K H v t ∧ PySem.W.kitOne X.K t cu = some k) (hg : Gl X "isinstance" := by rfl)
    (hs : starEach [a, c] X.env = (false, eval a X.env) :: starEach [c] X.env := by rfl) (hs2 : starEach [c] X.env = (false, eval c X.env) :: starEach [] X.env := by rfl) : EE T X G (.Call (.Name "isinstance" p1) [a, c] [] pos) (rBl k) :=
  ee_by (pe_callB call_isi hg hm (by decide +kernel) (pa_cons we (pa_cons hc pa_nil hs2) hs) (he := hs) (hpl := by rw [hs2]; rfl)) fun σ F H Q g s t kq => h σ F H _ g s t fun v F1 H1 g1 hv => by
    obtain ⟨u, h1, h2⟩ := hk F1 H1 v g1.sub hv
    exact ⟨v, cv, u, cu, k, rfl, cl, h1, h2, kq _ F1 H1 g1 rfl⟩
theorem ee_isiC {x : Str} (hm : X.mg "isinstance" = none) (h : EE T X G a (rFd C z)) (ci : IsC X.K C) (hx : X.mg x = some (.ref C)) (hg : Gl X "isinstance" := by rfl) (hgx : Gl X x := by rfl) (hd : (x == ("__debug__" : Str)) = false := by decide)
    (hs : starEach [a, .Name x p2] X.env = (false, eval a X.env) :: starEach [.Name x p2] X.env := by rfl) (hs2 : starEach [.Name x p2] X.env = (false, eval (.Name x p2) X.env) :: starEach [] X.env := by rfl) : EE T X G (.Call (.Name "isinstance" p1) [a, .Name x p2] [] pos) (rBl true) :=
  ee_isi hm h (pe_glob (v := .ref C) hgx hx rfl hd) (.own C) (fun F H v s ⟨a, dx, fs, u, w, h1, h2, _⟩ => ⟨_, by rw [h1]; exact .base (.ins (s.at h2) ci.cl ci.ha ci.hn ci.htk ci.hm), ci.me⟩) hg hs hs2
theorem ee_isiT {x : Str} {tn : String} {k : Bool} (hm : X.mg "isinstance" = none) (h : EE T X G a p) (hx : X.mg x = none) (hv : bootBuiltins x = some (.type tn)) (hk : ∀ F H v, Sub F H → p.p F v → ∃ t, TyX X.K H v (.type t) ∧ kitB t tn = some k) (hg : Gl X "isinstance" := by rfl) (hgx : Gl X x := by rfl) (hn : x ≠ "__name__" := by decide) (hd : (x == ("__debug__" : Str)) = false := by decide)
    (hs : starEach [a, .Name x p2] X.env = (false, eval a X.env) :: starEach [.Name x p2] X.env := by rfl) (hs2 : starEach [.Name x p2] X.env = (false, eval (.Name x p2) X.env) :: starEach [] X.env := by rfl) : EE T X G (.Call (.Name "isinstance" p1) [a, .Name x p2] [] pos) (rBl k) :=
  ee_isi hm h (pe_bltn (v := .ty tn) hgx hx hv rfl hn hd) (.ty tn) (fun F H v s h => let ⟨t, h1, h2⟩ := hk F H v s h; ⟨_, h1, kit_ty h2⟩) hg hs hs2
/-- == of pairs of sets that are the same -/
theorem shaped_pair (ns ms : List Int) : SeqAt.shaped (.tuple [.tuple (ns.map .int), .tuple (ms.map .int)]) = true := by
  have h1 : ∀ ns : List Int, PyData.canLayAll0 (ns.map .int) = true := by
    intro ns
    induction ns with
    | nil => simp [PyData.canLayAll0]
    | cons n r ih =>
      show PyData.canLayAll0 (.int n :: r.map .int) = true
      rw [PyData.canLayAll0, ih]
      simp [PyData.canLay0]
  have h2 : ∀ ns : List Int, PyData.depthAll (ns.map .int) = 0 := by
    intro ns
    induction ns with
    | nil => simp [PyData.depthAll]
    | cons n r ih =>
      show PyData.depthAll (.int n :: r.map .int) = 0
      rw [PyData.depthAll, ih]
      simp [PyData.depth]
  unfold SeqAt.shaped
  simp [PyData.canLay0, PyData.canLayAll0, PyData.depth, PyData.depthAll, h1, h2]
theorem ee_eqPair (hu : X.A.units + 64 < cLine) (ha : EE T X G a (rPr rSet rSet z)) (hb : EE T X G b (rPr rSet rSet z)) : EE T X G (.Compare a [.Eq] [b] pos) (rBl true) :=
  ee_bin (pe_cmpR (op_eqD hu) we we (nomark _)) ha hb fun F H x y Q s t hx hy k => by
    obtain ⟨l, u1, w1, e1, e2, e3, e4⟩ := hx
    obtain ⟨m, u2, w2, f1, f2, f3, f4⟩ := hy
    obtain ⟨a1, b1, b2⟩ := rSet_at e3
    obtain ⟨a2, b3, b4⟩ := rSet_at e4
    obtain ⟨a3, b5, b6⟩ := rSet_at f3
    obtain ⟨a4, b7, b8⟩ := rSet_at f4
    subst e1 f1 b1 b3 b5 b7
    have d : ∀ {a : Addr} {ns : List Int}, F a = some (.tup (ns.map V.int)) → Dp X.K H (.ref a) (.tuple (ns.map .int)) := fun h => .tup (SqT.of (s.at h)) (dpall_ints _)
    refine ⟨_, _, .tup (SqT.of (s.at e2)) (.cons (d b2) (.cons (d b4) .nil)), .tup (SqT.of (s.at f2)) (.cons (d b6) (.cons (d b8) .nil)), shaped_pair _ _, shaped_pair _ _, ?_⟩
    have e : PyData.eqv (.tuple [.tuple (z.1.map .int), .tuple (z.2.map .int)]) (.tuple [.tuple (z.1.map .int), .tuple (z.2.map .int)]) = true := by
      simp [PyData.eqv, PyData.eqvAll, eqvAll_ints]
    rw [e]
    exact k _ F H (Gr.refl s t) rfl
/-- e.f, a property -/
theorem ee_prop {f : Str} {pp g : Addr} {fd : FuncData} {ps : List Str} {k : Nat} {res : List Int × List Int → Pd} (cl : Cls X.K C) (hp : PropOf X.K C f pp g) (F : FnOk X.prog X.w X.K X.mg X.base CX0 k g fd ps (spG T (fun _ => True) (fun z => [rFd C z]) res)) (hb : Binds X.K fd ps []) (hr : Room (k + 1) X.A) (h : EE T X G e (rFd C z))
    (hab : attributeBase e f X.env (eval e X.env) = eval e X.env := by rfl) : EE T X G (.Attribute e f pos) (res z) :=
  ee_by (pe_prop (dvs := []) (ds := []) we cl hp F hr hb .nil pass0 hab) fun σ F0 H Q g s t k => h σ F0 H _ g s t fun v F1 H1 g1 hv => by
    obtain ⟨a, dx, fs, u, w, h1, h2, h3⟩ := id hv
    subst h1
    exact ⟨a, dx, fs, rfl, g1.sub.at h2, z, F1, True.intro, g1.sub, g1.tb, ⟨hv, True.intro⟩, fun v F2 H2 g2 hw => k v F2 H2 (g1.trans g2) hw⟩
end
end FS
namespace FS
open PySem PySem.Spec PyProof.Rows L2 LamX NdefX FM
/-! ### a lambda as the key of sorted -/
/-- the key of a set: its length, then itself -/
def kOf (x : List Int) : PyData := .tuple [.int x.length, .tuple (x.map .int)]
section
variable {X : Cx} {pins : List (Addr × Obj)} {σ : L2.St} {H : Hp} {s : Shared}
/-- the lambda is made: what has grown -/
theorem lam_mk {T : List (Addr × Str)} {c P : Addr} {params : Arguments} {body : Expr} {scope : Scope} {pos : Pos} {E : Value → Shared → Prop} {Q : Value → Shared → Prop} {q : Str} (I : Inv X pins σ H s) (TB : TabB X.base X.mg c P) (hcode : X.env.code = .ref c) (hq : X.env.qual ++ "<lambda>" = q)
    (hm : T = [(P, q)]) (hT : Tabs T H) (hdef : defaultsOf params X.env = ([], [])) (hfree : ∀ y ∈ scope.names, y.2 ≠ .free)
    (h : ∀ (f c' : Addr) (pm ctv : Value) (H1 : Hp) (s' : Shared), Inv X pins σ H1 s' → (∀ F, FS.Sub F H → Gr T F H F H1) → s'.heap.get? f = some (PySem.W.kla_obj "<lambda>" q params body scope (cloFrom X.env.cells scope.names []) pm c' ctv) → s'.heap.CodeRec (.ref c') q → Q (.ref f) s') :
    wpAny (model X.prog X.w) X.A (eval (.Lambda params body scope pos) X.env) Q E s := by
  subst hm hq
  have hf2 : ∀ y ∈ scope.names, y.2 = .free → ∃ c, X.env.cells.lookup y.1 = some c := fun y hy e => absurd e (hfree y hy)
  obtain ⟨ps, hP, tr, nm⟩ := hT _ (List.mem_singleton_self _)
  have gP : s.heap.get? P = some { cls := .none, data := .fields ps } := I.hok P _ hP
  have bP := TB.bm.keeps I.bk
  refine PySem.W.kla_eval hdef ?_
  cases found : codeAmong pos ps.toList with
  | some cv =>
    obtain ⟨c', e, hco⟩ := nm pos cv found
    subst e
    refine PySem.W.kla_makeFunctionHit (mg := X.mg) (c := c) (P := P) (ps := ps) (closure_ok hf2) I.ok.glob (I.mod.glob.keeps I.bk) hcode (TB.code.keeps I.bk) gP tr found bP fun ctv h' tk up hs => ?_
    have up2 : ∀ b o, s.heap.get? b = some o → (h'.push (PySem.W.kla_obj "<lambda>" (X.env.qual ++ "<lambda>") params body scope (cloFrom X.env.cells scope.names []) ((X.mg "__name__").getD .none) c' ctv)).get? b = some o := fun b o e => Heap.get?_push_of_some _ (up b o e)
    have J : Inv X pins σ H { s with heap := h'.push (PySem.W.kla_obj "<lambda>" (X.env.qual ++ "<lambda>") params body scope (cloFrom X.env.cells scope.names []) ((X.mg "__name__").getD .none) c' ctv), toks := tk } := I.kept up2
    exact h h'.objs.size c' _ ctv H _ J (fun F hs => Gr.refl hs hT) (Heap.get?_push_size _ rfl) (codeO_at J.hok hco)
  | none =>
    refine PySem.W.kla_makeFunction (mg := X.mg) (c := c) (P := P) (ps := ps) (closure_ok hf2) I.ok.glob (I.mod.glob.keeps I.bk) hcode (TB.code.keeps I.bk) gP tr found TB.gP bP fun c' ctv h' tk up ge lt rec_ tab => ?_
    obtain ⟨c2, oc, vs, t, e2, hoc, hd, hv⟩ := rec_
    cases e2
    have nC : H c' = none := I.hok.fresh ge
    have nPc : P ≠ c' := fun z => by
      rw [← z, hP] at nC
      cases nC
    have J := inv_table (t' := tk) (more := #[rawInt pos.line, rawInt pos.col, .ref c']) (h' := h'.push (PySem.W.kla_obj "<lambda>" (X.env.qual ++ "<lambda>") params body scope (cloFrom X.env.cells scope.names []) ((X.mg "__name__").getD .none) c' ctv)) I hP
      (fun b o hb e => Heap.get?_push_of_some _ (up b o hb e)) (Heap.get?_push_of_some _ tab) ge ⟨oc, vs, t, Heap.get?_push_of_some _ hoc, hd, hv⟩
    have off : ∀ b o, H b = some o → b ≠ P → upd (upd H P (.tbl (ps ++ #[rawInt pos.line, rawInt pos.col, .ref c']))) c' (CodeO c' (X.env.qual ++ "<lambda>")) b = some o := fun b o e nb => by
      rw [upd_ne (ne_of_none e nC), upd_ne nb]
      exact e
    have notP : ∀ b o, H b = some o → (∀ qs, o ≠ .tbl qs) → b ≠ P := fun b o e n z => by
      rw [z, hP] at e
      exact n ps (Option.some.inj e).symm
    have eL : (ps ++ #[rawInt pos.line, rawInt pos.col, .ref c']).toList = ps.toList ++ [rawInt pos.line, rawInt pos.col, .ref c'] := by simp
    have tabs : Tabs [(P, X.env.qual ++ "<lambda>")] (upd (upd H P (.tbl (ps ++ #[rawInt pos.line, rawInt pos.col, .ref c']))) c' (CodeO c' (X.env.qual ++ "<lambda>"))) := fun p hp => by
      rw [List.mem_singleton] at hp
      subst hp
      refine ⟨ps ++ #[rawInt pos.line, rawInt pos.col, .ref c'], (upd_ne nPc).trans upd_same, ?_, fun p' cv hcv => ?_⟩
      · rw [eL]
        exact PySem.TriplesOk_snoc _ _ _ _ tr
      · rw [eL] at hcv
        rcases among_app _ tr hcv with z | z
        · obtain ⟨c0, e1, e2⟩ := nm p' cv z
          exact ⟨c0, e1, off _ _ e2 (notP _ _ e2 codeO_ne)⟩
        · exact ⟨c', z, upd_same⟩
    refine h h'.objs.size c' _ ctv _ _ J (fun F hs => ⟨fun _ _ h => h, fun b o e nb => off b o e fun z => nb (by rw [z]; exact List.mem_singleton_self _), fun b e => ?_, fun b o e => ⟨off b o (hs.at e) (notP b o (hs.at e) (hs b o e).2), (hs b o e).2⟩, fun b o e => .inl e, hT, tabs⟩) (Heap.get?_push_size _ rfl)
      ⟨c', oc, vs, t, rfl, Heap.get?_push_of_some _ hoc, hd, hv⟩
    by_cases h1 : b = c'
    · rw [h1, upd_same] at e
      cases e
    · by_cases h2 : b = P
      · rw [upd_ne h1, h2, upd_same] at e
        cases e
      · rw [upd_ne h1, upd_ne h2] at e
        exact e
end
theorem reads_ints {h : Heap} : ∀ {ns : List Int} {us : List Value}, Vals (ns.map V.int) us → ReadsAll h us (ns.map .int) []
  | [], [], _ => .nil
  | n :: ns, u :: us, .cons r t => by
    obtain ⟨tk, e⟩ := (show ∃ t, u = Value.int n t from r)
    subst e
    exact .cons (as := []) (bs := []) (.int n tk) (reads_ints t)
section
variable {X : Cx} {pins : List (Addr × Obj)} {σ : L2.St} {H : Hp} {s : Shared}
/-- the key of one set -/
theorem key_turn {f c' a : Addr} {q : Str} {params : Arguments} {scope : Scope} {pm ctv : Value} {x : List Int} {p1 p2 p3 p4 p5 : Pos} {k5 : Nat} {t0 : Tok} (hr : Room 3 X.A) (I : Inv X pins σ H s)
    (hf : s.heap.get? f = some (PySem.W.kla_obj "<lambda>" q params (.Tuple [.Call (.Name "len" p1) [.Name "part" p2] [] p3, .Name "part" p4] k5 p5) scope [] pm c' ctv)) (hc : s.heap.CodeRec (.ref c') q) (S : NScope ["part"] ["part"] [] scope) (hg : scope.names.lookup ("len" : Str) = some .globalImplicit)
    (hbind : ∀ (pm cv ctv u : Value), bindArgs (PySem.W.kla_fn "<lambda>" q params (.Tuple [.Call (.Name "len" p1) [.Name "part" p2] [] p3, .Name "part" p4] k5 p5) scope [] pm cv ctv) ⟨[u], []⟩ = pure [(("part" : Str), u)]) (hm : X.mg "len" = none)
    (ha : H a = some (.tup (x.map V.int))) : wpAny (model X.prog X.w) X.A.in1.in1 (call (.ref f) [.ref a]) (PySem.W.KeyPure (kOf x) s) (fun _ _ => False) s := by
  have S2 := S
  have lim : s.heap.NoLimit := I.nolimit
  refine wpAny_call (PySem.W.kla_callFunE hr.in1.in1.depth hf rfl S.co S.gen rfl hc ?_)
  rw [hbind]
  refine wpAny_pure (wpAny_newFunctionEnv S.nocell (fun y hy => by rw [List.mem_singleton] at hy; rw [hy]; exact S.par _ (List.mem_singleton_self _)) (fun h₁ hns hsb => ⟨lim.fresh _ hsb, ?_⟩) S.kind)
  have kp : ∀ b o, s.heap.get? b = some o → h₁.get? b = some o := fun b o e => hsb.extBut b o (Nat.ne_of_lt (Heap.lt_size e)) (Heap.get?_push_of_some _ e)
  have J : Inv (ncx CX0 X.prog X.w X.K X.mg X.base ["part"] ⟨"<lambda>", q, params, [], scope, [], c'⟩ f X.A.in1.in1 X.stack s H E0) [] (startF ["part"] [V.ref a] []) H { s with heap := h₁, toks := s.toks + 1 } :=
    inv_startN (F := ⟨"<lambda>", q, params, [], scope, [], c'⟩) (ps := ["part"]) (us := [.ref a]) (fr := []) S hr.hd I.env0.in1.in1 rfl (.cons rfl .nil) ⟨rfl, fun y c e => by simp at e, fun x y c e => by simp at e, fun i y e => by simp at e⟩ hns kp
  show codeAny _ _ (.expr _ (ncx CX0 X.prog X.w X.K X.mg X.base ["part"] ⟨"<lambda>", q, params, [], scope, [], c'⟩ f X.A.in1.in1 X.stack s H E0).env) _ _
  have gl : Gl (ncx CX0 X.prog X.w X.K X.mg X.base ["part"] ⟨"<lambda>", q, params, [], scope, [], c'⟩ f X.A.in1.in1 X.stack s H E0) "len" := hg
  -- the parameter is read
  have rd : ∀ {s2 : Shared} {p : Pos} {Q : Value → Shared → Prop} {E : Value → Shared → Prop}, Inv (ncx CX0 X.prog X.w X.K X.mg X.base ["part"] ⟨"<lambda>", q, params, [], scope, [], c'⟩ f X.A.in1.in1 X.stack s H E0) [] (startF ["part"] [V.ref a] []) H s2 → Q (.ref a) s2 →
      wpAny (model X.prog X.w) (X.A.in1.in1.deeper (ncx CX0 X.prog X.w X.K X.mg X.base ["part"] ⟨"<lambda>", q, params, [], scope, [], c'⟩ f X.A.in1.in1 X.stack s H E0).env) (eval (.Name "part" p) (ncx CX0 X.prog X.w X.K X.mg X.base ["part"] ⟨"<lambda>", q, params, [], scope, [], c'⟩ f X.A.in1.in1 X.stack s H E0).env) Q E s2 := fun {s2 p Q E} J2 hq => by
    have hl : scope.names.lookup ("part" : Str) = some .local := S.par _ (List.mem_singleton_self _)
    obtain ⟨m, hn, look⟩ := J2.loc
    obtain ⟨u, r, l⟩ := look 0 "part" (.ref a) rfl rfl (.inl hl)
    cases (show u = Value.ref a from r)
    rcases l with ⟨hk, hm⟩ | ⟨hk, _⟩
    · exact wpAny_Name (wpAny_loadName_local J2.ok.kind hk hn hm hq) (by decide)
    · rcases hk with hk | hk
      · cases hl.symm.trans hk
      · cases hl.symm.trans hk
  refine PySem.W.kla_codeExpr (wpAny_Tuple_spliced (Calls.spliced_cons ?_))
  refine wpAny_Call_Name_kw (ld_blt J gl hm boot_len ?_)
  refine PyProof.Rows.callWith_builtin1 (Calls.spliced_cons (rd J (Calls.spliced_nil ?_)))
  have n63 := line63
  obtain ⟨its, rv, pl, hz⟩ := J.tuple (SqT.of ha)
  have hlen := rv.length
  have hlen2 : its.length = x.length := by rw [← hlen, List.length_map]
  refine len_tuple pl (by simp only [List.size_toArray] <;> omega) ?_
  have J2 := J.tok (s.toks + 1 + 1 + 1)
  refine Calls.spliced_cons (rd J2 (Calls.spliced_nil ⟨by rw [sizeLine_eq]; exact (show 2 ≤ 16777216 by decide), ?_⟩))
  refine ⟨_, _, rfl, fun b o e => Heap.get?_push_of_some _ (kp b o e), ?_⟩
  obtain ⟨o, ho, hcl, n, hd⟩ := pl
  refine .tuple (Heap.get?_push_size _ rfl) rfl rfl (.cons (as := []) (bs := []) ?_ (.cons (as := []) (bs := []) (.tuple (Heap.get?_push_of_some _ ho) hcl hd (reads_ints rv)) .nil))
  have e : ((its.toArray.size : Nat) : Int) = (x.length : Int) := by rw [List.size_toArray, hlen2]
  rw [e]
  exact .int _ _
end
/-- sets among the items -/
theorem each_of {F : Hp} : ∀ {vs : List V} {its : List Value} {xs : List (List Int)}, Vals vs its → Al F rSet vs xs → PySem.W.EachIs (fun v x => ∃ a, v = Value.ref a ∧ (rSet x).p F (.ref a)) its xs
  | [], [], [], _, _ => .nil
  | v :: vs, u :: us, x :: xs, .cons r t, ⟨h, k⟩ => by
    obtain ⟨a, e, _⟩ := rSet_at h
    subst e
    cases (show u = Value.ref a from r)
    exact .cons ⟨a, rfl, h⟩ (each_of t k)
theorem of_each {F : Hp} : ∀ {its : List Value} {xs : List (List Int)}, PySem.W.EachIs (fun v x => ∃ a, v = Value.ref a ∧ (rSet x).p F (.ref a)) its xs → ∃ vs, Vals vs its ∧ Al F rSet vs xs
  | _, _, .nil => ⟨[], .nil, True.intro⟩
  | _, _, .cons ⟨a, e, h⟩ t => by
    subst e
    obtain ⟨vs, h1, h2⟩ := of_each t
    exact ⟨.ref a :: vs, .cons rfl h1, h, h2⟩
theorem alike_k (x y : List Int) : PySem.W.alike (kOf x) (kOf y) = true := by
  simp [PySem.W.alike, PySem.W.alikeAll, kOf, PySem.W.alike_ints]
theorem depth_k (x : List Int) : (kOf x).depth = 2 := by
  simp [kOf, PyData.depth, PyData.depthAll, PySem.W.depth_ints]
section
variable {T : List (Addr × Str)} {X : Cx} {G : Gm} {e0 : Expr} {pos : Pos} {xs : List (List Int)}
/-- sorted(e, key=lambda part: (len(part), part)) -/
theorem ee_sortKey {c P : Addr} {q : Str} {params : Arguments} {scope : Scope} {p0 p1 p2 p3 p4 p5 p6 p7 : Pos} {k5 : Nat} (hr : Room 4 X.A) (hm : X.mg "sorted" = none) (hm2 : X.mg "len" = none) (TB : TabB X.base X.mg c P) (hcode : X.env.code = .ref c) (hq : X.env.qual ++ "<lambda>" = q) (hT : T = [(P, q)])
    (h : EE T X G e0 (rLst rSet xs)) (hx : xs.length ≤ 1000) (hS : NScope ["part"] ["part"] [] scope) (hgl : scope.names.lookup ("len" : Str) = some .globalImplicit) (hfree : ∀ y ∈ scope.names, y.2 ≠ .free) (hcl : cloFrom X.env.cells scope.names [] = [])
    (hbind : ∀ (pm cv ctv u : Value), bindArgs (PySem.W.kla_fn "<lambda>" q params (.Tuple [.Call (.Name "len" p1) [.Name "part" p2] [] p3, .Name "part" p4] k5 p5) scope [] pm cv ctv) ⟨[u], []⟩ = pure [(("part" : Str), u)])
    (hdef : defaultsOf params X.env = ([], [])) (hg : Gl X "sorted" := by rfl)
    (he : backTo pos (starEach [e0] X.env) = (false, eval e0 X.env) :: backTo pos (starEach [] X.env) := by rfl) (hpl : (backTo pos (starEach [e0] X.env)).any (·.1) = false := by rfl)
    (hall : (backToKw pos (keywordEach [⟨some "key", .Lambda params (.Tuple [.Call (.Name "len" p1) [.Name "part" p2] [] p3, .Name "part" p4] k5 p5) scope p6, p7⟩] X.env)).all (·.1.isSome) = true := by rfl) (hnone : (backToKw pos (keywordEach [⟨some "key", .Lambda params (.Tuple [.Call (.Name "len" p1) [.Name "part" p2] [] p3, .Name "part" p4] k5 p5) scope p6, p7⟩] X.env)).any (·.1.isNone) = false := by rfl) :
    EE T X G (.Call (.Name "sorted" p0) [e0] [⟨some "key", .Lambda params (.Tuple [.Call (.Name "len" p1) [.Name "part" p2] [] p3, .Name "part" p4] k5 p5) scope p6, p7⟩] pos) (rLst rSet (xs.mergeSort (PySem.W.dataLe false kOf))) := fun σ F H Q g s t kq pins s0 I => by
  refine wpAny_Call_Name_kw (ld_blt (u := .builtin "sorted") I hg hm (by decide +kernel) ?_)
  refine PyProof.Rows.callWith_kw ?_ he hpl hall hnone
  rw [he]
  refine Calls.spliced_cons (thn (h σ F H (fun v H1 => ∃ F1, Gr T F H F1 H1 ∧ (rLst rSet xs).p F1 v) g s t (fun v F1 H1 g1 hv => ⟨F1, g1, hv⟩) pins s0 I) fun u s1 ⟨v, H1, I1, r1, F1, g1, hv⟩ => ?_)
  refine Calls.spliced_nil ?_
  show wpAny _ _ (evalAll ((do let v ← eval (.Lambda params (.Tuple [.Call (.Name "len" p1) [.Name "part" p2] [] p3, .Name "part" p4] k5 p5) scope p6) X.env; standAt pos; pure v) :: [])) _ _ s1
  refine wpAny_evalAll_cons (wpAny_bind (lam_mk I1 TB hcode hq hT g1.tb hdef hfree fun f c' pm ctv H2 s2 I2 gg hf hc => wpAny_bind (wpAny_standAt (wpAny_pure (wpAny_evalAll_nil ?_)))))
  rw [hcl] at hf
  have g2 := gg F1 g1.sub
  obtain ⟨l, vs, e1, e2, e3⟩ := hv
  subst e1
  cases (show u = Value.ref l from r1)
  obtain ⟨its, rv, pl, hz⟩ := I2.list (SqL.of (g2.sub.at e2))
  have hlen := e3.length
  show wpAny _ _ (call (.builtin "sorted") [.ref l] [(Str.ofString "key", .ref f)]) _ _ s2
  refine PySem.W.sorted_key_data (b := false) (k := kOf) (R := fun v x => ∃ a, v = Value.ref a ∧ (rSet x).p F1 (.ref a)) pl.isList (each_of rv e3) (PySem.W.AllAlike.of alike_k) (PySem.W.Sortable.tuples fun x => ⟨_, _, rfl⟩) (by rw [sizeLine_eq]; omega) (fun x _ => by
    rw [depth_k]
    have := hr.un
    omega) (PyProof.Rows.ksk_s1 _ _) (fun _ => PyProof.Rows.ksk_l1 _ _) (fun _ => PyProof.Rows.ksk_t1 _ _) (fun v x hv hx h' tk up => ?_) fun out cc h' tk up fr at_ len eo => ?_
  · obtain ⟨a, ea, ha⟩ := hv
    subst ea
    obtain ⟨a', ea, ha⟩ := rSet_at ha
    cases ea
    have J : Inv X pins σ H2 { s2 with heap := h', toks := tk } := I2.kept up
    obtain ⟨cc, oc, ws, tq, z1, z2, z3, z4⟩ := hc
    exact key_turn (t0 := tk) (hr.mono (by decide)) J (up _ _ hf) ⟨cc, oc, ws, tq, z1, up _ _ z2, z3, z4⟩ hS hgl hbind hm2 (g2.sub.at (g2.fs _ _ ha))
  · obtain ⟨ws, rw1, al⟩ := of_each eo
    have nP : H2 (s2.heap.objs.size + 1) = none := I2.hok.fresh (Nat.le_succ _)
    have hwl : ws.length ≤ sizeLine := by
      rw [rw1.length, len, sizeLine_eq]
      omega
    have J := I2.laid (a := s2.heap.objs.size + 1) (o := .lst ws) (h' := h') (t' := tk) up (Nat.le_succ _) ⟨hwl, out, _, rw1, at_⟩
    have g3 := Gr.new (o := .lst ws) g2.sub g2.tb nP lst_tbl
    exact ⟨.ref (s2.heap.objs.size + 1), _, J, rfl, kq _ _ _ ((g1.trans g2).trans g3) ⟨_, ws, rfl, upd_same, al.up g3.fs⟩⟩
end
end FS
namespace FS
open PySem PySem.Spec PyProof.Rows L2 LamX FM
noncomputable def alls (n : Nat) : List (List Int) := (subs (wholeN n)).mergeSort (PySem.W.dataLe false kOf)
theorem le_len {x y : List Int} (h : PySem.W.dataLe false kOf x y = true) : x.length ≤ y.length := by
  rcases Nat.lt_or_ge y.length x.length with z | z
  · exfalso
    have e : PySem.W.dataLt (kOf y) (kOf x) = true := by
      unfold kOf
      rw [PySem.W.dataLt_pair (by simp [PySem.W.alike]) (by simp [PySem.W.alike, PySem.W.alike_ints]), PySem.W.dataLt_int]
      have n : PyData.eqv (.int (y.length : Int)) (.int (x.length : Int)) = false := by
        simp only [PyData.eqv, beq_eq_false_iff_ne]
        omega
      rw [n]
      simp
      omega
    rw [PySem.W.dataLe_eq] at h
    simp [e] at h
  · exact z
theorem alls_ok (n : Nat) : Alls n (alls n) := by
  refine ⟨fun x => ?_, ?_, ?_⟩
  · unfold alls
    rw [List.mem_mergeSort, mem_subs_whole]
  · have t := PySem.W.sortLe_total (PyProof.Rows.listOrd PyProof.Rows.itemOrd) false fun b => PySem.W.keyToks (kOf b)
    have p := List.pairwise_mergeSort (le := PySem.W.dataLe false kOf) (fun a b c => t.trans a b c) (fun a b => by rcases t.total a b with h | h <;> (have h : PySem.W.dataLe false kOf _ _ = true := h; simp [h])) (subs (wholeN n))
    exact p.imp fun h => le_len h
  · unfold alls
    rw [List.length_mergeSort]
    show (List.foldl sub1 [[]] (wholeN n)).length = _
    rw [len_subs]
    unfold wholeN
    simp
end FS
namespace FP
open PySem PySem.Spec PyProof.Rows L2 LamX FM FS
/-! ### the text by places -/
def top (i : Nat) : Stmt := PySem.Challenge.pw_followsortable_k62_whole_fewest.main.body.getD i (.Pass ⟨0, 0, 0, 0⟩)
/-- the built-ins' names are free -/
structure Bi (mg : Str → Option Value) : Prop where
  all : mg "all" = none
  any : mg "any" = none
  tuple : mg "tuple" = none
  list : mg "list" = none
  sorted : mg "sorted" = none
  set : mg "set" = none
  range : mg "range" = none
  len : mg "len" = none
  enumerate : mg "enumerate" = none
  isinstance : mg "isinstance" = none
  int : mg "int" = none
  str : mg "str" = none
section
variable {T : List (Addr × Str)} {P : Program} {w : World} {K : PySem.W.Frag} {mg : Str → Option Value} {base : Heap}
/-- is_within -/
theorem sc_within : FnScope ["a", "b", "column"] ["a", "b"] (defScope (top 5)) := ⟨rfl, rfl, rfl, by decide +kernel, rfl, by decide +kernel, by decide +kernel⟩
theorem c_within (Fn : TextFn K mg "is_within" (top 5)) (B : Bi mg) : Callee T P w K mg base 1 "is_within" ["a", "b"] (fun z => S5 z.1) (fun z : List Int × List Int => [rSet z.1, rSet z.2]) (fun z => rBl (within z.1 z.2)) := by
  refine callee_by Fn sc_within (fun _ => rfl) (fun _ _ _ _ _ _ us hl => match us, hl with | [_, _], _ => rfl) fun z hz f cdv A outer s H E hr => ?_
  have hl := hz.len
  refine ss_ret (EE.to (ee_all rfl B.all (ee_lc0 2 rfl sc_within (ei_tup (ev 0 rfl)) (f := fun c => decide (c ∈ z.2)) (fun a ha s H C cl fp => ee_in (ev 2 rfl) (ev 1 rfl)) (by omega))) ?_)
  unfold within
  rw [List.all_map]
  rfl
/-- met -/
theorem sc_met : FnScope ["a", "b", "column"] ["a", "b"] (defScope (top 3)) := ⟨rfl, rfl, rfl, by decide +kernel, rfl, by decide +kernel, by decide +kernel⟩
theorem c_met (Fn : TextFn K mg "met" (top 3)) (B : Bi mg) : Callee T P w K mg base 1 "met" ["a", "b"] (fun z => S5 z.1) (fun z : List Int × List Int => [rSet z.1, rSet z.2]) (fun z => rSet (met z.1 z.2)) := by
  refine callee_by Fn sc_met (fun _ => rfl) (fun _ _ _ _ _ _ us hl => match us, hl with | [_, _], _ => rfl) fun z hz f cdv A outer s H E hr => ?_
  have hl := hz.len
  refine ss_ret (EE.to (ee_tuple B.tuple (ee_lc 2 rfl sc_met (ei_tup (ev 0 rfl)) (f := fun c => c) (pT := fun c => decide (c ∈ z.2)) (fun a ha s H C cl fp => ets_one (et_in (ev 2 rfl) (ev 1 rfl))) (fun a ha _ s H C cl fp => ev 2 rfl) (by omega))) ?_)
  rw [List.map_id']
  rfl
/-- less -/
theorem sc_less : FnScope ["a", "b", "column"] ["a", "b"] (defScope (top 4)) := ⟨rfl, rfl, rfl, by decide +kernel, rfl, by decide +kernel, by decide +kernel⟩
theorem c_less (Fn : TextFn K mg "less" (top 4)) (B : Bi mg) : Callee T P w K mg base 1 "less" ["a", "b"] (fun z => S5 z.1) (fun z : List Int × List Int => [rSet z.1, rSet z.2]) (fun z => rSet (less z.1 z.2)) := by
  refine callee_by Fn sc_less (fun _ => rfl) (fun _ _ _ _ _ _ us hl => match us, hl with | [_, _], _ => rfl) fun z hz f cdv A outer s H E hr => ?_
  have hl := hz.len
  refine ss_ret (EE.to (ee_tuple B.tuple (ee_lc 2 rfl sc_less (ei_tup (ev 0 rfl)) (f := fun c => c) (pT := fun c => !decide (c ∈ z.2)) (fun a ha s H C cl fp => ets_one (et_notin (ev 2 rfl) (ev 1 rfl))) (fun a ha _ s H C cl fp => ev 2 rfl) (by omega))) ?_)
  rw [List.map_id']
  rfl
/-- as_set, of a list or a tuple -/
theorem sc_asset : FnScope ["columns"] ["columns"] (defScope (top 1)) := ⟨rfl, rfl, rfl, by decide +kernel, rfl, by decide +kernel, by decide +kernel⟩
theorem c_asset (Fn : TextFn K mg "as_set" (top 1)) (B : Bi mg) : Callee T P w K mg base 1 "as_set" ["columns"] (fun z => z.length ≤ 60) (fun z : List Int => [rSq rInt z]) (fun z => rSet (mkSet z)) := by
  refine callee_by Fn sc_asset (fun _ => rfl) (fun _ _ _ _ _ _ us hl => match us, hl with | [_], _ => rfl) fun z hz f cdv A outer s H E hr => ?_
  exact ss_ret (ee_tuple B.tuple (ee_sset rfl B.sorted B.set (ev 0 rfl) hz))
/-- united -/
theorem sc_united : FnScope ["a", "b"] ["a", "b"] (defScope (top 2)) := ⟨rfl, rfl, rfl, by decide +kernel, rfl, by decide +kernel, by decide +kernel⟩
theorem c_united (Fn : TextFn K mg "united" (top 2)) (B : Bi mg) (cA : Callee T P w K mg base 1 "as_set" ["columns"] (fun z => z.length ≤ 60) (fun z : List Int => [rSq rInt z]) (fun z => rSet (mkSet z))) :
    Callee T P w K mg base 2 "united" ["a", "b"] (fun z => S5 z.1 ∧ S5 z.2) (fun z : List Int × List Int => [rSet z.1, rSet z.2]) (fun z => rSet (uni z.1 z.2)) := by
  refine callee_by Fn sc_united (fun _ => rfl) (fun _ _ _ _ _ _ us hl => match us, hl with | [_, _], _ => rfl) fun z hz f cdv A outer s H E hr => ?_
  have h1 := hz.1.len
  have h2 := hz.2.len
  exact ss_ret (ee_call cA hr (z.1 ++ z.2) (by rw [List.length_append]; omega) (ea1 (ee_catL (ee_list B.list (ev 0 rfl)) (ee_list B.list (ev 1 rfl)) (by omega)).sqL))
/-- whole -/

theorem sc_whole : FnScope ["count"] ["count"] (defScope (top 6)) := ⟨rfl, rfl, rfl, by decide +kernel, rfl, by decide +kernel, by decide +kernel⟩
theorem c_whole (Fn : TextFn K mg "whole" (top 6)) (B : Bi mg) : Callee T P w K mg base 1 "whole" ["count"] (fun z => z ≤ 1000) (fun z : Nat => [rInt (z : Int)]) (fun z => rSet (wholeN z)) := by
  refine callee_by Fn sc_whole (fun _ => rfl) (fun _ _ _ _ _ _ us hl => match us, hl with | [_], _ => rfl) fun z hz f cdv A outer s H E hr => ?_
  exact ss_ret (ee_tupRg rfl B.tuple B.range (ev 0 rfl) hz)
end
end FP
namespace FP
open PySem PySem.Spec PyProof.Rows L2 LamX FM FS
/-- the classes as they stand -/
structure Fdx (K : PySem.W.Frag) (mg : Str → Option Value) (C : Addr) : Prop where
  cl : Cls K C
  nl : NoAttr K C nL
  nr : NoAttr K C nR
  ci : IsC K C
  at_ : mg "Fd" = some (.ref C)
  init : ∃ f fd, Mk K C f ∧ L2.Fun K "__init__" "Sides.__init__" (inClass (top 9) 0) f fd
  key : ∃ p g fd, PropOf K C "key" p g ∧ L2.Fun K "key" "Sides.key" (inClass (top 9) 1) g fd
  eq : ∃ f fd, PySem.W.findIn K (.ref C) "__eq__" = some (some (.ref f)) ∧ PySem.W.isFn K (.ref f) = true ∧ L2.Fun K "__eq__" "Fd.__eq__" (inClass (top 10) 0) f fd
section
variable {T : List (Addr × Str)} {P : Program} {w : World} {K : PySem.W.Frag} {mg : Str → Option Value} {base : Heap} {C : Addr}
/-- Fd(..) can be called -/
def MkOk (T : List (Addr × Str)) (P : Program) (w : World) (K : PySem.W.Frag) (mg : Str → Option Value) (base : Heap) (C : Addr) (k : Nat) : Prop :=
  ∃ f fd ps, Mk K C f ∧ FnOk P w K mg base CX0 k f fd ps (spInit T C) ∧ Binds K fd ps [] ∧ mg "Fd" = some (.ref C)
/-- .key can be read -/
def KyOk (T : List (Addr × Str)) (P : Program) (w : World) (K : PySem.W.Frag) (mg : Str → Option Value) (base : Heap) (C : Addr) (k : Nat) : Prop :=
  ∃ p g fd ps, PropOf K C "key" p g ∧ FnOk P w K mg base CX0 k g fd ps (spG T (fun _ => True) (fun z => [rFd C z]) (fun z => rPr rSet rSet z)) ∧ Binds K fd ps []
/-- == of two can be asked -/
def EqOk (P : Program) (w : World) (K : PySem.W.Frag) (mg : Str → Option Value) (base : Heap) (C : Addr) (k : Nat) : Prop :=
  ∃ f fd ps, PySem.W.findIn K (.ref C) "__eq__" = some (some (.ref f)) ∧ PySem.W.isFn K (.ref f) = true ∧ FnOk P w K mg base CX0 k f fd ps (spG [] (fun _ => True) (fun z => [rFd C z, rFd C z]) (fun _ => rBl true)) ∧ Binds K fd ps []
abbrev cAsSet (T : List (Addr × Str)) (P : Program) (w : World) (K : PySem.W.Frag) (mg : Str → Option Value) (base : Heap) : Prop := Callee T P w K mg base 1 "as_set" ["columns"] (fun z => z.length ≤ 60) (fun z : List Int => [rSq rInt z]) (fun z => rSet (mkSet z))
theorem sc_init : FnScope ["self", "left", "right"] ["self", "left", "right"] (defScope (inClass (top 9) 0)) := ⟨rfl, rfl, rfl, by decide +kernel, rfl, by decide +kernel, by decide +kernel⟩
theorem c_make (D : Fdx K mg C) (cA : cAsSet T P w K mg base) : MkOk T P w K mg base C 2 := by
  obtain ⟨f, fd, M, Fn⟩ := D.init
  refine ⟨f, fd, _, M, fn_init (k := 1) Fn sc_init fun l r p hl hr cdv A outer s H E room => ?_, Fn.binds fun _ _ _ _ _ _ us hl => match us, hl with | [_, _, _], _ => rfl, D.at_⟩
  refine ss_cons (s1_fld 0 D.cl D.nl (ee_call cA room l hl (ea1 (ev 1 rfl))) (by decide) (fun q hq => by simp at hq) ?_)
  refine ss_cons (s1_fld 0 D.cl D.nr (ee_call cA room r hr (ea1 (ev 2 rfl))) (by decide) (fun q hq => by simp at hq; rw [hq]; exact (by decide : nL ≠ nR)) ?_)
  exact ss_nil ⟨_, rfl⟩
theorem sc_key : FnScope ["self"] ["self"] (defScope (inClass (top 9) 1)) := ⟨rfl, rfl, rfl, by decide +kernel, rfl, by decide +kernel, by decide +kernel⟩
theorem c_key (D : Fdx K mg C) : KyOk T P w K mg base C 1 := by
  obtain ⟨p, g, fd, hp, Fn⟩ := D.key
  refine ⟨p, g, fd, ["self"], hp, fn_by (k := 0) Fn sc_key (fun _ => rfl) fun z _ cdv A outer s H E room => ?_, Fn.binds fun _ _ _ _ _ _ us hl => match us, hl with | [_], _ => rfl⟩
  exact ss_ret (ee_tup2 (ee_left D.cl D.nl (ev 0 rfl)) (ee_right D.cl D.nr (ev 0 rfl)))
theorem sc_eq : FnScope ["self", "other"] ["self", "other"] (defScope (inClass (top 10) 0)) := ⟨rfl, rfl, rfl, by decide +kernel, rfl, by decide +kernel, by decide +kernel⟩
theorem c_eq (D : Fdx K mg C) (B : Bi mg) : EqOk P w K mg base C 3 := by
  obtain ⟨f, fd, h1, h2, Fn⟩ := D.eq
  obtain ⟨p, g, fd', ps', hp, F, hb⟩ := c_key (T := []) (P := P) (w := w) (base := base) D
  refine ⟨f, fd, ["self", "other"], h1, h2, fn_by (k := 2) Fn sc_eq (fun _ => rfl) fun z _ cdv A outer s H E room => ?_, Fn.binds fun _ _ _ _ _ _ us hl => match us, hl with | [_, _], _ => rfl⟩
  refine ss_ret (EE.to (ee_and2 (ee_isiC B.isinstance (ev 1 rfl) D.ci D.at_) fun _ => ee_eqPair room.units (ee_prop D.cl hp F hb room (ev 0 rfl)) (ee_prop D.cl hp F hb room (ev 1 rfl))) rfl)
end
end FP
namespace FQ
open PySem PySem.Spec PyProof.Rows PySem.SeqAt
open AutoSeq1 (wpAny_loadPart')
open MeetsSeq MeetsSeq2 MeetsSeq3 SeqRoads2
section
variable {prog : Program} {w : World} {A : Around} {R : Result → Shared → Prop} {a b : Addr} {xs ys : Array Value} {n m : Nat} {da db : Option Addr} {sa sb : Array (Option Value)}
/-- != of two tuples whose items are equal one by one: False -/
theorem ne_tup (J : Nat → Shared → Prop) (len : ys.size = xs.size) {s : Shared} (j0 : J 0 s) (ga : s.heap.get? a = some { cls := .type "tuple", dict := da, data := .seq xs n, slots := sa }) (gb : s.heap.get? b = some { cls := .type "tuple", dict := db, data := .seq ys m, slots := sb })
    (each : ∀ k (q1 : k < xs.size) (q2 : k < ys.size) t, J k t → wpAny (model prog w) A.in1 (eqBool xs[k] ys[k]) (fun r t' => r = true ∧ J (k + 1) t') (fun e t' => R (.error e) t') t) (last : ∀ t, J xs.size t → R (.ok (.ret (.bool false))) t) :
    wpAny (model prog w) A.in1 (Builtin.«tuple.__ne__» ⟨[.ref a, .ref b], []⟩) (GQ.FinOf prog w A R) (fun e t => R (.error e) t) s := by
  have tt := AutoSeq1.sub_tuple_tuple
  have zl : (xs.toList.zip ys.toList).length = xs.size := by simp [len]
  have keep := j0
  obtain ⟨hp, gs, dd, tk, os⟩ := s
  wp_walk using wpAny_loadPart' ga, wpAny_loadPart' gb, wpAny_forIn_list _ (fun todo acc t => acc.1 = none ∧ ∃ k, k ≤ xs.size ∧ todo = (xs.toList.zip ys.toList).drop k ∧ J k t) _
  case h => exact ⟨rfl, 0, Nat.zero_le _, rfl, keep⟩
  case fin =>
    rintro ⟨c1, c2⟩ t ⟨hc, k, hk, hz, hj⟩
    simp only at hc
    subst hc
    have hge : xs.size ≤ k := by
      have := congrArg List.length hz
      rw [List.length_drop, zl] at this
      simp at this
      omega
    have ek : k = xs.size := Nat.le_antisymm hk hge
    subst ek
    have done := last t hj
    wp_walk
    simpa [Builtin.Tuple.tupleCompareSizes, len] using done
  case turn =>
    rintro ⟨u, v⟩ todo acc t ⟨hc, k, hk, hz, hj⟩
    have hlt : k < (xs.toList.zip ys.toList).length := by
      have := congrArg List.length hz
      rw [List.length_drop, List.length_cons] at this
      omega
    have q1 : k < xs.size := zl ▸ hlt
    have q2 : k < ys.size := by omega
    rw [List.drop_eq_getElem_cons hlt] at hz
    obtain ⟨huv, ht⟩ := List.cons.inj hz
    have hu : u = xs[k] := by simpa using congrArg Prod.fst huv
    have hv : v = ys[k] := by simpa using congrArg Prod.snd huv
    subst hu hv
    refine wpAny_bind (wpAny_mono (each k q1 q2 t hj) (fun r t2 z => ?_) fun _ _ x => x)
    obtain ⟨hr, hj2⟩ := z
    subst hr
    wp_walk
    exact ⟨rfl, k + 1, q1, ht, hj2⟩
end
section
variable {prog : Program} {w : World} {A : Around} {E : Value → Shared → Prop} {a b : Addr} {xs ys : Array Value}
theorem rc_neTup (J : Nat → Shared → Prop) {s : Shared} {Q : Value → Shared → Prop} (len : ys.size = xs.size) (hu : A.units < cLine) (ga : s.heap.IsTuple a xs) (gb : s.heap.IsTuple b ys) (j0 : J 0 s)
    (each : ∀ k (q1 : k < xs.size) (q2 : k < ys.size) t, J k t → wpAny (model prog w) A.in1 (eqBool xs[k] ys[k]) (fun r t' => r = true ∧ J (k + 1) t') E t) (last : ∀ t, J xs.size t → Q (.bool false) t) : wpAny (model prog w) A (richCompare .NotEq (.ref a) (.ref b)) Q E s := by
  obtain ⟨⟨ca, da, ta, sa⟩, ea, ka, n, fa⟩ := id ga
  obtain ⟨⟨cb, db, tb, sb⟩, eb, kb, m, fb⟩ := id gb
  simp only at ka fa kb fb
  subst ka fa kb fb
  refine wpAny_richCompare_same_room (op := .NotEq) ⟨_, ea, rfl⟩ ⟨_, eb, rfl⟩ F.slot_tuple_ne (GQ.call_here F.slot_tuple_ne ⟨_, ea, rfl⟩ F.entry_tuple_ne (F.args_tuple_ne_2 _ _) ?_) hu
  exact ne_tup (R := wants (fun v t => v ≠ .notImplemented ∧ Q v t) E) J len j0 ea eb each fun t q => ⟨(fun x => nomatch x), last t q⟩
end
end FQ
namespace FQ
open PySem PySem.Spec PyProof.Rows L2 LamX FM FS FP
section
variable {X : Cx} {n : Nat} {D : L2.Eqv}
/-- x != y of tuples that are seen to be equal -/
def rNeG (K : PySem.W.Frag) (D : L2.Eqv) : R2 := fun x y H Q => DTup K D x y H ∧ ∀ H', Ext H H' → Q (.bl false) H'
theorem op_neG (hD : Mon D) (h : EqG X n D) (hr : Room (n + 1) X.A) : OpR X (compareOp .NotEq) (rNeG X.K D) := by
  intro pins s σ H x y v u Q I rx ry hq
  obtain ⟨⟨a, b, xs, ys, ex, ey, ha, hb, p⟩, q⟩ := hq
  subst ex ey
  cases rx
  cases ry
  obtain ⟨its, r1, e1, z1⟩ := I.tuple ha
  obtain ⟨js, r2, e2, z2⟩ := I.tuple hb
  have len : js.toArray.size = its.toArray.size := by
    rw [List.size_toArray, List.size_toArray, ← r1.length, ← r2.length]
    exact p.1.symm
  show wpAny (model X.prog X.w) X.A (richCompare .NotEq (.ref a) (.ref b)) (EP X pins σ Q) X.xe s
  refine rc_neTup (fun _ t => LoopI X pins σ H t) len hr.units0 e1 e2 ⟨H, I, Ext.rfl'⟩ (fun k q1 q2 t ht => turnG hD h ⟨hr, rfl⟩ p r1 r2 k q1 q2 t ht) fun t ht => ?_
  obtain ⟨H', I', e⟩ := ht
  exact ⟨.bl false, H', I', rfl, q H' e⟩
end
/-! ### what fewest gives, told twice -/
section
variable {P : Program} {w : World} {K : PySem.W.Frag} {mg : Str → Option Value} {base : Heap} {C : Addr}
/-- two instances of the same datum -/
def Tw (C : Addr) : Addr → Addr → Hp → Prop := fun a b H => ∃ (F : Hp) (z : List Int × List Int), FS.Sub F H ∧ (rFd C z).p F (.ref a) ∧ (rFd C z).p F (.ref b)
theorem sub_ext {F H H' : Hp} (s : FS.Sub F H) (e : Ext H H') : FS.Sub F H' := fun b o h => ⟨e _ _ (s b o h).1, (s b o h).2⟩
theorem tw_mon {a b : Addr} {H H' : Hp} (e : Ext H H') : Tw C a b H → Tw C a b H' := fun ⟨F, z, s, h1, h2⟩ => ⟨F, z, sub_ext s e, h1, h2⟩
theorem gr_ext {F H F' H' : Hp} (g : Gr [] F H F' H') : Ext H H' := fun b o e => g.hk b o e (by simp)
theorem eqok_spEq {k : Nat} (h : EqOk P w K mg base C k) : ∃ f fd ps, PySem.W.findIn K (.ref C) "__eq__" = some (some (.ref f)) ∧ PySem.W.isFn K (.ref f) = true ∧ FnOk P w K mg base CX0 k f fd ps (spEq (Tw C)) ∧ Binds K fd ps [] := by
  obtain ⟨f, fd, ps, h1, h2, F, hb⟩ := h
  refine ⟨f, fd, ps, h1, h2, F.imp fun vs H Q E ⟨a, b, e, ⟨F0, z, s, t1, t2⟩, q⟩ => ⟨z, F0, True.intro, s, fun p hp => by simp at hp, ?_, fun v F' H' g hv => ?_⟩, hb⟩
  · rw [e]
    exact ⟨t1, t2, True.intro⟩
  · have hv : v = .bl true := hv
    rw [hv]
    exact q H' (gr_ext g)
theorem eqG_fd {X : Cx} {k : Nat} (h : EqOk X.prog X.w X.K X.mg X.base C k) : EqG X k (DIns C (Tw C)) := by
  obtain ⟨f, fd, ps, h1, h2, F, hb⟩ := eqok_spEq h
  exact eqG_ins F h1 h2 hb pass0
end
def dSet (K : PySem.W.Frag) : L2.Eqv := DTup K DFlat
def dPart (K : PySem.W.Frag) : L2.Eqv := fun x y H => DFlat x y H ∨ DTup K (dSet K) x y H
def dAll (K : PySem.W.Frag) (C : Addr) : L2.Eqv := fun x y H => DList (DIns C (Tw C)) x y H ∨ DTup K (dPart K) x y H
theorem mon_set {K : PySem.W.Frag} : Mon (dSet K) := mon_tup mon_flat
theorem mon_part {K : PySem.W.Frag} : Mon (dPart K) := mon_flat.or (mon_tup mon_set)
theorem mon_tw {C : Addr} : Mon (DIns C (Tw C)) := mon_ins fun a b H H' e h => tw_mon e h
theorem mon_all {K : PySem.W.Frag} {C : Addr} : Mon (dAll K C) := (mon_list mon_tw).or (mon_tup mon_part)
theorem eqG_all {X : Cx} {C : Addr} (h : EqOk X.prog X.w X.K X.mg X.base C 3) : EqG X 4 (dAll X.K C) := by
  have h1 : EqG X 1 (dSet X.K) := eqG_tup mon_flat eqG_flat
  have h2 : EqG X 2 (DTup X.K (dSet X.K)) := eqG_tup mon_set h1
  have h3 : EqG X 2 (dPart X.K) := (eqG_flat.mono (by decide)).or h2
  have h4 : EqG X 3 (DTup X.K (dPart X.K)) := eqG_tup mon_part h3
  exact (eqG_list mon_tw (eqG_fd h)).or (h4.mono (by decide))
/-- the cover and its paper -/
def rPaper (z : List (List Int) × List (List Int)) : Pd := rTuP [rStr "spread", rTup rSet z.1, rTup rSet z.2]
def rOut (C : Addr) : List (List Int × List Int) × (List (List Int) × List (List Int)) → Pd := rPr (rLst (rFd C)) rPaper
section
variable {K : PySem.W.Frag} {F H : Hp} {C : Addr}
theorem prs_of {α : Type} {r : α → Pd} {D : L2.Eqv} (s : FS.Sub F H) (h : ∀ x u v, (r x).p F u → (r x).p F v → D u v H) : ∀ {xs : List α} {us vs : List V}, Al F r us xs → Al F r vs xs → Prs D us vs H
  | [], [], [], _, _ => Prs.nil
  | x :: _, u :: _, v :: _, ⟨h1, t1⟩, ⟨h2, t2⟩ => Prs.cons (h x u v h1 h2) (prs_of s h t1 t2)
theorem d_int {i : Int} : DFlat (.int i) (.int i) H := ⟨rfl, rfl, by unfold eqV; simp⟩
theorem d_set (s : FS.Sub F H) {ns : List Int} {u v : V} (h1 : (rSet ns).p F u) (h2 : (rSet ns).p F v) : dSet K u v H := by
  obtain ⟨a, us, e1, e2, e3⟩ := h1
  obtain ⟨b, vs, f1, f2, f3⟩ := h2
  exact ⟨a, b, us, vs, e1, f1, SqT.of (s.at e2), SqT.of (s.at f2), prs_of s (fun x u v hu hv => by
    have hu : u = .int x := hu
    have hv : v = .int x := hv
    rw [hu, hv]
    exact d_int) e3 f3⟩
theorem d_sets (s : FS.Sub F H) {ns : List (List Int)} {u v : V} (h1 : (rTup rSet ns).p F u) (h2 : (rTup rSet ns).p F v) : DTup K (dSet K) u v H := by
  obtain ⟨a, us, e1, e2, e3⟩ := h1
  obtain ⟨b, vs, f1, f2, f3⟩ := h2
  exact ⟨a, b, us, vs, e1, f1, SqT.of (s.at e2), SqT.of (s.at f2), prs_of s (fun x u v hu hv => d_set s hu hv) e3 f3⟩
theorem d_paper (s : FS.Sub F H) {z : List (List Int) × List (List Int)} {u v : V} (h1 : (rPaper z).p F u) (h2 : (rPaper z).p F v) : DTup K (dPart K) u v H := by
  obtain ⟨a, us, e1, e2, e3⟩ := h1
  obtain ⟨b, vs, f1, f2, f3⟩ := h2
  match us, e3, vs, f3 with
  | [u1, u2, u3], ⟨p1, p2, p3, _⟩, [v1, v2, v3], ⟨q1, q2, q3, _⟩ =>
    have p1 : u1 = _ := p1
    have q1 : v1 = _ := q1
    refine ⟨a, b, _, _, e1, f1, SqT.of (s.at e2), SqT.of (s.at f2), Prs.cons (.inl ?_) (Prs.cons (.inr (d_sets s p2 q2)) (Prs.cons (.inr (d_sets s p3 q3)) Prs.nil))⟩
    rw [p1, q1]
    exact ⟨rfl, rfl, by unfold eqV; simp⟩
theorem d_cover (s : FS.Sub F H) {z : List (List Int × List Int)} {u v : V} (h1 : (rLst (rFd C) z).p F u) (h2 : (rLst (rFd C) z).p F v) : DList (DIns C (Tw C)) u v H := by
  obtain ⟨a, us, e1, e2, e3⟩ := h1
  obtain ⟨b, vs, f1, f2, f3⟩ := h2
  exact ⟨a, b, us, vs, e1, f1, s.at e2, s.at f2, prs_of s (fun x u v hu hv => by
    obtain ⟨a1, d1, fs1, u1, w1, k1, k2, k3⟩ := id hu
    obtain ⟨a2, d2, fs2, u2, w2, l1, l2, l3⟩ := id hv
    subst k1 l1
    exact ⟨a1, a2, d1, d2, fs1, fs2, rfl, rfl, s.at k2, s.at l2, F, x, s, hu, hv⟩) e3 f3⟩
end
section
variable {T : List (Addr × Str)} {X : Cx} {G : Gm} {a b : Expr} {pos : Pos} {C : Addr} {z : List (List Int × List Int) × (List (List Int) × List (List Int))}
theorem et_neOut (h : EqOk X.prog X.w X.K X.mg X.base C 3) (hr : Room 5 X.A) (ha : EE T X G a (rOut C z)) (hb : EE T X G b (rOut C z)) : ET T X G (.Compare a [.NotEq] [b] pos) false :=
  et_bin (pt_cmpR (op_neG mon_all (eqG_all h) hr) we we (nomark _)) ha hb fun F H x y Q s t hx hy k => by
    obtain ⟨l, u1, w1, e1, e2, e3, e4⟩ := hx
    obtain ⟨m, u2, w2, f1, f2, f3, f4⟩ := hy
    refine ⟨⟨l, m, [u1, w1], [u2, w2], e1, f1, SqT.of (s.at e2), SqT.of (s.at f2), Prs.cons (.inl (d_cover s e3 f3)) (Prs.cons (.inr (d_paper s e4 f4)) Prs.nil)⟩, fun H' e => ?_⟩
    refine k F H' ⟨fun _ _ h => h, fun b o h _ => e b o h, fun b hb => ?_, sub_ext s e, fun b o h => .inl h, t, t.ext e⟩
    cases q : H b with
    | none => rfl
    | some o =>
      rw [e b o q] at hb
      cases hb
end
end FQ
namespace FS
open PySem PySem.Spec PyProof.Rows L2 LamX FM
section
variable {T : List (Addr × Str)} {X : Cx} {a b : As} {G : Gm} {N N' : As → Prop} {R p q : Pd} {st : Stmt} {sts : List Stmt} {e c tg it : Expr} {pos pos' : Pos} {F0 H0 F H F1 H1 : Hp} {σ : L2.St}
/-- a for whose state has a datum g of its own -/
theorem s1_forE {ι : Type} {ps : List Pd} {ws : List Nat} {body : List Stmt} (hp : PassesOwn (model X.prog X.w) X.A X.env X.xe) (hc : X.calm = true) (hi : EI T X a.G tg it ps) (Pr : Nat → ι → Prop) (Iv : Nat → ι → As) (g0 : ι) (p0 : Pr 0 g0) (h0 : AImp a (Iv 0 g0))
    (hm : ∀ i g j M, (Iv i g).m = some (j, M) → j ∉ ws)
    (hs : ∀ i g p, ps[i]? = some p → Pr i g → ∃ G', TG1 T X tg ws p (Iv i g).G G' ∧ SS T X ⟨G', (Iv i g).m⟩ body (fun a' => ∃ g', Pr (i + 1) g' ∧ AImp a' (Iv (i + 1) g')) R)
    (hn : ∀ g, Pr ps.length g → N (Iv ps.length g)) (hf : ∀ x, foldedSetIterable it X.env x = pure x := by intro _; rfl) : S1 T X a (.For tg it body [] pos) N R := fun F0 H0 F H σ D s n r pins s0 I => by
  refine (ps_for hp hc wi wg wss hf).run pins s0 σ H D I (hi σ F H _ s.env s.gr.sub s.gr.tb fun J Fb Hb Gd Y g1 W hGd hY => ?_)
  obtain ⟨Hn, gn, sn⟩ := (s.grow g1).rebase
  refine for_it W (fun i σ' H' => ∃ g F', Pr i g ∧ Sat T Fb Hn (Iv i g) σ' F' H') ⟨g0, Fb, p0, h0.sat sn⟩ ?_ ?_ ?_
  · rintro i σ' H' _ ⟨g, F', _, s'⟩
    exact hGd H' fun b o e => s'.gr.sub.at (s'.gr.fs b o e)
  · rintro i x σ' H2 H3 hil ⟨g, F', pg, s'⟩ y
    obtain ⟨p, F3, hpi, g3, px⟩ := hY i F' H2 x H3 y hil s'.gr.fs s'.gr.sub s'.gr.tb
    obtain ⟨G', ht, hb⟩ := hs i g p hpi pg
    have s3 := s'.grow g3
    refine ht σ' F3 H3 x _ s3.env px g3.sub g3.tb fun σ4 e4 k4 => ?_
    have s4 := s3.store e4 k4 (hm i g)
    exact hb Fb Hn F3 H3 σ4 _ s4 (fun a' ⟨g', pg', ha⟩ σ5 F5 H5 s5 => ⟨g', F5, pg', ha.sat s5⟩) fun v F5 H5 g5 hv => r v F5 H5 (gn.trans g5) hv
  · rintro σ' H' ⟨g, F', pg, s'⟩
    exact n _ (hn g pg) σ' F' H' (s'.onto gn)
/-- over a list (or a tuple), its item in the slot n -/
theorem s1_forG {ι : Type} {α : Type} {r : α → Pd} {xs : List α} {body : List Stmt} {x : Str} {px : Pos} (n : Nat) (hp : PassesOwn (model X.prog X.w) X.A X.env X.xe) (hc : X.calm = true) (hi : EI T X a.G (.Name x px) it (xs.map r)) (Pr : Nat → ι → Prop) (Iv : Nat → ι → As) (g0 : ι) (p0 : Pr 0 g0) (h0 : AImp a (Iv 0 g0))
    (hm : ∀ i g j M, (Iv i g).m = some (j, M) → j ≠ n) (hN : X.N.Nodup)
    (hs : ∀ i g z, xs[i]? = some z → Pr i g → SS T X ⟨(Iv i g).G.set n (some (r z)), (Iv i g).m⟩ body (fun a' => ∃ g', Pr (i + 1) g' ∧ AImp a' (Iv (i + 1) g')) R)
    (hn : ∀ g, Pr xs.length g → N (Iv xs.length g)) (hx : X.N[n]? = some x := by rfl) (hl : Loc X.env.scope x := by first | exact Or.inl rfl | exact Or.inr rfl) (hf : ∀ x, foldedSetIterable it X.env x = pure x := by intro _; rfl) (hfn : X.fn x = true ∨ X.env.scope.names.lookup x = some .local := by exact Or.inl rfl) : S1 T X a (.For (.Name x px) it body [] pos) N R :=
  s1_forE hp hc hi Pr Iv g0 p0 h0 (fun i g j M e z => hm i g j M e (List.mem_singleton.mp z)) (fun i g p hpi pg => by
    rw [List.getElem?_map] at hpi
    cases e : xs[i]? with
    | none =>
      rw [e] at hpi
      cases hpi
    | some z =>
      rw [e] at hpi
      have ep : r z = p := Option.some.inj hpi
      subst ep
      exact ⟨_, tg_name n hN hx hl hfn, hs i g z e pg⟩) (by rw [List.length_map]; exact hn) hf
/-- .. its only datum a fact -/
theorem s1_forP {α : Type} {r : α → Pd} {xs : List α} {body : List Stmt} {x : Str} {px : Pos} (n : Nat) (hp : PassesOwn (model X.prog X.w) X.A X.env X.xe) (hc : X.calm = true) (hi : EI T X a.G (.Name x px) it (xs.map r)) (Pr : Nat → Prop) (Iv : Nat → As) (p0 : Pr 0) (h0 : AImp a (Iv 0))
    (hm : ∀ i j M, (Iv i).m = some (j, M) → j ≠ n) (hN : X.N.Nodup)
    (hs : ∀ i z, xs[i]? = some z → Pr i → SS T X ⟨(Iv i).G.set n (some (r z)), (Iv i).m⟩ body (fun a' => Pr (i + 1) ∧ AImp a' (Iv (i + 1))) R)
    (hn : Pr xs.length → N (Iv xs.length)) (hx : X.N[n]? = some x := by rfl) (hl : Loc X.env.scope x := by first | exact Or.inl rfl | exact Or.inr rfl) (hf : ∀ x, foldedSetIterable it X.env x = pure x := by intro _; rfl) (hfn : X.fn x = true ∨ X.env.scope.names.lookup x = some .local := by exact Or.inl rfl) : S1 T X a (.For (.Name x px) it body [] pos) N R :=
  s1_forG (ι := Unit) n hp hc hi (fun i _ => Pr i) (fun i _ => Iv i) () p0 h0 (fun i _ => hm i) hN (fun i _ z hz pg => (hs i z hz pg).mono fun a' h => ⟨(), h⟩) (fun _ => hn) hx hl hf hfn
/-- over numbered items: the number in the slot n1, the item in n2 -/
theorem s1_forN {α : Type} {r : α → Pd} {xs : List α} {body : List Stmt} {x1 x2 : Str} {px1 px2 tpos : Pos} {kk : Nat} (n1 n2 : Nat) (hp : PassesOwn (model X.prog X.w) X.A X.env X.xe) (hc : X.calm = true)
    (hi : EI T X a.G (.Tuple [.Name x1 px1, .Name x2 px2] kk tpos) it ((xs.zip (List.range xs.length)).map fun z => rPr (fun (i : Nat) => rInt (i : Int)) r (z.2, z.1))) (Pr : Nat → Prop) (Iv : Nat → As) (p0 : Pr 0) (h0 : AImp a (Iv 0))
    (hm : ∀ i j M, (Iv i).m = some (j, M) → j ≠ n1 ∧ j ≠ n2) (hN : X.N.Nodup)
    (hs : ∀ i z, xs[i]? = some z → Pr i → SS T X ⟨((Iv i).G.set n1 (some (rInt (i : Int)))).set n2 (some (r z)), (Iv i).m⟩ body (fun a' => Pr (i + 1) ∧ AImp a' (Iv (i + 1))) R)
    (hn : Pr xs.length → N (Iv xs.length)) (hx1 : X.N[n1]? = some x1 := by rfl) (hl1 : Loc X.env.scope x1 := by first | exact Or.inl rfl | exact Or.inr rfl) (hfn1 : X.fn x1 = true ∨ X.env.scope.names.lookup x1 = some .local := by exact Or.inl rfl)
    (hx2 : X.N[n2]? = some x2 := by rfl) (hl2 : Loc X.env.scope x2 := by first | exact Or.inl rfl | exact Or.inr rfl) (hfn2 : X.fn x2 = true ∨ X.env.scope.names.lookup x2 = some .local := by exact Or.inl rfl) (hf : ∀ x, foldedSetIterable it X.env x = pure x := by intro _; rfl)
    (e1 : (assignEach [.Name x1 px1, .Name x2 px2] X.env).map (·.2) = assign (.Name x1 px1) X.env :: (assignEach [.Name x2 px2] X.env).map (·.2) := by rfl) (e2 : (assignEach [.Name x2 px2] X.env).map (·.2) = assign (.Name x2 px2) X.env :: (assignEach [] X.env).map (·.2) := by rfl)
    (hn2 : (assignEach [.Name x1 px1, .Name x2 px2] X.env).length = 2 := by rfl) (hst : (assignEach [.Name x1 px1, .Name x2 px2] X.env).findIdx? (·.1) = none := by rfl) : S1 T X a (.For (.Tuple [.Name x1 px1, .Name x2 px2] kk tpos) it body [] pos) N R :=
  s1_forE (ι := Unit) (ws := [n1] ++ [n2]) hp hc hi (fun i _ => Pr i) (fun i _ => Iv i) () p0 h0 (fun i _ j M e z => by
    obtain ⟨h1, h2⟩ := hm i j M e
    rcases List.mem_append.mp z with z | z
    · exact h1 (List.mem_singleton.mp z)
    · exact h2 (List.mem_singleton.mp z)) (fun i _ p hpi pg => by
    rw [List.getElem?_map] at hpi
    cases e : xs[i]? with
    | none =>
      have hl := List.getElem?_eq_none_iff.mp e
      rw [List.getElem?_eq_none_iff.mpr (by rw [List.length_zip, List.length_range, Nat.min_self]; exact hl)] at hpi
      cases hpi
    | some z =>
      have hl := (List.getElem?_eq_some_iff.mp e).1
      rw [show (xs.zip (List.range xs.length))[i]? = some (z, i) from List.getElem?_zip_eq_some.mpr ⟨e, List.getElem?_range hl⟩] at hpi
      have ep : rPr (fun (i : Nat) => rInt (i : Int)) r (i, z) = p := Option.some.inj hpi
      subst ep
      exact ⟨_, tg_pair hc (tg_name n1 hN hx1 hl1 hfn1) (tg_name n2 hN hx2 hl2 hfn2) e1 e2 hn2 hst, (hs i z e pg).mono fun a' h => ⟨(), h⟩⟩) (by
    rw [List.length_map, List.length_zip, List.length_range, Nat.min_self]
    exact fun _ => hn) hf
end
end FS
/-! enumerate(t), t a tuple; range(k), k perhaps below 0 -/
namespace FE
open PySem
theorem enum_new1 {v : Value} {ob : Obj} {W : Heap → Prop} (B : Begins v ob W) :
    Meets (Builtin.«enumerate.__new__» ⟨[.type "enumerate", v], []⟩) (fun _ R s => W s.heap ∧
      R (.ok (.ret (.ref (s.heap.push ob).objs.size))) { s with heap := (s.heap.push ob).push { cls := .type "enumerate", data := .fields #[.none, .bool false, .ref s.heap.objs.size, rawInt 0, .none, .none] } }) :=
  .of_wp fun prog w A R s both => by
    obtain ⟨hp, gg, dr, tk, os⟩ := s
    obtain ⟨wh, res⟩ := both
    have se := sub_enumerate
    have go : ∀ {A2 : Around} {E2 : Value → Shared → Prop} {Q2 : Value → Shared → Prop}, Q2 (.ref hp.objs.size) ⟨hp.push ob, gg, dr, tk, os⟩ → wpAny (model prog w) A2 (pyIter v) Q2 E2 ⟨hp, gg, dr, tk, os⟩ :=
      fun z => B.iter prog w _ _ ⟨hp, gg, dr, tk, os⟩ _ wh z
    wp_walk using go
    refine wpAny_stack_any fun frames => wpAny_pure ?_
    split
    · rename_i cc _ _ _ _ _
      cases (cc == Value.type "enumerate")
      · wp_walk using go
        exact ⟨_, rfl, res⟩
      · wp_walk using go
        exact ⟨_, rfl, res⟩
    · wp_walk using go
      exact ⟨_, rfl, res⟩
section
variable {prog : Program} {w : World} {A : Around} {E : Value → Shared → Prop} {s : Shared}
theorem enum_call1 {v : Value} {ob : Obj} {W : Heap → Prop} {Q : Value → Shared → Prop} (B : Begins v ob W) (wh : W s.heap)
    (res : ∀ g, IsEnum g (s.heap.objs.size + 1) s.heap.objs.size 0 .none → g.get? s.heap.objs.size = some ob → g.objs.size = s.heap.objs.size + 2 →
      (∀ b o, s.heap.get? b = some o → g.get? b = some o) → Q (.ref (s.heap.objs.size + 1)) { s with heap := g }) :
    wpAny (model prog w) A (call (.type "enumerate") [v]) Q E s := by
  refine callType_new F.called_enumerate (by decide) (F.typeCall_enumerate_1 _) (F.newCall_enumerate_1 _) (fun obj => F.args_object_init_2 obj _) F.entry_enumerate_new (enum_new1 B) ⟨wh, ?_⟩
  have z1 : (s.heap.push ob).objs.size = s.heap.objs.size + 1 := Heap.size_push ..
  show _ ∧ _
  rw [z1]
  have en : IsEnum ((s.heap.push ob).push { cls := .type "enumerate", data := .fields #[.none, .bool false, .ref s.heap.objs.size, rawInt 0, .none, .none] }) (s.heap.objs.size + 1) s.heap.objs.size 0 .none := by
    have q := Heap.get?_push_size (s.heap.push ob) (o := { cls := .type "enumerate", data := .fields #[.none, .bool false, .ref s.heap.objs.size, rawInt 0, .none, .none] }) rfl
    rw [z1] at q
    exact q
  exact ⟨⟨_, en, rfl⟩, res _ en (Heap.get?_push_of_some _ (Heap.get?_push_size _ B.free)) (by rw [Heap.size_push, z1]) fun b o e => Heap.get?_push_of_some _ (Heap.get?_push_of_some _ e)⟩
end
end FE
namespace FS
open PySem PySem.Spec PyProof.Rows L2 LamX FM
/-- the tuple at a, each item in a new pair with its number -/
def ItE (K : PySem.W.Frag) (a : Addr) : It :=
  ⟨fun i H => ∃ (xs : List V) (x : V), SqT K H a xs ∧ xs[i]? = some x, fun i H v H' => ∃ P x, v = .ref P ∧ H P = none ∧ H' = upd H P (.tup [.int (i : Nat), x]) ∧ ∀ xs, SqT K H a xs → xs[i]? = some x, fun i H => ∃ xs : List V, SqT K H a xs ∧ xs.length ≤ i⟩
/-- where its iterator stands -/
def EnAt (a e it : Addr) (i : Nat) (h : Heap) : Prop := (∃ old, IsEnum h e it ((i : Nat) : Int) old) ∧ h.IsTupleIter it a i ∧ e ≠ it ∧ a ≠ it ∧ e ≠ a
theorem turn_enumT {P : Program} {w : World} {K : PySem.W.Frag} {elts : List Expr} {kk : Nat} {tpos : Pos} (a e it : Addr) : Turn P w K (.Tuple elts kk tpos) (ItE K a) [e, it] e (EnAt a e it) where
  mem := List.mem_cons_self
  obj := fun i h st b hb => by
    obtain ⟨⟨old, he⟩, ⟨o, ho, _, hd⟩, _⟩ := st
    rcases List.mem_cons.mp hb with z | z
    · rw [z]
      exact ⟨_, he, fun v q => nomatch q⟩
    · rw [List.mem_singleton.mp z]
      exact ⟨o, ho, fun v q => by rw [hd] at q; cases q⟩
  keep := fun i h h' st k => by
    obtain ⟨⟨old, he⟩, hi, ne⟩ := st
    exact ⟨⟨old, k e List.mem_cons_self _ he⟩, hi.at fun o q => k it (List.mem_cons_of_mem _ List.mem_cons_self) o q, ne⟩
  item := by
    intro X eP eW eK hc i pins s σ H E I fp st go
    subst eP eW eK
    obtain ⟨⟨old, he⟩, hit, n1, n2, n3⟩ := st
    obtain ⟨xs, x, hq, hx⟩ := go
    obtain ⟨its, rv, p, hz⟩ := I.tuple hq
    obtain ⟨u, hu, ru⟩ := rv.get hx
    have le : e < s.heap.objs.size := Heap.lt_size he
    have li : it < s.heap.objs.size := by
      obtain ⟨_, q, _⟩ := hit
      exact Heap.lt_size q
    have lt : i < its.toArray.size := by
      have := (List.getElem?_eq_some_iff.mp hu).1
      simpa using this
    refine wpAny_pyNext_enum_itemD (Draws.tuple (A := X.A.in1) (I.ok.hd hc) it a n2 its.toArray) he ⟨hit, p⟩ lt n1 (by simp [n1, n3]) fun y h' tk hy out st2 hT hsz hk => ?_
    have ey : y = u := by
      have hu2 : its.toArray[i]? = some u := by simpa using hu
      rw [hu2] at hy
      exact (Option.some.inj hy).symm
    subst ey
    refine ⟨_, rfl, wpAny_letOwnedTupleGo_enum (s := { s with heap := h', toks := tk + 1 }) out fun h2 he2 sb => ?_⟩
    have at_ : h2.get? s.heap.objs.size = some { cls := .type "tuple", data := .seq #[.int i tk, y] } := (sb.2 _ (Nat.ne_of_gt le)).trans hT
    have laid : ObjOk X.prog X.w (upd H s.heap.objs.size (.tup [.int (i : Nat), x])) h2 s.heap.objs.size (.tup [.int (i : Nat), x]) :=
      ⟨by rw [sizeLine_eq]; exact (show 2 ≤ 16777216 by decide), [.int i tk, y], .cons ⟨_, rfl⟩ (.cons ru .nil), ⟨_, at_, rfl, _, rfl⟩⟩
    have J : Inv X pins σ (upd H s.heap.objs.size (.tup [.int (i : Nat), x])) { s with heap := h2, toks := tk + 1 } := by
      refine I.turnedNew (ch := [e, it]) (fun b ob hb q => ?_) fp (Nat.le_refl _) laid
      have b1 : b ≠ e := fun z => hb (by rw [z]; exact List.mem_cons_self)
      have b2 : b ≠ it := fun z => hb (by rw [z]; exact List.mem_cons_of_mem _ List.mem_cons_self)
      exact (sb.2 b b1).trans (hk b ob b1 b2 q)
    refine ⟨.ref s.heap.objs.size, _, J, rfl, ⟨_, x, rfl, I.hok.fresh (Nat.le_refl _), rfl, fun ys hy => by rw [I.tuple_inj hy hq]; exact hx⟩, ⟨⟨y, ?_⟩, st2.1.at fun o q => (sb.2 it (Ne.symm n1)).trans q, n1, n2, n3⟩, fun b hb => ?_⟩
    · have e1 : ((i + 1 : Nat) : Int) = (i : Int) + 1 := by omega
      rw [e1]
      exact he2
    · have lb : b < s.heap.objs.size := by
        rcases List.mem_cons.mp hb with z | z
        · exact z ▸ le
        · exact List.mem_singleton.mp z ▸ li
      rw [upd_ne (Nat.ne_of_lt lb)]
      exact (fp b hb).1
  done := by
    intro X eP eW eK hc i pins s σ H E I fp st stop
    subst eP eW eK
    obtain ⟨⟨old, he⟩, hit, n1, n2, n3⟩ := st
    obtain ⟨xs, hq, hx⟩ := stop
    obtain ⟨its, rv, p, hz⟩ := I.tuple hq
    have hl := rv.length
    obtain ⟨f0, f1, f2, f3, f4, f5⟩ := fp it (List.mem_cons_of_mem _ List.mem_cons_self)
    unfold pyNext
    have ty : s.TypeIs (.ref e) "enumerate" := ⟨_, he, rfl⟩
    refine wpAny_bind (wpAny_attempt (wpAny_callSpecial?_slot (name := Str.ofString "__next__") ty F.slot_enumerate_next (wpAny_call_entry F.slot_enumerate_next ty F.entry_enumerate_next ?_ (F.args_enumerate_next_1 _))))
    show wpAny _ _ (field (.ref e) 2 >>= _) _ _ _
    refine wpAny_bind (wpAny_field he rfl (x := .ref it) rfl ?_)
    refine wpAny_bind (wpAny_nextOf_tuple_end (I.ok.hd hc) hit p (by simp; omega) fun h' x2 ex hx2 => ?_)
    obtain ⟨o, ho, ho2⟩ := hx2
    refine wpAny_bind (wpAny_isInstance (T := "StopIteration") (b := true) ⟨o, ho, ho2⟩ isSubtype_stop ?_)
    exact wpAny_pure ⟨rfl, I.turned (t' := s.toks) (fun b o hb q => ex b o hb q) f0 f1 f3 f4 f5⟩
  self := fun A i s Q E st h => by
    obtain ⟨⟨_, he⟩, _⟩ := st
    exact wpAny_pyIter_enum he h
def iEnumT (K : PySem.W.Frag) (ta : TA) : TI := fun σ H R => ta σ H fun vs H1 => ∃ a xs, vs = [.ref a] ∧ SqT K H1 a xs ∧ R (ItE K a) H1
theorem pi_enumT {X : Cx} {e : Expr} {ta : TA} {p pos tpos : Pos} {elts : List Expr} {kk : Nat} (hg : Gl X "enumerate") (hm : X.mg "enumerate" = none) (ha : PA X [e] ta) (hs : starEach [e] X.env = [(false, eval e X.env)] := by rfl) :
    PI X (.Tuple elts kk tpos) (.Call (.Name "enumerate" p) [e] [] pos) (iEnumT X.K ta) := ⟨fun pins s σ H R I h => by
  refine Call_ (ld_blt I hg hm boot_enumerate (PyProof.Rows.callWith_type1 (thn (ha.run pos pins s σ H _ I h) fun us s1 ⟨vs, H1, I1, r1, a, xs, ex, hq, q⟩ => ?_) hs rfl))
  subst ex
  obtain ⟨u, eu, r⟩ := vals1 r1
  subst eu
  cases r
  obtain ⟨its, rv, p2, hz⟩ := I1.tuple hq
  have la : a < s1.heap.objs.size := by
    obtain ⟨o, ho, _⟩ := p2
    exact Heap.lt_size ho
  refine FE.enum_call1 (begins_tuple a its.toArray) p2 fun g he hit hsz hk => wpAny_pyIter_enum he ?_
  have J : Inv X pins σ H1 { s1 with heap := g } := I1.kept (t' := s1.toks) hk
  refine ⟨s1.heap.objs.size + 1, [s1.heap.objs.size + 1, s1.heap.objs.size], _, _, H1, rfl, J, turn_enumT a (s1.heap.objs.size + 1) s1.heap.objs.size, ⟨⟨.none, he⟩, ⟨_, hit, rfl, rfl⟩, Nat.succ_ne_self _, Nat.ne_of_lt la, Nat.ne_of_gt (Nat.lt_succ_of_lt la)⟩, fun b hb => ?_, q⟩
  have lb : s1.heap.objs.size ≤ b := by
    rcases List.mem_cons.mp hb with z | z
    · exact z ▸ Nat.le_succ _
    · exact Nat.le_of_eq (List.mem_singleton.mp z).symm
  exact I1.fpOk lb (I1.hok.fresh lb)⟩
theorem walk_enumT {K : PySem.W.Frag} {a : Addr} {xs : List V} : Walk (ItE K a) xs.length (fun H => SqT K H a xs) (YPair (fun i => some (.int (i : Nat))) (fun i => xs[i]?)) := by
  refine ⟨fun i _ hi q => ⟨xs, xs[i], q, by simp [hi]⟩, fun _ q => ⟨xs, q, Nat.le_refl _⟩, fun i H v H' _ q y => ?_⟩
  obtain ⟨P, x, y1, y2, y3, y4⟩ := y
  exact ⟨P, .int (i : Nat), x, y1, y2, y3, rfl, y4 xs q⟩
section
variable {T : List (Addr × Str)} {X : Cx} {G : Gm} {tg a b c e l : Expr} {es : List Expr} {pos : Pos} {α : Type} {r : α → Pd} {xs : List α}
theorem ei_enumT {p1 tpos : Pos} {elts : List Expr} {kk : Nat} (hm : X.mg "enumerate" = none) (h : EE T X G a (rTup r xs)) (hg : Gl X "enumerate" := by rfl) (hs : starEach [a] X.env = [(false, eval a X.env)] := by rfl) :
    EI T X G (.Tuple elts kk tpos) (.Call (.Name "enumerate" p1) [a] [] pos) ((xs.zip (List.range xs.length)).map fun z => rPr (fun (i : Nat) => rInt (i : Int)) r (z.2, z.1)) := fun σ F H R g s t k pins s0 I => by
  refine (pi_enumT hg hm wa hs).run pins s0 σ H R I ?_
  refine (ea1 h (by rw [hs]; rfl)) σ F H _ g s t fun vs F1 H1 g1 hv => ?_
  match vs, hv with
  | [v], ⟨hv, _⟩ =>
    obtain ⟨a, vs, h1, h2, h3⟩ := hv
    have hl : vs.length = ((xs.zip (List.range xs.length)).map fun z => rPr (fun (i : Nat) => rInt (i : Int)) r (z.2, z.1)).length := by
      rw [List.length_map, List.length_zip, List.length_range, Nat.min_self, h3.length]
    refine ⟨a, vs, by rw [h1], SqT.of (g1.sub.at h2), k _ F1 H1 _ _ g1 (hl ▸ walk_enumT (K := X.K) (a := a) (xs := vs)) (fun H' e => SqT.of (e _ _ h2)) fun i F0 H0 x H2 y hi e s2 t2 => ?_⟩
    obtain ⟨tt, y0, z, e1, e2, e3, e4, e5⟩ := y
    have hi' : i < xs.length := by rw [← hl, h3.length] at hi; exact hi
    obtain ⟨w, w1, w2⟩ := h3.get e5
    subst e1 e3
    cases e4
    have g3 := Gr.new (o := .tup [.int (i : Nat), z]) s2 t2 e2 tup_tbl
    refine ⟨rPr (fun (i : Nat) => rInt (i : Int)) r (i, w), _, ?_, g3, tt, _, _, rfl, upd_same, rfl, (r w).up g3.fs ((r w).up e w2)⟩
    rw [List.getElem?_map, show (xs.zip (List.range xs.length))[i]? = some (w, i) from List.getElem?_zip_eq_some.mpr ⟨w1, List.getElem?_range hi'⟩]
    rfl
/-- range(j), j perhaps below 0 -/
theorem ei_rangeI {p1 : Pos} {j : Int} (hm : X.mg "range" = none) (h : EE T X G a (rInt j)) (hn : -1000 ≤ j ∧ j ≤ 1000) (hg : Gl X "range" := by rfl) (hs : starEach [a] X.env = [(false, eval a X.env)] := by rfl) :
    EI T X G tg (.Call (.Name "range" p1) [a] [] pos) ((List.range j.toNat).map fun (i : Nat) => rInt (i : Int)) := fun σ F H R g s t k pins s0 I => by
  refine (pi_range1 hg hm wa hs).run pins s0 σ H R I ?_
  refine (ea1 h (by rw [hs]; rfl)) σ F H _ g s t fun vs F1 H1 g1 hv => ?_
  match vs, hv with
  | [v], ⟨hv, _⟩ =>
    have ev : v = .int j := hv
    subst ev
    have hl : j.toNat = ((List.range j.toNat).map fun (i : Nat) => rInt (i : Int)).length := by rw [List.length_map, List.length_range]
    refine ⟨_, rfl, by omega, by omega, k _ F1 H1 _ _ g1 (by rw [← hl]; exact walk_range) (fun _ _ => True.intro) fun i F0 H0 x H2 y hi e s2 t2 => ?_⟩
    obtain ⟨y1, y2⟩ := y
    subst y1
    have hi' : i < j.toNat := by rw [← hl] at hi; exact hi
    refine ⟨rInt (i : Int), F0, by rw [List.getElem?_map, List.getElem?_range hi']; rfl, Gr.refl s2 t2, ?_⟩
    rw [y2]
    show V.int (0 + (i : Int)) = V.int (i : Int)
    rw [Int.zero_add]
end
end FS
namespace FP
open PySem hiding step Callee
open PySem.Spec hiding Row
open PyProof.Rows L2 LamX FM FS
theorem step_s5 {z : List Int × Bool} {p : Row} (h : S5 z.1) (hp : S5 p.2) : S5 (step z p).1 := by
  unfold step
  split
  · exact h.uni hp
  · exact h
theorem fold_s5 : ∀ {L : List Row} {z : List Int × Bool}, S5 z.1 → Rw L → S5 (L.foldl step z).1
  | [], _, h, _ => h
  | p :: L, z, h, hL => fold_s5 (L := L) (step_s5 h (hL p List.mem_cons_self).2) fun q hq => hL q (List.mem_cons_of_mem _ hq)
theorem rw_take {D : List Row} (h : Rw D) (i : Nat) : Rw (D.take i) := fun p hp => h p (List.mem_of_mem_take hp)
/-- what is known by the slots carries over -/
theorem aimp {G G' : Gm} {m : Option (Nat × Mo)} (h : GImp G G') : AImp ⟨G, m⟩ ⟨G', m⟩ := ⟨h, MImp.refl m⟩
section
variable {T : List (Addr × Str)} {P : Program} {w : World} {K : PySem.W.Frag} {mg : Str → Option Value} {base : Heap} {C : Addr}
abbrev cWithin (T : List (Addr × Str)) (P : Program) (w : World) (K : PySem.W.Frag) (mg : Str → Option Value) (base : Heap) : Prop := Callee T P w K mg base 1 "is_within" ["a", "b"] (fun z => S5 z.1) (fun z : List Int × List Int => [rSet z.1, rSet z.2]) (fun z => rBl (within z.1 z.2))
abbrev cMet (T : List (Addr × Str)) (P : Program) (w : World) (K : PySem.W.Frag) (mg : Str → Option Value) (base : Heap) : Prop := Callee T P w K mg base 1 "met" ["a", "b"] (fun z => S5 z.1) (fun z : List Int × List Int => [rSet z.1, rSet z.2]) (fun z => rSet (met z.1 z.2))
abbrev cLess (T : List (Addr × Str)) (P : Program) (w : World) (K : PySem.W.Frag) (mg : Str → Option Value) (base : Heap) : Prop := Callee T P w K mg base 1 "less" ["a", "b"] (fun z => S5 z.1) (fun z : List Int × List Int => [rSet z.1, rSet z.2]) (fun z => rSet (less z.1 z.2))
abbrev cUnited (T : List (Addr × Str)) (P : Program) (w : World) (K : PySem.W.Frag) (mg : Str → Option Value) (base : Heap) : Prop := Callee T P w K mg base 2 "united" ["a", "b"] (fun z => S5 z.1 ∧ S5 z.2) (fun z : List Int × List Int => [rSet z.1, rSet z.2]) (fun z => rSet (uni z.1 z.2))
abbrev cClosed (T : List (Addr × Str)) (P : Program) (w : World) (K : PySem.W.Frag) (mg : Str → Option Value) (base : Heap) (C : Addr) : Prop := Callee T P w K mg base 3 "closed" ["dependencies", "columns"] (fun z => Rw z.1 ∧ S5 z.2) (fun z : List Row × List Int => [rSq (rFd C) z.1, rSet z.2]) (fun z => rSet (clo z.1 z.2))
theorem sc_closed : FnScope ["dependencies", "columns", "found", "changed", "dependency"] ["dependencies", "columns"] (defScope (top 12)) := ⟨rfl, rfl, rfl, by decide +kernel, rfl, by decide +kernel, by decide +kernel⟩
theorem c_closed (Fn : TextFn K mg "closed" (top 12)) (B : Bi mg) (D0 : Fdx K mg C) (cW : cWithin T P w K mg base) (cU : cUnited T P w K mg base) : cClosed T P w K mg base C := by
  refine callee_by Fn sc_closed (fun _ => rfl) (fun _ _ _ _ _ _ us hl => match us, hl with | [_, _], _ => rfl) fun z hz f cdv A outer s H E hr => ?_
  obtain ⟨D, x⟩ := z
  obtain ⟨hD, hx⟩ := hz
  have nd := sc_closed.nd
  refine ss_cons (s1_set 2 (ev 1 rfl) ?_ (fun _ _ e => nomatch e) nd)
  refine ss_cons (s1_set 3 ee_bl ?_ (fun _ _ e => nomatch e) nd)
  refine ss_cons (s1_while PassesOwn.never (ι := {z : List Int × Bool // RoundInv D x z}) (k := fun z => z.1.2) (fun z => ⟨[some (rSq (rFd C) D), some (rSet x), some (rSet z.1.1), some (rBl z.1.2), none], none⟩) (fun z => mea z.1) ⟨(x, true), RoundInv.start hx⟩ (aimp (by simp [GImp, startG])) (fun z => et_bl (ev 3 rfl)) ?_ ?_)
  · rintro ⟨z, hi⟩ hk
    have hk : z.2 = true := hk
    refine ss_cons (s1_set 3 ee_bl ?_ (fun _ _ e => nomatch e) nd)
    refine ss_one (s1_forX 4 PassesOwn.never rfl (ei_seq 0 rfl) (fun i => ⟨[some (rSq (rFd C) D), some (rSet x), some (rSet ((D.take i).foldl step (z.1, false)).1), some (rBl ((D.take i).foldl step (z.1, false)).2), none], none⟩) (aimp (by simp [GImp, startG])) (fun _ _ _ e => nomatch e) nd ?_ ?_)
    · intro i p hp
      have s0 : S5 ((D.take i).foldl step (z.1, false)).1 := fold_s5 hi.s5 (rw_take hD i)
      have sp := hD p (List.mem_of_getElem? hp)
      have et := foldl_take (f := step) (z := (z.1, false)) hp
      generalize (D.take i).foldl step (z.1, false) = y at s0 et ⊢
      rw [et]
      refine ss_one (s1_if (et_and2 (et_bl (ee_call cW (hr.mono (by decide)) (p.1, y.1) sp.1 (ea_cons (ee_left (z := p) D0.cl D0.nl (ev 4 rfl)) (ea1 (ev 2 rfl))))) fun _ => et_not (et_bl (ee_call cW (hr.mono (by decide)) (p.2, y.1) sp.2 (ea_cons (ee_right (z := p) D0.cl D0.nr (ev 4 rfl)) (ea1 (ev 2 rfl)))))) (fun hc => ?_) fun hc => ?_)
      · have e : step y p = (uni y.1 p.2, true) := if_pos hc
        rw [e]
        refine ss_cons (s1_set 2 (ee_call cU hr (y.1, p.2) ⟨s0, sp.2⟩ (ea_cons (ev 2 rfl) (ea1 (ee_right (z := p) D0.cl D0.nr (ev 4 rfl))))) ?_ (fun _ _ e => nomatch e) nd)
        refine ss_one (s1_set 3 ee_bl ?_ (fun _ _ e => nomatch e) nd)
        exact aimp (by simp [GImp, startG])
      · have e : step y p = y := if_neg (by simpa using hc)
        rw [e]
        exact ss_nil (aimp (by simp [GImp, startG]))
    · obtain ⟨r1, r2⟩ := round_inv hD hi hk
      refine ⟨⟨_, r1⟩, r2, ?_⟩
      rw [List.take_length]
      exact AImp.refl _
  · rintro ⟨z, hi⟩ hk
    have hk : z.2 = false := hk
    have e := hi.done hD hx hk
    refine ss_ret (EE.to (ev 2 rfl) ?_)
    show rSet z.1 = rSet (clo D x)
    rw [e]
end
end FP
namespace FP
open PySem hiding step Callee
open PySem.Spec hiding Row
open PyProof.Rows L2 LamX FM FS
section
variable {T : List (Addr × Str)} {P : Program} {w : World} {K : PySem.W.Frag} {mg : Str → Option Value} {base : Heap} {C : Addr}
abbrev cSays (T : List (Addr × Str)) (P : Program) (w : World) (K : PySem.W.Frag) (mg : Str → Option Value) (base : Heap) (C : Addr) : Prop := Callee T P w K mg base 4 "says" ["dependencies", "dependency"] (fun z => Rw z.1 ∧ S5 z.2.1 ∧ S5 z.2.2) (fun z : List Row × Row => [rSq (rFd C) z.1, rFd C z.2]) (fun z => rBl (says z.1 z.2))
theorem sc_says : FnScope ["dependencies", "dependency"] ["dependencies", "dependency"] (defScope (top 14)) := ⟨rfl, rfl, rfl, by decide +kernel, rfl, by decide +kernel, by decide +kernel⟩
theorem c_says (Fn : TextFn K mg "says" (top 14)) (D0 : Fdx K mg C) (cW : cWithin T P w K mg base) (cC : cClosed T P w K mg base C) : cSays T P w K mg base C := by
  refine callee_by Fn sc_says (fun _ => rfl) (fun _ _ _ _ _ _ us hl => match us, hl with | [_, _], _ => rfl) fun z hz f cdv A outer s H E hr => ?_
  obtain ⟨D, p⟩ := z
  obtain ⟨hD, h1, h2⟩ := hz
  exact ss_ret (ee_call cW (hr.mono (by decide)) (p.2, clo D p.1) h2 (ea_cons (ee_right (z := p) D0.cl D0.nr (ev 1 rfl)) (ea1 (ee_call cC hr (D, p.1) ⟨hD, h1⟩ (ea_cons (ev 0 rfl) (ea1 (ee_left (z := p) D0.cl D0.nl (ev 1 rfl))))))))
/-- is_closed -/
noncomputable def clB (D : List Row) (x : List Int) : Bool := decide (clo D x = x)
theorem clB_iff {D : List Row} {x : List Int} (hD : Rw D) (hx : S5 x) : clB D x = true ↔ Cld D (· ∈ x) := by
  unfold clB
  rw [decide_eq_true_iff, clo_eq_iff hD hx]
abbrev cIsClosed (T : List (Addr × Str)) (P : Program) (w : World) (K : PySem.W.Frag) (mg : Str → Option Value) (base : Heap) (C : Addr) : Prop := Callee T P w K mg base 2 "is_closed" ["dependencies", "columns"] (fun z => Rw z.1 ∧ S5 z.2) (fun z : List Row × List Int => [rSq (rFd C) z.1, rSet z.2]) (fun z => rBl (clB z.1 z.2))
theorem sc_isclosed : FnScope ["dependencies", "columns", "dependency"] ["dependencies", "columns"] (defScope (top 20)) := ⟨rfl, rfl, rfl, by decide +kernel, rfl, by decide +kernel, by decide +kernel⟩
theorem c_isclosed (Fn : TextFn K mg "is_closed" (top 20)) (D0 : Fdx K mg C) (cW : cWithin T P w K mg base) : cIsClosed T P w K mg base C := by
  refine callee_by Fn sc_isclosed (fun _ => rfl) (fun _ _ _ _ _ _ us hl => match us, hl with | [_, _], _ => rfl) fun z hz f cdv A outer s H E hr => ?_
  obtain ⟨D, x⟩ := z
  obtain ⟨hD, hx⟩ := hz
  have hx : S5 x := hx
  have hD : Rw D := hD
  refine ss_cons (s1_forP 2 PassesOwn.never rfl (ei_seq 0 rfl) (fun i => ∀ p ∈ D.take i, within p.1 x = true → within p.2 x = true) (fun i => ⟨[some (rSq (rFd C) D), some (rSet x), none], none⟩) (fun p hp => by simp at hp) (aimp (by simp [GImp, startG])) (fun _ _ _ e => nomatch e) sc_isclosed.nd ?_ ?_)
  · intro i p hp hno
    have sp := hD p (List.mem_of_getElem? hp)
    refine ss_one (s1_if (et_and2 (et_bl (ee_call cW hr (p.1, x) sp.1 (ea_cons (ee_left (z := p) D0.cl D0.nl (ev 2 rfl)) (ea1 (ev 1 rfl))))) fun _ => et_not (et_bl (ee_call cW hr (p.2, x) sp.2 (ea_cons (ee_right (z := p) D0.cl D0.nr (ev 2 rfl)) (ea1 (ev 1 rfl)))))) (fun hc => ?_) fun hc => ?_)
    · refine ss_ret (EE.to ee_bl (congrArg rBl ?_))
      simp only [Bool.and_eq_true, Bool.not_eq_true'] at hc
      cases e : clB D x with
      | false => rfl
      | true =>
        have k := (clB_iff hD hx).mp e p (List.mem_of_getElem? hp) (within_iff.mp hc.1)
        rw [within_iff.mpr k] at hc
        cases hc.2
    · refine ss_nil ⟨fun q hq => ?_, aimp (by simp [GImp])⟩
      rw [List.take_add_one, hp] at hq
      rcases List.mem_append.mp hq with z | z
      · exact hno q z
      · have e : q = p := by simpa using z
        rw [e]
        intro h1
        rw [h1] at hc
        simpa using hc
  · intro hno
    rw [List.take_length] at hno
    refine ss_ret (EE.to ee_bl (congrArg rBl ?_))
    refine ((clB_iff hD hx).mpr fun p hp h => ?_).symm
    exact within_iff.mp (hno p hp (within_iff.mpr h))
end
end FP
namespace FP
open PySem hiding step Callee
open PySem.Spec hiding Row
open PyProof.Rows L2 LamX FM FS
theorem slfold_s5 {D : List Row} {p : Row} : ∀ {L : List Int} {left : List Int}, S5 left → S5 (L.foldl (slstep D p) left)
  | [], _, h => h
  | c :: L, left, h => slfold_s5 (L := L) (by
    unfold slstep
    split
    · exact h.less
    · exact h)
section
variable {T : List (Addr × Str)} {P : Program} {w : World} {K : PySem.W.Frag} {mg : Str → Option Value} {base : Heap} {C : Addr}
abbrev cSmall (T : List (Addr × Str)) (P : Program) (w : World) (K : PySem.W.Frag) (mg : Str → Option Value) (base : Heap) (C : Addr) : Prop := Callee T P w K mg base 5 "smallest_left" ["dependencies", "dependency"] (fun z => Rw z.1 ∧ S5 z.2.1 ∧ S5 z.2.2) (fun z : List Row × Row => [rSq (rFd C) z.1, rFd C z.2]) (fun z => rFd C (sl z.1 z.2, z.2.2))
theorem sc_small : FnScope ["dependencies", "dependency", "left", "column"] ["dependencies", "dependency"] (defScope (top 15)) := ⟨rfl, rfl, rfl, by decide +kernel, rfl, by decide +kernel, by decide +kernel⟩
theorem mk_s5 {C : Addr} {a b : List Int} (ha : S5 a) (hb : S5 b) : rFd C (mkSet a, mkSet b) = rFd C (a, b) := by rw [mkSet_self ha.1, mkSet_self hb.1]
theorem c_small (Fn : TextFn K mg "smallest_left" (top 15)) (D0 : Fdx K mg C) (cW : cWithin T P w K mg base) (cC : cClosed T P w K mg base C) (cL : cLess T P w K mg base) (M : MkOk T P w K mg base C 2) : cSmall T P w K mg base C := by
  obtain ⟨fi, fd, pi, M1, M2, M3, M4⟩ := M
  refine callee_by Fn sc_small (fun _ => rfl) (fun _ _ _ _ _ _ us hl => match us, hl with | [_, _], _ => rfl) fun z hz f cdv A outer s H E hr => ?_
  obtain ⟨D, p⟩ := z
  obtain ⟨hD, h1, h2⟩ := hz
  have hD : Rw D := hD
  have h1 : S5 p.1 := h1
  have h2 : S5 p.2 := h2
  have nd := sc_small.nd
  refine ss_cons (s1_set 2 (ee_left (z := p) D0.cl D0.nl (ev 1 rfl)) ?_ (fun _ _ e => nomatch e) nd)
  refine ss_cons (s1_forX 3 PassesOwn.never rfl (ei_tup (ee_left (z := p) D0.cl D0.nl (ev 1 rfl))) (fun i => ⟨[some (rSq (rFd C) D), some (rFd C p), some (rSet ((p.1.take i).foldl (slstep D p) p.1)), none], none⟩) (aimp (by simp [GImp, startG])) (fun _ _ _ e => nomatch e) nd ?_ ?_)
  · intro i c hc
    have sc := h1.2 c (List.mem_of_getElem? hc)
    have s0 : S5 ((p.1.take i).foldl (slstep D p) p.1) := slfold_s5 h1
    have et := foldl_take (f := slstep D p) (z := p.1) hc
    generalize (p.1.take i).foldl (slstep D p) p.1 = y at s0 et ⊢
    rw [et]
    refine ss_one (s1_if (et_bl (ee_call cW (hr.mono (by decide)) (p.2, clo D (less y [c])) h2 (ea_cons (ee_right (z := p) D0.cl D0.nr (ev 1 rfl)) (ea1 (ee_call cC (hr.mono (by decide)) (D, less y [c]) ⟨hD, s0.less⟩ (ea_cons (ev 0 rfl) (ea1 (ee_call cL (hr.mono (by decide)) (y, [c]) s0 (ea_cons (ev 2 rfl) (ea1 (ee_tup1 (ev 3 rfl)))))))))))) (fun hw => ?_) fun hw => ?_)
    · have e : slstep D p y c = less y [c] := if_pos hw
      rw [e]
      refine ss_one (s1_set 2 (ee_call cL (hr.mono (by decide)) (y, [c]) s0 (ea_cons (ev 2 rfl) (ea1 (ee_tup1 (ev 3 rfl))))) ?_ (fun _ _ e => nomatch e) nd)
      exact aimp (by simp [GImp])
    · have e : slstep D p y c = y := if_neg (by
        intro z
        have hw : within p.2 (clo D (less y [c])) = false := hw
        rw [z] at hw
        cases hw)
      rw [e]
      exact ss_nil (aimp (by simp [GImp]))
  · rw [List.take_length]
    have ss : S5 (sl D p) := slfold_s5 h1
    refine ss_ret (EE.to (ee_make (ls := sl D p) (rs := p.2) M1 M2 M3 M4 (hr.mono (by decide)) (ea_cons (ev 2 rfl).sqT (ea1 (ee_right (z := p) D0.cl D0.nr (ev 1 rfl)).sqT)) (by have := ss.len; omega) (by have := h2.len; omega)) (mk_s5 ss h2))
/-- set_between -/
abbrev cBetween (T : List (Addr × Str)) (P : Program) (w : World) (K : PySem.W.Frag) (mg : Str → Option Value) (base : Heap) : Prop := Callee T P w K mg base 2 "set_between" ["one", "two"] (fun z => S5 z.1.1 ∧ S5 z.2.1) (fun z : Row × Row => [rPr rSet rSet z.1, rPr rSet rSet z.2]) (fun z => rSet (setB z.1 z.2))
theorem sc_between : FnScope ["one", "two"] ["one", "two"] (defScope (top 18)) := ⟨rfl, rfl, rfl, by decide +kernel, rfl, by decide +kernel, by decide +kernel⟩
theorem c_between (Fn : TextFn K mg "set_between" (top 18)) (cW : cWithin T P w K mg base) (cM : cMet T P w K mg base) : cBetween T P w K mg base := by
  refine callee_by Fn sc_between (fun _ => rfl) (fun _ _ _ _ _ _ us hl => match us, hl with | [_, _], _ => rfl) fun z hz f cdv A outer s H E hr => ?_
  obtain ⟨p, q⟩ := z
  obtain ⟨h1, h2⟩ := hz
  refine ss_cons (s1_if (et_bl (ee_call cW hr (p.1, q.1) h1 (ea_cons (ee_fst (z := p) (ev 0 rfl)) (ea1 (ee_fst (z := q) (ev 1 rfl)))))) (fun hc => ?_) fun hc => ?_)
  · refine ss_ret (EE.to (ee_snd (z := p) (ev 0 rfl)) ?_)
    have e : setB p q = p.2 := if_pos hc
    show rSet p.2 = rSet (setB p q)
    rw [e]
  · refine ss_nil ?_
    refine ss_cons (s1_if (et_bl (ee_call cW hr (q.1, p.1) h2 (ea_cons (ee_fst (z := q) (ev 1 rfl)) (ea1 (ee_fst (z := p) (ev 0 rfl)))))) (fun hd => ?_) fun hd => ?_)
    · refine ss_ret (EE.to (ee_snd (z := q) (ev 1 rfl)) ?_)
      have e : setB p q = q.2 := (if_neg (by simpa using hc)).trans (if_pos hd)
      show rSet q.2 = rSet (setB p q)
      rw [e]
    · refine ss_nil ?_
      refine ss_ret (EE.to (ee_call cM hr (p.1, q.1) h1 (ea_cons (ee_fst (z := p) (ev 0 rfl)) (ea1 (ee_fst (z := q) (ev 1 rfl))))) ?_)
      have e : setB p q = met p.1 q.1 := (if_neg (by simpa using hc)).trans (if_neg (by simpa using hd))
      show rSet (met p.1 q.1) = rSet (setB p q)
      rw [e]
end
end FP
namespace FP
open PySem hiding step Callee
open PySem.Spec hiding Row
open PyProof.Rows L2 LamX FM FS
theorem red0_take {D : List Row} {i : Nat} {p : Row} (h : D[i]? = some p) : red0 (D.take (i + 1)) = red0 (D.take i) ++ ones p := by
  rw [List.take_add_one, h]
  unfold red0
  rw [List.flatMap_append]
  simp
theorem len_red0_take {D : List Row} {i : Nat} (hD : Rw D) (hl : D.length ≤ 6) : (red0 (D.take i)).length ≤ 30 := by
  have h1 := len_red0 (rw_take hD i)
  have h2 : (D.take i).length ≤ D.length := List.length_take_le' i D
  omega
theorem map_take {α β : Type} {f : α → β} {L : List α} {j : Nat} {c : α} (h : L[j]? = some c) : (L.take (j + 1)).map f = (L.take j).map f ++ [f c] := by
  rw [List.take_add_one, h, List.map_append]
  rfl
section
variable {T : List (Addr × Str)} {P : Program} {w : World} {K : PySem.W.Frag} {mg : Str → Option Value} {base : Heap} {C : Addr}
def RedOk (D E : List Row) : Prop := Rw E ∧ Eqv E D ∧ E.length ≤ 30
abbrev cReduced (T : List (Addr × Str)) (P : Program) (w : World) (K : PySem.W.Frag) (mg : Str → Option Value) (base : Heap) (C : Addr) : Prop := Callee T P w K mg base 6 "reduced" ["dependencies"] (fun D => Rw D ∧ D.length ≤ 6) (fun D : List Row => [rLst (rFd C) D]) (fun D => exP (RedOk D) (rLst (rFd C)))
theorem sc_reduced : FnScope ["dependencies", "found", "dependency", "column", "index", "others"] ["dependencies"] (defScope (top 16)) := ⟨rfl, rfl, rfl, by decide +kernel, rfl, by decide +kernel, by decide +kernel⟩
theorem EE.ex {α : Type} {Q : α → Prop} {r : α → Pd} {X : Cx} {G : Gm} {e : Expr} {x : α} (h : EE T X G e (r x)) (hx : Q x) : EE T X G e (exP Q r) := EE.imp h fun F v hv => ⟨x, hx, hv⟩
theorem c_reduced (Fn : TextFn K mg "reduced" (top 16)) (B : Bi mg) (D0 : Fdx K mg C) (cL : cLess T P w K mg base) (cS : cSays T P w K mg base C) (cSm : cSmall T P w K mg base C) (M : MkOk T P w K mg base C 2) : cReduced T P w K mg base C := by
  obtain ⟨fi, fd, pi, M1, M2, M3, M4⟩ := M
  refine callee_by Fn sc_reduced (fun _ => rfl) (fun _ _ _ _ _ _ us hl => match us, hl with | [_], _ => rfl) fun D hz f cdv A outer s H E hr => ?_
  obtain ⟨hD, hl6⟩ := hz
  have nd := sc_reduced.nd
  refine ss_cons (s1_new (r := rFd C) (xs := []) 1 ea_nil (by decide) ?_ (by exact (show 1 < 6 by decide)) nd)
  refine ss_cons (s1_forX 2 PassesOwn.never rfl (ei_list (ev 0 rfl)) (fun i => ⟨[some (rLst (rFd C) D), none, none, none, none, none], some (1, mLst (rFd C) (red0 (D.take i)))⟩) (aimp (by simp [GImp, startG])) (fun _ j M e => by cases e; decide) nd ?_ ?_)
  · intro i p hp
    have sp := hD p (List.mem_of_getElem? hp)
    have l0 := len_red0_take (i := i) hD hl6
    have l1 := sp.2.less (b := p.1) |>.len
    refine ss_one (s1_forX 3 PassesOwn.never rfl (ei_tup (ee_call cL (hr.mono (by decide)) (p.2, p.1) sp.2 (ea_cons (ee_right (z := p) D0.cl D0.nr (ev 2 rfl)) (ea1 (ee_left (z := p) D0.cl D0.nl (ev 2 rfl))))))
      (fun j => ⟨[some (rLst (rFd C) D), none, some (rFd C p), none, none, none], some (1, mLst (rFd C) (red0 (D.take i) ++ ((less p.2 p.1).take j).map fun c => (p.1, [c])))⟩) ?_ (fun _ j M e => by cases e; decide) nd ?_ ?_)
    · rw [List.take_zero, List.map_nil, List.append_nil]
      exact aimp (by simp [GImp])
    · intro j c hc
      have hc5 := sp.2.2 c (mem_less.mp (List.mem_of_getElem? hc)).1
      have e1 : mkSet p.1 = p.1 := mkSet_self sp.1.1
      have e2 : mkSet [c] = [c] := mkSet_self (List.pairwise_singleton _ _)
      have l2 : ((less p.2 p.1).take j).length ≤ (less p.2 p.1).length := List.length_take_le' j _
      refine ss_one (s1_app (x0 := (p.1, [c])) 1 (EE.to (ee_make (ls := p.1) (rs := [c]) M1 M2 M3 M4 (hr.mono (by decide)) (ea_cons (ee_left (z := p) D0.cl D0.nl (ev 2 rfl)).sqT (ea1 (ee_tup1 (ev 3 rfl)).sqT)) (by have := sp.1.len; omega) (show 1 ≤ 60 by decide)) (by rw [e1, e2])) (by rw [List.length_append, List.length_map]; omega) ?_)
      rw [map_take hc, ← List.append_assoc]
      exact aimp (by simp [GImp])
    · rw [List.take_length]
      have e : red0 (D.take (i + 1)) = red0 (D.take i) ++ (less p.2 p.1).map fun c => (p.1, [c]) := red0_take hp
      rw [e]
      exact aimp (by simp [GImp])
  rw [List.take_length]
  have h0 := rw_red0 hD
  have l0 := len_red0 hD
  refine ss_freeze ?_
  refine SS.pre (b := ⟨[some (rLst (rFd C) D), some (rLst (rFd C) (red0 D)), none, none, none, none], none⟩) ?_ ⟨⟨fun _ _ h => h, fun _ _ h => mLst_pd h, by simp [GImp]⟩, True.intro⟩
  refine ss_cons (s1_set 1 (ee_lc0 (u := rFd C) (f := fun p => (sl (red0 D) p, p.2)) 2 rfl sc_reduced (ei_list (ev 1 rfl)) (fun p hp s H C' cl fp => ee_call cSm (hr.mono (by decide)) (red0 D, p) ⟨h0, h0 p hp⟩ (ea_cons (ev 1 rfl).sqL (ea1 (ev 2 rfl)))) (by omega)) ?_ (fun _ _ e => nomatch e) nd)
  refine ss_cons (s1_set 4 ee_int ?_ (fun _ _ e => nomatch e) nd)
  have hr1 := rw_red1 h0
  refine ss_cons (s1_while PassesOwn.never (ι := {z : List Row × Nat // RedOk D z.1 ∧ z.2 ≤ z.1.length}) (k := fun z => decide (((z.1.2 : Nat) : Int) < (z.1.1.length : Int))) (fun z => ⟨[none, some (rLst (rFd C) z.1.1), none, none, some (rInt (z.1.2 : Int)), none], none⟩) (fun z => 2 * z.1.1.length - z.1.2) ⟨(red1 (red0 D), 0), ⟨hr1, (eqv_red1 h0).trans (eqv_red0 D), by unfold red1; rw [List.length_map]; omega⟩, Nat.zero_le _⟩ (aimp (by simp [GImp]; exact fun _ _ h => h)) (fun z => et_lt (ev 4 rfl) (ee_lenL B.len (ev 1 rfl))) ?_ ?_)
  · rintro ⟨⟨E, i⟩, ⟨hE, hq, hl⟩, hi⟩ hk
    have hk : i < E.length := by
      have := of_decide_eq_true hk
      have h : ((i : Nat) : Int) < (E.length : Int) := this
      omega
    have hE : Rw E := hE
    have hl : E.length ≤ 30 := hl
    have hp : E[i]? = some E[i] := List.getElem?_eq_getElem hk
    generalize E[i] = p at hp
    have sp := hE p (List.mem_of_getElem? hp)
    have lo : (E.take i ++ E.drop (i + 1)).length = E.length - 1 := by
      rw [List.length_append, List.length_take, List.length_drop]
      omega
    have hO : Rw (E.take i ++ E.drop (i + 1)) := fun r hr => hE r ((List.mem_append.mp hr).elim List.mem_of_mem_take List.mem_of_mem_drop)
    refine ss_cons (s1_set 5 (ee_catL (ee_sub_to (n := i) (ev 1 rfl) (ev 4 rfl)) (ee_sub_from (n := i + 1) (ev 1 rfl) (EE.to (ee_add (ev 4 rfl) ee_int) (congrArg rInt (by show (i : Int) + 1 = ((i + 1 : Nat) : Int); omega)))) (by show (E.take i).length + (E.drop (i + 1)).length ≤ 1000; rw [List.length_take, List.length_drop]; omega)) ?_ (fun _ _ e => nomatch e) nd)
    refine ss_one (s1_if (et_bl (ee_call cS (hr.mono (by decide)) (E.take i ++ E.drop (i + 1), p) ⟨hO, sp⟩ (ea_cons (ev 5 rfl).sqL (ea1 (ee_ixL (x := p) (ev 1 rfl) (ev 4 rfl) (atI_nat hp)))))) (fun hc => ?_) fun hc => ?_)
    · refine ss_one (s1_set 1 (ev 5 rfl) ?_ (fun _ _ e => nomatch e) nd)
      refine ⟨⟨(E.take i ++ E.drop (i + 1), i), ⟨hO, (drop_eqv hE hp hc).trans hq, ?_⟩, ?_⟩, ?_, aimp (by simp [GImp])⟩
      · show (E.take i ++ E.drop (i + 1)).length ≤ 30
        omega
      · show i ≤ (E.take i ++ E.drop (i + 1)).length
        omega
      · show 2 * (E.take i ++ E.drop (i + 1)).length - i < 2 * E.length - i
        omega
    · refine ss_one (s1_inc 4 rfl ee_int ?_ (fun _ _ e => nomatch e) nd)
      refine ⟨⟨(E, i + 1), ⟨hE, hq, hl⟩, hk⟩, ?_, aimp ?_⟩
      · show 2 * E.length - (i + 1) < 2 * E.length - i
        omega
      · have e : ((i : Int) + 1) = ((i + 1 : Nat) : Int) := by omega
        simp only [e]
        simp [GImp]
  · rintro ⟨⟨E, i⟩, hE, hi⟩ hk
    exact ss_ret (EE.ex (ev 1 rfl) hE)
end
end FP
namespace FP
open PySem hiding step Callee sstep
open PySem.Spec hiding Row
open PyProof.Rows L2 LamX NdefX FM FS
/-- a def of the text whose code object is known -/
def TextFnC (K : PySem.W.Frag) (mg : Str → Option Value) (x : Str) (st : Stmt) (c : Addr) : Prop := ∃ (f : Addr) (oc : Value) (od : Option Addr) (kV doc pm : Value) (an : Option Addr) (ct : Value) (osl : Array (Option Value)),
  K.lookup f = some ⟨oc, od, .func (PySem.W.fnOf x x (defArgs st) (defBody st) (defScope st) .none kV doc pm an (.ref c) ct), osl⟩ ∧ PySem.W.codeIn K (.ref c) x = true ∧ PySem.W.keepIn K (.ref f) = true ∧ mg x = some (.ref f)
/-- the name that a lambda of the def bears -/
def lamName (x : Str) : Str := (x ++ ".<locals>.") ++ "<lambda>"
section
variable {T : List (Addr × Str)} {P : Program} {w : World} {K : PySem.W.Frag} {mg : Str → Option Value} {base : Heap} {ι : Type} {pre : ι → Prop} {args : ι → List Pd} {res : ι → Pd}
theorem callee_byC {x : Str} {st : Stmt} {c : Addr} {N ps : List Str} {k : Nat} (Fn : TextFnC K mg x st c) (S : FnScope N ps (defScope st)) (hl : ∀ z, (args z).length = ps.length)
    (hb : ∀ (kV doc pm : Value) (an : Option Addr) (cdv ct : Value) (us : List Value), us.length = ps.length → bindArgs (PySem.W.fnOf x x (defArgs st) (defBody st) (defScope st) .none kV doc pm an cdv ct) ⟨us, []⟩ = pure (ps.zip us))
    (h : ∀ z, pre z → ∀ (f : Addr) (A : Around) (outer : List Env) (s : Shared) (H : Hp) (E : XK), Room k (A.deeper (envOfC x (defScope st) s.heap.objs.size f (.ref c))) →
      SS T (cxOf CX0 P w K mg base N x (defScope st) f (.ref c) A outer s H E).nox ⟨startG N.length (args z), none⟩ (defBody st) (fun _ => False) (res z)) : FS.Callee T P w K mg base (k + 1) x ps pre args res := by
  obtain ⟨f, oc, od, kV, doc, pm, an, ct, osl, lk, hcd, kp, hm⟩ := Fn
  refine ⟨f, _, fn_of (k := k) lk hcd S (fun vs H Q E ⟨z, F, _, _, _, hv, _⟩ => by rw [hv.length, hl]) fun A outer s H vs Q E hr ⟨z, F, hz, hs, ht, hv, hq⟩ => ⟨Wss (cxOf CX0 P w K mg base N x (defScope st) f (.ref c) A outer s H E).nox (defBody st), wss.nox, ?_⟩, hm, kp, .all (hb kV doc pm an (.ref c) ct)⟩
  have hvl := hv.length
  refine h z hz f A outer s H E hr F H F H _ _ ⟨Gr.refl hs ht, ?_, True.intro⟩ (fun _ z => z.elim) fun v F' H' g hw => hq v F' H' g hw
  show EnvOk F (startG N.length (args z)) (L2.start N vs)
  unfold startG L2.start
  rw [hvl]
  exact env_start hv
end
theorem len_part {L : List Int} {p : List Int} (h : p ∈ L.foldl sub1 [[]]) : p.length ≤ L.length := by
  obtain ⟨f, hf, s, hs, e⟩ := mem_subs.mp h
  rw [List.mem_singleton.mp hf, List.nil_append] at e
  rw [e]
  exact hs.length_le
theorem len_whole (n : Nat) : (wholeN n).length = n := by
  unfold wholeN
  simp
theorem len_sub5 {n i : Nat} (hn : n ≤ 5) : (((wholeN n).take i).foldl sub1 [[]]).length ≤ 32 := by
  have h2 : ((wholeN n).take i).length ≤ (wholeN n).length := List.length_take_le' i _
  rw [len_whole] at h2
  rw [len_subs, List.length_singleton, Nat.one_mul]
  exact Nat.le_trans (Nat.pow_le_pow_right (by decide) (Nat.le_trans h2 hn)) (by decide)
section
variable {T : List (Addr × Str)} {P : Program} {w : World} {K : PySem.W.Frag} {mg : Str → Option Value} {base : Heap} {C cA PT : Addr}
abbrev cAllSets (T : List (Addr × Str)) (P : Program) (w : World) (K : PySem.W.Frag) (mg : Str → Option Value) (base : Heap) : Prop := FS.Callee T P w K mg base 5 "all_sets" ["columns"] (fun n => n ≤ 5) (fun n : Nat => [rSet (wholeN n)]) (fun n => rLst rSet (alls n))
theorem sc_allsets : FnScope ["columns", "found", "column", "part"] ["columns"] (defScope (top 7)) := ⟨rfl, rfl, rfl, by decide +kernel, rfl, by decide +kernel, by decide +kernel⟩
theorem c_allsets (Fn : TextFnC K mg "all_sets" (top 7) cA) (B : Bi mg) (TB : TabB base mg cA PT) (hT : T = [(PT, lamName "all_sets")]) : cAllSets T P w K mg base := by
  refine callee_byC Fn sc_allsets (fun _ => rfl) (fun _ _ _ _ _ _ us hl => match us, hl with | [_], _ => rfl) fun n hn f A outer s H E hr => ?_
  have nd := sc_allsets.nd
  refine ss_cons (s1_set 1 (ee_lst (r := rSet) (xs := [[]]) (ea1 ee_tup0) (by decide)) ?_ (fun _ _ e => nomatch e) nd)
  refine ss_cons (s1_forX 2 PassesOwn.never rfl (ei_tup (ev 0 rfl)) (fun i => ⟨[some (rSet (wholeN n)), some (rLst rSet (((wholeN n).take i).foldl sub1 [[]])), none, none], none⟩) (aimp (by simp [GImp, startG])) (fun _ _ _ e => nomatch e) nd ?_ ?_)
  · intro i c hc
    have et := foldl_take (f := sub1) (z := [[]]) hc
    have l1 := len_sub5 (n := n) (i := i) hn
    have l2 : ((wholeN n).take i).length ≤ (wholeN n).length := List.length_take_le' i _
    rw [len_whole] at l2
    have l3 : ∀ p ∈ ((wholeN n).take i).foldl sub1 [[]], p.length ≤ 5 := fun p hp => Nat.le_trans (len_part hp) (Nat.le_trans l2 hn)
    rw [et]
    generalize ((wholeN n).take i).foldl sub1 [[]] = y at l1 l3 ⊢
    refine ss_one (s1_set 1 (ee_catL (ev 1 rfl) (ee_lc0 (u := rSet) (f := fun p => p ++ [c]) 3 rfl sc_allsets (ei_list (ev 1 rfl)) (fun p hp s H C' cl fp => ee_catT (ev 3 rfl) (ee_tup1 (ev 2 rfl)) (by have := l3 p hp; show p.length + 1 ≤ 1000; omega)) (by omega)) (by rw [List.length_map]; omega)) ?_ (fun _ _ e => nomatch e) nd)
    exact aimp (by simp [GImp, sub1])
  · rw [List.take_length]
    have l1 := len_sub5 (n := n) (i := (wholeN n).length) hn
    rw [List.take_length] at l1
    exact ss_ret (ee_sortKey hr B.sorted B.len TB rfl rfl hT (ev 1 rfl) (by show (List.foldl sub1 [[]] (wholeN n)).length ≤ 1000; omega) (nscope_by (by decide +kernel)) (by decide +kernel) (by decide +kernel) rfl (fun _ _ _ _ => rfl) rfl)
/-- spread_sets -/
theorem rw_sstep {D F : List Row} {x : List Int} (h : Rw F) (hx : S5 x) : Rw (sstep D F x) := by
  unfold sstep
  split
  · exact h
  · split
    · intro p hp
      rcases List.mem_append.mp hp with z | z
      · exact h p z
      · rw [List.mem_singleton.mp z]
        exact ⟨hx, s5_clo D x⟩
    · exact h
theorem rw_spr {D : List Row} : ∀ {L : List (List Int)} {F : List Row}, (∀ x ∈ L, S5 x) → Rw F → Rw (L.foldl (sstep D) F)
  | [], _, _, h => h
  | x :: L, F, hs, h => rw_spr (L := L) (fun y hy => hs y (List.mem_cons_of_mem _ hy)) (rw_sstep h (hs x List.mem_cons_self))
theorem alls_s5 {n : Nat} (hn : n ≤ 5) : ∀ x ∈ alls n, S5 x := fun x hx => (((alls_ok n).mem x).mp hx).s5 hn
theorem alls_len {n : Nat} (hn : n ≤ 5) : (alls n).length ≤ 32 := by
  rw [(alls_ok n).len]
  exact Nat.le_trans (Nat.pow_le_pow_right (by decide) hn) (by decide)
theorem spr_len {n : Nat} (hn : n ≤ 5) (D : List Row) (i : Nat) : (((alls n).take i).foldl (sstep D) []).length ≤ 32 := by
  have h1 := len_spr D ((alls n).take i) []
  have h2 : ((alls n).take i).length ≤ (alls n).length := List.length_take_le' i _
  have h3 := alls_len hn
  simp at h1 h2
  omega
/-- the cover that fewest finds -/
noncomputable def cov (n : Nat) (D : List Row) : List Row := spr D (alls n)
theorem cov_len {n : Nat} (hn : n ≤ 5) (D : List Row) : (cov n D).length ≤ 32 := by
  have h := spr_len hn D (alls n).length
  rw [List.take_length] at h
  exact h
theorem cov_rw {n : Nat} (hn : n ≤ 5) (D : List Row) : Rw (cov n D) := rw_spr (alls_s5 hn) fun p hp => by simp at hp
abbrev cSpread (T : List (Addr × Str)) (P : Program) (w : World) (K : PySem.W.Frag) (mg : Str → Option Value) (base : Heap) (C : Addr) : Prop := FS.Callee T P w K mg base 6 "spread_sets" ["count", "dependencies"] (fun z => z.1 ≤ 5 ∧ Rw z.2) (fun z : Nat × List Row => [rInt (z.1 : Int), rSq (rFd C) z.2]) (fun z => rLst (rPr rSet rSet) (cov z.1 z.2))
abbrev cWhole (T : List (Addr × Str)) (P : Program) (w : World) (K : PySem.W.Frag) (mg : Str → Option Value) (base : Heap) : Prop := FS.Callee T P w K mg base 1 "whole" ["count"] (fun z => z ≤ 1000) (fun z : Nat => [rInt (z : Int)]) (fun z => rSet (wholeN z))
theorem sc_spread : FnScope ["count", "dependencies", "found", "columns", "closure", "pair"] ["count", "dependencies"] (defScope (top 17)) := ⟨rfl, rfl, rfl, by decide +kernel, rfl, by decide +kernel, by decide +kernel⟩
theorem c_spread (Fn : TextFn K mg "spread_sets" (top 17)) (B : Bi mg) (cA : cAllSets T P w K mg base) (cWh : cWhole T P w K mg base) (cW : cWithin T P w K mg base) (cC : cClosed T P w K mg base C) : cSpread T P w K mg base C := by
  refine callee_by Fn sc_spread (fun _ => rfl) (fun _ _ _ _ _ _ us hl => match us, hl with | [_, _], _ => rfl) fun z hz f cdv A outer s H E hr => ?_
  obtain ⟨n, D⟩ := z
  obtain ⟨hn, hD⟩ := hz
  have hn : n ≤ 5 := hn
  have hD : Rw D := hD
  have nd := sc_spread.nd
  refine ss_cons (s1_new (r := rPr rSet rSet) (xs := []) 2 ea_nil (by decide) ?_ (by exact (show 2 < 6 by decide)) nd)
  refine ss_cons (s1_forX 3 PassesOwn.never rfl (ei_list (ee_call cA (hr.mono (by decide)) n hn (ea1 (ee_call cWh (hr.mono (by decide)) n (by omega) (ea1 (ev 0 rfl)))))) (fun i => ⟨[some (rInt (n : Int)), some (rSq (rFd C) D), none, none, none, none], some (2, mLst (rPr rSet rSet) (((alls n).take i).foldl (sstep D) []))⟩) (aimp (by simp [GImp, startG])) (fun _ j M e => by cases e; decide) nd ?_ ?_)
  · intro i x hx
    have sx := alls_s5 hn x (List.mem_of_getElem? hx)
    have et := foldl_take (f := sstep D) (z := []) hx
    have l0 := spr_len hn D i
    have h0 : Rw (((alls n).take i).foldl (sstep D) []) := rw_spr (fun y hy => alls_s5 hn y (List.mem_of_mem_take hy)) fun p hp => by simp at hp
    rw [et]
    generalize ((alls n).take i).foldl (sstep D) [] = y at l0 h0 ⊢
    refine ss_cons (s1_set 4 (ee_call cC (hr.mono (by decide)) (D, x) ⟨hD, sx⟩ (ea_cons (ev 1 rfl) (ea1 (ev 3 rfl)))) ?_ (fun j M e => by cases e; decide) nd)
    refine ss_one (s1_if (et_neSt hr.units (ev 4 rfl) (ev 3 rfl)) (fun hc => ?_) fun hc => ?_)
    · have hc : clo D x ≠ x := by simpa using hc
      refine ss_one (s1_if (et_bl (ee_all rfl B.all (ee_lc (u := rBl) (pT := fun p => within p.1 x) (f := fun p => within p.2 x) 5 rfl sc_spread (ei_list (r := rPr rSet rSet) (xs := y) ((ev 2 rfl).imp fun _ _ => mLst_pd))
        (fun p hp s H C' cl fp => ets_one (et_bl (ee_call cW (hr.mono (by decide)) (p.1, x) (h0 p hp).1 (ea_cons (ee_fst (z := p) (ev 5 rfl)) (ea1 (ev 3 rfl))))))
        (fun p hp _ s H C' cl fp => ee_call cW (hr.mono (by decide)) (p.2, x) (h0 p hp).2 (ea_cons (ee_snd (z := p) (ev 5 rfl)) (ea1 (ev 3 rfl)))) (by omega)))) (fun hd => ?_) fun hd => ?_)
      · have e : sstep D y x = y ++ [(x, clo D x)] := (if_neg hc).trans (if_pos hd)
        rw [e]
        refine ss_one (s1_app (x0 := (x, clo D x)) 2 (ee_tup2 (ev 3 rfl) (ev 4 rfl)) (by omega) ?_)
        exact aimp (by simp [GImp])
      · have e : sstep D y x = y := (if_neg hc).trans (if_neg (by rw [hd]; exact Bool.false_ne_true))
        rw [e]
        exact ss_nil (aimp (by simp [GImp]))
    · have hc : clo D x = x := by simpa using hc
      have e : sstep D y x = y := if_pos hc
      rw [e]
      exact ss_nil (aimp (by simp [GImp]))
  · rw [List.take_length]
    exact ss_freeze (ss_ret (EE.imp (ev 2 rfl) fun _ _ h => mLst_pd h))
end
end FP
namespace FP
open PySem hiding step Callee sstep
open PySem.Spec hiding Row
open PyProof.Rows L2 LamX FM FS FQ
theorem btwTo_succ {L : List Row} {i : Nat} {p : Row} (h : L[i]? = some p) : btwTo L (i + 1) = btwTo L i ++ (L.drop (i + 1)).map (setB p) := by
  show btwTo L i ++ rowB L i = _
  unfold rowB
  rw [h]
theorem btwTo_len {L : List Row} (hl : L.length ≤ 32) {i : Nat} (hi : i ≤ L.length) : (btwTo L i).length ≤ 600 := by
  obtain ⟨r, e⟩ := btwTo_pre (L := L) (i := i) (L.length - i)
  rw [show i + (L.length - i) = L.length by omega] at e
  have h := len_btw_le hl
  unfold btw at h
  rw [e, List.length_append] at h
  omega
theorem map_self {α : Type} (L : List α) : L.map (fun p => p) = L := List.map_id' L
section
variable {T : List (Addr × Str)} {P : Program} {w : World} {K : PySem.W.Frag} {mg : Str → Option Value} {base : Heap} {C : Addr}
/-- the cover and its paper, as data -/
noncomputable def outN (n : Nat) (D : List Row) : List Row × (List (List Int) × List (List Int)) := (cov n D, ((cov n D).map (·.1), btw (cov n D)))
abbrev cFewest (T : List (Addr × Str)) (P : Program) (w : World) (K : PySem.W.Frag) (mg : Str → Option Value) (base : Heap) (C : Addr) : Prop := FS.Callee T P w K mg base 7 "fewest" ["count", "dependencies"] (fun z => z.1 ≤ 5 ∧ Rw z.2) (fun z : Nat × List Row => [rInt (z.1 : Int), rSq (rFd C) z.2]) (fun z => rOut C (outN z.1 z.2))
theorem sc_fewest : FnScope ["count", "dependencies", "found", "between", "place", "one", "two", "cover", "pair"] ["count", "dependencies"] (defScope (top 19)) := ⟨rfl, rfl, rfl, by decide +kernel, rfl, by decide +kernel, by decide +kernel⟩
theorem c_fewest (Fn : TextFn K mg "fewest" (top 19)) (B : Bi mg) (cS : cSpread T P w K mg base C) (cB : cBetween T P w K mg base) (M : MkOk T P w K mg base C 2) : cFewest T P w K mg base C := by
  obtain ⟨fi, fd, pi, M1, M2, M3, M4⟩ := M
  refine callee_by Fn sc_fewest (fun _ => rfl) (fun _ _ _ _ _ _ us hl => match us, hl with | [_, _], _ => rfl) fun z hz f cdv A outer s H E hr => ?_
  obtain ⟨n, D⟩ := z
  obtain ⟨hn, hD⟩ := hz
  have hn : n ≤ 5 := hn
  have nd := sc_fewest.nd
  have hF := cov_rw hn D
  have lF := cov_len hn D
  show SS T _ _ _ _ (rOut C (cov n D, ((cov n D).map (·.1), btw (cov n D))))
  refine ss_cons (s1_set 2 (ee_call cS hr (n, D) ⟨hn, hD⟩ (ea_cons (ev 0 rfl) (ea1 (ev 1 rfl)))) ?_ (fun _ _ e => nomatch e) nd)
  show SS T _ ⟨(startG 9 [rInt (n : Int), rSq (rFd C) D]).set 2 (some (rLst (rPr rSet rSet) (cov n D))), none⟩ _ _ _
  generalize cov n D = F at hF lF ⊢
  refine ss_cons (s1_new (r := rSet) (xs := []) 3 ea_nil (by decide) ?_ (by exact (show 3 < 9 by decide)) nd)
  refine ss_cons (s1_forN 4 5 PassesOwn.never rfl (ei_enum (r := rPr rSet rSet) (xs := F) B.enumerate (ev 2 rfl)) (fun _ => True) (fun i => ⟨[some (rInt (n : Int)), some (rSq (rFd C) D), some (rLst (rPr rSet rSet) F), none, none, none, none, none, none], some (3, mLst rSet (btwTo F i))⟩) True.intro (aimp (by simp [GImp, startG])) (fun _ j M e => by cases e; decide) nd ?_ ?_)
  · intro i p hp _
    have sp := hF p (List.mem_of_getElem? hp)
    have li := (List.getElem?_eq_some_iff.mp hp).1
    have l1 := btwTo_len lF (Nat.le_of_lt li)
    refine ss_one (s1_forX 6 PassesOwn.never rfl (ei_list (r := rPr rSet rSet) (xs := F.drop (i + 1)) (ee_sub_from (n := i + 1) (ev 2 rfl) (EE.to (ee_add (ev 4 rfl) ee_int) (congrArg rInt (by show (i : Int) + 1 = ((i + 1 : Nat) : Int); omega)))))
      (fun j => ⟨[some (rInt (n : Int)), some (rSq (rFd C) D), some (rLst (rPr rSet rSet) F), none, some (rInt (i : Int)), some (rPr rSet rSet p), none, none, none], some (3, mLst rSet (btwTo F i ++ ((F.drop (i + 1)).take j).map (setB p)))⟩) ?_ (fun _ j M e => by cases e; decide) nd ?_ ?_)
    · rw [List.take_zero, List.map_nil, List.append_nil]
      exact aimp (by simp [GImp])
    · intro j q hq
      have sq := hF q (List.mem_of_mem_drop (List.mem_of_getElem? hq))
      have l2 : ((F.drop (i + 1)).take j).length ≤ (F.drop (i + 1)).length := List.length_take_le' j _
      rw [List.length_drop] at l2
      refine ss_one (s1_app 3 (ee_call cB (hr.mono (by decide)) (p, q) ⟨sp.1, sq.1⟩ (ea_cons (ev 5 rfl) (ea1 (ev 6 rfl)))) (by rw [List.length_append, List.length_map]; omega) ?_)
      rw [map_take hq, ← List.append_assoc]
      exact aimp (by simp [GImp])
    · rw [List.take_length, btwTo_succ hp]
      exact ⟨True.intro, aimp (by simp [GImp])⟩
  · intro _
    refine ss_freeze ?_
    refine SS.pre (b := ⟨[none, none, some (rLst (rPr rSet rSet) F), some (rLst rSet (btw F)), none, none, none, none, none], none⟩) ?_ ⟨⟨fun _ _ h => h, fun _ _ h => mLst_pd h, by simp [GImp]⟩, True.intro⟩
    have lb := len_btw_le lF
    refine ss_cons (s1_setLc (u := rFd C) (f := fun p => p) 7 8 rfl sc_fewest (ei_list (r := rPr rSet rSet) (xs := F) (ev 2 rfl)) (fun p hp s H C' cl fp => EE.to (ee_make (ls := p.1) (rs := p.2) M1 M2 M3 M4 (hr.mono (by decide)) (ea_cons (ee_fst (z := p) (ev 8 rfl)).sqT (ea1 (ee_snd (z := p) (ev 8 rfl)).sqT)) (by have := (hF p hp).1.len; omega) (by have := (hF p hp).2.len; omega)) (mk_s5 (hF p hp).1 (hF p hp).2)) (by omega) ?_)
    rw [map_self]
    exact ss_ret (ee_tup2 (r := rLst (rFd C)) (u := rPaper) (ev 7 rfl) (ee_tup (ea_cons ee_str (ea_cons (ee_tuple (r := rSet) B.tuple (ee_lc0 (f := fun p => p.1) 8 rfl sc_fewest (ei_list (r := rPr rSet rSet) (xs := F) (ev 2 rfl)) (fun p hp s H C' cl fp => ee_fst (z := p) (ev 8 rfl)) (by omega))) (ea1 (ee_tuple B.tuple (ev 3 rfl))))) (by exact (show 3 ≤ 1000 by decide))))
end
end FP
namespace FP
open PySem hiding step Callee sstep
open PySem.Spec hiding Row
open PyProof.Rows L2 LamX FM FS FQ
section
variable {T : List (Addr × Str)} {P : Program} {w : World} {K : PySem.W.Frag} {mg : Str → Option Value} {base : Heap} {C : Addr}
abbrev cIsSet (T : List (Addr × Str)) (P : Program) (w : World) (K : PySem.W.Frag) (mg : Str → Option Value) (base : Heap) : Prop := FS.Callee T P w K mg base 1 "is_set" ["count", "columns"] (fun z => z.1 ≤ 5 ∧ Sn z.1 z.2) (fun z : Nat × List Int => [rInt (z.1 : Int), rSet z.2]) (fun z => rBl true)
theorem sc_isset : FnScope ["count", "columns", "ordered", "k", "column"] ["count", "columns"] (defScope (top 21)) := ⟨rfl, rfl, rfl, by decide +kernel, rfl, by decide +kernel, by decide +kernel⟩
theorem c_isset (Fn : TextFn K mg "is_set" (top 21)) (B : Bi mg) : cIsSet T P w K mg base := by
  refine callee_by Fn sc_isset (fun _ => rfl) (fun _ _ _ _ _ _ us hl => match us, hl with | [_, _], _ => rfl) fun z hz f cdv A outer s H E hr => ?_
  obtain ⟨n, x⟩ := z
  obtain ⟨hn, hx⟩ := hz
  have hn : n ≤ 5 := hn
  have hx : Sn n x := hx
  have l5 := (hx.s5 hn).len
  have nd := sc_isset.nd
  refine ss_cons (s1_set (p := rBl true) 2 (EE.to (ee_all rfl B.all (ee_lc0 (u := rBl) (f := fun (i : Nat) => decide (x.getD i 0 < x.getD (i + 1) 0)) 3 rfl sc_isset (ei_rangeI (j := (x.length : Int) - 1) B.range (ee_sub (ee_lenT B.len (ev 1 rfl)) ee_int) (by omega)) (fun i hi s H C' cl fp => ?_) (by rw [List.length_range]; omega))) (congrArg rBl ?_)) ?_ (fun _ _ e => nomatch e) nd)
  · have hi := List.mem_range.mp hi
    have i1 : i < x.length := by omega
    have i2 : i + 1 < x.length := by omega
    have g1 : x[i]? = some (x.getD i 0) := by rw [List.getD_eq_getElem?_getD, List.getElem?_eq_getElem i1]; rfl
    have g2 : x[i + 1]? = some (x.getD (i + 1) 0) := by rw [List.getD_eq_getElem?_getD, List.getElem?_eq_getElem i2]; rfl
    exact ee_lt (ee_ixT (x := x.getD i 0) (ev 1 rfl) (ev 3 rfl) (atI_nat g1)) (ee_ixT (i := ((i + 1 : Nat) : Int)) (x := x.getD (i + 1) 0) (ev 1 rfl) (EE.to (ee_add (ev 3 rfl) ee_int) (congrArg rInt (by show (i : Int) + 1 = ((i + 1 : Nat) : Int); omega))) (atI_nat g2))
  · rw [List.all_eq_true]
    intro b hb
    obtain ⟨i, hi, e⟩ := List.mem_map.mp hb
    have hi := List.mem_range.mp hi
    have i1 : i < x.length := by omega
    have i2 : i + 1 < x.length := by omega
    rw [← e]
    refine decide_eq_true ?_
    have g := List.pairwise_iff_getElem.mp hx.1 i (i + 1) i1 i2 (Nat.lt_succ_self i)
    rw [List.getD_eq_getElem?_getD, List.getElem?_eq_getElem i1, List.getD_eq_getElem?_getD, List.getElem?_eq_getElem i2]
    exact g
  · refine ss_ret (EE.to (ee_and2 (ev 2 rfl) fun _ => ee_all rfl B.all (ee_lc0 (r := rInt) (xs := x) (u := rBl) (f := fun c => decide (0 ≤ c) && decide (c < n)) 4 rfl sc_isset (ei_tup (ev 1 rfl)) (fun c hc s H C' cl fp => ?_) (by omega))) (congrArg rBl ?_))
    · exact ee_chain ee_int (ev 4 rfl) (ev 0 rfl)
    rw [Bool.true_and, List.all_eq_true]
    intro b hb
    obtain ⟨c, hc, e⟩ := List.mem_map.mp hb
    rw [← e]
    have h := hx.2 c hc
    simp [h.1, h.2]
/-- parts_pair, where the set between is as it should be -/
structure PpOk (n : Nat) (D : List Row) (p q : Row) : Prop where
  n5 : n ≤ 5
  rn : Rn n D
  s1 : Sn n p.1
  s2 : Sn n q.1
  bt : Btw n D p q
abbrev cParts (T : List (Addr × Str)) (P : Program) (w : World) (K : PySem.W.Frag) (mg : Str → Option Value) (base : Heap) (C : Addr) : Prop := FS.Callee T P w K mg base 3 "parts_pair" ["dependencies", "one", "two", "between"] (fun z => PpOk z.1 z.2.1 z.2.2.1 z.2.2.2) (fun z : Nat × List Row × Row × Row => [rSq (rFd C) z.2.1, rSet z.2.2.1.1, rSet z.2.2.2.1, rSet (setB z.2.2.1 z.2.2.2)]) (fun z => rBl true)
theorem sc_parts : FnScope ["dependencies", "one", "two", "between"] ["dependencies", "one", "two", "between"] (defScope (top 22)) := ⟨rfl, rfl, rfl, by decide +kernel, rfl, by decide +kernel, by decide +kernel⟩
theorem c_parts (Fn : TextFn K mg "parts_pair" (top 22)) (cW : cWithin T P w K mg base) (cI : cIsClosed T P w K mg base C) (cM : cMet T P w K mg base) : cParts T P w K mg base C := by
  refine callee_by Fn sc_parts (fun _ => rfl) (fun _ _ _ _ _ _ us hl => match us, hl with | [_, _, _, _], _ => rfl) fun z hz f cdv A outer s H E hr => ?_
  obtain ⟨n, D, p, q⟩ := z
  obtain ⟨hn, hD, sp, sq, bt⟩ := hz
  have hn : n ≤ 5 := hn
  have hD : Rn n D := hD
  have sp : Sn n p.1 := sp
  have sq : Sn n q.1 := sq
  have bt : Btw n D p q := bt
  have sb := bt.sn.s5 hn
  have ec : clB D (setB p q) = true := decide_eq_true bt.closed
  refine ss_cons (s1_if (et_not (et_bl (ee_call cI hr (D, setB p q) ⟨hD.rw hn, sb⟩ (ea_cons (ev 0 rfl) (ea1 (ev 3 rfl)))))) (fun hc => ?_) fun hc => ?_)
  · have hc : (!clB D (setB p q)) = true := hc
    rw [ec] at hc
    cases hc
  refine ss_nil ?_
  refine ss_cons (s1_if (et_bl (ee_call cW (hr.mono (by decide)) (p.1, q.1) (sp.s5 hn) (ea_cons (ev 1 rfl) (ea1 (ev 2 rfl))))) (fun hw => ?_) fun hw => ?_)
  · have hw : within p.1 q.1 = true := hw
    obtain ⟨b1, b2⟩ := bt.low hw
    refine ss_ret (EE.to (ee_and2 (ee_call cW (hr.mono (by decide)) (p.1, setB p q) (sp.s5 hn) (ea_cons (ev 1 rfl) (ea1 (ev 3 rfl)))) fun _ => ee_call cW (hr.mono (by decide)) (setB p q, q.1) sb (ea_cons (ev 3 rfl) (ea1 (ev 2 rfl)))) (congrArg rBl ?_))
    show (within p.1 (setB p q) && within (setB p q) q.1) = true
    rw [b1, b2]
    rfl
  have hw : within p.1 q.1 = false := hw
  obtain ⟨n2, em⟩ := bt.high hw
  refine ss_nil ?_
  refine ss_cons (s1_if (et_bl (ee_call cW (hr.mono (by decide)) (q.1, p.1) (sq.s5 hn) (ea_cons (ev 2 rfl) (ea1 (ev 1 rfl))))) (fun hv => ?_) fun hv => ?_)
  · have hv : within q.1 p.1 = true := hv
    rw [n2] at hv
    cases hv
  refine ss_nil ?_
  refine ss_ret (EE.to (ee_eqS hr.units (ev 3 rfl) (ee_call cM (hr.mono (by decide)) (p.1, q.1) (sp.s5 hn) (ea_cons (ev 1 rfl) (ea1 (ev 2 rfl))))) (congrArg rBl ?_))
  exact decide_eq_true em
end
end FP
namespace FP
open PySem hiding step Callee sstep
open PySem.Spec hiding Row
open PyProof.Rows L2 LamX FM FS FQ
theorem all_map {α : Type} {L : List α} {f : α → Bool} (h : ∀ x ∈ L, f x = true) : (L.map f).all id = true := by
  rw [List.all_eq_true]
  intro b hb
  obtain ⟨x, hx, e⟩ := List.mem_map.mp hb
  rw [← e]
  exact h x hx
theorem any_map {α : Type} {L : List α} {f : α → Bool} (h : ∀ x ∈ L, f x = false) : (L.map f).any id = false := by
  cases e : (L.map f).any id with
  | false => rfl
  | true =>
    obtain ⟨b, hb, e2⟩ := List.any_eq_true.mp e
    obtain ⟨x, hx, e3⟩ := List.mem_map.mp hb
    rw [← e3, id, h x hx] at e2
    cases e2
theorem fst_at {F : List Row} {i : Nat} {x : List Int} (h : (F.map (·.1))[i]? = some x) : ∃ p, F[i]? = some p ∧ p.1 = x := by
  rw [List.getElem?_map] at h
  obtain ⟨p, h1, h2⟩ := Option.map_eq_some_iff.mp h
  exact ⟨p, h1, h2⟩
section
variable {T : List (Addr × Str)} {P : Program} {w : World} {K : PySem.W.Frag} {mg : Str → Option Value} {base : Heap} {C : Addr}
abbrev cTakes (T : List (Addr × Str)) (P : Program) (w : World) (K : PySem.W.Frag) (mg : Str → Option Value) (base : Heap) (C : Addr) : Prop := FS.Callee T P w K mg base 5 "takes_fewest" ["count", "dependencies", "cover", "paper"] (fun z => z.1 ≤ 5 ∧ Rn z.1 z.2 ∧ z.2.length ≤ 6) (fun z : Nat × List Row => [rInt (z.1 : Int), rLst (rFd C) z.2, rLst (rFd C) (cov z.1 z.2), rPaper ((cov z.1 z.2).map (·.1), btw (cov z.1 z.2))]) (fun z => rBl true)
theorem sc_takes : FnScope ["count", "dependencies", "cover", "paper", "_", "sets", "between", "place", "index", "one", "two", "dependency", "columns"] ["count", "dependencies", "cover", "paper"] (defScope (top 23)) := ⟨rfl, rfl, rfl, by decide +kernel, rfl, by decide +kernel, by decide +kernel⟩
theorem c_takes (Fn : TextFn K mg "takes_fewest" (top 23)) (B : Bi mg) (cS : cSays T P w K mg base C) (cI : cIsSet T P w K mg base) (cCl : cIsClosed T P w K mg base C) (cPp : cParts T P w K mg base C) : cTakes T P w K mg base C := by
  refine callee_by Fn sc_takes (fun _ => rfl) (fun _ _ _ _ _ _ us hl => match us, hl with | [_, _, _, _], _ => rfl) fun z hz f cdv A outer s H E hr => ?_
  obtain ⟨n, D⟩ := z
  obtain ⟨hn, hD, hl⟩ := hz
  have hn : n ≤ 5 := hn
  have hD : Rn n D := hD
  have hl : D.length ≤ 6 := hl
  have hS : Sprd n D (cov n D) := sprd_of hn hD (alls_ok n)
  have hDw := hD.rw hn
  have hF := cov_rw hn D
  have lF := cov_len hn D
  have nd := sc_takes.nd
  show SS T _ ⟨startG 13 [rInt (n : Int), rLst (rFd C) D, rLst (rFd C) (cov n D), rPaper ((cov n D).map (·.1), btw (cov n D))], none⟩ _ _ (rBl true)
  generalize cov n D = F at hS hF lF ⊢
  have eq := spr_eqv hn hD hS
  have lb := len_btw_le lF
  refine ss_cons (s1_if (k := false) (ET.to (et_not (et_bl (ee_all rfl B.all (ee_lc0 (u := rBl) (r := rFd C) (xs := F) (f := fun p => says D p) 11 rfl sc_takes (ei_list (ev 2 rfl)) (fun p hp s H C' cl fp => ee_call cS hr (D, p) ⟨hDw, hF p hp⟩ (ea_cons (ev 1 rfl).sqL (ea1 (ev 11 rfl)))) (by omega))))) ?_) (fun e => nomatch e) fun _ => ?_)
  · rw [all_map (says_of_eqv hDw hF eq.symm)]
    rfl
  refine ss_nil ?_
  refine ss_cons (s1_if (k := false) (ET.to (et_not (et_bl (ee_all rfl B.all (ee_lc0 (u := rBl) (r := rFd C) (xs := D) (f := fun p => says F p) 11 rfl sc_takes (ei_list (ev 1 rfl)) (fun p hp s H C' cl fp => ee_call cS hr (F, p) ⟨hF, hDw p hp⟩ (ea_cons (ev 2 rfl).sqL (ea1 (ev 11 rfl)))) (by omega))))) ?_) (fun e => nomatch e) fun _ => ?_)
  · rw [all_map (says_of_eqv hF hDw eq)]
    rfl
  refine ss_nil ?_
  refine ss_cons (s1_unp (p := rPaper (F.map (·.1), btw F)) (ev 3 rfl) (tg_three rfl (tg_name 4 nd) (tg_name 5 nd) (tg_name 6 nd)) ?_ (fun _ _ e => nomatch e))
  refine SS.pre (b := ⟨[some (rInt (n : Int)), some (rLst (rFd C) D), some (rLst (rFd C) F), some (rPaper (F.map (·.1), btw F)), none, some (rTup rSet (F.map (·.1))), some (rTup rSet (btw F)), none, none, none, none, none, none], none⟩) ?_ (aimp (by simp [GImp, startG]))
  have em : (F.map (·.1)).length = F.length := List.length_map _
  refine ss_cons (s1_if (k := false) (ET.to (et_or3 (et_neS (ee_ixP 0 (p := rStr "spread") (ev 3 rfl) rfl) ee_str) (fun _ => et_neI (ee_lenT B.len (ev 5 rfl)) (ee_lenL B.len (ev 2 rfl))) fun _ _ => et_neI (ee_lenT B.len (ev 6 rfl)) (ee_div (ee_mul (ee_lenT B.len (ev 5 rfl)) (ee_sub (ee_lenT B.len (ev 5 rfl)) ee_int) (by rw [em]; omega)) ee_int (by decide))) ?_) (fun e => nomatch e) fun _ => ?_)
  · rw [em, len_btw]
    have e := off_all F.length
    simp [e]
  refine ss_nil ?_
  refine ss_cons (s1_if (k := false) (ET.to (et_not (et_bl (ee_all rfl B.all (ee_lc0 (u := rBl) (r := rSet) (xs := F.map (·.1) ++ btw F) (f := fun _ => true) 12 rfl sc_takes (ei_tup (ee_catT (ev 5 rfl) (ev 6 rfl) (by rw [em]; omega))) (fun x hx s H C' cl fp => ee_call cI (hr.mono (by decide)) (n, x) ⟨hn, ?_⟩ (ea_cons (ev 0 rfl) (ea1 (ev 12 rfl)))) (by rw [List.length_append, em]; omega))))) ?_) (fun e => nomatch e) fun _ => ?_)
  · rcases List.mem_append.mp hx with h | h
    · obtain ⟨p, hp, e⟩ := List.mem_map.mp h
      rw [← e]
      exact (hS.at_ p hp).1
    · exact sn_btw hn hD hS x h
  · rw [all_map fun _ _ => rfl]
    rfl
  refine ss_nil ?_
  refine ss_cons (s1_if (k := false) (ET.to (et_bl (ee_any rfl B.any (ee_lc0 (u := rBl) (r := rSet) (xs := F.map (·.1)) (f := fun x => clB D x) 12 rfl sc_takes (ei_tup (ev 5 rfl)) (fun x hx s H C' cl fp => ee_call cCl (hr.mono (by decide)) (D, x) ⟨hDw, ?_⟩ (ea_cons (ev 1 rfl).sqL (ea1 (ev 12 rfl)))) (by rw [em]; omega)))) ?_) (fun e => nomatch e) fun _ => ?_)
  · obtain ⟨p, hp, e⟩ := List.mem_map.mp hx
    rw [← e]
    exact (hF p hp).1
  · refine any_map fun x hx => ?_
    obtain ⟨p, hp, e⟩ := List.mem_map.mp hx
    obtain ⟨_, e1, e2⟩ := hS.at_ p hp
    rw [← e]
    exact decide_eq_false (e1 ▸ e2)
  refine ss_nil ?_
  refine ss_cons (s1_set 7 ee_int ?_ (fun _ _ e => nomatch e) nd)
  refine ss_cons (s1_forN 8 9 PassesOwn.never rfl (ei_enumT (r := rSet) (xs := F.map (·.1)) B.enumerate (ev 5 rfl)) (fun _ => True) (fun i => ⟨[none, some (rLst (rFd C) D), none, none, none, some (rTup rSet (F.map (·.1))), some (rTup rSet (btw F)), some (rInt ((off F.length i : Nat) : Int)), none, none, none, none, none], none⟩) True.intro (aimp (by simp [GImp]; exact fun _ _ h => h)) (fun _ _ _ e => nomatch e) nd ?_ ?_)
  · intro i x hx _
    obtain ⟨p, hp, ep⟩ := fst_at hx
    subst ep
    have li := (List.getElem?_eq_some_iff.mp hp).1
    refine ss_one (s1_forX 10 PassesOwn.never rfl (ei_tup (r := rSet) (xs := (F.map (·.1)).drop (i + 1)) (ee_sub_fromT (n := i + 1) (ev 5 rfl) (EE.to (ee_add (ev 8 rfl) ee_int) (congrArg rInt (by show (i : Int) + 1 = ((i + 1 : Nat) : Int); omega)))))
      (fun j => ⟨[none, some (rLst (rFd C) D), none, none, none, some (rTup rSet (F.map (·.1))), some (rTup rSet (btw F)), some (rInt ((off F.length i + j : Nat) : Int)), some (rInt (i : Int)), some (rSet p.1), none, none, none], none⟩) (aimp (by simp [GImp])) (fun _ _ _ e => nomatch e) nd ?_ ?_)
    · intro j y hy
      rw [List.getElem?_drop] at hy
      obtain ⟨q, hq, eq2⟩ := fst_at hy
      subst eq2
      have pp : PpOk n D p q := ⟨hn, hD, (hS.at_ p (List.mem_of_getElem? hp)).1, (hS.at_ q (List.mem_of_getElem? hq)).1, btw_mem hn hD hS hp hq (by omega)⟩
      refine ss_cons (s1_if (k := false) (ET.to (et_not (et_bl (ee_call cPp (hr.mono (by decide)) (n, D, p, q) pp (ea_cons (ev 1 rfl).sqL (ea_cons (ev 9 rfl) (ea_cons (ev 10 rfl) (ea1 (ee_ixT (x := setB p q) (ev 6 rfl) (ev 7 rfl) (atI_nat (btw_at hp hq)))))))))) rfl) (fun e => nomatch e) fun _ => ?_)
      refine ss_nil ?_
      refine ss_one (s1_inc 7 rfl ee_int ?_ (fun _ _ e => nomatch e) nd)
      have e : (((off F.length i + j : Nat) : Int) + 1) = ((off F.length i + (j + 1) : Nat) : Int) := by omega
      simp only [e]
      exact aimp (by simp [GImp])
    · refine ⟨True.intro, aimp ?_⟩
      have e : off F.length i + ((F.map (·.1)).drop (i + 1)).length = off F.length (i + 1) := by
        rw [List.length_drop, em]
        rfl
      rw [e]
      simp [GImp]
  · intro _
    exact ss_ret ee_bl
end
end FP
namespace FP
open PySem hiding step Callee sstep
open PySem.Spec hiding Row
open PyProof.Rows L2 LamX FM FS FQ
theorem within_less {a b : List Int} : decide (((less a b).length : Int) = 0) = within a b := by
  cases e : within a b with
  | true =>
    refine decide_eq_true ?_
    have h : less a b = [] := List.filter_eq_nil_iff.mpr fun c hc => by
      have := within_iff.mp e c hc
      simp [this]
    rw [h]
    rfl
  | false =>
    refine decide_eq_false fun h => ?_
    have h2 : less a b = [] := List.length_eq_zero_iff.mp (by omega)
    rw [within_false] at e
    refine e fun c hc => Classical.byContradiction fun no => ?_
    have : c ∈ less a b := mem_less.mpr ⟨hc, no⟩
    rw [h2] at this
    simp at this
section
variable {T : List (Addr × Str)} {P : Program} {w : World} {K : PySem.W.Frag} {mg : Str → Option Value} {base : Heap} {C : Addr}
/-! the law's own sets -/
abbrev kUnited (T : List (Addr × Str)) (P : Program) (w : World) (K : PySem.W.Frag) (mg : Str → Option Value) (base : Heap) : Prop := FS.Callee T P w K mg base 1 "_law_united" ["_law_a", "_law_b"] (fun z => S5 z.1 ∧ S5 z.2) (fun z : List Int × List Int => [rSet z.1, rSet z.2]) (fun z => rSet (uni z.1 z.2))
theorem sc_kunited : FnScope ["_law_a", "_law_b"] ["_law_a", "_law_b"] (defScope (top 28)) := ⟨rfl, rfl, rfl, by decide +kernel, rfl, by decide +kernel, by decide +kernel⟩
theorem k_united (Fn : TextFn K mg "_law_united" (top 28)) (B : Bi mg) : kUnited T P w K mg base := by
  refine callee_by Fn sc_kunited (fun _ => rfl) (fun _ _ _ _ _ _ us hl => match us, hl with | [_, _], _ => rfl) fun z hz f cdv A outer s H E hr => ?_
  have l1 := hz.1.len
  have l2 := hz.2.len
  exact ss_ret (ee_tuple B.tuple (ee_sset rfl B.sorted B.set (ee_catT (ev 0 rfl) (ev 1 rfl) (by omega)).sqT (by rw [List.length_append]; omega)))
abbrev kMet (T : List (Addr × Str)) (P : Program) (w : World) (K : PySem.W.Frag) (mg : Str → Option Value) (base : Heap) : Prop := FS.Callee T P w K mg base 1 "_law_met" ["_law_a", "_law_b"] (fun z => S5 z.1) (fun z : List Int × List Int => [rSet z.1, rSet z.2]) (fun z => rSet (met z.1 z.2))
theorem sc_kmet : FnScope ["_law_a", "_law_b", "_law_k"] ["_law_a", "_law_b"] (defScope (top 29)) := ⟨rfl, rfl, rfl, by decide +kernel, rfl, by decide +kernel, by decide +kernel⟩
theorem k_met (Fn : TextFn K mg "_law_met" (top 29)) (B : Bi mg) : kMet T P w K mg base := by
  refine callee_by Fn sc_kmet (fun _ => rfl) (fun _ _ _ _ _ _ us hl => match us, hl with | [_, _], _ => rfl) fun z hz f cdv A outer s H E hr => ?_
  have hl := hz.len
  refine ss_ret (EE.to (ee_tuple B.tuple (ee_lc 2 rfl sc_kmet (ei_tup (ev 0 rfl)) (f := fun c => c) (pT := fun c => decide (c ∈ z.2)) (fun a ha s H C cl fp => ets_one (et_in (ev 2 rfl) (ev 1 rfl))) (fun a ha _ s H C cl fp => ev 2 rfl) (by omega))) ?_)
  rw [List.map_id']
  rfl
abbrev kLess (T : List (Addr × Str)) (P : Program) (w : World) (K : PySem.W.Frag) (mg : Str → Option Value) (base : Heap) : Prop := FS.Callee T P w K mg base 1 "_law_less" ["_law_a", "_law_b"] (fun z => S5 z.1) (fun z : List Int × List Int => [rSet z.1, rSet z.2]) (fun z => rSet (less z.1 z.2))
theorem sc_kless : FnScope ["_law_a", "_law_b", "_law_k"] ["_law_a", "_law_b"] (defScope (top 30)) := ⟨rfl, rfl, rfl, by decide +kernel, rfl, by decide +kernel, by decide +kernel⟩
theorem k_less (Fn : TextFn K mg "_law_less" (top 30)) (B : Bi mg) : kLess T P w K mg base := by
  refine callee_by Fn sc_kless (fun _ => rfl) (fun _ _ _ _ _ _ us hl => match us, hl with | [_, _], _ => rfl) fun z hz f cdv A outer s H E hr => ?_
  have hl := hz.len
  refine ss_ret (EE.to (ee_tuple B.tuple (ee_lc 2 rfl sc_kless (ei_tup (ev 0 rfl)) (f := fun c => c) (pT := fun c => !decide (c ∈ z.2)) (fun a ha s H C cl fp => ets_one (et_notin (ev 2 rfl) (ev 1 rfl))) (fun a ha _ s H C cl fp => ev 2 rfl) (by omega))) ?_)
  rw [List.map_id']
  rfl
abbrev kWithin (T : List (Addr × Str)) (P : Program) (w : World) (K : PySem.W.Frag) (mg : Str → Option Value) (base : Heap) : Prop := FS.Callee T P w K mg base 2 "_law_is_within" ["_law_a", "_law_b"] (fun z => S5 z.1) (fun z : List Int × List Int => [rSet z.1, rSet z.2]) (fun z => rBl (within z.1 z.2))
theorem sc_kwithin : FnScope ["_law_a", "_law_b"] ["_law_a", "_law_b"] (defScope (top 31)) := ⟨rfl, rfl, rfl, by decide +kernel, rfl, by decide +kernel, by decide +kernel⟩
theorem k_within (Fn : TextFn K mg "_law_is_within" (top 31)) (B : Bi mg) (kL : kLess T P w K mg base) : kWithin T P w K mg base := by
  refine callee_by Fn sc_kwithin (fun _ => rfl) (fun _ _ _ _ _ _ us hl => match us, hl with | [_, _], _ => rfl) fun z hz f cdv A outer s H E hr => ?_
  exact ss_ret (EE.to (ee_eqI (ee_lenT B.len (ee_call kL hr (z.1, z.2) hz (ea_cons (ev 0 rfl) (ea1 (ev 1 rfl))))) ee_int) (congrArg rBl within_less))
/-! the law's own closure -/
theorem lstep_s5 {f : List Int} {p : Row} (h : S5 f) (hp : S5 p.2) : S5 (lstep f p) := by
  unfold lstep
  split
  · exact h.uni hp
  · exact h
theorem lfold_s5 : ∀ {L : List Row} {f : List Int}, S5 f → Rw L → S5 (L.foldl lstep f)
  | [], _, h, _ => h
  | p :: L, f, h, hL => lfold_s5 (L := L) (lstep_s5 h (hL p List.mem_cons_self).2) fun q hq => hL q (List.mem_cons_of_mem _ hq)
theorem lrounds_s5 {D : List Row} {x : List Int} (hD : Rw D) (hx : S5 x) : ∀ i : Nat, S5 (lrounds D i x)
  | 0 => hx
  | i + 1 => by
    rw [lrounds_succ]
    exact lfold_s5 (lrounds_s5 hD hx i) hD
abbrev kClosed (T : List (Addr × Str)) (P : Program) (w : World) (K : PySem.W.Frag) (mg : Str → Option Value) (base : Heap) : Prop := FS.Callee T P w K mg base 3 "_law_closed" ["_law_rows", "_law_columns"] (fun z => Rw z.1 ∧ S5 z.2 ∧ z.1.length ≤ 100) (fun z : List Row × List Int => [rLst (rPr rSet rSet) z.1, rSet z.2]) (fun z => rSet (clo z.1 z.2))
theorem sc_kclosed : FnScope ["_law_rows", "_law_columns", "_law_found", "_law_k", "_law_row"] ["_law_rows", "_law_columns"] (defScope (top 33)) := ⟨rfl, rfl, rfl, by decide +kernel, rfl, by decide +kernel, by decide +kernel⟩
theorem k_closed (Fn : TextFn K mg "_law_closed" (top 33)) (B : Bi mg) (kW : kWithin T P w K mg base) (kU : kUnited T P w K mg base) : kClosed T P w K mg base := by
  refine callee_by Fn sc_kclosed (fun _ => rfl) (fun _ _ _ _ _ _ us hl => match us, hl with | [_, _], _ => rfl) fun z hz f cdv A outer s H E hr => ?_
  obtain ⟨D, x⟩ := z
  obtain ⟨hD, hx, hl⟩ := hz
  have hD : Rw D := hD
  have hx : S5 x := hx
  have hl : D.length ≤ 100 := hl
  have nd := sc_kclosed.nd
  refine ss_cons (s1_set 2 (ev 1 rfl) ?_ (fun _ _ e => nomatch e) nd)
  refine ss_cons (s1_forX (r := fun (i : Nat) => rInt (i : Int)) (xs := List.range (D.length + 1)) 3 PassesOwn.never rfl (ei_range1 (n := D.length + 1) B.range (EE.to (ee_add (ee_lenL B.len (ev 0 rfl)) ee_int) (congrArg rInt (by show (D.length : Int) + 1 = ((D.length + 1 : Nat) : Int); omega))) (by omega)) (fun i => ⟨[some (rLst (rPr rSet rSet) D), some (rSet x), some (rSet (lrounds D i x)), none, none], none⟩) (aimp (by simp [GImp, startG, lrounds])) (fun _ _ _ e => nomatch e) nd ?_ ?_)
  · intro i k hk
    have s0 := lrounds_s5 hD hx i
    refine ss_one (s1_forX 4 PassesOwn.never rfl (ei_list (r := rPr rSet rSet) (xs := D) (ev 0 rfl)) (fun j => ⟨[some (rLst (rPr rSet rSet) D), some (rSet x), some (rSet ((D.take j).foldl lstep (lrounds D i x))), none, none], none⟩) (aimp (by simp [GImp])) (fun _ _ _ e => nomatch e) nd ?_ ?_)
    · intro j p hp
      have sp := hD p (List.mem_of_getElem? hp)
      have s1 := lfold_s5 s0 (rw_take hD j)
      have et := foldl_take (f := lstep) (z := lrounds D i x) hp
      rw [et]
      generalize (D.take j).foldl lstep (lrounds D i x) = y at s1 ⊢
      refine ss_one (s1_if (et_bl (ee_call kW hr (p.1, y) sp.1 (ea_cons (ee_fst (z := p) (ev 4 rfl)) (ea1 (ev 2 rfl))))) (fun hc => ?_) fun hc => ?_)
      · have e : lstep y p = uni y p.2 := if_pos hc
        rw [e]
        refine ss_one (s1_set 2 (ee_call kU (hr.mono (by decide)) (y, p.2) ⟨s1, sp.2⟩ (ea_cons (ev 2 rfl) (ea1 (ee_snd (z := p) (ev 4 rfl))))) ?_ (fun _ _ e => nomatch e) nd)
        exact aimp (by simp [GImp])
      · have e : lstep y p = y := if_neg (by simpa using hc)
        rw [e]
        exact ss_nil (aimp (by simp [GImp]))
    · rw [List.take_length]
      have e : D.foldl lstep (lrounds D i x) = lrounds D (i + 1) x := (lrounds_succ D i x).symm
      rw [e]
      exact aimp (by simp [GImp])
  · rw [List.length_range]
    refine ss_ret (EE.to (ev 2 rfl) ?_)
    rw [law_clo hD hx]
abbrev kIsClosed (T : List (Addr × Str)) (P : Program) (w : World) (K : PySem.W.Frag) (mg : Str → Option Value) (base : Heap) : Prop := FS.Callee T P w K mg base 4 "_law_is_closed" ["_law_rows", "_law_columns"] (fun z => Rw z.1 ∧ S5 z.2 ∧ z.1.length ≤ 100) (fun z : List Row × List Int => [rLst (rPr rSet rSet) z.1, rSet z.2]) (fun z => rBl (clB z.1 z.2))
theorem sc_kisclosed : FnScope ["_law_rows", "_law_columns"] ["_law_rows", "_law_columns"] (defScope (top 36)) := ⟨rfl, rfl, rfl, by decide +kernel, rfl, by decide +kernel, by decide +kernel⟩
theorem k_isclosed (Fn : TextFn K mg "_law_is_closed" (top 36)) (kC : kClosed T P w K mg base) : kIsClosed T P w K mg base := by
  refine callee_by Fn sc_kisclosed (fun _ => rfl) (fun _ _ _ _ _ _ us hl => match us, hl with | [_, _], _ => rfl) fun z hz f cdv A outer s H E hr => ?_
  exact ss_ret (ee_eqS hr.units (ee_call kC hr (z.1, z.2) hz (ea_cons (ev 0 rfl) (ea1 (ev 1 rfl)))) (ev 1 rfl))
/-- _law_says, where all of it follows -/
abbrev kSays (T : List (Addr × Str)) (P : Program) (w : World) (K : PySem.W.Frag) (mg : Str → Option Value) (base : Heap) : Prop := FS.Callee T P w K mg base 4 "_law_says" ["_law_rows", "_law_others"] (fun z => Rw z.1 ∧ Rw z.2 ∧ z.1.length ≤ 100 ∧ FM.Eqv z.1 z.2) (fun z : List Row × List Row => [rLst (rPr rSet rSet) z.1, rLst (rPr rSet rSet) z.2]) (fun z => rBl true)
theorem sc_ksays : FnScope ["_law_rows", "_law_others", "_law_row"] ["_law_rows", "_law_others"] (defScope (top 34)) := ⟨rfl, rfl, rfl, by decide +kernel, rfl, by decide +kernel, by decide +kernel⟩
theorem k_says (Fn : TextFn K mg "_law_says" (top 34)) (kW : kWithin T P w K mg base) (kC : kClosed T P w K mg base) : kSays T P w K mg base := by
  refine callee_by Fn sc_ksays (fun _ => rfl) (fun _ _ _ _ _ _ us hl => match us, hl with | [_, _], _ => rfl) fun z hz f cdv A outer s H E hr => ?_
  obtain ⟨D, G⟩ := z
  obtain ⟨hD, hG, hl, eq⟩ := hz
  have hD : Rw D := hD
  have hG : Rw G := hG
  have eq : FM.Eqv D G := eq
  refine ss_cons (s1_forX 2 PassesOwn.never rfl (ei_list (r := rPr rSet rSet) (xs := G) (ev 1 rfl)) (fun _ => ⟨[some (rLst (rPr rSet rSet) D), some (rLst (rPr rSet rSet) G), none], none⟩) (aimp (by simp [GImp, startG])) (fun _ _ _ e => nomatch e) sc_ksays.nd ?_ ?_)
  · intro i p hp
    have sp := hG p (List.mem_of_getElem? hp)
    refine ss_one (s1_if (k := false) (ET.to (et_not (et_bl (ee_call kW (hr.mono (by decide)) (p.2, clo D p.1) sp.2 (ea_cons (ee_snd (z := p) (ev 2 rfl)) (ea1 (ee_call kC hr (D, p.1) ⟨hD, sp.1, hl⟩ (ea_cons (ev 0 rfl) (ea1 (ee_fst (z := p) (ev 2 rfl)))))))))) ?_) (fun e => nomatch e) fun _ => ?_)
    · have h := says_of_eqv hD hG eq p (List.mem_of_getElem? hp)
      show (!says D p) = false
      rw [h]
      rfl
    · exact ss_nil (aimp (by simp [GImp]))
  · exact ss_ret ee_bl
/-- _law_plain -/
abbrev kPlain (T : List (Addr × Str)) (P : Program) (w : World) (K : PySem.W.Frag) (mg : Str → Option Value) (base : Heap) (C : Addr) : Prop := FS.Callee T P w K mg base 1 "_law_plain" ["_law_made"] (fun z => z.length ≤ 1000) (fun z : List Row => [rLst (rFd C) z]) (fun z => rLst (rPr rSet rSet) z)
theorem sc_kplain : FnScope ["_law_made", "_law_dependency"] ["_law_made"] (defScope (top 35)) := ⟨rfl, rfl, rfl, by decide +kernel, rfl, by decide +kernel, by decide +kernel⟩
theorem k_plain (Fn : TextFn K mg "_law_plain" (top 35)) (D0 : Fdx K mg C) : kPlain T P w K mg base C := by
  refine callee_by Fn sc_kplain (fun _ => rfl) (fun _ _ _ _ _ _ us hl => match us, hl with | [_], _ => rfl) fun z hz f cdv A outer s H E hr => ?_
  refine ss_ret (EE.to (ee_lc0 (u := rPr rSet rSet) (r := rFd C) (xs := z) (f := fun p => p) 1 rfl sc_kplain (ei_list (ev 0 rfl)) (fun p hp s H C' cl fp => ee_tup2 (x := p.1) (y := p.2) (ee_left (z := p) D0.cl D0.nl (ev 1 rfl)) (ee_right (z := p) D0.cl D0.nr (ev 1 rfl))) hz) ?_)
  rw [map_self]
end
end FP
namespace FP
open PySem hiding step Callee sstep
open PySem.Spec hiding Row
open PyProof.Rows L2 LamX FM FS FQ
section
variable {T : List (Addr × Str)} {P : Program} {w : World} {K : PySem.W.Frag} {mg : Str → Option Value} {base : Heap} {C : Addr}
/-- _law_is_spread, of what fewest gives -/
abbrev kSpread (T : List (Addr × Str)) (P : Program) (w : World) (K : PySem.W.Frag) (mg : Str → Option Value) (base : Heap) : Prop := FS.Callee T P w K mg base 5 "_law_is_spread" ["_law_rows", "_law_sets", "_law_between"] (fun z => z.1 ≤ 5 ∧ Rn z.1 z.2 ∧ z.2.length ≤ 100) (fun z : Nat × List Row => [rLst (rPr rSet rSet) z.2, rTup rSet ((cov z.1 z.2).map (·.1)), rTup rSet (btw (cov z.1 z.2))]) (fun z => rBl true)
theorem sc_kspread : FnScope ["_law_rows", "_law_sets", "_law_between", "_law_place", "_law_i", "_law_j", "_law_one", "_law_two", "_law_held"] ["_law_rows", "_law_sets", "_law_between"] (defScope (top 37)) := ⟨rfl, rfl, rfl, by decide +kernel, rfl, by decide +kernel, by decide +kernel⟩
theorem k_spread (Fn : TextFn K mg "_law_is_spread" (top 37)) (B : Bi mg) (kI : kIsClosed T P w K mg base) (kW : kWithin T P w K mg base) (kM : kMet T P w K mg base) : kSpread T P w K mg base := by
  refine callee_by Fn sc_kspread (fun _ => rfl) (fun _ _ _ _ _ _ us hl => match us, hl with | [_, _, _], _ => rfl) fun z hz f cdv A outer s H E hr => ?_
  obtain ⟨n, D⟩ := z
  obtain ⟨hn, hD, hl⟩ := hz
  have hn : n ≤ 5 := hn
  have hD : Rn n D := hD
  have hl : D.length ≤ 100 := hl
  have hS : Sprd n D (cov n D) := sprd_of hn hD (alls_ok n)
  have hDw := hD.rw hn
  have hF := cov_rw hn D
  have lF := cov_len hn D
  have nd := sc_kspread.nd
  show SS T _ ⟨startG 9 [rLst (rPr rSet rSet) D, rTup rSet ((cov n D).map (·.1)), rTup rSet (btw (cov n D))], none⟩ _ _ (rBl true)
  generalize cov n D = F at hS hF lF ⊢
  have em : (F.map (·.1)).length = F.length := List.length_map _
  refine ss_cons (s1_set 3 ee_int ?_ (fun _ _ e => nomatch e) nd)
  refine ss_cons (s1_forX (r := fun (i : Nat) => rInt (i : Int)) (xs := List.range F.length) 4 PassesOwn.never rfl (ei_range1 (n := F.length) B.range (EE.to (ee_lenT B.len (ev 1 rfl)) (congrArg rInt (by rw [em]))) (by omega))
    (fun i => ⟨[some (rLst (rPr rSet rSet) D), some (rTup rSet (F.map (·.1))), some (rTup rSet (btw F)), some (rInt ((off F.length i : Nat) : Int)), none, none, none, none, none], none⟩) (aimp (by simp [GImp, startG]; exact fun _ _ h => h)) (fun _ _ _ e => nomatch e) nd ?_ ?_)
  · intro i k hk
    have hi := List.getElem?_eq_some_iff.mp hk
    obtain ⟨hi, ek⟩ := hi
    rw [List.length_range] at hi
    rw [List.getElem_range] at ek
    subst ek
    have hp : F[i]? = some F[i] := List.getElem?_eq_getElem hi
    generalize F[i] = p at hp
    have gp : (F.map (·.1))[i]? = some p.1 := by rw [List.getElem?_map, hp]; rfl
    have mp := List.mem_of_getElem? hp
    obtain ⟨snp, ep1, ep2⟩ := hS.at_ p mp
    have np : clB D p.1 = false := decide_eq_false (ep1 ▸ ep2)
    refine ss_cons (s1_if (k := false) (ET.to (et_bl (ee_call kI hr (D, p.1) ⟨hDw, (hF p mp).1, hl⟩ (ea_cons (ev 0 rfl) (ea1 (ee_ixT (x := p.1) (ev 1 rfl) (ev 4 rfl) (atI_nat gp)))))) np) (fun e => nomatch e) fun _ => ?_)
    refine ss_nil ?_
    refine ss_one (s1_forX (r := fun (t : Nat) => rInt (((i + 1 : Nat) : Int) + (t : Int))) (xs := List.range (F.length - (i + 1))) 5 PassesOwn.never rfl (ei_range2 (m := i + 1) (n := F.length) B.range (EE.to (ee_add (ev 4 rfl) ee_int) (congrArg rInt (by show (i : Int) + 1 = ((i + 1 : Nat) : Int); omega))) (EE.to (ee_lenT B.len (ev 1 rfl)) (congrArg rInt (by rw [em]))) (by omega))
      (fun j => ⟨[some (rLst (rPr rSet rSet) D), some (rTup rSet (F.map (·.1))), some (rTup rSet (btw F)), some (rInt ((off F.length i + j : Nat) : Int)), some (rInt (i : Int)), none, none, none, none], none⟩) (aimp (by simp [GImp])) (fun _ _ _ e => nomatch e) nd ?_ ?_)
    · intro j t ht
      obtain ⟨hj, et⟩ := List.getElem?_eq_some_iff.mp ht
      rw [List.length_range] at hj
      rw [List.getElem_range] at et
      subst et
      have hq : F[i + 1 + j]? = some (F[i + 1 + j]'(by omega)) := List.getElem?_eq_getElem (by omega)
      generalize F[i + 1 + j]'(by omega) = q at hq
      have gq : (F.map (·.1))[i + 1 + j]? = some q.1 := by rw [List.getElem?_map, hq]; rfl
      have mq := List.mem_of_getElem? hq
      obtain ⟨snq, _, _⟩ := hS.at_ q mq
      have bt := btw_mem hn hD hS hp hq (by omega)
      have sb := bt.sn.s5 hn
      have sp5 := snp.s5 hn
      have sq5 := snq.s5 hn
      have ec : clB D (setB p q) = true := decide_eq_true bt.closed
      have e1 : (((i + 1 : Nat) : Int) + ((j : Nat) : Int)) = ((i + 1 + j : Nat) : Int) := by omega
      have e2 : (((off F.length i + j : Nat) : Int) + 1) = ((off F.length i + (j + 1) : Nat) : Int) := by omega
      refine ss_cons (s1_set 6 (ee_ixT (x := p.1) (ev 1 rfl) (ev 4 rfl) (atI_nat gp)) ?_ (fun _ _ e => nomatch e) nd)
      refine ss_cons (s1_set 7 (ee_ixT (i := ((i + 1 : Nat) : Int) + ((j : Nat) : Int)) (x := q.1) (ev 1 rfl) (ev 5 rfl) (by rw [e1]; exact atI_nat gq)) ?_ (fun _ _ e => nomatch e) nd)
      refine ss_cons (s1_set 8 (ee_ixT (x := setB p q) (ev 2 rfl) (ev 3 rfl) (atI_nat (btw_at hp hq))) ?_ (fun _ _ e => nomatch e) nd)
      refine ss_cons (s1_set 3 (EE.to (ee_add (ev 3 rfl) ee_int) (congrArg rInt e2)) ?_ (fun _ _ e => nomatch e) nd)
      refine ss_cons (s1_if (k := false) (ET.to (et_not (et_bl (ee_call kI hr (D, setB p q) ⟨hDw, sb, hl⟩ (ea_cons (ev 0 rfl) (ea1 (ev 8 rfl)))))) (by show (!clB D (setB p q)) = false; rw [ec]; rfl)) (fun e => nomatch e) fun _ => ?_)
      refine ss_nil ?_
      -- the smaller one first
      have tail : ∀ u v : List Int, S5 u → S5 v → ((within u v = true ∧ within u (setB p q) = true ∧ within (setB p q) v = true) ∨ (within u v = false ∧ setB p q = met u v)) →
          SS T (cxOf CX0 P w K mg base ["_law_rows", "_law_sets", "_law_between", "_law_place", "_law_i", "_law_j", "_law_one", "_law_two", "_law_held"] "_law_is_spread" (defScope (top 37)) f cdv A outer s H E).nox
            ⟨[some (rLst (rPr rSet rSet) D), some (rTup rSet (F.map (·.1))), some (rTup rSet (btw F)), some (rInt ((off F.length i + (j + 1) : Nat) : Int)), some (rInt (i : Int)), none, some (rSet u), some (rSet v), some (rSet (setB p q))], none⟩
            ((((defBody (top 37)).getD 1 (.Pass ⟨0, 0, 0, 0⟩)) |> fun | .For _ _ b _ _ => (b.getD 1 (.Pass ⟨0, 0, 0, 0⟩)) | _ => .Pass ⟨0, 0, 0, 0⟩) |> fun | .For _ _ b _ _ => b.drop 6 | _ => [])
            (fun a' => AImp a' ⟨[some (rLst (rPr rSet rSet) D), some (rTup rSet (F.map (·.1))), some (rTup rSet (btw F)), some (rInt ((off F.length i + (j + 1) : Nat) : Int)), some (rInt (i : Int)), none, none, none, none], none⟩) (rBl true) := by
        intro u v su sv hcase
        refine ss_one (s1_if (et_bl (ee_call kW (hr.mono (by decide)) (u, v) su (ea_cons (ev 6 rfl) (ea1 (ev 7 rfl))))) (fun hw => ?_) fun hw => ?_)
        · have hw : within u v = true := hw
          have h2 : within u (setB p q) = true ∧ within (setB p q) v = true := by
            rcases hcase with h | h
            · exact h.2
            · rw [hw] at h
              cases h.1
          refine ss_one (s1_if (k := false) (ET.to (et_or2 (et_not (et_bl (ee_call kW (hr.mono (by decide)) (u, setB p q) su (ea_cons (ev 6 rfl) (ea1 (ev 8 rfl)))))) fun _ => et_not (et_bl (ee_call kW (hr.mono (by decide)) (setB p q, v) sb (ea_cons (ev 8 rfl) (ea1 (ev 7 rfl)))))) ?_) (fun e => nomatch e) fun _ => ?_)
          · show (!within u (setB p q) || !within (setB p q) v) = false
            rw [h2.1, h2.2]
            rfl
          · exact ss_nil (aimp (by simp [GImp]))
        · have hw : within u v = false := hw
          have h2 : setB p q = met u v := by
            rcases hcase with h | h
            · rw [hw] at h
              cases h.1
            · exact h.2
          refine ss_one (s1_if (k := false) (ET.to (et_neSt hr.units (ev 8 rfl) (ee_call kM (hr.mono (by decide)) (u, v) su (ea_cons (ev 6 rfl) (ea1 (ev 7 rfl))))) ?_) (fun e => nomatch e) fun _ => ?_)
          · show (!decide (setB p q = met u v)) = false
            simp [h2]
          · exact ss_nil (aimp (by simp [GImp]))
      refine ss_cons (s1_if (et_bl (ee_call kW (hr.mono (by decide)) (q.1, p.1) sq5 (ea_cons (ev 7 rfl) (ea1 (ev 6 rfl))))) (fun hw => ?_) fun hw => ?_)
      · have hw : within q.1 p.1 = true := hw
        have hw2 : within p.1 q.1 = true := by
          cases e : within p.1 q.1 with
          | true => rfl
          | false =>
            have := (bt.high e).1
            rw [hw] at this
            cases this
        have epq : p.1 = q.1 := srt_ext snp.1 snq.1 fun c => ⟨within_iff.mp hw2 c, within_iff.mp hw c⟩
        obtain ⟨b1, b2⟩ := bt.low hw2
        refine ss_cons (s1_set 6 (ee_ixT (i := ((i + 1 : Nat) : Int) + ((j : Nat) : Int)) (x := q.1) (ev 1 rfl) (ev 5 rfl) (by rw [e1]; exact atI_nat gq)) ?_ (fun _ _ e => nomatch e) nd)
        refine ss_one (s1_set 7 (ee_ixT (x := p.1) (ev 1 rfl) (ev 4 rfl) (atI_nat gp)) ?_ (fun _ _ e => nomatch e) nd)
        refine SS.pre (tail q.1 p.1 sq5 sp5 (.inl ⟨hw, ?_, ?_⟩)) (aimp (by simp [GImp]))
        · rw [← epq]
          exact b1
        · rw [epq]
          exact b2
      · have hw : within q.1 p.1 = false := hw
        refine ss_nil (SS.pre (tail p.1 q.1 sp5 sq5 ?_) (aimp (by simp [GImp])))
        cases e : within p.1 q.1 with
        | true => exact .inl ⟨rfl, (bt.low e).1, (bt.low e).2⟩
        | false => exact .inr ⟨rfl, (bt.high e).2⟩
    · refine aimp ?_
      have e : off F.length i + (List.range (F.length - (i + 1))).length = off F.length (i + 1) := by
        rw [List.length_range]
        rfl
      rw [e]
      simp [GImp]
  · rw [List.length_range]
    refine ss_ret (EE.to (ee_eqI (ev 3 rfl) (ee_lenT B.len (ev 2 rfl))) (congrArg rBl ?_))
    rw [len_btw]
    exact decide_eq_true rfl
end
end FP
namespace FP
open PySem hiding step Callee sstep
open PySem.Spec hiding Row
open PyProof.Rows L2 LamX FM FS FQ
def spw : List Int := [1, 3, 9, 27, 81, 243, 729]
def spT (num : Int) (k : Nat) : Bool := decide (num / (spw.getD k 1) % 3 = 1)
def sparse (num : Int) (n : Nat) : List Int := ((List.range n).filter (spT num)).map fun (k : Nat) => (k : Int)
theorem sn_sparse (num : Int) (n : Nat) : Sn n (sparse num n) := by
  refine ⟨?_, fun c hc => ?_⟩
  · unfold sparse
    rw [Srt, List.pairwise_map]
    exact (List.pairwise_lt_range.filter _).imp fun h => by omega
  · obtain ⟨k, hk, e⟩ := List.mem_map.mp hc
    have := List.mem_range.mp (List.mem_filter.mp hk).1
    omega
theorem spw_at {k : Nat} (h : k < 5) : spw[k]? = some (spw.getD k 1) ∧ 0 < spw.getD k 1 ∧ spw.getD k 1 < 1073741824 := by
  have h1 : k = 0 ∨ k = 1 ∨ k = 2 ∨ k = 3 ∨ k = 4 := by omega
  rcases h1 with h | h | h | h | h <;> subst h <;> decide
/-- the numbers that the law draws -/
def Nums (m : Nat) (ns : List Int) : Prop := ns.length = m ∧ ∀ x ∈ ns, 0 ≤ x ∧ x < 1000000
theorem Nums.at {m : Nat} {ns : List Int} (h : Nums m ns) {i : Nat} (hi : i < m) : ns[i]? = some (ns.getD i 0) ∧ 0 ≤ ns.getD i 0 ∧ ns.getD i 0 < 1000000 := by
  have hl : i < ns.length := by rw [h.1]; exact hi
  have e : ns[i]? = some (ns.getD i 0) := by
    rw [List.getD_eq_getElem?_getD, List.getElem?_eq_getElem hl]
    rfl
  exact ⟨e, h.2 _ (List.mem_of_getElem? e)⟩
def rowOf (ns : List Int) (n k : Nat) : Row := (sparse (ns.getD (2 + k) 0) n, sparse (ns.getD (2 + k) 0 / 729) n)
def fds (ns : List Int) (n : Nat) : List Row := (List.range (ns.getD 1 0 % 7).toNat).map (rowOf ns n)
theorem fds_ok (ns : List Int) (n : Nat) : Rn n (fds ns n) ∧ (fds ns n).length ≤ 6 := by
  refine ⟨fun p hp => ?_, ?_⟩
  · obtain ⟨k, _, e⟩ := List.mem_map.mp hp
    rw [← e]
    exact ⟨sn_sparse _ _, sn_sparse _ _⟩
  · unfold fds
    rw [List.length_map, List.length_range]
    omega
section
variable {T : List (Addr × Str)} {P : Program} {w : World} {K : PySem.W.Frag} {mg : Str → Option Value} {base : Heap} {C : Addr}
abbrev kSparse (T : List (Addr × Str)) (P : Program) (w : World) (K : PySem.W.Frag) (mg : Str → Option Value) (base : Heap) : Prop := FS.Callee T P w K mg base 1 "_law_sparse" ["_law_number", "_law_count"] (fun z => z.2 ≤ 5) (fun z : Int × Nat => [rInt z.1, rInt (z.2 : Int)]) (fun z => rSet (sparse z.1 z.2))
theorem sc_ksparse : FnScope ["_law_number", "_law_count", "_law_k"] ["_law_number", "_law_count"] (defScope (top 27)) := ⟨rfl, rfl, rfl, by decide +kernel, rfl, by decide +kernel, by decide +kernel⟩
theorem k_sparse (Fn : TextFn K mg "_law_sparse" (top 27)) (B : Bi mg) : kSparse T P w K mg base := by
  refine callee_by Fn sc_ksparse (fun _ => rfl) (fun _ _ _ _ _ _ us hl => match us, hl with | [_, _], _ => rfl) fun z hz f cdv A outer s H E hr => ?_
  obtain ⟨num, n⟩ := z
  have hn : n ≤ 5 := hz
  refine ss_ret (ee_tuple (r := rInt) (xs := sparse num n) B.tuple (ee_lc (u := rInt) (r := fun (k : Nat) => rInt (k : Int)) (xs := List.range n) (f := fun (k : Nat) => (k : Int)) (pT := spT num) 2 rfl sc_ksparse (ei_range1 (n := n) B.range (ev 1 rfl) (by omega)) (fun k hk s H C' cl fp => ?_) (fun k hk _ s H C' cl fp => ev 2 rfl) (by rw [List.length_range]; omega)))
  have hk := List.mem_range.mp hk
  obtain ⟨a1, a2, a3⟩ := spw_at (k := k) (by omega)
  exact ets_one (et_eqI (ee_mod (ee_div (ev 0 rfl) (ee_ixL (r := rInt) (xs := spw) (x := spw.getD k 1) (ee_lst (ea_cons ee_int (ea_cons ee_int (ea_cons ee_int (ea_cons ee_int (ea_cons ee_int (ea_cons ee_int (ea1 ee_int))))))) (by decide)) (ev 2 rfl) (atI_nat a1)) ⟨a2, a3⟩) ee_int (by decide)) ee_int)
abbrev kFds (T : List (Addr × Str)) (P : Program) (w : World) (K : PySem.W.Frag) (mg : Str → Option Value) (base : Heap) : Prop := FS.Callee T P w K mg base 2 "_law_fds" ["_law_numbers_here", "_law_place", "_law_count"] (fun z => Nums 9 z.1 ∧ z.2 ≤ 5) (fun z : List Int × Nat => [rLst rInt z.1, rInt 1, rInt (z.2 : Int)]) (fun z => rLst (rPr rSet rSet) (fds z.1 z.2))
theorem sc_kfds : FnScope ["_law_numbers_here", "_law_place", "_law_count", "_law_rows", "_law_k", "_law_number"] ["_law_numbers_here", "_law_place", "_law_count"] (defScope (top 32)) := ⟨rfl, rfl, rfl, by decide +kernel, rfl, by decide +kernel, by decide +kernel⟩
theorem k_fds (Fn : TextFn K mg "_law_fds" (top 32)) (B : Bi mg) (kS : kSparse T P w K mg base) : kFds T P w K mg base := by
  refine callee_by Fn sc_kfds (fun _ => rfl) (fun _ _ _ _ _ _ us hl => match us, hl with | [_, _, _], _ => rfl) fun z hz f cdv A outer s H E hr => ?_
  obtain ⟨ns, n⟩ := z
  obtain ⟨hns, hn⟩ := hz
  have hns : Nums 9 ns := hns
  have hn : n ≤ 5 := hn
  have nd := sc_kfds.nd
  obtain ⟨a1, a2, a3⟩ := hns.at (i := 1) (by decide)
  have cnt : ((ns.getD 1 0 % 7).toNat : Int) = ns.getD 1 0 % 7 := Int.toNat_of_nonneg (Int.emod_nonneg _ (by decide))
  refine ss_cons (s1_new (r := rPr rSet rSet) (xs := []) 3 ea_nil (by decide) ?_ (by exact (show 3 < 6 by decide)) nd)
  refine ss_cons (s1_forX (r := fun (k : Nat) => rInt (k : Int)) (xs := List.range (ns.getD 1 0 % 7).toNat) 4 PassesOwn.never rfl (ei_range1 (n := (ns.getD 1 0 % 7).toNat) B.range (EE.to (ee_mod (ee_ixL (i := ((1 : Nat) : Int)) (x := ns.getD 1 0) (ev 0 rfl) (ev 1 rfl) (atI_nat a1)) ee_int (by decide)) (congrArg rInt cnt.symm)) (by omega))
    (fun i => ⟨[some (rLst rInt ns), some (rInt 1), some (rInt (n : Int)), none, none, none], some (3, mLst (rPr rSet rSet) ((List.range i).map (rowOf ns n)))⟩) (aimp (by simp [GImp, startG])) (fun _ j M e => by cases e; decide) nd ?_ ?_)
  · intro i k hk
    obtain ⟨hi, ek⟩ := List.getElem?_eq_some_iff.mp hk
    rw [List.length_range] at hi
    rw [List.getElem_range] at ek
    subst ek
    obtain ⟨b1, b2, b3⟩ := hns.at (i := 2 + i) (by omega)
    have e1 : ((1 : Int) + 1 + (i : Int)) = ((2 + i : Nat) : Int) := by omega
    refine ss_cons (s1_set 5 (ee_ixL (i := ((2 + i : Nat) : Int)) (x := ns.getD (2 + i) 0) (ev 0 rfl) (EE.to (ee_add (ee_add (ev 1 rfl) ee_int) (ev 4 rfl)) (congrArg rInt e1)) (atI_nat b1)) ?_ (fun j M e => by cases e; decide) nd)
    refine ss_one (s1_app (x0 := rowOf ns n i) 3 (ee_tup2 (ee_call kS hr (ns.getD (2 + i) 0, n) hn (ea_cons (ev 5 rfl) (ea1 (ev 2 rfl)))) (ee_call kS hr (ns.getD (2 + i) 0 / 729, n) hn (ea_cons (ee_div (ev 5 rfl) ee_int (by decide)) (ea1 (ev 2 rfl))))) (by rw [List.length_map, List.length_range]; omega) ?_)
    rw [List.range_succ, List.map_append]
    exact aimp (by simp [GImp])
  · rw [List.length_range]
    exact ss_freeze (ss_ret (EE.imp (ev 3 rfl) fun _ _ h => mLst_pd h))
/-! nested tuples -/
def Lv : Nat → Pd → Prop
  | 0, p => (∃ i : Int, ∀ F v, p.p F v → v = .int i) ∨ (∃ s : Str, ∀ F v, p.p F v → v = .str s)
  | d + 1, p => Lv d p ∨ ∃ ps : List Pd, (∀ q ∈ ps, Lv d q) ∧ ps.length ≤ 1000 ∧ ∀ F v, p.p F v → (rTup (fun q : Pd => q) ps).p F v
theorem lv_tup {α : Type} {r : α → Pd} {d : Nat} {xs : List α} (h : ∀ x ∈ xs, Lv d (r x)) (hl : xs.length ≤ 1000) : Lv (d + 1) (rTup r xs) := by
  refine .inr ⟨xs.map r, fun q hq => ?_, by rw [List.length_map]; exact hl, fun F v ⟨a, vs, h1, h2, h3⟩ => ⟨a, vs, h1, h2, Al.map h3⟩⟩
  obtain ⟨x, hx, e⟩ := List.mem_map.mp hq
  rw [← e]
  exact h x hx
theorem lv_set (ns : List Int) (hl : ns.length ≤ 1000) : Lv 1 (rSet ns) := lv_tup (fun x _ => .inl ⟨x, fun _ _ h => h⟩) hl
theorem lv_paper {a b : List (List Int)} (ha : ∀ x ∈ a, S5 x) (hb : ∀ x ∈ b, S5 x) (la : a.length ≤ 1000) (lb : b.length ≤ 1000) : Lv 3 (rPaper (a, b)) := by
  have h5 : ∀ {x : List Int}, S5 x → Lv 1 (rSet x) := fun h => lv_set _ (by have := h.len; omega)
  refine .inr ⟨[rStr "spread", rTup rSet a, rTup rSet b], fun q hq => ?_, by exact (show 3 ≤ 1000 by decide), fun F v ⟨l, vs, h1, h2, h3⟩ => ⟨l, vs, h1, h2, ?_⟩⟩
  · simp only [List.mem_cons, List.not_mem_nil, or_false] at hq
    rcases hq with h | h | h
    · rw [h]
      exact .inl (.inl (.inr ⟨_, fun _ _ h => h⟩))
    · rw [h]
      exact lv_tup (fun x hx => h5 (ha x hx)) la
    · rw [h]
      exact lv_tup (fun x hx => h5 (hb x hx)) lb
  · match vs, h3 with
    | [v1, v2, v3], ⟨k1, k2, k3, _⟩ => exact ⟨k1, k2, k3, True.intro⟩
abbrev kTupled (T : List (Addr × Str)) (P : Program) (w : World) (K : PySem.W.Frag) (mg : Str → Option Value) (base : Heap) (d : Nat) : Prop := FS.Callee T P w K mg base (d + 1) "_law_is_tupled" ["_law_x"] (fun p => Lv d p) (fun p : Pd => [p]) (fun _ => rBl true)
theorem sc_ktupled : FnScope ["_law_x", "_law_part"] ["_law_x"] (defScope (top 39)) := ⟨rfl, rfl, rfl, by decide +kernel, rfl, by decide +kernel, by decide +kernel⟩
theorem ee_isNone {X : Cx} {G : Gm} {a : Expr} {p : Pd} {j} {pos p1 : Pos} (h : EE T X G a p) (hp : ∀ F v, p.p F v → v ≠ .non) : EE T X G (.Compare a [.Is] [.Constant .none j p1] pos) (rBl false) :=
  ee_bin (pe_cmpR op_isN we we (nomark _)) h ee_non fun F H x y Q s t hx hy k => by
    have hy : y = .non := hy
    exact ⟨hy, by rw [decide_eq_false (hp F x hx)]; exact k _ F H (Gr.refl s t) rfl⟩
theorem k_tupled (Fn : TextFn K mg "_law_is_tupled" (top 39)) (B : Bi mg) : ∀ d : Nat, kTupled T P w K mg base d := by
  have leaf : ∀ {k : Nat} {p : Pd}, Lv 0 p → ∀ (f : Addr) (cdv : Value) (A : Around) (outer : List Env) (s : Shared) (H : Hp) (E : XK),
      SS T (cxOf CX0 P w K mg base ["_law_x", "_law_part"] "_law_is_tupled" (defScope (top 39)) f cdv A outer s H E).nox ⟨startG 2 [p], none⟩ (defBody (top 39)) (fun _ => False) (rBl true) := by
    intro k p hp f cdv A outer s H E
    rcases hp with ⟨i, hp⟩ | ⟨x, hp⟩
    · refine ss_cons (s1_if (et_bl (ee_isiT (k := false) (tn := "tuple") B.isinstance (ev 0 rfl) B.tuple (by decide +kernel) fun F H v _ h => ⟨"int", by rw [hp F v h]; exact .base (.int i), by decide +kernel⟩)) (fun e => nomatch e) fun _ => ?_)
      refine ss_nil (ss_ret (EE.to (ee_or3 (z := true) (ee_isNone (ev 0 rfl) fun F v h e => by rw [hp F v h] at e; cases e) (fun _ => ee_isiT (k := true) (tn := "int") B.isinstance (ev 0 rfl) B.int (by decide +kernel) fun F H v _ h => ⟨"int", by rw [hp F v h]; exact .base (.int i), by decide +kernel⟩) fun _ e => nomatch e) rfl))
    · refine ss_cons (s1_if (et_bl (ee_isiT (k := false) (tn := "tuple") B.isinstance (ev 0 rfl) B.tuple (by decide +kernel) fun F H v _ h => ⟨"str", by rw [hp F v h]; exact .base (.str x), by decide +kernel⟩)) (fun e => nomatch e) fun _ => ?_)
      refine ss_nil (ss_ret (EE.to (ee_or3 (z := true) (ee_isNone (ev 0 rfl) fun F v h e => by rw [hp F v h] at e; cases e) (fun _ => ee_isiT (k := false) (tn := "int") B.isinstance (ev 0 rfl) B.int (by decide +kernel) fun F H v _ h => ⟨"str", by rw [hp F v h]; exact .base (.str x), by decide +kernel⟩) fun _ _ => ee_isiT (k := true) (tn := "str") B.isinstance (ev 0 rfl) B.str (by decide +kernel) fun F H v _ h => ⟨"str", by rw [hp F v h]; exact .base (.str x), by decide +kernel⟩) rfl))
  intro d
  induction d with
  | zero => exact callee_by Fn sc_ktupled (fun _ => rfl) (fun _ _ _ _ _ _ us hl => match us, hl with | [_], _ => rfl) fun p hp f cdv A outer s H E hr => leaf (k := 0) hp f cdv A outer s H E
  | succ d ih =>
    have low : ∀ {d : Nat} {p : Pd}, Lv d p → Lv 0 p ∨ ∃ (e : Nat) (ps : List Pd), e < d ∧ (∀ q ∈ ps, Lv e q) ∧ ps.length ≤ 1000 ∧ ∀ F v, p.p F v → (rTup (fun q : Pd => q) ps).p F v := by
      intro d
      induction d with
      | zero => exact fun h => .inl h
      | succ d ih =>
        intro p h
        rcases h with h | ⟨ps, h1, h2, h3⟩
        · rcases ih h with z | ⟨e, ps, z1, z2⟩
          · exact .inl z
          · exact .inr ⟨e, ps, Nat.lt_succ_of_lt z1, z2⟩
        · exact .inr ⟨d, ps, Nat.lt_succ_self d, h1, h2, h3⟩
    have up : ∀ {e d : Nat} {p : Pd}, e ≤ d → Lv e p → Lv d p := by
      intro e d p h hp
      induction h with
      | refl => exact hp
      | step _ ih => exact .inl ih
    refine callee_by Fn sc_ktupled (fun _ => rfl) (fun _ _ _ _ _ _ us hl => match us, hl with | [_], _ => rfl) fun p hp f cdv A outer s H E hr => ?_
    rcases low hp with h0 | ⟨e, ps, he, h1, h2, h3⟩
    · exact leaf (k := 0) h0 f cdv A outer s H E
    · refine ss_cons (s1_if (et_bl (ee_isiT (k := true) (tn := "tuple") B.isinstance (ev 0 rfl) B.tuple (by decide +kernel) fun F H v s h => by
        obtain ⟨a, vs, k1, k2, k3⟩ := h3 F v h
        exact ⟨"tuple", by rw [k1]; exact .base (.tup (s.at k2)), by decide +kernel⟩)) (fun _ => ?_) fun e => nomatch e)
      refine ss_ret (EE.to (ee_eqI (ee_lenL B.len (ee_lc (u := fun q : Pd => q) (r := fun q : Pd => q) (xs := ps) (f := fun q => q) (pT := fun _ => false) 1 rfl sc_ktupled (ei_tup (EE.imp (ev 0 rfl) h3)) (fun q hq s H C' cl fp => ets_one (ET.to (et_not (et_bl (ee_call ih hr q (up (Nat.le_of_lt_succ he) (h1 q hq)) (ea1 (ev 1 rfl))))) rfl)) (fun q hq h => nomatch h) h2)) ee_int) (congrArg rBl ?_))
      have e0 : (ps.filter fun _ => false) = [] := List.filter_eq_nil_iff.mpr fun _ _ h => nomatch h
      rw [e0]
      rfl
end
end FP
namespace FP
open PySem hiding step Callee sstep
open PySem.Spec hiding Row
open PyProof.Rows L2 LamX FM FS FQ
/-- the script -/
def rScr (K : PySem.W.Frag) (ns : List Int) : Pd := ⟨fun F v => ∃ a, v = .ref a ∧ SqL K F a (ns.map V.int), fun e ⟨a, h1, h2⟩ => ⟨a, h1, h2.ext e⟩⟩
section
variable {T : List (Addr × Str)} {X : Cx} {G : Gm} {a b c e : Expr} {p1 pos : Pos} {ns : List Int} {i : Int}
theorem ee_lenS (hm : X.mg "len" = none) (ha : EE T X G a (rScr X.K ns)) (hg : Gl X "len" := by rfl) (hs : starEach [a] X.env = (false, eval a X.env) :: starEach [] X.env := by rfl) : EE T X G (.Call (.Name "len" p1) [a] [] pos) (rInt ns.length) :=
  ee_call1 (pe_callB call_len_seq hg hm PySem.boot_len wa (he := hs)) ha (fun F H v Q s t ⟨l, h1, h2⟩ k => ⟨l, _, by rw [h1], .inl (h2.ext fun b o h => s.at h), k _ F H (Gr.refl s t) (by rw [List.length_map]; rfl)⟩) hs
theorem ee_ixS {x : Int} (ha : EE T X G a (rScr X.K ns)) (hb : EE T X G b (rInt i)) (hx : atI ns i = some x) (hs : PlainIx b := by exact fun _ _ => rfl) : EE T X G (.Subscript a b pos) (rInt x) :=
  ee_bin (pe_ix ix_list we we hs) ha hb fun F H v w Q s t hv hw k => by
    obtain ⟨l, h1, h2⟩ := hv
    have e1 : atI (ns.map V.int) i = some (.int x) := by
      unfold atI at hx ⊢
      rw [List.length_map]
      cases e : ixN ns.length i with
      | none =>
        rw [e] at hx
        cases hx
      | some j =>
        rw [e] at hx
        have hx : ns[j]? = some x := hx
        show (ns.map V.int)[j]? = _
        rw [List.getElem?_map, hx]
        rfl
    exact ⟨l, _, i, _, h1, hw, h2.ext fun b o h => s.at h, e1, k _ F H (Gr.refl s t) rfl⟩
end
theorem nums_app {i : Nat} {xs : List Int} {x : Int} (h : Nums i xs) (hx : 0 ≤ x ∧ x < 1000000) : Nums (i + 1) (xs ++ [x]) := by
  refine ⟨by rw [List.length_append, h.1]; rfl, fun y hy => ?_⟩
  rcases List.mem_append.mp hy with z | z
  · exact h.2 y z
  · rw [List.mem_singleton.mp z]
    exact hx
theorem mod_in (x : Int) : 0 ≤ x % 1000000 ∧ x % 1000000 < 1000000 := ⟨Int.emod_nonneg _ (by decide), Int.emod_lt_of_pos _ (by decide)⟩
section
variable {T : List (Addr × Str)} {P : Program} {w : World} {K : PySem.W.Frag} {mg : Str → Option Value} {base : Heap} {C : Addr}
abbrev kNumbers (T : List (Addr × Str)) (P : Program) (w : World) (K : PySem.W.Frag) (mg : Str → Option Value) (base : Heap) : Prop := FS.Callee T P w K mg base 1 "_law_numbers" ["_law_script", "_law_count"] (fun _ => True) (fun ns : List Int => [rScr K ns, rInt 9]) (fun _ => exP (Nums 9) (rLst rInt))
theorem sc_knumbers : FnScope ["_law_script", "_law_count", "_law_rest", "_law_by_digits", "_law_numbers_here", "_law_k", "_law_cell"] ["_law_script", "_law_count"] (defScope (top 25)) := ⟨rfl, rfl, rfl, by decide +kernel, rfl, by decide +kernel, by decide +kernel⟩
theorem k_numbers (Fn : TextFn K mg "_law_numbers" (top 25)) (B : Bi mg) : kNumbers T P w K mg base := by
  refine callee_by Fn sc_knumbers (fun _ => rfl) (fun _ _ _ _ _ _ us hl => match us, hl with | [_, _], _ => rfl) fun ns hz f cdv A outer s H E hr => ?_
  have nd := sc_knumbers.nd
  -- what comes behind the first number
  have tail : ∀ r0 : Int, SS T (cxOf CX0 P w K mg base ["_law_script", "_law_count", "_law_rest", "_law_by_digits", "_law_numbers_here", "_law_k", "_law_cell"] "_law_numbers" (defScope (top 25)) f cdv A outer s H E).nox
      ⟨[some (rScr K ns), some (rInt 9), some (rInt r0), none, none, none, none], none⟩ ((defBody (top 25)).drop 2) (fun _ => False) (exP (Nums 9) (rLst rInt)) := by
    intro r0
    refine ss_cons (s1_set 3 (ee_ge (ev 2 rfl) (ee_pow ee_int ee_int (by decide))) ?_ (fun _ _ e => nomatch e) nd)
    refine ss_cons (s1_new (r := rInt) (xs := []) 4 ea_nil (by decide) ?_ (by exact (show 4 < 7 by decide)) nd)
    generalize decide ((10 : Int) ^ Int.toNat 18 ≤ r0) = bd
    refine ss_cons (s1_forG (ι := Int × List Int) (r := fun (k : Nat) => rInt (k : Int)) (xs := List.range 9) 5 PassesOwn.never rfl (ei_range1 (n := 9) B.range (ev 1 rfl) (by decide)) (fun i g => Nums i g.2)
      (fun i g => ⟨[some (rScr K ns), some (rInt 9), some (rInt g.1), some (rBl bd), none, none, none], some (4, mLst rInt g.2)⟩) (r0, []) ⟨rfl, fun x hx => by simp at hx⟩ (aimp (by simp [GImp])) (fun _ _ j M e => by cases e; decide) nd ?_ ?_)
    · intro i g k hk hg
      obtain ⟨hi, ek⟩ := List.getElem?_eq_some_iff.mp hk
      rw [List.length_range] at hi
      rw [List.getElem_range] at ek
      subst ek
      obtain ⟨rest, xs⟩ := g
      have hg : Nums i xs := hg
      have lx : xs.length ≤ 999 := by rw [hg.1]; omega
      refine ss_one (s1_if (et_and2 (et_bl (ev 3 rfl)) fun _ => et_gt (ev 2 rfl) ee_int) (fun _ => ?_) fun _ => ?_)
      · refine ss_cons (s1_app (x0 := rest % 1000000) 4 (ee_mod (ev 2 rfl) ee_int (by decide)) lx ?_)
        refine ss_one (s1_set 2 (ee_div (ev 2 rfl) ee_int (by decide)) ?_ (fun j M e => by cases e; decide) nd)
        exact ⟨(rest / 1000000, xs ++ [rest % 1000000]), nums_app hg (mod_in _), aimp (by simp [GImp])⟩
      · have fin : ∀ cell : Int, SS T (cxOf CX0 P w K mg base ["_law_script", "_law_count", "_law_rest", "_law_by_digits", "_law_numbers_here", "_law_k", "_law_cell"] "_law_numbers" (defScope (top 25)) f cdv A outer s H E).nox
            ⟨[some (rScr K ns), some (rInt 9), some (rInt rest), some (rBl bd), none, some (rInt (i : Int)), some (rInt cell)], some (4, mLst rInt xs)⟩
            ((((defBody (top 25)).getD 4 (.Pass ⟨0, 0, 0, 0⟩)) |> fun | .For _ _ b _ _ => (b.getD 0 (.Pass ⟨0, 0, 0, 0⟩)) | _ => .Pass ⟨0, 0, 0, 0⟩) |> fun | .If _ _ o _ => o.drop 2 | _ => [])
            (fun a' => ∃ g' : Int × List Int, Nums (i + 1) g'.2 ∧ AImp a' ⟨[some (rScr K ns), some (rInt 9), some (rInt g'.1), some (rBl bd), none, none, none], some (4, mLst rInt g'.2)⟩) (exP (Nums 9) (rLst rInt)) := by
          intro cell
          refine ss_one (s1_app (x0 := cell * 48271 % 2147483647 * 69621 % 2147483629 % 1000000) 4 (ee_mod (ee_mod (ee_mul (ee_mod (ee_mul (ev 6 rfl) ee_int (by decide)) ee_int (by decide)) ee_int (by decide)) ee_int (by decide)) ee_int (by decide)) lx ?_)
          exact ⟨(rest, xs ++ [cell * 48271 % 2147483647 * 69621 % 2147483629 % 1000000]), nums_app hg (mod_in _), aimp (by simp [GImp])⟩
        refine ss_cons (s1_set 6 ee_int ?_ (fun j M e => by cases e; decide) nd)
        refine ss_cons (s1_if (et_gt (ee_lenS B.len (ev 0 rfl)) ee_int) (fun hc => ?_) fun _ => ?_)
        · have hc : (0 : Int) < ns.length := of_decide_eq_true hc
          have lt : i % ns.length < ns.length := Nat.mod_lt _ (by omega)
          have gx : ns[i % ns.length]? = some (ns.getD (i % ns.length) 0) := by
            rw [List.getD_eq_getElem?_getD, List.getElem?_eq_getElem lt]
            rfl
          refine ss_one (s1_set 6 (ee_add (ee_ixS (i := ((i % ns.length : Nat) : Int)) (ev 0 rfl) (EE.to (ee_mod (ev 5 rfl) (ee_lenS B.len (ev 0 rfl)) hc) (congrArg rInt (by omega))) (atI_nat gx)) (ee_mul ee_int (ev 5 rfl) (by omega))) ?_ (fun j M e => by cases e; decide) nd)
          exact SS.pre (fin (ns.getD (i % ns.length) 0 + 7919 * (i : Int))) (aimp (by simp [GImp]))
        · exact ss_nil (SS.pre (fin 13) (aimp (by simp [GImp])))
    · intro g hg
      rw [List.length_range] at hg
      exact ss_freeze (ss_ret (EE.ex (EE.imp (ev 4 rfl) fun _ _ h => mLst_pd h) hg))
  refine ss_cons (s1_set 2 ee_int ?_ (fun _ _ e => nomatch e) nd)
  refine ss_cons (s1_if (et_gt (ee_lenS B.len (ev 0 rfl)) ee_int) (fun hc => ?_) fun _ => ?_)
  · have hc : (0 : Int) < ns.length := of_decide_eq_true hc
    have lt : 0 < ns.length := by omega
    have gx : ns[0]? = some (ns.getD 0 0) := by
      rw [List.getD_eq_getElem?_getD, List.getElem?_eq_getElem lt]
      rfl
    refine ss_one (s1_set 2 (ee_ixS (i := ((0 : Nat) : Int)) (ev 0 rfl) ee_int (atI_nat gx)) ?_ (fun _ _ e => nomatch e) nd)
    exact SS.pre (tail (ns.getD 0 0)) (aimp (by simp [GImp, startG]))
  · exact ss_nil (SS.pre (tail 0) (aimp (by simp [GImp, startG])))
end
end FP
/-! dicts whose keys are sets -/
namespace FS
open PySem PySem.Spec PyProof.Rows L2 LamX FM
abbrev Rows2 := List (List Int × List Int)
def keyOf (a : List Int) : List Key := a.map Sum.inl
theorem keyOf_kV (a : List Int) : (keyOf a).map kV = a.map V.int := by
  unfold keyOf
  rw [List.map_map]
  rfl
theorem keyOf_inj : ∀ {a b : List Int}, keyOf a = keyOf b → a = b
  | [], [], _ => rfl
  | [], _ :: _, h => by cases h
  | _ :: _, [], h => by cases h
  | x :: a, y :: b, h => by
    have h : Sum.inl x :: keyOf a = Sum.inl y :: keyOf b := h
    obtain ⟨h1, h2⟩ := List.cons.inj h
    cases h1
    rw [keyOf_inj h2]
/-- the dict's entries -/
def AlK (F : Hp) : List (List Key × V) → Rows2 → Prop
  | [], [] => True
  | (k, v) :: r, (a, b) :: G => k = keyOf a ∧ (rSet b).p F v ∧ AlK F r G
  | _, _ => False
theorem AlK.up {F F' : Hp} (e : Inc F F') : ∀ {kvs : List (List Key × V)} {G : Rows2}, AlK F kvs G → AlK F' kvs G
  | [], [], _ => True.intro
  | (_, _) :: _, (_, b) :: _, ⟨h1, h2, h3⟩ => ⟨h1, (rSet b).up e h2, AlK.up e h3⟩
theorem AlK.length {F : Hp} : ∀ {kvs : List (List Key × V)} {G : Rows2}, AlK F kvs G → kvs.length = G.length
  | [], [], _ => rfl
  | (_, _) :: r, (_, _) :: G, ⟨_, _, h⟩ => by rw [List.length_cons, List.length_cons, AlK.length h]
theorem AlK.at {F : Hp} : ∀ {kvs : List (List Key × V)} {G : Rows2} {i : Nat} {k : List Key} {v : V}, AlK F kvs G → kvs[i]? = some (k, v) → ∃ p, G[i]? = some p ∧ k = keyOf p.1
  | (_, _) :: _, (a, b) :: _, 0, k, v, ⟨h1, _⟩, e => by
    simp at e
    exact ⟨(a, b), rfl, e.1 ▸ h1⟩
  | (_, _) :: _, (_, _) :: _, i + 1, k, v, ⟨_, _, h⟩, e => by simpa using AlK.at (i := i) h (by simpa using e)
/-- what is read at a key -/
theorem AlK.val {F : Hp} {k : List Int} {z : V} (hz : (rSet []).p F z) : ∀ {kvs : List (List Key × V)} {G : Rows2}, AlK F kvs G → (rSet (gget G k)).p F ((valV kvs (keyOf k)).getD z)
  | [], [], _ => hz
  | (k0, v) :: r, (a, b) :: G, ⟨h1, h2, h3⟩ => by
    subst h1
    unfold gget
    by_cases e : a = k
    · rw [if_pos e, valV_pos (p := (keyOf a, v)) (by rw [e])]
      exact h2
    · rw [if_neg e, valV_neg (p := (keyOf a, v)) fun z => e (keyOf_inj z)]
      exact AlK.val hz h3
theorem AlK.has {F : Hp} {k : List Int} : ∀ {kvs : List (List Key × V)} {G : Rows2}, AlK F kvs G → k ∈ G.map (·.1) → ∃ v, valV kvs (keyOf k) = some v ∧ (rSet (gget G k)).p F v
  | [], [], _, h => by simp at h
  | (k0, v) :: r, (a, b) :: G, ⟨h1, h2, h3⟩, h => by
    subst h1
    unfold gget
    by_cases e : a = k
    · rw [if_pos e]
      exact ⟨v, valV_pos (p := (keyOf a, v)) (by rw [e]), h2⟩
    · rw [if_neg e, valV_neg (p := (keyOf a, v)) fun z => e (keyOf_inj z)]
      exact AlK.has h3 ((List.mem_cons.mp h).elim (fun z => absurd z.symm e) id)
theorem AlK.any {F : Hp} {k : List Int} : ∀ {kvs : List (List Key × V)} {G : Rows2}, AlK F kvs G → ((kvs.any fun kv => decide (kv.1 = keyOf k)) = true ↔ k ∈ G.map (·.1))
  | [], [], _ => by simp
  | (k0, v) :: r, (a, b) :: G, ⟨h1, h2, h3⟩ => by
    subst h1
    rw [List.any_cons, Bool.or_eq_true, AlK.any h3, List.map_cons, List.mem_cons, decide_eq_true_iff]
    constructor
    · rintro (h | h)
      · exact .inl (keyOf_inj h).symm
      · exact .inr h
    · rintro (h | h)
      · exact .inl (by rw [h])
      · exact .inr h
theorem AlK.map_none {F : Hp} {k : List Int} {v : V} : ∀ {kvs : List (List Key × V)} {G : Rows2}, AlK F kvs G → k ∉ G.map (·.1) → kvs.map (fun kv => if kv.1 = keyOf k then (kv.1, v) else kv) = kvs
  | [], [], _, _ => rfl
  | (k0, w) :: r, (a, b) :: G, ⟨h1, h2, h3⟩, h => by
    subst h1
    rw [List.map_cons] at h
    have n1 : ¬ keyOf a = keyOf k := fun z => h (by rw [keyOf_inj z]; exact List.mem_cons_self)
    rw [List.map_cons, if_neg n1, AlK.map_none h3 fun z => h (List.mem_cons_of_mem _ z)]
theorem AlK.repl {F : Hp} {k b0 : List Int} {v : V} (hv : (rSet b0).p F v) : ∀ {kvs : List (List Key × V)} {G : Rows2}, AlK F kvs G → (G.map (·.1)).Nodup → k ∈ G.map (·.1) → AlK F (kvs.map fun kv => if kv.1 = keyOf k then (kv.1, v) else kv) (gput G k b0)
  | [], [], _, _, h => by simp at h
  | (k0, w) :: r, (a, b) :: G, ⟨h1, h2, h3⟩, nd, h => by
    subst h1
    obtain ⟨n1, n2⟩ := List.nodup_cons.mp nd
    unfold gput
    by_cases e : a = k
    · rw [if_pos e, List.map_cons, if_pos (by rw [e]), AlK.map_none h3 (by rw [← e]; exact n1)]
      exact ⟨by rw [e], hv, h3⟩
    · rw [if_neg e, List.map_cons, if_neg fun z => e (keyOf_inj z)]
      exact ⟨rfl, h2, AlK.repl hv h3 n2 ((List.mem_cons.mp h).elim (fun z => absurd z.symm e) id)⟩
theorem AlK.snoc {F : Hp} {k b0 : List Int} {v : V} (hv : (rSet b0).p F v) : ∀ {kvs : List (List Key × V)} {G : Rows2}, AlK F kvs G → k ∉ G.map (·.1) → AlK F (kvs ++ [(keyOf k, v)]) (gput G k b0)
  | [], [], _, _ => ⟨rfl, hv, True.intro⟩
  | (k0, w) :: r, (a, b) :: G, ⟨h1, h2, h3⟩, h => by
    subst h1
    rw [List.map_cons] at h
    have n1 : ¬ a = k := fun z => h (by rw [z]; exact List.mem_cons_self)
    unfold gput
    rw [if_neg n1, List.cons_append]
    exact ⟨rfl, h2, AlK.snoc hv h3 fun z => h (List.mem_cons_of_mem _ z)⟩
theorem AlK.put {F : Hp} {k b0 : List Int} {v : V} {kvs : List (List Key × V)} {G : Rows2} (hv : (rSet b0).p F v) (h : AlK F kvs G) (nd : (G.map (·.1)).Nodup) : AlK F (putK kvs (keyOf k) v) (gput G k b0) := by
  unfold putK
  by_cases e : k ∈ G.map (·.1)
  · rw [if_pos (h.any.mpr e)]
    exact h.repl hv nd e
  · rw [if_neg fun z => e (h.any.mp z)]
    exact h.snoc hv e
/-- a dict, read -/
def rDc (G : Rows2) : Pd := ⟨fun F v => ∃ d kvs, v = .ref d ∧ Rd F d (.dT kvs) ∧ AlK F kvs G, fun e ⟨d, kvs, h1, h2, h3⟩ => ⟨d, kvs, h1, h2.elim (fun h => .inl (e _ _ h)) (fun ⟨o, h⟩ => .inr ⟨o, e _ _ h⟩), h3.up e⟩⟩
/-- a dict that stands still -/
def rFz (G : Rows2) : Pd := ⟨fun F v => ∃ d od kvs, v = .ref d ∧ F d = some (.frz od (.dT kvs)) ∧ AlK F kvs G, fun e ⟨d, od, kvs, h1, h2, h3⟩ => ⟨d, od, kvs, h1, e _ _ h2, h3.up e⟩⟩
theorem rFz_dc {G : Rows2} {F : Hp} {v : V} (h : (rFz G).p F v) : (rDc G).p F v := by
  obtain ⟨d, od, kvs, h1, h2, h3⟩ := h
  exact ⟨d, kvs, h1, .inr ⟨od, h2⟩, h3⟩
/-- a dict that changes -/
def mDict (G : Rows2) : Mo := ⟨fun F o => ∃ kvs, o = .dT kvs ∧ AlK F kvs G, fun e ⟨kvs, h1, h2⟩ => ⟨kvs, h1, h2.up e⟩, fun F o ⟨kvs, h1, _⟩ => by
  subst h1
  exact ⟨fun _ z => (nomatch z), fun _ _ z => by unfold CodeO at z; cases z⟩, fun F o ⟨kvs, h1, _⟩ xs z => by rw [h1] at z; cases z⟩
theorem mDict_pd {G : Rows2} {F : Hp} {v : V} (h : (mDict G).pd.p F v) : (rDc G).p F v := by
  obtain ⟨l, o, h1, h2, kvs, h3, h4⟩ := h
  subst h3
  exact ⟨l, kvs, h1, .inl h2, h4⟩
section
variable {T : List (Addr × Str)} {X : Cx} {G : Gm} {a b c e o f l : Expr} {p q : Pd} {pos apos cpos : Pos} {D : Rows2} {k : List Int}
theorem rd_sub {F H : Hp} (s : Sub F H) {d : Addr} {u : HO} (h : Rd F d u) : Rd H d u := h.elim (fun h => .inl (s.at h)) fun ⟨o, h⟩ => .inr ⟨o, s.at h⟩
/-- d.get(k, ()) -/
theorem ee_dget2 (hu : X.A.units + 1 < cLine) (ho : EE T X G o (rDc D)) (he : EE T X G e (rSet k)) (hf : EE T X G f (rSet [])) (m : M2 X o "get" apos e f cpos) : EE T X G (.Call (.Attribute o "get" apos) [e, f] [] cpos) (rSet (gget D k)) :=
  ee_by (pe_dget2 hu we we we m) fun σ F H Q g s t kq => ho σ F H _ g s t fun v F1 H1 g1 hv => by
    obtain ⟨d, kvs, h1, h2, h3⟩ := id hv
    refine ⟨d, h1, .inr ⟨kvs, rd_sub g1.sub h2⟩, he σ F1 H1 _ (g.up g1.fs) g1.sub g1.tb fun y F2 H2 g2 hy => hf σ F2 H2 _ ((g.up g1.fs).up g2.fs) g2.sub g2.tb fun z F3 H3 g3 hz => ?_⟩
    obtain ⟨b, e1, e2⟩ := rSet_at hy
    have i3 : Inc F1 F3 := fun b o h => g3.fs b o (g2.fs b o h)
    have hv3 := (rDc D).up i3 hv
    obtain ⟨d', kvs', h1', h2', h3'⟩ := hv3
    rw [h1] at h1'
    cases h1'
    refine ⟨valV kvs' (keyOf k), .inr ⟨kvs', keyOf k, b, rd_sub g3.sub h2', e1, ?_, rfl⟩, kq _ F3 H3 ((g1.trans g2).trans g3) (h3'.val hz)⟩
    rw [keyOf_kV]
    exact g3.sub.at (g3.fs _ _ e2)
/-- d[k], there -/
theorem ee_dix (hu : X.A.units + 1 < cLine) (ho : EE T X G o (rDc D)) (he : EE T X G e (rSet k)) (hk : k ∈ D.map (·.1)) (hs : NoSl e := by exact fun _ _ => rfl) : EE T X G (.Subscript o e pos) (rSet (gget D k)) :=
  ee_by (pe_dget hu we we hs) fun σ F H Q g s t kq => ho σ F H _ g s t fun v F1 H1 g1 hv => he σ F1 H1 _ (g.up g1.fs) g1.sub g1.tb fun y F2 H2 g2 hy => by
    obtain ⟨b, e1, e2⟩ := rSet_at hy
    obtain ⟨d, kvs, h1, h2, h3⟩ := (rDc D).up g2.fs hv
    obtain ⟨w, w1, w2⟩ := h3.has hk
    refine ⟨d, w, h1, .inr ⟨kvs, keyOf k, b, rd_sub g2.sub h2, e1, ?_, w1.symm⟩, kq _ F2 H2 (g1.trans g2) w2⟩
    rw [keyOf_kV]
    exact g2.sub.at e2
/-- for k in d, d standing still -/
theorem ei_fkeys {tg : Expr} (h : EE T X G e (rFz D)) : EI T X G tg e (D.map fun p => rSet p.1) := fun σ F H R g s t k pins s0 I => by
  refine (pi_keys we).run pins s0 σ H R I (h σ F H _ g s t fun v F1 H1 g1 hv => ?_)
  obtain ⟨d, od, kvs, h1, h2, h3⟩ := hv
  have hl : kvs.length = (D.map fun p => rSet p.1).length := by rw [h3.length, List.length_map]
  refine ⟨d, od, h1, .inr ⟨kvs, g1.sub.at h2, k _ F1 H1 _ _ g1 (hl ▸ walk_keysT (d := d) (o := od) (kvs := kvs)) (fun H' e => e _ _ h2) fun i F0 H0 x H2 y hi e s2 t2 => ?_⟩⟩
  obtain ⟨y1, kk, w, q, y2, y3, y4⟩ := y
  subst y1
  obtain ⟨p, p1, p2⟩ := h3.at y2
  subst p2
  rw [keyOf_kV] at y4
  obtain ⟨F', g', hq⟩ := Gr.see s2 t2 y4
  refine ⟨rSet p.1, F', by rw [List.getElem?_map, p1]; rfl, g', ?_⟩
  rw [y3]
  exact rSet_of hq
end
end FS
namespace FS
open PySem PySem.Spec PyProof.Rows L2 LamX FM
/-- forgotten -/
def del (F : Hp) (l : Addr) : Hp := fun b => if b = l then none else F b
theorem del_same {F : Hp} {l : Addr} : del F l l = none := if_pos rfl
theorem del_ne {F : Hp} {l b : Addr} (h : b ≠ l) : del F l b = F b := if_neg h
section
variable {T : List (Addr × Str)} {F F0 F1 F2 H H0 H1 H2 : Hp}
theorem Gr.tupOld (g : Gr T F0 H0 F H) {b : Addr} {xs : List V} (h : H b = some (.tup xs)) : H0 b = none ∨ H0 b = some (.tup xs) := by
  cases e : H0 b with
  | none => exact .inl rfl
  | some o =>
    by_cases hc : b ∈ T.map (·.1)
    · obtain ⟨p, hp, ep⟩ := List.mem_map.mp hc
      obtain ⟨ps, h1, _⟩ := g.tb p hp
      rw [ep, h] at h1
      cases h1
    · have z := g.hk b o e hc
      rw [h] at z
      cases z
      exact .inr rfl
/-- from a table's point of view an object may change -/
theorem tabs_upd {l : Addr} {o o' : HO} (t : Tabs T H) (h : H l = some o) (n : ∀ ps, o ≠ .tbl ps) (nx : ∀ c q, o ≠ CodeO c q) : Tabs T (upd H l o') := fun q hq => by
  obtain ⟨ps, e1, e2, e3⟩ := t q hq
  have k : ∀ b u, H b = some u → o ≠ u → upd H l o' b = some u := fun b u e z => by
    rw [upd_ne fun hb => by
      rw [hb, h] at e
      exact z (Option.some.inj e)]
    exact e
  refine ⟨ps, k _ _ e1 (n ps), e2, fun pos cv hc => ?_⟩
  obtain ⟨c, c1, c2⟩ := e3 pos cv hc
  exact ⟨c, c1, k _ _ c2 (nx _ _)⟩
/-- what was told immutable for a while changes after all -/
theorem Gr.thaw {l : Addr} {o o' : HO} (g0 : Gr T F0 H0 F H) (g : Gr T F0 H0 F1 H1) (hi : Inc F F1) (hF : F l = none) (h0 : H0 l = none) (h1 : F1 l = some o) (n : ∀ ps, o ≠ .tbl ps) (nx : ∀ c q, o ≠ CodeO c q) : Gr T F0 H0 (del F1 l) (upd H1 l o') := by
  have s1 := g.sub.at h1
  refine ⟨fun b u e => ?_, fun b u e q => ?_, fun b e => ?_, fun b u e => ?_, fun b u e => ?_, g.tb0, tabs_upd g.tb s1 n nx⟩
  · have k := g0.fs b u e
    rw [del_ne (ne_of_none k hF)]
    exact hi b u k
  · rw [upd_ne (ne_of_none e h0)]
    exact g.hk b u e q
  · by_cases hb : b = l
    · rw [hb, upd_same] at e
      cases e
    · rw [upd_ne hb] at e
      exact g.dm b e
  · by_cases hb : b = l
    · rw [hb, del_same] at e
      cases e
    · rw [del_ne hb] at e
      rw [upd_ne hb]
      exact g.sub b u e
  · by_cases hb : b = l
    · rw [hb, del_same] at e
      cases e
    · rw [del_ne hb] at e
      exact g.nw b u e
theorem rSet_del {F : Hp} {l : Addr} {o : HO} {v : V} {ns : List Int} (h1 : F l = some o) (n : ∀ xs, o ≠ .tup xs) (h : (rSet ns).p F v) : (rSet ns).p (del F l) v := by
  obtain ⟨a, e1, e2⟩ := rSet_at h
  subst e1
  have na : a ≠ l := fun z => by
    rw [z, h1] at e2
    exact n _ (Option.some.inj e2)
  exact rSet_of (by rw [del_ne na]; exact e2)
end
section
variable {T : List (Addr × Str)} {X : Cx} {a b : As} {G : Gm} {N N' : As → Prop} {R p q : Pd} {st : Stmt} {sts : List Stmt} {e i value c tg it : Expr} {pos pos' p1 : Pos} {F0 H0 F H F1 H1 : Hp} {σ : L2.St} {D : Rows2} {k b0 : List Int}
/-- x = {} -/
theorem s1_dnew {x : Str} (n : Nat) (hn : N ⟨G.set n none, some (n, mDict [])⟩) (hiG : n < G.length) (hN : X.N.Nodup) {p2 : Pos} (hi : X.N[n]? = some x := by rfl) (hx : Loc X.env.scope x := by first | exact Or.inl rfl | exact Or.inr rfl)
    (hf : X.fn x = true ∨ X.env.scope.names.lookup x = some .local := by exact Or.inl rfl) (hs : swapsWith (.Dict [] [] pos) (some (.Name x pos')) p2.line X.env = pure false := by rfl) :
    S1 T X ⟨G, none⟩ (.Assign [.Name x pos'] (.Dict [] [] pos) p2) N R := fun F0 H0 F H σ D s n1 r2 pins s0 I => by
  refine (ps_set hN hi hx pe_dnewT hs hf).run pins s0 σ H D I fun w hw => ?_
  have g2 := Gr.newM (o := .dT []) s.gr.sub s.gr.tb hw
  refine n1 _ hn _ F _ ⟨s.gr.trans g2, s.env.drop n, w, _, ?_, upd_same, s.gr.sub.none hw, s.gr.dm w hw, [], rfl, True.intro⟩
  have hl := s.env.len
  exact List.getElem?_set_self (by rw [hl]; exact hiG)
/-- x[i] = value -/
theorem s1_dput {x : Str} (j : Nat) (hu : X.A.units + 1 < cLine) (hv : EE T X (As.rd ⟨G, some (j, mDict D)⟩) value (rSet b0)) (hi : EE T X (As.rd ⟨G, some (j, mDict D)⟩) i (rSet k)) (nd : (D.map (·.1)).Nodup) (hl : D.length ≤ 1000) (hn : N ⟨G, some (j, mDict (gput D k b0))⟩) (hN : X.N[j]? = some x := by rfl)
    (hvis : Vis X.env.scope x := by first | exact Or.inl rfl | exact Or.inr (Or.inl rfl) | exact Or.inr (Or.inr rfl)) (hd : (x == ("__debug__" : Str)) = false := by decide) (hcd : (x == ("__classdict__" : Str)) = false := by decide)
    (hs : swapsWith value (some (.Subscript (.Name x p1) i pos')) pos.line X.env = pure false := by rfl) :
    S1 T X ⟨G, some (j, mDict D)⟩ (.Assign [.Subscript (.Name x p1) i pos'] value pos) N R := fun F0 H0 F H σ En s nn r2 pins s0 I => by
  obtain ⟨l, o, m1, m2, m3, m4, kvs, m5, m6⟩ := id s.mo
  subst m5
  have nt : ∀ ps, HO.dT kvs ≠ .tbl ps := fun _ z => (nomatch z)
  have nc : ∀ c q, HO.dT kvs ≠ CodeO c q := fun _ _ z => by unfold CodeO at z; cases z
  have hi1 : Inc F (upd F l (.dT kvs)) := Inc.upd m3
  have g1 := s.gr.freeze m4 m2 nt m3
  have e1 : EnvOk (upd F l (.dT kvs)) (As.rd ⟨G, some (j, mDict D)⟩) σ := (s.env.up hi1).add (p := (mDict D).pd) (v := .ref l) (show (mDict D).pd.p _ _ from ⟨l, _, rfl, upd_same, kvs, rfl, m6.up hi1⟩) j m1
  refine (ps_dput hu (pv j hN hvis hd hcd) we we hs).run pins s0 σ H En I ?_
  refine hv σ _ H _ e1 g1.sub g1.tb fun v F2 H2 g2 hv2 => ⟨.ref l, m1, hi σ F2 H2 _ (e1.up g2.fs) g2.sub g2.tb fun y F3 H3 g3 hy => ?_⟩
  have g13 := (g1.trans g2).trans g3
  have at3 : F3 l = some (.dT kvs) := g3.fs _ _ (g2.fs _ _ upd_same)
  have i3 : Inc F F3 := fun b u h => g3.fs b u (g2.fs b u (hi1 b u h))
  have iD : Inc F (del F3 l) := fun b u h => by
    rw [del_ne (ne_of_none h m3)]
    exact i3 b u h
  obtain ⟨b, y1, y2⟩ := rSet_at hy
  have hlen := m6.length
  refine ⟨l, upd H3 l (.dT (putK kvs (keyOf k) v)), rfl, ?_, ?_⟩
  · rw [y1]
    exact DPut.t (k := keyOf k) (g13.sub.at at3) (by rw [keyOf_kV]; exact g13.sub.at y2) (small1000 (by omega))
  · refine nn _ hn σ (del F3 l) _ ⟨Gr.thaw s.gr g13 i3 m3 m4 at3 nt nc, s.env.up iD, l, _, m1, upd_same, del_same, m4, _, rfl, ?_⟩
    exact (m6.up iD).put (rSet_del at3 (fun _ z => (nomatch z)) ((rSet b0).up g3.fs hv2)) nd
/-- the data stand in lists and tuples alone -/
def Flat (R : Pd) : Prop := ∀ (F F' : Hp) (v : V), (∀ b xs, F b = some (.tup xs) → F' b = some (.tup xs)) → (∀ b xs, F b = some (.lst xs) → F' b = some (.lst xs)) → R.p F v → R.p F' v
theorem flat_set (ns : List Int) : Flat (rSet ns) := fun F F' v h1 h2 hv => by
  obtain ⟨a, e1, e2⟩ := rSet_at hv
  subst e1
  exact rSet_of (h1 _ _ e2)
theorem flat_pr {α β : Type} {r : α → Pd} {u : β → Pd} {z : α × β} (hr : Flat (r z.1)) (hu : Flat (u z.2)) : Flat (rPr r u z) := fun F F' v h1 h2 ⟨a, x, y, e1, e2, e3, e4⟩ => ⟨a, x, y, e1, h1 _ _ e2, hr F F' x h1 h2 e3, hu F F' y h1 h2 e4⟩
theorem flat_lst {α : Type} {r : α → Pd} {xs : List α} (hr : ∀ x, Flat (r x)) : Flat (rLst r xs) := fun F F' v h1 h2 ⟨a, vs, e1, e2, e3⟩ => ⟨a, vs, e1, h2 _ _ e2, e3.imp fun x v h => hr x F F' v h1 h2 h⟩
/-- return e, the dict in the slot j standing still -/
theorem ss_retLock {j : Nat} (h : EE T X (G.set j (some (rFz D))) e R) (hR : Flat R) : SS T X ⟨G, some (j, mDict D)⟩ (.Return (some e) pos :: sts) N R := ss_cons fun F0 H0 F H σ En s nn rr pins s0 I => by
  obtain ⟨l, o, m1, m2, m3, m4, kvs, m5, m6⟩ := id s.mo
  subst m5
  have nt : ∀ ps, HO.dT kvs ≠ .tbl ps := fun _ z => (nomatch z)
  have nc : ∀ c q, HO.dT kvs ≠ CodeO c q := fun _ _ z => by unfold CodeO at z; cases z
  refine (ps_ret (pe_lock we)).run pins s0 σ H En I ⟨l, .dT kvs, m2, True.intro, fun od => ?_⟩
  have ft : ∀ ps, HO.frz od (.dT kvs) ≠ .tbl ps := fun _ z => (nomatch z)
  have fc : ∀ c q, HO.frz od (.dT kvs) ≠ CodeO c q := fun _ _ z => by unfold CodeO at z; cases z
  have hi1 : Inc F (upd F l (.frz od (.dT kvs))) := Inc.upd m3
  have e1 : EnvOk (upd F l (.frz od (.dT kvs))) (G.set j (some (rFz D))) σ := (s.env.up hi1).add (p := rFz D) (v := .ref l) (show (rFz D).p _ _ from ⟨l, od, kvs, rfl, upd_same, m6.up hi1⟩) j m1
  have sb : Sub (upd F l (.frz od (.dT kvs))) (upd H l (.frz od (.dT kvs))) := fun b u e => by
    by_cases hb : b = l
    · rw [hb, upd_same] at e
      cases e
      rw [hb]
      exact ⟨upd_same, ft⟩
    · rw [upd_ne hb] at e
      rw [upd_ne hb]
      exact s.gr.sub b u e
  have tb := tabs_upd (o' := .frz od (.dT kvs)) s.gr.tb m2 nt nc
  refine h σ _ _ _ e1 sb tb fun v F2 H2 g2 hv => ?_
  have a2 : F2 l = some (.frz od (.dT kvs)) := g2.fs _ _ upd_same
  have h2 := g2.sub.at a2
  refine ⟨h2, rr v (del F2 l) (upd H2 l (.dT kvs)) ⟨fun b u e => ?_, fun b u e q => ?_, fun b e => ?_, fun b u e => ?_, fun b u e => ?_, s.gr.tb0, tabs_upd g2.tb h2 ft fc⟩ (hR F2 _ v (fun b xs z => ?_) (fun b xs z => ?_) hv)⟩
  · have k := s.gr.fs b u e
    rw [del_ne (ne_of_none k m3)]
    exact g2.fs b u (hi1 b u k)
  · have nb := ne_of_none e m4
    rw [upd_ne nb]
    exact g2.hk b u (by rw [upd_ne nb]; exact s.gr.hk b u e q) q
  · by_cases hb : b = l
    · rw [hb, upd_same] at e
      cases e
    · rw [upd_ne hb] at e
      have k := g2.dm b e
      rw [upd_ne hb] at k
      exact s.gr.dm b k
  · by_cases hb : b = l
    · rw [hb, del_same] at e
      cases e
    · rw [del_ne hb] at e
      rw [upd_ne hb]
      exact g2.sub b u e
  · by_cases hb : b = l
    · rw [hb, del_same] at e
      cases e
    · rw [del_ne hb] at e
      rcases g2.nw b u e with z | z | ⟨z, xs, ez⟩
      · rw [upd_ne hb] at z
        exact s.gr.nw b u z
      · rw [upd_ne hb] at z
        exact .inr (.inl (s.gr.dm b z))
      · rw [upd_ne hb, ez] at z
        rw [ez]
        rcases s.gr.tupOld z with w | w
        · exact .inr (.inl w)
        · exact .inr (.inr ⟨w, xs, rfl⟩)
  · rw [del_ne fun hb => by rw [hb, a2] at z; cases z]
    exact z
  · rw [del_ne fun hb => by rw [hb, a2] at z; cases z]
    exact z
end
end FS
namespace FP
open PySem hiding step Callee sstep
open PySem.Spec hiding Row
open PyProof.Rows L2 LamX FM FS FQ
theorem grp_inv : ∀ {L G : List Row}, Rw L → Rw G → (G.map (·.1)).Nodup → Rw (L.foldl gstep G) ∧ ((L.foldl gstep G).map (·.1)).Nodup ∧ (L.foldl gstep G).length ≤ G.length + L.length
  | [], G, _, h1, h2 => ⟨h1, h2, Nat.le_refl _⟩
  | p :: L, G, hL, h1, h2 => by
    have a1 := rw_gstep h1 (hL p List.mem_cons_self)
    have a2 : ((gstep G p).map (·.1)).Nodup := gnodup h2
    have a3 : (gstep G p).length ≤ G.length + 1 := len_gput _ _ _
    obtain ⟨b1, b2, b3⟩ := grp_inv (L := L) (fun q hq => hL q (List.mem_cons_of_mem _ hq)) a1 a2
    refine ⟨b1, b2, ?_⟩
    rw [List.foldl_cons, List.length_cons]
    omega
section
variable {T : List (Addr × Str)} {P : Program} {w : World} {K : PySem.W.Frag} {mg : Str → Option Value} {base : Heap} {C : Addr}
abbrev kGrouped (T : List (Addr × Str)) (P : Program) (w : World) (K : PySem.W.Frag) (mg : Str → Option Value) (base : Heap) : Prop := FS.Callee T P w K mg base 2 "_law_grouped" ["_law_found"] (fun z => Rw z ∧ z.length ≤ 100) (fun z : List Row => [rLst (rPr rSet rSet) z]) (fun z => rLst (rPr rSet rSet) (grp z))
theorem sc_kgrouped : FnScope ["_law_found", "_law_groups", "_law_row", "_law_left"] ["_law_found"] (defScope (top 38)) := ⟨rfl, rfl, rfl, by decide +kernel, rfl, by decide +kernel, by decide +kernel⟩
theorem k_grouped (Fn : TextFn K mg "_law_grouped" (top 38)) (kU : kUnited T P w K mg base) : kGrouped T P w K mg base := by
  refine callee_by Fn sc_kgrouped (fun _ => rfl) (fun _ _ _ _ _ _ us hl => match us, hl with | [_], _ => rfl) fun L hz f cdv A outer s H E hr => ?_
  obtain ⟨hL, hl⟩ := hz
  have nd := sc_kgrouped.nd
  have hu1 : (A.deeper (envOfC "_law_grouped" (defScope (top 38)) s.heap.objs.size f cdv)).units + 1 < cLine := Nat.lt_of_le_of_lt (Nat.add_le_add_left (by decide) _) hr.units
  have inv := fun i => grp_inv (rw_take hL i) (G := []) (fun p hp => by simp at hp) List.nodup_nil
  have tk : ∀ i, (L.take i).length ≤ L.length := fun i => List.length_take_le' i L
  refine ss_cons (s1_dnew 1 ?_ (by exact (show 1 < 4 by decide)) nd)
  refine ss_cons (s1_forX 2 PassesOwn.never rfl (ei_list (r := rPr rSet rSet) (xs := L) (ev 0 rfl)) (fun i => ⟨[some (rLst (rPr rSet rSet) L), none, none, none], some (1, mDict ((L.take i).foldl gstep []))⟩) (aimp (by simp [GImp, startG])) (fun _ j M e => by cases e; decide) nd ?_ ?_)
  · intro i p hp
    have sp := hL p (List.mem_of_getElem? hp)
    obtain ⟨i1, i2, i3⟩ := inv i
    have tl := tk i
    have et := foldl_take (f := gstep) (z := []) hp
    rw [et]
    generalize (L.take i).foldl gstep [] = y at i1 i2 i3 ⊢
    have ly : y.length ≤ 1000 := by
      simp at i3
      omega
    refine ss_one (s1_dput (k := p.1) (b0 := uni (gget y p.1) p.2) 1 hu1 (ee_call kU hr (gget y p.1, p.2) ⟨s5_gget i1, sp.2⟩ (ea_cons (ee_dget2 (D := y) (k := p.1) hu1 (EE.imp (ev 1 rfl) fun _ _ => mDict_pd) (ee_fst (z := p) (ev 2 rfl)) ee_tup0 ⟨rfl, rfl, rfl, rfl⟩) (ea1 (ee_snd (z := p) (ev 2 rfl))))) (ee_fst (z := p) (ev 2 rfl)) i2 ly ?_)
    exact aimp (by simp [GImp])
  · rw [List.take_length]
    obtain ⟨i1, i2, i3⟩ := inv L.length
    rw [List.take_length] at i1 i2 i3
    have e : L.foldl gstep [] = grp L := rfl
    rw [e] at i1 i2 i3 ⊢
    have lg : (grp L).length ≤ 1000 := by
      simp at i3
      omega
    refine ss_retLock ?_ (flat_lst fun x => flat_pr (flat_set _) (flat_set _))
    refine EE.to (ee_lc0 (r := fun p : Row => rSet p.1) (xs := grp L) (u := rPr rSet rSet) (f := fun p => p) 3 rfl sc_kgrouped (ei_fkeys (ev 1 rfl)) (fun p hp s H C' cl fp => ?_) lg) (by rw [map_self])
    have hk : p.1 ∈ (grp L).map (·.1) := List.mem_map.mpr ⟨p, hp, rfl⟩
    have eg : gget (grp L) p.1 = p.2 := gget_of i2 hp
    exact ee_tup2 (x := p.1) (y := p.2) (ev 3 rfl) (EE.to (ee_dix (D := grp L) (k := p.1) hu1 (EE.imp (ev 1 rfl) fun _ _ => rFz_dc) (ev 3 rfl) hk) (by rw [eg]))
end
end FP
namespace FP
open PySem hiding step Callee sstep
open PySem.Spec hiding Row
open PyProof.Rows L2 LamX FM FS FQ
section
variable {T : List (Addr × Str)} {X : Cx} {G : Gm} {a b c e : Expr} {p1 pos : Pos}
/-- a call whose one argument has a datum that is there -/
theorem ee_callX {α : Type} {Q : α → Prop} {r : α → Pd} {pre : α → Prop} {res : α → Pd} {o : Pd} {k : Nat} {x : Str} {pns : List Str} (cl : FS.Callee T X.prog X.w X.K X.mg X.base k x pns pre (fun z => [r z]) res) (hr : Room k X.A) (ha : EE T X G a (exP Q r)) (hz : ∀ z, Q z → pre z ∧ ∀ F v, (res z).p F v → o.p F v) (hg : Gl X x := by rfl)
    (hdb : (x == ("__debug__" : Str)) = false := by decide) (he : starEach [a] X.env = (false, eval a X.env) :: starEach [] X.env := by rfl) (hpl : (backTo pos (starEach [] X.env)).any (·.1) = false := by rfl) : EE T X G (.Call (.Name x p1) [a] [] pos) o := by
  obtain ⟨f, fd, h1, h2, h3, h4⟩ := cl
  refine ee_by (pe_call h1 hr hg h2 h3 h4 .nil pass0 wa hdb he hpl) fun σ F H Q2 g s t kq => ea1 ha he σ F H _ g s t fun vs F1 H1 g1 hv => ?_
  match vs, hv with
  | [v], ⟨⟨z, hz1, hz2⟩, _⟩ =>
    obtain ⟨q1, q2⟩ := hz z hz1
    show spG T pre (fun z => [r z]) res [v] H1 Q2 E0
    exact ⟨z, F1, q1, g1.sub, g1.tb, ⟨hz2, True.intro⟩, fun w F2 H2 g2 hw => kq w F2 H2 (g1.trans g2) (q2 F2 w hw)⟩
theorem et_ex {α : Type} {Q : α → Prop} {r : α → Pd} {i : Nat} {k : Bool} (hg : G[i]? = some (some (exP Q r))) (h : ∀ x, Q x → ET T X (G.set i (some (r x))) c k) : ET T X G c k := fun σ F H Q2 g s t kq => by
  obtain ⟨v, h1, x, h2, h3⟩ := g.get hg
  exact h x h2 σ F H Q2 (g.add h3 i h1) s t kq
theorem et_notTrue {p2 : Pos} {j} {x : Bool} (h : EE T X G a (rBl x)) : ET T X G (.Compare a [.IsNot] [.Constant (.bool true) j p2] pos) (!x) :=
  et_bin (pt_cmpR op_notBl we we (nomark _)) h ee_bl fun F H u v Q s t hu hv k => by
    have hu : u = .bl x := hu
    have hv : v = .bl true := hv
    refine ⟨x, true, hu, hv, ?_⟩
    have e : (!decide (x = true)) = !x := by cases x <;> rfl
    rw [e]
    exact k F H (Gr.refl s t)
end
/-- another cover, told by its rows -/
def rOth (D : List Row) : Pd := exP (fun E : List Row => FM.Eqv E D) (rLst (rPr rSet rSet))
section
variable {T : List (Addr × Str)} {P : Program} {w : World} {K : PySem.W.Frag} {mg : Str → Option Value} {base : Heap} {C : Addr}
theorem sc_law : FnScope ["_law_script", "_law_numbers_here", "_law_count", "_law_rows", "_law_told", "_law_found", "_law_cover", "_law_others", "_law_row", "_law_one", "_law_other"] ["_law_script"] (defScope (top 40)) := ⟨rfl, rfl, rfl, by decide +kernel, rfl, by decide +kernel, by decide +kernel⟩
theorem f_law {f : Addr} {fd0 : FuncData} (Fn : L2.Fun K "law" "law" (top 40) f fd0) (B : Bi mg) (D0 : Fdx K mg C) (kN : kNumbers T P w K mg base) (kF : kFds T P w K mg base) (M : MkOk T P w K mg base C 2) (cF : cFewest T P w K mg base C) (kP : kPlain T P w K mg base C) (kS : kSays T P w K mg base) (kT : kTupled T P w K mg base 3)
    (kSp : kSpread T P w K mg base) (cT : cTakes T P w K mg base C) (eqo : EqOk P w K mg base C 3) (cR : cReduced T P w K mg base C) (kG : kGrouped T P w K mg base) : FnOk P w K mg base CX0 12 f fd0 ["_law_script"] (spG T (fun _ => True) (fun ns : List Int => [rScr K ns]) (fun _ => rBl true)) := by
  obtain ⟨fi, fd, pi, M1, M2, M3, M4⟩ := M
  refine fn_by Fn sc_law (fun _ => rfl) fun ns0 hz cdv A outer s H E hr => ?_
  have nd := sc_law.nd
  refine ss_cons (s1_set 1 (ee_call kN (hr.mono (by decide)) ns0 True.intro (ea_cons (ev 0 rfl) (ea1 ee_int))) ?_ (fun _ _ e => nomatch e) nd)
  refine ss_ex (i := 1) (P := Nums 9) (r := rLst rInt) rfl fun ns hns => ?_
  obtain ⟨a1, a2, a3⟩ := hns.at (i := 0) (by decide)
  have hn5 : (ns.getD 0 0 % 5).toNat + 1 ≤ 5 := by omega
  have hn : ((((ns.getD 0 0 % 5).toNat + 1 : Nat)) : Int) = ns.getD 0 0 % 5 + 1 := by omega
  generalize (ns.getD 0 0 % 5).toNat + 1 = n at hn5 hn
  refine ss_cons (s1_set (p := rInt (n : Int)) 2 (EE.to (ee_add (ee_mod (ee_ixL (i := ((0 : Nat) : Int)) (x := ns.getD 0 0) (ev 1 rfl) ee_int (atI_nat a1)) ee_int (by decide)) ee_int) (congrArg rInt hn.symm)) ?_ (fun _ _ e => nomatch e) nd)
  refine ss_cons (s1_set 3 (ee_call kF (hr.mono (by decide)) (ns, n) ⟨hns, hn5⟩ (ea_cons (ev 1 rfl) (ea_cons ee_int (ea1 (ev 2 rfl))))) ?_ (fun _ _ e => nomatch e) nd)
  obtain ⟨hD, hl⟩ := fds_ok ns n
  show SS T _ ⟨List.set (List.set (List.set (List.set (startG 11 [rScr K ns0]) 1 (some (exP (Nums 9) (rLst rInt)))) 1 (some (rLst rInt ns))) 2 (some (rInt (n : Int)))) 3 (some (rLst (rPr rSet rSet) (fds ns n))), none⟩ _ _ (rBl true)
  generalize fds ns n = D at hD hl ⊢
  have hDw := hD.rw hn5
  have hS : Sprd n D (cov n D) := sprd_of hn5 hD (alls_ok n)
  have hF := cov_rw hn5 D
  have lF := cov_len hn5 D
  have eq := spr_eqv hn5 hD hS
  have lb := len_btw_le lF
  have l100 : D.length ≤ 100 := by omega
  have f100 : (cov n D).length ≤ 100 := by omega
  have em : ((cov n D).map (·.1)).length = (cov n D).length := List.length_map _
  refine ss_cons (s1_setLc (u := rFd C) (f := fun p => p) 4 8 rfl sc_law (ei_list (r := rPr rSet rSet) (xs := D) (ev 3 rfl)) (fun p hp s H C' cl fp => EE.to (ee_make (ls := p.1) (rs := p.2) M1 M2 M3 M4 (hr.mono (by decide)) (ea_cons (ee_fst (z := p) (ev 8 rfl)).sqT (ea1 (ee_snd (z := p) (ev 8 rfl)).sqT)) (by have := (hDw p hp).1.len; omega) (by have := (hDw p hp).2.len; omega)) (mk_s5 (hDw p hp).1 (hDw p hp).2)) (by omega) ?_)
  rw [map_self]
  refine ss_cons (s1_set 5 (ee_call cF (hr.mono (by decide)) (n, D) ⟨hn5, hDw⟩ (ea_cons (ev 2 rfl) (ea1 (ev 4 rfl).sqL))) ?_ (fun _ _ e => nomatch e) nd)
  refine SS.pre (b := ⟨[none, none, some (rInt (n : Int)), some (rLst (rPr rSet rSet) D), some (rLst (rFd C) D), some (rOut C (outN n D)), none, none, none, none, none], none⟩) ?_ (aimp (by simp [GImp, startG]))
  refine ss_cons (s1_set 6 (ee_call kP (hr.mono (by decide)) (cov n D) (by omega) (ea1 (ee_fst (z := outN n D) (ev 5 rfl)))) ?_ (fun _ _ e => nomatch e) nd)
  refine SS.pre (b := ⟨[none, none, some (rInt (n : Int)), some (rLst (rPr rSet rSet) D), some (rLst (rFd C) D), some (rOut C (outN n D)), some (rLst (rPr rSet rSet) (cov n D)), none, none, none, none], none⟩) ?_ (aimp (by simp [GImp]))
  -- the types
  refine ss_cons (s1_if (k := false) (ET.to (et_or3 (et_not (et_bl (ee_isiT (k := true) (tn := "tuple") B.isinstance (ev 5 rfl) B.tuple (by decide +kernel) fun F H v s ⟨l, u, w, e1, e2, _⟩ => ⟨"tuple", by rw [e1]; exact .base (.tup (s.at e2)), by decide +kernel⟩)))
    (fun _ => et_not (et_bl (ee_isiT (k := true) (tn := "list") B.isinstance (ee_fst (z := outN n D) (ev 5 rfl)) B.list (by decide +kernel) fun F H v s ⟨l, vs, e1, e2, _⟩ => ⟨"list", by rw [e1]; exact .base (.lst (s.at e2)), by decide +kernel⟩)))
    fun _ _ => et_not (et_bl (ee_isiT (k := true) (tn := "tuple") B.isinstance (ee_snd (z := outN n D) (ev 5 rfl)) B.tuple (by decide +kernel) fun F H v s ⟨l, vs, e1, e2, _⟩ => ⟨"tuple", by rw [e1]; exact .base (.tup (s.at e2)), by decide +kernel⟩))) rfl) (fun e => nomatch e) fun _ => ?_)
  refine ss_nil ?_
  refine ss_cons (s1_if (k := false) (ET.to (et_gt (ee_lenL B.len (ee_lc (u := rFd C) (r := rFd C) (xs := cov n D) (f := fun p => p) (pT := fun _ => false) 9 rfl sc_law (ei_list (ee_fst (z := outN n D) (ev 5 rfl))) (fun p hp s H C' cl fp => ets_one (ET.to (et_not (et_bl (ee_isiC (z := p) B.isinstance (ev 9 rfl) D0.ci D0.at_))) rfl)) (fun p hp h => nomatch h) (by omega))) ee_int) ?_) (fun e => nomatch e) fun _ => ?_)
  · have e0 : ((cov n D).filter fun _ => false) = [] := List.filter_eq_nil_iff.mpr fun _ _ h => nomatch h
    rw [e0]
    rfl
  refine ss_nil ?_
  refine ss_cons (s1_if (k := false) (ET.to (et_or4 (et_not (et_bl (ee_call kS (hr.mono (by decide)) (D, cov n D) ⟨hDw, hF, l100, eq.symm⟩ (ea_cons (ev 3 rfl) (ea1 (ev 6 rfl)))))) (fun _ => et_not (et_bl (ee_call kS (hr.mono (by decide)) (cov n D, D) ⟨hF, hDw, f100, eq⟩ (ea_cons (ev 6 rfl) (ea1 (ev 3 rfl))))))
    (fun _ _ => et_neI (ee_lenP (ps := [rStr "spread", rTup rSet ((cov n D).map (·.1)), rTup rSet (btw (cov n D))]) B.len (ee_snd (r := rLst (rFd C)) (u := rPaper) (z := outN n D) (ev 5 rfl))) ee_int) fun _ _ _ => et_neS (ee_ixP 0 (p := rStr "spread") (ps := [rStr "spread", rTup rSet ((cov n D).map (·.1)), rTup rSet (btw (cov n D))]) (ee_snd (r := rLst (rFd C)) (u := rPaper) (z := outN n D) (ev 5 rfl)) rfl) ee_str) ?_) (fun e => nomatch e) fun _ => ?_)
  · simp
  refine ss_nil ?_
  refine ss_cons (s1_if (k := false) (ET.to (et_or2 (et_neI (ee_lenT (r := rSet) (xs := (cov n D).map (·.1)) B.len (ee_ixP 1 (ps := [rStr "spread", rTup rSet ((cov n D).map (·.1)), rTup rSet (btw (cov n D))]) (ee_snd (r := rLst (rFd C)) (u := rPaper) (z := outN n D) (ev 5 rfl)) rfl)) (ee_lenL B.len (ev 6 rfl))) fun _ => et_neI (ee_lenT (r := rSet) (xs := btw (cov n D)) B.len (ee_ixP 2 (ps := [rStr "spread", rTup rSet ((cov n D).map (·.1)), rTup rSet (btw (cov n D))]) (ee_snd (r := rLst (rFd C)) (u := rPaper) (z := outN n D) (ev 5 rfl)) rfl)) (ee_div (ee_mul (ee_lenL B.len (ev 6 rfl)) (ee_sub (ee_lenL B.len (ev 6 rfl)) ee_int) (by omega)) ee_int (by decide))) ?_) (fun e => nomatch e) fun _ => ?_)
  · rw [em, len_btw]
    have e := off_all (cov n D).length
    simp [e]
  refine ss_nil ?_
  refine ss_cons (s1_if (k := false) (ET.to (et_not (et_bl (ee_call kT (hr.mono (by decide)) (rPaper ((cov n D).map (·.1), btw (cov n D))) (lv_paper (fun x hx => ?_) (fun x hx => (sn_btw hn5 hD hS x hx).s5 hn5) (by omega) (by omega)) (ea1 (ee_snd (z := outN n D) (ev 5 rfl)))))) rfl) (fun e => nomatch e) fun _ => ?_)
  · obtain ⟨p, hp, e⟩ := List.mem_map.mp hx
    rw [← e]
    exact (hF p hp).1
  refine ss_nil ?_
  refine ss_cons (s1_if (k := false) (ET.to (et_or2 (et_not (et_bl (ee_call kSp (hr.mono (by decide)) (n, D) ⟨hn5, hD, l100⟩ (ea_cons (ev 3 rfl) (ea_cons (ee_ixP 1 (ps := [rStr "spread", rTup rSet ((cov n D).map (·.1)), rTup rSet (btw (cov n D))]) (ee_snd (r := rLst (rFd C)) (u := rPaper) (z := outN n D) (ev 5 rfl)) rfl) (ea1 (ee_ixP 2 (ps := [rStr "spread", rTup rSet ((cov n D).map (·.1)), rTup rSet (btw (cov n D))]) (ee_snd (r := rLst (rFd C)) (u := rPaper) (z := outN n D) (ev 5 rfl)) rfl))))))) fun _ => et_notTrue (ee_call cT (hr.mono (by decide)) (n, D) ⟨hn5, hD, hl⟩ (ea_cons (ev 2 rfl) (ea_cons (ev 4 rfl) (ea_cons (ee_fst (z := outN n D) (ev 5 rfl)) (ea1 (ee_snd (z := outN n D) (ev 5 rfl)))))))) rfl) (fun e => nomatch e) fun _ => ?_)
  refine ss_nil ?_
  refine ss_cons (s1_if (k := false) (et_neOut (z := outN n D) eqo (hr.mono (by decide)) (ee_call cF (hr.mono (by decide)) (n, D) ⟨hn5, hDw⟩ (ea_cons (ev 2 rfl) (ea1 (ee_tuple B.tuple (ev 4 rfl)).sqT))) (ev 5 rfl)) (fun e => nomatch e) fun _ => ?_)
  refine ss_nil ?_
  -- the other covers
  refine ss_cons (s1_new (r := fun _ : Unit => rOth D) (xs := [(), (), ()]) 7 (ea_cons (EE.ex (r := rLst (rPr rSet rSet)) (x := D) (ev 3 rfl) (FM.Eqv.refl D))
    (ea_cons (ee_callX (r := rLst (rFd C)) (Q := RedOk D) kP (hr.mono (by decide)) (ee_call cR (hr.mono (by decide)) D ⟨hDw, hl⟩ (ea1 (ev 4 rfl))) (fun z hz => ⟨by have := hz.2.2; omega, fun F v hv => ⟨z, hz.2.1, hv⟩⟩))
    (ea1 (ee_callX (r := rLst (rPr rSet rSet)) (Q := RedOk D) kG (hr.mono (by decide)) (ee_callX (o := exP (RedOk D) (rLst (rPr rSet rSet))) (r := rLst (rFd C)) (Q := RedOk D) kP (hr.mono (by decide)) (ee_call cR (hr.mono (by decide)) D ⟨hDw, hl⟩ (ea1 (ev 4 rfl))) (fun z hz => ⟨by have := hz.2.2; omega, fun F v hv => ⟨z, hz, hv⟩⟩))
      (fun z hz => ⟨⟨hz.1, by have := hz.2.2; omega⟩, fun F v hv => ⟨grp z, (eqv_grp z).trans hz.2.1, hv⟩⟩))))) (by decide) ?_ (by exact (show 7 < 11 by decide)) nd)
  refine ss_cons (s1_app (r := fun _ : Unit => rOth D) (x0 := ()) 7 (EE.ex (r := rLst (rPr rSet rSet)) (x := grp D) (ee_call kG (hr.mono (by decide)) D ⟨hDw, by omega⟩ (ea1 (ev 3 rfl))) (eqv_grp D)) (by decide) ?_)
  refine ss_freeze ?_
  refine SS.pre (b := ⟨[none, none, none, none, none, none, some (rLst (rPr rSet rSet) (cov n D)), some (rLst (fun _ : Unit => rOth D) [(), (), (), ()]), none, none, none], none⟩) ?_ ⟨⟨fun _ _ h => h, fun _ _ h => mLst_pd h, by simp [GImp]⟩, True.intro⟩
  refine ss_ret (EE.to (ee_eqI (ee_lenL B.len (ee_lc (u := fun _ : Unit => rOth D) (r := fun _ : Unit => rOth D) (xs := [(), (), (), ()]) (f := fun p => p) (pT := fun _ => false) 10 rfl sc_law (ei_list (ev 7 rfl)) (fun p hp s H C' cl fp => ets_one (et_ex (i := 10) rfl fun G2 hG2 => ET.to (et_lt (ee_lenL B.len (ev 10 rfl)) (ee_lenL B.len (ev 6 rfl))) ?_)) (fun p hp h => nomatch h) (by decide))) ee_int) (congrArg rBl ?_))
  · have k := fewest_le hn5 hD hS hG2
    refine decide_eq_false fun z => ?_
    omega
  · rfl
end
end FP
namespace FP
open PySem hiding step Callee sstep
open PySem.Spec hiding Row
open PyProof.Rows L2 LamX NdefX FM FS FQ
section
variable {K : PySem.W.Frag} {h : Heap} {mg : Str → Option Value}
/-- a def of the text, by what the top has left -/
theorem text_fn {x : Str} {st : Stmt} {f : Addr} {oc kV dc pm cd ct : Value} {od an : Option Addr} {sl : Array (Option Value)} (X : K.In h) (G : h.Ns mainGlobals mg) (a : PySem.W.nsIn K mainGlobals x = some (some (.ref f)))
    (l : K.lookup f = some ⟨oc, od, .func (PySem.W.fnOf x x (defArgs st) (defBody st) (defScope st) .none kV dc pm an cd ct), sl⟩) (c : PySem.W.codeIn K cd x = true) (k : PySem.W.keepIn K (.ref f) = true) : TextFn K mg x st := ⟨f, _, fun_mk l c k, PySem.W.mg_of X G a⟩
/-- the script is there -/
theorem scr_at {H : Hp} {a : Addr} {ns : List Int} (hs : SqL K H a (ns.map V.int)) : ∃ F, FS.Sub F H ∧ SqL K F a (ns.map V.int) := by
  have one : ∀ o : HO, H a = some o → (∀ ps, o ≠ .tbl ps) → FS.Sub (upd (fun _ => none) a o) H := fun o e n b u e2 => by
    by_cases hb : b = a
    · rw [hb, upd_same] at e2
      cases e2
      rw [hb]
      exact ⟨e, n⟩
    · rw [upd_ne hb] at e2
      cases e2
  rcases hs with (hs | ⟨o, hs⟩) | hs
  · exact ⟨_, one _ hs lst_tbl, .inl (.inl upd_same)⟩
  · exact ⟨_, one _ hs (fun _ z => (nomatch z)), .inl (.inr ⟨o, upd_same⟩)⟩
  · exact ⟨fun _ => none, fun b u e => (nomatch e), .inr hs⟩
end

theorem all_mk {l : PySem.W.OpenLaw} {w : World} {K : PySem.W.Frag} {h : Heap} {mg : Str → Option Value} {C fI fE g p fa cA fS PT : Addr} (X : K.In h) (G : h.Ns mainGlobals mg) (hfa : mg "law" = some (.ref fa)) (tb : ∀ P ∈ ([52] : List Addr), h.get? P = some (PySem.W.tabObj #[]))
    (b_all : PySem.W.nsIn K mainGlobals "all" = some none)
    (b_any : PySem.W.nsIn K mainGlobals "any" = some none)
    (b_tuple : PySem.W.nsIn K mainGlobals "tuple" = some none)
    (b_list : PySem.W.nsIn K mainGlobals "list" = some none)
    (b_sorted : PySem.W.nsIn K mainGlobals "sorted" = some none)
    (b_set : PySem.W.nsIn K mainGlobals "set" = some none)
    (b_range : PySem.W.nsIn K mainGlobals "range" = some none)
    (b_len : PySem.W.nsIn K mainGlobals "len" = some none)
    (b_enumerate : PySem.W.nsIn K mainGlobals "enumerate" = some none)
    (b_isinstance : PySem.W.nsIn K mainGlobals "isinstance" = some none)
    (b_int : PySem.W.nsIn K mainGlobals "int" = some none)
    (b_str : PySem.W.nsIn K mainGlobals "str" = some none)
    (aC : PySem.W.nsIn K mainGlobals "Fd" = some (some (.ref C)))
    (pg : PySem.W.plainGet K C Str.empty = true) (hd : PySem.W.hasDictIn K C = true) (po : PySem.W.plainOver K C = true) (sa : PySem.W.findIn K (.ref C) "__setattr__" = some (some (.builtin "object.__setattr__"))) (mk : PySem.W.makesIn K C = true) (kc : PySem.W.keepIn K (.ref C) = true)
    (nL0 : PySem.W.findIn K (.ref C) nL = some none) (nR0 : PySem.W.findIn K (.ref C) nR = some none)
    (iC1 : PySem.W.findIn K (.ref C) "__class__" = some (some (.builtin "object.__class__"))) (iC2 : PySem.W.specialIn K (.builtin "object.__class__") "__get__" = some (some (.builtin "getset_descriptor.__get__"))) (iC3 : PySem.W.takesIn K (.builtin "object.__class__") = some true) (iC4 : PySem.W.mroIn K C (.type "object") = some true) (iC5 : PySem.W.kitOne K (.ref C) (.ref C) = some true)
    (aI : PySem.W.findIn K (.ref C) "__init__" = some (some (.ref fI))) (iI : PySem.W.isFn K (.ref fI) = true)
    (aE : PySem.W.findIn K (.ref C) "__eq__" = some (some (.ref fE))) (iE : PySem.W.isFn K (.ref fE) = true)
    (aP : PySem.W.findIn K (.ref C) "key" = some (some (.ref p))) (gP : PySem.W.specialIn K (.ref p) "__get__" = some (some (.builtin "property.__get__"))) (tP : PySem.W.takesIn K (.ref p) = some true)
    {rest : List Value} (rP : PySem.W.recIn K p "property" = some (.ref g :: rest))
    {oc1 kV1 dc1 pm1 cd1 ct1 oc2 kV2 dc2 pm2 cd2 ct2 oc3 kV3 dc3 pm3 cd3 ct3 : Value} {od1 an1 od2 an2 od3 an3 : Option Addr} {sl1 sl2 sl3 : Array (Option Value)}
    (l1 : K.lookup fI = some ⟨oc1, od1, .func (PySem.W.fnOf "__init__" "Sides.__init__" (defArgs (inClass (top 9) 0)) (defBody (inClass (top 9) 0)) (defScope (inClass (top 9) 0)) .none kV1 dc1 pm1 an1 cd1 ct1), sl1⟩)
    (c1 : PySem.W.codeIn K cd1 "Sides.__init__" = true) (k1 : PySem.W.keepIn K (.ref fI) = true)
    (l2 : K.lookup g = some ⟨oc2, od2, .func (PySem.W.fnOf "key" "Sides.key" (defArgs (inClass (top 9) 1)) (defBody (inClass (top 9) 1)) (defScope (inClass (top 9) 1)) .none kV2 dc2 pm2 an2 cd2 ct2), sl2⟩)
    (c2 : PySem.W.codeIn K cd2 "Sides.key" = true) (k2 : PySem.W.keepIn K (.ref g) = true)
    (l3 : K.lookup fE = some ⟨oc3, od3, .func (PySem.W.fnOf "__eq__" "Fd.__eq__" (defArgs (inClass (top 10) 0)) (defBody (inClass (top 10) 0)) (defScope (inClass (top 10) 0)) .none kV3 dc3 pm3 an3 cd3 ct3), sl3⟩)
    (c3 : PySem.W.codeIn K cd3 "Fd.__eq__" = true) (k3 : PySem.W.keepIn K (.ref fE) = true)
    {oc4 kV4 dc4 pm4 ct4 : Value} {od4 an4 : Option Addr} {sl4 : Array (Option Value)}
    (aA : PySem.W.nsIn K mainGlobals "all_sets" = some (some (.ref fS)))
    (l4 : K.lookup fS = some ⟨oc4, od4, .func (PySem.W.fnOf "all_sets" "all_sets" (defArgs (top 7)) (defBody (top 7)) (defScope (top 7)) .none kV4 dc4 pm4 an4 (.ref cA) ct4), sl4⟩)
    (c4 : PySem.W.codeIn K (.ref cA) "all_sets" = true) (k4 : PySem.W.keepIn K (.ref fS) = true)
    (ePT : PT = 52) (hP : PySem.W.codeHdIn K cA PT = true) (nP : K.lookup PT = none)
    {f1 : Addr} {oc1_ kV1_ dc1_ pm1_ cd1_ ct1_ : Value} {od1_ an1_ : Option Addr} {sl1_ : Array (Option Value)} (a1_ : PySem.W.nsIn K mainGlobals "as_set" = some (some (.ref f1)))
    (l1_ : K.lookup f1 = some ⟨oc1_, od1_, .func (PySem.W.fnOf "as_set" "as_set" (defArgs (top 1)) (defBody (top 1)) (defScope (top 1)) .none kV1_ dc1_ pm1_ an1_ cd1_ ct1_), sl1_⟩) (c1_ : PySem.W.codeIn K cd1_ "as_set" = true) (k1_ : PySem.W.keepIn K (.ref f1) = true)
    {f2 : Addr} {oc2_ kV2_ dc2_ pm2_ cd2_ ct2_ : Value} {od2_ an2_ : Option Addr} {sl2_ : Array (Option Value)} (a2_ : PySem.W.nsIn K mainGlobals "united" = some (some (.ref f2)))
    (l2_ : K.lookup f2 = some ⟨oc2_, od2_, .func (PySem.W.fnOf "united" "united" (defArgs (top 2)) (defBody (top 2)) (defScope (top 2)) .none kV2_ dc2_ pm2_ an2_ cd2_ ct2_), sl2_⟩) (c2_ : PySem.W.codeIn K cd2_ "united" = true) (k2_ : PySem.W.keepIn K (.ref f2) = true)
    {f3 : Addr} {oc3_ kV3_ dc3_ pm3_ cd3_ ct3_ : Value} {od3_ an3_ : Option Addr} {sl3_ : Array (Option Value)} (a3_ : PySem.W.nsIn K mainGlobals "met" = some (some (.ref f3)))
    (l3_ : K.lookup f3 = some ⟨oc3_, od3_, .func (PySem.W.fnOf "met" "met" (defArgs (top 3)) (defBody (top 3)) (defScope (top 3)) .none kV3_ dc3_ pm3_ an3_ cd3_ ct3_), sl3_⟩) (c3_ : PySem.W.codeIn K cd3_ "met" = true) (k3_ : PySem.W.keepIn K (.ref f3) = true)
    {f4 : Addr} {oc4_ kV4_ dc4_ pm4_ cd4_ ct4_ : Value} {od4_ an4_ : Option Addr} {sl4_ : Array (Option Value)} (a4_ : PySem.W.nsIn K mainGlobals "less" = some (some (.ref f4)))
    (l4_ : K.lookup f4 = some ⟨oc4_, od4_, .func (PySem.W.fnOf "less" "less" (defArgs (top 4)) (defBody (top 4)) (defScope (top 4)) .none kV4_ dc4_ pm4_ an4_ cd4_ ct4_), sl4_⟩) (c4_ : PySem.W.codeIn K cd4_ "less" = true) (k4_ : PySem.W.keepIn K (.ref f4) = true)
    {f5 : Addr} {oc5_ kV5_ dc5_ pm5_ cd5_ ct5_ : Value} {od5_ an5_ : Option Addr} {sl5_ : Array (Option Value)} (a5_ : PySem.W.nsIn K mainGlobals "is_within" = some (some (.ref f5)))
    (l5_ : K.lookup f5 = some ⟨oc5_, od5_, .func (PySem.W.fnOf "is_within" "is_within" (defArgs (top 5)) (defBody (top 5)) (defScope (top 5)) .none kV5_ dc5_ pm5_ an5_ cd5_ ct5_), sl5_⟩) (c5_ : PySem.W.codeIn K cd5_ "is_within" = true) (k5_ : PySem.W.keepIn K (.ref f5) = true)
    {f6 : Addr} {oc6_ kV6_ dc6_ pm6_ cd6_ ct6_ : Value} {od6_ an6_ : Option Addr} {sl6_ : Array (Option Value)} (a6_ : PySem.W.nsIn K mainGlobals "whole" = some (some (.ref f6)))
    (l6_ : K.lookup f6 = some ⟨oc6_, od6_, .func (PySem.W.fnOf "whole" "whole" (defArgs (top 6)) (defBody (top 6)) (defScope (top 6)) .none kV6_ dc6_ pm6_ an6_ cd6_ ct6_), sl6_⟩) (c6_ : PySem.W.codeIn K cd6_ "whole" = true) (k6_ : PySem.W.keepIn K (.ref f6) = true)
    {f12 : Addr} {oc12_ kV12_ dc12_ pm12_ cd12_ ct12_ : Value} {od12_ an12_ : Option Addr} {sl12_ : Array (Option Value)} (a12_ : PySem.W.nsIn K mainGlobals "closed" = some (some (.ref f12)))
    (l12_ : K.lookup f12 = some ⟨oc12_, od12_, .func (PySem.W.fnOf "closed" "closed" (defArgs (top 12)) (defBody (top 12)) (defScope (top 12)) .none kV12_ dc12_ pm12_ an12_ cd12_ ct12_), sl12_⟩) (c12_ : PySem.W.codeIn K cd12_ "closed" = true) (k12_ : PySem.W.keepIn K (.ref f12) = true)
    {f14 : Addr} {oc14_ kV14_ dc14_ pm14_ cd14_ ct14_ : Value} {od14_ an14_ : Option Addr} {sl14_ : Array (Option Value)} (a14_ : PySem.W.nsIn K mainGlobals "says" = some (some (.ref f14)))
    (l14_ : K.lookup f14 = some ⟨oc14_, od14_, .func (PySem.W.fnOf "says" "says" (defArgs (top 14)) (defBody (top 14)) (defScope (top 14)) .none kV14_ dc14_ pm14_ an14_ cd14_ ct14_), sl14_⟩) (c14_ : PySem.W.codeIn K cd14_ "says" = true) (k14_ : PySem.W.keepIn K (.ref f14) = true)
    {f15 : Addr} {oc15_ kV15_ dc15_ pm15_ cd15_ ct15_ : Value} {od15_ an15_ : Option Addr} {sl15_ : Array (Option Value)} (a15_ : PySem.W.nsIn K mainGlobals "smallest_left" = some (some (.ref f15)))
    (l15_ : K.lookup f15 = some ⟨oc15_, od15_, .func (PySem.W.fnOf "smallest_left" "smallest_left" (defArgs (top 15)) (defBody (top 15)) (defScope (top 15)) .none kV15_ dc15_ pm15_ an15_ cd15_ ct15_), sl15_⟩) (c15_ : PySem.W.codeIn K cd15_ "smallest_left" = true) (k15_ : PySem.W.keepIn K (.ref f15) = true)
    {f16 : Addr} {oc16_ kV16_ dc16_ pm16_ cd16_ ct16_ : Value} {od16_ an16_ : Option Addr} {sl16_ : Array (Option Value)} (a16_ : PySem.W.nsIn K mainGlobals "reduced" = some (some (.ref f16)))
    (l16_ : K.lookup f16 = some ⟨oc16_, od16_, .func (PySem.W.fnOf "reduced" "reduced" (defArgs (top 16)) (defBody (top 16)) (defScope (top 16)) .none kV16_ dc16_ pm16_ an16_ cd16_ ct16_), sl16_⟩) (c16_ : PySem.W.codeIn K cd16_ "reduced" = true) (k16_ : PySem.W.keepIn K (.ref f16) = true)
    {f17 : Addr} {oc17_ kV17_ dc17_ pm17_ cd17_ ct17_ : Value} {od17_ an17_ : Option Addr} {sl17_ : Array (Option Value)} (a17_ : PySem.W.nsIn K mainGlobals "spread_sets" = some (some (.ref f17)))
    (l17_ : K.lookup f17 = some ⟨oc17_, od17_, .func (PySem.W.fnOf "spread_sets" "spread_sets" (defArgs (top 17)) (defBody (top 17)) (defScope (top 17)) .none kV17_ dc17_ pm17_ an17_ cd17_ ct17_), sl17_⟩) (c17_ : PySem.W.codeIn K cd17_ "spread_sets" = true) (k17_ : PySem.W.keepIn K (.ref f17) = true)
    {f18 : Addr} {oc18_ kV18_ dc18_ pm18_ cd18_ ct18_ : Value} {od18_ an18_ : Option Addr} {sl18_ : Array (Option Value)} (a18_ : PySem.W.nsIn K mainGlobals "set_between" = some (some (.ref f18)))
    (l18_ : K.lookup f18 = some ⟨oc18_, od18_, .func (PySem.W.fnOf "set_between" "set_between" (defArgs (top 18)) (defBody (top 18)) (defScope (top 18)) .none kV18_ dc18_ pm18_ an18_ cd18_ ct18_), sl18_⟩) (c18_ : PySem.W.codeIn K cd18_ "set_between" = true) (k18_ : PySem.W.keepIn K (.ref f18) = true)
    {f19 : Addr} {oc19_ kV19_ dc19_ pm19_ cd19_ ct19_ : Value} {od19_ an19_ : Option Addr} {sl19_ : Array (Option Value)} (a19_ : PySem.W.nsIn K mainGlobals "fewest" = some (some (.ref f19)))
    (l19_ : K.lookup f19 = some ⟨oc19_, od19_, .func (PySem.W.fnOf "fewest" "fewest" (defArgs (top 19)) (defBody (top 19)) (defScope (top 19)) .none kV19_ dc19_ pm19_ an19_ cd19_ ct19_), sl19_⟩) (c19_ : PySem.W.codeIn K cd19_ "fewest" = true) (k19_ : PySem.W.keepIn K (.ref f19) = true)
    {f20 : Addr} {oc20_ kV20_ dc20_ pm20_ cd20_ ct20_ : Value} {od20_ an20_ : Option Addr} {sl20_ : Array (Option Value)} (a20_ : PySem.W.nsIn K mainGlobals "is_closed" = some (some (.ref f20)))
    (l20_ : K.lookup f20 = some ⟨oc20_, od20_, .func (PySem.W.fnOf "is_closed" "is_closed" (defArgs (top 20)) (defBody (top 20)) (defScope (top 20)) .none kV20_ dc20_ pm20_ an20_ cd20_ ct20_), sl20_⟩) (c20_ : PySem.W.codeIn K cd20_ "is_closed" = true) (k20_ : PySem.W.keepIn K (.ref f20) = true)
    {f21 : Addr} {oc21_ kV21_ dc21_ pm21_ cd21_ ct21_ : Value} {od21_ an21_ : Option Addr} {sl21_ : Array (Option Value)} (a21_ : PySem.W.nsIn K mainGlobals "is_set" = some (some (.ref f21)))
    (l21_ : K.lookup f21 = some ⟨oc21_, od21_, .func (PySem.W.fnOf "is_set" "is_set" (defArgs (top 21)) (defBody (top 21)) (defScope (top 21)) .none kV21_ dc21_ pm21_ an21_ cd21_ ct21_), sl21_⟩) (c21_ : PySem.W.codeIn K cd21_ "is_set" = true) (k21_ : PySem.W.keepIn K (.ref f21) = true)
    {f22 : Addr} {oc22_ kV22_ dc22_ pm22_ cd22_ ct22_ : Value} {od22_ an22_ : Option Addr} {sl22_ : Array (Option Value)} (a22_ : PySem.W.nsIn K mainGlobals "parts_pair" = some (some (.ref f22)))
    (l22_ : K.lookup f22 = some ⟨oc22_, od22_, .func (PySem.W.fnOf "parts_pair" "parts_pair" (defArgs (top 22)) (defBody (top 22)) (defScope (top 22)) .none kV22_ dc22_ pm22_ an22_ cd22_ ct22_), sl22_⟩) (c22_ : PySem.W.codeIn K cd22_ "parts_pair" = true) (k22_ : PySem.W.keepIn K (.ref f22) = true)
    {f23 : Addr} {oc23_ kV23_ dc23_ pm23_ cd23_ ct23_ : Value} {od23_ an23_ : Option Addr} {sl23_ : Array (Option Value)} (a23_ : PySem.W.nsIn K mainGlobals "takes_fewest" = some (some (.ref f23)))
    (l23_ : K.lookup f23 = some ⟨oc23_, od23_, .func (PySem.W.fnOf "takes_fewest" "takes_fewest" (defArgs (top 23)) (defBody (top 23)) (defScope (top 23)) .none kV23_ dc23_ pm23_ an23_ cd23_ ct23_), sl23_⟩) (c23_ : PySem.W.codeIn K cd23_ "takes_fewest" = true) (k23_ : PySem.W.keepIn K (.ref f23) = true)
    {f25 : Addr} {oc25_ kV25_ dc25_ pm25_ cd25_ ct25_ : Value} {od25_ an25_ : Option Addr} {sl25_ : Array (Option Value)} (a25_ : PySem.W.nsIn K mainGlobals "_law_numbers" = some (some (.ref f25)))
    (l25_ : K.lookup f25 = some ⟨oc25_, od25_, .func (PySem.W.fnOf "_law_numbers" "_law_numbers" (defArgs (top 25)) (defBody (top 25)) (defScope (top 25)) .none kV25_ dc25_ pm25_ an25_ cd25_ ct25_), sl25_⟩) (c25_ : PySem.W.codeIn K cd25_ "_law_numbers" = true) (k25_ : PySem.W.keepIn K (.ref f25) = true)
    {f27 : Addr} {oc27_ kV27_ dc27_ pm27_ cd27_ ct27_ : Value} {od27_ an27_ : Option Addr} {sl27_ : Array (Option Value)} (a27_ : PySem.W.nsIn K mainGlobals "_law_sparse" = some (some (.ref f27)))
    (l27_ : K.lookup f27 = some ⟨oc27_, od27_, .func (PySem.W.fnOf "_law_sparse" "_law_sparse" (defArgs (top 27)) (defBody (top 27)) (defScope (top 27)) .none kV27_ dc27_ pm27_ an27_ cd27_ ct27_), sl27_⟩) (c27_ : PySem.W.codeIn K cd27_ "_law_sparse" = true) (k27_ : PySem.W.keepIn K (.ref f27) = true)
    {f28 : Addr} {oc28_ kV28_ dc28_ pm28_ cd28_ ct28_ : Value} {od28_ an28_ : Option Addr} {sl28_ : Array (Option Value)} (a28_ : PySem.W.nsIn K mainGlobals "_law_united" = some (some (.ref f28)))
    (l28_ : K.lookup f28 = some ⟨oc28_, od28_, .func (PySem.W.fnOf "_law_united" "_law_united" (defArgs (top 28)) (defBody (top 28)) (defScope (top 28)) .none kV28_ dc28_ pm28_ an28_ cd28_ ct28_), sl28_⟩) (c28_ : PySem.W.codeIn K cd28_ "_law_united" = true) (k28_ : PySem.W.keepIn K (.ref f28) = true)
    {f29 : Addr} {oc29_ kV29_ dc29_ pm29_ cd29_ ct29_ : Value} {od29_ an29_ : Option Addr} {sl29_ : Array (Option Value)} (a29_ : PySem.W.nsIn K mainGlobals "_law_met" = some (some (.ref f29)))
    (l29_ : K.lookup f29 = some ⟨oc29_, od29_, .func (PySem.W.fnOf "_law_met" "_law_met" (defArgs (top 29)) (defBody (top 29)) (defScope (top 29)) .none kV29_ dc29_ pm29_ an29_ cd29_ ct29_), sl29_⟩) (c29_ : PySem.W.codeIn K cd29_ "_law_met" = true) (k29_ : PySem.W.keepIn K (.ref f29) = true)
    {f30 : Addr} {oc30_ kV30_ dc30_ pm30_ cd30_ ct30_ : Value} {od30_ an30_ : Option Addr} {sl30_ : Array (Option Value)} (a30_ : PySem.W.nsIn K mainGlobals "_law_less" = some (some (.ref f30)))
    (l30_ : K.lookup f30 = some ⟨oc30_, od30_, .func (PySem.W.fnOf "_law_less" "_law_less" (defArgs (top 30)) (defBody (top 30)) (defScope (top 30)) .none kV30_ dc30_ pm30_ an30_ cd30_ ct30_), sl30_⟩) (c30_ : PySem.W.codeIn K cd30_ "_law_less" = true) (k30_ : PySem.W.keepIn K (.ref f30) = true)
    {f31 : Addr} {oc31_ kV31_ dc31_ pm31_ cd31_ ct31_ : Value} {od31_ an31_ : Option Addr} {sl31_ : Array (Option Value)} (a31_ : PySem.W.nsIn K mainGlobals "_law_is_within" = some (some (.ref f31)))
    (l31_ : K.lookup f31 = some ⟨oc31_, od31_, .func (PySem.W.fnOf "_law_is_within" "_law_is_within" (defArgs (top 31)) (defBody (top 31)) (defScope (top 31)) .none kV31_ dc31_ pm31_ an31_ cd31_ ct31_), sl31_⟩) (c31_ : PySem.W.codeIn K cd31_ "_law_is_within" = true) (k31_ : PySem.W.keepIn K (.ref f31) = true)
    {f32 : Addr} {oc32_ kV32_ dc32_ pm32_ cd32_ ct32_ : Value} {od32_ an32_ : Option Addr} {sl32_ : Array (Option Value)} (a32_ : PySem.W.nsIn K mainGlobals "_law_fds" = some (some (.ref f32)))
    (l32_ : K.lookup f32 = some ⟨oc32_, od32_, .func (PySem.W.fnOf "_law_fds" "_law_fds" (defArgs (top 32)) (defBody (top 32)) (defScope (top 32)) .none kV32_ dc32_ pm32_ an32_ cd32_ ct32_), sl32_⟩) (c32_ : PySem.W.codeIn K cd32_ "_law_fds" = true) (k32_ : PySem.W.keepIn K (.ref f32) = true)
    {f33 : Addr} {oc33_ kV33_ dc33_ pm33_ cd33_ ct33_ : Value} {od33_ an33_ : Option Addr} {sl33_ : Array (Option Value)} (a33_ : PySem.W.nsIn K mainGlobals "_law_closed" = some (some (.ref f33)))
    (l33_ : K.lookup f33 = some ⟨oc33_, od33_, .func (PySem.W.fnOf "_law_closed" "_law_closed" (defArgs (top 33)) (defBody (top 33)) (defScope (top 33)) .none kV33_ dc33_ pm33_ an33_ cd33_ ct33_), sl33_⟩) (c33_ : PySem.W.codeIn K cd33_ "_law_closed" = true) (k33_ : PySem.W.keepIn K (.ref f33) = true)
    {f34 : Addr} {oc34_ kV34_ dc34_ pm34_ cd34_ ct34_ : Value} {od34_ an34_ : Option Addr} {sl34_ : Array (Option Value)} (a34_ : PySem.W.nsIn K mainGlobals "_law_says" = some (some (.ref f34)))
    (l34_ : K.lookup f34 = some ⟨oc34_, od34_, .func (PySem.W.fnOf "_law_says" "_law_says" (defArgs (top 34)) (defBody (top 34)) (defScope (top 34)) .none kV34_ dc34_ pm34_ an34_ cd34_ ct34_), sl34_⟩) (c34_ : PySem.W.codeIn K cd34_ "_law_says" = true) (k34_ : PySem.W.keepIn K (.ref f34) = true)
    {f35 : Addr} {oc35_ kV35_ dc35_ pm35_ cd35_ ct35_ : Value} {od35_ an35_ : Option Addr} {sl35_ : Array (Option Value)} (a35_ : PySem.W.nsIn K mainGlobals "_law_plain" = some (some (.ref f35)))
    (l35_ : K.lookup f35 = some ⟨oc35_, od35_, .func (PySem.W.fnOf "_law_plain" "_law_plain" (defArgs (top 35)) (defBody (top 35)) (defScope (top 35)) .none kV35_ dc35_ pm35_ an35_ cd35_ ct35_), sl35_⟩) (c35_ : PySem.W.codeIn K cd35_ "_law_plain" = true) (k35_ : PySem.W.keepIn K (.ref f35) = true)
    {f36 : Addr} {oc36_ kV36_ dc36_ pm36_ cd36_ ct36_ : Value} {od36_ an36_ : Option Addr} {sl36_ : Array (Option Value)} (a36_ : PySem.W.nsIn K mainGlobals "_law_is_closed" = some (some (.ref f36)))
    (l36_ : K.lookup f36 = some ⟨oc36_, od36_, .func (PySem.W.fnOf "_law_is_closed" "_law_is_closed" (defArgs (top 36)) (defBody (top 36)) (defScope (top 36)) .none kV36_ dc36_ pm36_ an36_ cd36_ ct36_), sl36_⟩) (c36_ : PySem.W.codeIn K cd36_ "_law_is_closed" = true) (k36_ : PySem.W.keepIn K (.ref f36) = true)
    {f37 : Addr} {oc37_ kV37_ dc37_ pm37_ cd37_ ct37_ : Value} {od37_ an37_ : Option Addr} {sl37_ : Array (Option Value)} (a37_ : PySem.W.nsIn K mainGlobals "_law_is_spread" = some (some (.ref f37)))
    (l37_ : K.lookup f37 = some ⟨oc37_, od37_, .func (PySem.W.fnOf "_law_is_spread" "_law_is_spread" (defArgs (top 37)) (defBody (top 37)) (defScope (top 37)) .none kV37_ dc37_ pm37_ an37_ cd37_ ct37_), sl37_⟩) (c37_ : PySem.W.codeIn K cd37_ "_law_is_spread" = true) (k37_ : PySem.W.keepIn K (.ref f37) = true)
    {f38 : Addr} {oc38_ kV38_ dc38_ pm38_ cd38_ ct38_ : Value} {od38_ an38_ : Option Addr} {sl38_ : Array (Option Value)} (a38_ : PySem.W.nsIn K mainGlobals "_law_grouped" = some (some (.ref f38)))
    (l38_ : K.lookup f38 = some ⟨oc38_, od38_, .func (PySem.W.fnOf "_law_grouped" "_law_grouped" (defArgs (top 38)) (defBody (top 38)) (defScope (top 38)) .none kV38_ dc38_ pm38_ an38_ cd38_ ct38_), sl38_⟩) (c38_ : PySem.W.codeIn K cd38_ "_law_grouped" = true) (k38_ : PySem.W.keepIn K (.ref f38) = true)
    {f39 : Addr} {oc39_ kV39_ dc39_ pm39_ cd39_ ct39_ : Value} {od39_ an39_ : Option Addr} {sl39_ : Array (Option Value)} (a39_ : PySem.W.nsIn K mainGlobals "_law_is_tupled" = some (some (.ref f39)))
    (l39_ : K.lookup f39 = some ⟨oc39_, od39_, .func (PySem.W.fnOf "_law_is_tupled" "_law_is_tupled" (defArgs (top 39)) (defBody (top 39)) (defScope (top 39)) .none kV39_ dc39_ pm39_ an39_ cd39_ ct39_), sl39_⟩) (c39_ : PySem.W.codeIn K cd39_ "_law_is_tupled" = true) (k39_ : PySem.W.keepIn K (.ref f39) = true)
    {f40 : Addr} {oc40_ kV40_ dc40_ pm40_ cd40_ ct40_ : Value} {od40_ an40_ : Option Addr} {sl40_ : Array (Option Value)} (a40_ : PySem.W.nsIn K mainGlobals "law" = some (some (.ref f40)))
    (l40_ : K.lookup f40 = some ⟨oc40_, od40_, .func (PySem.W.fnOf "law" "law" (defArgs (top 40)) (defBody (top 40)) (defScope (top 40)) .none kV40_ dc40_ pm40_ an40_ cd40_ ct40_), sl40_⟩) (c40_ : PySem.W.codeIn K cd40_ "law" = true) (k40_ : PySem.W.keepIn K (.ref f40) = true)
    : LawAtS l w K L2.CX0 20 63 "_law_script" mg fa h := by
  have B : Bi mg := ⟨PySem.W.ns_none_of X G b_all, PySem.W.ns_none_of X G b_any, PySem.W.ns_none_of X G b_tuple, PySem.W.ns_none_of X G b_list, PySem.W.ns_none_of X G b_sorted, PySem.W.ns_none_of X G b_set, PySem.W.ns_none_of X G b_range, PySem.W.ns_none_of X G b_len, PySem.W.ns_none_of X G b_enumerate, PySem.W.ns_none_of X G b_isinstance, PySem.W.ns_none_of X G b_int, PySem.W.ns_none_of X G b_str⟩
  have cl : Cls K C := ⟨pg, hd, po, sa⟩
  have D : Fdx K mg C := ⟨cl, nL0, nR0, ⟨cl, iC1, iC2, iC3, iC4, iC5⟩, PySem.W.mg_of X G aC, ⟨fI, _, ⟨mk, aI, iI, kc⟩, fun_mk l1 c1 k1⟩, ⟨p, g, _, ⟨aP, gP, tP, rest, rP⟩, fun_mk l2 c2 k2⟩, ⟨fE, _, aE, iE, fun_mk l3 c3 k3⟩⟩
  have FA : TextFnC K mg "all_sets" (top 7) cA := ⟨fS, oc4, od4, kV4, dc4, pm4, an4, ct4, sl4, l4, c4, k4, PySem.W.mg_of X G aA⟩
  have F1 : TextFn K mg "as_set" (top 1) := text_fn X G a1_ l1_ c1_ k1_
  have F2 : TextFn K mg "united" (top 2) := text_fn X G a2_ l2_ c2_ k2_
  have F3 : TextFn K mg "met" (top 3) := text_fn X G a3_ l3_ c3_ k3_
  have F4 : TextFn K mg "less" (top 4) := text_fn X G a4_ l4_ c4_ k4_
  have F5 : TextFn K mg "is_within" (top 5) := text_fn X G a5_ l5_ c5_ k5_
  have F6 : TextFn K mg "whole" (top 6) := text_fn X G a6_ l6_ c6_ k6_
  have F12 : TextFn K mg "closed" (top 12) := text_fn X G a12_ l12_ c12_ k12_
  have F14 : TextFn K mg "says" (top 14) := text_fn X G a14_ l14_ c14_ k14_
  have F15 : TextFn K mg "smallest_left" (top 15) := text_fn X G a15_ l15_ c15_ k15_
  have F16 : TextFn K mg "reduced" (top 16) := text_fn X G a16_ l16_ c16_ k16_
  have F17 : TextFn K mg "spread_sets" (top 17) := text_fn X G a17_ l17_ c17_ k17_
  have F18 : TextFn K mg "set_between" (top 18) := text_fn X G a18_ l18_ c18_ k18_
  have F19 : TextFn K mg "fewest" (top 19) := text_fn X G a19_ l19_ c19_ k19_
  have F20 : TextFn K mg "is_closed" (top 20) := text_fn X G a20_ l20_ c20_ k20_
  have F21 : TextFn K mg "is_set" (top 21) := text_fn X G a21_ l21_ c21_ k21_
  have F22 : TextFn K mg "parts_pair" (top 22) := text_fn X G a22_ l22_ c22_ k22_
  have F23 : TextFn K mg "takes_fewest" (top 23) := text_fn X G a23_ l23_ c23_ k23_
  have F25 : TextFn K mg "_law_numbers" (top 25) := text_fn X G a25_ l25_ c25_ k25_
  have F27 : TextFn K mg "_law_sparse" (top 27) := text_fn X G a27_ l27_ c27_ k27_
  have F28 : TextFn K mg "_law_united" (top 28) := text_fn X G a28_ l28_ c28_ k28_
  have F29 : TextFn K mg "_law_met" (top 29) := text_fn X G a29_ l29_ c29_ k29_
  have F30 : TextFn K mg "_law_less" (top 30) := text_fn X G a30_ l30_ c30_ k30_
  have F31 : TextFn K mg "_law_is_within" (top 31) := text_fn X G a31_ l31_ c31_ k31_
  have F32 : TextFn K mg "_law_fds" (top 32) := text_fn X G a32_ l32_ c32_ k32_
  have F33 : TextFn K mg "_law_closed" (top 33) := text_fn X G a33_ l33_ c33_ k33_
  have F34 : TextFn K mg "_law_says" (top 34) := text_fn X G a34_ l34_ c34_ k34_
  have F35 : TextFn K mg "_law_plain" (top 35) := text_fn X G a35_ l35_ c35_ k35_
  have F36 : TextFn K mg "_law_is_closed" (top 36) := text_fn X G a36_ l36_ c36_ k36_
  have F37 : TextFn K mg "_law_is_spread" (top 37) := text_fn X G a37_ l37_ c37_ k37_
  have F38 : TextFn K mg "_law_grouped" (top 38) := text_fn X G a38_ l38_ c38_ k38_
  have F39 : TextFn K mg "_law_is_tupled" (top 39) := text_fn X G a39_ l39_ c39_ k39_
  have FL := fun_mk (st := top 40) l40_ c40_ k40_
  have efa := hfa.symm.trans (PySem.W.mg_of X G a40_)
  cases efa
  subst ePT
  refine ⟨PySem.W.fnOf "law" "law" (defArgs (top 40)) (defBody (top 40)) (defScope (top 40)) .none kV40_ dc40_ pm40_ an40_ cd40_ ct40_, [(cA, 52)], spG [(52, lamName "all_sets")] (fun _ => True) (fun ns : List Int => [rScr K ns]) (fun _ => rBl true), fun q hq => ?_, fun q hq => ?_, fun q hq => ?_, fun s u => .of_eq rfl, fun H a ns _ _ hT hs => ?_, fun base KB GB TB => FnOk.mono (j := 12) ?_ (by decide)⟩
  · rw [List.mem_singleton.mp hq]
    exact tb 52 (List.mem_singleton_self _)
  · rw [List.mem_singleton.mp hq]
    exact nP
  · rw [List.mem_singleton.mp hq]
    exact PySem.W.codeHd_of_K X hP
  · obtain ⟨F, s1, s2⟩ := scr_at hs
    refine ⟨ns, F, True.intro, s1, fun q hq => ?_, ⟨⟨a, rfl, s2⟩, True.intro⟩, fun v F' H' g hv => hv⟩
    rw [List.mem_singleton.mp hq]
    exact TabS.nil (hT (cA, 52) (List.mem_singleton_self _))
  · have tB : TabB base mg cA 52 := TB (cA, 52) (List.mem_singleton_self _)
    generalize hT : ([(52, lamName "all_sets")] : List (Addr × Str)) = T
    have hT := hT.symm
    have cA1 : cAsSet T l.prog w K mg base := c_asset F1 B
    have cU := c_united (T := T) (P := l.prog) (w := w) (base := base) F2 B cA1
    have cM := c_met (T := T) (P := l.prog) (w := w) (base := base) F3 B
    have cL := c_less (T := T) (P := l.prog) (w := w) (base := base) F4 B
    have cW := c_within (T := T) (P := l.prog) (w := w) (base := base) F5 B
    have cWh := c_whole (T := T) (P := l.prog) (w := w) (base := base) F6 B
    have mkO : MkOk T l.prog w K mg base C 2 := c_make D cA1
    have eqO : EqOk l.prog w K mg base C 3 := c_eq D B
    have cC := c_closed F12 B D cW cU
    have cS := c_says F14 D cW cC
    have cSm := c_small F15 D cW cC cL mkO
    have cR := c_reduced F16 B D cL cS cSm mkO
    have cAl := c_allsets (P := l.prog) (w := w) (base := base) FA B tB hT
    have cSp := c_spread F17 B cAl cWh cW cC
    have cB := c_between F18 cW cM
    have cF := c_fewest F19 B cSp cB mkO
    have cI := c_isclosed F20 D cW
    have cIs := c_isset (T := T) (P := l.prog) (w := w) (base := base) F21 B
    have cPp := c_parts F22 cW cI cM
    have cT := c_takes F23 B cS cIs cI cPp
    have kN := k_numbers (T := T) (P := l.prog) (w := w) (base := base) F25 B
    have kSs := k_sparse (T := T) (P := l.prog) (w := w) (base := base) F27 B
    have kU := k_united (T := T) (P := l.prog) (w := w) (base := base) F28 B
    have kM := k_met (T := T) (P := l.prog) (w := w) (base := base) F29 B
    have kL := k_less (T := T) (P := l.prog) (w := w) (base := base) F30 B
    have kW := k_within F31 B kL
    have kF := k_fds F32 B kSs
    have kC := k_closed F33 B kW kU
    have kS := k_says F34 kW kC
    have kP := k_plain (T := T) (P := l.prog) (w := w) (base := base) F35 D
    have kI := k_isclosed F36 kC
    have kSp := k_spread F37 B kI kW kM
    have kG := k_grouped F38 kU
    have kT := k_tupled (T := T) (P := l.prog) (w := w) (base := base) F39 B 3
    exact f_law FL B D kN kF mkO cF kP kS kT kSp cT eqO cR kG
end FP
open PySem PySem.W PyProof.Rows
set_option maxRecDepth 100000 in
set_option maxHeartbeats 0 in
theorem PySem.Challenge.cw_followsortable_k62_whole_fewest_holds : PySem.Challenge.rw_followsortable_k62_whole_fewest.Holds := by
  w_on; o_law; k_head; (case hw => w_witness2)
  k_fill
  refine LamX.walk_ofTs (l := PySem.Challenge.rw_followsortable_k62_whole_fewest) (n := 63) (k := 20) (x := "_law_script") (CX := fun _ => L2.CX0) rfl (by decide) rfl ⟨rfl, by decide, by decide⟩ (fun w h Y => PySem.W.km_in_of Y) ?F (fun _ _ _ _ _ h => h)
  case F =>
    intro w mg fa h Y KX G hmg
    have tb := PySem.W.km_tabs_of Y
    refine' FP.all_mk KX G hmg tb ?b_all ?b_any ?b_tuple ?b_list ?b_sorted ?b_set ?b_range ?b_len ?b_enumerate ?b_isinstance ?b_int ?b_str ?aC ?pg ?hd ?po ?sa ?mk ?kc ?nL0 ?nR0 ?iC1 ?iC2 ?iC3 ?iC4 ?iC5 ?aI ?iI ?aE ?iE ?aP ?gP ?tP ?rP ?l1 ?c1 ?k1 ?l2 ?c2 ?k2 ?l3 ?c3 ?k3 ?aA ?l4 ?c4 ?k4 ?ePT ?hP ?nP ?a1_ ?l1_ ?c1_ ?k1_ ?a2_ ?l2_ ?c2_ ?k2_ ?a3_ ?l3_ ?c3_ ?k3_ ?a4_ ?l4_ ?c4_ ?k4_ ?a5_ ?l5_ ?c5_ ?k5_ ?a6_ ?l6_ ?c6_ ?k6_ ?a12_ ?l12_ ?c12_ ?k12_ ?a14_ ?l14_ ?c14_ ?k14_ ?a15_ ?l15_ ?c15_ ?k15_ ?a16_ ?l16_ ?c16_ ?k16_ ?a17_ ?l17_ ?c17_ ?k17_ ?a18_ ?l18_ ?c18_ ?k18_ ?a19_ ?l19_ ?c19_ ?k19_ ?a20_ ?l20_ ?c20_ ?k20_ ?a21_ ?l21_ ?c21_ ?k21_ ?a22_ ?l22_ ?c22_ ?k22_ ?a23_ ?l23_ ?c23_ ?k23_ ?a25_ ?l25_ ?c25_ ?k25_ ?a27_ ?l27_ ?c27_ ?k27_ ?a28_ ?l28_ ?c28_ ?k28_ ?a29_ ?l29_ ?c29_ ?k29_ ?a30_ ?l30_ ?c30_ ?k30_ ?a31_ ?l31_ ?c31_ ?k31_ ?a32_ ?l32_ ?c32_ ?k32_ ?a33_ ?l33_ ?c33_ ?k33_ ?a34_ ?l34_ ?c34_ ?k34_ ?a35_ ?l35_ ?c35_ ?k35_ ?a36_ ?l36_ ?c36_ ?k36_ ?a37_ ?l37_ ?c37_ ?k37_ ?a38_ ?l38_ ?c38_ ?k38_ ?a39_ ?l39_ ?c39_ ?k39_ ?a40_ ?l40_ ?c40_ ?k40_
    (case b_all => k_is)
    (case b_any => k_is)
    (case b_tuple => k_is)
    (case b_list => k_is)
    (case b_sorted => k_is)
    (case b_set => k_is)
    (case b_range => k_is)
    (case b_len => k_is)
    (case b_enumerate => k_is)
    (case b_isinstance => k_is)
    (case b_int => k_is)
    (case b_str => k_is)
    (case aC => k_is)
    (case pg => k_is)
    (case hd => k_is)
    (case po => k_is)
    (case sa => k_is)
    (case mk => k_is)
    (case kc => k_is)
    (case nL0 => k_is)
    (case nR0 => k_is)
    (case iC1 => k_is)
    (case iC2 => k_is)
    (case iC3 => k_is)
    (case iC4 => k_is)
    (case iC5 => rfl)
    (case aI => k_is)
    (case iI => k_is)
    (case aE => k_is)
    (case iE => k_is)
    (case aP => k_is)
    (case gP => k_is)
    (case tP => k_is)
    (case rP => k_is)
    (case l1 => k_is)
    (case c1 => k_is)
    (case k1 => k_is)
    (case l2 => k_is)
    (case c2 => k_is)
    (case k2 => k_is)
    (case l3 => k_is)
    (case c3 => k_is)
    (case k3 => k_is)
    (case aA => k_is)
    (case l4 => k_is)
    (case c4 => k_is)
    (case k4 => k_is)
    (case ePT => rfl)
    (case hP => kernel_rfl)
    (case nP => kernel_rfl)
    (case a1_ => k_is)
    (case l1_ => k_is)
    (case c1_ => k_is)
    (case k1_ => k_is)
    (case a2_ => k_is)
    (case l2_ => k_is)
    (case c2_ => k_is)
    (case k2_ => k_is)
    (case a3_ => k_is)
    (case l3_ => k_is)
    (case c3_ => k_is)
    (case k3_ => k_is)
    (case a4_ => k_is)
    (case l4_ => k_is)
    (case c4_ => k_is)
    (case k4_ => k_is)
    (case a5_ => k_is)
    (case l5_ => k_is)
    (case c5_ => k_is)
    (case k5_ => k_is)
    (case a6_ => k_is)
    (case l6_ => k_is)
    (case c6_ => k_is)
    (case k6_ => k_is)
    (case a12_ => k_is)
    (case l12_ => k_is)
    (case c12_ => k_is)
    (case k12_ => k_is)
    (case a14_ => k_is)
    (case l14_ => k_is)
    (case c14_ => k_is)
    (case k14_ => k_is)
    (case a15_ => k_is)
    (case l15_ => k_is)
    (case c15_ => k_is)
    (case k15_ => k_is)
    (case a16_ => k_is)
    (case l16_ => k_is)
    (case c16_ => k_is)
    (case k16_ => k_is)
    (case a17_ => k_is)
    (case l17_ => k_is)
    (case c17_ => k_is)
    (case k17_ => k_is)
    (case a18_ => k_is)
    (case l18_ => k_is)
    (case c18_ => k_is)
    (case k18_ => k_is)
    (case a19_ => k_is)
    (case l19_ => k_is)
    (case c19_ => k_is)
    (case k19_ => k_is)
    (case a20_ => k_is)
    (case l20_ => k_is)
    (case c20_ => k_is)
    (case k20_ => k_is)
    (case a21_ => k_is)
    (case l21_ => k_is)
    (case c21_ => k_is)
    (case k21_ => k_is)
    (case a22_ => k_is)
    (case l22_ => k_is)
    (case c22_ => k_is)
    (case k22_ => k_is)
    (case a23_ => k_is)
    (case l23_ => k_is)
    (case c23_ => k_is)
    (case k23_ => k_is)
    (case a25_ => k_is)
    (case l25_ => k_is)
    (case c25_ => k_is)
    (case k25_ => k_is)
    (case a27_ => k_is)
    (case l27_ => k_is)
    (case c27_ => k_is)
    (case k27_ => k_is)
    (case a28_ => k_is)
    (case l28_ => k_is)
    (case c28_ => k_is)
    (case k28_ => k_is)
    (case a29_ => k_is)
    (case l29_ => k_is)
    (case c29_ => k_is)
    (case k29_ => k_is)
    (case a30_ => k_is)
    (case l30_ => k_is)
    (case c30_ => k_is)
    (case k30_ => k_is)
    (case a31_ => k_is)
    (case l31_ => k_is)
    (case c31_ => k_is)
    (case k31_ => k_is)
    (case a32_ => k_is)
    (case l32_ => k_is)
    (case c32_ => k_is)
    (case k32_ => k_is)
    (case a33_ => k_is)
    (case l33_ => k_is)
    (case c33_ => k_is)
    (case k33_ => k_is)
    (case a34_ => k_is)
    (case l34_ => k_is)
    (case c34_ => k_is)
    (case k34_ => k_is)
    (case a35_ => k_is)
    (case l35_ => k_is)
    (case c35_ => k_is)
    (case k35_ => k_is)
    (case a36_ => k_is)
    (case l36_ => k_is)
    (case c36_ => k_is)
    (case k36_ => k_is)
    (case a37_ => k_is)
    (case l37_ => k_is)
    (case c37_ => k_is)
    (case k37_ => k_is)
    (case a38_ => k_is)
    (case l38_ => k_is)
    (case c38_ => k_is)
    (case k38_ => k_is)
    (case a39_ => k_is)
    (case l39_ => k_is)
    (case c39_ => k_is)
    (case k39_ => k_is)
    (case a40_ => k_is)
    (case l40_ => k_is)
    (case c40_ => k_is)
    (case k40_ => k_is)
