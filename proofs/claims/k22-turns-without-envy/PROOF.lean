import PyProof.Rows.All
import Wide.All
import OpenK.AllK
import Wide.FinOn
import HandS.ForMost
import HandS.Wide
import HandS.TupLe
import HandS.TupAny
import HandS.SortInts
import HandS.DictTup
import HandS.Conv
import HandS.RevRange
import KE.DataCmp
import KE.SortData
import KE.DataEq
import KE.IntBitsLaws
import HandS.WideMore
import HandS.IsInst
import HandS.WideBits
import HandS.Text
import HandS.Style
import HandS.More
import HandS.SetFor
import KE.GoesMore
import HandS.Zip
import HandS.SortRule
import HandS.Defaults
import PySem.Challenge.RW_leastenvy_k22_turns_without_envy
set_option Elab.async false
set_option linter.all false
set_option maxRecDepth 100000
set_option autoImplicit false
/-! data, cells, what represents what -/
namespace Lv
open PySem PySem.Spec PyProof.Rows L2

/-- plain data. scr: the script; ref n: the n-th cell of the store -/
inductive D where
  | non | bl (b : Bool) | int (i : Int) | str (x : Str)
  | scr (xs : List Int)
  | lst (b : Bool) (xs : List D)
  | tup (xs : List D)
  | ref (n : Nat)
  | dK (b : Bool) (kvs : List (Key × D))
  | dT (b : Bool) (kvs : List (List Key × D))
deriving Inhabited
inductive Mode where
  | live | lock | fz
deriving DecidableEq, Inhabited
/-- what may change: a list, a dict -/
inductive Cell where
  | lst (m : Mode) (xs : List D)
  | dK (m : Mode) (kvs : List (Key × D))
  | dT (m : Mode) (kvs : List (List Key × D))
deriving Inhabited
structure Exn where
  cls : Str
  fs : List (Str × D)
abbrev Sto := List Cell
abbrev R (α : Type) := Option (Except (Exn × Sto) (α × Sto))
abbrev Env := List (Option D)
abbrev FE := Env → Sto → R D
abbrev FEs := Env → Sto → R (List D)

def pick (b : Bool) (B G : Hp) : Hp := match b with
  | true => B
  | false => G
section
variable (K : PySem.W.Frag) (B : Hp) (ρ : List Addr) (G : Hp)
mutual
def Rep : D → V → Prop
  | .non, v => v = .non
  | .bl b, v => v = .bl b
  | .int i, v => v = .int i
  | .str x, v => v = .str x
  | .scr xs, v => ∃ a, v = .ref a ∧ SqL K B a (xs.map V.int)
  | .lst b xs, v => ∃ a vs, v = .ref a ∧ pick b B G a = some (.lst vs) ∧ Reps xs vs
  | .tup xs, v => ∃ a vs, v = .ref a ∧ G a = some (.tup vs) ∧ Reps xs vs
  | .ref n, v => ∃ a, v = .ref a ∧ ρ[n]? = some a
  | .dK b kvs, v => ∃ a ws, v = .ref a ∧ pick b B G a = some (.dK ws) ∧ RepK kvs ws
  | .dT b kvs, v => ∃ a ws, v = .ref a ∧ pick b B G a = some (.dT ws) ∧ RepT kvs ws
def Reps : List D → List V → Prop
  | [], vs => vs = []
  | d :: ds, vs => ∃ v r, vs = v :: r ∧ Rep d v ∧ Reps ds r
def RepK : List (Key × D) → List (Key × V) → Prop
  | [], ws => ws = []
  | (k, d) :: r, ws => ∃ v s, ws = (k, v) :: s ∧ Rep d v ∧ RepK r s
def RepT : List (List Key × D) → List (List Key × V) → Prop
  | [], ws => ws = []
  | (k, d) :: r, ws => ∃ v s, ws = (k, v) :: s ∧ Rep d v ∧ RepT r s
end
end

theorem sqt_mono {K : PySem.W.Frag} {H H' : Hp} {a : Addr} {xs : List V} (e : Same H H') (h : SqT K H a xs) : SqT K H' a xs := by
  rcases h with (h | ⟨o, h⟩) | h
  · exact .inl (.inl (e _ _ h))
  · exact .inl (.inr ⟨o, e _ _ h⟩)
  · exact .inr h
theorem pick_mono {b : Bool} {B G G' : Hp} {a : Addr} {o : HO} (e : Same G G') (h : pick b B G a = some o) : pick b B G' a = some o := by
  cases b with
  | true => exact h
  | false => exact e _ _ h
theorem pre_get {α : Type} {ρ ρ' : List α} {n : Nat} {a : α} (h : ρ <+: ρ') (e : ρ[n]? = some a) : ρ'[n]? = some a := by
  obtain ⟨t, rfl⟩ := h
  have hl := (List.getElem?_eq_some_iff.mp e).1
  rw [List.getElem?_append_left hl]
  exact e
section
variable {K : PySem.W.Frag} {B : Hp} {ρ ρ' : List Addr} {G G' : Hp}
mutual
theorem Rep.mono (p : ρ <+: ρ') (e : Same G G') : ∀ (d : D) (v : V), Rep K B ρ G d v → Rep K B ρ' G' d v
  | .non, _, h => h
  | .bl _, _, h => h
  | .int _, _, h => h
  | .str _, _, h => h
  | .scr _, _, h => h
  | .lst b xs, _, ⟨a, vs, e1, e2, h⟩ => ⟨a, vs, e1, pick_mono e e2, Reps.mono p e xs vs h⟩
  | .tup xs, _, ⟨a, vs, e1, e2, h⟩ => ⟨a, vs, e1, e _ _ e2, Reps.mono p e xs vs h⟩
  | .ref n, _, ⟨a, e1, e2⟩ => ⟨a, e1, pre_get p e2⟩
  | .dK b kvs, _, ⟨a, ws, e1, e2, h⟩ => ⟨a, ws, e1, pick_mono e e2, RepK.mono p e kvs ws h⟩
  | .dT b kvs, _, ⟨a, ws, e1, e2, h⟩ => ⟨a, ws, e1, pick_mono e e2, RepT.mono p e kvs ws h⟩
theorem Reps.mono (p : ρ <+: ρ') (e : Same G G') : ∀ (ds : List D) (vs : List V), Reps K B ρ G ds vs → Reps K B ρ' G' ds vs
  | [], _, h => h
  | d :: ds, _, ⟨v, r, e1, h1, h2⟩ => ⟨v, r, e1, Rep.mono p e d v h1, Reps.mono p e ds r h2⟩
theorem RepK.mono (p : ρ <+: ρ') (e : Same G G') : ∀ (ds : List (Key × D)) (vs : List (Key × V)), RepK K B ρ G ds vs → RepK K B ρ' G' ds vs
  | [], _, h => h
  | (_, d) :: ds, _, ⟨v, r, e1, h1, h2⟩ => ⟨v, r, e1, Rep.mono p e d v h1, RepK.mono p e ds r h2⟩
theorem RepT.mono (p : ρ <+: ρ') (e : Same G G') : ∀ (ds : List (List Key × D)) (vs : List (List Key × V)), RepT K B ρ G ds vs → RepT K B ρ' G' ds vs
  | [], _, h => h
  | (_, d) :: ds, _, ⟨v, r, e1, h1, h2⟩ => ⟨v, r, e1, Rep.mono p e d v h1, RepT.mono p e ds r h2⟩
end
theorem Reps.length : ∀ {ds : List D} {vs : List V}, Reps K B ρ G ds vs → ds.length = vs.length
  | [], _, h => by cases h; rfl
  | d :: ds, _, ⟨v, r, e1, _, h⟩ => by rw [e1, List.length_cons, List.length_cons, Reps.length h]
theorem Reps.get : ∀ {ds : List D} {vs : List V} {i : Nat} {d : D}, Reps K B ρ G ds vs → ds[i]? = some d → ∃ v, vs[i]? = some v ∧ Rep K B ρ G d v
  | [], _, _, _, _, e => by simp at e
  | d :: ds, _, 0, _, ⟨v, r, e1, h1, _⟩, e => by
    simp at e
    subst e e1
    exact ⟨v, rfl, h1⟩
  | d :: ds, _, i + 1, x, ⟨v, r, e1, _, h⟩, e => by
    subst e1
    obtain ⟨u, q1, q2⟩ := Reps.get (i := i) (d := x) h (by simpa using e)
    exact ⟨u, by simpa using q1, q2⟩
theorem Reps.get' : ∀ {ds : List D} {vs : List V} {i : Nat} {v : V}, Reps K B ρ G ds vs → vs[i]? = some v → ∃ d, ds[i]? = some d ∧ Rep K B ρ G d v := fun {ds vs i v} h e => by
  have hl := (List.getElem?_eq_some_iff.mp e).1
  rw [← h.length] at hl
  obtain ⟨u, q1, q2⟩ := h.get (List.getElem?_eq_getElem hl)
  rw [e] at q1
  cases q1
  exact ⟨_, List.getElem?_eq_getElem hl, q2⟩
theorem Reps.append : ∀ {ds es : List D} {vs us : List V}, Reps K B ρ G ds vs → Reps K B ρ G es us → Reps K B ρ G (ds ++ es) (vs ++ us)
  | [], _, _, _, h, h' => by
    cases h
    exact h'
  | d :: ds, es, _, us, ⟨v, r, e1, h1, h⟩, h' => by
    subst e1
    exact ⟨v, r ++ us, rfl, h1, Reps.append h h'⟩
theorem Reps.nil : Reps K B ρ G [] [] := rfl
theorem Reps.cons {d : D} {v : V} {ds : List D} {vs : List V} (h : Rep K B ρ G d v) (t : Reps K B ρ G ds vs) : Reps K B ρ G (d :: ds) (v :: vs) := ⟨v, vs, rfl, h, t⟩
theorem Reps.one {d : D} {v : V} (h : Rep K B ρ G d v) : Reps K B ρ G [d] [v] := .cons h .nil
theorem Reps.take : ∀ {ds : List D} {vs : List V} (n : Nat), Reps K B ρ G ds vs → Reps K B ρ G (ds.take n) (vs.take n)
  | _, _, 0, _ => rfl
  | [], _, n + 1, h => by cases h; rfl
  | d :: ds, _, n + 1, ⟨v, r, e1, h1, h⟩ => by
    subst e1
    exact ⟨v, r.take n, rfl, h1, Reps.take n h⟩
theorem Reps.drop : ∀ {ds : List D} {vs : List V} (n : Nat), Reps K B ρ G ds vs → Reps K B ρ G (ds.drop n) (vs.drop n)
  | _, _, 0, h => h
  | [], _, n + 1, h => by cases h; rfl
  | d :: ds, _, n + 1, ⟨v, r, e1, _, h⟩ => by
    subst e1
    exact Reps.drop n h
theorem Reps.set : ∀ {ds : List D} {vs : List V} {d : D} {v : V} (i : Nat), Rep K B ρ G d v → Reps K B ρ G ds vs → Reps K B ρ G (ds.set i d) (vs.set i v)
  | [], _, _, _, _, _, h => by cases h; rfl
  | x :: ds, _, d, v, 0, hd, ⟨u, r, e1, _, h⟩ => by
    subst e1
    exact ⟨v, r, rfl, hd, h⟩
  | x :: ds, _, d, v, i + 1, hd, ⟨u, r, e1, h1, h⟩ => by
    subst e1
    exact ⟨u, r.set i v, rfl, h1, Reps.set i hd h⟩
theorem Reps.eraseIdx : ∀ {ds : List D} {vs : List V} (i : Nat), Reps K B ρ G ds vs → Reps K B ρ G (ds.eraseIdx i) (vs.eraseIdx i)
  | [], _, _, h => by cases h; rfl
  | x :: ds, _, 0, ⟨u, r, e1, _, h⟩ => by
    subst e1
    exact h
  | x :: ds, _, i + 1, ⟨u, r, e1, h1, h⟩ => by
    subst e1
    exact ⟨u, r.eraseIdx i, rfl, h1, Reps.eraseIdx i h⟩
theorem Reps.reverse : ∀ {ds : List D} {vs : List V}, Reps K B ρ G ds vs → Reps K B ρ G ds.reverse vs.reverse
  | [], _, h => by cases h; rfl
  | x :: ds, _, ⟨u, r, e1, h1, h⟩ => by
    subst e1
    rw [List.reverse_cons, List.reverse_cons]
    exact (Reps.reverse h).append (.one h1)
theorem Reps.replicate {d : D} {v : V} (h : Rep K B ρ G d v) : ∀ (n : Nat), Reps K B ρ G (List.replicate n d) (List.replicate n v)
  | 0 => rfl
  | n + 1 => by
    rw [List.replicate_succ, List.replicate_succ]
    exact .cons h (Reps.replicate h n)
theorem Reps.ints {xs : List Int} : Reps K B ρ G (xs.map D.int) (xs.map V.int) := by
  induction xs with
  | nil => rfl
  | cons x r ih => exact .cons rfl ih
theorem Reps.flat : ∀ {dss : List (List D)} {vss : List (List V)}, Paired (Reps K B ρ G) dss vss → Reps K B ρ G dss.flatten vss.flatten
  | _, _, .nil => rfl
  | _, _, .cons h t => by
    rw [List.flatten_cons, List.flatten_cons]
    exact h.append (Reps.flat t)
end

/-- the code's surroundings: the written part, the module's names; B: the heap ahead of the call; G0: what nobody changes, at the entry; P: what stands still now -/
structure Ct where
  K : PySem.W.Frag
  mg : Str → Option Value
  B : Hp
  G0 : Hp
  P : Hp
def CellOk (c : Ct) (ρ : List Addr) (G H : Hp) : Cell → Addr → Prop
  | .lst .fz xs, a => ∃ vs, G a = some (.lst vs) ∧ Reps c.K c.B ρ G xs vs
  | .lst _ xs, a => c.B a = none ∧ G a = none ∧ ∃ vs, H a = some (.lst vs) ∧ Reps c.K c.B ρ G xs vs
  | .dK .fz kvs, a => ∃ ws, G a = some (.dK ws) ∧ RepK c.K c.B ρ G kvs ws
  | .dK _ kvs, a => c.B a = none ∧ G a = none ∧ ∃ ws, H a = some (.dK ws) ∧ RepK c.K c.B ρ G kvs ws
  | .dT .fz kvs, a => ∃ ws, G a = some (.dT ws) ∧ RepT c.K c.B ρ G kvs ws
  | .dT _ kvs, a => c.B a = none ∧ G a = none ∧ ∃ ws, H a = some (.dT ws) ∧ RepT c.K c.B ρ G kvs ws
structure Rel (c : Ct) (ρ : List Addr) (G : Hp) (μ : Sto) (H : Hp) : Prop where
  gh : Same G H
  bh : Same c.B H
  ph : Same c.P H
  tp : ∀ a vs, H a = some (.tup vs) → G a = some (.tup vs)
  g0 : Same c.G0 G
  nw : ∀ a o, G a = some o → c.G0 a = some o ∨ c.B a = none
  gp : ∀ a o, c.P a = some o → G a = none ∧ a ∉ ρ ∧ c.B a = none
  ln : ρ.length = μ.length
  nd : ρ.Nodup
  cl : ∀ (n : Nat) (a : Addr) (x : Cell), ρ[n]? = some a → μ[n]? = some x → CellOk c ρ G H x a

theorem CellOk.mono {c : Ct} {ρ ρ' : List Addr} {G G' H H' : Hp} {a : Addr} (p : ρ <+: ρ') (e : Same G G') (hn : G a = none → c.B a = none → ∀ o, H a = some o → G' a = none ∧ H' a = some o) : ∀ {x : Cell}, CellOk c ρ G H x a → CellOk c ρ' G' H' x a
  | .lst .fz xs, ⟨vs, h1, h2⟩ => ⟨vs, e _ _ h1, h2.mono p e⟩
  | .lst .live xs, ⟨hb, h0, vs, h1, h2⟩ => ⟨hb, (hn h0 hb _ h1).1, vs, (hn h0 hb _ h1).2, h2.mono p e⟩
  | .lst .lock xs, ⟨hb, h0, vs, h1, h2⟩ => ⟨hb, (hn h0 hb _ h1).1, vs, (hn h0 hb _ h1).2, h2.mono p e⟩
  | .dK .fz xs, ⟨vs, h1, h2⟩ => ⟨vs, e _ _ h1, h2.mono p e⟩
  | .dK .live xs, ⟨hb, h0, vs, h1, h2⟩ => ⟨hb, (hn h0 hb _ h1).1, vs, (hn h0 hb _ h1).2, h2.mono p e⟩
  | .dK .lock xs, ⟨hb, h0, vs, h1, h2⟩ => ⟨hb, (hn h0 hb _ h1).1, vs, (hn h0 hb _ h1).2, h2.mono p e⟩
  | .dT .fz xs, ⟨vs, h1, h2⟩ => ⟨vs, e _ _ h1, h2.mono p e⟩
  | .dT .live xs, ⟨hb, h0, vs, h1, h2⟩ => ⟨hb, (hn h0 hb _ h1).1, vs, (hn h0 hb _ h1).2, h2.mono p e⟩
  | .dT .lock xs, ⟨hb, h0, vs, h1, h2⟩ => ⟨hb, (hn h0 hb _ h1).1, vs, (hn h0 hb _ h1).2, h2.mono p e⟩
/-- what a live or locked cell knows -/
theorem CellOk.there {c : Ct} {ρ : List Addr} {G H : Hp} {a : Addr} (e : Same G H) : ∀ {x : Cell}, CellOk c ρ G H x a → ∃ o, H a = some o
  | .lst .fz xs, ⟨vs, h1, h2⟩ => ⟨_, e _ _ h1⟩
  | .lst .live xs, ⟨hb, h0, vs, h1, h2⟩ => ⟨_, h1⟩
  | .lst .lock xs, ⟨hb, h0, vs, h1, h2⟩ => ⟨_, h1⟩
  | .dK .fz xs, ⟨vs, h1, h2⟩ => ⟨_, e _ _ h1⟩
  | .dK .live xs, ⟨hb, h0, vs, h1, h2⟩ => ⟨_, h1⟩
  | .dK .lock xs, ⟨hb, h0, vs, h1, h2⟩ => ⟨_, h1⟩
  | .dT .fz xs, ⟨vs, h1, h2⟩ => ⟨_, e _ _ h1⟩
  | .dT .live xs, ⟨hb, h0, vs, h1, h2⟩ => ⟨_, h1⟩
  | .dT .lock xs, ⟨hb, h0, vs, h1, h2⟩ => ⟨_, h1⟩

theorem same_upd {H : Hp} {p : Addr} {o : HO} (h : H p = none) : Same H (upd H p o) := fun b x e => by
  rw [upd_ne (ne_of_none e h)]
  exact e
section
variable {c : Ct} {ρ : List Addr} {G H : Hp} {μ : Sto} {p : Addr} {o : HO}
theorem Rel.none_g (r : Rel c ρ G μ H) (h : H p = none) : G p = none := r.gh.free h
theorem Rel.none_b (r : Rel c ρ G μ H) (h : H p = none) : c.B p = none := r.bh.free h
theorem Rel.none_p (r : Rel c ρ G μ H) (h : H p = none) : c.P p = none := r.ph.free h
theorem Rel.none_r (r : Rel c ρ G μ H) (h : H p = none) : p ∉ ρ := fun hm => by
  obtain ⟨n, hn, e⟩ := List.getElem_of_mem hm
  have e' : ρ[n]? = some p := by rw [List.getElem?_eq_getElem hn, e]
  have hm' : n < μ.length := by rw [← r.ln]; exact hn
  obtain ⟨o, q⟩ := (r.cl n p _ e' (List.getElem?_eq_getElem hm')).there r.gh
  rw [h] at q
  cases q
/-- a new object that nobody changes -/
theorem Rel.frozen (r : Rel c ρ G μ H) (h : H p = none) : Rel c ρ (upd G p o) μ (upd H p o) := by
  have hg := r.none_g h
  refine ⟨fun a x e => ?_, r.bh.trans (same_upd h), r.ph.trans (same_upd h), fun a vs e => ?_, r.g0.trans (same_upd hg), fun a x e => ?_, fun a x e => ?_, r.ln, r.nd, fun n a x e1 e2 => ?_⟩
  · by_cases q : a = p
    · subst q
      rw [upd_same] at e ⊢
      exact e
    · rw [upd_ne q] at e ⊢
      exact r.gh _ _ e
  · by_cases q : a = p
    · subst q
      rw [upd_same] at e ⊢
      exact e
    · rw [upd_ne q] at e ⊢
      exact r.tp _ _ e
  · by_cases q : a = p
    · subst q
      exact .inr (r.none_b h)
    · rw [upd_ne q] at e
      exact r.nw _ _ e
  · obtain ⟨q1, q2, q3⟩ := r.gp a x e
    have ne : a ≠ p := fun z => by
      subst z
      rw [r.none_p h] at e
      cases e
    exact ⟨by rw [upd_ne ne]; exact q1, q2, q3⟩
  · refine (r.cl n a x e1 e2).mono (List.prefix_refl _) (same_upd hg) fun g0 b0 o' q => ?_
    have ne : a ≠ p := ne_of_none q h
    exact ⟨by rw [upd_ne ne]; exact g0, by rw [upd_ne ne]; exact q⟩
theorem rep_upd {K : PySem.W.Frag} {B : Hp} {ρ : List Addr} {G : Hp} {xs : List D} {vs : List V} {p : Addr} (h : G p = none) (q : Reps K B ρ G xs vs) : Rep K B ρ (upd G p (.lst vs)) (.lst false xs) (.ref p) :=
  ⟨p, vs, rfl, upd_same, q.mono (List.prefix_refl _) (same_upd h)⟩
theorem rep_updT {K : PySem.W.Frag} {B : Hp} {ρ : List Addr} {G : Hp} {xs : List D} {vs : List V} {p : Addr} (h : G p = none) (q : Reps K B ρ G xs vs) : Rep K B ρ (upd G p (.tup vs)) (.tup xs) (.ref p) :=
  ⟨p, vs, rfl, upd_same, q.mono (List.prefix_refl _) (same_upd h)⟩
/-- a new cell -/
theorem Rel.cell (r : Rel c ρ G μ H) (h : H p = none) {x : Cell} (ht : ∀ vs, o ≠ .tup vs) (hx : CellOk c (ρ ++ [p]) G (upd H p o) x p) : Rel c (ρ ++ [p]) G (μ ++ [x]) (upd H p o) := by
  have hg := r.none_g h
  refine ⟨r.gh.trans (same_upd h), r.bh.trans (same_upd h), r.ph.trans (same_upd h), fun a vs e => ?_, r.g0, r.nw, fun a u e => ?_, by rw [List.length_append, List.length_append, r.ln]; rfl, ?_, fun n a y e1 e2 => ?_⟩
  · by_cases q : a = p
    · subst q
      rw [upd_same] at e
      exact absurd (Option.some.inj e) (ht vs)
    · rw [upd_ne q] at e
      exact r.tp _ _ e
  · obtain ⟨q1, q2, q3⟩ := r.gp a u e
    refine ⟨q1, fun hm => ?_, q3⟩
    rcases List.mem_append.mp hm with z | z
    · exact q2 z
    · have z' : a = p := by simpa using z
      subst z'
      rw [r.none_p h] at e
      cases e
  · refine List.nodup_append.mpr ⟨r.nd, by simp, fun a ha b hb z => ?_⟩
    have z' : b = p := by simpa using hb
    subst z' z
    exact r.none_r h ha
  · by_cases hn : n < ρ.length
    · rw [List.getElem?_append_left hn] at e1
      rw [List.getElem?_append_left (by rw [← r.ln]; exact hn)] at e2
      refine (r.cl n a y e1 e2).mono (List.prefix_append _ _) (Same.refl _) fun g0 b0 o' q => ?_
      exact ⟨g0, by rw [upd_ne (ne_of_none q h)]; exact q⟩
    · have hn' : n = ρ.length := by
        have := (List.getElem?_eq_some_iff.mp e1).1
        rw [List.length_append, List.length_singleton] at this
        omega
      subst hn'
      rw [List.getElem?_append_right (Nat.le_refl _), Nat.sub_self] at e1
      rw [List.getElem?_append_right (by rw [r.ln]; exact Nat.le_refl _), r.ln, Nat.sub_self] at e2
      cases e1
      cases e2
      exact hx
end
end Lv

set_option Elab.async false
set_option linter.all false
set_option maxRecDepth 100000
set_option autoImplicit false
/-! the judgements' readings by evaluators -/
namespace Lv
open PySem PySem.Spec PyProof.Rows L2

def vS : D → V
  | .bl b => .bl b
  | .int i => .int i
  | .str x => .str x
  | _ => .non
structure ErrOk (mg : Str → Option Value) (x : Exn) (cls : Value) (da : Option Addr) (H : Hp) : Prop where
  cls : mg x.cls = some cls
  fld : x.fs ≠ [] → ∃ d, da = some d ∧ H d = some (.xd (x.fs.map fun p => (p.1, vS p.2)))

def rb {α β : Type} (r : R α) (k : α → Sto → R β) : R β := match r with
  | none => none
  | some (.ok (a, μ)) => k a μ
  | some (.error x) => some (.error x)
def ok {α : Type} (a : α) (μ : Sto) : R α := some (.ok (a, μ))
theorem rb_ok {α β : Type} (a : α) (μ : Sto) (k : α → Sto → R β) : rb (ok a μ) k = k a μ := rfl
theorem rb_none {α β : Type} (k : α → Sto → R β) : rb (none : R α) k = none := rfl

def Fin (c : Ct) (E : XK) (ρ : List Addr) (G : Hp) {α : Type} (r : R α) (Q : α → List Addr → Hp → Sto → Hp → Prop) : Prop := match r with
  | none => False
  | some (.ok (a, μ)) => ∀ ρ' G' H', ρ <+: ρ' → Same G G' → Rel c ρ' G' μ H' → Q a ρ' G' μ H'
  | some (.error (x, μ)) => ∀ ρ' G' H' cls da, ρ <+: ρ' → Same G G' → Rel c ρ' G' μ H' → ErrOk c.mg x cls da H' → E cls da H'
section
variable {c : Ct} {E : XK} {ρ ρ' : List Addr} {G G' : Hp} {α β : Type}
theorem Fin.up {r : R α} {Q : α → List Addr → Hp → Sto → Hp → Prop} (p : ρ <+: ρ') (e : Same G G') (h : Fin c E ρ G r Q) : Fin c E ρ' G' r Q := by
  match r, h with
  | some (.ok (a, μ)), h => exact fun ρ1 G1 H1 p1 e1 => h ρ1 G1 H1 (p.trans p1) (e.trans e1)
  | some (.error (x, μ)), h => exact fun ρ1 G1 H1 cl da p1 e1 => h ρ1 G1 H1 cl da (p.trans p1) (e.trans e1)
theorem Fin.imp {r : R α} {Q Q' : α → List Addr → Hp → Sto → Hp → Prop} (h : Fin c E ρ G r Q) (q : ∀ a ρ' G' μ' H', ρ <+: ρ' → Same G G' → Rel c ρ' G' μ' H' → Q a ρ' G' μ' H' → Q' a ρ' G' μ' H') : Fin c E ρ G r Q' := by
  match r, h with
  | some (.ok (a, μ)), h => exact fun ρ1 G1 H1 p1 e1 r1 => q _ _ _ _ _ p1 e1 r1 (h ρ1 G1 H1 p1 e1 r1)
  | some (.error (x, μ)), h => exact h
theorem Fin.bind {r : R α} {k : α → Sto → R β} {Q : β → List Addr → Hp → Sto → Hp → Prop} (h : Fin c E ρ G (rb r k) Q) : Fin c E ρ G r fun a ρ' G' μ' _ => Fin c E ρ' G' (k a μ') Q := by
  match r, h with
  | some (.ok (a, μ)), h => exact fun ρ1 G1 H1 p1 e1 _ => Fin.up p1 e1 h
  | some (.error (x, μ)), h => exact h
theorem Fin.ok {a : α} {μ : Sto} {H : Hp} {Q : α → List Addr → Hp → Sto → Hp → Prop} (r : Rel c ρ G μ H) (h : Fin c E ρ G (Lv.ok a μ) Q) : Q a ρ G μ H := h ρ G H (List.prefix_refl _) (Same.refl _) r
theorem Fin.ok_at {a : α} {μ : Sto} {H' : Hp} {Q : α → List Addr → Hp → Sto → Hp → Prop} (p : ρ <+: ρ') (e : Same G G') (r : Rel c ρ' G' μ H') (h : Fin c E ρ G (Lv.ok a μ) Q) : Q a ρ' G' μ H' := h ρ' G' H' p e r
end

def EnvOk (c : Ct) (ρ : List Addr) (G : Hp) (env : Env) (σ : L2.St) : Prop := env.length = σ.length ∧ ∀ (i : Nat) (d : D), env[i]? = some (some d) → ∃ v, σ[i]? = some (some v) ∧ Rep c.K c.B ρ G d v
section
variable {c : Ct} {ρ ρ' : List Addr} {G G' : Hp} {env : Env} {σ : L2.St}
theorem EnvOk.up (p : ρ <+: ρ') (e : Same G G') (h : EnvOk c ρ G env σ) : EnvOk c ρ' G' env σ := ⟨h.1, fun i d q => let ⟨v, a, b⟩ := h.2 i d q; ⟨v, a, b.mono p e⟩⟩
theorem EnvOk.set {i : Nat} {d : D} {v : V} (h : EnvOk c ρ G env σ) (r : Rep c.K c.B ρ G d v) : EnvOk c ρ G (env.set i (some d)) (σ.set i (some v)) := by
  refine ⟨by rw [List.length_set, List.length_set]; exact h.1, fun j x q => ?_⟩
  by_cases hj : i = j
  · subst hj
    by_cases hl : i < env.length
    · rw [List.getElem?_set_self hl] at q
      cases q
      exact ⟨v, by rw [List.getElem?_set_self (by rw [← h.1]; exact hl)], r⟩
    · rw [List.getElem?_eq_none (by rw [List.length_set]; omega)] at q
      cases q
  · rw [List.getElem?_set_ne hj] at q
    obtain ⟨u, a, b⟩ := h.2 j x q
    exact ⟨u, by rw [List.getElem?_set_ne hj]; exact a, b⟩
theorem EnvOk.kill {i : Nat} (h : EnvOk c ρ G env σ) : EnvOk c ρ G (env.set i none) σ := by
  refine ⟨by rw [List.length_set]; exact h.1, fun j x q => ?_⟩
  by_cases hj : i = j
  · subst hj
    by_cases hl : i < env.length
    · rw [List.getElem?_set_self hl] at q
      cases q
    · rw [List.getElem?_eq_none (by rw [List.length_set]; omega)] at q
      cases q
  · rw [List.getElem?_set_ne hj] at q
    exact h.2 j x q
end

/-- an expression's reading by an evaluator -/
def TX (K : PySem.W.Frag) (mg : Str → Option Value) (E : XK) (f : FE) : TE := fun σ H Q => ∃ c env ρ G μ, c.K = K ∧ c.mg = mg ∧ Rel c ρ G μ H ∧ EnvOk c ρ G env σ ∧ Fin c E ρ G (f env μ) fun d ρ' G' _ H' => ∀ v, Rep K c.B ρ' G' d v → Q v H'
def TXs (K : PySem.W.Frag) (mg : Str → Option Value) (E : XK) (f : FEs) : TA := fun σ H Q => ∃ c env ρ G μ, c.K = K ∧ c.mg = mg ∧ Rel c ρ G μ H ∧ EnvOk c ρ G env σ ∧ Fin c E ρ G (f env μ) fun ds ρ' G' _ H' => ∀ vs, Reps K c.B ρ' G' ds vs → Q vs H'
/-- a test's -/
def TXb (K : PySem.W.Frag) (mg : Str → Option Value) (E : XK) (f : FE) : TT := fun σ H Q => ∃ c env ρ G μ, c.K = K ∧ c.mg = mg ∧ Rel c ρ G μ H ∧ EnvOk c ρ G env σ ∧ Fin c E ρ G (f env μ) fun d ρ' G' _ H' => ∃ b, d = .bl b ∧ Q b H'
section
variable {K : PySem.W.Frag} {mg : Str → Option Value} {E : XK} {c : Ct} {env : Env} {ρ : List Addr} {G H : Hp} {μ : Sto} {σ : L2.St}
theorem tx_use {α : Type} {fa : FE} {k : D → Sto → R α} {Q : α → List Addr → Hp → Sto → Hp → Prop} {T : VK} (hK : c.K = K) (hm : c.mg = mg) (r : Rel c ρ G μ H) (e : EnvOk c ρ G env σ) (h : Fin c E ρ G (rb (fa env μ) k) Q)
    (step : ∀ d v ρ1 G1 μ1 H1, ρ <+: ρ1 → Same G G1 → Rel c ρ1 G1 μ1 H1 → EnvOk c ρ1 G1 env σ → Rep K c.B ρ1 G1 d v → Fin c E ρ1 G1 (k d μ1) Q → T v H1) : TX K mg E fa σ H T :=
  ⟨c, env, ρ, G, μ, hK, hm, r, e, h.bind.imp fun d ρ1 G1 μ1 H1 p1 e1 r1 q v hv => step d v ρ1 G1 μ1 H1 p1 e1 r1 (e.up p1 e1) hv q⟩
theorem txs_use {α : Type} {fa : FEs} {k : List D → Sto → R α} {Q : α → List Addr → Hp → Sto → Hp → Prop} {T : List V → Hp → Prop} (hK : c.K = K) (hm : c.mg = mg) (r : Rel c ρ G μ H) (e : EnvOk c ρ G env σ) (h : Fin c E ρ G (rb (fa env μ) k) Q)
    (step : ∀ ds vs ρ1 G1 μ1 H1, ρ <+: ρ1 → Same G G1 → Rel c ρ1 G1 μ1 H1 → EnvOk c ρ1 G1 env σ → Reps K c.B ρ1 G1 ds vs → Fin c E ρ1 G1 (k ds μ1) Q → T vs H1) : TXs K mg E fa σ H T :=
  ⟨c, env, ρ, G, μ, hK, hm, r, e, h.bind.imp fun d ρ1 G1 μ1 H1 p1 e1 r1 q v hv => step d v ρ1 G1 μ1 H1 p1 e1 r1 (e.up p1 e1) hv q⟩
theorem txb_use {α : Type} {fa : FE} {k : D → Sto → R α} {Q : α → List Addr → Hp → Sto → Hp → Prop} {T : Bool → Hp → Prop} (hK : c.K = K) (hm : c.mg = mg) (r : Rel c ρ G μ H) (e : EnvOk c ρ G env σ) (h : Fin c E ρ G (rb (fa env μ) k) Q)
    (hb : ∀ d μ, k d μ ≠ none → ∃ b, d = .bl b)
    (step : ∀ b ρ1 G1 μ1 H1, ρ <+: ρ1 → Same G G1 → Rel c ρ1 G1 μ1 H1 → EnvOk c ρ1 G1 env σ → Fin c E ρ1 G1 (k (.bl b) μ1) Q → T b H1) : TXb K mg E fa σ H T :=
  ⟨c, env, ρ, G, μ, hK, hm, r, e, h.bind.imp fun d ρ1 G1 μ1 H1 p1 e1 r1 q => by
    obtain ⟨b, rfl⟩ := hb d μ1 fun z => by
      rw [z] at q
      exact q
    exact ⟨b, rfl, step b ρ1 G1 μ1 H1 p1 e1 r1 (e.up p1 e1) q⟩⟩
end
theorem PE.imp {X : Cx} {e : Expr} {t t' : TE} (h : PE X e t) (q : ∀ σ H Q, t' σ H Q → t σ H Q) : PE X e t' := ⟨fun pins s σ H Q I hw => h.run pins s σ H Q I (q σ H Q hw)⟩
theorem PT.imp {X : Cx} {e : Expr} {t t' : TT} (h : PT X e t) (q : ∀ σ H Q, t' σ H Q → t σ H Q) : PT X e t' := ⟨fun pins s σ H Q I hw => h.run pins s σ H Q I (q σ H Q hw)⟩
theorem PW.imp {X : Cx} {e : Expr} {t t' : TT} (h : PW X e t) (q : ∀ σ H Q, t' σ H Q → t σ H Q) : PW X e t' := ⟨fun wh pins s σ H Q I hw => h.run wh pins s σ H Q I (q σ H Q hw)⟩
theorem PA.imp {X : Cx} {es : List Expr} {t t' : TA} (h : PA X es t) (q : ∀ σ H Q, t' σ H Q → t σ H Q) : PA X es t' := ⟨fun pos pins s σ H Q I hw => h.run pos pins s σ H Q I (q σ H Q hw)⟩
theorem PS.imp {X : Cx} {st : Stmt} {t t' : TS} (h : PS X st t) (q : ∀ D σ H, t' D σ H → t D σ H) : PS X st t' := ⟨fun pins s σ H D I hw => h.run pins s σ H D I (q D σ H hw)⟩
theorem PSs.imp {X : Cx} {st : List Stmt} {t t' : TS} (h : PSs X st t) (q : ∀ D σ H, t' D σ H → t D σ H) : PSs X st t' := ⟨fun pins s σ H D I hw => h.run pins s σ H D I (q D σ H hw)⟩
theorem OpR.or {X : Cx} {f : Value → Value → Sem Value} {r r' : R2} (h : OpR X f r) (h' : OpR X f r') : OpR X f fun x y H Q => r x y H Q ∨ r' x y H Q := by
  intro pins s σ H x y v u Q I rx ry q
  rcases q with q | q
  · exact h pins s σ H x y v u Q I rx ry q
  · exact h' pins s σ H x y v u Q I rx ry q

/-! ### operators -/
def fBin (op : D → D → Sto → R D) (fa fb : FE) : FE := fun env μ => rb (fa env μ) fun d μ1 => rb (fb env μ1) fun e μ2 => op d e μ2
/-- an operator's rule by an operation on data -/
def OpD (K : PySem.W.Frag) (E : XK) (r : R2) (op : D → D → Sto → R D) : Prop := ∀ (c : Ct) (ρ : List Addr) (G H : Hp) (μ : Sto) (d e : D) (x y : V) (Q : VK), c.K = K → Rel c ρ G μ H → Rep K c.B ρ G d x → Rep K c.B ρ G e y →
  Fin c E ρ G (op d e μ) (fun d ρ' G' _ H' => ∀ v, Rep K c.B ρ' G' d v → Q v H') → r x y H Q
theorem tx_bin {K : PySem.W.Frag} {mg : Str → Option Value} {E : XK} {r : R2} {op : D → D → Sto → R D} {fa fb : FE} (ho : OpD K E r op) : ∀ σ H Q, TX K mg E (fBin op fa fb) σ H Q → tOp r (TX K mg E fa) (TX K mg E fb) σ H Q := by
  rintro σ H Q ⟨c, env, ρ, G, μ, hK, hm, re, eo, h⟩
  refine tx_use hK hm re eo h fun d v ρ1 G1 μ1 H1 p1 e1 r1 eo1 hv h1 => ?_
  refine tx_use hK hm r1 eo1 h1 fun e u ρ2 G2 μ2 H2 p2 e2 r2 eo2 hu h2 => ?_
  exact ho c ρ2 G2 H2 μ2 d e v u Q hK r2 (hv.mono p2 e2) hu h2
theorem tx_un {K : PySem.W.Frag} {mg : Str → Option Value} {E : XK} {r : V → Hp → VK → Prop} {op : D → Sto → R D} {fa : FE}
    (ho : ∀ (c : Ct) (ρ : List Addr) (G H : Hp) (μ : Sto) (d : D) (x : V) (Q : VK), c.K = K → Rel c ρ G μ H → Rep K c.B ρ G d x → Fin c E ρ G (op d μ) (fun d ρ' G' _ H' => ∀ v, Rep K c.B ρ' G' d v → Q v H') → r x H Q) :
    ∀ σ H Q, TX K mg E (fun env μ => rb (fa env μ) fun d μ1 => op d μ1) σ H Q → tUn r (TX K mg E fa) σ H Q := by
  rintro σ H Q ⟨c, env, ρ, G, μ, hK, hm, re, eo, h⟩
  exact tx_use hK hm re eo h fun d v ρ1 G1 μ1 H1 p1 e1 r1 eo1 hv h1 => ho c ρ1 G1 H1 μ1 d v Q hK r1 hv h1
end Lv

set_option Elab.async false
set_option linter.all false
set_option maxRecDepth 100000
set_option autoImplicit false
/-! operations on data -/
namespace Lv
open PySem PySem.Spec PyProof.Rows L2

def LIM : Nat := 1000000
def BIG : Nat := 2 ^ 4000
theorem lim_size {n : Nat} (h : n ≤ LIM) : n ≤ sizeLine := Nat.le_trans h (by decide)

/-- a new list: lv: a live cell -/
def alloc (lv : Bool) (xs : List D) (μ : Sto) : R D := match lv with
  | true => ok (.ref μ.length) (μ ++ [.lst .live xs])
  | false => ok (.lst false xs) μ
section
variable {c : Ct} {E : XK} {ρ : List Addr} {G H : Hp} {μ : Sto} {K : PySem.W.Frag}
theorem alloc_use {lv : Bool} {xs : List D} {vs : List V} {Q : VK} {p : Addr} (hK : c.K = K) (r : Rel c ρ G μ H) (hs : Reps K c.B ρ G xs vs) (hp : H p = none)
    (h : Fin c E ρ G (alloc lv xs μ) fun d ρ' G' _ H' => ∀ v, Rep K c.B ρ' G' d v → Q v H') : Q (.ref p) (upd H p (.lst vs)) := by
  subst hK
  cases lv with
  | false => exact Fin.ok_at (List.prefix_refl _) (same_upd (r.none_g hp)) (r.frozen hp) h _ (rep_upd (r.none_g hp) hs)
  | true =>
    refine Fin.ok_at (List.prefix_append _ _) (Same.refl _) (r.cell (o := .lst vs) (x := .lst .live xs) hp (fun _ z => by cases z) ⟨r.none_b hp, r.none_g hp, vs, upd_same, hs.mono (List.prefix_append _ _) (Same.refl _)⟩) h _ ⟨p, rfl, ?_⟩
    rw [List.getElem?_append_right (by rw [r.ln]; exact Nat.le_refl _), r.ln, Nat.sub_self]
    rfl
theorem tup_use {xs : List D} {vs : List V} {Q : VK} {p : Addr} (hK : c.K = K) (r : Rel c ρ G μ H) (hs : Reps K c.B ρ G xs vs) (hp : H p = none)
    (h : Fin c E ρ G (ok (D.tup xs) μ) fun d ρ' G' _ H' => ∀ v, Rep K c.B ρ' G' d v → Q v H') : Q (.ref p) (upd H p (.tup vs)) := by
  subst hK
  exact Fin.ok_at (List.prefix_refl _) (same_upd (r.none_g hp)) (r.frozen hp) h _ (rep_updT (r.none_g hp) hs)
theorem val_use {d : D} {v : V} {Q : VK} (hK : c.K = K) (r : Rel c ρ G μ H) (hv : Rep K c.B ρ G d v) (h : Fin c E ρ G (ok d μ) fun d ρ' G' _ H' => ∀ v, Rep K c.B ρ' G' d v → Q v H') : Q v H := Fin.ok r h v hv
end

/-! ### lists seen -/
/-- the items of a list that stands by itself (no script) -/
def see (μ : Sto) : D → Option (List D)
  | .lst _ xs => some xs
  | .ref n => match μ[n]? with
    | some (.lst _ xs) => some xs
    | _ => none
  | _ => none
def seeL (μ : Sto) : D → Option (List D)
  | .scr xs => some (xs.map D.int)
  | d => see μ d
section
variable {c : Ct} {ρ : List Addr} {G H : Hp} {μ : Sto}
theorem pick_h (r : Rel c ρ G μ H) {b : Bool} {a : Addr} {o : HO} (h : pick b c.B G a = some o) : H a = some o := by
  cases b with
  | true => exact r.bh _ _ h
  | false => exact r.gh _ _ h
theorem see_ok (r : Rel c ρ G μ H) {d : D} {v : V} {xs : List D} (h : see μ d = some xs) (hv : Rep c.K c.B ρ G d v) : ∃ a vs, v = .ref a ∧ H a = some (.lst vs) ∧ Reps c.K c.B ρ G xs vs := by
  cases d with
  | lst b ys =>
    cases h
    obtain ⟨a, vs, e, h1, h2⟩ := hv
    exact ⟨a, vs, e, pick_h r h1, h2⟩
  | ref n =>
    obtain ⟨a, e, h1⟩ := hv
    have hn : n < μ.length := by
      rw [← r.ln]
      exact (List.getElem?_eq_some_iff.mp h1).1
    have hc := r.cl n a _ h1 (List.getElem?_eq_getElem hn)
    unfold see at h
    simp only [List.getElem?_eq_getElem hn] at h
    generalize μ[n] = x at h hc
    cases x with
    | lst m ys =>
      cases h
      cases m with
      | fz =>
        obtain ⟨vs, q1, q2⟩ := hc
        exact ⟨a, vs, e, r.gh _ _ q1, q2⟩
      | live =>
        obtain ⟨_, _, vs, q1, q2⟩ := hc
        exact ⟨a, vs, e, q1, q2⟩
      | lock =>
        obtain ⟨_, _, vs, q1, q2⟩ := hc
        exact ⟨a, vs, e, q1, q2⟩
    | dK m kvs => cases h
    | dT m kvs => cases h
  | non => cases h
  | bl _ => cases h
  | int _ => cases h
  | str _ => cases h
  | scr _ => cases h
  | tup _ => cases h
  | dK _ _ => cases h
  | dT _ _ => cases h
theorem sql_up {K : PySem.W.Frag} {H H' : Hp} {a : Addr} {xs : List V} (e : Same H H') (h : SqL K H a xs) : SqL K H' a xs := e.seq h
theorem seeL_ok (r : Rel c ρ G μ H) {d : D} {v : V} {xs : List D} (h : seeL μ d = some xs) (hv : Rep c.K c.B ρ G d v) : ∃ a vs, v = .ref a ∧ SqL c.K H a vs ∧ Reps c.K c.B ρ G xs vs := by
  cases d with
  | scr ys =>
    cases h
    obtain ⟨a, e, h1⟩ := hv
    exact ⟨a, _, e, sql_up r.bh h1, Reps.ints⟩
  | _ =>
    obtain ⟨a, vs, e, h1, h2⟩ := see_ok (xs := xs) r (by exact h) hv
    exact ⟨a, vs, e, .inl (.inl h1), h2⟩
theorem tup_ok (r : Rel c ρ G μ H) {xs : List D} {v : V} (hv : Rep c.K c.B ρ G (.tup xs) v) : ∃ a vs, v = .ref a ∧ SqT c.K H a vs ∧ Reps c.K c.B ρ G xs vs := by
  obtain ⟨a, vs, e, h1, h2⟩ := hv
  exact ⟨a, vs, e, .inl (.inl (r.gh _ _ h1)), h2⟩
end

/-! ### data as PyData -/
def omap {α β : Type} (f : α → Option β) : List α → Option (List β)
  | [] => some []
  | x :: r => match f x, omap f r with
    | some y, some s => some (y :: s)
    | _, _ => none
theorem omap_map {α β γ : Type} {f : β → Option γ} {g : α → β} {k : α → γ} (h : ∀ x, f (g x) = some (k x)) : ∀ xs : List α, omap f (xs.map g) = some (xs.map k)
  | [] => rfl
  | x :: r => by
    show (match f (g x), omap f (r.map g) with
      | some y, some s => some (y :: s)
      | _, _ => none) = some (k x :: r.map k)
    rw [h, omap_map h r]
def py (μ : Sto) : Nat → D → Option PyData
  | _, .non => some .none
  | _, .bl b => some (.bool b)
  | _, .int i => some (.int i)
  | _, .str x => some (.str x)
  | n + 1, .lst _ xs => (omap (py μ n) xs).map .list
  | n + 1, .tup xs => (omap (py μ n) xs).map .tuple
  | n + 1, .scr xs => some (.list (xs.map .int))
  | n + 1, .ref k => match μ[k]? with
    | some (.lst _ xs) => (omap (py μ n) xs).map .list
    | _ => none
  | _, _ => none
theorem dp_ints {K : PySem.W.Frag} {H : Hp} : ∀ (xs : List Int), DpAll K H (xs.map V.int) (xs.map PyData.int)
  | [] => .nil
  | x :: r => .cons (.int x) (dp_ints r)
theorem plain_ints : ∀ (xs : List Int), PyData.plainAll (xs.map PyData.int) = true
  | [] => rfl
  | x :: r => by
    show (true && PyData.plainAll (r.map PyData.int)) = true
    rw [plain_ints r]
    rfl
theorem depth_ints : ∀ (xs : List Int), PyData.depthAll (xs.map PyData.int) = 0
  | [] => rfl
  | x :: r => by
    show max (PyData.depth (.int x)) (PyData.depthAll (r.map PyData.int)) = 0
    rw [depth_ints r]
    rfl
section
variable {c : Ct} {ρ : List Addr} {G H : Hp} {μ : Sto}
theorem dp_all {n : Nat} (ih : ∀ d v pd, py μ n d = some pd → Rep c.K c.B ρ G d v → Dp c.K H v pd ∧ pd.plain = true ∧ pd.depth ≤ n) : ∀ (xs : List D) (vs : List V) (ps : List PyData), omap (py μ n) xs = some ps → Reps c.K c.B ρ G xs vs → DpAll c.K H vs ps ∧ PyData.plainAll ps = true ∧ PyData.depthAll ps ≤ n
  | [], _, _, h, q => by
    cases h
    cases q
    exact ⟨.nil, rfl, Nat.zero_le _⟩
  | d :: xs, _, ps, h, ⟨v, r, e1, h1, h2⟩ => by
    subst e1
    unfold omap at h
    cases e : py μ n d with
    | none =>
      rw [e] at h
      cases h
    | some p =>
      cases e' : omap (py μ n) xs with
      | none =>
        rw [e, e'] at h
        cases h
      | some qs =>
        rw [e, e'] at h
        cases h
        obtain ⟨a1, a2, a3⟩ := ih d v p e h1
        obtain ⟨b1, b2, b3⟩ := dp_all ih xs r qs e' h2
        refine ⟨.cons a1 b1, ?_, ?_⟩
        · show (p.plain && PyData.plainAll qs) = true
          rw [a2, b2]
          rfl
        · show max p.depth (PyData.depthAll qs) ≤ n
          omega
theorem py_dp (re : Rel c ρ G μ H) : ∀ (n : Nat) (d : D) (v : V) (pd : PyData), py μ n d = some pd → Rep c.K c.B ρ G d v → Dp c.K H v pd ∧ pd.plain = true ∧ pd.depth ≤ n := by
  intro n
  induction n with
  | zero =>
    intro d v pd h q
    cases d with
    | non => cases h; cases q; exact ⟨.non, rfl, Nat.le_refl _⟩
    | bl _ => cases h; cases q; exact ⟨.bl _, rfl, Nat.le_refl _⟩
    | int _ => cases h; cases q; exact ⟨.int _, rfl, Nat.le_refl _⟩
    | str _ => cases h; cases q; exact ⟨.str _, rfl, Nat.le_refl _⟩
    | _ => cases h
  | succ n ih =>
    intro d v pd h q
    have fin : ∀ {xs : List D} {vs : List V} {ps : List PyData} {a : Addr}, omap (py μ n) xs = some ps → Reps c.K c.B ρ G xs vs → SqL c.K H a vs → Dp c.K H (.ref a) (.list ps) ∧ (PyData.list ps).plain = true ∧ (PyData.list ps).depth ≤ n + 1 := fun {xs vs ps a} e hr hs => by
      obtain ⟨b1, b2, b3⟩ := dp_all ih xs vs ps e hr
      exact ⟨.lst hs b1, b2, Nat.succ_le_succ b3⟩
    cases d with
    | non => cases h; cases q; exact ⟨.non, rfl, Nat.zero_le _⟩
    | bl _ => cases h; cases q; exact ⟨.bl _, rfl, Nat.zero_le _⟩
    | int _ => cases h; cases q; exact ⟨.int _, rfl, Nat.zero_le _⟩
    | str _ => cases h; cases q; exact ⟨.str _, rfl, Nat.zero_le _⟩
    | scr xs =>
      cases h
      obtain ⟨a, rfl, hs⟩ := q
      refine ⟨.lst (sql_up re.bh hs) (dp_ints xs), plain_ints xs, ?_⟩
      show PyData.depthAll (xs.map PyData.int) + 1 ≤ n + 1
      rw [depth_ints]
      omega
    | lst b xs =>
      cases e : omap (py μ n) xs with
      | none =>
        simp only [py, e] at h
        cases h
      | some ps =>
        simp only [py, e] at h
        cases h
        obtain ⟨a, vs, rfl, q1, q2⟩ := see_ok re (d := .lst b xs) rfl q
        exact fin e q2 (.inl (.inl q1))
    | tup xs =>
      cases e : omap (py μ n) xs with
      | none =>
        simp only [py, e] at h
        cases h
      | some ps =>
        simp only [py, e] at h
        cases h
        obtain ⟨a, vs, rfl, q1, q2⟩ := tup_ok re q
        obtain ⟨b1, b2, b3⟩ := dp_all ih xs vs ps e q2
        exact ⟨.tup q1 b1, b2, Nat.succ_le_succ b3⟩
    | ref k =>
      have hs : ∃ xs, see μ (.ref k) = some xs ∧ (omap (py μ n) xs).map PyData.list = some pd := by
        unfold py at h
        split at h
        · rename_i m ys e0
          exact ⟨ys, by simp only [see, e0], h⟩
        · cases h
      obtain ⟨xs, e1, e2⟩ := hs
      cases e : omap (py μ n) xs with
      | none =>
        rw [e] at e2
        cases e2
      | some ps =>
        rw [e] at e2
        cases e2
        obtain ⟨a, vs, rfl, q1, q2⟩ := see_ok re e1 q
        exact fin e q2 (.inl (.inl q1))
    | dK _ _ => cases h
    | dT _ _ => cases h
end

/-! ### comparisons of data -/
def rPy (K : PySem.W.Frag) (g : PyData → PyData → Option Bool) : R2 := fun x y H Q => ∃ d e b, Dp K H x d ∧ Dp K H y e ∧ (d.plain = true ∧ e.plain = true ∧ d.depth ≤ 20 ∧ e.depth ≤ 20) ∧ g d e = some b ∧ Q (.bl b) H
def gEq (d e : PyData) : Option Bool := some (PyData.eqv d e)
def gNe (d e : PyData) : Option Bool := some (!PyData.eqv d e)
def isNone : PyData → Bool
  | .none => true
  | _ => false
def gLt (d e : PyData) : Option Bool := if (PySem.W.alike d e && !isNone d) = true then some (PySem.W.dataLt d e) else none
def gGt (d e : PyData) : Option Bool := if (PySem.W.alike d e && !isNone d) = true then some (PySem.W.dataLt e d) else none
def gLe (d e : PyData) : Option Bool := if (PySem.W.alike d e && !isNone d) = true then some (!PySem.W.dataLt e d) else none
def gGe (d e : PyData) : Option Bool := if (PySem.W.alike d e && !isNone d) = true then some (!PySem.W.dataLt d e) else none
def gIn (d e : PyData) : Option Bool := match e with
  | .list xs => some (xs.any fun z => PyData.eqv z d)
  | .tuple xs => some (xs.any fun z => PyData.eqv z d)
  | _ => none
def gNin (d e : PyData) : Option Bool := match e with
  | .list xs => some (!xs.any fun z => PyData.eqv z d)
  | .tuple xs => some (!xs.any fun z => PyData.eqv z d)
  | _ => none
inductive Cmp where
  | eq | ne | lt | le | gt | ge | inn | nin
deriving DecidableEq
def Cmp.op : Cmp → CmpOp
  | .eq => .Eq | .ne => .NotEq | .lt => .Lt | .le => .LtE | .gt => .Gt | .ge => .GtE | .inn => .In | .nin => .NotIn
def Cmp.g : Cmp → PyData → PyData → Option Bool
  | .eq => gEq | .ne => gNe | .lt => gLt | .le => gLe | .gt => gGt | .ge => gGe | .inn => gIn | .nin => gNin
theorem ord_split {d e : PyData} {x : Bool} {b : Bool} (h : (if (PySem.W.alike d e && !isNone d) = true then some x else none) = some b) : PySem.W.alike d e = true ∧ d ≠ .none ∧ x = b := by
  by_cases q : (PySem.W.alike d e && !isNone d) = true
  · rw [if_pos q] at h
    rw [Bool.and_eq_true] at q
    refine ⟨q.1, fun z => ?_, Option.some.inj h⟩
    rw [z] at q
    exact absurd q.2 (by decide)
  · rw [if_neg q] at h
    cases h
theorem op_py {X : Cx} (hu : X.A.units + 64 < cLine) (k : Cmp) : OpR X (compareOp k.op) (rPy X.K k.g) := by
  intro pins s σ H x y v u Q I rx ry h
  obtain ⟨d, e, b, hd, he, ⟨p1, p2, q1, q2⟩, hg, q⟩ := h
  obtain ⟨as, r1⟩ := Dp.reads I d x v hd rx
  obtain ⟨bs, r2⟩ := Dp.reads I e y u he ry
  have hm : X.A.units + min d.depth e.depth < cLine := by omega
  have fin : EP X pins σ Q (.bool b) s := ⟨.bl b, H, I, rfl, q⟩
  cases k with
  | eq =>
    cases hg
    exact SeqAt.eq_plain r1 r2 p1 p2 hm fin
  | ne =>
    cases hg
    exact SeqAt.ne_plain r1 r2 p1 p2 hm fin
  | lt =>
    obtain ⟨ha, hn, e⟩ := ord_split hg
    subst e
    exact PySem.W.lt_data r1 r2 ha hn hm fin
  | le =>
    obtain ⟨ha, hn, e⟩ := ord_split hg
    subst e
    exact PySem.W.le_data r1 r2 ha hn hm fin
  | gt =>
    obtain ⟨ha, hn, e⟩ := ord_split hg
    subst e
    exact PySem.W.gt_data r1 r2 ha hn hm fin
  | ge =>
    obtain ⟨ha, hn, e⟩ := ord_split hg
    subst e
    exact PySem.W.ge_data r1 r2 ha hn hm fin
  | inn =>
    cases e with
    | list xs =>
      cases hg
      have hd' : PyData.depthAll xs + 1 ≤ 20 := q2
      exact SeqAt.in_list_data r2 r1 p2 p1 (by omega) fin
    | tuple xs =>
      cases hg
      have hd' : PyData.depthAll xs + 1 ≤ 20 := q2
      exact SeqAt.in_tuple_data r2 r1 p2 p1 (by omega) fin
    | _ => cases hg
  | nin =>
    cases e with
    | list xs =>
      cases hg
      have hd' : PyData.depthAll xs + 1 ≤ 20 := q2
      exact SeqAt.notIn_list_data r2 r1 p2 p1 (by omega) fin
    | tuple xs =>
      cases hg
      have hd' : PyData.depthAll xs + 1 ≤ 20 := q2
      exact SeqAt.notIn_tuple_data r2 r1 p2 p1 (by omega) fin
    | _ => cases hg
/-- the operation on data -/
def dCmp (k : Cmp) (d e : D) (μ : Sto) : R D := match py μ 8 d, py μ 8 e with
  | some p, some q => match k.g p q with
    | some b => ok (.bl b) μ
    | none => none
  | _, _ => none
theorem cmp_ok {K : PySem.W.Frag} {E : XK} (k : Cmp) : OpD K E (rPy K k.g) (dCmp k) := by
  intro c ρ G H μ d e x y Q hK r hx hy h
  subst hK
  unfold dCmp at h
  cases e1 : py μ 8 d with
  | none =>
    simp only [e1] at h
    exact h.elim
  | some p =>
    cases e2 : py μ 8 e with
    | none =>
      simp only [e1, e2] at h
      exact h.elim
    | some q =>
      cases e3 : k.g p q with
      | none =>
        simp only [e1, e2, e3] at h
        exact h.elim
      | some b =>
        simp only [e1, e2, e3] at h
        obtain ⟨a1, a2, a3⟩ := py_dp r 8 d x p e1 hx
        obtain ⟨b1, b2, b3⟩ := py_dp r 8 e y q e2 hy
        exact ⟨p, q, b, a1, b1, ⟨a2, b2, by omega, by omega⟩, e3, val_use (d := .bl b) (v := .bl b) rfl r rfl h⟩
end Lv

set_option Elab.async false
set_option linter.all false
set_option maxRecDepth 100000
set_option autoImplicit false
/-! arithmetic, items, slices -/
namespace Lv
open PySem PySem.Spec PyProof.Rows L2

/-! ### + -/
def dAdd (lv : Bool) (d e : D) (μ : Sto) : R D := match d, e with
  | .int i, .int j => ok (.int (i + j)) μ
  | .str x, .str y => if x.length + y.length ≤ LIM then ok (.str (x ++ y)) μ else none
  | .tup xs, .tup ys => if xs.length + ys.length ≤ LIM then ok (.tup (xs ++ ys)) μ else none
  | d, e => match see μ d, see μ e with
    | some xs, some ys => if xs.length + ys.length ≤ LIM then alloc lv (xs ++ ys) μ else none
    | _, _ => none
def rAddA (K : PySem.W.Frag) : R2 := fun x y H Q => rI0 (fun i j => .int (i + j)) x y H Q ∨ (∃ i j, x = .str i ∧ y = .str j ∧ i.length + j.length ≤ sizeLine ∧ Q (.str (i ++ j)) H) ∨ rCat x y H Q ∨ rCatA K x y H Q
theorem op_addA {X : Cx} : OpR X (binaryOp .Add) (rAddA X.K) := op_add.or (op_add_str.or (op_cat.or op_catA))
theorem fin_none {c : Ct} {E : XK} {ρ : List Addr} {G : Hp} {α : Type} {Q : α → List Addr → Hp → Sto → Hp → Prop} {P : Prop} (h : Fin c E ρ G (none : R α) Q) : P := False.elim h
theorem add_ok {K : PySem.W.Frag} {E : XK} (lv : Bool) : OpD K E (rAddA K) (dAdd lv) := by
  intro c ρ G H μ d e x y Q hK r hx hy h
  subst hK
  unfold dAdd at h
  split at h
  · cases hx
    cases hy
    exact .inl ⟨_, _, rfl, rfl, val_use (d := .int _) (v := .int _) rfl r rfl h⟩
  · cases hx
    cases hy
    split at h
    · rename_i hl
      exact .inr (.inl ⟨_, _, rfl, rfl, lim_size hl, val_use (d := .str _) (v := .str _) rfl r rfl h⟩)
    · exact fin_none h
  · rename_i xs ys
    split at h
    · rename_i hl
      obtain ⟨a, vs, rfl, h1, h2⟩ := hx
      obtain ⟨b, us, rfl, k1, k2⟩ := hy
      have q1 : SqT c.K H a vs := .inl (.inl (r.gh _ _ h1))
      have q2 : SqT c.K H b us := .inl (.inl (r.gh _ _ k1))
      have e1 := h2.length
      have e2 := k2.length
      refine .inr (.inr (.inr ⟨a, b, vs, us, rfl, rfl, q1, q2, lim_size (by omega), fun z => ?_, fun z z' => ?_, fun z z' p hp => ?_⟩))
      · subst z
        have : xs = [] := List.length_eq_zero_iff.mp e1
        subst this
        exact val_use (d := .tup ys) rfl r ⟨b, us, rfl, k1, k2⟩ h
      · subst z'
        have : ys = [] := List.length_eq_zero_iff.mp e2
        subst this
        rw [List.append_nil] at h
        exact val_use (d := .tup xs) rfl r ⟨a, vs, rfl, h1, h2⟩ h
      · exact tup_use rfl r (h2.append k2) hp h
    · exact fin_none h
  · split at h
    · rename_i xs ys e1 e2
      split at h
      · rename_i hl
        obtain ⟨a, vs, rfl, q1, h2⟩ := see_ok r e1 hx
        obtain ⟨b, us, rfl, q2, k2⟩ := see_ok r e2 hy
        have l1 := h2.length
        have l2 := k2.length
        exact .inr (.inr (.inl ⟨a, b, vs, us, rfl, rfl, q1, q2, lim_size (by omega), fun p hp => alloc_use rfl r (h2.append k2) hp h⟩))
      · exact fin_none h
    · exact fin_none h

/-! ### - * // % ** -/
def dSub (d e : D) (μ : Sto) : R D := match d, e with
  | .int i, .int j => ok (.int (i - j)) μ
  | _, _ => none
theorem sub_ok {K : PySem.W.Frag} {E : XK} : OpD K E (rI0 fun i j => .int (i - j)) dSub := by
  intro c ρ G H μ d e x y Q hK r hx hy h
  subst hK
  unfold dSub at h
  split at h
  · cases hx
    cases hy
    exact ⟨_, _, rfl, rfl, val_use (d := .int _) (v := .int _) rfl r rfl h⟩
  · exact fin_none h
def fits (i : Int) : Bool := decide (i.natAbs < BIG)
theorem fits_log {i : Int} (h : fits i = true) : i.natAbs.log2 < 4000 := by
  have h1 : i.natAbs < BIG := of_decide_eq_true h
  exact PySem.Flt.log2_lt_of (by decide) h1
theorem fits_mul {i j : Int} (h : fits i = true) (h' : fits j = true) : CMulW i j := by
  have a := fits_log h
  have b := fits_log h'
  unfold CMulW
  omega
def small (i : Int) : Bool := decide (i.natAbs < 2 ^ 64)
def mulOk (i j : Int) : Bool := (fits i && fits j) || small i || small j
theorem small_bits {i : Int} (h : small i = true) : Builtin.Int.intBits i ≤ 64 := PyProof.Rows.intBits_le (k := 64) (of_decide_eq_true h)
theorem mulOk_ok {i j : Int} (h : mulOk i j = true) : IntMulOk i j := by
  unfold mulOk at h
  rcases Bool.or_eq_true_iff.mp h with h | h
  · rcases Bool.or_eq_true_iff.mp h with h | h
    · rw [Bool.and_eq_true] at h
      exact (fits_mul h.1 h.2).ok
    · exact .of_left (small_bits h)
  · exact .of_right (small_bits h)
def dMul (lv : Bool) (d e : D) (μ : Sto) : R D := match d, e with
  | .int i, .int j => if mulOk i j = true then ok (.int (i * j)) μ else none
  | d, .int k => match see μ d with
    | some xs => if k.natAbs ≤ LIM ∧ xs.length * k.toNat ≤ LIM then alloc lv (List.replicate k.toNat xs).flatten μ else none
    | none => none
  | _, _ => none
def rMulA (K : PySem.W.Frag) : R2 := fun x y H Q => rI IntMulOk (fun i j => .int (i * j)) x y H Q ∨ rRep x y H Q
theorem op_mulI {X : Cx} : OpR X (binaryOp .Mult) (rI IntMulOk fun i j => .int (i * j)) := opI fun _ _ _ _ _ _ _ hc q => mul_int q hc
theorem op_mulA {X : Cx} : OpR X (binaryOp .Mult) (rMulA X.K) := op_mulI.or op_rep
theorem flat_rep {K : PySem.W.Frag} {B : Hp} {ρ : List Addr} {G : Hp} {xs : List D} {vs : List V} (h : Reps K B ρ G xs vs) : ∀ n : Nat, Reps K B ρ G (List.replicate n xs).flatten (List.replicate n vs).flatten
  | 0 => rfl
  | n + 1 => by
    rw [List.replicate_succ, List.replicate_succ, List.flatten_cons, List.flatten_cons]
    exact h.append (flat_rep h n)
theorem mul_ok {K : PySem.W.Frag} {E : XK} (lv : Bool) : OpD K E (rMulA K) (dMul lv) := by
  intro c ρ G H μ d e x y Q hK r hx hy h
  subst hK
  unfold dMul at h
  split at h
  · split at h
    · rename_i hf
      cases hx
      cases hy
      exact .inl ⟨_, _, rfl, rfl, mulOk_ok hf, val_use (d := .int _) (v := .int _) rfl r rfl h⟩
    · exact fin_none h
  · cases hy
    split at h
    · rename_i xs e1
      split at h
      · rename_i hl
        obtain ⟨a, vs, rfl, q1, h2⟩ := see_ok r e1 hx
        have l1 := h2.length
        have hl1 := hl.1
        have : LIM < 2 ^ 63 := by decide
        refine .inr ⟨a, _, vs, rfl, rfl, q1, ?_, ?_, lim_size (by rw [← l1]; exact hl.2), fun p hp => alloc_use rfl r (flat_rep h2 _) hp h⟩
        · omega
        · omega
      · exact fin_none h
    · exact fin_none h
  · exact fin_none h
def dDiv (d e : D) (μ : Sto) : R D := match d, e with
  | .int i, .int j => if (decide (0 < j) && fits j) = true then ok (.int (i / j)) μ else none
  | _, _ => none
theorem div_ok {K : PySem.W.Frag} {E : XK} : OpD K E (rI CDivW fun i j => .int (i / j)) dDiv := by
  intro c ρ G H μ d e x y Q hK r hx hy h
  subst hK
  unfold dDiv at h
  split at h
  · split at h
    · rename_i hf
      rw [Bool.and_eq_true] at hf
      cases hx
      cases hy
      have hg := fits_log hf.2
      exact ⟨_, _, rfl, rfl, ⟨of_decide_eq_true hf.1, by omega⟩, val_use (d := .int _) (v := .int _) rfl r rfl h⟩
    · exact fin_none h
  · exact fin_none h
def dMod (d e : D) (μ : Sto) : R D := match d, e with
  | .int i, .int j => if 0 < j then ok (.int (i % j)) μ else none
  | _, _ => none
theorem mod_ok {K : PySem.W.Frag} {E : XK} : OpD K E (rI (fun _ j => 0 < j) fun i j => .int (i % j)) dMod := by
  intro c ρ G H μ d e x y Q hK r hx hy h
  subst hK
  unfold dMod at h
  split at h
  · split at h
    · rename_i hf
      cases hx
      cases hy
      exact ⟨_, _, rfl, rfl, hf, val_use (d := .int _) (v := .int _) rfl r rfl h⟩
    · exact fin_none h
  · exact fin_none h
def CPowW (i j : Int) : Prop := 0 ≤ j ∧ j ≤ 1000 ∧ i.natAbs < BIG
theorem op_powW {X : Cx} : OpR X (binaryOp .Pow) (rI CPowW fun i j => .int (i ^ j.toNat)) := opI fun i j _ _ _ _ _ hc q => by
  obtain ⟨h1, h2, h3⟩ := hc
  have hb : Builtin.Int.intBits i ≤ 4000 := PyProof.Rows.intBits_le (k := 4000) h3
  refine pow_int h1 ?_ q
  have e1 : (Builtin.Int.intBits i : Int) ≤ 4000 := by omega
  have e2 : (Builtin.Int.intBits i : Int) * j ≤ 4000 * 1000 := Int.mul_le_mul e1 h2 h1 (by decide)
  exact Int.le_trans e2 (by decide)
def dPow (d e : D) (μ : Sto) : R D := match d, e with
  | .int i, .int j => if (decide (0 ≤ j) && decide (j ≤ 1000) && fits i) = true then ok (.int (i ^ j.toNat)) μ else none
  | _, _ => none
theorem pow_ok {K : PySem.W.Frag} {E : XK} : OpD K E (rI CPowW fun i j => .int (i ^ j.toNat)) dPow := by
  intro c ρ G H μ d e x y Q hK r hx hy h
  subst hK
  unfold dPow at h
  split at h
  · split at h
    · rename_i hf
      rw [Bool.and_eq_true, Bool.and_eq_true] at hf
      cases hx
      cases hy
      exact ⟨_, _, rfl, rfl, ⟨of_decide_eq_true hf.1.1, of_decide_eq_true hf.1.2, of_decide_eq_true hf.2⟩, val_use (d := .int _) (v := .int _) rfl r rfl h⟩
    · exact fin_none h
  · exact fin_none h
inductive Bop where
  | add | sub | mul | div | mod | pow
def Bop.op : Bop → Operator
  | .add => .Add | .sub => .Sub | .mul => .Mult | .div => .FloorDiv | .mod => .Mod | .pow => .Pow
def Bop.d (lv : Bool) : Bop → D → D → Sto → R D
  | .add => dAdd lv | .sub => dSub | .mul => dMul lv | .div => dDiv | .mod => dMod | .pow => dPow
def Bop.r (K : PySem.W.Frag) : Bop → R2
  | .add => rAddA K | .sub => rI0 fun i j => .int (i - j) | .mul => rMulA K | .div => rI CDivW fun i j => .int (i / j) | .mod => rI (fun _ j => 0 < j) fun i j => .int (i % j) | .pow => rI CPowW fun i j => .int (i ^ j.toNat)
theorem Bop.opR {X : Cx} (b : Bop) : OpR X (binaryOp b.op) (b.r X.K) := by
  cases b with
  | add => exact op_addA
  | sub => exact op_sub
  | mul => exact op_mulA
  | div => exact op_fdivW
  | mod => exact op_mod
  | pow => exact op_powW
theorem Bop.opD {K : PySem.W.Frag} {E : XK} (lv : Bool) (b : Bop) : OpD K E (b.r K) (b.d lv) := by
  cases b with
  | add => exact add_ok lv
  | sub => exact sub_ok
  | mul => exact mul_ok lv
  | div => exact div_ok
  | mod => exact mod_ok
  | pow => exact pow_ok

def dNeg (d : D) (μ : Sto) : R D := match d with
  | .int i => ok (.int (-i)) μ
  | _ => none

/-! ### items -/
def dIx (d e : D) (μ : Sto) : R D := match d, e with
  | .tup xs, .int i => match atI xs i with
    | some x => ok x μ
    | none => none
  | .str z, .int i => if z.length ≤ LIM then match atI z.cps.toList i with
    | some c => ok (.str ⟨#[c]⟩) μ
    | none => none
    else none
  | d, .int i => match seeL μ d with
    | some xs => match atI xs i with
      | some x => ok x μ
      | none => none
    | none => none
  | _, _ => none
theorem atI_rep {K : PySem.W.Frag} {B : Hp} {ρ : List Addr} {G : Hp} {xs : List D} {vs : List V} {i : Int} {x : D} (h : Reps K B ρ G xs vs) (e : atI xs i = some x) : ∃ v, atI vs i = some v ∧ Rep K B ρ G x v := by
  unfold atI at e ⊢
  rw [← h.length]
  cases q : ixN xs.length i with
  | none =>
    rw [q] at e
    cases e
  | some j =>
    rw [q] at e
    exact h.get e
theorem ix_ok {K : PySem.W.Frag} {E : XK} : OpD K E (rIx K) dIx := by
  intro c ρ G H μ d e x y Q hK r hx hy h
  subst hK
  unfold dIx at h
  split at h
  · split at h
    · rename_i w e1
      cases hy
      obtain ⟨a, vs, rfl, h1, h2⟩ := tup_ok r hx
      obtain ⟨v, q1, q2⟩ := atI_rep h2 e1
      exact .inr (.inl ⟨a, vs, _, v, rfl, rfl, h1, q1, val_use rfl r q2 h⟩)
    · exact fin_none h
  · split at h
    · rename_i hl
      split at h
      · rename_i w e1
        cases hx
        cases hy
        exact .inr (.inr ⟨_, _, w, rfl, rfl, lim_size hl, e1, val_use (d := .str _) (v := .str _) rfl r rfl h⟩)
      · exact fin_none h
    · exact fin_none h
  · split at h
    · rename_i xs e0
      split at h
      · rename_i w e1
        cases hy
        obtain ⟨a, vs, rfl, h1, h2⟩ := seeL_ok r e0 hx
        obtain ⟨v, q1, q2⟩ := atI_rep h2 e1
        exact .inl ⟨a, vs, _, v, rfl, rfl, h1, q1, val_use rfl r q2 h⟩
      · exact fin_none h
    · exact fin_none h
  · exact fin_none h

/-! ### slices -/
def cut {α : Type} (xs : List α) (lo hi : Option Int) : List α := (xs.drop (HT.sIx xs.length 0 lo)).take (HT.sIx xs.length xs.length hi - HT.sIx xs.length 0 lo)
theorem cut_rep {K : PySem.W.Frag} {B : Hp} {ρ : List Addr} {G : Hp} {xs : List D} {vs : List V} {lo hi : Option Int} (h : Reps K B ρ G xs vs) : Reps K B ρ G (cut xs lo hi) (cutV vs lo hi) := by
  unfold cut cutV
  rw [h.length]
  exact (h.drop _).take _
def fPart (f : Option FE) : Env → Sto → R (Option Int) := fun env μ => match f with
  | none => ok none μ
  | some f => rb (f env μ) fun d μ1 => match d with
    | .int i => ok (some i) μ1
    | _ => none
def dSlice (lv : Bool) (d : D) (lo hi : Option Int) (μ : Sto) : R D := match d with
  | .tup xs => ok (.tup (cut xs lo hi)) μ
  | .str z => if z.length ≤ LIM then ok (.str (cutS z lo hi)) μ else none
  | d => match seeL μ d with
    | some xs => alloc lv (cut xs lo hi) μ
    | none => none
end Lv

set_option Elab.async false
set_option linter.all false
set_option maxRecDepth 100000
set_option autoImplicit false
/-! slices; built-ins that are called -/
namespace Lv
open PySem PySem.Spec PyProof.Rows L2

def rSlice (K : PySem.W.Frag) : V → Option Int → Option Int → Hp → VK → Prop := fun x lo hi H Q => rSlL K x lo hi H Q ∨ rSlA K x lo hi H Q ∨ rSlS x lo hi H Q
theorem sl_any {X : Cx} : SlR X (rSlice X.K) := sl_list.or (sl_tupA.or sl_str)
theorem slice_ok {K : PySem.W.Frag} {E : XK} {c : Ct} {ρ : List Addr} {G H : Hp} {μ : Sto} {d : D} {x : V} {lo hi : Option Int} {Q : VK} (lv : Bool) (hK : c.K = K) (r : Rel c ρ G μ H) (hx : Rep K c.B ρ G d x)
    (h : Fin c E ρ G (dSlice lv d lo hi μ) fun d ρ' G' _ H' => ∀ v, Rep K c.B ρ' G' d v → Q v H') : rSlice K x lo hi H Q := by
  subst hK
  unfold dSlice at h
  split at h
  · rename_i xs
    obtain ⟨a, vs, rfl, h1, h2⟩ := hx
    refine .inr (.inl ⟨a, vs, rfl, (.inl (.inl (r.gh _ _ h1))), fun z => ?_, fun z p hp => ?_⟩)
    · have e : cut xs lo hi = xs := by
        unfold cut
        rw [h2.length, z.1, z.2, List.drop_zero, Nat.sub_zero, ← h2.length, List.take_length]
      rw [e] at h
      exact val_use (d := .tup xs) rfl r ⟨a, vs, rfl, h1, h2⟩ h
    · exact tup_use rfl r (cut_rep h2) hp h
  · split at h
    · rename_i hl
      cases hx
      exact .inr (.inr ⟨_, rfl, lim_size hl, val_use (d := .str _) (v := .str _) rfl r rfl h⟩)
    · exact fin_none h
  · split at h
    · rename_i xs e1
      obtain ⟨a, vs, rfl, h1, h2⟩ := seeL_ok r e1 hx
      exact .inl ⟨a, vs, rfl, h1, fun p hp => alloc_use rfl r (cut_rep h2) hp h⟩
    · exact fin_none h
def fSlice (lv : Bool) (fa : FE) (lo hi : Option FE) : FE := fun env μ => rb (fa env μ) fun d μ1 => rb (fPart lo env μ1) fun l μ2 => rb (fPart hi env μ2) fun u μ3 => dSlice lv d l u μ3
def tPartX (K : PySem.W.Frag) (mg : Str → Option Value) (E : XK) (f : Option FE) : TO := match f with
  | none => tNoPart
  | some f => tPart (TX K mg E f)
section
variable {K : PySem.W.Frag} {mg : Str → Option Value} {E : XK} {c : Ct} {env : Env} {ρ : List Addr} {G H : Hp} {μ : Sto} {σ : L2.St}
theorem part_use {α : Type} {f : Option FE} {k : Option Int → Sto → R α} {Q : α → List Addr → Hp → Sto → Hp → Prop} {T : Option Int → Hp → Prop} (hK : c.K = K) (hm : c.mg = mg) (r : Rel c ρ G μ H) (e : EnvOk c ρ G env σ) (h : Fin c E ρ G (rb (fPart f env μ) k) Q)
    (step : ∀ o ρ1 G1 μ1 H1, ρ <+: ρ1 → Same G G1 → Rel c ρ1 G1 μ1 H1 → EnvOk c ρ1 G1 env σ → Fin c E ρ1 G1 (k o μ1) Q → T o H1) : tPartX K mg E f σ H T := by
  cases f with
  | none => exact step none ρ G μ H (List.prefix_refl _) (Same.refl _) r e h
  | some f =>
    have h' : Fin c E ρ G (rb (f env μ) fun d μ1 => rb (match d with
      | .int i => ok (some i) μ1
      | _ => none) k) Q := by
      unfold fPart at h
      simp only at h
      cases q : f env μ with
      | none =>
        rw [q] at h
        exact h
      | some o =>
        rw [q] at h
        cases o with
        | error x => exact h
        | ok p => exact h
    refine tx_use hK hm r e h' fun d v ρ1 G1 μ1 H1 p1 e1 r1 eo1 hv h1 => ?_
    cases d with
    | int i =>
      cases hv
      exact ⟨i, rfl, step (some i) ρ1 G1 μ1 H1 p1 e1 r1 eo1 h1⟩
    | _ => exact fin_none h1
theorem tx_slice {fa : FE} {lo hi : Option FE} (lv : Bool) : ∀ σ H Q, TX K mg E (fSlice lv fa lo hi) σ H Q → tSl (rSlice K) (TX K mg E fa) (tPartX K mg E lo) (tPartX K mg E hi) σ H Q := by
  rintro σ H Q ⟨c, env, ρ, G, μ, hK, hm, re, eo, h⟩
  refine tx_use hK hm re eo h fun d v ρ1 G1 μ1 H1 p1 e1 r1 eo1 hv h1 => ?_
  refine part_use hK hm r1 eo1 h1 fun l ρ2 G2 μ2 H2 p2 e2 r2 eo2 h2 => ?_
  refine part_use hK hm r2 eo2 h2 fun u ρ3 G3 μ3 H3 p3 e3 r3 eo3 h3 => ?_
  exact slice_ok lv hK r3 (hv.mono (p2.trans p3) (e2.trans e3)) h3
end

/-! ### built-ins by data -/
def intsD : List D → Option (List Int)
  | [] => some []
  | .int i :: r => (intsD r).map (i :: ·)
  | _ :: _ => none
def boolsD : List D → Option (List Bool)
  | [] => some []
  | .bl i :: r => (boolsD r).map (i :: ·)
  | _ :: _ => none
theorem ints_map : ∀ xs : List Int, intsD (xs.map D.int) = some xs
  | [] => rfl
  | x :: r => by
    show (intsD (r.map D.int)).map (x :: ·) = some (x :: r)
    rw [ints_map r]
    rfl
theorem bools_map : ∀ xs : List Bool, boolsD (xs.map D.bl) = some xs
  | [] => rfl
  | x :: r => by
    show (boolsD (r.map D.bl)).map (x :: ·) = some (x :: r)
    rw [bools_map r]
    rfl
theorem ints_eq : ∀ {ds : List D} {ns : List Int}, intsD ds = some ns → ds = ns.map D.int
  | [], _, h => by cases h; rfl
  | .int i :: r, ns, h => by
    cases q : intsD r with
    | none =>
      simp only [intsD, q] at h
      cases h
    | some ms =>
      simp only [intsD, q] at h
      cases h
      rw [ints_eq q]
      rfl
  | .non :: _, _, h => by cases h
  | .bl _ :: _, _, h => by cases h
  | .str _ :: _, _, h => by cases h
  | .scr _ :: _, _, h => by cases h
  | .lst _ _ :: _, _, h => by cases h
  | .tup _ :: _, _, h => by cases h
  | .ref _ :: _, _, h => by cases h
  | .dK _ _ :: _, _, h => by cases h
  | .dT _ _ :: _, _, h => by cases h
theorem bools_eq : ∀ {ds : List D} {ns : List Bool}, boolsD ds = some ns → ds = ns.map D.bl
  | [], _, h => by cases h; rfl
  | .bl i :: r, ns, h => by
    cases q : boolsD r with
    | none =>
      simp only [boolsD, q] at h
      cases h
    | some ms =>
      simp only [boolsD, q] at h
      cases h
      rw [bools_eq q]
      rfl
  | .non :: _, _, h => by cases h
  | .int _ :: _, _, h => by cases h
  | .str _ :: _, _, h => by cases h
  | .scr _ :: _, _, h => by cases h
  | .lst _ _ :: _, _, h => by cases h
  | .tup _ :: _, _, h => by cases h
  | .ref _ :: _, _, h => by cases h
  | .dK _ _ :: _, _, h => by cases h
  | .dT _ _ :: _, _, h => by cases h
theorem rep_ints {K : PySem.W.Frag} {B : Hp} {ρ : List Addr} {G : Hp} : ∀ {ns : List Int} {vs : List V}, Reps K B ρ G (ns.map D.int) vs → vs = ns.map V.int
  | [], _, h => h
  | n :: ns, _, ⟨v, r, e, h1, h2⟩ => by
    subst e
    cases h1
    rw [rep_ints h2]
    rfl
theorem rep_bools {K : PySem.W.Frag} {B : Hp} {ρ : List Addr} {G : Hp} : ∀ {ns : List Bool} {vs : List V}, Reps K B ρ G (ns.map D.bl) vs → vs = ns.map V.bl
  | [], _, h => h
  | n :: ns, _, ⟨v, r, e, h1, h2⟩ => by
    subst e
    cases h1
    rw [rep_bools h2]
    rfl
/-- the greatest, the least -/
def imax : List Int → Int
  | [] => 0
  | [x] => x
  | x :: y :: r => max x (imax (y :: r))
def imin : List Int → Int
  | [] => 0
  | [x] => x
  | x :: y :: r => min x (imin (y :: r))
theorem imax_mem : ∀ {xs : List Int}, xs ≠ [] → imax xs ∈ xs
  | [], h => absurd rfl h
  | [x], _ => List.mem_cons_self
  | x :: y :: r, _ => by
    have ih := imax_mem (xs := y :: r) (by simp)
    show max x (imax (y :: r)) ∈ x :: y :: r
    by_cases h : x ≤ imax (y :: r)
    · rw [Int.max_eq_right h]
      exact List.mem_cons_of_mem _ ih
    · rw [Int.max_eq_left (by omega)]
      exact List.mem_cons_self
theorem imax_le : ∀ {xs : List Int} {y : Int}, y ∈ xs → y ≤ imax xs
  | [], y, h => by cases h
  | [x], y, h => by
    have : y = x := by simpa using h
    rw [this]
    exact Int.le_refl _
  | x :: z :: r, y, h => by
    show y ≤ max x (imax (z :: r))
    rcases List.mem_cons.mp h with e | h
    · rw [e]
      exact Int.le_max_left _ _
    · exact Int.le_trans (imax_le h) (Int.le_max_right _ _)
theorem imin_mem : ∀ {xs : List Int}, xs ≠ [] → imin xs ∈ xs
  | [], h => absurd rfl h
  | [x], _ => List.mem_cons_self
  | x :: y :: r, _ => by
    have ih := imin_mem (xs := y :: r) (by simp)
    show min x (imin (y :: r)) ∈ x :: y :: r
    by_cases h : x ≤ imin (y :: r)
    · rw [Int.min_eq_left h]
      exact List.mem_cons_self
    · rw [Int.min_eq_right (by omega)]
      exact List.mem_cons_of_mem _ ih
theorem imin_le : ∀ {xs : List Int} {y : Int}, y ∈ xs → imin xs ≤ y
  | [], y, h => by cases h
  | [x], y, h => by
    have : y = x := by simpa using h
    rw [this]
    exact Int.le_refl _
  | x :: z :: r, y, h => by
    show min x (imin (z :: r)) ≤ y
    rcases List.mem_cons.mp h with e | h
    · rw [e]
      exact Int.min_le_left _ _
    · exact Int.le_trans (Int.min_le_right _ _) (imin_le h)
/-- sorted by putting in -/
def put (x : Int) : List Int → List Int
  | [] => [x]
  | y :: r => if x ≤ y then x :: y :: r else y :: put x r
def isort : List Int → List Int
  | [] => []
  | x :: r => put x (isort r)
theorem put_perm (x : Int) : ∀ r : List Int, (put x r).Perm (x :: r)
  | [] => .refl _
  | y :: r => by
    unfold put
    split
    · exact .refl _
    · exact ((put_perm x r).cons y).trans (.swap x y r)
theorem isort_perm : ∀ r : List Int, (isort r).Perm r
  | [] => .refl _
  | x :: r => (put_perm x _).trans ((isort_perm r).cons x)
theorem put_sorted (x : Int) : ∀ {r : List Int}, r.Pairwise (· ≤ ·) → (put x r).Pairwise (· ≤ ·)
  | [], _ => by simp [put]
  | y :: r, h => by
    have h' := List.pairwise_cons.mp h
    unfold put
    split
    · rename_i hxy
      refine List.pairwise_cons.mpr ⟨fun z hz => ?_, h⟩
      rcases List.mem_cons.mp hz with e | hz
      · rw [e]
        exact hxy
      · exact Int.le_trans hxy (h'.1 z hz)
    · rename_i hxy
      refine List.pairwise_cons.mpr ⟨fun z hz => ?_, put_sorted x h'.2⟩
      rcases List.mem_cons.mp ((put_perm x r).mem_iff.mp hz) with e | hz
      · rw [e]
        omega
      · exact h'.1 z hz
theorem isort_sorted : ∀ r : List Int, (isort r).Pairwise (· ≤ ·)
  | [] => .nil
  | x :: r => put_sorted x (isort_sorted r)

inductive BI where
  | len | list | tuple | sum | max | min | max2 | min2 | all | any | sorted | int | divmod
def BI.val : BI → Value
  | .list => .type "list" | .tuple => .type "tuple" | .int => .type "int"
  | .len => .builtin "len" | .sum => .builtin "sum" | .max => .builtin "max" | .max2 => .builtin "max" | .min => .builtin "min" | .min2 => .builtin "min" | .all => .builtin "all" | .any => .builtin "any" | .sorted => .builtin "sorted" | .divmod => .builtin "divmod"
def BI.nm : BI → Str
  | .list => "list" | .tuple => "tuple" | .int => "int"
  | .len => "len" | .sum => "sum" | .max => "max" | .max2 => "max" | .min => "min" | .min2 => "min" | .all => "all" | .any => "any" | .sorted => "sorted" | .divmod => "divmod"
def bLen (ds : List D) (μ : Sto) : R D := match ds with
  | [.tup xs] => ok (.int (xs.length : Int)) μ
  | [.str x] => if x.length ≤ LIM then ok (.int (x.length : Int)) μ else none
  | [d] => match seeL μ d with
    | some xs => ok (.int (xs.length : Int)) μ
    | none => none
  | _ => none
def bList (lv : Bool) (ds : List D) (μ : Sto) : R D := match ds with
  | [.tup xs] => alloc lv xs μ
  | [d] => match seeL μ d with
    | some xs => alloc lv xs μ
    | none => none
  | _ => none
def bTuple (ds : List D) (μ : Sto) : R D := match ds with
  | [d] => match seeL μ d with
    | some xs => ok (.tup xs) μ
    | none => none
  | _ => none
def bInts (g : List Int → Int) (ds : List D) (μ : Sto) : R D := match ds with
  | [d] => match (seeL μ d).bind intsD with
    | some (x :: r) => ok (.int (g (x :: r))) μ
    | _ => none
  | _ => none
def bSum (ds : List D) (μ : Sto) : R D := match ds with
  | [d] => match (seeL μ d).bind intsD with
    | some xs => ok (.int xs.sum) μ
    | none => none
  | _ => none
def bBools (g : List Bool → Bool) (ds : List D) (μ : Sto) : R D := match ds with
  | [d] => match (seeL μ d).bind boolsD with
    | some xs => ok (.bl (g xs)) μ
    | none => none
  | _ => none
def bSorted (lv : Bool) (ds : List D) (μ : Sto) : R D := match ds with
  | [d] => match (seeL μ d).bind intsD with
    | some xs => alloc lv ((isort xs).map D.int) μ
    | none => none
  | _ => none
def bTwo (g : Int → Int → Int) (ds : List D) (μ : Sto) : R D := match ds with
  | [.int i, .int j] => ok (.int (g i j)) μ
  | _ => none
def bInt (ds : List D) (μ : Sto) : R D := match ds with
  | [.int i] => ok (.int i) μ
  | [.bl b] => ok (.int (if b then 1 else 0)) μ
  | _ => none
def bDivmod (ds : List D) (μ : Sto) : R D := match ds with
  | [.int i, .int j] => if (decide (0 < j) && fits i && fits j) = true then ok (.tup [.int (i / j), .int (i % j)]) μ else none
  | _ => none
def BI.d (lv : Bool) : BI → List D → Sto → R D
  | .len => bLen | .list => bList lv | .tuple => bTuple | .sum => bSum | .max => bInts imax | .min => bInts imin | .max2 => bTwo fun i j => if j > i then j else i | .min2 => bTwo fun i j => if j < i then j else i
  | .all => bBools (·.all id) | .any => bBools (·.any id) | .sorted => bSorted lv | .int => bInt | .divmod => bDivmod
def BI.r (K : PySem.W.Frag) : BI → List V → Hp → VK → Prop
  | .len => fun xs H Q => (∃ p ys, xs = [.ref p] ∧ (SqL K H p ys ∨ SqT K H p ys) ∧ Q (.int ys.length) H) ∨ ∃ z, xs = [.str z] ∧ z.length ≤ sizeLine ∧ Q (.int z.length) H
  | .list => fun xs H Q => ∃ p ys, xs = [.ref p] ∧ (SqL K H p ys ∨ SqT K H p ys) ∧ ∀ l, H l = none → Q (.ref l) (upd H l (.lst ys))
  | .tuple => fun xs H Q => ∃ p ys, xs = [.ref p] ∧ ((SqL K H p ys ∧ ∀ l, H l = none → Q (.ref l) (upd H l (.tup ys))) ∨ (SqT K H p ys ∧ Q (.ref p) H))
  | .sum => rSum K | .max => rMax K | .min => rMin K
  | .max2 => fun xs H Q => ∃ i j, xs = [.int i, .int j] ∧ Q (.int (if j > i then j else i)) H
  | .min2 => fun xs H Q => ∃ i j, xs = [.int i, .int j] ∧ Q (.int (if j < i then j else i)) H
  | .all => rAll K | .any => rAny K | .sorted => rSortedI K
  | .int => fun xs H Q => (∃ i, xs = [.int i] ∧ Q (.int i) H) ∨ ∃ k, xs = [.bl k] ∧ Q (.int (if k then 1 else 0)) H
  | .divmod => fun xs H Q => ∃ i j, xs = [.int i, .int j] ∧ CDivP i j ∧ ∀ p, H p = none → Q (.ref p) (upd H p (.tup [.int (i / j), .int (i % j)]))
theorem BI.callR {X : Cx} (hc : X.calm = true) (b : BI) : CallR X b.val (b.r X.K) := by
  cases b with
  | len => exact CallR.or call_len_seq call_len_str
  | list => exact call_list_of
  | tuple => exact call_tuple_of
  | sum => exact cr_sum hc
  | max => exact cr_max hc
  | min => exact cr_min hc
  | max2 => exact call_max2 hc
  | min2 => exact call_min2 hc
  | all => exact cr_all hc
  | any => exact cr_any hc
  | sorted => exact cr_sortedI
  | int => exact call_int1
  | divmod => exact call_divmodW
/-- a call's rule by an operation on data -/
def CbD (K : PySem.W.Frag) (E : XK) (r : List V → Hp → VK → Prop) (op : List D → Sto → R D) : Prop := ∀ (c : Ct) (ρ : List Addr) (G H : Hp) (μ : Sto) (ds : List D) (vs : List V) (Q : VK), c.K = K → Rel c ρ G μ H → Reps K c.B ρ G ds vs →
  Fin c E ρ G (op ds μ) (fun d ρ' G' _ H' => ∀ v, Rep K c.B ρ' G' d v → Q v H') → r vs H Q
theorem bind_ints {μ : Sto} {d : D} {ns : List Int} (h : (seeL μ d).bind intsD = some ns) : seeL μ d = some (ns.map D.int) := by
  cases e : seeL μ d with
  | none =>
    rw [e] at h
    cases h
  | some xs =>
    rw [e] at h
    rw [ints_eq h]
theorem bind_bools {μ : Sto} {d : D} {ns : List Bool} (h : (seeL μ d).bind boolsD = some ns) : seeL μ d = some (ns.map D.bl) := by
  cases e : seeL μ d with
  | none =>
    rw [e] at h
    cases h
  | some xs =>
    rw [e] at h
    rw [bools_eq h]
theorem reps1 {K : PySem.W.Frag} {B : Hp} {ρ : List Addr} {G : Hp} {d : D} {vs : List V} (h : Reps K B ρ G [d] vs) : ∃ v, vs = [v] ∧ Rep K B ρ G d v := by
  obtain ⟨v, r, e, h1, h2⟩ := h
  cases h2
  exact ⟨v, e, h1⟩
theorem reps2 {K : PySem.W.Frag} {B : Hp} {ρ : List Addr} {G : Hp} {d e : D} {vs : List V} (h : Reps K B ρ G [d, e] vs) : ∃ v u, vs = [v, u] ∧ Rep K B ρ G d v ∧ Rep K B ρ G e u := by
  obtain ⟨v, r, q, h1, h2⟩ := h
  obtain ⟨u, rfl, h3⟩ := reps1 h2
  exact ⟨v, u, q, h1, h3⟩
theorem BI.ok {K : PySem.W.Frag} {E : XK} (lv : Bool) (b : BI) : CbD K E (b.r K) (b.d lv) := by
  intro c ρ G H μ ds vs Q hK r hs h
  subst hK
  have onInts : ∀ {d : D} {ns : List Int} {v : V}, (seeL μ d).bind intsD = some ns → Rep c.K c.B ρ G d v → ∃ a, v = .ref a ∧ SqL c.K H a (ns.map V.int) := fun {d ns v} e hv => by
    obtain ⟨a, us, rfl, h1, h2⟩ := seeL_ok r (bind_ints e) hv
    rw [rep_ints h2] at h1
    exact ⟨a, rfl, h1⟩
  cases b with
  | len =>
    replace h : Fin c E ρ G ((bLen) ds μ) (fun d ρ' G' _ H' => ∀ v, Rep c.K c.B ρ' G' d v → Q v H') := h
    unfold bLen at h
    split at h
    · obtain ⟨v, rfl, hv⟩ := reps1 hs
      obtain ⟨a, us, rfl, h1, h2⟩ := tup_ok r hv
      refine .inl ⟨a, us, rfl, .inr h1, ?_⟩
      rw [← h2.length]
      exact val_use (d := .int _) (v := .int _) rfl r rfl h
    · split at h
      · rename_i hl
        obtain ⟨v, rfl, hv⟩ := reps1 hs
        cases hv
        exact .inr ⟨_, rfl, lim_size hl, val_use (d := .int _) (v := .int _) rfl r rfl h⟩
      · exact fin_none h
    · split at h
      · rename_i xs e1
        obtain ⟨v, rfl, hv⟩ := reps1 hs
        obtain ⟨a, us, rfl, h1, h2⟩ := seeL_ok r e1 hv
        refine .inl ⟨a, us, rfl, .inl h1, ?_⟩
        rw [← h2.length]
        exact val_use (d := .int _) (v := .int _) rfl r rfl h
      · exact fin_none h
    · exact fin_none h
  | list =>
    replace h : Fin c E ρ G ((bList lv) ds μ) (fun d ρ' G' _ H' => ∀ v, Rep c.K c.B ρ' G' d v → Q v H') := h
    unfold bList at h
    split at h
    · obtain ⟨v, rfl, hv⟩ := reps1 hs
      obtain ⟨a, us, rfl, h1, h2⟩ := tup_ok r hv
      exact ⟨a, us, rfl, .inr h1, fun p hp => alloc_use rfl r h2 hp h⟩
    · split at h
      · rename_i xs e1
        obtain ⟨v, rfl, hv⟩ := reps1 hs
        obtain ⟨a, us, rfl, h1, h2⟩ := seeL_ok r e1 hv
        exact ⟨a, us, rfl, .inl h1, fun p hp => alloc_use rfl r h2 hp h⟩
      · exact fin_none h
    · exact fin_none h
  | tuple =>
    replace h : Fin c E ρ G ((bTuple) ds μ) (fun d ρ' G' _ H' => ∀ v, Rep c.K c.B ρ' G' d v → Q v H') := h
    unfold bTuple at h
    split at h
    · split at h
      · rename_i xs e1
        obtain ⟨v, rfl, hv⟩ := reps1 hs
        obtain ⟨a, us, rfl, h1, h2⟩ := seeL_ok r e1 hv
        exact ⟨a, us, rfl, .inl ⟨h1, fun p hp => tup_use rfl r h2 hp h⟩⟩
      · exact fin_none h
    · exact fin_none h
  | sum =>
    replace h : Fin c E ρ G ((bSum) ds μ) (fun d ρ' G' _ H' => ∀ v, Rep c.K c.B ρ' G' d v → Q v H') := h
    unfold bSum at h
    split at h
    · split at h
      · rename_i xs e1
        obtain ⟨v, rfl, hv⟩ := reps1 hs
        obtain ⟨a, rfl, h1⟩ := onInts e1 hv
        exact ⟨a, xs, rfl, h1, val_use (d := .int _) (v := .int _) rfl r rfl h⟩
      · exact fin_none h
    · exact fin_none h
  | max =>
    replace h : Fin c E ρ G ((bInts imax) ds μ) (fun d ρ' G' _ H' => ∀ v, Rep c.K c.B ρ' G' d v → Q v H') := h
    unfold bInts at h
    split at h
    · split at h
      · rename_i x xs e1
        obtain ⟨v, rfl, hv⟩ := reps1 hs
        obtain ⟨a, rfl, h1⟩ := onInts e1 hv
        refine ⟨a, _, rfl, h1, Nat.succ_pos _, fun m hm hle => ?_⟩
        have e : m = imax (x :: xs) := Int.le_antisymm (imax_le hm) (hle _ (imax_mem (by simp)))
        rw [e]
        exact val_use (d := .int _) (v := .int _) rfl r rfl h
      · exact fin_none h
    · exact fin_none h
  | min =>
    replace h : Fin c E ρ G ((bInts imin) ds μ) (fun d ρ' G' _ H' => ∀ v, Rep c.K c.B ρ' G' d v → Q v H') := h
    unfold bInts at h
    split at h
    · split at h
      · rename_i x xs e1
        obtain ⟨v, rfl, hv⟩ := reps1 hs
        obtain ⟨a, rfl, h1⟩ := onInts e1 hv
        refine ⟨a, _, rfl, h1, Nat.succ_pos _, fun m hm hle => ?_⟩
        have e : m = imin (x :: xs) := Int.le_antisymm (hle _ (imin_mem (by simp))) (imin_le hm)
        rw [e]
        exact val_use (d := .int _) (v := .int _) rfl r rfl h
      · exact fin_none h
    · exact fin_none h
  | max2 =>
    replace h : Fin c E ρ G ((bTwo (fun i j => if j > i then j else i)) ds μ) (fun d ρ' G' _ H' => ∀ v, Rep c.K c.B ρ' G' d v → Q v H') := h
    unfold bTwo at h
    split at h
    · obtain ⟨v, u, rfl, hv, hu⟩ := reps2 hs
      cases hv
      cases hu
      exact ⟨_, _, rfl, val_use (d := .int _) (v := .int _) rfl r rfl h⟩
    · exact fin_none h
  | min2 =>
    replace h : Fin c E ρ G ((bTwo (fun i j => if j < i then j else i)) ds μ) (fun d ρ' G' _ H' => ∀ v, Rep c.K c.B ρ' G' d v → Q v H') := h
    unfold bTwo at h
    split at h
    · obtain ⟨v, u, rfl, hv, hu⟩ := reps2 hs
      cases hv
      cases hu
      exact ⟨_, _, rfl, val_use (d := .int _) (v := .int _) rfl r rfl h⟩
    · exact fin_none h
  | all =>
    replace h : Fin c E ρ G ((bBools (·.all id)) ds μ) (fun d ρ' G' _ H' => ∀ v, Rep c.K c.B ρ' G' d v → Q v H') := h
    unfold bBools at h
    split at h
    · split at h
      · rename_i xs e1
        obtain ⟨v, rfl, hv⟩ := reps1 hs
        obtain ⟨a, us, rfl, h1, h2⟩ := seeL_ok r (bind_bools e1) hv
        rw [rep_bools h2] at h1
        exact ⟨a, xs, rfl, h1, val_use (d := .bl _) (v := .bl _) rfl r rfl h⟩
      · exact fin_none h
    · exact fin_none h
  | any =>
    replace h : Fin c E ρ G ((bBools (·.any id)) ds μ) (fun d ρ' G' _ H' => ∀ v, Rep c.K c.B ρ' G' d v → Q v H') := h
    unfold bBools at h
    split at h
    · split at h
      · rename_i xs e1
        obtain ⟨v, rfl, hv⟩ := reps1 hs
        obtain ⟨a, us, rfl, h1, h2⟩ := seeL_ok r (bind_bools e1) hv
        rw [rep_bools h2] at h1
        exact ⟨a, xs, rfl, h1, val_use (d := .bl _) (v := .bl _) rfl r rfl h⟩
      · exact fin_none h
    · exact fin_none h
  | sorted =>
    replace h : Fin c E ρ G ((bSorted lv) ds μ) (fun d ρ' G' _ H' => ∀ v, Rep c.K c.B ρ' G' d v → Q v H') := h
    unfold bSorted at h
    split at h
    · split at h
      · rename_i xs e1
        obtain ⟨v, rfl, hv⟩ := reps1 hs
        obtain ⟨a, rfl, h1⟩ := onInts e1 hv
        refine ⟨a, xs, rfl, h1, fun ns p hp ho hn => ?_⟩
        have e : ns = isort xs := PySem.W.ksm_same (hp.trans (isort_perm xs).symm) ho (isort_sorted xs)
        rw [e]
        exact alloc_use rfl r Reps.ints hn h
      · exact fin_none h
    · exact fin_none h
  | int =>
    replace h : Fin c E ρ G ((bInt) ds μ) (fun d ρ' G' _ H' => ∀ v, Rep c.K c.B ρ' G' d v → Q v H') := h
    unfold bInt at h
    split at h
    · obtain ⟨v, rfl, hv⟩ := reps1 hs
      cases hv
      exact .inl ⟨_, rfl, val_use (d := .int _) (v := .int _) rfl r rfl h⟩
    · obtain ⟨v, rfl, hv⟩ := reps1 hs
      cases hv
      exact .inr ⟨_, rfl, val_use (d := .int _) (v := .int _) rfl r rfl h⟩
    · exact fin_none h
  | divmod =>
    replace h : Fin c E ρ G ((bDivmod) ds μ) (fun d ρ' G' _ H' => ∀ v, Rep c.K c.B ρ' G' d v → Q v H') := h
    unfold bDivmod at h
    split at h
    · split at h
      · rename_i i j hf
        rw [Bool.and_eq_true, Bool.and_eq_true] at hf
        obtain ⟨v, u, rfl, hv, hu⟩ := reps2 hs
        cases hv
        cases hu
        refine ⟨_, _, rfl, divp_ok (of_decide_eq_true hf.1.1) ?_, fun p hp => tup_use (xs := [.int (i / j), .int (i % j)]) rfl r ⟨_, _, rfl, rfl, _, _, rfl, rfl, rfl⟩ hp h⟩
        have b1 : Builtin.Int.intBits i ≤ i.natAbs.log2 + 1 := by
          unfold Builtin.Int.intBits
          split <;> omega
        have b2 := fits_log hf.1.2
        have b3 : 0 < Builtin.Int.intBits j := by
          have h0 : ¬ (j == 0) = true := by
            have := of_decide_eq_true hf.1.1
            simp
            omega
          unfold Builtin.Int.intBits
          rw [if_neg h0]
          omega
        omega
      · exact fin_none h
    · exact fin_none h
theorem tx_cb {K : PySem.W.Frag} {mg : Str → Option Value} {E : XK} {r : List V → Hp → VK → Prop} {op : List D → Sto → R D} {fs : FEs} (ho : CbD K E r op) : ∀ σ H Q, TX K mg E (fun env μ => rb (fs env μ) op) σ H Q → tCB r (TXs K mg E fs) σ H Q := by
  rintro σ H Q ⟨c, env, ρ, G, μ, hK, hm, re, eo, h⟩
  exact txs_use hK hm re eo h fun ds vs ρ1 G1 μ1 H1 p1 e1 r1 eo1 hv h1 => ho c ρ1 G1 H1 μ1 ds vs Q hK r1 hv h1
end Lv

set_option Elab.async false
set_option linter.all false
set_option maxRecDepth 100000
set_option autoImplicit false
/-! calls of the text's own defs, displays, logic, isinstance -/
namespace Lv
open PySem PySem.Spec PyProof.Rows L2

/-! ### data that holds nothing of the caller's, data lent -/
mutual
def D.clean : D → Bool
  | .lst b xs => !b && D.cleans xs
  | .tup xs => D.cleans xs
  | .ref _ => false
  | .scr _ => false
  | .dK b kvs => !b && D.cleanK kvs
  | .dT b kvs => !b && D.cleanT kvs
  | _ => true
def D.cleans : List D → Bool
  | [] => true
  | x :: r => x.clean && D.cleans r
def D.cleanK : List (Key × D) → Bool
  | [] => true
  | (_, x) :: r => x.clean && D.cleanK r
def D.cleanT : List (List Key × D) → Bool
  | [] => true
  | (_, x) :: r => x.clean && D.cleanT r
end
section
variable {K : PySem.W.Frag} {B B' : Hp} {ρ ρ' : List Addr} {G : Hp}
mutual
theorem Rep.clean : ∀ (d : D) (v : V), d.clean = true → Rep K B ρ G d v → Rep K B' ρ' G d v
  | .non, _, _, h => h
  | .bl _, _, _, h => h
  | .int _, _, _, h => h
  | .str _, _, _, h => h
  | .scr _, _, c, _ => nomatch c
  | .ref _, _, c, _ => nomatch c
  | .lst b xs, _, c, ⟨a, vs, e1, e2, h⟩ => by
    have c' : (!b && D.cleans xs) = true := c
    rw [Bool.and_eq_true] at c'
    cases b with
    | true => exact absurd c'.1 (by decide)
    | false => exact ⟨a, vs, e1, e2, Reps.clean xs vs c'.2 h⟩
  | .tup xs, _, c, ⟨a, vs, e1, e2, h⟩ => ⟨a, vs, e1, e2, Reps.clean xs vs c h⟩
  | .dK b kvs, _, c, ⟨a, ws, e1, e2, h⟩ => by
    have c' : (!b && D.cleanK kvs) = true := c
    rw [Bool.and_eq_true] at c'
    cases b with
    | true => exact absurd c'.1 (by decide)
    | false => exact ⟨a, ws, e1, e2, RepK.clean kvs ws c'.2 h⟩
  | .dT b kvs, _, c, ⟨a, ws, e1, e2, h⟩ => by
    have c' : (!b && D.cleanT kvs) = true := c
    rw [Bool.and_eq_true] at c'
    cases b with
    | true => exact absurd c'.1 (by decide)
    | false => exact ⟨a, ws, e1, e2, RepT.clean kvs ws c'.2 h⟩
theorem Reps.clean : ∀ (ds : List D) (vs : List V), D.cleans ds = true → Reps K B ρ G ds vs → Reps K B' ρ' G ds vs
  | [], _, _, h => h
  | d :: ds, _, c, ⟨v, r, e1, h1, h2⟩ => by
    have c' : (d.clean && D.cleans ds) = true := c
    rw [Bool.and_eq_true] at c'
    exact ⟨v, r, e1, Rep.clean d v c'.1 h1, Reps.clean ds r c'.2 h2⟩
theorem RepK.clean : ∀ (ds : List (Key × D)) (vs : List (Key × V)), D.cleanK ds = true → RepK K B ρ G ds vs → RepK K B' ρ' G ds vs
  | [], _, _, h => h
  | (_, d) :: ds, _, c, ⟨v, r, e1, h1, h2⟩ => by
    have c' : (d.clean && D.cleanK ds) = true := c
    rw [Bool.and_eq_true] at c'
    exact ⟨v, r, e1, Rep.clean d v c'.1 h1, RepK.clean ds r c'.2 h2⟩
theorem RepT.clean : ∀ (ds : List (List Key × D)) (vs : List (List Key × V)), D.cleanT ds = true → RepT K B ρ G ds vs → RepT K B' ρ' G ds vs
  | [], _, _, h => h
  | (_, d) :: ds, _, c, ⟨v, r, e1, h1, h2⟩ => by
    have c' : (d.clean && D.cleanT ds) = true := c
    rw [Bool.and_eq_true] at c'
    exact ⟨v, r, e1, Rep.clean d v c'.1 h1, RepT.clean ds r c'.2 h2⟩
end
end
def okv {κ : Type} (f : D → Option D) : List (κ × D) → Option (List (κ × D))
  | [] => some []
  | (k, x) :: r => match f x, okv f r with
    | some y, some s => some ((k, y) :: s)
    | _, _ => none
/-- the data as it is lent: no cells, each list one of the heap ahead of the call -/
def lend (μ : Sto) : Nat → D → Option D
  | _, .non => some .non
  | _, .bl b => some (.bl b)
  | _, .int i => some (.int i)
  | _, .str x => some (.str x)
  | _, .scr xs => some (.scr xs)
  | n + 1, .lst _ xs => (omap (lend μ n) xs).map (.lst true)
  | n + 1, .tup xs => (omap (lend μ n) xs).map .tup
  | n + 1, .ref k => match μ[k]? with
    | some (.lst _ xs) => (omap (lend μ n) xs).map (.lst true)
    | some (.dK _ xs) => (okv (lend μ n) xs).map (.dK true)
    | some (.dT _ xs) => (okv (lend μ n) xs).map (.dT true)
    | none => none
  | n + 1, .dK _ xs => (okv (lend μ n) xs).map (.dK true)
  | n + 1, .dT _ xs => (okv (lend μ n) xs).map (.dT true)
  | _, _ => none
theorem see_ref {μ : Sto} {k : Nat} {m : Mode} {xs : List D} (e : μ[k]? = some (.lst m xs)) : see μ (.ref k) = some xs := by simp only [see, e]
section
variable {c : Ct} {ρ : List Addr} {G H : Hp} {μ : Sto}
theorem seeK_ok (r : Rel c ρ G μ H) {k : Nat} {m : Mode} {kvs : List (Key × D)} {v : V} (e : μ[k]? = some (.dK m kvs)) (hv : Rep c.K c.B ρ G (.ref k) v) : ∃ a ws, v = .ref a ∧ H a = some (.dK ws) ∧ RepK c.K c.B ρ G kvs ws := by
  obtain ⟨a, e1, h1⟩ := hv
  have hc := r.cl k a _ h1 e
  cases m with
  | fz =>
    obtain ⟨ws, q1, q2⟩ := hc
    exact ⟨a, ws, e1, r.gh _ _ q1, q2⟩
  | live =>
    obtain ⟨_, _, ws, q1, q2⟩ := hc
    exact ⟨a, ws, e1, q1, q2⟩
  | lock =>
    obtain ⟨_, _, ws, q1, q2⟩ := hc
    exact ⟨a, ws, e1, q1, q2⟩
theorem seeT_ok (r : Rel c ρ G μ H) {k : Nat} {m : Mode} {kvs : List (List Key × D)} {v : V} (e : μ[k]? = some (.dT m kvs)) (hv : Rep c.K c.B ρ G (.ref k) v) : ∃ a ws, v = .ref a ∧ H a = some (.dT ws) ∧ RepT c.K c.B ρ G kvs ws := by
  obtain ⟨a, e1, h1⟩ := hv
  have hc := r.cl k a _ h1 e
  cases m with
  | fz =>
    obtain ⟨ws, q1, q2⟩ := hc
    exact ⟨a, ws, e1, r.gh _ _ q1, q2⟩
  | live =>
    obtain ⟨_, _, ws, q1, q2⟩ := hc
    exact ⟨a, ws, e1, q1, q2⟩
  | lock =>
    obtain ⟨_, _, ws, q1, q2⟩ := hc
    exact ⟨a, ws, e1, q1, q2⟩
theorem lend_all {f : D → Option D} (ih : ∀ d v d', f d = some d' → Rep c.K c.B ρ G d v → Rep c.K H [] G d' v) : ∀ (xs : List D) (vs : List V) (ys : List D), omap f xs = some ys → Reps c.K c.B ρ G xs vs → Reps c.K H [] G ys vs
  | [], _, _, h, q => by
    cases h
    exact q
  | d :: xs, _, ys, h, ⟨v, r, e1, h1, h2⟩ => by
    unfold omap at h
    cases e : f d with
    | none =>
      rw [e] at h
      cases h
    | some y =>
      cases e' : omap f xs with
      | none =>
        rw [e, e'] at h
        cases h
      | some s =>
        rw [e, e'] at h
        cases h
        exact ⟨v, r, e1, ih d v y e h1, lend_all ih xs r s e' h2⟩
theorem lend_allK {f : D → Option D} (ih : ∀ d v d', f d = some d' → Rep c.K c.B ρ G d v → Rep c.K H [] G d' v) : ∀ (xs : List (Key × D)) (vs : List (Key × V)) (ys : List (Key × D)), okv f xs = some ys → RepK c.K c.B ρ G xs vs → RepK c.K H [] G ys vs
  | [], _, _, h, q => by
    cases h
    exact q
  | (k, d) :: xs, _, ys, h, ⟨v, r, e1, h1, h2⟩ => by
    unfold okv at h
    cases e : f d with
    | none =>
      simp only [e] at h
      cases h
    | some y =>
      cases e' : okv f xs with
      | none =>
        simp only [e, e'] at h
        cases h
      | some s =>
        simp only [e, e'] at h
        cases h
        exact ⟨v, r, e1, ih d v y e h1, lend_allK ih xs r s e' h2⟩
theorem lend_allT {f : D → Option D} (ih : ∀ d v d', f d = some d' → Rep c.K c.B ρ G d v → Rep c.K H [] G d' v) : ∀ (xs : List (List Key × D)) (vs : List (List Key × V)) (ys : List (List Key × D)), okv f xs = some ys → RepT c.K c.B ρ G xs vs → RepT c.K H [] G ys vs
  | [], _, _, h, q => by
    cases h
    exact q
  | (k, d) :: xs, _, ys, h, ⟨v, r, e1, h1, h2⟩ => by
    unfold okv at h
    cases e : f d with
    | none =>
      simp only [e] at h
      cases h
    | some y =>
      cases e' : okv f xs with
      | none =>
        simp only [e, e'] at h
        cases h
      | some s =>
        simp only [e, e'] at h
        cases h
        exact ⟨v, r, e1, ih d v y e h1, lend_allT ih xs r s e' h2⟩
theorem map_some {α β : Type} {f : α → β} {o : Option α} {b : β} (h : o.map f = some b) : ∃ a, o = some a ∧ f a = b := by
  cases o with
  | none => cases h
  | some a => exact ⟨a, rfl, Option.some.inj h⟩
theorem lend_ok (r : Rel c ρ G μ H) : ∀ (n : Nat) (d : D) (v : V) (d' : D), lend μ n d = some d' → Rep c.K c.B ρ G d v → Rep c.K H [] G d' v := by
  intro n
  induction n with
  | zero =>
    intro d v d' h q
    cases d with
    | non => cases h; exact q
    | bl _ => cases h; exact q
    | int _ => cases h; exact q
    | str _ => cases h; exact q
    | scr xs =>
      cases h
      obtain ⟨a, e, hs⟩ := q
      exact ⟨a, e, sql_up r.bh hs⟩
    | _ => cases h
  | succ n ih =>
    intro d v d' h q
    cases d with
    | non => cases h; exact q
    | bl _ => cases h; exact q
    | int _ => cases h; exact q
    | str _ => cases h; exact q
    | scr xs =>
      cases h
      obtain ⟨a, e, hs⟩ := q
      exact ⟨a, e, sql_up r.bh hs⟩
    | lst b xs =>
      obtain ⟨ys, e1, e2⟩ := map_some (show (omap (lend μ n) xs).map (D.lst true) = some d' from h)
      subst e2
      obtain ⟨a, vs, rfl, q1, q2⟩ := see_ok r (d := .lst b xs) rfl q
      exact ⟨a, vs, rfl, q1, lend_all ih xs vs ys e1 q2⟩
    | tup xs =>
      obtain ⟨ys, e1, e2⟩ := map_some (show (omap (lend μ n) xs).map D.tup = some d' from h)
      subst e2
      obtain ⟨a, vs, rfl, q1, q2⟩ := q
      exact ⟨a, vs, rfl, q1, lend_all ih xs vs ys e1 q2⟩
    | dK b xs =>
      obtain ⟨ys, e1, e2⟩ := map_some (show (okv (lend μ n) xs).map (D.dK true) = some d' from h)
      subst e2
      obtain ⟨a, vs, rfl, q1, q2⟩ := q
      exact ⟨a, vs, rfl, pick_h r q1, lend_allK ih xs vs ys e1 q2⟩
    | dT b xs =>
      obtain ⟨ys, e1, e2⟩ := map_some (show (okv (lend μ n) xs).map (D.dT true) = some d' from h)
      subst e2
      obtain ⟨a, vs, rfl, q1, q2⟩ := q
      exact ⟨a, vs, rfl, pick_h r q1, lend_allT ih xs vs ys e1 q2⟩
    | ref k =>
      unfold lend at h
      split at h
      · rename_i m xs e0
        obtain ⟨ys, e1, e2⟩ := map_some h
        subst e2
        obtain ⟨a, vs, rfl, q1, q2⟩ := see_ok r (see_ref e0) q
        exact ⟨a, vs, rfl, q1, lend_all ih xs vs ys e1 q2⟩
      · rename_i m xs e0
        obtain ⟨ys, e1, e2⟩ := map_some h
        subst e2
        obtain ⟨a, vs, rfl, q1, q2⟩ := seeK_ok r e0 q
        exact ⟨a, vs, rfl, q1, lend_allK ih xs vs ys e1 q2⟩
      · rename_i m xs e0
        obtain ⟨ys, e1, e2⟩ := map_some h
        subst e2
        obtain ⟨a, vs, rfl, q1, q2⟩ := seeT_ok r e0 q
        exact ⟨a, vs, rfl, q1, lend_allT ih xs vs ys e1 q2⟩
      · cases h
end

/-! ### displays -/
def dLst (lv : Bool) (ds : List D) (μ : Sto) : R D := if ds.length ≤ LIM then alloc lv ds μ else none
def dTup (ds : List D) (μ : Sto) : R D := if ds.length ≤ LIM then ok (.tup ds) μ else none
def fNil : FEs := fun _ μ => ok [] μ
def fCons (f : FE) (fs : FEs) : FEs := fun env μ => rb (f env μ) fun d μ1 => rb (fs env μ1) fun ds μ2 => ok (d :: ds) μ2
section
variable {K : PySem.W.Frag} {mg : Str → Option Value} {E : XK}
theorem tx_lst {fs : FEs} (lv : Bool) : ∀ σ H Q, TX K mg E (fun env μ => rb (fs env μ) (dLst lv)) σ H Q → tLst (TXs K mg E fs) σ H Q := by
  rintro σ H Q ⟨c, env, ρ, G, μ, hK, hm, re, eo, h⟩
  refine txs_use hK hm re eo h fun ds vs ρ1 G1 μ1 H1 p1 e1 r1 eo1 hv h1 => ?_
  unfold dLst at h1
  split at h1
  · rename_i hl
    exact ⟨lim_size (by rw [← hv.length]; exact hl), fun p hp => alloc_use hK r1 hv hp h1⟩
  · exact fin_none h1
theorem tx_tup {fs : FEs} : ∀ σ H Q, TX K mg E (fun env μ => rb (fs env μ) dTup) σ H Q → tTup (TXs K mg E fs) σ H Q := by
  rintro σ H Q ⟨c, env, ρ, G, μ, hK, hm, re, eo, h⟩
  refine txs_use hK hm re eo h fun ds vs ρ1 G1 μ1 H1 p1 e1 r1 eo1 hv h1 => ?_
  unfold dTup at h1
  split at h1
  · rename_i hl
    exact ⟨lim_size (by rw [← hv.length]; exact hl), fun p hp => tup_use hK r1 hv hp h1⟩
  · exact fin_none h1
theorem txs_nil : ∀ σ H Q, TXs K mg E fNil σ H Q → tNil σ H Q := by
  rintro σ H Q ⟨c, env, ρ, G, μ, hK, hm, re, eo, h⟩
  exact Fin.ok re h [] rfl
theorem txs_cons {f : FE} {fs : FEs} : ∀ σ H Q, TXs K mg E (fCons f fs) σ H Q → tCons (TX K mg E f) (TXs K mg E fs) σ H Q := by
  rintro σ H Q ⟨c, env, ρ, G, μ, hK, hm, re, eo, h⟩
  subst hK hm
  refine tx_use rfl rfl re eo h fun d v ρ1 G1 μ1 H1 p1 e1 r1 eo1 hv h1 => ?_
  refine txs_use rfl rfl r1 eo1 h1 fun ds vs ρ2 G2 μ2 H2 p2 e2 r2 eo2 hvs h2 => ?_
  exact Fin.ok r2 h2 (v :: vs) (.cons (hv.mono p2 e2) hvs)

/-! ### names, constants -/
def fVar (i : Nat) : FE := fun env μ => match env[i]? with
  | some (some d) => ok d μ
  | _ => none
def fC (d : D) : FE := fun _ μ => ok d μ
theorem tx_var (i : Nat) : ∀ σ H Q, TX K mg E (fVar i) σ H Q → tVar i σ H Q := by
  rintro σ H Q ⟨c, env, ρ, G, μ, hK, hm, re, eo, h⟩
  subst hK
  unfold fVar at h
  split at h
  · rename_i d e
    obtain ⟨v, q1, q2⟩ := eo.2 i d e
    exact ⟨v, q1, Fin.ok re h v q2⟩
  · exact fin_none h
def scv : D → Option V
  | .non => some .non
  | .bl b => some (.bl b)
  | .int i => some (.int i)
  | .str x => some (.str x)
  | _ => none
theorem sc_rep {d : D} {v : V} (h : scv d = some v) {K : PySem.W.Frag} {B : Hp} {ρ : List Addr} {G : Hp} : Rep K B ρ G d v := by
  cases d <;> cases h <;> rfl
theorem tx_c {d : D} {v : V} (h0 : scv d = some v) : ∀ σ H Q, TX K mg E (fC d) σ H Q → tC v σ H Q := by
  rintro σ H Q ⟨c, env, ρ, G, μ, hK, hm, re, eo, h⟩
  exact Fin.ok re h v (sc_rep h0)

/-! ### and, or, not; is None -/
def fAnd (fa fb : FE) : FE := fun env μ => rb (fa env μ) fun d μ1 => match d with
  | .bl true => fb env μ1
  | .bl false => ok (.bl false) μ1
  | _ => none
def fOr (fa fb : FE) : FE := fun env μ => rb (fa env μ) fun d μ1 => match d with
  | .bl false => fb env μ1
  | .bl true => ok (.bl true) μ1
  | _ => none
def dNot (d : D) (μ : Sto) : R D := match d with
  | .bl b => ok (.bl (!b)) μ
  | _ => none
def fNot (fa : FE) : FE := fun env μ => rb (fa env μ) dNot
theorem txb_tx {f : FE} : ∀ σ H (Q : Bool → Hp → Prop), TXb K mg E f σ H Q → TX K mg E f σ H fun x H' => ∃ k, x = .bl k ∧ Q k H' := by
  rintro σ H Q ⟨c, env, ρ, G, μ, hK, hm, re, eo, h⟩
  subst hK
  refine ⟨c, env, ρ, G, μ, rfl, hm, re, eo, h.imp fun d ρ' G' μ' H' _ _ _ q v hv => ?_⟩
  obtain ⟨b, rfl, q⟩ := q
  exact ⟨b, hv, q⟩
theorem txb_use' {α : Type} {c : Ct} {env : Env} {ρ : List Addr} {G H : Hp} {μ : Sto} {σ : L2.St} {fa : FE} {k : D → Sto → R α} {Q : α → List Addr → Hp → Sto → Hp → Prop} {T : Bool → Hp → Prop} (hK : c.K = K) (hm : c.mg = mg) (r : Rel c ρ G μ H) (e : EnvOk c ρ G env σ) (h : Fin c E ρ G (rb (fa env μ) k) Q)
    (hb : ∀ d μ, (∀ b, d ≠ .bl b) → k d μ = none)
    (step : ∀ b ρ1 G1 μ1 H1, ρ <+: ρ1 → Same G G1 → Rel c ρ1 G1 μ1 H1 → EnvOk c ρ1 G1 env σ → Fin c E ρ1 G1 (k (.bl b) μ1) Q → T b H1) : TXb K mg E fa σ H T :=
  ⟨c, env, ρ, G, μ, hK, hm, r, e, h.bind.imp fun d ρ1 G1 μ1 H1 p1 e1 r1 q => by
    by_cases hd : ∃ b, d = .bl b
    · obtain ⟨b, rfl⟩ := hd
      exact ⟨b, rfl, step b ρ1 G1 μ1 H1 p1 e1 r1 (e.up p1 e1) q⟩
    · rw [hb d μ1 fun b z => hd ⟨b, z⟩] at q
      exact q.elim⟩
theorem txb_and {fa fb : FE} : ∀ σ H Q, TXb K mg E (fAnd fa fb) σ H Q → tAnd (TXb K mg E fa) (TXb K mg E fb) σ H Q := by
  rintro σ H Q ⟨c, env, ρ, G, μ, hK, hm, re, eo, h⟩
  refine txb_use' hK hm re eo h (fun d μ hd => by cases d <;> first | rfl | exact absurd rfl (hd _)) fun b ρ1 G1 μ1 H1 p1 e1 r1 eo1 h1 => ?_
  cases b with
  | true => exact ⟨c, env, ρ1, G1, μ1, hK, hm, r1, eo1, h1⟩
  | false =>
    obtain ⟨b, e, q⟩ := Fin.ok r1 h1
    cases e
    exact q
theorem txb_or {fa fb : FE} : ∀ σ H Q, TXb K mg E (fOr fa fb) σ H Q → tOr (TXb K mg E fa) (TXb K mg E fb) σ H Q := by
  rintro σ H Q ⟨c, env, ρ, G, μ, hK, hm, re, eo, h⟩
  refine txb_use' hK hm re eo h (fun d μ hd => by cases d <;> first | rfl | exact absurd rfl (hd _)) fun b ρ1 G1 μ1 H1 p1 e1 r1 eo1 h1 => ?_
  cases b with
  | false => exact ⟨c, env, ρ1, G1, μ1, hK, hm, r1, eo1, h1⟩
  | true =>
    obtain ⟨b, e, q⟩ := Fin.ok r1 h1
    cases e
    exact q
theorem txb_not {fa : FE} : ∀ σ H Q, TXb K mg E (fNot fa) σ H Q → tNot (TXb K mg E fa) σ H Q := by
  rintro σ H Q ⟨c, env, ρ, G, μ, hK, hm, re, eo, h⟩
  refine txb_use' hK hm re eo h (fun d μ hd => by cases d <;> first | rfl | exact absurd rfl (hd _)) fun b ρ1 G1 μ1 H1 p1 e1 r1 eo1 h1 => ?_
  obtain ⟨b', e, q⟩ := Fin.ok r1 h1
  cases e
  exact q
theorem tx_boolV {d : D} {v : V} {P : Prop} {c : Ct} {ρ : List Addr} {G : Hp} (hv : Rep c.K c.B ρ G d v) (h : ∀ b, d = .bl b → v = .bl b → P) (h0 : (∀ b, d ≠ .bl b) → P) : P := by
  by_cases hd : ∃ b, d = .bl b
  · obtain ⟨b, rfl⟩ := hd
    exact h b rfl hv
  · exact h0 fun b z => hd ⟨b, z⟩
theorem tx_and {fa fb : FE} : ∀ σ H Q, TX K mg E (fAnd fa fb) σ H Q → tAndV (TX K mg E fa) (TX K mg E fb) σ H Q := by
  rintro σ H Q ⟨c, env, ρ, G, μ, hK, hm, re, eo, h⟩
  subst hK
  refine tx_use rfl hm re eo h fun d v ρ1 G1 μ1 H1 p1 e1 r1 eo1 hv h1 => ?_
  refine tx_boolV hv (fun b e e' => ?_) fun hd => by cases d <;> first | exact fin_none h1 | exact absurd rfl (hd _)
  subst e e'
  cases b with
  | true => exact ⟨true, rfl, ⟨c, env, ρ1, G1, μ1, rfl, hm, r1, eo1, h1⟩⟩
  | false => exact ⟨false, rfl, Fin.ok r1 h1 (.bl false) rfl⟩
theorem tx_or {fa fb : FE} : ∀ σ H Q, TX K mg E (fOr fa fb) σ H Q → tOrV (TX K mg E fa) (TX K mg E fb) σ H Q := by
  rintro σ H Q ⟨c, env, ρ, G, μ, hK, hm, re, eo, h⟩
  subst hK
  refine tx_use rfl hm re eo h fun d v ρ1 G1 μ1 H1 p1 e1 r1 eo1 hv h1 => ?_
  refine tx_boolV hv (fun b e e' => ?_) fun hd => by cases d <;> first | exact fin_none h1 | exact absurd rfl (hd _)
  subst e e'
  cases b with
  | false => exact ⟨false, rfl, ⟨c, env, ρ1, G1, μ1, rfl, hm, r1, eo1, h1⟩⟩
  | true => exact ⟨true, rfl, Fin.ok r1 h1 (.bl true) rfl⟩
theorem tx_not {fa : FE} : ∀ σ H Q, TX K mg E (fNot fa) σ H Q → tNotV (TX K mg E fa) σ H Q := by
  rintro σ H Q ⟨c, env, ρ, G, μ, hK, hm, re, eo, h⟩
  subst hK
  refine tx_use rfl hm re eo h fun d v ρ1 G1 μ1 H1 p1 e1 r1 eo1 hv h1 => ?_
  refine tx_boolV hv (fun b e e' => ?_) fun hd => by cases d <;> first | exact fin_none h1 | exact absurd rfl (hd _)
  subst e e'
  exact ⟨b, rfl, Fin.ok r1 h1 (.bl (!b)) rfl⟩
def isNon : D → Bool
  | .non => true
  | _ => false
def dIsN (d : D) (μ : Sto) : R D := ok (.bl (isNon d)) μ
def dNotN (d : D) (μ : Sto) : R D := ok (.bl (!isNon d)) μ
theorem isNon_rep {B : Hp} {ρ : List Addr} {G : Hp} {d : D} {v : V} (hv : Rep K B ρ G d v) : decide (v = .non) = isNon d := by
  cases d with
  | non => cases hv; rfl
  | bl _ => cases hv; rfl
  | int _ => cases hv; rfl
  | str _ => cases hv; rfl
  | scr _ => obtain ⟨a, rfl, _⟩ := hv; rfl
  | lst _ _ => obtain ⟨a, _, rfl, _⟩ := hv; rfl
  | tup _ => obtain ⟨a, _, rfl, _⟩ := hv; rfl
  | ref _ => obtain ⟨a, rfl, _⟩ := hv; rfl
  | dK _ _ => obtain ⟨a, _, rfl, _⟩ := hv; rfl
  | dT _ _ => obtain ⟨a, _, rfl, _⟩ := hv; rfl
theorem tx_isN {fa : FE} : ∀ σ H Q, TX K mg E (fun env μ => rb (fa env μ) dIsN) σ H Q → tIsN (TX K mg E fa) σ H Q := by
  rintro σ H Q ⟨c, env, ρ, G, μ, hK, hm, re, eo, h⟩
  subst hK
  refine tx_use rfl hm re eo h fun d v ρ1 G1 μ1 H1 p1 e1 r1 eo1 hv h1 => ?_
  rw [isNon_rep hv]
  exact Fin.ok r1 h1 _ rfl
theorem tx_notN {fa : FE} : ∀ σ H Q, TX K mg E (fun env μ => rb (fa env μ) dNotN) σ H Q → tNotN (TX K mg E fa) σ H Q := by
  rintro σ H Q ⟨c, env, ρ, G, μ, hK, hm, re, eo, h⟩
  subst hK
  refine tx_use rfl hm re eo h fun d v ρ1 G1 μ1 H1 p1 e1 r1 eo1 hv h1 => ?_
  rw [isNon_rep hv]
  exact Fin.ok r1 h1 _ rfl
/-- a op b op' c -/
def fChain (k k' : Cmp) (fa fb fc : FE) : FE := fun env μ => rb (fa env μ) fun d μ1 => rb (fb env μ1) fun e μ2 => rb (dCmp k d e μ2) fun t μ3 => match t with
  | .bl true => rb (fc env μ3) fun g μ4 => dCmp k' e g μ4
  | .bl false => ok (.bl false) μ3
  | _ => none
end

/-! ### isinstance -/
inductive Ty where
  | int | bool | list | tuple | str | dict
def Ty.nm : Ty → String
  | .int => "int" | .bool => "bool" | .list => "list" | .tuple => "tuple" | .str => "str" | .dict => "dict"
/-- the cell's kind -/
def tyC : Option Cell → Option (Option Ty)
  | some (.lst _ _) => some (some .list)
  | some (.dK _ _) => some (some .dict)
  | some (.dT _ _) => some (some .dict)
  | none => none
def tyOf (μ : Sto) : D → Option (Option Ty)
  | .non => some none
  | .bl _ => some (some .bool)
  | .int _ => some (some .int)
  | .str _ => some (some .str)
  | .lst _ _ => some (some .list)
  | .tup _ => some (some .tuple)
  | .dK _ _ => some (some .dict)
  | .dT _ _ => some (some .dict)
  | .scr _ => none
  | .ref k => tyC μ[k]?
def isTy : Option Ty → Ty → Bool
  | some .int, .int => true
  | some .bool, .int => true
  | some .bool, .bool => true
  | some .list, .list => true
  | some .tuple, .tuple => true
  | some .str, .str => true
  | some .dict, .dict => true
  | _, _ => false
def dIsi (T : Ty) (d : D) (μ : Sto) : R D := match tyOf μ d with
  | some t => ok (.bl (isTy t T)) μ
  | none => none
def tyNm : Option Ty → String
  | none => "NoneType"
  | some T => T.nm
theorem kit_ty (K : PySem.W.Frag) (t : Option Ty) (T : Ty) : PySem.W.kitOne K (.type (tyNm t)) (.type T.nm) = some (isTy t T) := by
  cases t with
  | none => cases T <;> rfl
  | some t => cases t <;> cases T <;> rfl
theorem tyOf_ok {c : Ct} {ρ : List Addr} {G H : Hp} {μ : Sto} {d : D} {v : V} {t : Option Ty} (r : Rel c ρ G μ H) (h : tyOf μ d = some t) (hv : Rep c.K c.B ρ G d v) : TyX c.K H v (.type (tyNm t)) := by
  cases d with
  | non => cases h; cases hv; exact .base .non
  | bl _ => cases h; cases hv; exact .base (.bl _)
  | int _ => cases h; cases hv; exact .base (.int _)
  | str _ => cases h; cases hv; exact .base (.str _)
  | scr _ => cases h
  | lst b xs =>
    cases h
    obtain ⟨a, vs, rfl, q1, _⟩ := hv
    exact .base (.lst (pick_h r q1))
  | tup xs =>
    cases h
    obtain ⟨a, vs, rfl, q1, _⟩ := hv
    exact .base (.tup (r.gh _ _ q1))
  | dK b xs =>
    cases h
    obtain ⟨a, vs, rfl, q1, _⟩ := hv
    exact .base (.dK (pick_h r q1))
  | dT b xs =>
    cases h
    obtain ⟨a, vs, rfl, q1, _⟩ := hv
    exact .base (.dT (pick_h r q1))
  | ref k =>
    have h' : tyC μ[k]? = some t := h
    cases e0 : μ[k]? with
    | none =>
      rw [e0] at h'
      cases h'
    | some x =>
      rw [e0] at h'
      cases x with
      | lst m xs =>
        cases h'
        obtain ⟨a, vs, rfl, q1, q2⟩ := see_ok r (see_ref e0) hv
        exact .base (.lst q1)
      | dK m xs =>
        cases h'
        obtain ⟨a, vs, rfl, q1, q2⟩ := seeK_ok r e0 hv
        exact .base (.dK q1)
      | dT m xs =>
        cases h'
        obtain ⟨a, vs, rfl, q1, q2⟩ := seeT_ok r e0 hv
        exact .base (.dT q1)
theorem tx_isi {K : PySem.W.Frag} {mg : Str → Option Value} {E : XK} {fa : FE} (T : Ty) : ∀ σ H Q, TX K mg E (fun env μ => rb (fa env μ) (dIsi T)) σ H Q → tCB (rIsi K) (tCons (TX K mg E fa) (tCons (tC (.ty T.nm)) tNil)) σ H Q := by
  rintro σ H Q ⟨c, env, ρ, G, μ, hK, hm, re, eo, h⟩
  subst hK
  refine tx_use rfl hm re eo h fun d v ρ1 G1 μ1 H1 p1 e1 r1 eo1 hv h1 => ?_
  unfold dIsi at h1
  split at h1
  · rename_i t e2
    exact ⟨v, .ty T.nm, _, _, _, rfl, .ty _, tyOf_ok r1 e2 hv, kit_ty c.K t T, Fin.ok r1 h1 _ rfl⟩
  · exact fin_none h1
end Lv

set_option Elab.async false
set_option linter.all false
set_option maxRecDepth 100000
set_option autoImplicit false
/-! pins, writes; targets; what is walked; comprehensions -/
namespace Lv
open PySem PySem.Spec PyProof.Rows L2

/-! ### the heap changes -/
def Ct.pin (c : Ct) (p : Addr) (o : HO) : Ct := { c with P := upd c.P p o }
section
variable {c : Ct} {ρ ρ' : List Addr} {G G' H H' : Hp} {μ : Sto} {p : Addr} {o : HO}
theorem CellOk.pin {x : Cell} {a : Addr} (h : CellOk c ρ G H x a) : CellOk (c.pin p o) ρ G H x a := h
/-- a new object, pinned -/
theorem Rel.pinned (r : Rel c ρ G μ H) (h : H p = none) (ht : ∀ vs, o ≠ .tup vs) : Rel (c.pin p o) ρ G μ (upd H p o) := by
  refine ⟨r.gh.trans (same_upd h), r.bh.trans (same_upd h), fun a x e => ?_, fun a vs e => ?_, r.g0, r.nw, fun a x e => ?_, r.ln, r.nd, fun n a x e1 e2 => ?_⟩
  · by_cases q : a = p
    · subst q
      have e' : upd c.P a o a = some x := e
      rw [upd_same] at e' ⊢
      exact e'
    · have e' : upd c.P p o a = some x := e
      rw [upd_ne q] at e' ⊢
      exact r.ph _ _ e'
  · by_cases q : a = p
    · subst q
      rw [upd_same] at e
      exact absurd (Option.some.inj e) (ht vs)
    · rw [upd_ne q] at e
      exact r.tp _ _ e
  · by_cases q : a = p
    · subst q
      exact ⟨r.none_g h, r.none_r h, r.none_b h⟩
    · have e' : upd c.P p o a = some x := e
      rw [upd_ne q] at e'
      exact r.gp a x e'
  · exact (r.cl n a x e1 e2).mono (List.prefix_refl _) (Same.refl _) fun g0 b0 o' q => ⟨g0, by rw [upd_ne (ne_of_none q h)]; exact q⟩
theorem Rel.pin_at (r : Rel (c.pin p o) ρ G μ H) : H p = some o := r.ph p o upd_same
/-- the pinned object changes -/
theorem Rel.repin {o' : HO} (r : Rel (c.pin p o) ρ G μ H) (ht : ∀ vs, o' ≠ .tup vs) : Rel (c.pin p o') ρ G μ (upd H p o') := by
  obtain ⟨q1, q2, q3⟩ := r.gp p o upd_same
  have ng : ∀ {a : Addr} {x : HO}, G a = some x → a ≠ p := fun {a x} e z => by
    subst z
    rw [q1] at e
    cases e
  have nb : ∀ {a : Addr} {x : HO}, c.B a = some x → a ≠ p := fun {a x} e z => by
    subst z
    have q3' : c.B a = none := q3
    rw [q3'] at e
    cases e
  refine ⟨fun a x e => by rw [upd_ne (ng e)]; exact r.gh _ _ e, fun a x e => by rw [upd_ne (nb e)]; exact r.bh _ _ e, fun a x e => ?_, fun a vs e => ?_, r.g0, r.nw, fun a x e => ?_, r.ln, r.nd, fun n a x e1 e2 => ?_⟩
  · have e' : upd c.P p o' a = some x := e
    by_cases q : a = p
    · subst q
      rw [upd_same] at e' ⊢
      exact e'
    · rw [upd_ne q] at e' ⊢
      exact r.ph a x (show upd c.P p o a = some x by rw [upd_ne q]; exact e')
  · by_cases q : a = p
    · subst q
      rw [upd_same] at e
      exact absurd (Option.some.inj e) (ht vs)
    · rw [upd_ne q] at e
      exact r.tp _ _ e
  · by_cases q : a = p
    · subst q
      exact ⟨q1, q2, q3⟩
    · have e' : upd c.P p o' a = some x := e
      rw [upd_ne q] at e'
      exact r.gp a x (show upd c.P p o a = some x by rw [upd_ne q]; exact e')
  · have na : a ≠ p := fun z => q2 (by rw [← z]; exact List.mem_of_getElem? e1)
    exact (r.cl n a x e1 e2).mono (List.prefix_refl _) (Same.refl _) fun g0 _ u q => ⟨g0, by rw [upd_ne na]; exact q⟩
/-- no more pinned: nobody changes it -/
theorem Rel.unpin_fz (r : Rel (c.pin p o) ρ G μ H) (hP : c.P p = none) (ht : ∀ vs, o ≠ .tup vs) : Rel c ρ (upd G p o) μ H := by
  obtain ⟨q1, q2, q3⟩ := r.gp p o upd_same
  refine ⟨fun a x e => ?_, r.bh, fun a x e => ?_, fun a vs e => ?_, r.g0.trans (same_upd q1), fun a x e => ?_, fun a x e => ?_, r.ln, r.nd, fun n a x e1 e2 => ?_⟩
  · by_cases q : a = p
    · subst q
      rw [upd_same] at e
      cases e
      exact r.pin_at
    · rw [upd_ne q] at e
      exact r.gh _ _ e
  · have na : a ≠ p := fun z => by
      rw [z, hP] at e
      cases e
    exact r.ph a x (show upd c.P p o a = some x by rw [upd_ne na]; exact e)
  · have na : a ≠ p := fun z => by
      rw [z, r.pin_at] at e
      exact absurd (Option.some.inj e) (ht vs)
    rw [upd_ne na]
    exact r.tp _ _ e
  · by_cases q : a = p
    · subst q
      exact .inr q3
    · rw [upd_ne q] at e
      exact r.nw a x e
  · have na : a ≠ p := fun z => by
      rw [z, hP] at e
      cases e
    obtain ⟨w1, w2, w3⟩ := r.gp a x (show upd c.P p o a = some x by rw [upd_ne na]; exact e)
    exact ⟨by rw [upd_ne na]; exact w1, w2, w3⟩
  · have na : a ≠ p := fun z => q2 (by rw [← z]; exact List.mem_of_getElem? e1)
    exact (r.cl n a x e1 e2).mono (c := c) (List.prefix_refl _) (same_upd q1) fun g0 _ u q => ⟨by rw [upd_ne na]; exact g0, q⟩
/-- no more pinned: a cell -/
theorem Rel.unpin_cell (r : Rel (c.pin p o) ρ G μ H) (hP : c.P p = none) {x : Cell} (hx : CellOk c (ρ ++ [p]) G H x p) : Rel c (ρ ++ [p]) G (μ ++ [x]) H := by
  obtain ⟨q1, q2, q3⟩ := r.gp p o upd_same
  refine ⟨r.gh, r.bh, fun a x e => ?_, r.tp, r.g0, r.nw, fun a x e => ?_, by rw [List.length_append, List.length_append, r.ln]; rfl, ?_, fun n a y e1 e2 => ?_⟩
  · have na : a ≠ p := fun z => by
      rw [z, hP] at e
      cases e
    exact r.ph a x (show upd c.P p o a = some x by rw [upd_ne na]; exact e)
  · have na : a ≠ p := fun z => by
      rw [z, hP] at e
      cases e
    obtain ⟨w1, w2, w3⟩ := r.gp a x (show upd c.P p o a = some x by rw [upd_ne na]; exact e)
    refine ⟨w1, fun hm => ?_, w3⟩
    rcases List.mem_append.mp hm with z | z
    · exact w2 z
    · exact na (by simpa using z)
  · refine List.nodup_append.mpr ⟨r.nd, by simp, fun a ha b hb z => ?_⟩
    have z' : b = p := by simpa using hb
    subst z' z
    exact q2 ha
  · by_cases hn : n < ρ.length
    · rw [List.getElem?_append_left hn] at e1
      rw [List.getElem?_append_left (by rw [← r.ln]; exact hn)] at e2
      exact (r.cl n a y e1 e2).mono (c := c) (List.prefix_append _ _) (Same.refl _) fun g0 _ u q => ⟨g0, q⟩
    · have hn' : n = ρ.length := by
        have := (List.getElem?_eq_some_iff.mp e1).1
        rw [List.length_append, List.length_singleton] at this
        omega
      subst hn'
      rw [List.getElem?_append_right (Nat.le_refl _), Nat.sub_self] at e1
      rw [List.getElem?_append_right (by rw [r.ln]; exact Nat.le_refl _), r.ln, Nat.sub_self] at e2
      cases e1
      cases e2
      exact hx
/-- a cell is written (H2: the heap behind it) -/
theorem Rel.write {n : Nat} {a : Addr} {x : Cell} {o : HO} (r : Rel c ρ G μ H) (ha : ρ[n]? = some a) (hg : G a = none) (hb : c.B a = none) (ht : ∀ vs, o ≠ .tup vs) (hx : CellOk c ρ G (upd H a o) x a) : Rel c ρ G (μ.set n x) (upd H a o) := by
  have hr : a ∈ ρ := List.mem_of_getElem? ha
  refine ⟨fun b y e => ?_, fun b y e => ?_, fun b y e => ?_, fun b vs e => ?_, r.g0, r.nw, r.gp, by rw [List.length_set]; exact r.ln, r.nd, fun m b y e1 e2 => ?_⟩
  · have : b ≠ a := fun z => by
      rw [z, hg] at e
      cases e
    rw [upd_ne this]
    exact r.gh _ _ e
  · have : b ≠ a := fun z => by
      rw [z, hb] at e
      cases e
    rw [upd_ne this]
    exact r.bh _ _ e
  · have : b ≠ a := fun z => (r.gp b y e).2.1 (by rw [z]; exact hr)
    rw [upd_ne this]
    exact r.ph _ _ e
  · by_cases q : b = a
    · subst q
      rw [upd_same] at e
      exact absurd (Option.some.inj e) (ht vs)
    · rw [upd_ne q] at e
      exact r.tp _ _ e
  · by_cases hm : n = m
    · subst hm
      rw [ha] at e1
      cases e1
      have hn : n < μ.length := by
        rw [← r.ln]
        exact (List.getElem?_eq_some_iff.mp ha).1
      rw [List.getElem?_set_self hn] at e2
      cases e2
      exact hx
    · rw [List.getElem?_set_ne hm] at e2
      have na : b ≠ a := fun z => by
        subst z
        obtain ⟨l1, k1⟩ := List.getElem?_eq_some_iff.mp ha
        obtain ⟨l2, k2⟩ := List.getElem?_eq_some_iff.mp e1
        exact hm ((List.getElem_inj r.nd).mp (k1.trans k2.symm))
      exact (r.cl m b y e1 e2).mono (List.prefix_refl _) (Same.refl _) fun g0 _ u q => ⟨g0, by rw [upd_ne na]; exact q⟩
/-- a cell's mode, locked or not -/
theorem Rel.mode {n : Nat} {x y : Cell} (r : Rel c ρ G μ H) (hx : μ[n]? = some x) (hc : ∀ a, CellOk c ρ G H x a → CellOk c ρ G H y a) : Rel c ρ G (μ.set n y) H := by
  refine ⟨r.gh, r.bh, r.ph, r.tp, r.g0, r.nw, r.gp, by rw [List.length_set]; exact r.ln, r.nd, fun m b z e1 e2 => ?_⟩
  by_cases hm : n = m
  · subst hm
    have hn := (List.getElem?_eq_some_iff.mp hx).1
    rw [List.getElem?_set_self hn] at e2
    cases e2
    exact hc b (r.cl n b x e1 hx)
  · rw [List.getElem?_set_ne hm] at e2
    exact r.cl m b z e1 e2
end

/-! ### targets -/
inductive Tg where
  | nm (i : Nat) | tup (is : List Nat)
def sets : List Nat → List D → Env → Env
  | i :: is, d :: ds, env => sets is ds (env.set i (some d))
  | _, _, env => env
def Tg.bind : Tg → D → Env → Option Env
  | .nm i, d, env => some (env.set i (some d))
  | .tup is, .tup xs, env => if xs.length = is.length then some (sets is xs env) else none
  | _, _, _ => none
def Tg.slots : Tg → List Nat
  | .nm i => [i]
  | .tup is => is
def gs : List Nat → TGs
  | [] => gNil
  | i :: is => gCons (gName i) (gs is)
def Tg.g (K : PySem.W.Frag) : Tg → TG
  | .nm i => gName i
  | .tup is => gTup K is.length (gs is)
def Touch (is : List Nat) (σ σ' : L2.St) : Prop := σ'.length = σ.length ∧ ∀ j, j ∉ is → σ'[j]? = σ[j]?
section
variable {c : Ct} {ρ : List Addr} {G H : Hp} {μ : Sto}
theorem gs_ok : ∀ (is : List Nat) (ds : List D) (vs : List V) (env : Env) (σ : L2.St) (Q : L2.St → Hp → Prop), EnvOk c ρ G env σ → Reps c.K c.B ρ G ds vs → ds.length = is.length → (∀ σ', EnvOk c ρ G (sets is ds env) σ' → Touch is σ σ' → Q σ' H) → gs is vs σ H Q
  | [], [], _, env, σ, Q, e, h, _, q => by
    cases h
    exact ⟨rfl, q σ e ⟨rfl, fun _ _ => rfl⟩⟩
  | i :: is, d :: ds, _, env, σ, Q, e, ⟨v, r, e1, h1, h2⟩, hl, q => by
    subst e1
    refine ⟨v, r, rfl, gs_ok is ds r (env.set i (some d)) (σ.set i (some v)) Q (e.set h1) h2 (by simpa using hl) fun σ' e' t => q σ' e' ⟨?_, fun j hj => ?_⟩⟩
    · rw [t.1, List.length_set]
    · rw [t.2 j fun z => hj (List.mem_cons_of_mem _ z), List.getElem?_set_ne fun z => hj (by rw [z]; exact List.mem_cons_self)]
  | [], _ :: _, _, _, _, _, _, _, hl, _ => by cases hl
  | _ :: _, [], _, _, _, _, _, _, hl, _ => by cases hl
theorem tg_ok (r : Rel c ρ G μ H) {tg : Tg} {d : D} {v : V} {env env' : Env} {σ : L2.St} {Q : L2.St → Hp → Prop} (e : EnvOk c ρ G env σ) (hv : Rep c.K c.B ρ G d v) (hb : tg.bind d env = some env')
    (q : ∀ σ', EnvOk c ρ G env' σ' → Touch tg.slots σ σ' → Q σ' H) : tg.g c.K v σ H Q := by
  cases tg with
  | nm i =>
    cases hb
    refine q _ (e.set hv) ⟨List.length_set, fun j hj => ?_⟩
    rw [List.getElem?_set_ne fun z => hj (by rw [z]; exact List.mem_cons_self)]
  | tup is =>
    cases d with
    | tup xs =>
      have hb' : (if xs.length = is.length then some (sets is xs env) else none) = some env' := hb
      split at hb'
      · rename_i hl
        cases hb'
        obtain ⟨a, vs, rfl, h1, h2⟩ := tup_ok r hv
        exact ⟨a, vs, rfl, h1, by rw [← h2.length, hl], gs_ok is xs vs env σ Q e h2 hl q⟩
      · cases hb'
    | _ => cases hb
end
theorem wipe_in {σ : L2.St} : ∀ {vs : List Nat} {i : Nat}, i ∈ vs → i < σ.length → (wipe σ vs)[i]? = some none
  | v :: vs, i, h, hl => by
    unfold wipe
    by_cases e : v = i
    · subst e
      rw [List.getElem?_set_self (by rw [wipe_length]; exact hl)]
    · rw [List.getElem?_set_ne e]
      rcases List.mem_cons.mp h with z | z
      · exact absurd z.symm e
      · exact wipe_in z hl
theorem wipe_touch {is vs : List Nat} {σ σ' : L2.St} (t : Touch is σ σ') (h : ∀ i ∈ is, i ∈ vs) : wipe σ' vs = wipe σ vs := by
  refine List.ext_getElem? fun i => ?_
  by_cases hi : i ∈ vs
  · by_cases hl : i < σ.length
    · rw [wipe_in hi hl, wipe_in hi (by rw [t.1]; exact hl)]
    · have hl' := t.1
      rw [List.getElem?_eq_none (l := wipe σ' vs) (by rw [wipe_length]; omega), List.getElem?_eq_none (l := wipe σ vs) (by rw [wipe_length]; omega)]
  · rw [wipe_out hi, wipe_out hi]
    exact t.2 i fun z => hi (h i z)
theorem wipe_wipe {σ : L2.St} {vs : List Nat} : wipe (wipe σ vs) vs = wipe σ vs := by
  refine List.ext_getElem? fun i => ?_
  by_cases hi : i ∈ vs
  · by_cases hl : i < σ.length
    · rw [wipe_in hi hl, wipe_in hi (by rw [wipe_length]; exact hl)]
    · rw [List.getElem?_eq_none (l := wipe (wipe σ vs) vs) (by rw [wipe_length, wipe_length]; omega), List.getElem?_eq_none (l := wipe σ vs) (by rw [wipe_length]; omega)]
  · rw [wipe_out hi]
def wipeE (env : Env) : List Nat → Env
  | [] => env
  | v :: vs => (wipeE env vs).set v none
theorem wipeE_length (env : Env) : ∀ vs : List Nat, (wipeE env vs).length = env.length
  | [] => rfl
  | v :: vs => by
    unfold wipeE
    rw [List.length_set, wipeE_length env vs]
theorem wipeE_some {env : Env} {i : Nat} {x : D} : ∀ {vs : List Nat}, (wipeE env vs)[i]? = some (some x) → env[i]? = some (some x) ∧ i ∉ vs
  | [], h => ⟨h, by simp⟩
  | v :: vs, h => by
    unfold wipeE at h
    by_cases hi : v = i
    · subst hi
      by_cases hv : v < (wipeE env vs).length
      · rw [List.getElem?_set_self hv] at h
        cases h
      · rw [List.getElem?_eq_none (by rw [List.length_set]; omega)] at h
        cases h
    · rw [List.getElem?_set_ne hi] at h
      obtain ⟨h1, h2⟩ := wipeE_some h
      exact ⟨h1, by simp only [List.mem_cons, not_or]; exact ⟨fun e => hi e.symm, h2⟩⟩
theorem EnvOk.wipe {c : Ct} {ρ : List Addr} {G : Hp} {env : Env} {σ : L2.St} (e : EnvOk c ρ G env σ) (vs : List Nat) : EnvOk c ρ G (wipeE env vs) (wipe σ vs) := by
  refine ⟨by rw [wipeE_length, wipe_length]; exact e.1, fun i d h => ?_⟩
  obtain ⟨h1, h2⟩ := wipeE_some h
  obtain ⟨v, q1, q2⟩ := e.2 i d h1
  exact ⟨v, by rw [wipe_out h2]; exact q1, q2⟩

/-! ### what is walked -/
inductive Sr where
  | fix (ds : List D) | cell (n : Nat) (rs : Bool)
abbrev FSrc := Env → Sto → R Sr
def Sr.at (μ : Sto) (i : Nat) : Sr → Option (Option D)
  | .fix ds => some ds[i]?
  | .cell n _ => match μ[n]? with
    | some (.lst .lock xs) => some xs[i]?
    | _ => none
def Sr.fuel (μ : Sto) : Sr → Nat
  | .fix ds => ds.length + 1
  | .cell n _ => match μ[n]? with
    | some (.lst _ xs) => xs.length + 1
    | _ => 0
def Sr.free (μ : Sto) : Sr → Sto
  | .cell n true => match μ[n]? with
    | some (.lst .lock xs) => μ.set n (.lst .live xs)
    | _ => μ
  | _ => μ
/-- J goes over it, from (ρ, G) on -/
def SrOk (c : Ct) (s : Sr) (J : It) (ρ0 : List Addr) (G0 : Hp) : Prop := ∀ (c' : Ct) (ρ : List Addr) (G : Hp) (μ : Sto) (H : Hp), c'.K = c.K → c'.B = c.B → ρ0 <+: ρ → Same G0 G → Rel c' ρ G μ H → ∀ (i : Nat) (o : Option D), s.at μ i = some o → match o with
  | none => J.stop i H
  | some d => J.go i H ∧ ∀ x H', J.yld i H x H' → ∃ G', Same G G' ∧ Rel c' ρ G' μ H' ∧ Rep c.K c.B ρ G' d x
def TXi (K : PySem.W.Frag) (mg : Str → Option Value) (E : XK) (f : FSrc) : TI := fun σ H R => ∃ c env ρ G μ, c.K = K ∧ c.mg = mg ∧ Rel c ρ G μ H ∧ EnvOk c ρ G env σ ∧ Fin c E ρ G (f env μ) fun s ρ' G' _ H' => ∀ J, SrOk c s J ρ' G' → R J H'
theorem Rel.free {c : Ct} {ρ : List Addr} {G H : Hp} {μ : Sto} (r : Rel c ρ G μ H) (s : Sr) : Rel c ρ G (s.free μ) H := by
  cases s with
  | fix ds => exact r
  | cell n rs =>
    cases rs with
    | false => exact r
    | true =>
      show Rel c ρ G (match μ[n]? with
        | some (.lst .lock xs) => μ.set n (.lst .live xs)
        | _ => μ) H
      split
      · rename_i xs e
        exact r.mode e fun a q => q
      · exact r
theorem PI.imp {X : Cx} {tg it : Expr} {w w' : TI} (h : PI X tg it w) (q : ∀ σ H R, w' σ H R → w σ H R) : PI X tg it w' := ⟨fun pins s σ H R I hw => h.run pins s σ H R I (q σ H R hw)⟩
section
variable {K : PySem.W.Frag} {mg : Str → Option Value} {E : XK}
def dSrc (d : D) (μ : Sto) : R Sr := match d with
  | .lst _ xs => ok (.fix xs) μ
  | .scr xs => ok (.fix (xs.map .int)) μ
  | .ref n => match μ[n]? with
    | some (.lst .live xs) => ok (.cell n true) (μ.set n (.lst .lock xs))
    | some (.lst .lock _) => ok (.cell n false) μ
    | some (.lst .fz xs) => ok (.fix xs) μ
    | _ => none
  | _ => none
/-- the list at a holds ds from now on -/
theorem sr_fix {c : Ct} {ρ0 : List Addr} {G0 : Hp} {ds : List D} {vs : List V} {a : Addr} (hs : Reps c.K c.B ρ0 G0 ds vs) (ha : ∀ (c' : Ct) (ρ : List Addr) (G : Hp) (μ : Sto) (H : Hp), c'.B = c.B → Same G0 G → Rel c' ρ G μ H → SqL c.K H a vs) : SrOk c (.fix ds) (Itl c.K a) ρ0 G0 := by
  intro c' ρ G μ H hK hB p e r i o ho
  have q := ha c' ρ G μ H hB e r
  cases ho
  have hs' := hs.mono p e
  cases ei : ds[i]? with
  | none =>
    refine ⟨vs, q, ?_⟩
    have := List.getElem?_eq_none_iff.mp ei
    rw [hs.length] at this
    exact this
  | some d =>
    obtain ⟨v, h1, h2⟩ := hs'.get ei
    refine ⟨⟨vs, v, q, h1⟩, fun x H' y => ?_⟩
    obtain ⟨rfl, y⟩ := y
    have := y vs q
    rw [h1] at this
    cases this
    exact ⟨G, Same.refl _, r, h2⟩
theorem sr_cell {c : Ct} {ρ0 : List Addr} {G0 : Hp} {n : Nat} {rs : Bool} {a : Addr} (ha : ρ0[n]? = some a) : SrOk c (.cell n rs) (Itl c.K a) ρ0 G0 := by
  intro c' ρ G μ H hK hB p e r i o ho
  have ho' : (match μ[n]? with
    | some (.lst .lock xs) => some xs[i]?
    | _ => none) = some o := ho
  split at ho'
  · rename_i xs e0
    cases ho'
    obtain ⟨_, _, vs, q1, q2⟩ := r.cl n a _ (pre_get p ha) e0
    have q : SqL c.K H a vs := .inl (.inl q1)
    rw [hK, hB] at q2
    cases ei : xs[i]? with
    | none =>
      refine ⟨vs, q, ?_⟩
      have := List.getElem?_eq_none_iff.mp ei
      rw [q2.length] at this
      exact this
    | some d =>
      obtain ⟨v, h1, h2⟩ := q2.get ei
      refine ⟨⟨vs, v, q, h1⟩, fun x H' y => ?_⟩
      obtain ⟨rfl, y⟩ := y
      have := y vs q
      rw [h1] at this
      cases this
      exact ⟨G, Same.refl _, r, h2⟩
  · cases ho'
theorem pick_same {b : Bool} {c c' : Ct} {ρ : List Addr} {G0 G H : Hp} {μ : Sto} {a : Addr} {o : HO} (hB : c'.B = c.B) (e : Same G0 G) (r : Rel c' ρ G μ H) (h : pick b c.B G0 a = some o) : H a = some o := by
  cases b with
  | true => exact r.bh _ _ (by rw [hB]; exact h)
  | false => exact r.gh _ _ (e _ _ h)
theorem txi_list {f : FE} : ∀ σ H R, TXi K mg E (fun env μ => rb (f env μ) dSrc) σ H R → iList K (TX K mg E f) σ H R := by
  rintro σ H R ⟨c, env, ρ, G, μ, hK, hm, re, eo, h⟩
  subst hK
  refine tx_use rfl hm re eo h fun d v ρ1 G1 μ1 H1 p1 e1 r1 eo1 hv h1 => ?_
  unfold dSrc at h1
  split at h1
  · obtain ⟨a, vs, rfl, q1, q2⟩ := hv
    exact ⟨a, rfl, ⟨vs, .inl (.inl (pick_h r1 q1))⟩, Fin.ok r1 h1 _ (sr_fix q2 fun c' ρ G μ H hB e r => .inl (.inl (pick_same hB e r q1)))⟩
  · obtain ⟨a, rfl, q1⟩ := hv
    exact ⟨a, rfl, ⟨_, sql_up r1.bh q1⟩, Fin.ok r1 h1 _ (sr_fix Reps.ints fun c' ρ G μ H hB e r => sql_up (by rw [← hB]; exact r.bh) q1)⟩
  · rename_i n
    obtain ⟨a, rfl, ha⟩ := hv
    split at h1
    · rename_i xs e0
      obtain ⟨_, _, vs, q1, q2⟩ := r1.cl n a _ ha e0
      exact ⟨a, rfl, ⟨vs, .inl (.inl q1)⟩, Fin.ok (r1.mode e0 (y := .lst .lock xs) fun _ q => q) h1 _ (sr_cell ha)⟩
    · rename_i xs e0
      obtain ⟨_, _, vs, q1, q2⟩ := r1.cl n a _ ha e0
      exact ⟨a, rfl, ⟨vs, .inl (.inl q1)⟩, Fin.ok r1 h1 _ (sr_cell ha)⟩
    · rename_i xs e0
      obtain ⟨vs, q1, q2⟩ := r1.cl n a _ ha e0
      exact ⟨a, rfl, ⟨vs, .inl (.inl (r1.gh _ _ q1))⟩, Fin.ok r1 h1 _ (sr_fix q2 fun c' ρ G μ H hB e r => .inl (.inl (r.gh _ _ (e _ _ q1))))⟩
    · exact fin_none h1
  · exact fin_none h1
def dSrcT (d : D) (μ : Sto) : R Sr := match d with
  | .tup xs => ok (.fix xs) μ
  | _ => none
theorem txi_tup {f : FE} : ∀ σ H R, TXi K mg E (fun env μ => rb (f env μ) dSrcT) σ H R → iTup K (TX K mg E f) σ H R := by
  rintro σ H R ⟨c, env, ρ, G, μ, hK, hm, re, eo, h⟩
  subst hK
  refine tx_use rfl hm re eo h fun d v ρ1 G1 μ1 H1 p1 e1 r1 eo1 hv h1 => ?_
  unfold dSrcT at h1
  split at h1
  · rename_i xs
    obtain ⟨a, vs, rfl, q1, q2⟩ := hv
    refine ⟨a, rfl, ⟨vs, .inl (.inl (r1.gh _ _ q1))⟩, Fin.ok r1 h1 _ ?_⟩
    intro c' ρ G μ H hK hB p e r i o ho
    have q : SqT c.K H a vs := .inl (.inl (r.gh _ _ (e _ _ q1)))
    cases ho
    have hs' := q2.mono p e
    cases ei : xs[i]? with
    | none =>
      refine ⟨vs, q, ?_⟩
      have := List.getElem?_eq_none_iff.mp ei
      rw [q2.length] at this
      exact this
    | some d =>
      obtain ⟨v, h1, h2⟩ := hs'.get ei
      refine ⟨⟨vs, v, q, h1⟩, fun x H' y => ?_⟩
      obtain ⟨rfl, y⟩ := y
      have := y vs q
      rw [h1] at this
      cases this
      exact ⟨G, Same.refl _, r, h2⟩
  · exact fin_none h1
/-- lo, lo + 1, .. -/
def rangeD (lo : Int) (n : Nat) : List D := (List.range n).map fun i => .int (lo + (i : Nat))
def dRng (ds : List D) (μ : Sto) : R Sr := match ds with
  | [.int j] => if j.toNat ≤ LIM ∧ -(2 ^ 62) ≤ j then ok (.fix (rangeD 0 j.toNat)) μ else none
  | [.int i, .int j] => if (-(2 ^ 61) ≤ i ∧ i ≤ 2 ^ 61) ∧ (-(2 ^ 61) ≤ j ∧ j ≤ 2 ^ 61) ∧ (j - i).toNat ≤ LIM then ok (.fix (rangeD i (j - i).toNat)) μ else none
  | _ => none
theorem sr_range {c : Ct} {ρ0 : List Addr} {G0 : Hp} {lo : Int} {n : Nat} : SrOk c (.fix (rangeD lo n)) (Itr lo n) ρ0 G0 := by
  intro c' ρ G μ H hK hB p e r i o ho
  cases ho
  by_cases hi : i < n
  · have e1 : (rangeD lo n)[i]? = some (.int (lo + (i : Nat))) := by
      unfold rangeD
      rw [List.getElem?_map, List.getElem?_range hi]
      rfl
    rw [e1]
    refine ⟨hi, fun x H' y => ?_⟩
    obtain ⟨rfl, rfl⟩ := y
    exact ⟨G, Same.refl _, r, rfl⟩
  · have e1 : (rangeD lo n)[i]? = none := by
      refine List.getElem?_eq_none_iff.mpr ?_
      unfold rangeD
      rw [List.length_map, List.length_range]
      omega
    rw [e1]
    show n ≤ i
    omega
theorem txi_rng1 {f : FEs} : ∀ σ H R, TXi K mg E (fun env μ => rb (f env μ) fun ds μ1 => match ds with
  | [d] => dRng [d] μ1
  | _ => none) σ H R → iRng1 (TXs K mg E f) σ H R := by
  rintro σ H R ⟨c, env, ρ, G, μ, hK, hm, re, eo, h⟩
  refine txs_use hK hm re eo h fun ds vs ρ1 G1 μ1 H1 p1 e1 r1 eo1 hv h1 => ?_
  split at h1
  · obtain ⟨v, rfl, hv1⟩ := reps1 hv
    unfold dRng at h1
    split at h1
    · rename_i j e2
      cases e2
      split at h1
      · rename_i hl
        cases hv1
        have : LIM < 2 ^ 62 := by decide
        refine ⟨j, rfl, hl.2, ?_, Fin.ok r1 h1 _ sr_range⟩
        have := hl.1
        omega
      · exact fin_none h1
    · rename_i e2
      cases e2
    · exact fin_none h1
  · exact fin_none h1
theorem txi_rng2 {f : FEs} : ∀ σ H R, TXi K mg E (fun env μ => rb (f env μ) fun ds μ1 => match ds with
  | [d, e] => dRng [d, e] μ1
  | _ => none) σ H R → iRng2 (TXs K mg E f) σ H R := by
  rintro σ H R ⟨c, env, ρ, G, μ, hK, hm, re, eo, h⟩
  refine txs_use hK hm re eo h fun ds vs ρ1 G1 μ1 H1 p1 e1 r1 eo1 hv h1 => ?_
  split at h1
  · obtain ⟨v, u, rfl, hv1, hu⟩ := reps2 hv
    unfold dRng at h1
    split at h1
    · rename_i e2
      cases e2
    · rename_i i j e2
      cases e2
      split at h1
      · rename_i hl
        cases hv1
        cases hu
        refine ⟨i, j, rfl, ?_, Fin.ok r1 h1 _ sr_range⟩
        have := hl.1
        have := hl.2.1
        omega
      · exact fin_none h1
    · exact fin_none h1
  · exact fin_none h1
/-- pairs of a place and an item -/
def enumD : Nat → List D → List D
  | _, [] => []
  | k, d :: r => .tup [.int (k : Nat), d] :: enumD (k + 1) r
theorem enumD_get : ∀ (ds : List D) (k i : Nat), (enumD k ds)[i]? = ds[i]?.map fun d => .tup [.int ((k + i : Nat) : Int), d]
  | [], _, _ => by simp [enumD]
  | d :: r, k, 0 => by simp [enumD]
  | d :: r, k, i + 1 => by
    show (enumD (k + 1) r)[i]? = _
    rw [enumD_get r (k + 1) i, show k + 1 + i = k + (i + 1) by omega]
    rfl
/-- the items of a list that nobody changes -/
def fixed (μ : Sto) : D → Option (List D)
  | .lst _ xs => some xs
  | .scr xs => some (xs.map .int)
  | .ref n => match μ[n]? with
    | some (.lst .fz xs) => some xs
    | _ => none
  | _ => none
theorem fixed_ok {c : Ct} {ρ : List Addr} {G H : Hp} {μ : Sto} (r : Rel c ρ G μ H) {d : D} {v : V} {xs : List D} (h : fixed μ d = some xs) (hv : Rep c.K c.B ρ G d v) : ∃ a vs, v = .ref a ∧ Reps c.K c.B ρ G xs vs ∧ ∀ (c' : Ct) (ρ' : List Addr) (G' : Hp) (μ' : Sto) (H' : Hp), c'.B = c.B → Same G G' → Rel c' ρ' G' μ' H' → SqL c.K H' a vs := by
  unfold fixed at h
  split at h
  · cases h
    obtain ⟨a, vs, rfl, q1, q2⟩ := hv
    exact ⟨a, vs, rfl, q2, fun c' ρ' G' μ' H' hB e r' => .inl (.inl (pick_same hB e r' q1))⟩
  · cases h
    obtain ⟨a, rfl, q1⟩ := hv
    exact ⟨a, _, rfl, Reps.ints, fun c' ρ' G' μ' H' hB e r' => sql_up (by rw [← hB]; exact r'.bh) q1⟩
  · rename_i n
    split at h
    · rename_i ys e0
      cases h
      obtain ⟨a, rfl, ha⟩ := hv
      obtain ⟨vs, q1, q2⟩ := r.cl n a _ ha e0
      exact ⟨a, vs, rfl, q2, fun c' ρ' G' μ' H' hB e r' => .inl (.inl (r'.gh _ _ (e _ _ q1)))⟩
    · cases h
  · cases h
def dEnum (ds : List D) (μ : Sto) : R Sr := match ds with
  | [d] => match fixed μ d with
    | some xs => ok (.fix (enumD 0 xs)) μ
    | none => none
  | _ => none
theorem txi_enum {f : FEs} : ∀ σ H R, TXi K mg E (fun env μ => rb (f env μ) dEnum) σ H R → iEnum K (TXs K mg E f) σ H R := by
  rintro σ H R ⟨c, env, ρ, G, μ, hK, hm, re, eo, h⟩
  subst hK
  refine txs_use rfl hm re eo h fun ds vs ρ1 G1 μ1 H1 p1 e1 r1 eo1 hv h1 => ?_
  unfold dEnum at h1
  split at h1
  · obtain ⟨v, rfl, hv1⟩ := reps1 hv
    split at h1
    · rename_i xs e0
      obtain ⟨a, us, rfl, q1, q2⟩ := fixed_ok r1 e0 hv1
      refine ⟨a, us, rfl, q2 c ρ1 G1 μ1 H1 rfl (Same.refl _) r1, Fin.ok r1 h1 _ ?_⟩
      intro c' ρ G μ H hK hB p e r i o ho
      have q := q2 c' ρ G μ H hB e r
      have q1' := q1.mono p e
      cases ho
      rw [enumD_get]
      cases ei : xs[i]? with
      | none =>
        refine ⟨us, q, ?_⟩
        have := List.getElem?_eq_none_iff.mp ei
        rw [q1.length] at this
        exact this
      | some d =>
        obtain ⟨v, w1, w2⟩ := q1'.get ei
        refine ⟨⟨us, v, q, w1⟩, fun x H' y => ?_⟩
        obtain ⟨T, z, rfl, hT, rfl, y⟩ := y
        have := y us q
        rw [w1] at this
        cases this
        refine ⟨_, same_upd (r.none_g hT), r.frozen hT, rep_updT (r.none_g hT) (xs := [.int ((0 + i : Nat) : Int), d]) ⟨_, _, rfl, ?_, _, _, rfl, w2, rfl⟩⟩
        rw [Nat.zero_add]
        rfl
    · exact fin_none h1
  · exact fin_none h1
def zipD : List D → List D → List D
  | d :: r, e :: s => .tup [d, e] :: zipD r s
  | _, _ => []
def both : Option D → Option D → Option D
  | some d, some e => some (.tup [d, e])
  | _, _ => none
theorem zipD_get : ∀ (ds es : List D) (i : Nat), (zipD ds es)[i]? = both ds[i]? es[i]?
  | [], _, _ => by simp [zipD, both]
  | d :: r, [], i => by
    show (none : Option D) = _
    cases (d :: r)[i]? <;> rfl
  | d :: r, e :: s, 0 => by simp [zipD, both]
  | d :: r, e :: s, i + 1 => by
    show (zipD r s)[i]? = _
    rw [zipD_get r s i]
    rfl
def dZip (ds : List D) (μ : Sto) : R Sr := match ds with
  | [d, e] => match fixed μ d, fixed μ e with
    | some xs, some ys => ok (.fix (zipD xs ys)) μ
    | _, _ => none
  | _ => none
theorem txi_zip {f : FEs} : ∀ σ H R, TXi K mg E (fun env μ => rb (f env μ) dZip) σ H R → iZip K (TXs K mg E f) σ H R := by
  rintro σ H R ⟨c, env, ρ, G, μ, hK, hm, re, eo, h⟩
  subst hK
  refine txs_use rfl hm re eo h fun ds vs ρ1 G1 μ1 H1 p1 e1 r1 eo1 hv h1 => ?_
  unfold dZip at h1
  split at h1
  · obtain ⟨v, u, rfl, hv1, hu⟩ := reps2 hv
    split at h1
    · rename_i xs ys e0 e0'
      obtain ⟨a, us, rfl, q1, q2⟩ := fixed_ok r1 e0 hv1
      obtain ⟨b, ws, rfl, k1, k2⟩ := fixed_ok r1 e0' hu
      refine ⟨a, b, us, ws, rfl, q2 c ρ1 G1 μ1 H1 rfl (Same.refl _) r1, k2 c ρ1 G1 μ1 H1 rfl (Same.refl _) r1, Fin.ok r1 h1 _ ?_⟩
      intro c' ρ G μ H hK hB p e r i o ho
      have q := q2 c' ρ G μ H hB e r
      have k := k2 c' ρ G μ H hB e r
      have q1' := q1.mono p e
      have k1' := k1.mono p e
      cases ho
      rw [zipD_get]
      cases ei : xs[i]? with
      | none =>
        refine ⟨us, ws, q, k, .inl ?_⟩
        have := List.getElem?_eq_none_iff.mp ei
        rw [q1.length] at this
        exact this
      | some d =>
        cases ej : ys[i]? with
        | none =>
          refine ⟨us, ws, q, k, .inr ?_⟩
          have := List.getElem?_eq_none_iff.mp ej
          rw [k1.length] at this
          exact this
        | some d' =>
          obtain ⟨v, w1, w2⟩ := q1'.get ei
          obtain ⟨v', w1', w2'⟩ := k1'.get ej
          refine ⟨⟨us, ws, v, v', q, k, w1, w1'⟩, fun x H' y => ?_⟩
          obtain ⟨T, z, z', rfl, hT, rfl, y, y'⟩ := y
          have h1 := y us q
          rw [w1] at h1
          cases h1
          have h2 := y' ws k
          rw [w1'] at h2
          cases h2
          exact ⟨_, same_upd (r.none_g hT), r.frozen hT, rep_updT (r.none_g hT) (xs := [d, d']) ⟨_, _, rfl, w2, _, _, rfl, w2', rfl⟩⟩
    · exact fin_none h1
  · exact fin_none h1
end

/-! ### comprehensions -/
def noErr {α : Type} (r : R α) : R α := match r with
  | some (.error _) => none
  | r => r
theorem noErr_ok {α : Type} (a : α) (μ : Sto) : noErr (ok a μ) = ok a μ := rfl
def E0 : XK := fun _ _ _ => False
theorem Fin.noErr {c : Ct} {E E' : XK} {ρ : List Addr} {G : Hp} {α : Type} {r : R α} {Q : α → List Addr → Hp → Sto → Hp → Prop} (h : Fin c E ρ G (Lv.noErr r) Q) : Fin c E' ρ G r Q := by
  match r, h with
  | some (.ok (a, μ)), h => exact h
def condT (cond : Option FE) (env : Env) (μ : Sto) : R D := match cond with
  | none => ok (.bl true) μ
  | some f => noErr (f env μ)
def compN (tg : Tg) (cond : Option FE) (elt : FE) (s : Sr) (env : Env) : Nat → Nat → Sto → R (List D)
  | 0, _, _ => none
  | n + 1, i, μ => match s.at μ i with
    | none => none
    | some none => ok [] μ
    | some (some d) => match tg.bind d env with
      | none => none
      | some env' => rb (condT cond env' μ) fun t μ1 => match t with
        | .bl true => rb (noErr (elt env' μ1)) fun y μ2 => rb (compN tg cond elt s env n (i + 1) μ2) fun ys μ3 => ok (y :: ys) μ3
        | .bl false => compN tg cond elt s env n (i + 1) μ1
        | _ => none
def fComp (lv : Bool) (src : FSrc) (tg : Tg) (cond : Option FE) (elt : FE) (own : List Nat) : FE := fun env μ => rb (src env μ) fun s μ1 => if s.fuel μ1 ≤ LIM then rb (compN tg cond elt s (wipeE env own) (s.fuel μ1) 0 μ1) fun ys μ2 => alloc lv ys (s.free μ2) else none
def ttOf (K : PySem.W.Frag) (mg : Str → Option Value) (cond : Option FE) : TT := match cond with
  | none => tYes
  | some f => TXb K mg E0 f
theorem rb_assoc {α β γ : Type} (r : R α) (k : α → Sto → R β) (l : β → Sto → R γ) : rb (rb r k) l = rb r fun a μ => rb (k a μ) l := by
  cases r with
  | none => rfl
  | some e =>
    cases e with
    | error x => rfl
    | ok p => rfl
theorem comp_alloc {c : Ct} {E : XK} {ρ0 ρ : List Addr} {G0 G H : Hp} {μ : Sto} {K : PySem.W.Frag} {lv : Bool} {xs : List D} {vs : List V} {Q : VK} {p : Addr} (hK : c.K = K) (p0 : ρ0 <+: ρ) (g0 : Same G0 G) (r : Rel (c.pin p (.lst vs)) ρ G μ H) (hP : c.P p = none) (hs : Reps K c.B ρ G xs vs)
    (h : Fin c E ρ0 G0 (alloc lv xs μ) fun d ρ' G' _ H' => ∀ v, Rep K c.B ρ' G' d v → Q v H') : Q (.ref p) H := by
  subst hK
  obtain ⟨q1, q2, q3⟩ := r.gp p _ upd_same
  cases lv with
  | false => exact Fin.ok_at p0 (g0.trans (same_upd q1)) (r.unpin_fz hP fun _ z => by cases z) h _ (rep_upd q1 hs)
  | true =>
    refine Fin.ok_at (p0.trans (List.prefix_append _ _)) g0 (r.unpin_cell (x := .lst .live xs) hP ⟨q3, q1, vs, r.pin_at, hs.mono (List.prefix_append _ _) (Same.refl _)⟩) h _ ⟨p, rfl, ?_⟩
    rw [List.getElem?_append_right (by rw [r.ln]; exact Nat.le_refl _), r.ln, Nat.sub_self]
    rfl
theorem tx_comp {K : PySem.W.Frag} {mg : Str → Option Value} {E : XK} {lv : Bool} {src : FSrc} {tg : Tg} {cond : Option FE} {elt : FE} {own : List Nat} (hown : ∀ i ∈ tg.slots, i ∈ own) :
    ∀ σ H Q, TX K mg E (fComp lv src tg cond elt own) σ H Q → tLc (TXi K mg E src) (tg.g K) (ttOf K mg cond) (TX K mg E0 elt) own σ H Q := by
  rintro σ H Q ⟨c, env, ρ, G, μ, hK, hm, re, eo, h⟩
  subst hK
  refine ⟨c, env, ρ, G, μ, rfl, hm, re, eo, h.bind.imp fun s ρ1 G1 μ1 H1 p1 e1 r1 h1 J hJ D hD => ?_⟩
  have eo1 := eo.up p1 e1
  split at h1
  case isFalse => exact fin_none h1
  rename_i hf
  have hP : c.P D = none := r1.none_p hD
  refine ⟨fun i m H' => ∃ ρ' G' μ' acc vs, ρ1 <+: ρ' ∧ Same G1 G' ∧ Rel (c.pin D (.lst vs)) ρ' G' μ' H' ∧ Reps c.K c.B ρ' G' acc vs ∧ acc.length ≤ i ∧ i + m ≤ LIM ∧
      Fin c E ρ1 G1 (rb (compN tg cond elt s (wipeE env own) m i μ') fun ys μ2 => alloc lv (acc ++ ys) (s.free μ2)) (fun d ρ' G' _ H' => ∀ v, Rep c.K c.B ρ' G' d v → Q v H'), ⟨s.fuel μ1, ρ1, G1, μ1, [], [], List.prefix_refl _, Same.refl _, r1.pinned hD (fun _ z => by cases z), rfl, Nat.zero_le _, by omega, h1⟩, ?_⟩
  rintro i m H' ⟨ρ', G', μ', acc, vs, p2, e2, r2, hs, ha, hm', h2⟩
  cases m with
  | zero => exact fin_none h2
  | succ m =>
    unfold compN at h2
    have hj := hJ (c.pin D (.lst vs)) ρ' G' μ' H' rfl rfl p2 e2 r2 i
    cases eo' : s.at μ' i with
    | none =>
      simp only [eo'] at h2
      exact fin_none h2
    | some o =>
      have hj' := hj o eo'
      cases o with
      | none =>
        simp only [eo'] at h2
        rw [rb_ok, List.append_nil] at h2
        exact .inl ⟨hj', comp_alloc rfl p2 e2 (r2.free s) hP hs h2⟩
      | some d =>
        simp only [eo'] at h2
        refine .inr ⟨hj'.1, _, fun H3 q => ⟨m, Nat.lt_succ_self m, q⟩, fun x H3 hy => ?_⟩
        obtain ⟨G3, e3, r3, hx⟩ := hj'.2 x H3 hy
        cases eb : tg.bind d (wipeE env own) with
        | none =>
          rw [eb] at h2
          exact fin_none h2
        | some env' =>
          simp only [eb] at h2
          rw [rb_assoc] at h2
          have eo3 : EnvOk (c.pin D (.lst vs)) ρ' G3 (wipeE env own) (wipe σ own) := (eo1.up p2 (e2.trans e3)).wipe own
          refine tg_ok (c := c.pin D (.lst vs)) r3 eo3 hx eb fun σ2 eo4 t => ⟨by rw [wipe_touch t hown, wipe_wipe], ?_⟩
          -- the element is made: it goes into the list
          have fin1 : ∀ {μ3 : Sto} {ρ3 : List Addr} {G4 : Hp} {H4 : Hp}, ρ' <+: ρ3 → Same G3 G4 → Rel (c.pin D (.lst vs)) ρ3 G4 μ3 H4 → EnvOk (c.pin D (.lst vs)) ρ3 G4 env' σ2 →
              Fin c E ρ1 G1 (rb (rb (noErr (elt env' μ3)) fun y μ2 => rb (compN tg cond elt s (wipeE env own) m (i + 1) μ2) fun ys μ3 => ok (y :: ys) μ3) fun ys μ2 => alloc lv (acc ++ ys) (s.free μ2)) (fun d ρ' G' _ H' => ∀ v, Rep c.K c.B ρ' G' d v → Q v H') →
              TX c.K mg E0 elt σ2 H4 fun y H5 => ∃ acc, H5 D = some (.lst acc) ∧ acc.length < sizeLine ∧ ∃ ρ' G' μ' acc' vs, ρ1 <+: ρ' ∧ Same G1 G' ∧ Rel (c.pin D (.lst vs)) ρ' G' μ' (upd H5 D (.lst (acc ++ [y]))) ∧ Reps c.K c.B ρ' G' acc' vs ∧ acc'.length ≤ i + 1 ∧ i + 1 + m ≤ LIM ∧
                Fin c E ρ1 G1 (rb (compN tg cond elt s (wipeE env own) m (i + 1) μ') fun ys μ2 => alloc lv (acc' ++ ys) (s.free μ2)) (fun d ρ' G' _ H' => ∀ v, Rep c.K c.B ρ' G' d v → Q v H') := fun {μ3 ρ3 G4 H4} p3 e4 r4 eo5 h3 => by
            refine ⟨c.pin D (.lst vs), env', ρ3, G4, μ3, rfl, hm, r4, eo5, ?_⟩
            cases er : elt env' μ3 with
            | none =>
              rw [er] at h3
              exact fin_none h3
            | some e =>
              cases e with
              | error x =>
                rw [er] at h3
                exact fin_none h3
              | ok pr =>
                obtain ⟨y, μ4⟩ := pr
                rw [er] at h3
                have h3' : Fin c E ρ1 G1 (rb (rb (compN tg cond elt s (wipeE env own) m (i + 1) μ4) fun ys μ3 => ok (y :: ys) μ3) fun ys μ2 => alloc lv (acc ++ ys) (s.free μ2)) (fun d ρ' G' _ H' => ∀ v, Rep c.K c.B ρ' G' d v → Q v H') := h3
                rw [rb_assoc] at h3'
                intro ρ4 G5 H5 p4 e5 r5 v hv
                have hs5 := (hs.mono (p3.trans p4) ((e3.trans e4).trans e5)).append (.one hv)
                have hl := hs.length
                refine ⟨vs, r5.pin_at, ?_, ρ4, G5, μ4, acc ++ [y], vs ++ [v], (p2.trans p3).trans p4, ((e2.trans e3).trans e4).trans e5, r5.repin (fun _ z => by cases z), hs5, by rw [List.length_append, List.length_singleton]; omega, by omega, ?_⟩
                · rw [← hl]
                  have : LIM < sizeLine := by decide
                  omega
                · simp only [rb_ok] at h3'
                  simpa only [List.append_assoc, List.singleton_append] using h3'
          cases cond with
          | none => exact fin1 (List.prefix_refl _) (Same.refl _) r3 eo4 h2
          | some cf =>
            refine ⟨c.pin D (.lst vs), env', ρ', G3, μ', rfl, hm, r3, eo4, ?_⟩
            cases er : cf env' μ' with
            | none =>
              simp only [condT, er] at h2
              exact fin_none h2
            | some e =>
              cases e with
              | error x =>
                simp only [condT, er] at h2
                exact fin_none h2
              | ok pr =>
                obtain ⟨y, μ4⟩ := pr
                simp only [condT, er] at h2
                intro ρ4 G5 H5 p4 e5 r5
                have h3 : Fin c E ρ1 G1 (rb (match y with
                  | .bl true => rb (noErr (elt env' μ4)) fun y μ2 => rb (compN tg (some cf) elt s (wipeE env own) m (i + 1) μ2) fun ys μ3 => ok (y :: ys) μ3
                  | .bl false => compN tg (some cf) elt s (wipeE env own) m (i + 1) μ4
                  | _ => none) fun ys μ2 => alloc lv (acc ++ ys) (s.free μ2)) (fun d ρ' G' _ H' => ∀ v, Rep c.K c.B ρ' G' d v → Q v H') := h2
                cases y with
                | bl b =>
                  refine ⟨b, rfl, ?_⟩
                  cases b with
                  | true => exact fin1 p4 e5 r5 (eo4.up p4 e5) h3
                  | false => exact ⟨ρ4, G5, μ4, acc, vs, p2.trans p4, (e2.trans e3).trans e5, r5, hs.mono p4 (e3.trans e5), by omega, by omega, h3⟩
                | _ => exact fin_none h3
end Lv

set_option Elab.async false
set_option linter.all false
set_option maxRecDepth 100000
set_option autoImplicit false
/-! lists' methods; statements -/
namespace Lv
open PySem PySem.Spec PyProof.Rows L2

/-! ### methods -/
inductive Mth where
  | append | extend | pop | popAt | remove | insert | clear | reverse | index
def live (μ : Sto) : D → Option (Nat × List D)
  | .ref n => match μ[n]? with
    | some (.lst .live xs) => some (n, xs)
    | _ => none
  | _ => none
theorem live_ok {c : Ct} {ρ : List Addr} {G H : Hp} {μ : Sto} (r : Rel c ρ G μ H) {d : D} {v : V} {n : Nat} {xs : List D} (h : live μ d = some (n, xs)) (hv : Rep c.K c.B ρ G d v) :
    ∃ a vs, v = .ref a ∧ ρ[n]? = some a ∧ c.B a = none ∧ G a = none ∧ H a = some (.lst vs) ∧ Reps c.K c.B ρ G xs vs := by
  unfold live at h
  split at h
  · rename_i m
    split at h
    · rename_i ys e0
      cases h
      obtain ⟨a, rfl, ha⟩ := hv
      obtain ⟨q0, q1, vs, q2, q3⟩ := r.cl n a _ ha e0
      exact ⟨a, vs, rfl, ha, q0, q1, q2, q3⟩
    · cases h
  · cases h
def idxOf (k : Int) : List Int → Nat → Option Nat
  | [], _ => none
  | x :: r, i => if x = k then some i else idxOf k r (i + 1)
theorem idxOf_ok {k : Int} : ∀ {ns : List Int} {i j : Nat}, idxOf k ns i = some j → i ≤ j ∧ ns[j - i]? = some k ∧ ∀ m, m < j - i → ns[m]? ≠ some k
  | [], _, _, h => by cases h
  | x :: r, i, j, h => by
    unfold idxOf at h
    split at h
    · rename_i e
      cases h
      refine ⟨Nat.le_refl _, ?_, fun m hm => ?_⟩
      · rw [Nat.sub_self, ← e]
        rfl
      · omega
    · rename_i e
      obtain ⟨h1, h2, h3⟩ := idxOf_ok h
      have ej : j - i = (j - (i + 1)) + 1 := by omega
      refine ⟨by omega, ?_, fun m hm => ?_⟩
      · rw [ej]
        exact h2
      · cases m with
        | zero =>
          intro z
          exact e (Option.some.inj z)
        | succ m => exact h3 m (by omega)
def dMth (m : Mth) (d : D) (ds : List D) (μ : Sto) : R D := match m with
  | .index => match ds with
    | [.int k] => match (seeL μ d).bind intsD with
      | some ns => match idxOf k ns 0 with
        | some j => ok (.int (j : Nat)) μ
        | none => none
      | none => none
    | _ => none
  | m => match live μ d with
    | none => none
    | some (n, xs) => match m, ds with
      | .append, [y] => if xs.length < LIM then ok .non (μ.set n (.lst .live (xs ++ [y]))) else none
      | .extend, [e] => match see μ e with
        | some ys => if xs.length + ys.length ≤ LIM then ok .non (μ.set n (.lst .live (xs ++ ys))) else none
        | none => none
      | .pop, [] => match xs[xs.length - 1]? with
        | some y => ok y (μ.set n (.lst .live xs.dropLast))
        | none => none
      | .popAt, [.int i] => match ixN xs.length i with
        | some k => match xs[k]? with
          | some y => if i.natAbs ≤ LIM then ok y (μ.set n (.lst .live (xs.eraseIdx k))) else none
          | none => none
        | none => none
      | .remove, [.int k] => match intsD xs with
        | some ns => match idxOf k ns 0 with
          | some j => ok .non (μ.set n (.lst .live ((ns.eraseIdx j).map D.int)))
          | none => none
        | none => none
      | .insert, [.int i, y] => if xs.length < LIM ∧ 0 ≤ i ∧ i.natAbs ≤ LIM then ok .non (μ.set n (.lst .live (xs.take i.toNat ++ [y] ++ xs.drop i.toNat))) else none
      | .clear, [] => ok .non (μ.set n (.lst .live []))
      | .reverse, [] => ok .non (μ.set n (.lst .live xs.reverse))
      | _, _ => none
def Mth.r (K : PySem.W.Frag) : Mth → V → List V → Hp → VK → Prop
  | .append => rAppend | .extend => rExtend | .pop => rPop | .popAt => rPopAt | .remove => rRemI | .clear => rClear | .reverse => rReverse | .index => rIndex K
  | .insert => fun x vs H Q => ∃ (l : Addr) (xs : List V) (i : Int) (y : V), x = .ref l ∧ vs = [.int i, y] ∧ H l = some (.lst xs) ∧ xs.length < sizeLine ∧ 0 ≤ i ∧ i < 2 ^ 63 ∧ Q .non (upd H l (.lst (xs.take i.toNat ++ [y] ++ xs.drop i.toNat)))
def Mth.id : Mth → String
  | .append => "list.append" | .extend => "list.extend" | .pop => "list.pop" | .popAt => "list.pop" | .remove => "list.remove" | .insert => "list.insert" | .clear => "list.clear" | .reverse => "list.reverse" | .index => "list.index"
def Mth.nm : Mth → Str
  | .append => "append" | .extend => "extend" | .pop => "pop" | .popAt => "pop" | .remove => "remove" | .insert => "insert" | .clear => "clear" | .reverse => "reverse" | .index => "index"
theorem Mth.slot (m : Mth) : Slot "list" m.nm m.id := by
  cases m with
  | append => exact PySem.F.slot_list_append
  | extend => exact PySem.F.slot_list_extend
  | pop => exact PySem.F.slot_list_pop
  | popAt => exact PySem.F.slot_list_pop
  | remove => exact PySem.F.slot_list_remove
  | insert => exact PySem.F.slot_list_insert
  | clear => exact PySem.F.slot_list_clear
  | reverse => exact PySem.F.slot_list_reverse
  | index => exact PySem.F.slot_list_index
theorem Mth.ty (m : Mth) : typeOf (.builtin m.id) = pure (.type "method_descriptor") := by
  cases m with
  | append => exact PySem.F.type_list_append
  | extend => exact PySem.F.type_list_extend
  | pop => exact PySem.F.type_list_pop
  | popAt => exact PySem.F.type_list_pop
  | remove => exact PySem.F.type_list_remove
  | insert => exact PySem.F.type_list_insert
  | clear => exact PySem.F.type_list_clear
  | reverse => exact PySem.F.type_list_reverse
  | index => exact PySem.F.type_list_index
theorem Mth.mt {X : Cx} (m : Mth) : MtR X m.id (m.r X.K) := by
  cases m with
  | append => exact mt_append
  | extend => exact mt_extend
  | pop => exact mt_pop
  | popAt => exact mt_popAt
  | remove => exact mt_remove
  | insert => exact mt_insert
  | clear => exact mt_clear
  | reverse => exact mt_reverse
  | index => exact mt_index
theorem Reps.dropLast {K : PySem.W.Frag} {B : Hp} {ρ : List Addr} {G : Hp} {ds : List D} {vs : List V} (h : Reps K B ρ G ds vs) : Reps K B ρ G ds.dropLast vs.dropLast := by
  rw [List.dropLast_eq_take, List.dropLast_eq_take, h.length]
  exact h.take _
theorem all_flat : ∀ ns : List Int, (ns.map V.int).all flatV = true
  | [] => rfl
  | n :: r => by
    show (flatV (.int n) && (r.map V.int).all flatV) = true
    rw [all_flat r]
    rfl
section
variable {c : Ct} {E : XK} {ρ : List Addr} {G H : Hp} {μ : Sto} {K : PySem.W.Frag}
/-- a live list is written, a value handed back -/
theorem wr_use {n : Nat} {a : Addr} {xs : List D} {vs : List V} {Q : VK} {d : D} {v : V} (hK : c.K = K) (r : Rel c ρ G μ H) (ha : ρ[n]? = some a) (hb : c.B a = none) (hg : G a = none) (hs : Reps K c.B ρ G xs vs) (hv : Rep K c.B ρ G d v)
    (h : Fin c E ρ G (ok d (μ.set n (.lst .live xs))) fun d ρ' G' _ H' => ∀ v, Rep K c.B ρ' G' d v → Q v H') : Q v (upd H a (.lst vs)) := by
  subst hK
  exact Fin.ok (r.write (o := .lst vs) (x := .lst .live xs) ha hg hb (fun _ z => by cases z) ⟨hb, hg, vs, upd_same, hs⟩) h v hv
theorem mth_ok (m : Mth) {d : D} {ds : List D} {x : V} {vs : List V} {Q : VK} (hK : c.K = K) (r : Rel c ρ G μ H) (hx : Rep K c.B ρ G d x) (hs : Reps K c.B ρ G ds vs)
    (h : Fin c E ρ G (dMth m d ds μ) fun d ρ' G' _ H' => ∀ v, Rep K c.B ρ' G' d v → Q v H') : m.r K x vs H Q := by
  subst hK
  by_cases hi : m = .index
  · subst hi
    unfold dMth at h
    simp only at h
    split at h
    · rename_i k
      obtain ⟨u, rfl, hu⟩ := reps1 hs
      cases hu
      split at h
      · rename_i ns e1
        split at h
        · rename_i j e2
          obtain ⟨a, us, rfl, h1, h2⟩ := seeL_ok r (bind_ints e1) hx
          rw [rep_ints h2] at h1
          obtain ⟨_, h4, h5⟩ := idxOf_ok e2
          rw [Nat.sub_zero] at h4 h5
          refine ⟨a, _, _, j, .int k, rfl, rfl, h1, rfl, all_flat ns, ?_, ?_, fun m z hm hz => ?_, Fin.ok r h _ rfl⟩
          · rw [List.getElem?_map, h4]
            rfl
          · show (k == k) = true
            simp
          · rw [List.getElem?_map] at hz
            cases e3 : ns[m]? with
            | none =>
              rw [e3] at hz
              cases hz
            | some w =>
              rw [e3] at hz
              cases hz
              show (w == k) = false
              have := h5 m hm
              rw [e3] at this
              exact beq_eq_false_iff_ne.mpr fun e => this (by rw [e])
        · exact fin_none h
      · exact fin_none h
    · exact fin_none h
  · have h' : Fin c E ρ G (match live μ d with
      | none => none
      | some (n, xs) => match m, ds with
        | .append, [y] => if xs.length < LIM then ok .non (μ.set n (.lst .live (xs ++ [y]))) else none
        | .extend, [e] => match see μ e with
          | some ys => if xs.length + ys.length ≤ LIM then ok .non (μ.set n (.lst .live (xs ++ ys))) else none
          | none => none
        | .pop, [] => match xs[xs.length - 1]? with
          | some y => ok y (μ.set n (.lst .live xs.dropLast))
          | none => none
        | .popAt, [.int i] => match ixN xs.length i with
          | some k => match xs[k]? with
            | some y => if i.natAbs ≤ LIM then ok y (μ.set n (.lst .live (xs.eraseIdx k))) else none
            | none => none
          | none => none
        | .remove, [.int k] => match intsD xs with
          | some ns => match idxOf k ns 0 with
            | some j => ok .non (μ.set n (.lst .live ((ns.eraseIdx j).map D.int)))
            | none => none
          | none => none
        | .insert, [.int i, y] => if xs.length < LIM ∧ 0 ≤ i ∧ i.natAbs ≤ LIM then ok .non (μ.set n (.lst .live (xs.take i.toNat ++ [y] ++ xs.drop i.toNat))) else none
        | .clear, [] => ok .non (μ.set n (.lst .live []))
        | .reverse, [] => ok .non (μ.set n (.lst .live xs.reverse))
        | _, _ => none) (fun d ρ' G' _ H' => ∀ v, Rep c.K c.B ρ' G' d v → Q v H') := by
      cases m <;> first | exact h | exact absurd rfl hi
    cases el : live μ d with
    | none =>
      rw [el] at h'
      exact fin_none h'
    | some p =>
      obtain ⟨n, xs⟩ := p
      rw [el] at h'
      simp only at h'
      obtain ⟨a, us, rfl, ha, hb, hg, hH, hr⟩ := live_ok r el hx
      have hl := hr.length
      have hsz : LIM < sizeLine := by decide
      split at h'
      · split at h'
        · rename_i y hlt
          obtain ⟨u, rfl, hu⟩ := reps1 hs
          exact ⟨a, us, u, rfl, rfl, hH, by omega, wr_use rfl r ha hb hg (hr.append (.one hu)) (d := .non) rfl h'⟩
        · exact fin_none h'
      · split at h'
        · rename_i ys e1
          split at h'
          · rename_i hlt
            obtain ⟨u, rfl, hu⟩ := reps1 hs
            obtain ⟨b, ws, rfl, h1, h2⟩ := see_ok r e1 hu
            have hl2 := h2.length
            exact ⟨a, b, us, ws, rfl, rfl, hH, h1, by omega, wr_use rfl r ha hb hg (hr.append h2) (d := .non) rfl h'⟩
          · exact fin_none h'
        · exact fin_none h'
      · split at h'
        · rename_i y e1
          cases hs
          obtain ⟨u, h1, h2⟩ := hr.get e1
          rw [hl] at h1
          exact ⟨a, us, u, rfl, rfl, hH, h1, wr_use rfl r ha hb hg hr.dropLast h2 h'⟩
        · exact fin_none h'
      · split at h'
        · rename_i k e1
          split at h'
          · rename_i y e2
            split at h'
            · rename_i hz
              obtain ⟨u, rfl, hu⟩ := reps1 hs
              cases hu
              obtain ⟨w, h1, h2⟩ := hr.get e2
              rw [hl] at e1
              obtain ⟨q1, q2, q3, q4⟩ := ixN_seq e1
              have h63 : LIM < 2 ^ 63 := by decide
              exact ⟨a, us, _, k, w, rfl, rfl, hH, by omega, by omega, q1, h1, wr_use rfl r ha hb hg (hr.eraseIdx k) h2 h'⟩
            · exact fin_none h'
          · exact fin_none h'
        · exact fin_none h'
      · split at h'
        · rename_i ns e1
          split at h'
          · rename_i j e2
            obtain ⟨u, rfl, hu⟩ := reps1 hs
            cases hu
            have ex := ints_eq e1
            subst ex
            have ev := rep_ints hr
            subst ev
            obtain ⟨_, h4, h5⟩ := idxOf_ok e2
            rw [Nat.sub_zero] at h4 h5
            exact ⟨a, ns, _, j, rfl, rfl, hH, h4, h5, wr_use rfl r ha hb hg Reps.ints (d := .non) rfl h'⟩
          · exact fin_none h'
        · exact fin_none h'
      · split at h'
        · rename_i hlt
          obtain ⟨u, w, rfl, hu, hw⟩ := reps2 hs
          cases hu
          have h63 : LIM < 2 ^ 63 := by decide
          have := hlt.2.2
          exact ⟨a, us, _, w, rfl, rfl, hH, by have := hlt.1; omega, hlt.2.1, by have := hlt.2.1; omega, wr_use rfl r ha hb hg (((hr.take _).append (.one hw)).append (hr.drop _)) (d := .non) rfl h'⟩
        · exact fin_none h'
      · cases hs
        exact ⟨a, us, rfl, rfl, hH, wr_use rfl r ha hb hg (xs := []) rfl (d := .non) rfl h'⟩
      · cases hs
        exact ⟨a, us, rfl, rfl, hH, wr_use rfl r ha hb hg hr.reverse (d := .non) rfl h'⟩
      · exact fin_none h'
end
def isList (μ : Sto) (d : D) : Bool := (seeL μ d).isSome
def fMth (m : Mth) (ft : FE) (fs : FEs) : FE := fun env μ => rb (ft env μ) fun d μ1 => if isList μ1 d = true then rb (fs env μ1) fun ds μ2 => dMth m d ds μ2 else none
def fMth0 (m : Mth) (ft : FE) : FE := fun env μ => rb (ft env μ) fun d μ1 => if isList μ1 d = true then dMth m d [] μ1 else none
section
variable {K : PySem.W.Frag} {mg : Str → Option Value} {E : XK}
theorem isList_ok {c : Ct} {ρ : List Addr} {G H : Hp} {μ : Sto} (r : Rel c ρ G μ H) {d : D} {v : V} (h : isList μ d = true) (hv : Rep c.K c.B ρ G d v) : tyV c.K "list" v H := by
  unfold isList at h
  cases e : seeL μ d with
  | none =>
    rw [e] at h
    cases h
  | some xs =>
    obtain ⟨a, vs, rfl, h1, h2⟩ := seeL_ok r e hv
    exact .inl ⟨rfl, vs, h1⟩
theorem tx_mth {m : Mth} {ft : FE} {fs : FEs} : ∀ σ H Q, TX K mg E (fMth m ft fs) σ H Q → tBM K "list" (m.r K) (TX K mg E ft) (TXs K mg E fs) σ H Q := by
  rintro σ H Q ⟨c, env, ρ, G, μ, hK, hm, re, eo, h⟩
  subst hK
  refine tx_use rfl hm re eo h fun d v ρ1 G1 μ1 H1 p1 e1 r1 eo1 hv h1 => ?_
  split at h1
  · rename_i hl
    refine ⟨isList_ok r1 hl hv, txs_use rfl hm r1 eo1 h1 fun ds vs ρ2 G2 μ2 H2 p2 e2 r2 eo2 hvs h2 => ?_⟩
    exact mth_ok m rfl r2 (hv.mono p2 e2) hvs h2
  · exact fin_none h1
theorem tx_mth0 {m : Mth} {ft : FE} : ∀ σ H Q, TX K mg E (fMth0 m ft) σ H Q → tBM0 K "list" (m.r K) (TX K mg E ft) σ H Q := by
  rintro σ H Q ⟨c, env, ρ, G, μ, hK, hm, re, eo, h⟩
  subst hK
  refine tx_use rfl hm re eo h fun d v ρ1 G1 μ1 H1 p1 e1 r1 eo1 hv h1 => ?_
  split at h1
  · rename_i hl
    exact ⟨isList_ok r1 hl hv, mth_ok m rfl r1 hv (ds := []) rfl h1⟩
  · exact fin_none h1
end

/-! ### freezing -/
mutual
def D.nref : D → Bool
  | .lst _ xs => D.nrefs xs
  | .tup xs => D.nrefs xs
  | .ref _ => false
  | .dK _ kvs => D.nrefK kvs
  | .dT _ kvs => D.nrefT kvs
  | _ => true
def D.nrefs : List D → Bool
  | [] => true
  | x :: r => x.nref && D.nrefs r
def D.nrefK : List (Key × D) → Bool
  | [] => true
  | (_, x) :: r => x.nref && D.nrefK r
def D.nrefT : List (List Key × D) → Bool
  | [] => true
  | (_, x) :: r => x.nref && D.nrefT r
end
/-- many, from the left -/
def frs (f : D → Sto → Option (D × Sto)) : List D → Sto → Option (List D × Sto)
  | [], μ => some ([], μ)
  | d :: r, μ => match f d μ with
    | none => none
    | some (e, μ1) => match frs f r μ1 with
      | none => none
      | some (es, μ2) => some (e :: es, μ2)
def fvs {κ : Type} (f : D → Sto → Option (D × Sto)) : List (κ × D) → Sto → Option (List (κ × D) × Sto)
  | [], μ => some ([], μ)
  | (k, d) :: r, μ => match f d μ with
    | none => none
    | some (e, μ1) => match fvs f r μ1 with
      | none => none
      | some (es, μ2) => some ((k, e) :: es, μ2)
/-- from here on nobody changes it -/
def frz : Nat → D → Sto → Option (D × Sto)
  | _, .non, μ => some (.non, μ)
  | _, .bl b, μ => some (.bl b, μ)
  | _, .int i, μ => some (.int i, μ)
  | _, .str x, μ => some (.str x, μ)
  | _, .scr xs, μ => some (.scr xs, μ)
  | _, .lst b xs, μ => some (.lst b xs, μ)
  | _, .dK b xs, μ => some (.dK b xs, μ)
  | _, .dT b xs, μ => some (.dT b xs, μ)
  | n + 1, .tup xs, μ => (frs (frz n) xs μ).map fun p => (.tup p.1, p.2)
  | n + 1, .ref k, μ => match μ[k]? with
    | some (.lst .fz xs) => some (.lst false xs, μ)
    | some (.lst .live xs) => (frs (frz n) xs μ).map fun p => (.lst false p.1, p.2.set k (.lst .fz p.1))
    | some (.dK .fz xs) => some (.dK false xs, μ)
    | some (.dK .live xs) => (fvs (frz n) xs μ).map fun p => (.dK false p.1, p.2.set k (.dK .fz p.1))
    | some (.dT .fz xs) => some (.dT false xs, μ)
    | some (.dT .live xs) => (fvs (frz n) xs μ).map fun p => (.dT false p.1, p.2.set k (.dT .fz p.1))
    | _ => none
  | 0, .tup _, _ => none
  | 0, .ref _, _ => none
section
variable {c : Ct} {ρ : List Addr} {H : Hp}
/-- what freezing gives -/
def FrzOk (c : Ct) (ρ : List Addr) (H : Hp) (f : D → Sto → Option (D × Sto)) : Prop := ∀ (d : D) (μ : Sto) (e : D) (μ' : Sto) (G : Hp), f d μ = some (e, μ') → Rel c ρ G μ H → ∃ G', Same G G' ∧ Rel c ρ G' μ' H ∧ ∀ v, Rep c.K c.B ρ G d v → Rep c.K c.B ρ G' e v
theorem frs_ok {f : D → Sto → Option (D × Sto)} (hf : FrzOk c ρ H f) : ∀ (ds : List D) (μ : Sto) (es : List D) (μ' : Sto) (G : Hp), frs f ds μ = some (es, μ') → Rel c ρ G μ H → ∃ G', Same G G' ∧ Rel c ρ G' μ' H ∧ ∀ vs, Reps c.K c.B ρ G ds vs → Reps c.K c.B ρ G' es vs
  | [], μ, es, μ', G, h, r => by
    cases h
    exact ⟨G, Same.refl _, r, fun _ q => q⟩
  | d :: ds, μ, es, μ', G, h, r => by
    unfold frs at h
    cases e1 : f d μ with
    | none =>
      rw [e1] at h
      cases h
    | some p =>
      obtain ⟨e, μ1⟩ := p
      rw [e1] at h
      simp only at h
      cases e2 : frs f ds μ1 with
      | none =>
        rw [e2] at h
        cases h
      | some q =>
        obtain ⟨es2, μ2⟩ := q
        rw [e2] at h
        cases h
        obtain ⟨G1, s1, r1, q1⟩ := hf d μ e μ1 G e1 r
        obtain ⟨G2, s2, r2, q2⟩ := frs_ok hf ds μ1 es2 _ G1 e2 r1
        exact ⟨G2, s1.trans s2, r2, fun vs ⟨v, t, ev, h1, h2⟩ => ⟨v, t, ev, (q1 v h1).mono (List.prefix_refl _) s2, q2 t (h2.mono (List.prefix_refl _) s1)⟩⟩
theorem fvsK_ok {f : D → Sto → Option (D × Sto)} (hf : FrzOk c ρ H f) : ∀ (ds : List (Key × D)) (μ : Sto) (es : List (Key × D)) (μ' : Sto) (G : Hp), fvs f ds μ = some (es, μ') → Rel c ρ G μ H → ∃ G', Same G G' ∧ Rel c ρ G' μ' H ∧ ∀ vs, RepK c.K c.B ρ G ds vs → RepK c.K c.B ρ G' es vs
  | [], μ, es, μ', G, h, r => by
    cases h
    exact ⟨G, Same.refl _, r, fun _ q => q⟩
  | (k, d) :: ds, μ, es, μ', G, h, r => by
    unfold fvs at h
    cases e1 : f d μ with
    | none =>
      simp only [e1] at h
      cases h
    | some p =>
      obtain ⟨e, μ1⟩ := p
      simp only [e1] at h
      cases e2 : fvs f ds μ1 with
      | none =>
        simp only [e2] at h
        cases h
      | some q =>
        obtain ⟨es2, μ2⟩ := q
        simp only [e2] at h
        cases h
        obtain ⟨G1, s1, r1, q1⟩ := hf d μ e μ1 G e1 r
        obtain ⟨G2, s2, r2, q2⟩ := fvsK_ok hf ds μ1 es2 _ G1 e2 r1
        exact ⟨G2, s1.trans s2, r2, fun vs ⟨v, t, ev, h1, h2⟩ => ⟨v, t, ev, (q1 v h1).mono (List.prefix_refl _) s2, q2 t (h2.mono (List.prefix_refl _) s1)⟩⟩
theorem fvsT_ok {f : D → Sto → Option (D × Sto)} (hf : FrzOk c ρ H f) : ∀ (ds : List (List Key × D)) (μ : Sto) (es : List (List Key × D)) (μ' : Sto) (G : Hp), fvs f ds μ = some (es, μ') → Rel c ρ G μ H → ∃ G', Same G G' ∧ Rel c ρ G' μ' H ∧ ∀ vs, RepT c.K c.B ρ G ds vs → RepT c.K c.B ρ G' es vs
  | [], μ, es, μ', G, h, r => by
    cases h
    exact ⟨G, Same.refl _, r, fun _ q => q⟩
  | (k, d) :: ds, μ, es, μ', G, h, r => by
    unfold fvs at h
    cases e1 : f d μ with
    | none =>
      simp only [e1] at h
      cases h
    | some p =>
      obtain ⟨e, μ1⟩ := p
      simp only [e1] at h
      cases e2 : fvs f ds μ1 with
      | none =>
        simp only [e2] at h
        cases h
      | some q =>
        obtain ⟨es2, μ2⟩ := q
        simp only [e2] at h
        cases h
        obtain ⟨G1, s1, r1, q1⟩ := hf d μ e μ1 G e1 r
        obtain ⟨G2, s2, r2, q2⟩ := fvsT_ok hf ds μ1 es2 _ G1 e2 r1
        exact ⟨G2, s1.trans s2, r2, fun vs ⟨v, t, ev, h1, h2⟩ => ⟨v, t, ev, (q1 v h1).mono (List.prefix_refl _) s2, q2 t (h2.mono (List.prefix_refl _) s1)⟩⟩
/-- a live object at a cell's place becomes one that nobody changes -/
theorem Rel.fz {G : Hp} {μ : Sto} {n : Nat} {a : Addr} {x : Cell} {o : HO} (r : Rel c ρ G μ H) (ha : ρ[n]? = some a) (hb : c.B a = none) (hH : H a = some o) (ht : ∀ vs, o ≠ .tup vs) (hs : Same G (upd G a o)) (hx : CellOk c ρ (upd G a o) H x a) : Rel c ρ (upd G a o) (μ.set n x) H := by
  have hr : a ∈ ρ := List.mem_of_getElem? ha
  refine ⟨fun b y e => ?_, r.bh, r.ph, fun b vs e => ?_, r.g0.trans hs, fun b y e => ?_, fun b y e => ?_, by rw [List.length_set]; exact r.ln, r.nd, fun m b y e1 e2 => ?_⟩
  · by_cases q : b = a
    · subst q
      rw [upd_same] at e
      cases e
      exact hH
    · rw [upd_ne q] at e
      exact r.gh _ _ e
  · have na : b ≠ a := fun z => by
      rw [z, hH] at e
      exact absurd (Option.some.inj e) (ht vs)
    rw [upd_ne na]
    exact r.tp _ _ e
  · by_cases q : b = a
    · subst q
      exact .inr hb
    · rw [upd_ne q] at e
      exact r.nw b y e
  · obtain ⟨w1, w2, w3⟩ := r.gp b y e
    have na : b ≠ a := fun z => w2 (by rw [z]; exact hr)
    exact ⟨by rw [upd_ne na]; exact w1, w2, w3⟩
  · by_cases hm : n = m
    · subst hm
      rw [ha] at e1
      cases e1
      have hn : n < μ.length := by
        rw [← r.ln]
        exact (List.getElem?_eq_some_iff.mp ha).1
      rw [List.getElem?_set_self hn] at e2
      cases e2
      exact hx
    · rw [List.getElem?_set_ne hm] at e2
      have na : b ≠ a := fun z => by
        subst z
        obtain ⟨l1, k1⟩ := List.getElem?_eq_some_iff.mp ha
        obtain ⟨l2, k2⟩ := List.getElem?_eq_some_iff.mp e1
        exact hm ((List.getElem_inj r.nd).mp (k1.trans k2.symm))
      exact (r.cl m b y e1 e2).mono (List.prefix_refl _) hs fun g0 _ u q => ⟨by rw [upd_ne na]; exact g0, q⟩
/-- the object at a, whatever G knew of it -/
theorem fz_same {G : Hp} {a : Addr} {o : HO} {μ : Sto} (r : Rel c ρ G μ H) (hH : H a = some o) : Same G (upd G a o) := fun b y e => by
  by_cases q : b = a
  · subst q
    have := r.gh _ _ e
    rw [hH] at this
    cases this
    exact upd_same
  · rw [upd_ne q]
    exact e
theorem frz_ok : ∀ n : Nat, FrzOk c ρ H (frz n) := by
  intro n
  induction n with
  | zero =>
    intro d μ e μ' G h r
    cases d <;> first
      | (cases h; exact ⟨G, Same.refl _, r, fun _ q => q⟩)
      | cases h
  | succ n ih =>
    intro d μ e μ' G h r
    cases d with
    | tup xs =>
      obtain ⟨p, e1, e2⟩ := map_some (show (frs (frz n) xs μ).map (fun p => (D.tup p.1, p.2)) = some (e, μ') from h)
      cases e2
      obtain ⟨G1, s1, r1, q1⟩ := frs_ok ih xs μ p.1 p.2 G e1 r
      exact ⟨G1, s1, r1, fun v ⟨a, vs, ev, h1, h2⟩ => ⟨a, vs, ev, s1 _ _ h1, q1 vs h2⟩⟩
    | ref k =>
      unfold frz at h
      split at h
      · rename_i xs e0
        cases h
        refine ⟨G, Same.refl _, r, fun v ⟨a, ev, ha⟩ => ?_⟩
        obtain ⟨vs, w1, w2⟩ := r.cl k a _ ha e0
        exact ⟨a, vs, ev, w1, w2⟩
      · rename_i xs e0
        obtain ⟨p, e1, e2⟩ := map_some h
        cases e2
        obtain ⟨G1, s1, r1, q1⟩ := frs_ok ih xs μ p.1 p.2 G e1 r
        have hk : k < ρ.length := by
          rw [r.ln]
          exact (List.getElem?_eq_some_iff.mp e0).1
        have ha : ρ[k]? = some ρ[k] := List.getElem?_eq_getElem hk
        obtain ⟨w0, w1, vs, w2, w3⟩ := r.cl k _ _ ha e0
        have sm := fz_same r1 w2
        refine ⟨upd G1 ρ[k] (.lst vs), s1.trans sm, r1.fz ha w0 w2 (fun _ z => by cases z) sm ⟨vs, upd_same, (q1 vs w3).mono (List.prefix_refl _) sm⟩, fun v ⟨a, ev, ha'⟩ => ?_⟩
        rw [ha] at ha'
        cases ha'
        exact ⟨_, vs, ev, upd_same, (q1 vs w3).mono (List.prefix_refl _) sm⟩
      · rename_i xs e0
        cases h
        refine ⟨G, Same.refl _, r, fun v ⟨a, ev, ha⟩ => ?_⟩
        obtain ⟨vs, w1, w2⟩ := r.cl k a _ ha e0
        exact ⟨a, vs, ev, w1, w2⟩
      · rename_i xs e0
        obtain ⟨p, e1, e2⟩ := map_some h
        cases e2
        obtain ⟨G1, s1, r1, q1⟩ := fvsK_ok ih xs μ p.1 p.2 G e1 r
        have hk : k < ρ.length := by
          rw [r.ln]
          exact (List.getElem?_eq_some_iff.mp e0).1
        have ha : ρ[k]? = some ρ[k] := List.getElem?_eq_getElem hk
        obtain ⟨w0, w1, vs, w2, w3⟩ := r.cl k _ _ ha e0
        have sm := fz_same r1 w2
        refine ⟨upd G1 ρ[k] (.dK vs), s1.trans sm, r1.fz ha w0 w2 (fun _ z => by cases z) sm ⟨vs, upd_same, (q1 vs w3).mono (List.prefix_refl _) sm⟩, fun v ⟨a, ev, ha'⟩ => ?_⟩
        rw [ha] at ha'
        cases ha'
        exact ⟨_, vs, ev, upd_same, (q1 vs w3).mono (List.prefix_refl _) sm⟩
      · rename_i xs e0
        cases h
        refine ⟨G, Same.refl _, r, fun v ⟨a, ev, ha⟩ => ?_⟩
        obtain ⟨vs, w1, w2⟩ := r.cl k a _ ha e0
        exact ⟨a, vs, ev, w1, w2⟩
      · rename_i xs e0
        obtain ⟨p, e1, e2⟩ := map_some h
        cases e2
        obtain ⟨G1, s1, r1, q1⟩ := fvsT_ok ih xs μ p.1 p.2 G e1 r
        have hk : k < ρ.length := by
          rw [r.ln]
          exact (List.getElem?_eq_some_iff.mp e0).1
        have ha : ρ[k]? = some ρ[k] := List.getElem?_eq_getElem hk
        obtain ⟨w0, w1, vs, w2, w3⟩ := r.cl k _ _ ha e0
        have sm := fz_same r1 w2
        refine ⟨upd G1 ρ[k] (.dT vs), s1.trans sm, r1.fz ha w0 w2 (fun _ z => by cases z) sm ⟨vs, upd_same, (q1 vs w3).mono (List.prefix_refl _) sm⟩, fun v ⟨a, ev, ha'⟩ => ?_⟩
        rw [ha] at ha'
        cases ha'
        exact ⟨_, vs, ev, upd_same, (q1 vs w3).mono (List.prefix_refl _) sm⟩
      · cases h
    | _ =>
      cases h
      exact ⟨G, Same.refl _, r, fun _ q => q⟩
end
def dFrz (d : D) (μ : Sto) : R D := match frz 6 d μ with
  | some (e, μ') => ok e μ'
  | none => none
def fFrz (f : FE) : FE := fun env μ => rb (f env μ) dFrz
theorem tx_frz {K : PySem.W.Frag} {mg : Str → Option Value} {E : XK} {f : FE} : ∀ σ H Q, TX K mg E (fFrz f) σ H Q → TX K mg E f σ H Q := by
  rintro σ H Q ⟨c, env, ρ, G, μ, hK, hm, re, eo, h⟩
  subst hK
  refine tx_use rfl hm re eo h fun d v ρ1 G1 μ1 H1 p1 e1 r1 eo1 hv h1 => ?_
  unfold dFrz at h1
  split at h1
  · rename_i e μ' e2
    obtain ⟨G', s', r', q'⟩ := frz_ok 6 d μ1 e μ' G1 e2 r1
    exact Fin.ok_at (List.prefix_refl _) s' r' h1 v (q' v hv)
  · exact fin_none h1
end Lv

set_option Elab.async false
set_option linter.all false
set_option maxRecDepth 100000
set_option autoImplicit false
/-! statements -/
namespace Lv
open PySem PySem.Spec PyProof.Rows L2

inductive Fl where
  | nx (e : Env) | rt (d : D)
abbrev FS := Env → Sto → R Fl
def flQ (c : Ct) (Dn : Ends) : Fl → List Addr → Hp → Sto → Hp → Prop := fun fl ρ G _ H => match fl with
  | .nx env => ∀ σ, EnvOk c ρ G env σ → Dn.nx σ H
  | .rt d => ∀ v, Rep c.K c.B ρ G d v → Dn.rt v H
def TSx (K : PySem.W.Frag) (mg : Str → Option Value) (E : XK) (f : FS) : TS := fun Dn σ H => ∃ c env ρ G μ, c.K = K ∧ c.mg = mg ∧ Rel c ρ G μ H ∧ EnvOk c ρ G env σ ∧ Fin c E ρ G (f env μ) (flQ c Dn)

def sNext : FS := fun env μ => ok (.nx env) μ
def sSeq (f g : FS) : FS := fun env μ => rb (f env μ) fun fl μ1 => match fl with
  | .nx e => g e μ1
  | .rt d => ok (.rt d) μ1
def sRet (f : FE) : FS := fun env μ => rb (f env μ) fun d μ1 => ok (.rt d) μ1
def sRetN : FS := fun _ μ => ok (.rt .non) μ
def sDrop (f : FE) : FS := fun env μ => rb (f env μ) fun _ μ1 => ok (.nx env) μ1
def sAsg (tg : Tg) (f : FE) : FS := fun env μ => rb (f env μ) fun d μ1 => match tg.bind d env with
  | some e => ok (.nx e) μ1
  | none => none
def sPar (i j : Nat) (f g : FE) : FS := fun env μ => rb (f env μ) fun d μ1 => rb (g env μ1) fun e μ2 => ok (.nx ((env.set i (some d)).set j (some e))) μ2
def dSet (o i d : D) (μ : Sto) : R Unit := match live μ o, i with
  | some (n, xs), .int k => match ixN xs.length k with
    | some j => ok () (μ.set n (.lst .live (xs.set j d)))
    | none => none
  | _, _ => none
def sSetIx (fo fi fv : FE) : FS := fun env μ => rb (fv env μ) fun d μ1 => rb (fo env μ1) fun o μ2 => rb (fi env μ2) fun i μ3 => rb (dSet o i d μ3) fun _ μ4 => ok (.nx env) μ4
inductive Aop where
  | add | sub | mul
def Aop.op : Aop → Operator
  | .add => .Add | .sub => .Sub | .mul => .Mult
def Aop.d : Aop → D → D → Sto → R D
  | .add, .int i, .int j, μ => ok (.int (i + j)) μ
  | .sub, .int i, .int j, μ => ok (.int (i - j)) μ
  | .mul, .int i, .int j, μ => if mulOk i j = true then ok (.int (i * j)) μ else none
  | _, _, _, _ => none
def Aop.r : Aop → TIp
  | .add => rI0 fun i j => .int (i + j) | .sub => rI0 fun i j => .int (i - j) | .mul => rI IntMulOk fun i j => .int (i * j)
theorem Aop.ip {X : Cx} (a : Aop) : PIp X a.op a.r := by
  cases a with
  | add => exact iop_add
  | sub => exact iop_sub
  | mul => exact (opI fun _ _ _ _ _ _ _ hc q => imul_int q hc : OpR X (inplaceOp .Mult) (rI IntMulOk fun i j => .int (i * j)))
theorem Aop.opD {K : PySem.W.Frag} {E : XK} (a : Aop) : OpD K E a.r a.d := by
  intro c ρ G H μ d e x y Q hK r hx hy h
  subst hK
  cases a with
  | add =>
    cases d with
    | int i =>
      cases e with
      | int j =>
        cases hx
        cases hy
        exact ⟨_, _, rfl, rfl, val_use (d := .int _) (v := .int _) rfl r rfl h⟩
      | _ => exact fin_none h
    | _ => exact fin_none h
  | sub =>
    cases d with
    | int i =>
      cases e with
      | int j =>
        cases hx
        cases hy
        exact ⟨_, _, rfl, rfl, val_use (d := .int _) (v := .int _) rfl r rfl h⟩
      | _ => exact fin_none h
    | _ => exact fin_none h
  | mul =>
    cases d with
    | int i =>
      cases e with
      | int j =>
        cases hx
        cases hy
        have h' : Fin c E ρ G (if mulOk i j = true then ok (D.int (i * j)) μ else none) (fun d ρ' G' _ H' => ∀ v, Rep c.K c.B ρ' G' d v → Q v H') := h
        split at h'
        · rename_i hf
          exact ⟨_, _, rfl, rfl, mulOk_ok hf, val_use (d := .int _) (v := .int _) rfl r rfl h'⟩
        · exact fin_none h'
      | _ => exact fin_none h
    | _ => exact fin_none h
def sAug (a : Aop) (i : Nat) (f : FE) : FS := fun env μ => rb (fVar i env μ) fun x _ => rb (f env μ) fun y μ1 => rb (a.d x y μ1) fun z μ2 => ok (.nx (env.set i (some z))) μ2
def dIxL (d e : D) (μ : Sto) : R D := match d, e with
  | .tup _, _ => none
  | .str _, _ => none
  | d, e => dIx d e μ
def sAugIx (a : Aop) (fo fi f : FE) : FS := fun env μ => rb (fo env μ) fun o μ1 => rb (fi env μ1) fun i μ2 => rb (dIxL o i μ2) fun x μ3 => rb (f env μ3) fun y μ4 => rb (a.d x y μ4) fun z μ5 => rb (dSet o i z μ5) fun _ μ6 => ok (.nx env) μ6
def sIf (c : FE) (a b : FS) : FS := fun env μ => rb (c env μ) fun t μ1 => match t with
  | .bl true => a env μ1
  | .bl false => b env μ1
  | _ => none
def sKill (is : List Nat) : FS := fun env μ => ok (.nx (is.foldl (fun e i => e.set i none) env)) μ
/-! cells that nothing speaks of are dropped behind a loop's turn -/
mutual
def D.bel (n : Nat) : D → Bool
  | .lst _ xs => D.bels n xs
  | .tup xs => D.bels n xs
  | .ref k => decide (k < n)
  | .dK _ kvs => D.belK n kvs
  | .dT _ kvs => D.belT n kvs
  | _ => true
def D.bels (n : Nat) : List D → Bool
  | [] => true
  | x :: r => x.bel n && D.bels n r
def D.belK (n : Nat) : List (Key × D) → Bool
  | [] => true
  | (_, x) :: r => x.bel n && D.belK n r
def D.belT (n : Nat) : List (List Key × D) → Bool
  | [] => true
  | (_, x) :: r => x.bel n && D.belT n r
end
def Cell.bel (n : Nat) : Cell → Bool
  | .lst _ xs => D.bels n xs
  | .dK _ kvs => D.belK n kvs
  | .dT _ kvs => D.belT n kvs
def envBelow (n : Nat) : Env → Bool
  | [] => true
  | none :: r => envBelow n r
  | some d :: r => d.bel n && envBelow n r
def gc (n : Nat) (env : Env) (μ : Sto) : Sto := if (envBelow n env && (μ.take n).all (Cell.bel n)) = true then μ.take n else μ
def forN (tg : Tg) (body : FS) (s : Sr) (n0 : Nat) : Nat → Nat → Env → Sto → R Fl
  | 0, _, _, _ => none
  | n + 1, i, env, μ => match s.at μ i with
    | none => none
    | some none => ok (.nx env) (s.free μ)
    | some (some d) => match tg.bind d env with
      | none => none
      | some env1 => rb (body env1 μ) fun fl μ1 => match fl with
        | .rt d => ok (.rt d) μ1
        | .nx env2 => forN tg body s n0 n (i + 1) env2 (gc n0 env2 μ1)
def sFor (tg : Tg) (src : FSrc) (body : FS) : FS := fun env μ => rb (src env μ) fun s μ1 => forN tg body s μ1.length (s.fuel μ1) 0 env μ1
def whN (c : FE) (body : FS) (n0 : Nat) : Nat → Env → Sto → R Fl
  | 0, _, _ => none
  | n + 1, env, μ => rb (c env μ) fun t μ1 => match t with
    | .bl false => ok (.nx env) μ1
    | .bl true => rb (body env μ1) fun fl μ2 => match fl with
      | .rt d => ok (.rt d) μ2
      | .nx env2 => whN c body n0 n env2 (gc n0 env2 μ2)
    | _ => none
def FUEL : Nat := 1048576
def sWhile (c : FE) (body : FS) : FS := fun env μ => whN c body μ.length FUEL env μ

section
variable {K : PySem.W.Frag} {B : Hp} {ρ ρ1 : List Addr} {G : Hp} {n : Nat}
theorem pre_below (p : ρ1 <+: ρ) (hl : ρ1.length = n) {k : Nat} (hk : k < n) : ρ1[k]? = ρ[k]? := by
  obtain ⟨t, rfl⟩ := p
  rw [List.getElem?_append_left (by omega)]
mutual
theorem Rep.bel (p : ρ1 <+: ρ) (hl : ρ1.length = n) : ∀ (d : D) (v : V), d.bel n = true → Rep K B ρ G d v → Rep K B ρ1 G d v
  | .non, _, _, h => h
  | .bl _, _, _, h => h
  | .int _, _, _, h => h
  | .str _, _, _, h => h
  | .scr _, _, _, h => h
  | .lst b xs, _, c, ⟨a, vs, e1, e2, h⟩ => ⟨a, vs, e1, e2, Reps.bel p hl xs vs c h⟩
  | .tup xs, _, c, ⟨a, vs, e1, e2, h⟩ => ⟨a, vs, e1, e2, Reps.bel p hl xs vs c h⟩
  | .ref k, _, c, ⟨a, e1, e2⟩ => ⟨a, e1, by rw [pre_below p hl (of_decide_eq_true c)]; exact e2⟩
  | .dK b kvs, _, c, ⟨a, ws, e1, e2, h⟩ => ⟨a, ws, e1, e2, RepK.bel p hl kvs ws c h⟩
  | .dT b kvs, _, c, ⟨a, ws, e1, e2, h⟩ => ⟨a, ws, e1, e2, RepT.bel p hl kvs ws c h⟩
theorem Reps.bel (p : ρ1 <+: ρ) (hl : ρ1.length = n) : ∀ (ds : List D) (vs : List V), D.bels n ds = true → Reps K B ρ G ds vs → Reps K B ρ1 G ds vs
  | [], _, _, h => h
  | d :: ds, _, c, ⟨v, r, e1, h1, h2⟩ => by
    have c' : (d.bel n && D.bels n ds) = true := c
    rw [Bool.and_eq_true] at c'
    exact ⟨v, r, e1, Rep.bel p hl d v c'.1 h1, Reps.bel p hl ds r c'.2 h2⟩
theorem RepK.bel (p : ρ1 <+: ρ) (hl : ρ1.length = n) : ∀ (ds : List (Key × D)) (vs : List (Key × V)), D.belK n ds = true → RepK K B ρ G ds vs → RepK K B ρ1 G ds vs
  | [], _, _, h => h
  | (_, d) :: ds, _, c, ⟨v, r, e1, h1, h2⟩ => by
    have c' : (d.bel n && D.belK n ds) = true := c
    rw [Bool.and_eq_true] at c'
    exact ⟨v, r, e1, Rep.bel p hl d v c'.1 h1, RepK.bel p hl ds r c'.2 h2⟩
theorem RepT.bel (p : ρ1 <+: ρ) (hl : ρ1.length = n) : ∀ (ds : List (List Key × D)) (vs : List (List Key × V)), D.belT n ds = true → RepT K B ρ G ds vs → RepT K B ρ1 G ds vs
  | [], _, _, h => h
  | (_, d) :: ds, _, c, ⟨v, r, e1, h1, h2⟩ => by
    have c' : (d.bel n && D.belT n ds) = true := c
    rw [Bool.and_eq_true] at c'
    exact ⟨v, r, e1, Rep.bel p hl d v c'.1 h1, RepT.bel p hl ds r c'.2 h2⟩
end
theorem CellOk.bel {c : Ct} {H : Hp} {a : Addr} (p : ρ1 <+: ρ) (hl : ρ1.length = n) : ∀ {x : Cell}, x.bel n = true → CellOk c ρ G H x a → CellOk c ρ1 G H x a
  | .lst .fz xs, b, ⟨vs, h1, h2⟩ => ⟨vs, h1, h2.bel p hl xs vs b⟩
  | .lst .live xs, b, ⟨hb, h0, vs, h1, h2⟩ => ⟨hb, h0, vs, h1, h2.bel p hl xs vs b⟩
  | .lst .lock xs, b, ⟨hb, h0, vs, h1, h2⟩ => ⟨hb, h0, vs, h1, h2.bel p hl xs vs b⟩
  | .dK .fz xs, b, ⟨vs, h1, h2⟩ => ⟨vs, h1, h2.bel p hl xs vs b⟩
  | .dK .live xs, b, ⟨hb, h0, vs, h1, h2⟩ => ⟨hb, h0, vs, h1, h2.bel p hl xs vs b⟩
  | .dK .lock xs, b, ⟨hb, h0, vs, h1, h2⟩ => ⟨hb, h0, vs, h1, h2.bel p hl xs vs b⟩
  | .dT .fz xs, b, ⟨vs, h1, h2⟩ => ⟨vs, h1, h2.bel p hl xs vs b⟩
  | .dT .live xs, b, ⟨hb, h0, vs, h1, h2⟩ => ⟨hb, h0, vs, h1, h2.bel p hl xs vs b⟩
  | .dT .lock xs, b, ⟨hb, h0, vs, h1, h2⟩ => ⟨hb, h0, vs, h1, h2.bel p hl xs vs b⟩
theorem envBelow_at : ∀ {env : Env} {i : Nat} {d : D}, envBelow n env = true → env[i]? = some (some d) → d.bel n = true
  | [], _, _, _, h => by simp at h
  | none :: r, 0, _, _, h => by simp at h
  | none :: r, i + 1, d, b, h => envBelow_at (env := r) (i := i) b (by simpa using h)
  | some x :: r, 0, d, b, h => by
    have b' : (x.bel n && envBelow n r) = true := b
    rw [Bool.and_eq_true] at b'
    have : x = d := by simpa using h
    rw [← this]
    exact b'.1
  | some x :: r, i + 1, d, b, h => by
    have b' : (x.bel n && envBelow n r) = true := b
    rw [Bool.and_eq_true] at b'
    exact envBelow_at (env := r) (i := i) b'.2 (by simpa using h)
/-- behind the dropping -/
theorem gc_ok {c : Ct} {H : Hp} {μ : Sto} {env : Env} {σ : L2.St} (p : ρ1 <+: ρ) (hl : ρ1.length = n) (r : Rel c ρ G μ H) (e : EnvOk c ρ G env σ) : ∃ ρ', ρ1 <+: ρ' ∧ Rel c ρ' G (gc n env μ) H ∧ EnvOk c ρ' G env σ := by
  unfold gc
  split
  · rename_i hc
    rw [Bool.and_eq_true] at hc
    refine ⟨ρ1, List.prefix_refl _, ⟨r.gh, r.bh, r.ph, r.tp, r.g0, r.nw, fun a o q => ?_, ?_, ?_, fun m a x e1 e2 => ?_⟩, e.1, fun i d q => ?_⟩
    · obtain ⟨w1, w2, w3⟩ := r.gp a o q
      exact ⟨w1, fun z => w2 (p.subset z), w3⟩
    · have := p.length_le
      have := r.ln
      rw [List.length_take]
      omega
    · exact r.nd.sublist p.sublist
    · have hm : m < n := by
        have := (List.getElem?_eq_some_iff.mp e1).1
        omega
      rw [pre_below p hl hm] at e1
      have hx : x.bel n = true := List.all_eq_true.mp hc.2 x (List.mem_of_getElem? e2)
      rw [List.getElem?_take_of_lt hm] at e2
      exact (r.cl m a x e1 e2).bel p hl hx
    · obtain ⟨v, w1, w2⟩ := e.2 i d q
      exact ⟨v, w1, w2.bel p hl d v (envBelow_at hc.1 q)⟩
  · exact ⟨ρ, p, r, e⟩
end

section
variable {K : PySem.W.Frag} {mg : Str → Option Value} {E : XK}
theorem ts_next : ∀ Dn σ H, TSx K mg E sNext Dn σ H → tNext Dn σ H := by
  rintro Dn σ H ⟨c, env, ρ, G, μ, hK, hm, re, eo, h⟩
  exact Fin.ok re h σ eo
theorem ts_seq {f g : FS} : ∀ Dn σ H, TSx K mg E (sSeq f g) Dn σ H → tSeq (TSx K mg E f) (TSx K mg E g) Dn σ H := by
  rintro Dn σ H ⟨c, env, ρ, G, μ, hK, hm, re, eo, h⟩
  refine ⟨c, env, ρ, G, μ, hK, hm, re, eo, h.bind.imp fun fl ρ' G' μ' H' p e r q => ?_⟩
  cases fl with
  | nx env' => exact fun σ' eo' => ⟨c, env', ρ', G', μ', hK, hm, r, eo', q⟩
  | rt d => exact Fin.ok (E := E) r q
theorem ts_ret {f : FE} : ∀ Dn σ H, TSx K mg E (sRet f) Dn σ H → tRet (TX K mg E f) Dn σ H := by
  rintro Dn σ H ⟨c, env, ρ, G, μ, hK, hm, re, eo, h⟩
  subst hK
  exact tx_use rfl hm re eo h fun d v ρ1 G1 μ1 H1 p1 e1 r1 eo1 hv h1 => Fin.ok r1 h1 v hv
theorem ts_retN : ∀ Dn σ H, TSx K mg E sRetN Dn σ H → tRetN Dn σ H := by
  rintro Dn σ H ⟨c, env, ρ, G, μ, hK, hm, re, eo, h⟩
  exact Fin.ok re h .non rfl
theorem ts_drop {f : FE} : ∀ Dn σ H, TSx K mg E (sDrop f) Dn σ H → tDrop (TX K mg E f) Dn σ H := by
  rintro Dn σ H ⟨c, env, ρ, G, μ, hK, hm, re, eo, h⟩
  exact tx_use hK hm re eo h fun d v ρ1 G1 μ1 H1 p1 e1 r1 eo1 hv h1 => Fin.ok r1 h1 σ eo1
theorem ts_asg {tg : Tg} {f : FE} : ∀ Dn σ H, TSx K mg E (sAsg tg f) Dn σ H → tAsg (TX K mg E f) (tg.g K) Dn σ H := by
  rintro Dn σ H ⟨c, env, ρ, G, μ, hK, hm, re, eo, h⟩
  subst hK
  refine tx_use rfl hm re eo h fun d v ρ1 G1 μ1 H1 p1 e1 r1 eo1 hv h1 => ?_
  split at h1
  · rename_i env' e2
    exact tg_ok r1 eo1 hv e2 fun σ' eo' _ => Fin.ok r1 h1 σ' eo'
  · exact fin_none h1
theorem ts_par {i j : Nat} {f g : FE} : ∀ Dn σ H, TSx K mg E (sPar i j f g) Dn σ H → tPar i j (tCons (TX K mg E f) (tCons (TX K mg E g) tNil)) Dn σ H := by
  rintro Dn σ H ⟨c, env, ρ, G, μ, hK, hm, re, eo, h⟩
  subst hK
  refine tx_use rfl hm re eo h fun d v ρ1 G1 μ1 H1 p1 e1 r1 eo1 hv h1 => ?_
  refine tx_use rfl hm r1 eo1 h1 fun e u ρ2 G2 μ2 H2 p2 e2 r2 eo2 hu h2 => ?_
  exact ⟨v, u, rfl, Fin.ok r2 h2 _ ((eo2.set (hv.mono p2 e2)).set hu)⟩
theorem dset_use {c : Ct} {ρ : List Addr} {G H : Hp} {μ : Sto} {α : Type} {o i d : D} {x y v : V} {k : Sto → R α} {Q : α → List Addr → Hp → Sto → Hp → Prop} {T : Hp → Prop} (hK : c.K = K) (r : Rel c ρ G μ H) (hx : Rep K c.B ρ G o x) (hy : Rep K c.B ρ G i y) (hv : Rep K c.B ρ G d v)
    (h : Fin c E ρ G (rb (dSet o i d μ) fun _ μ1 => k μ1) Q) (step : ∀ μ1 H1, Rel c ρ G μ1 H1 → Fin c E ρ G (k μ1) Q → T H1) : rSetL x y v H T := by
  subst hK
  unfold dSet at h
  split at h
  · rename_i n xs kk e1
    obtain ⟨a, vs, rfl, ha, hb, hg, hH, hr⟩ := live_ok r e1 hx
    cases hy
    split at h
    · rename_i j e2
      rw [hr.length] at e2
      exact ⟨a, vs, kk, j, rfl, rfl, hH, e2, step _ _ (r.write (o := .lst (vs.set j v)) (x := .lst .live (xs.set j d)) ha hg hb (fun _ z => by cases z) ⟨hb, hg, _, upd_same, hr.set j hv⟩) h⟩
    · exact fin_none h
  · exact fin_none h
theorem ts_setIx {fo fi fv : FE} : ∀ Dn σ H, TSx K mg E (sSetIx fo fi fv) Dn σ H → tAsg (TX K mg E fv) (gSub (TX K mg E fo) (TX K mg E fi) rSetL) Dn σ H := by
  rintro Dn σ H ⟨c, env, ρ, G, μ, hK, hm, re, eo, h⟩
  subst hK
  refine tx_use rfl hm re eo h fun d v ρ1 G1 μ1 H1 p1 e1 r1 eo1 hv h1 => ?_
  refine tx_use rfl hm r1 eo1 h1 fun o x ρ2 G2 μ2 H2 p2 e2 r2 eo2 hx h2 => ?_
  refine tx_use rfl hm r2 eo2 h2 fun i y ρ3 G3 μ3 H3 p3 e3 r3 eo3 hy h3 => ?_
  exact dset_use rfl r3 (hx.mono p3 e3) hy (hv.mono (p2.trans p3) (e2.trans e3)) h3 fun μ4 H4 r4 h4 => Fin.ok r4 h4 σ eo3
theorem ts_aug {a : Aop} {i : Nat} {f : FE} : ∀ Dn σ H, TSx K mg E (sAug a i f) Dn σ H → tAug i (TX K mg E f) a.r Dn σ H := by
  rintro Dn σ H ⟨c, env, ρ, G, μ, hK, hm, re, eo, h⟩
  subst hK
  unfold sAug fVar at h
  cases e0 : env[i]? with
  | none =>
    rw [e0] at h
    exact fin_none h
  | some od =>
    cases od with
    | none =>
      rw [e0] at h
      exact fin_none h
    | some x =>
      rw [e0] at h
      simp only [rb_ok] at h
      obtain ⟨v, q1, q2⟩ := eo.2 i x e0
      refine ⟨v, q1, tx_use rfl hm re eo h fun y u ρ1 G1 μ1 H1 p1 e1 r1 eo1 hu h1 => ?_⟩
      refine a.opD c ρ1 G1 H1 μ1 x y v u _ rfl r1 (q2.mono p1 e1) hu (h1.bind.imp fun z ρ2 G2 μ2 H2 p2 e2 r2 h2 w hw => ?_)
      exact Fin.ok r2 h2 _ ((eo1.up p2 e2).set hw)
theorem get_list {X : Cx} : PGet X (rIxL X.K) := by
  intro pins s σ H x y v u Q I rx ry h
  obtain ⟨p, xs, i, z, rfl, rfl, hq, he, q⟩ := h
  cases rx
  obtain ⟨t, rfl⟩ := ry
  obtain ⟨its, r, pl, hz⟩ := I.list hq
  obtain ⟨j, h1, h2, h3, h4, h5⟩ := atI_get he
  obtain ⟨w, ew, hw⟩ := r.get h2
  have hl := r.length
  have hn := line63
  have fin : EP X pins σ Q w s := ⟨z, H, I, hw, q⟩
  by_cases h0 : 0 ≤ i
  · have hj : i.toNat = j := by
      rw [seqIndex_of h0 h5] at h1
      exact Option.some.inj h1
    exact wpAny_getItem_list pl.isList h0 (by omega) (by rw [hj]; simpa using ew) fin
  · have hj : (i + (its.toArray.size : Int)).toNat = j := by
      rw [seqIndex_neg (by omega) h4] at h1
      rw [List.size_toArray, ← hl]
      exact Option.some.inj h1
    exact wpAny_getItem_list_neg pl.isList (by omega) (by rw [List.size_toArray] <;> omega) (by omega) (by rw [hj]; simpa using ew) fin
theorem ixL_ok : OpD K E (rIxL K) dIxL := by
  intro c ρ G H μ d e x y Q hK r hx hy h
  have h' : (∀ xs, d ≠ .tup xs) ∧ (∀ xs, d ≠ .str xs) ∧ Fin c E ρ G (dIx d e μ) (fun d ρ' G' _ H' => ∀ v, Rep K c.B ρ' G' d v → Q v H') := by
    cases d <;> first | exact fin_none h | exact ⟨fun _ z => (nomatch z), fun _ z => (nomatch z), h⟩
  obtain ⟨n1, n2, h'⟩ := h'
  subst hK
  unfold dIx at h'
  split at h'
  · exact absurd rfl (n1 _)
  · exact absurd rfl (n2 _)
  · split at h'
    · rename_i xs e0
      split at h'
      · rename_i w e1
        cases hy
        obtain ⟨a, vs, rfl, h1, h2⟩ := seeL_ok r e0 hx
        obtain ⟨v, q1, q2⟩ := atI_rep h2 e1
        exact ⟨a, vs, _, v, rfl, rfl, h1, q1, val_use rfl r q2 h'⟩
      · exact fin_none h'
    · exact fin_none h'
  · exact fin_none h'
theorem ts_augIx {a : Aop} {fo fi f : FE} : ∀ Dn σ H, TSx K mg E (sAugIx a fo fi f) Dn σ H → tAugS (TX K mg E fo) (TX K mg E fi) (TX K mg E f) (rIxL K) a.r rSetL Dn σ H := by
  rintro Dn σ H ⟨c, env, ρ, G, μ, hK, hm, re, eo, h⟩
  subst hK
  refine tx_use rfl hm re eo h fun o x ρ1 G1 μ1 H1 p1 e1 r1 eo1 hx h1 => ?_
  refine tx_use rfl hm r1 eo1 h1 fun i y ρ2 G2 μ2 H2 p2 e2 r2 eo2 hy h2 => ?_
  refine ixL_ok c ρ2 G2 H2 μ2 o i x y _ rfl r2 (hx.mono p2 e2) hy (h2.bind.imp fun g ρ3 G3 μ3 H3 p3 e3 r3 h3 u hu => ?_)
  refine tx_use rfl hm r3 (eo2.up p3 e3) h3 fun w t ρ4 G4 μ4 H4 p4 e4 r4 eo4 hw h4 => ?_
  refine a.opD c ρ4 G4 H4 μ4 g w u t _ rfl r4 (hu.mono p4 e4) hw (h4.bind.imp fun z ρ5 G5 μ5 H5 p5 e5 r5 h5 b hb => ?_)
  exact dset_use rfl r5 (hx.mono (((p2.trans p3).trans p4).trans p5) (((e2.trans e3).trans e4).trans e5)) (hy.mono ((p3.trans p4).trans p5) ((e3.trans e4).trans e5)) hb h5 fun μ6 H6 r6 h6 => Fin.ok r6 h6 σ (eo4.up p5 e5)
theorem ts_if {t : FE} {f g : FS} : ∀ Dn σ H, TSx K mg E (sIf t f g) Dn σ H → tIfS (TXb K mg E t) (TSx K mg E f) (TSx K mg E g) Dn σ H := by
  rintro Dn σ H ⟨c, env, ρ, G, μ, hK, hm, re, eo, h⟩
  refine txb_use' hK hm re eo h (fun d μ hd => by cases d <;> first | rfl | exact absurd rfl (hd _)) fun b ρ1 G1 μ1 H1 p1 e1 r1 eo1 h1 => ?_
  cases b with
  | true => exact ⟨c, env, ρ1, G1, μ1, hK, hm, r1, eo1, h1⟩
  | false => exact ⟨c, env, ρ1, G1, μ1, hK, hm, r1, eo1, h1⟩
theorem ts_kill {is : List Nat} {g : FS} : ∀ Dn σ H, TSx K mg E (sSeq (sKill is) g) Dn σ H → TSx K mg E g Dn σ H := by
  rintro Dn σ H ⟨c, env, ρ, G, μ, hK, hm, re, eo, h⟩
  have : ∀ (is : List Nat) (env : Env), EnvOk c ρ G env σ → EnvOk c ρ G (is.foldl (fun e i => e.set i none) env) σ := fun is => by
    induction is with
    | nil => exact fun env q => q
    | cons i r ih => exact fun env q => ih _ q.kill
  exact ⟨c, _, ρ, G, μ, hK, hm, re, this is env eo, h⟩
theorem ts_for {tg : Tg} {src : FSrc} {body : FS} : ∀ Dn σ H, TSx K mg E (sFor tg src body) Dn σ H → tFor (TXi K mg E src) (tg.g K) (TSx K mg E body) Dn σ H := by
  rintro Dn σ H ⟨c, env, ρ, G, μ, hK, hm, re, eo, h⟩
  subst hK
  refine ⟨c, env, ρ, G, μ, rfl, hm, re, eo, h.bind.imp fun s ρ1 G1 μ1 H1 p1 e1 r1 h1 J hJ => ?_⟩
  refine ⟨fun i m σ' H' => ∃ env' ρ' G' μ', ρ1 <+: ρ' ∧ Same G1 G' ∧ Rel c ρ' G' μ' H' ∧ EnvOk c ρ' G' env' σ' ∧ Fin c E ρ1 G1 (forN tg body s μ1.length m i env' μ') (flQ c Dn), ⟨s.fuel μ1, env, ρ1, G1, μ1, List.prefix_refl _, Same.refl _, r1, eo.up p1 e1, h1⟩, ?_⟩
  rintro i m σ' H' ⟨env', ρ', G', μ', p2, e2, r2, eo2, h2⟩
  cases m with
  | zero => exact fin_none h2
  | succ m =>
    unfold forN at h2
    have hj := hJ c ρ' G' μ' H' rfl rfl p2 e2 r2 i
    cases ea : s.at μ' i with
    | none =>
      simp only [ea] at h2
      exact fin_none h2
    | some o =>
      have hj' := hj o ea
      cases o with
      | none =>
        simp only [ea] at h2
        exact .inl ⟨hj', Fin.ok_at p2 e2 (r2.free s) h2 σ' eo2⟩
      | some d =>
        simp only [ea] at h2
        refine .inr ⟨hj'.1, _, fun σ3 H3 q => ⟨m, Nat.lt_succ_self m, q⟩, fun x H3 hy => ?_⟩
        obtain ⟨G3, e3, r3, hx⟩ := hj'.2 x H3 hy
        cases eb : tg.bind d env' with
        | none =>
          rw [eb] at h2
          exact fin_none h2
        | some env1 =>
          simp only [eb] at h2
          refine tg_ok r3 (eo2.up (List.prefix_refl _) e3) hx eb fun σ2 eo3 _ => ?_
          refine ⟨c, env1, ρ', G3, μ', rfl, hm, r3, eo3, ?_⟩
          cases er : body env1 μ' with
          | none =>
            rw [er] at h2
            exact fin_none h2
          | some e =>
            cases e with
            | error pr =>
              rw [er] at h2
              exact fun ρ4 G4 H4 cls da p4 e4 r4 q => h2 ρ4 G4 H4 cls da (p2.trans p4) ((e2.trans e3).trans e4) r4 q
            | ok pr =>
              obtain ⟨fl, μ4⟩ := pr
              rw [er] at h2
              intro ρ4 G4 H4 p4 e4 r4
              cases fl with
              | rt d' => exact fun v hv => h2 ρ4 G4 H4 (p2.trans p4) ((e2.trans e3).trans e4) r4 v hv
              | nx env2 =>
                intro σ4 eo4
                obtain ⟨ρ5, p5, r5, eo5⟩ := gc_ok (p2.trans p4) r1.ln r4 eo4
                exact ⟨env2, ρ5, G4, _, p5, (e2.trans e3).trans e4, r5, eo5, h2⟩
theorem ts_while {t : FE} {body : FS} : ∀ Dn σ H, TSx K mg E (sWhile t body) Dn σ H → tWhile (TXb K mg E t) (TSx K mg E body) Dn σ H := by
  rintro Dn σ H ⟨c, env, ρ, G, μ, hK, hm, re, eo, h⟩
  subst hK
  refine ⟨fun m σ' H' => ∃ env' ρ' G' μ', ρ <+: ρ' ∧ Same G G' ∧ Rel c ρ' G' μ' H' ∧ EnvOk c ρ' G' env' σ' ∧ Fin c E ρ G (whN t body μ.length m env' μ') (flQ c Dn), ⟨FUEL, env, ρ, G, μ, List.prefix_refl _, Same.refl _, re, eo, h⟩, ?_⟩
  rintro m σ' H' ⟨env', ρ', G', μ', p2, e2, r2, eo2, h2⟩
  cases m with
  | zero => exact fin_none h2
  | succ m =>
    unfold whN at h2
    refine ⟨c, env', ρ', G', μ', rfl, hm, r2, eo2, ?_⟩
    cases er : t env' μ' with
    | none =>
      rw [er] at h2
      exact fin_none h2
    | some e =>
      cases e with
      | error pr =>
        rw [er] at h2
        exact fun ρ4 G4 H4 cls da p4 e4 r4 q => h2 ρ4 G4 H4 cls da (p2.trans p4) (e2.trans e4) r4 q
      | ok pr =>
        obtain ⟨d, μ3⟩ := pr
        rw [er] at h2
        intro ρ3 G3 H3 p3 e3 r3
        have eo3 := eo2.up p3 e3
        have h3 : Fin c E ρ G (match d with
          | .bl false => ok (.nx env') μ3
          | .bl true => rb (body env' μ3) fun fl μ2 => match fl with
            | .rt d => ok (.rt d) μ2
            | .nx env2 => whN t body μ.length m env2 (gc μ.length env2 μ2)
          | _ => none) (flQ c Dn) := h2
        cases d with
        | bl b =>
          refine ⟨b, rfl, ?_⟩
          cases b with
          | false => exact Fin.ok_at (p2.trans p3) (e2.trans e3) r3 h3 σ' eo3
          | true =>
            refine ⟨_, fun σ4 H4 q => ⟨m, Nat.lt_succ_self m, q⟩, ?_⟩
            refine ⟨c, env', ρ3, G3, μ3, rfl, hm, r3, eo3, ?_⟩
            cases eb : body env' μ3 with
            | none =>
              simp only [eb] at h3
              exact fin_none h3
            | some e =>
              cases e with
              | error pr =>
                simp only [eb] at h3
                exact fun ρ4 G4 H4 cls da p4 e4 r4 q => h3 ρ4 G4 H4 cls da ((p2.trans p3).trans p4) ((e2.trans e3).trans e4) r4 q
              | ok pr =>
                obtain ⟨fl, μ4⟩ := pr
                simp only [eb] at h3
                intro ρ4 G4 H4 p4 e4 r4
                cases fl with
                | rt d' => exact fun v hv => h3 ρ4 G4 H4 ((p2.trans p3).trans p4) ((e2.trans e3).trans e4) r4 v hv
                | nx env2 =>
                  intro σ4 eo4
                  obtain ⟨ρ5, p5, r5, eo5⟩ := gc_ok ((p2.trans p3).trans p4) re.ln r4 eo4
                  exact ⟨env2, ρ5, G4, _, p5, (e2.trans e3).trans e4, r5, eo5, h3⟩
        | _ => exact fin_none h3
end
end Lv

set_option Elab.async false
set_option linter.all false
set_option maxRecDepth 100000
set_option autoImplicit false
/-! calls of the text's own defs -/
namespace Lv
open PySem PySem.Spec PyProof.Rows L2

/-! ### a def of the text, by a function on data -/
structure Fn where
  name : Str
  ps : List Str
  bo : List Bool
  dn : Nat
  run : List D → Option (Except Exn (D × Sto))
/-- what a call leaves -/
structure Aft (G H G' H' : Hp) : Prop where
  hh : Same H H'
  gg : Same G G'
  gh : Same G' H'
  tp : ∀ a vs, H' a = some (.tup vs) → G' a = some (.tup vs)
  nw : ∀ a o, G' a = some o → G a = some o ∨ H a = none
def Fn.sp (K : PySem.W.Frag) (mg : Str → Option Value) (F : Fn) : Sp := fun vs H Q E => vs.length = F.ps.length ∧ ∃ G ds, Same G H ∧ (∀ a vs, H a = some (.tup vs) → G a = some (.tup vs)) ∧ Reps K H [] G ds vs ∧ match F.run ds with
  | none => False
  | some (.ok (d, μ)) => ∀ v ρ G' H', Same G G' → Rel ⟨K, mg, H, G, fun _ => none⟩ ρ G' μ H' → Rep K H ρ G' d v → Q v H'
  | some (.error x) => ∀ G' H' cls da, Aft G H G' H' → ErrOk mg x cls da H' → E cls da H'
def lendA (μ : Sto) : List Bool → List D → Option (List D)
  | [], [] => some []
  | true :: m, d :: r => match lend μ 8 d, lendA μ m r with
    | some x, some s => some (x :: s)
    | _, _ => none
  | false :: m, d :: r => if d.clean = true then (lendA μ m r).map (d :: ·) else none
  | _, _ => none
/-! what a call gives, in cells of its own -/
mutual
def D.sh (n : Nat) : D → D
  | .lst b xs => .lst b (D.shs n xs)
  | .tup xs => .tup (D.shs n xs)
  | .ref k => .ref (n + k)
  | .dK b kvs => .dK b (D.shK n kvs)
  | .dT b kvs => .dT b (D.shT n kvs)
  | d => d
def D.shs (n : Nat) : List D → List D
  | [] => []
  | x :: r => x.sh n :: D.shs n r
def D.shK (n : Nat) : List (Key × D) → List (Key × D)
  | [] => []
  | (k, x) :: r => (k, x.sh n) :: D.shK n r
def D.shT (n : Nat) : List (List Key × D) → List (List Key × D)
  | [] => []
  | (k, x) :: r => (k, x.sh n) :: D.shT n r
end
mutual
def D.ret : D → Bool
  | .lst b xs => !b && D.rets xs
  | .tup xs => D.rets xs
  | .scr _ => false
  | .dK b kvs => !b && D.retK kvs
  | .dT b kvs => !b && D.retT kvs
  | _ => true
def D.rets : List D → Bool
  | [] => true
  | x :: r => x.ret && D.rets r
def D.retK : List (Key × D) → Bool
  | [] => true
  | (_, x) :: r => x.ret && D.retK r
def D.retT : List (List Key × D) → Bool
  | [] => true
  | (_, x) :: r => x.ret && D.retT r
end
def Cell.sh (n : Nat) : Cell → Cell
  | .lst m xs => .lst m (D.shs n xs)
  | .dK m kvs => .dK m (D.shK n kvs)
  | .dT m kvs => .dT m (D.shT n kvs)
def Cell.ret : Cell → Bool
  | .lst .live xs => D.rets xs
  | .dK .live kvs => D.retK kvs
  | .dT .live kvs => D.retT kvs
  | _ => false
def give (fz : Bool) (d : D) (μ' : Sto) (μ : Sto) : R D := match fz with
  | true => match frz 6 d μ' with
    | some (e, _) => if e.clean = true then ok e μ else none
    | none => none
  | false => if (d.ret && μ'.all Cell.ret) = true then ok (d.sh μ.length) (μ ++ μ'.map (Cell.sh μ.length)) else none
def dCall (F : Fn) (dn : Nat) (fz : Bool) (ds : List D) (μ : Sto) : R D := match lendA μ F.bo (ds ++ List.replicate dn .non) with
  | none => none
  | some es => if es.length = F.ps.length then match F.run es with
    | none => none
    | some (.ok (d, μ')) => give fz d μ' μ
    | some (.error x) => some (.error (x, μ))
    else none
section
variable {K : PySem.W.Frag} {B B' : Hp} {ρ ρ' : List Addr} {G : Hp}
mutual
theorem Rep.sh : ∀ (d : D) (v : V), d.ret = true → Rep K B ρ' G d v → Rep K B' (ρ ++ ρ') G (d.sh ρ.length) v
  | .non, _, _, h => h
  | .bl _, _, _, h => h
  | .int _, _, _, h => h
  | .str _, _, _, h => h
  | .scr _, _, c, _ => nomatch c
  | .ref k, _, c, ⟨a, e1, e2⟩ => ⟨a, e1, by rw [List.getElem?_append_right (by omega), Nat.add_sub_cancel_left]; exact e2⟩
  | .lst b xs, _, c, ⟨a, vs, e1, e2, h⟩ => by
    obtain ⟨c1, c2⟩ := Bool.and_eq_true_iff.mp (show (!b && D.rets xs) = true from c)
    cases b with
    | true => cases c1
    | false => exact ⟨a, vs, e1, e2, Reps.sh xs vs c2 h⟩
  | .tup xs, _, c, ⟨a, vs, e1, e2, h⟩ => ⟨a, vs, e1, e2, Reps.sh xs vs c h⟩
  | .dK b kvs, _, c, ⟨a, ws, e1, e2, h⟩ => by
    obtain ⟨c1, c2⟩ := Bool.and_eq_true_iff.mp (show (!b && D.retK kvs) = true from c)
    cases b with
    | true => cases c1
    | false => exact ⟨a, ws, e1, e2, RepK.sh kvs ws c2 h⟩
  | .dT b kvs, _, c, ⟨a, ws, e1, e2, h⟩ => by
    obtain ⟨c1, c2⟩ := Bool.and_eq_true_iff.mp (show (!b && D.retT kvs) = true from c)
    cases b with
    | true => cases c1
    | false => exact ⟨a, ws, e1, e2, RepT.sh kvs ws c2 h⟩
theorem Reps.sh : ∀ (ds : List D) (vs : List V), D.rets ds = true → Reps K B ρ' G ds vs → Reps K B' (ρ ++ ρ') G (D.shs ρ.length ds) vs
  | [], _, _, h => h
  | d :: ds, _, c, ⟨v, r, e1, h1, h2⟩ => by
    obtain ⟨c1, c2⟩ := Bool.and_eq_true_iff.mp (show (d.ret && D.rets ds) = true from c)
    exact ⟨v, r, e1, Rep.sh d v c1 h1, Reps.sh ds r c2 h2⟩
theorem RepK.sh : ∀ (ds : List (Key × D)) (vs : List (Key × V)), D.retK ds = true → RepK K B ρ' G ds vs → RepK K B' (ρ ++ ρ') G (D.shK ρ.length ds) vs
  | [], _, _, h => h
  | (_, d) :: ds, _, c, ⟨v, r, e1, h1, h2⟩ => by
    obtain ⟨c1, c2⟩ := Bool.and_eq_true_iff.mp (show (d.ret && D.retK ds) = true from c)
    exact ⟨v, r, e1, Rep.sh d v c1 h1, RepK.sh ds r c2 h2⟩
theorem RepT.sh : ∀ (ds : List (List Key × D)) (vs : List (List Key × V)), D.retT ds = true → RepT K B ρ' G ds vs → RepT K B' (ρ ++ ρ') G (D.shT ρ.length ds) vs
  | [], _, _, h => h
  | (_, d) :: ds, _, c, ⟨v, r, e1, h1, h2⟩ => by
    obtain ⟨c1, c2⟩ := Bool.and_eq_true_iff.mp (show (d.ret && D.retT ds) = true from c)
    exact ⟨v, r, e1, Rep.sh d v c1 h1, RepT.sh ds r c2 h2⟩
end
end
section
variable {c : Ct} {ρ : List Addr} {G H : Hp} {μ : Sto}
theorem lendA_ok (r : Rel c ρ G μ H) : ∀ (m : List Bool) (ds : List D) (vs : List V) (es : List D), lendA μ m ds = some es → Reps c.K c.B ρ G ds vs → Reps c.K H [] G es vs
  | [], [], _, _, h, q => by
    cases h
    exact q
  | true :: m, d :: ds, _, es, h, ⟨v, s, e1, h1, h2⟩ => by
    unfold lendA at h
    cases e : lend μ 8 d with
    | none =>
      rw [e] at h
      cases h
    | some x =>
      cases e' : lendA μ m ds with
      | none =>
        rw [e, e'] at h
        cases h
      | some t =>
        rw [e, e'] at h
        cases h
        exact ⟨v, s, e1, lend_ok r 8 d v x e h1, lendA_ok r m ds s t e' h2⟩
  | false :: m, d :: ds, _, es, h, ⟨v, s, e1, h1, h2⟩ => by
    unfold lendA at h
    split at h
    · rename_i hc
      obtain ⟨t, e', e2⟩ := map_some h
      subst e2
      exact ⟨v, s, e1, h1.clean d v hc, lendA_ok r m ds s t e' h2⟩
    · cases h
  | [], _ :: _, _, _, h, _ => by cases h
  | true :: _, [], _, _, h, _ => by cases h
  | false :: _, [], _, _, h, _ => by cases h
/-- behind a call -/
theorem Rel.after {G' H' : Hp} (r : Rel c ρ G μ H) (a : Aft G H G' H') : Rel c ρ G' μ H' := by
  have keep : ∀ {p : Addr} {o : HO}, H p = some o → G p = none → G' p = none := fun {p o} e n => by
    cases q : G' p with
    | none => rfl
    | some u =>
      rcases a.nw p u q with z | z
      · rw [n] at z
        cases z
      · rw [e] at z
        cases z
  refine ⟨a.gh, r.bh.trans a.hh, r.ph.trans a.hh, a.tp, r.g0.trans a.gg, fun p o e => ?_, fun p o e => ?_, r.ln, r.nd, fun n p x e1 e2 => ?_⟩
  · rcases a.nw p o e with z | z
    · exact r.nw p o z
    · exact .inr (r.none_b z)
  · obtain ⟨q1, q2, q3⟩ := r.gp p o e
    exact ⟨keep (r.ph _ _ e) q1, q2, q3⟩
  · exact (r.cl n p x e1 e2).mono (List.prefix_refl _) a.gg fun g0 _ o q => ⟨keep q g0, a.hh _ _ q⟩
theorem nons {K : PySem.W.Frag} {B : Hp} {ρ : List Addr} {G : Hp} : ∀ n : Nat, Reps K B ρ G (List.replicate n .non) (List.replicate n .non)
  | 0 => rfl
  | n + 1 => .cons rfl (nons n)
end
theorem live_new {c : Ct} {ρ : List Addr} {G H : Hp} {x : Cell} {a : Addr} (hr : x.ret = true) (h : CellOk c ρ G H x a) : c.B a = none ∧ G a = none := by
  cases x with
  | lst m xs => cases m <;> first | exact ⟨h.1, h.2.1⟩ | cases hr
  | dK m xs => cases m <;> first | exact ⟨h.1, h.2.1⟩ | cases hr
  | dT m xs => cases m <;> first | exact ⟨h.1, h.2.1⟩ | cases hr
theorem cell_in {c : Ct} {ρ : List Addr} {G H : Hp} {x : Cell} {a : Addr} (gh : Same G H) (h : CellOk c ρ G H x a) : ∃ o, H a = some o := by
  cases x with
  | lst m xs =>
    cases m with
    | fz =>
      obtain ⟨vs, q, _⟩ := h
      exact ⟨_, gh _ _ q⟩
    | live =>
      obtain ⟨_, _, vs, q, _⟩ := h
      exact ⟨_, q⟩
    | lock =>
      obtain ⟨_, _, vs, q, _⟩ := h
      exact ⟨_, q⟩
  | dK m xs =>
    cases m with
    | fz =>
      obtain ⟨vs, q, _⟩ := h
      exact ⟨_, gh _ _ q⟩
    | live =>
      obtain ⟨_, _, vs, q, _⟩ := h
      exact ⟨_, q⟩
    | lock =>
      obtain ⟨_, _, vs, q, _⟩ := h
      exact ⟨_, q⟩
  | dT m xs =>
    cases m with
    | fz =>
      obtain ⟨vs, q, _⟩ := h
      exact ⟨_, gh _ _ q⟩
    | live =>
      obtain ⟨_, _, vs, q, _⟩ := h
      exact ⟨_, q⟩
    | lock =>
      obtain ⟨_, _, vs, q, _⟩ := h
      exact ⟨_, q⟩
theorem cell_sh {c c' : Ct} {ρ ρ' : List Addr} {G H : Hp} {x : Cell} {a : Addr} (hK : c'.K = c.K) (hb : c.B a = none) (hr : x.ret = true) (h : CellOk c' ρ' G H x a) : CellOk c (ρ ++ ρ') G H (x.sh ρ.length) a := by
  cases x with
  | lst m xs =>
    cases m with
    | live =>
      obtain ⟨_, q1, vs, q2, q3⟩ := h
      rw [hK] at q3
      exact ⟨hb, q1, vs, q2, Reps.sh xs vs hr q3⟩
    | _ => cases hr
  | dK m xs =>
    cases m with
    | live =>
      obtain ⟨_, q1, vs, q2, q3⟩ := h
      rw [hK] at q3
      exact ⟨hb, q1, vs, q2, RepK.sh xs vs hr q3⟩
    | _ => cases hr
  | dT m xs =>
    cases m with
    | live =>
      obtain ⟨_, q1, vs, q2, q3⟩ := h
      rw [hK] at q3
      exact ⟨hb, q1, vs, q2, RepT.sh xs vs hr q3⟩
    | _ => cases hr
theorem aft_of {K : PySem.W.Frag} {mg : Str → Option Value} {G H G' H' : Hp} {ρ : List Addr} {μ : Sto} {P : Hp} (s : Same G G') (r : Rel ⟨K, mg, H, G, P⟩ ρ G' μ H') : Aft G H G' H' := ⟨r.bh, s, r.gh, r.tp, r.nw⟩
/-- the caller's cells, then the callee's -/
theorem Rel.join {c c' : Ct} {ρ ρ' : List Addr} {G G' H H' : Hp} {μ μ' : Sto} (r : Rel c ρ G μ H) (hK : c'.K = c.K) (hB : c'.B = H) (a : Aft G H G' H') (r' : Rel c' ρ' G' μ' H') (hr : μ'.all Cell.ret = true) : Rel c (ρ ++ ρ') G' (μ ++ μ'.map (Cell.sh μ.length)) H' := by
  have r2 := r.after a
  have new : ∀ b ∈ ρ', H b = none ∧ G' b = none := fun b hb => by
    obtain ⟨n, hn⟩ := List.mem_iff_getElem?.mp hb
    have hl : n < μ'.length := by
      have := (List.getElem?_eq_some_iff.mp hn).1
      have := r'.ln
      omega
    have h0 := r'.cl n b _ hn (List.getElem?_eq_getElem hl)
    have h1 := live_new (List.all_eq_true.mp hr _ (List.getElem_mem hl)) h0
    rw [hB] at h1
    exact h1
  refine ⟨r2.gh, r2.bh, r2.ph, r2.tp, r2.g0, r2.nw, fun p o e => ?_, by rw [List.length_append, List.length_append, List.length_map, r.ln, r'.ln], ?_, fun n p x e1 e2 => ?_⟩
  · obtain ⟨q1, q2, q3⟩ := r2.gp p o e
    refine ⟨q1, fun z => ?_, q3⟩
    rcases List.mem_append.mp z with z | z
    · exact q2 z
    · have := r.ph p o e
      rw [(new p z).1] at this
      cases this
  · refine List.nodup_append.mpr ⟨r.nd, r'.nd, fun p hp q hq e => ?_⟩
    subst e
    obtain ⟨n, hn⟩ := List.mem_iff_getElem?.mp hp
    have hl : n < μ.length := by
      have := (List.getElem?_eq_some_iff.mp hn).1
      have := r.ln
      omega
    obtain ⟨o, ho⟩ := cell_in r.gh (r.cl n p _ hn (List.getElem?_eq_getElem hl))
    rw [(new p hq).1] at ho
    cases ho
  · by_cases hn : n < ρ.length
    · rw [List.getElem?_append_left hn] at e1
      rw [List.getElem?_append_left (by rw [← r.ln]; exact hn)] at e2
      exact (r2.cl n p x e1 e2).mono (List.prefix_append _ _) (Same.refl _) fun g0 _ o q => ⟨g0, q⟩
    · rw [List.getElem?_append_right (by omega)] at e1
      rw [List.getElem?_append_right (by rw [← r.ln]; omega), List.getElem?_map] at e2
      rw [← r.ln] at e2
      cases e3 : μ'[n - ρ.length]? with
      | none =>
        rw [e3] at e2
        cases e2
      | some y =>
        rw [e3] at e2
        cases e2
        have hb := new p (List.mem_of_getElem? e1)
        exact cell_sh hK (r.none_b hb.1) (List.all_eq_true.mp hr _ (List.mem_of_getElem? e3)) (r'.cl _ p y e1 e3)
theorem give_ok {c : Ct} {E : XK} {ρ ρ' : List Addr} {G G' H H' : Hp} {μ μ' : Sto} {fz : Bool} {d : D} {v : V} {mg : Str → Option Value} {α : Type} {Q : D → List Addr → Hp → Sto → Hp → Prop} {P : V → Hp → Prop} (r : Rel c ρ G μ H) (s : Same G G') (r' : Rel ⟨c.K, mg, H, G, fun _ => none⟩ ρ' G' μ' H') (hv : Rep c.K H ρ' G' d v)
    (h : Fin c E ρ G (give fz d μ' μ) Q) (hQ : ∀ e ρ1 G1 μ1 H1, Rep c.K c.B ρ1 G1 e v → Q e ρ1 G1 μ1 H1 → P v H1) : P v H' := by
  cases fz with
  | true =>
    unfold give at h
    simp only at h
    cases e1 : frz 6 d μ' with
    | none =>
      rw [e1] at h
      exact fin_none h
    | some p =>
      obtain ⟨e, μ2⟩ := p
      rw [e1] at h
      simp only at h
      by_cases hc : e.clean = true
      · rw [if_pos hc] at h
        obtain ⟨G2, s2, r2, q2⟩ := frz_ok 6 d μ' e μ2 G' e1 r'
        have a := aft_of (s.trans s2) r2
        exact hQ e ρ G2 μ H' (Rep.clean e v hc (q2 v hv)) (Fin.ok_at (List.prefix_refl _) a.gg (r.after a) h)
      · rw [if_neg hc] at h
        exact fin_none h
  | false =>
    unfold give at h
    simp only at h
    by_cases hc : (d.ret && μ'.all Cell.ret) = true
    · rw [if_pos hc] at h
      rw [Bool.and_eq_true] at hc
      have a := aft_of s r'
      have j := r.join (c' := ⟨c.K, mg, H, G, fun _ => none⟩) rfl rfl a r' hc.2
      refine hQ (d.sh μ.length) (ρ ++ ρ') G' _ H' ?_ (Fin.ok_at (List.prefix_append _ _) a.gg j h)
      rw [← r.ln]
      exact Rep.sh d v hc.1 hv
    · rw [if_neg hc] at h
      exact fin_none h
theorem tx_call {K : PySem.W.Frag} {mg : Str → Option Value} {E : XK} {F : Fn} {dn : Nat} {fz : Bool} {fs : FEs} : ∀ σ H Q, TX K mg E (fun env μ => rb (fs env μ) (dCall F dn fz)) σ H Q → tCall (F.sp K mg) (List.replicate dn .non) E (TXs K mg E fs) σ H Q := by
  rintro σ H Q ⟨c, env, ρ, G, μ, hK, hm, re, eo, h⟩
  subst hK hm
  refine txs_use rfl rfl re eo h fun ds vs ρ1 G1 μ1 H1 p1 e1 r1 eo1 hv h1 => ?_
  unfold dCall at h1
  split at h1
  · exact fin_none h1
  · rename_i es e2
    split at h1
    · rename_i hl
      have hr := lendA_ok r1 _ _ _ _ e2 (hv.append (nons dn))
      refine ⟨by rw [← hr.length]; exact hl, G1, es, r1.gh, r1.tp, hr, ?_⟩
      split at h1
      · exact fin_none h1
      · exact fun v ρ2 G2 H2 s r2 q => give_ok (α := Unit) r1 s r2 q h1 fun e ρ3 G3 μ3 H3 q3 q4 => q4 v q3
      · exact fun G' H' cls da a q => h1 ρ1 G' H' cls da (List.prefix_refl _) a.gg (r1.after a) q
    · exact fin_none h1
end Lv

set_option Elab.async false
set_option linter.all false
set_option maxRecDepth 100000
set_option autoImplicit false
/-! the other way about; two names at once -/
namespace Lv
open PySem PySem.Spec PyProof.Rows L2
def dRev (lv : Bool) (d : D) (μ : Sto) : R D := match seeL μ d with
  | some xs => alloc lv xs.reverse μ
  | none => none
theorem reps_rev {K : PySem.W.Frag} {B : Hp} {ρ : List Addr} {G : Hp} : ∀ {ds : List D} {vs : List V}, Reps K B ρ G ds vs → Reps K B ρ G ds.reverse vs.reverse
  | [], _, h => by
    cases h
    exact rfl
  | d :: ds, _, ⟨v, r, e1, h1, h2⟩ => by
    subst e1
    rw [List.reverse_cons, List.reverse_cons]
    exact (reps_rev h2).append ⟨v, [], rfl, h1, rfl⟩
theorem tx_rev {K : PySem.W.Frag} {mg : Str → Option Value} {E : XK} {f : FE} (lv : Bool) : ∀ σ H Q, TX K mg E (fun env μ => rb (f env μ) (dRev lv)) σ H Q → tRevL K (TX K mg E f) σ H Q := by
  rintro σ H Q ⟨c, env, ρ, G, μ, hK, hm, re, eo, h⟩
  subst hK
  refine tx_use rfl hm re eo h fun d v ρ1 G1 μ1 H1 p1 e1 r1 eo1 hv h1 => ?_
  unfold dRev at h1
  cases e : seeL μ1 d with
  | none =>
    rw [e] at h1
    exact fin_none h1
  | some xs =>
    rw [e] at h1
    obtain ⟨a, vs, rfl, q1, q2⟩ := seeL_ok r1 e hv
    exact ⟨a, vs, rfl, q1, fun p hp => alloc_use rfl r1 (reps_rev q2) hp h1⟩
/-! x is True, x is False -/
def rIsB (neg : Bool) : R2 := fun x y H Q => ∃ c d, x = .bl c ∧ y = .bl d ∧ Q (.bl (if neg then c != d else c == d)) H
theorem op_isB {X : Cx} : OpR X (compareOp .Is) (rIsB false) := by
  intro pins s σ H x y v u Q I rx ry h
  obtain ⟨c, d, rfl, rfl, q⟩ := h
  cases rx
  cases ry
  exact is_bool ⟨.bl _, H, I, rfl, q⟩
theorem op_notB {X : Cx} : OpR X (compareOp .IsNot) (rIsB true) := by
  intro pins s σ H x y v u Q I rx ry h
  obtain ⟨c, d, rfl, rfl, q⟩ := h
  cases rx
  cases ry
  exact isnot_bool ⟨.bl _, H, I, rfl, q⟩
def dIsB (neg : Bool) (d e : D) (μ : Sto) : R D := match d, e with
  | .bl c, .bl b => ok (.bl (if neg then c != b else c == b)) μ
  | _, _ => none
theorem isB_ok {K : PySem.W.Frag} {E : XK} (neg : Bool) : OpD K E (rIsB neg) (dIsB neg) := by
  intro c ρ G H μ d e x y Q hK r hx hy h
  subst hK
  unfold dIsB at h
  split at h
  · cases hx
    cases hy
    exact ⟨_, _, rfl, rfl, val_use (d := .bl _) (v := .bl _) rfl r rfl h⟩
  · exact fin_none h
/-! list(range(..)) -/
def dLrg (lv : Bool) (ds : List D) (μ : Sto) : R D := match ds with
  | [.int j] => if j.toNat ≤ LIM ∧ -(2 ^ 61) ≤ j then alloc lv (rangeD 0 j.toNat) μ else none
  | [.int i, .int j] => if (-(2 ^ 61) ≤ i ∧ i ≤ 2 ^ 61) ∧ (-(2 ^ 61) ≤ j ∧ j ≤ 2 ^ 61) ∧ (j - i).toNat ≤ LIM then alloc lv (rangeD i (j - i).toNat) μ else none
  | _ => none
theorem reps_two {K : PySem.W.Frag} {B : Hp} {ρ : List Addr} {G : Hp} {α : Type} {f : α → D} {g : α → V} (h : ∀ x, Rep K B ρ G (f x) (g x)) : ∀ xs : List α, Reps K B ρ G (xs.map f) (xs.map g)
  | [] => rfl
  | x :: r => ⟨g x, r.map g, rfl, h x, reps_two h r⟩
theorem rb_one {β : Type} (f : FE) (env : Env) (μ : Sto) (g : List D → Sto → R β) : rb (fCons f fNil env μ) g = rb (f env μ) fun d μ1 => g [d] μ1 := by
  show rb (rb (f env μ) fun d μ1 => rb (fNil env μ1) fun ds μ2 => ok (d :: ds) μ2) g = _
  rw [rb_assoc]
  rfl
theorem rb_two {β : Type} (f f' : FE) (env : Env) (μ : Sto) (g : List D → Sto → R β) : rb (fCons f (fCons f' fNil) env μ) g = rb (f env μ) fun d μ1 => rb (f' env μ1) fun e μ2 => g [d, e] μ2 := by
  show rb (rb (f env μ) fun d μ1 => rb (fCons f' fNil env μ1) fun ds μ2 => ok (d :: ds) μ2) g = _
  rw [rb_assoc]
  congr 1
  funext d μ1
  rw [rb_assoc, rb_one]
  rfl
theorem tx_lrg1 {K : PySem.W.Frag} {mg : Str → Option Value} {E : XK} {f : FE} (lv : Bool) : ∀ σ H Q, TX K mg E (fun env μ => rb (fCons f fNil env μ) (dLrg lv)) σ H Q → tLstRg (tRg1 (TX K mg E f)) σ H Q := by
  rintro σ H Q ⟨c, env, ρ, G, μ, hK, hm, re, eo, h⟩
  subst hK
  simp only [rb_one] at h
  refine tx_use rfl hm re eo h fun d v ρ1 G1 μ1 H1 p1 e1 r1 eo1 hv h1 => ?_
  unfold dLrg at h1
  split at h1
  · rename_i ds j e0
    cases e0
    cases hv
    split at h1
    · rename_i hj
      have hL : LIM = 1000000 := rfl
      refine ⟨j, rfl, ⟨by omega, by omega, by omega, by omega, by rw [Int.sub_zero]; omega⟩, fun q hq => ?_⟩
      rw [show rgV 0 j = (List.range j.toNat).map fun i => V.int (0 + (i : Nat)) by unfold rgV; rw [Int.sub_zero]]
      exact alloc_use rfl r1 (reps_two (f := fun i : Nat => D.int (0 + (i : Nat))) (g := fun i : Nat => V.int (0 + (i : Nat))) (fun i => rfl) _) hq h1
    · exact fin_none h1
  · rename_i e0
    cases e0
  · exact fin_none h1
theorem tx_lrg2 {K : PySem.W.Frag} {mg : Str → Option Value} {E : XK} {f g : FE} (lv : Bool) : ∀ σ H Q, TX K mg E (fun env μ => rb (fCons f (fCons g fNil) env μ) (dLrg lv)) σ H Q → tLstRg (tRg2 (TX K mg E f) (TX K mg E g)) σ H Q := by
  rintro σ H Q ⟨c, env, ρ, G, μ, hK, hm, re, eo, h⟩
  subst hK
  simp only [rb_two] at h
  refine tx_use rfl hm re eo h fun d v ρ1 G1 μ1 H1 p1 e1 r1 eo1 hv h1 => ?_
  refine tx_use rfl hm r1 eo1 h1 fun e u ρ2 G2 μ2 H2 p2 e2 r2 eo2 hu h2 => ?_
  unfold dLrg at h2
  split at h2
  · rename_i e0
    cases e0
  · rename_i ds i j e0
    cases e0
    cases hv
    cases hu
    split at h2
    · rename_i hj
      have hL : LIM = 1000000 := rfl
      refine ⟨i, j, rfl, rfl, ⟨by omega, by omega, by omega, by omega, by omega⟩, fun q hq => ?_⟩
      exact alloc_use rfl r2 (reps_two (f := fun k : Nat => D.int (i + (k : Nat))) (g := fun k : Nat => V.int (i + (k : Nat))) (fun k => rfl) _) hq h2
    · exact fin_none h2
  · exact fin_none h2
end Lv

set_option Elab.async false
set_option linter.all false
set_option maxRecDepth 100000
set_option autoImplicit false
/-! enumerate of a tuple -/
namespace Lv
open PySem PySem.Spec PyProof.Rows L2
abbrev tiO (t : Addr) : Obj := { cls := .type "tuple_iterator", data := .fields #[.ref t, .int 0 0] }
abbrev enO (it : Addr) : Obj := { cls := .type "enumerate", data := .fields #[.none, .bool false, .ref it, rawInt 0, .none, .none] }
theorem enT_new (t : Addr) (us : Array Value) :
    Meets (Builtin.«enumerate.__new__» ⟨[.type "enumerate", .ref t], []⟩) (fun _ R s => s.heap.IsTuple t us ∧
      R (.ok (.ret (.ref (s.heap.push (tiO t)).objs.size))) { s with heap := (s.heap.push (tiO t)).push (enO s.heap.objs.size) }) :=
  .of_wp fun prog w A R s h => by
    obtain ⟨hp, g, d, tk, os⟩ := s
    obtain ⟨h1, h⟩ := h
    have hsub := sub_enumerate
    have hT : Heap.IsTuple (Shared.heap ⟨hp, g, d, tk, os⟩) t us := h1
    have q1 : ∀ {A' : Around} {E : Value → Shared → Prop} {Q : Value → Shared → Prop}, Q (.ref hp.objs.size) ⟨(hp.push (tiO t)), g, d, tk, os⟩ → wpAny (model prog w) A' (pyIter (.ref t)) Q E ⟨hp, g, d, tk, os⟩ :=
      fun q => (begins_tuple t us).iter prog w _ _ ⟨hp, g, d, tk, os⟩ _ h1 q
    wp_walk using q1
    refine wpAny_stack_any fun st => wpAny_pure ?_
    split
    · rename_i c _ _ _ _ _
      cases (c == Value.type "enumerate") <;> (wp_walk using q1; exact ⟨_, rfl, h⟩)
    · wp_walk using q1
      exact ⟨_, rfl, h⟩
section
variable {prog : Program} {w : World} {A : Around} {E : Value → Shared → Prop} {s : Shared}
theorem enT_call {t : Addr} {us : Array Value} {Q : Value → Shared → Prop} (ht : s.heap.IsTuple t us)
    (k : ∀ g, IsEnum g (s.heap.objs.size + 1) s.heap.objs.size 0 .none → g.IsTupleIter s.heap.objs.size t 0 →
      (∀ b o, s.heap.get? b = some o → g.get? b = some o) → Q (.ref (s.heap.objs.size + 1)) { s with heap := g }) :
    wpAny (model prog w) A (call (.type "enumerate") [.ref t]) Q E s := by
  refine callType_new F.called_enumerate (by decide) (F.typeCall_enumerate_1 _) (F.newCall_enumerate_1 _) (fun ob => F.args_object_init_2 ob _) F.entry_enumerate_new (enT_new t us) ⟨ht, ?_⟩
  have z : (s.heap.push (tiO t)).objs.size = s.heap.objs.size + 1 := Heap.size_push ..
  show _ ∧ _
  rw [z]
  have g1 : IsEnum ((s.heap.push (tiO t)).push (enO s.heap.objs.size)) (s.heap.objs.size + 1) s.heap.objs.size 0 .none := by
    have q := Heap.get?_push_size (s.heap.push (tiO t)) (o := enO s.heap.objs.size) rfl
    rw [z] at q
    exact q
  exact ⟨⟨_, g1, rfl⟩, k _ g1 ⟨_, Heap.get?_push_of_some _ (Heap.get?_push_size _ rfl), rfl, rfl⟩ fun b o x => Heap.get?_push_of_some _ (Heap.get?_push_of_some _ x)⟩
theorem enT_end {e it t : Addr} {i : Nat} {us : Array Value} {old : Value} {Q : Option Value → Shared → Prop} (hh : A.in1.handled = none)
    (he : IsEnum s.heap e it i old) (hi : s.heap.IsTupleIter it t i) (ht : s.heap.IsTuple t us) (hx : us[i]? = none)
    (k : ∀ g, Heap.ExtBut it s.heap g → Q none { s with heap := g }) : wpAny (model prog w) A (pyNext (.ref e)) Q E s := by
  have ty : s.TypeIs (.ref e) "enumerate" := ⟨_, he, rfl⟩
  unfold pyNext
  refine wpAny_bind (wpAny_attempt (wpAny_callSpecial?_slot (name := Str.ofString "__next__") ty F.slot_enumerate_next (wpAny_call_entry F.slot_enumerate_next ty F.entry_enumerate_next ?_ (F.args_enumerate_next_1 _))))
  show wpAny _ _ (field (.ref e) 2 >>= _) _ _ _
  refine wpAny_bind (wpAny_field he rfl (x := .ref it) rfl (wpAny_bind (wpAny_nextOf_tuple_end hh hi ht hx fun g x eb hc => ?_)))
  obtain ⟨o, ho, hc⟩ := hc
  exact wpAny_bind (wpAny_isInstance (T := "StopIteration") (b := true) ⟨o, ho, hc⟩ isSubtype_stop (wpAny_pure (k _ eb)))
end
/-- the items of the tuple at a, each in a new pair -/
def ItN (K : PySem.W.Frag) (a : Addr) : It :=
  ⟨fun i H => ∃ (us : List V) (u : V), SqT K H a us ∧ us[i]? = some u, fun i H v G => ∃ T u, v = .ref T ∧ H T = none ∧ G = upd H T (.tup [.int (i : Nat), u]) ∧ ∀ us, SqT K H a us → us[i]? = some u, fun i H => ∃ us : List V, SqT K H a us ∧ us.length ≤ i⟩
theorem isT_of {h : Heap} {a : Addr} {us : Array Value} (x : IsTup h a us) : h.IsTuple a us := by
  obtain ⟨o, h1, h2, n, h3⟩ := x
  exact ⟨o, h1, h2, n, h3⟩
theorem turn_enT {P : Program} {w : World} {K : PySem.W.Frag} {tgs : List Expr} {kk : Nat} {tp : Pos} (a e it : Addr) (hae : a ≠ it) :
    Turn P w K (.Tuple tgs kk tp) (ItN K a) [e, it] e (fun i h => (∃ old, IsEnum h e it ((i : Nat) : Int) old) ∧ h.IsTupleIter it a i ∧ e ≠ it ∧ a ≠ e) where
  mem := List.mem_cons_self
  obj := fun i h st b hb => by
    obtain ⟨⟨old, he⟩, ⟨o, ho, hc, hd⟩, _⟩ := st
    rcases List.mem_cons.mp hb with z | z
    · rw [z]
      exact ⟨_, he, fun v q => nomatch q⟩
    · rw [List.mem_singleton.mp z]
      exact ⟨o, ho, fun v q => by rw [hd] at q; cases q⟩
  keep := fun i h h' st k => by
    obtain ⟨⟨old, he⟩, ⟨o, ho, hc⟩, hne⟩ := st
    exact ⟨⟨old, k e List.mem_cons_self _ he⟩, ⟨o, k it (List.mem_cons_of_mem _ List.mem_cons_self) o ho, hc⟩, hne⟩
  item := by
    intro X hP hw hK hc i pins s σ H E I hf st hg
    subst hP hw hK
    obtain ⟨⟨old, he⟩, hit, hne, hea⟩ := st
    obtain ⟨us, u0, hq, hx⟩ := hg
    obtain ⟨its, rv, p, hz⟩ := I.tuple hq
    obtain ⟨u, hu, ru⟩ := rv.get hx
    have hp : s.heap.IsTuple a its.toArray := isT_of p
    have hel : e < s.heap.objs.size := Heap.lt_size he
    have hil : it < s.heap.objs.size := by
      obtain ⟨_, q, _⟩ := hit
      exact Heap.lt_size q
    have hu' : its.toArray[i]? = some u := by simpa using hu
    have hin : i < its.toArray.size := by
      by_cases q : i < its.toArray.size
      · exact q
      · rw [Array.getElem?_eq_none (by omega)] at hu'
        cases hu'
    have hh : X.A.in1.handled = none := I.ok.hd hc
    refine wpAny_pyNext_enum_itemD (Draws.tuple hh it a hae its.toArray) he ⟨hit, hp⟩ hin hne (fun z => ?_) fun x h' tk hP ho hS hT hsz hk => ?_
    · rcases List.mem_cons.mp z with z | z
      · exact hne z
      · exact hea (List.mem_singleton.mp z).symm
    have hxu : x = u := Option.some.inj (hP.symm.trans hu')
    subst hxu
    refine ⟨_, rfl, wpAny_letOwnedTupleGo_enum (s := { s with heap := h', toks := tk + 1 }) ho fun g hg' sb => ?_⟩
    have hT2 : g.get? s.heap.objs.size = some { cls := .type "tuple", data := .seq #[.int i tk, x] } := (sb.2 _ (Nat.ne_of_gt hel)).trans hT
    have hn0 : H s.heap.objs.size = none := I.hok.fresh (Nat.le_refl _)
    have new : ObjOk X.prog X.w (upd H s.heap.objs.size (.tup [.int (i : Nat), u0])) g s.heap.objs.size (.tup [.int (i : Nat), u0]) :=
      ⟨by show 2 ≤ sizeLine; decide, [.int i tk, x], .cons ⟨_, rfl⟩ (.cons ru .nil), ⟨_, hT2, rfl, _, rfl⟩⟩
    have I1 : Inv X pins σ (upd H s.heap.objs.size (.tup [.int (i : Nat), u0])) { s with heap := g, toks := tk + 1 } :=
      I.turnedNew (ch := [e, it]) (fun b ob hb q => (sb.2 b (fun z => hb (by simp [z]))).trans (hk b ob (fun z => hb (by simp [z])) (fun z => hb (by simp [z])) q)) hf (Nat.le_refl _) new
    refine ⟨.ref s.heap.objs.size, _, I1, rfl, ⟨_, u0, rfl, hn0, rfl, fun ys hy => by rw [I.tuple_inj hy hq]; exact hx⟩, ⟨⟨x, ?_⟩, ?_, hne, hea⟩, fun b hb => ?_⟩
    · have e1 : ((i + 1 : Nat) : Int) = (i : Int) + 1 := by omega
      rw [e1]
      exact hg'
    · obtain ⟨o, h1, h2⟩ := hS.1
      exact ⟨o, (sb.2 it (Ne.symm hne)).trans h1, h2⟩
    · have hb' : b < s.heap.objs.size := by
        rcases List.mem_cons.mp hb with z | z
        · rw [z]; exact hel
        · rw [List.mem_singleton.mp z]; exact hil
      rw [upd_ne (Nat.ne_of_lt hb')]
      exact (hf b hb).1
  done := by
    intro X hP hw hK hc i pins s σ H E I hf st hg
    subst hP hw hK
    obtain ⟨⟨old, he⟩, hit, hne, hea⟩ := st
    obtain ⟨us, hq, hx⟩ := hg
    obtain ⟨its, rv, p, hz⟩ := I.tuple hq
    have hp : s.heap.IsTuple a its.toArray := isT_of p
    obtain ⟨f0, f1, f2, f3, f4, f5⟩ := hf it (by simp)
    have hl := rv.length
    have hh : X.A.in1.handled = none := I.ok.hd hc
    refine enT_end hh he hit hp (by simp; omega) fun g eb => ⟨rfl, I.turned (t' := s.toks) (fun b o hb q => eb b o hb q) f0 f1 f3 f4 f5⟩
  self := fun A i s Q E st h => by
    obtain ⟨⟨old, he⟩, _⟩ := st
    exact wpAny_pyIter_enum he h
def iEnN (K : PySem.W.Frag) (ta : TA) : TI := fun σ H R => ta σ H fun vs G => ∃ a us, vs = [.ref a] ∧ SqT K G a us ∧ R (ItN K a) G
theorem pi_enN {X : Cx} {e : Expr} {ta : TA} {p pos tp : Pos} {tgs : List Expr} {kk : Nat} (hg : Gl X "enumerate") (hm : X.mg "enumerate" = none) (ha : PA X [e] ta) (hs : starEach [e] X.env = [(false, eval e X.env)]) :
    PI X (.Tuple tgs kk tp) (.Call (.Name "enumerate" p) [e] [] pos) (iEnN X.K ta) := by
  refine ⟨fun pins s σ H R I h => Call_ (ld_blt I hg hm boot_enumerate (PyProof.Rows.callWith_type1 (thn (ha.run pos pins s σ H _ I h) fun vs s1 ⟨us, H1, I1, r1, q1⟩ => ?_) hs rfl))⟩
  obtain ⟨a, ws, ex, hq, q⟩ := q1
  subst ex
  cases r1 with
  | cons r rr =>
    cases rr
    cases r
    obtain ⟨its, rv, tp', hz⟩ := I1.tuple hq
    have ht : s1.heap.IsTuple a its.toArray := isT_of tp'
    have hlt : a < s1.heap.objs.size := by
      obtain ⟨o, ho, _⟩ := ht
      exact Heap.lt_size ho
    refine enT_call ht fun g he hit hk => wpAny_pyIter_enum he ?_
    have I2 : Inv X pins σ H1 { s1 with heap := g } := I1.kept (t' := s1.toks) hk
    refine ⟨s1.heap.objs.size + 1, [s1.heap.objs.size + 1, s1.heap.objs.size], _, _, H1, rfl, I2, turn_enT a (s1.heap.objs.size + 1) s1.heap.objs.size (Nat.ne_of_lt hlt), ⟨⟨.none, he⟩, hit, Nat.succ_ne_self _, Nat.ne_of_lt (Nat.lt_succ_of_lt hlt)⟩, fun b hb => ?_, q⟩
    have hle : s1.heap.objs.size ≤ b := by
      rcases List.mem_cons.mp hb with z | z
      · rw [z]
        exact Nat.le_add_right _ _
      · rw [List.mem_singleton.mp z]
        exact Nat.le_refl _
    exact I1.fpOk hle (I1.hok.fresh hle)
end Lv

set_option Elab.async false
set_option linter.all false
set_option maxRecDepth 100000
set_option autoImplicit false
/-! enumerate of a tuple, how many unlike ones, sorted pairs -/
namespace Lv
open PySem PySem.Spec PyProof.Rows L2
section
variable {K : PySem.W.Frag} {mg : Str → Option Value} {E : XK}
def dEnumT (ds : List D) (μ : Sto) : R Sr := match ds with
  | [.tup xs] => ok (.fix (enumD 0 xs)) μ
  | _ => none
theorem txi_enumT {f : FEs} : ∀ σ H R, TXi K mg E (fun env μ => rb (f env μ) dEnumT) σ H R → iEnN K (TXs K mg E f) σ H R := by
  rintro σ H R ⟨c, env, ρ, G, μ, hK, hm, re, eo, h⟩
  subst hK
  refine txs_use rfl hm re eo h fun ds vs ρ1 G1 μ1 H1 p1 e1 r1 eo1 hv h1 => ?_
  unfold dEnumT at h1
  split at h1
  · rename_i xs
    obtain ⟨v, rfl, hv1⟩ := reps1 hv
    obtain ⟨a, us, rfl, q0, q1⟩ := hv1
    have q2 : ∀ (c' : Ct) (ρ : List Addr) (G : Hp) (μ : Sto) (H : Hp), Same G1 G → Rel c' ρ G μ H → SqT c.K H a us := fun c' ρ G μ H e r => .inl (.inl (r.gh _ _ (e _ _ q0)))
    refine ⟨a, us, rfl, q2 c ρ1 G1 μ1 H1 (Same.refl _) r1, Fin.ok r1 h1 _ ?_⟩
    intro c' ρ G μ H hK hB p e r i o ho
    have q := q2 c' ρ G μ H e r
    have q3 := q1.mono p e
    cases ho
    rw [enumD_get]
    cases ei : xs[i]? with
    | none =>
      refine ⟨us, q, ?_⟩
      have := List.getElem?_eq_none_iff.mp ei
      rw [q1.length] at this
      exact this
    | some d =>
      obtain ⟨v, w1, w2⟩ := q3.get ei
      refine ⟨⟨us, v, q, w1⟩, fun x H' y => ?_⟩
      obtain ⟨T, z, rfl, hT, rfl, y⟩ := y
      have := y us q
      rw [w1] at this
      cases this
      refine ⟨_, same_upd (r.none_g hT), r.frozen hT, rep_updT (r.none_g hT) (xs := [.int ((0 + i : Nat) : Int), d]) ⟨_, _, rfl, ?_, _, _, rfl, w2, rfl⟩⟩
      rw [Nat.zero_add]
      rfl
  · exact fin_none h1

/-! ### len(set(xs)) -/
def lsetN (ns : List Int) : Nat := (PyProof.Rows.firstMet (fun i => ns.getD i 0) ns.length).length
def dLSet (d : D) (μ : Sto) : R D := match (seeL μ d).bind intsD with
  | some ns => if ns.length ≤ 1000 then ok (.int (lsetN ns : Nat)) μ else none
  | none => none
def tLSet (K : PySem.W.Frag) (ta : TE) : TE := fun σ H Q => ta σ H fun x G => ∃ (l : Addr) (ns : List Int), x = .ref l ∧ SqL K G l (ns.map V.int) ∧ ns.length ≤ 1000 ∧ Q (.int (lsetN ns : Nat)) G
theorem pe_lset {X : Cx} {a : Expr} {ta : TE} {p p2 q pos : Pos} (hc : X.calm = true) (hg : Gl X "len") (hm : X.mg "len" = none) (hg2 : Gl X "set") (hm2 : X.mg "set" = none) (ha : PE X a ta)
    (na : starEach [a] X.env = (false, eval a X.env) :: starEach [] X.env) : PE X (.Call (.Name "len" p) [.Call (.Name "set" p2) [a] [] q] [] pos) (tLSet X.K ta) := by
  refine ⟨fun pins s σ H Q I h => Call_ (ld_blt I hg hm boot_len (PyProof.Rows.callWith_builtin1 (PyProof.Rows.args_cons ?_ rfl) rfl rfl))⟩
  refine Call_ (ld_blt I hg2 hm2 boot_set (PyProof.Rows.callWith_type1 (PyProof.Rows.args_cons (thn (ha.run pins s σ H _ I h) fun v s1 ⟨x, H1, I1, r1, q1⟩ => PyProof.Rows.args_nil ?_) na) na rfl))
  obtain ⟨l, ns, rfl, hq, hl, q1⟩ := q1
  cases r1
  obtain ⟨its, r, pl, hz⟩ := I1.list hq
  have hn : its.toArray.size = ns.length := by rw [List.size_toArray, ← r.length, List.length_map]
  have hle := PyProof.Rows.firstMet_length_le (fun i => ns.getD i 0) ns.length
  refine call_set_list (I1.ok.hd hc) pl.isList (ns := ns) (by simpa using r.ints) (by rw [hn]; unfold scanBound; omega) fun g tk hS hk => PyProof.Rows.args_nil ?_
  rw [hn] at hS
  obtain ⟨o, es, ep, t, ho, hex, hd, _, _, _, hf, hu⟩ := hS
  have I2 : Inv X pins σ H1 { s1 with heap := g, toks := tk } := I1.kept fun b o e => hk b o (Heap.lt_size e) e
  exact call_len_set ho hex hd hf (by rw [hu] <;> omega) ⟨.int (lsetN ns : Nat), H1, I2.tok _, ⟨_, by rw [hu] <;> rfl⟩, q1⟩
theorem tx_lset {f : FE} : ∀ σ H Q, TX K mg E (fun env μ => rb (f env μ) dLSet) σ H Q → tLSet K (TX K mg E f) σ H Q := by
  rintro σ H Q ⟨c, env, ρ, G, μ, hK, hm, re, eo, h⟩
  subst hK
  refine tx_use rfl hm re eo h fun d v ρ1 G1 μ1 H1 p1 e1 r1 eo1 hv h1 => ?_
  unfold dLSet at h1
  split at h1
  · rename_i ns e0
    split at h1
    · rename_i hl
      obtain ⟨a, us, rfl, q1, q2⟩ := seeL_ok r1 (bind_ints e0) hv
      rw [rep_ints q2] at q1
      exact ⟨a, ns, rfl, q1, hl, Fin.ok r1 h1 _ rfl⟩
    · exact fin_none h1
  · exact fin_none h1

/-! ### sorted(xs), pairs -/
def pairsD : List D → Option (List (Int × Int))
  | [] => some []
  | .tup [.int i, .int j] :: r => (pairsD r).map ((i, j) :: ·)
  | _ :: _ => none
def pairD (p : Int × Int) : D := .tup [.int p.1, .int p.2]
theorem pairs_eq : ∀ {ds : List D} {ps : List (Int × Int)}, pairsD ds = some ps → ds = ps.map pairD
  | [], _, h => by
    cases h
    rfl
  | d :: r, ps, h => by
    unfold pairsD at h
    split at h
    · rename_i e
      cases e
    · rename_i i j r' e
      cases e
      cases q : pairsD r with
      | none =>
        rw [q] at h
        cases h
      | some qs =>
        rw [q] at h
        cases h
        rw [pairs_eq q]
        rfl
    · cases h
def leP (p q : Int × Int) : Bool := !SrtO.lexB q p
def putP (p : Int × Int) : List (Int × Int) → List (Int × Int)
  | [] => [p]
  | q :: r => if SrtO.lexB q p = true then q :: putP p r else p :: q :: r
def psort : List (Int × Int) → List (Int × Int)
  | [] => []
  | p :: r => putP p (psort r)
theorem putP_perm (p : Int × Int) : ∀ r : List (Int × Int), (putP p r).Perm (p :: r)
  | [] => .refl _
  | q :: r => by
    unfold putP
    split
    · exact ((putP_perm p r).cons q).trans (.swap _ _ _)
    · exact .refl _
theorem psort_perm : ∀ r : List (Int × Int), (psort r).Perm r
  | [] => .refl _
  | p :: r => (putP_perm p _).trans ((psort_perm r).cons p)
def ltPP (p q : Int × Int) : Prop := SrtO.lexB q p = false
theorem ltPP_trans {p q r : Int × Int} (h : ltPP p q) (h' : ltPP q r) : ltPP p r := by
  unfold ltPP at *
  rw [SrtO.lexB_no] at *
  omega
theorem putP_sorted (p : Int × Int) : ∀ {r : List (Int × Int)}, r.Pairwise ltPP → (putP p r).Pairwise ltPP
  | [], _ => by simp [putP]
  | q :: r, h => by
    obtain ⟨h1, h2⟩ := List.pairwise_cons.mp h
    unfold putP
    split
    · rename_i e
      refine List.pairwise_cons.mpr ⟨fun x hx => ?_, putP_sorted p h2⟩
      rcases List.mem_cons.mp ((putP_perm p r).mem_iff.mp hx) with z | z
      · subst z
        unfold ltPP
        rw [SrtO.lexB_no]
        rw [SrtO.lexB_iff] at e
        omega
      · exact h1 x z
    · rename_i e
      have e' : ltPP p q := by
        unfold ltPP
        simpa using e
      refine List.pairwise_cons.mpr ⟨fun x hx => ?_, h⟩
      rcases List.mem_cons.mp hx with z | z
      · subst z
        exact e'
      · exact ltPP_trans e' (h1 x z)
theorem psort_sorted : ∀ r : List (Int × Int), (psort r).Pairwise ltPP
  | [] => .nil
  | p :: r => putP_sorted p (psort_sorted r)
theorem ltPP_anti {p q : Int × Int} (h : ltPP p q) (h' : ltPP q p) : p = q := by
  unfold ltPP at *
  rw [SrtO.lexB_no] at *
  ext <;> omega
theorem sortedP_eq : ∀ {l m : List (Int × Int)}, l.Pairwise ltPP → m.Pairwise ltPP → l.Perm m → l = m
  | [], m, _, _, h => (List.Perm.eq_nil h.symm).symm
  | x :: l, [], _, _, h => absurd h.length_eq (by simp)
  | x :: l, y :: m, hl, hm, h => by
    obtain ⟨l1, l2⟩ := List.pairwise_cons.mp hl
    obtain ⟨m1, m2⟩ := List.pairwise_cons.mp hm
    have rf : ∀ p : Int × Int, ltPP p p := fun p => by
      unfold ltPP
      rw [SrtO.lexB_no]
      omega
    have a : ltPP x y := by
      rcases List.mem_cons.mp (h.mem_iff.mpr (List.mem_cons_self (a := y) (l := m))) with z | z
      · rw [z]
        exact rf x
      · exact l1 y z
    have b : ltPP y x := by
      rcases List.mem_cons.mp (h.mem_iff.mp (List.mem_cons_self (a := x) (l := l))) with z | z
      · rw [z]
        exact rf y
      · exact m1 x z
    have e := ltPP_anti a b
    subst e
    rw [sortedP_eq l2 m2 h.cons_inv]
def dSortP (lv : Bool) (ds : List D) (μ : Sto) : R D := match ds with
  | [d] => match (see μ d).bind pairsD with
    | some ps => alloc lv ((psort ps).map pairD) μ
    | none => none
  | _ => none
theorem reps_pairs {B : Hp} {ρ : List Addr} {G : Hp} : ∀ {ps : List (Int × Int)} {vs : List V}, Reps K B ρ G (ps.map pairD) vs → Paired (fun p v => ∃ t, v = V.ref t ∧ G t = some (.tup [.int p.1, .int p.2])) ps vs
  | [], _, h => by
    cases h
    exact .nil
  | p :: ps, _, ⟨v, r, e1, h1, h2⟩ => by
    subst e1
    refine .cons ?_ (reps_pairs h2)
    obtain ⟨t, us, rfl, q1, q2⟩ := h1
    obtain ⟨u, w, rfl, hu, hw⟩ := reps2 q2
    cases hu
    cases hw
    exact ⟨t, rfl, q1⟩
def kP (H : Hp) (x : V) : Int × Int := match x with
  | .ref t => match H t with
    | some (.tup [.int i, .int j]) => (i, j)
    | _ => (0, 0)
  | _ => (0, 0)
theorem paired_k {G H : Hp} (e : Same G H) : ∀ {ps : List (Int × Int)} {vs : List V}, Paired (fun p v => ∃ t, v = V.ref t ∧ G t = some (.tup [.int p.1, .int p.2])) ps vs → vs.map (kP H) = ps ∧ ∀ v ∈ vs, ∃ t, v = V.ref t ∧ G t = some (.tup [.int (kP H v).1, .int (kP H v).2])
  | _, _, .nil => ⟨rfl, fun v hv => by cases hv⟩
  | _, _, .cons (a := p) (b := v) h t => by
    obtain ⟨a1, a2⟩ := paired_k e t
    obtain ⟨x, rfl, hx⟩ := h
    have ek : kP H (.ref x) = p := by
      unfold kP
      simp only [e _ _ hx]
    refine ⟨by rw [List.map_cons, a1, ek], fun v hv => ?_⟩
    rcases List.mem_cons.mp hv with z | z
    · subst z
      exact ⟨x, rfl, by rw [ek]; exact hx⟩
    · exact a2 v z
theorem reps_k {B : Hp} {ρ : List Addr} {G H : Hp} : ∀ {vs : List V}, (∀ v ∈ vs, ∃ t, v = V.ref t ∧ G t = some (.tup [.int (kP H v).1, .int (kP H v).2])) → Reps K B ρ G ((vs.map (kP H)).map pairD) vs
  | [], _ => rfl
  | v :: r, h => by
    obtain ⟨t, e, q⟩ := h v List.mem_cons_self
    refine .cons ?_ (reps_k fun u hu => h u (List.mem_cons_of_mem _ hu))
    exact ⟨t, _, e, q, .cons rfl (.cons rfl rfl)⟩
theorem sortP_ok (lv : Bool) : CbD K E (rSortedPO K) (dSortP lv) := by
  intro c ρ G H μ ds vs Q hK r hs h
  subst hK
  unfold dSortP at h
  split at h
  · rename_i d
    obtain ⟨v, rfl, hv⟩ := reps1 hs
    split at h
    · rename_i ps e0
      cases e1 : see μ d with
      | none =>
        rw [e1] at e0
        cases e0
      | some xs =>
        rw [e1] at e0
        have ex := pairs_eq (show pairsD xs = some ps from e0)
        subst ex
        obtain ⟨a, us, rfl, h1, h2⟩ := see_ok r e1 hv
        obtain ⟨p1, p2⟩ := paired_k r.gh (reps_pairs h2)
        refine ⟨a, us, kP H, rfl, .inl (.inl h1), fun x hx => ?_, fun ys p hsr hst hp => ?_⟩
        · obtain ⟨t, e, q⟩ := p2 x hx
          exact ⟨t, e, r.gh _ _ q⟩
        · have hm : ∀ y ∈ ys, y ∈ us := fun y hy => hst.perm.mem_iff.mp hy
          have e2 : ys.map (kP H) = psort ps := by
            refine sortedP_eq (List.pairwise_map.mpr (hsr.imp fun {x y} q => q)) (psort_sorted ps) ?_
            refine ((hst.perm.map (kP H)).trans ?_).trans (psort_perm ps).symm
            rw [p1]
          have hr : Reps c.K c.B ρ G ((psort ps).map pairD) ys := by
            rw [← e2]
            exact reps_k fun y hy => p2 y (hm y hy)
          exact alloc_use rfl r hr hp h
    · exact fin_none h
  · exact fin_none h
end
end Lv

set_option Elab.async false
set_option linter.all false
set_option maxRecDepth 100000
set_option autoImplicit false
/-! the mini syntax: its evaluator; its check against the text's trees -/
namespace Lv
open PySem PySem.Spec PyProof.Rows L2

mutual
inductive X where
  | var (i : Nat) | int (i : Int) | bl (b : Bool) | non | str (x : Str)
  | cst (nm : Str) (d : D)
  | bin (b : Bop) (lv : Bool) (x y : X) | neg (x : X)
  | cmp (k : Cmp) (x y : X) | chain (k k' : Cmp) (x y z : X) | isN (x : X) | notN (x : X)
  | and (xs : List X) | or (xs : List X) | not (x : X)
  | lst (lv : Bool) (xs : List X) | tup (xs : List X)
  | ix (x y : X) | slice (lv : Bool) (x : X) (lo hi : List X)
  | call (f : Nat) (dn : Nat) (fz : Bool) (xs : List X)
  | bi (b : BI) (lv : Bool) (xs : List X)
  | isi (t : Ty) (x : X)
  | mth (m : Mth) (x : X) (xs : List X)
  | comp (lv : Bool) (src : Src) (tg : Tg) (cond : List X) (elt : X) (own : List Nat)
  | frz (x : X)
  | rev (lv : Bool) (x : X)
  | isB (neg : Bool) (x : X) (b : Bool)
  | lrg (lv : Bool) (xs : List X)
  | lset (x : X)
  | srtP (lv : Bool) (xs : List X)
inductive Src where
  | lst (x : X) | tup (x : X) | rng (xs : List X) | enum (x : X) | zip (x y : X) | enumT (x : X)
end
inductive S where
  | ret (x : X) | retN | expr (x : X) | set (i : Nat) (x : X) | asg (is : List Nat) (x : X) | par (i j : Nat) (x y : X)
  | setIx (o i v : X) | aug (a : Aop) (i : Nat) (x : X) | augIx (a : Aop) (o i x : X)
  | ife (c : X) (t e : List S) | for_ (tg : Tg) (src : Src) (body : List S) | wh (c : X) (body : List S)
  | pass | kill (is : List Nat) | never

def fnth (Γ : List (Nat × Fn)) (f dn : Nat) (fz : Bool) (ds : List D) (μ : Sto) : R D := match Γ.lookup f with
  | some F => dCall F dn fz ds μ
  | none => none
mutual
def X.ev (Γ : List (Nat × Fn)) : X → FE
  | .var i => fVar i
  | .int i => fC (.int i)
  | .bl b => fC (.bl b)
  | .non => fC .non
  | .str x => fC (.str x)
  | .cst _ d => fC d
  | .bin b lv x y => fBin (b.d lv) (x.ev Γ) (y.ev Γ)
  | .neg x => fun env μ => rb (x.ev Γ env μ) dNeg
  | .cmp k x y => fBin (dCmp k) (x.ev Γ) (y.ev Γ)
  | .chain k k' x y z => fChain k k' (x.ev Γ) (y.ev Γ) (z.ev Γ)
  | .isN x => fun env μ => rb (x.ev Γ env μ) dIsN
  | .notN x => fun env μ => rb (x.ev Γ env μ) dNotN
  | .and xs => X.evAnd Γ xs
  | .or xs => X.evOr Γ xs
  | .not x => fNot (x.ev Γ)
  | .lst lv xs => fun env μ => rb (X.evs Γ xs env μ) (dLst lv)
  | .tup xs => fun env μ => rb (X.evs Γ xs env μ) dTup
  | .ix x y => fBin dIx (x.ev Γ) (y.ev Γ)
  | .slice lv x lo hi => fSlice lv (x.ev Γ) (X.evo Γ lo) (X.evo Γ hi)
  | .call f dn fz xs => fun env μ => rb (X.evs Γ xs env μ) (fnth Γ f dn fz)
  | .bi b lv xs => fun env μ => rb (X.evs Γ xs env μ) (b.d lv)
  | .isi t x => fun env μ => rb (x.ev Γ env μ) (dIsi t)
  | .mth m x xs => match xs with
    | [] => fMth0 m (x.ev Γ)
    | xs => fMth m (x.ev Γ) (X.evs Γ xs)
  | .comp lv src tg cond elt own => fComp lv (src.ev Γ) tg (X.evo Γ cond) (elt.ev Γ) own
  | .frz x => fFrz (x.ev Γ)
  | .rev lv x => fun env μ => rb (x.ev Γ env μ) (dRev lv)
  | .isB neg x b => fBin (dIsB neg) (x.ev Γ) (fC (.bl b))
  | .lrg lv xs => fun env μ => rb (X.evs Γ xs env μ) (dLrg lv)
  | .lset x => fun env μ => rb (x.ev Γ env μ) dLSet
  | .srtP lv xs => fun env μ => rb (X.evs Γ xs env μ) (dSortP lv)
def X.evs (Γ : List (Nat × Fn)) : List X → FEs
  | [] => fNil
  | x :: r => fCons (x.ev Γ) (X.evs Γ r)
def X.evo (Γ : List (Nat × Fn)) : List X → Option FE
  | [] => none
  | x :: _ => some (x.ev Γ)
def X.evAnd (Γ : List (Nat × Fn)) : List X → FE
  | [] => fun _ _ => none
  | [x] => x.ev Γ
  | x :: y :: r => fAnd (x.ev Γ) (X.evAnd Γ (y :: r))
def X.evOr (Γ : List (Nat × Fn)) : List X → FE
  | [] => fun _ _ => none
  | [x] => x.ev Γ
  | x :: y :: r => fOr (x.ev Γ) (X.evOr Γ (y :: r))
def Src.ev (Γ : List (Nat × Fn)) : Src → FSrc
  | .lst x => fun env μ => rb (x.ev Γ env μ) dSrc
  | .tup x => fun env μ => rb (x.ev Γ env μ) dSrcT
  | .rng xs => fun env μ => rb (X.evs Γ xs env μ) dRng
  | .enum x => fun env μ => rb (fCons (x.ev Γ) fNil env μ) dEnum
  | .zip x y => fun env μ => rb (fCons (x.ev Γ) (fCons (y.ev Γ) fNil) env μ) dZip
  | .enumT x => fun env μ => rb (fCons (x.ev Γ) fNil env μ) dEnumT
end
mutual
def S.ev (Γ : List (Nat × Fn)) : S → FS
  | .ret x => sRet (x.ev Γ)
  | .retN => sRetN
  | .expr x => sDrop (x.ev Γ)
  | .set i x => sAsg (.nm i) (x.ev Γ)
  | .asg is x => sAsg (.tup is) (x.ev Γ)
  | .par i j x y => sPar i j (x.ev Γ) (y.ev Γ)
  | .setIx o i v => sSetIx (o.ev Γ) (i.ev Γ) (v.ev Γ)
  | .aug a i x => sAug a i (x.ev Γ)
  | .augIx a o i x => sAugIx a (o.ev Γ) (i.ev Γ) (x.ev Γ)
  | .ife c t e => sIf (c.ev Γ) (S.evs Γ t) (S.evs Γ e)
  | .for_ tg src body => sFor tg (src.ev Γ) (S.evs Γ body)
  | .wh c body => sWhile (c.ev Γ) (S.evs Γ body)
  | .pass => sNext
  | .kill is => sKill is
  | .never => fun _ _ => none
def S.evs (Γ : List (Nat × Fn)) : List S → FS
  | [] => sNext
  | s :: r => sSeq (s.ev Γ) (S.evs Γ r)
end
/-- a def: its body run on the arguments -/
def runDef (Γ : List (Nat × Fn)) (N : List Str) (body : List S) (ds : List D) : Option (Except Exn (D × Sto)) :=
  match S.evs Γ body (ds.map some ++ List.replicate (N.length - ds.length) none) [] with
  | none => none
  | some (.error (x, _)) => some (.error x)
  | some (.ok (.nx _, _)) => some (.ok (.non, []))
  | some (.ok (.rt d, μ)) => some (.ok (d, if d.clean = true then [] else μ))

/-! ### the check -/
structure Ck where
  N : List Str
  Γ : List (Nat × Fn)
  bs : List Str
  cs : List (Str × D)
def vis (sc : Scope) (x : Str) : Bool := match sc.names.lookup x with
  | some .local => true
  | some .cell => true
  | some .free => true
  | _ => false
def locb (sc : Scope) (fn : Str → Bool) (x : Str) : Bool := match sc.names.lookup x with
  | some .local => true
  | some .cell => fn x
  | _ => false
def glb (sc : Scope) (x : Str) : Bool := match sc.names.lookup x with
  | some .globalImplicit => true
  | _ => false
def nm (x : Str) : Bool := !(x == ("__debug__" : Str)) && !(x == ("__classdict__" : Str)) && !(x == ("__name__" : Str))
def notStar : Expr → Bool
  | .Starred _ _ => false
  | _ => true
def notSlice : Expr → Bool
  | .Slice _ _ _ _ => false
  | _ => true
def notSet : Expr → Bool
  | .Set _ _ _ => false
  | _ => true
def notComp : Expr → Bool
  | .ListComp _ _ _ _ => false
  | .SetComp _ _ _ _ => false
  | .DictComp _ _ _ _ _ => false
  | _ => true
def notTup : Expr → Bool
  | .Tuple _ _ _ => false
  | _ => true
def notCall : Expr → Bool
  | .Call (.Name _ _) [] [] _ => false
  | _ => true
/-- a test by its value -/
def plainT : Expr → Bool
  | .UnaryOp _ _ _ => false
  | .BoolOp _ _ _ => false
  | .IfExp _ _ _ _ => false
  | .Compare _ _ _ _ => false
  | _ => true
def opEq : Operator → Operator → Bool
  | .Add, .Add => true | .Sub, .Sub => true | .Mult, .Mult => true | .FloorDiv, .FloorDiv => true | .Mod, .Mod => true | .Pow, .Pow => true
  | _, _ => false
def cmEq : CmpOp → CmpOp → Bool
  | .Eq, .Eq => true | .NotEq, .NotEq => true | .Lt, .Lt => true | .LtE, .LtE => true | .Gt, .Gt => true | .GtE, .GtE => true | .In, .In => true | .NotIn, .NotIn => true
  | _, _ => false
/-- a built-in's name -/
def bi (k : Ck) (sc : Scope) (b x : Str) : Bool := decide (x = b) && glb sc x && decide (x ∈ k.bs)
def tgNames (k : Ck) (sc : Scope) (fn : Str → Bool) : List Nat → List Expr → Bool
  | [], [] => true
  | i :: is, .Name x _ :: es => decide (k.N[i]? = some x) && locb sc fn x && tgNames k sc fn is es
  | _, _ => false
def Tg.ok (k : Ck) (sc : Scope) (fn : Str → Bool) : Tg → Expr → Bool
  | .nm i, .Name x _ => decide (k.N[i]? = some x) && locb sc fn x
  | .tup is, .Tuple es _ _ => tgNames k sc fn is es
  | _, _ => false
def optB {α : Type} (o : Option α) (f : α → Bool) : Bool := match o with
  | some a => f a
  | none => false
theorem optB_ok {α : Type} {o : Option α} {f : α → Bool} (h : optB o f = true) : ∃ a, o = some a ∧ f a = true := by
  cases o with
  | none => cases h
  | some a => exact ⟨a, rfl, h⟩
def asName : Expr → Option Str
  | .Name x _ => some x
  | _ => none
def asConst : Expr → Option Const
  | .Constant c _ _ => some c
  | _ => none
def asBin : Expr → Option (Expr × Operator × Expr)
  | .BinOp e op f _ => some (e, op, f)
  | _ => none
def asNeg : Expr → Option Expr
  | .UnaryOp .USub e _ => some e
  | _ => none
def asNot : Expr → Option Expr
  | .UnaryOp .Not e _ => some e
  | _ => none
def asCmp : Expr → Option (Expr × CmpOp × Expr)
  | .Compare e [op] [f] _ => some (e, op, f)
  | _ => none
def asChain : Expr → Option (Expr × CmpOp × Expr × CmpOp × Expr)
  | .Compare e [op, op'] [f, g] _ => some (e, op, f, op', g)
  | _ => none
def asIsN : Expr → Option Expr
  | .Compare e [.Is] [.Constant .none _ _] _ => some e
  | _ => none
def asNotN : Expr → Option Expr
  | .Compare e [.IsNot] [.Constant .none _ _] _ => some e
  | _ => none
def asAnd : Expr → Option (List Expr)
  | .BoolOp .And es _ => some es
  | _ => none
def asOr : Expr → Option (List Expr)
  | .BoolOp .Or es _ => some es
  | _ => none
def asList : Expr → Option (List Expr)
  | .List es _ => some es
  | _ => none
def asTup : Expr → Option (List Expr)
  | .Tuple es _ _ => some es
  | _ => none
def asSub : Expr → Option (Expr × Expr)
  | .Subscript e f _ => some (e, f)
  | _ => none
def asSlice : Expr → Option (Expr × Option Expr × Option Expr)
  | .Subscript e (.Slice l u none _) _ => some (e, l, u)
  | _ => none
def asRev : Expr → Option Expr
  | .Subscript e (.Slice none none (some (.UnaryOp .USub (.Constant (.int i) _ _) _)) _) _ => if i = 1 then some e else none
  | _ => none
def asIsB : Expr → Option (Expr × Bool × Bool)
  | .Compare e [.Is] [.Constant (.bool b) _ _] _ => some (e, false, b)
  | .Compare e [.IsNot] [.Constant (.bool b) _ _] _ => some (e, true, b)
  | _ => none
def asLrg : Expr → Option (Str × Str × Expr × List Expr)
  | .Call (.Name x _) [.Call (.Name y _) (a :: as) [] _] [] _ => some (x, y, a, as)
  | _ => none
def asLSet : Expr → Option (Str × Str × Expr)
  | .Call (.Name x _) [.Call (.Name y _) [a] [] _] [] _ => some (x, y, a)
  | _ => none
def asCall : Expr → Option (Str × Expr × List Expr)
  | .Call (.Name x _) (e :: es) [] _ => some (x, e, es)
  | _ => none
def asCall2 : Expr → Option (Str × Expr × Expr)
  | .Call (.Name n _) [e, f] [] _ => some (n, e, f)
  | _ => none
def asIsi : Expr → Option (Str × Expr × Str)
  | .Call (.Name n _) [e, .Name y _] [] _ => some (n, e, y)
  | _ => none
def asMth : Expr → Option (Expr × Str × Pos × List Expr × Pos)
  | .Call (.Attribute o a ap) es [] p => some (o, a, ap, es, p)
  | _ => none
def asComp : Expr → Option (Expr × Expr × Expr × List Expr × Scope)
  | .ListComp e [⟨t, it, ifs, 0⟩] scope _ => some (e, t, it, ifs, scope)
  | _ => none
def isTupE : Expr → Bool
  | .Tuple _ _ _ => true
  | _ => false
def isIntC (i : Int) : Const → Bool
  | .int j => decide (i = j)
  | _ => false
def isBlC (b : Bool) : Const → Bool
  | .bool c => b == c
  | _ => false
def isStrC (x : Str) : Const → Bool
  | .str y => decide (x = y)
  | _ => false
def isNonC : Const → Bool
  | .none => true
  | _ => false
def sameC : D → D → Bool
  | .int i, .int j => decide (i = j)
  | .str i, .str j => decide (i = j)
  | _, _ => false
mutual
def X.ok (k : Ck) (sc : Scope) (fn : Str → Bool) : X → Expr → Bool
  | .var i, e => optB (asName e) fun x => decide (k.N[i]? = some x) && vis sc x && nm x
  | .int i, e => optB (asConst e) (isIntC i)
  | .bl b, e => optB (asConst e) (isBlC b)
  | .non, e => optB (asConst e) isNonC
  | .str x, e => optB (asConst e) (isStrC x)
  | .cst x d, e => optB (asName e) fun y => decide (x = y) && glb sc y && nm y && optB (k.cs.lookup y) fun d' => sameC d' d
  | .bin b _ x y, e => optB (asBin e) fun t => opEq b.op t.2.1 && x.ok k sc fn t.1 && y.ok k sc fn t.2.2
  | .neg x, e => optB (asNeg e) fun t => x.ok k sc fn t
  | .cmp c x y, e => optB (asCmp e) fun t => cmEq c.op t.2.1 && notSet t.2.2 && x.ok k sc fn t.1 && y.ok k sc fn t.2.2
  | .chain c c' x y z, e => optB (asChain e) fun t => cmEq c.op t.2.1 && cmEq c'.op t.2.2.2.1 && notSet t.2.2.2.2 && x.ok k sc fn t.1 && y.ok k sc fn t.2.2.1 && z.ok k sc fn t.2.2.2.2
  | .isN x, e => optB (asIsN e) fun t => x.ok k sc fn t
  | .notN x, e => optB (asNotN e) fun t => x.ok k sc fn t
  | .and xs, e => optB (asAnd e) fun es => X.oks k sc fn xs es
  | .or xs, e => optB (asOr e) fun es => X.oks k sc fn xs es
  | .not x, e => optB (asNot e) fun t => x.ok k sc fn t
  | .lst _ xs, e => optB (asList e) fun es => X.oks k sc fn xs es
  | .tup xs, e => optB (asTup e) fun es => X.oks k sc fn xs es
  | .ix x y, e => optB (asSub e) fun t => notSlice t.2 && x.ok k sc fn t.1 && y.ok k sc fn t.2
  | .slice _ x lo hi, e => optB (asSlice e) fun t => x.ok k sc fn t.1 && X.oko k sc fn lo t.2.1 && X.oko k sc fn hi t.2.2
  | .call f dn _ xs, e => optB (asCall e) fun t => optB (k.Γ.lookup f) (fun F => decide (F.name = t.1) && decide (dn ≤ F.dn)) && glb sc t.1 && nm t.1 && X.oks k sc fn xs (t.2.1 :: t.2.2)
  | .bi b _ xs, e => optB (asCall e) fun t => bi k sc b.nm t.1 && X.oks k sc fn xs (t.2.1 :: t.2.2)
  | .isi t x, e => optB (asIsi e) fun u => bi k sc "isinstance" u.1 && bi k sc (Str.ofString t.nm) u.2.2 && notStar u.2.1 && x.ok k sc fn u.2.1
  | .mth m x xs, e => optB (asMth e) fun t => decide (m.nm = t.2.1) && notCall t.1 && (t.2.2.1.endLine == t.2.2.2.2.line) && decide (t.2.2.2.1.length < 30) && x.ok k sc fn t.1 && X.oks k sc fn xs t.2.2.2.1
  | .comp _ src tg cond elt own, e => optB (asComp e) fun t =>
      blkC k.N sc t.2.2.2.2 (own.map fun i => (k.N.getD i "", i)) && (tg.slots.all fun i => own.contains i) && notSet t.2.2.1 && src.ok k sc fn t.2.2.1 t.2.1 &&
        tg.ok k (relS t.2.2.2.2 sc) (fun x => t.2.2.2.2.names.lookup x == some .cell) t.2.1 && X.okc k (relS t.2.2.2.2 sc) (fun x => t.2.2.2.2.names.lookup x == some .cell) cond t.2.2.2.1 && elt.ok k (relS t.2.2.2.2 sc) (fun x => t.2.2.2.2.names.lookup x == some .cell) t.1
  | .frz x, e => plainT e && x.ok k sc fn e
  | .rev _ x, e => optB (asRev e) fun t => x.ok k sc fn t
  | .isB neg x b, e => optB (asIsB e) fun t => (neg == t.2.1) && (b == t.2.2) && x.ok k sc fn t.1
  | .lrg _ xs, e => optB (asLrg e) fun t => bi k sc "list" t.1 && bi k sc "range" t.2.1 && decide (t.2.2.2.length ≤ 1) && X.oks k sc fn xs (t.2.2.1 :: t.2.2.2)
  | .lset x, e => optB (asLSet e) fun t => bi k sc "len" t.1 && bi k sc "set" t.2.1 && notStar t.2.2 && x.ok k sc fn t.2.2
  | .srtP _ xs, e => optB (asCall e) fun t => bi k sc "sorted" t.1 && X.oks k sc fn xs (t.2.1 :: t.2.2)
def X.oks (k : Ck) (sc : Scope) (fn : Str → Bool) : List X → List Expr → Bool
  | [], [] => true
  | x :: r, e :: s => notStar e && x.ok k sc fn e && X.oks k sc fn r s
  | _, _ => false
def X.oko (k : Ck) (sc : Scope) (fn : Str → Bool) : List X → Option Expr → Bool
  | [], none => true
  | [x], some e => x.ok k sc fn e
  | _, _ => false
def X.okc (k : Ck) (sc : Scope) (fn : Str → Bool) : List X → List Expr → Bool
  | [], [] => true
  | [x], [e] => x.ok k sc fn e
  | _, _ => false
def Src.ok (k : Ck) (sc : Scope) (fn : Str → Bool) : Src → Expr → Expr → Bool
  | .lst x, e, _ => x.ok k sc fn e
  | .tup x, e, _ => x.ok k sc fn e
  | .rng xs, e, _ => optB (asCall e) fun t => bi k sc "range" t.1 && decide (t.2.2.length ≤ 1) && X.oks k sc fn xs (t.2.1 :: t.2.2)
  | .enum x, e, g => isTupE g && optB (asCall e) fun t => bi k sc "enumerate" t.1 && t.2.2.isEmpty && notStar t.2.1 && x.ok k sc fn t.2.1
  | .zip x y, e, g => isTupE g && optB (asCall2 e) fun t => bi k sc "zip" t.1 && notStar t.2.1 && notStar t.2.2 && x.ok k sc fn t.2.1 && y.ok k sc fn t.2.2
  | .enumT x, e, g => isTupE g && optB (asCall e) fun t => bi k sc "enumerate" t.1 && t.2.2.isEmpty && notStar t.2.1 && x.ok k sc fn t.2.1
end
def aoEq : Operator → Operator → Bool
  | .Add, .Add => true | .Sub, .Sub => true | .Mult, .Mult => true
  | _, _ => false
/-- an assignment of a comprehension to a name: as its own or as any other -/
def isFun (sc : Scope) : Bool := match sc.kind with
  | .function => true
  | _ => false
def setOk (sc : Scope) (x : Str) (px : Pos) : Expr → Bool
  | .ListComp _ _ scope pos => match sc.names.lookup x with
    | some .cell => true
    | some .local => (scope.names.any fun (n, k) => n == x && (k == .local || k == .cell)) || (isFun sc && (px.line == pos.line))
    | _ => false
  | _ => false
def isCompX : X → Bool
  | .comp _ _ _ _ _ _ => true
  | _ => false
def asRet : Stmt → Option Expr
  | .Return (some e) _ => some e
  | _ => none
def isRetN : Stmt → Bool
  | .Return none _ => true
  | _ => false
def isPass : Stmt → Bool
  | .Pass _ => true
  | _ => false
def asExpr : Stmt → Option Expr
  | .Expr e _ => some e
  | _ => none
def asSet : Stmt → Option (Str × Pos × Expr × Pos)
  | .Assign [.Name y py] e p => some (y, py, e, p)
  | _ => none
def asAsgT : Stmt → Option (List Expr × Expr)
  | .Assign [.Tuple es _ _] e _ => some (es, e)
  | _ => none
def asPar : Stmt → Option ((Str × Pos × Str × Pos) × Expr × Expr)
  | .Assign [.Tuple [.Name x px, .Name y py] _ _] (.Tuple [a, b] _ _) _ => some ((x, px, y, py), a, b)
  | _ => none
def isLoc (sc : Scope) (x : Str) : Bool := match sc.names.lookup x with
  | some .local => true
  | _ => false
def parC (sc : Scope) (t : (Str × Pos × Str × Pos) × Expr × Expr) : Bool :=
  isFun sc && isLoc sc t.1.1 && isLoc sc t.1.2.2.1 && (t.1.2.2.2.line == t.1.2.1.line) && !(t.1.2.2.1 == t.1.1) && notStar t.2.1 && notStar t.2.2 && !(foldedForSure 8 t.2.1 && foldedForSure 8 t.2.2) && !(constantsAlone 8 t.2.1 && constantsAlone 8 t.2.2)
def asSetIx : Stmt → Option (Expr × Expr × Expr)
  | .Assign [.Subscript a b _] e _ => some (a, b, e)
  | _ => none
def asAug : Stmt → Option (Str × Operator × Expr)
  | .AugAssign (.Name y _) op e _ => some (y, op, e)
  | _ => none
def asAugIx : Stmt → Option (Expr × Expr × Operator × Expr)
  | .AugAssign (.Subscript b d _) op e _ => some (b, d, op, e)
  | _ => none
def asIf : Stmt → Option (Expr × List Stmt × List Stmt)
  | .If e a b _ => some (e, a, b)
  | _ => none
def asFor : Stmt → Option (Expr × Expr × List Stmt)
  | .For t it b [] _ => some (t, it, b)
  | _ => none
def asWh : Stmt → Option (Expr × List Stmt)
  | .While e b [] _ => some (e, b)
  | _ => none
mutual
def S.ok (k : Ck) (sc : Scope) (fn : Str → Bool) : S → Stmt → Bool
  | .ret x, s => optB (asRet s) fun e => x.ok k sc fn e
  | .retN, s => isRetN s
  | .expr x, s => optB (asExpr s) fun e => notComp e && x.ok k sc fn e
  | .set i x, s => optB (asSet s) fun t => decide (k.N[i]? = some t.1) && locb sc fn t.1 && (notComp t.2.2.1 || (isCompX x && setOk sc t.1 t.2.1 t.2.2.1)) && x.ok k sc fn t.2.2.1
  | .asg is x, s => optB (asAsgT s) fun t => tgNames k sc fn is t.1 && notComp t.2 && notTup t.2 && x.ok k sc fn t.2
  | .par i j x y, s => optB (asPar s) fun t => decide (k.N[i]? = some t.1.1) && decide (k.N[j]? = some t.1.2.2.1) && decide (i ≠ j) && parC sc t && x.ok k sc fn t.2.1 && y.ok k sc fn t.2.2
  | .setIx o i v, s => optB (asSetIx s) fun t => notSlice t.2.1 && o.ok k sc fn t.1 && i.ok k sc fn t.2.1 && v.ok k sc fn t.2.2
  | .aug a i x, s => optB (asAug s) fun t => decide (k.N[i]? = some t.1) && locb sc fn t.1 && aoEq a.op t.2.1 && x.ok k sc fn t.2.2
  | .augIx a o i x, s => optB (asAugIx s) fun t => aoEq a.op t.2.2.1 && notSlice t.2.1 && o.ok k sc fn t.1 && i.ok k sc fn t.2.1 && x.ok k sc fn t.2.2.2
  | .ife c t f, s => optB (asIf s) fun u => c.ok k sc fn u.1 && S.oks k sc fn t u.2.1 && S.oks k sc fn f u.2.2
  | .for_ tg src body, s => optB (asFor s) fun u => notSet u.2.1 && tg.ok k sc fn u.1 && src.ok k sc fn u.2.1 u.1 && S.oks k sc fn body u.2.2
  | .wh c body, s => optB (asWh s) fun u => c.ok k sc fn u.1 && S.oks k sc fn body u.2
  | .pass, s => isPass s
  | .kill _, _ => false
  | .never, _ => true
def S.oks (k : Ck) (sc : Scope) (fn : Str → Bool) : List S → List Stmt → Bool
  | [], st => st.isEmpty
  | .kill _ :: r, st => S.oks k sc fn r st
  | s :: r, st => match st with
    | t :: u => s.ok k sc fn t && S.oks k sc fn r u
    | [] => false
end
end Lv

set_option Elab.async false
set_option linter.all false
set_option maxRecDepth 100000
set_option autoImplicit false
/-! the check is sound -/
namespace Lv
open PySem PySem.Spec PyProof.Rows L2

structure CxOk (k : Ck) (sc : Scope) (fn : Str → Bool) (lv : Nat) (CX : CXT) (E : XK) (W : Cx) : Prop where
  hN : W.N = k.N
  nd : k.N.Nodup
  hsc : W.env.scope = sc
  calm : W.calm = true
  room : Room lv W.A
  pass : Passes CX W E
  p0 : ∀ W', Passes CX W' E0
  own : PassesOwn (model W.prog W.w) W.A W.env W.xe
  fns : ∀ i F, (i, F) ∈ k.Γ → ∃ f fd, W.mg F.name = some (.ref f) ∧ PySem.W.keepIn W.K (.ref f) = true ∧ (∀ j, j ≤ F.dn → Binds W.K fd F.ps (List.replicate j .none)) ∧ FnOk W.prog W.w W.K W.mg W.base CX lv f fd F.ps (F.sp W.K W.mg)
  blt : ∀ b ∈ k.bs, W.mg b = none
  cst : ∀ x d, k.cs.lookup x = some d → ∃ u v, W.mg x = some u ∧ scv d = some v ∧ RelV v u
  fnx : ∀ x, fn x = true → W.fn x = true

section
variable {k : Ck} {sc : Scope} {fn : Str → Bool} {lv : Nat} {CX : CXT} {E : XK} {W : Cx}
theorem vis_ok (h : CxOk k sc fn lv CX E W) {x : Str} (q : vis sc x = true) : Vis W.env.scope x := by
  rw [h.hsc]
  unfold vis at q
  split at q
  · exact .inl (by assumption)
  · exact .inr (.inl (by assumption))
  · exact .inr (.inr (by assumption))
  · cases q
theorem loc_ok (h : CxOk k sc fn lv CX E W) {x : Str} (q : locb sc fn x = true) : Loc W.env.scope x ∧ (W.fn x = true ∨ W.env.scope.names.lookup x = some .local) := by
  rw [h.hsc]
  unfold locb at q
  split at q
  · exact ⟨.inl (by assumption), .inr (by assumption)⟩
  · exact ⟨.inr (by assumption), .inl (h.fnx x q)⟩
  · cases q
theorem gl_ok (h : CxOk k sc fn lv CX E W) {x : Str} (q : glb sc x = true) : Gl W x := by
  unfold glb at q
  split at q
  · show W.env.scope.names.lookup x = some .globalImplicit
    rw [h.hsc]
    assumption
  · cases q
theorem nm_ok {x : Str} (q : nm x = true) : (x == ("__debug__" : Str)) = false ∧ (x == ("__classdict__" : Str)) = false ∧ x ≠ "__name__" := by
  unfold nm at q
  rw [Bool.and_eq_true, Bool.and_eq_true, Bool.not_eq_true', Bool.not_eq_true', Bool.not_eq_true'] at q
  exact ⟨q.1.1, q.1.2, beq_eq_false_iff_ne.mp q.2⟩
theorem bi_ok (h : CxOk k sc fn lv CX E W) {b x : Str} (q : bi k sc b x = true) : x = b ∧ Gl W x ∧ W.mg x = none := by
  unfold bi at q
  rw [Bool.and_eq_true, Bool.and_eq_true] at q
  exact ⟨of_decide_eq_true q.1.1, gl_ok h q.1.2, h.blt x (of_decide_eq_true q.2)⟩
theorem star_cons {e : Expr} {es : List Expr} {env : PySem.Env} (h : notStar e = true) : starEach (e :: es) env = (false, eval e env) :: starEach es env := by
  cases e <;> first | rfl | cases h
theorem lookup_mem {α β : Type} [BEq α] [LawfulBEq α] {a : α} {b : β} : ∀ {l : List (α × β)}, l.lookup a = some b → (a, b) ∈ l
  | [], h => by cases h
  | (x, y) :: r, h => by
    rw [List.lookup_cons] at h
    cases e : a == x with
    | true =>
      rw [e] at h
      cases h
      rw [beq_iff_eq.mp e]
      exact List.mem_cons_self
    | false =>
      rw [e] at h
      exact List.mem_cons_of_mem _ (lookup_mem h)
def allNS (es : List Expr) : Prop := ∀ e ∈ es, notStar e = true
theorem star_any {env : PySem.Env} {pos : Pos} : ∀ {es : List Expr}, allNS es → (backTo pos (starEach es env)).any (·.1) = false
  | [], _ => rfl
  | e :: es, h => by
    rw [star_cons (h e List.mem_cons_self)]
    show (false || (backTo pos (starEach es env)).any (·.1)) = false
    rw [star_any fun x hx => h x (List.mem_cons_of_mem _ hx)]
    rfl
theorem star_all {env : PySem.Env} {pos : Pos} : ∀ {es : List Expr}, allNS es → (backTo pos (starEach es env)).all (fun x => !x.1) = true
  | [], _ => rfl
  | e :: es, h => by
    rw [star_cons (h e List.mem_cons_self)]
    show (true && (backTo pos (starEach es env)).all (fun x => !x.1)) = true
    rw [star_all fun x hx => h x (List.mem_cons_of_mem _ hx)]
    rfl
theorem few_ok {env : PySem.Env} {pos : Pos} {es : List Expr} (h : allNS es) (hl : es.length < 30) :
    ((backTo pos (starEach es env)).all (fun x => !x.1) && (backToKw pos (keywordEach [] env)).all (fun x => x.1.isSome)
      && decide (es.length + ([] : List Keyword).length + (if ([] : List Keyword).isEmpty then 0 else 1) < 30)) = true := by
  rw [star_all h]
  show (true && true && decide (es.length + 0 + 0 < 30)) = true
  rw [decide_eq_true (by omega)]
  rfl
theorem base_ok {e : Expr} {a : Str} {env : PySem.Env} {t : Sem Value} (h : notCall e = true) : attributeBase e a env t = t := by
  unfold attributeBase
  split
  · cases h
  · rfl
theorem plain_ok {e : Expr} (h : notSlice e = true) : PlainIx e := fun o i => by
  cases e <;> first | rfl | cases h
theorem set_ok {e : Expr} (h : notSet e = true) (env : PySem.Env) : ∀ x, foldedSetIterable e env x = pure x := fun x => by
  cases e <;> first | rfl | cases h
theorem mark_ok {e : Expr} {op : CmpOp} (h : notSet e = true) : behindInMarks op e = false := by
  cases e <;> first | rfl | cases h
theorem swap_none {e : Expr} {l : Nat} {env : PySem.Env} (h : notComp e = true) {t : Option Expr} : swapsWith e t l env = pure false := by
  cases e <;> first | rfl | cases h
theorem plainT_ok {e : Expr} {env : PySem.Env} (h : plainT e = true) : ∀ whole, isTrue e env whole = (do let v ← whole; standAt e.pos; holding [v] (truthy v)) := fun whole => by
  cases e <;> first | rfl | cases h
theorem pt_of {K : PySem.W.Frag} {mg : Str → Option Value} {e : Expr} {f : FE} (h : PE W e (TX K mg E f)) (hp : plainT e = true) : PT W e (TXb K mg E f) :=
  PT.imp (pt_val h (plainT_ok hp)) fun σ H Q q => txb_tx σ H Q q
theorem lookup_names {x : Str} : ∀ {l : List (Str × NameKind)}, l.lookup x = none → ∀ k, (x, k) ∉ l
  | [], _, _, h => by cases h
  | (y, k') :: r, h, k, hm => by
    rw [List.lookup_cons] at h
    cases e : x == y with
    | true =>
      rw [e] at h
      cases h
    | false =>
      rw [e] at h
      rcases List.mem_cons.mp hm with q | q
      · cases q
        simp at e
      · exact lookup_names h k q

/-- the two readings of an expression -/
def Snd (W : Cx) (E : XK) (e : Expr) (f : FE) : Prop := PE W e (TX W.K W.mg E f) ∧ PT W e (TXb W.K W.mg E f)
theorem snd_of {e : Expr} {f : FE} (h : PE W e (TX W.K W.mg E f)) (hp : plainT e = true) : Snd W E e f := ⟨h, pt_of h hp⟩
theorem opEq_ok {a b : Operator} (h : opEq a b = true) : a = b := by
  cases a <;> cases b <;> first | rfl | cases h
theorem cmEq_ok {a b : CmpOp} (h : cmEq a b = true) : a = b := by
  cases a <;> cases b <;> first | rfl | cases h
theorem aoEq_ok {a b : Operator} (h : aoEq a b = true) : a = b := by
  cases a <;> cases b <;> first | rfl | cases h
theorem bi_boot (b : BI) : bootBuiltins b.nm = some b.val := by
  cases b <;> decide +kernel
theorem ty_boot (t : Ty) : bootBuiltins (Str.ofString t.nm) = some (.type t.nm) := by
  cases t <;> decide +kernel
theorem bi_nm (b : BI) : b.nm ≠ "__name__" ∧ (b.nm == ("__debug__" : Str)) = false := by
  cases b <;> exact ⟨by decide +kernel, by decide +kernel⟩
theorem ty_nm (t : Ty) : Str.ofString t.nm ≠ "__name__" ∧ (Str.ofString t.nm == ("__debug__" : Str)) = false := by
  cases t <;> exact ⟨by decide +kernel, by decide +kernel⟩
theorem snd_cmp {e : Expr} {K : PySem.W.Frag} {mg : Str → Option Value} {f : FE} {t : TE} (h1 : PE W e t) (h2 : PT W e (tTest t)) (q : ∀ σ H Q, TX K mg E f σ H Q → t σ H Q) : PE W e (TX K mg E f) ∧ PT W e (TXb K mg E f) :=
  ⟨PE.imp h1 q, PT.imp h2 fun σ H Q z => q σ H _ (txb_tx σ H Q z)⟩
theorem tx_chain {K : PySem.W.Frag} {mg : Str → Option Value} {c c' : Cmp} {fa fb fc : FE} : ∀ σ H Q, TX K mg E (fChain c c' fa fb fc) σ H Q → tChain (rPy K c.g) (rPy K c'.g) (TX K mg E fa) (TX K mg E fb) (TX K mg E fc) σ H Q := by
  rintro σ H Q ⟨c0, env, ρ, G, μ, hK, hm, re, eo, h⟩
  subst hK
  refine tx_use rfl hm re eo h fun d v ρ1 G1 μ1 H1 p1 e1 r1 eo1 hv h1 => ?_
  refine tx_use rfl hm r1 eo1 h1 fun e u ρ2 G2 μ2 H2 p2 e2 r2 eo2 hu h2 => ?_
  refine cmp_ok c c0 ρ2 G2 H2 μ2 d e v u _ rfl r2 (hv.mono p2 e2) hu (h2.bind.imp fun t ρ3 G3 μ3 H3 p3 e3 r3 h3 z hz => ?_)
  cases t with
  | bl b =>
    cases hz
    refine ⟨b, rfl, ?_⟩
    cases b with
    | true =>
      refine (show (if true = true then _ else _) from ?_)
      rw [if_pos rfl]
      refine tx_use rfl hm r3 (eo2.up p3 e3) h3 fun g w ρ4 G4 μ4 H4 p4 e4 r4 eo4 hw h4 => ?_
      exact cmp_ok c' c0 ρ4 G4 H4 μ4 e g u w _ rfl r4 (hu.mono (p3.trans p4) (e3.trans e4)) hw h4
    | false =>
      refine (show (if false = true then _ else _) from ?_)
      rw [if_neg Bool.false_ne_true]
      exact Fin.ok r3 h3 _ rfl
  | _ => exact fin_none h3
end
end Lv

set_option Elab.async false
set_option linter.all false
set_option maxRecDepth 100000
set_option autoImplicit false
/-! the check is sound: expressions -/
namespace Lv
open PySem PySem.Spec PyProof.Rows L2
section
variable {k : Ck} {lv : Nat} {CX : CXT}
theorem blk_ok {sc : Scope} {fn : Str → Bool} {E : XK} {W : Cx} (h : CxOk k sc fn lv CX E W) (scope : Scope) (s : Shared) (H : Hp) (C : Addr) (cl : List (Str × Addr)) (fp : List Addr) :
    CxOk k (relS scope sc) (fun x => scope.names.lookup x == some .cell) lv CX E0 (W.blk s H scope (compEnvC scope cl C W.env) fp) :=
  { hN := h.hN, nd := h.nd, hsc := by rw [← h.hsc]; rfl, calm := h.calm, room := h.room, pass := h.p0 _, p0 := h.p0, own := PassesOwn.never, fns := h.fns, blt := h.blt, cst := h.cst, fnx := fun x q => q }
theorem tgNames_ok {sc : Scope} {fn : Str → Bool} {E : XK} {W : Cx} (h : CxOk k sc fn lv CX E W) : ∀ (is : List Nat) (es : List Expr), tgNames k sc fn is es = true → PGs W es (gs is) ∧ (assignEach es W.env).length = is.length ∧ (assignEach es W.env).findIdx? (·.1) = none
  | [], [], _ => ⟨pgs_nil, rfl, rfl⟩
  | i :: is, .Name x p :: es, q => by
    have q' : (decide (k.N[i]? = some x) && locb sc fn x && tgNames k sc fn is es) = true := q
    rw [Bool.and_eq_true, Bool.and_eq_true] at q'
    obtain ⟨h1, h2, h3⟩ := tgNames_ok h is es q'.2
    obtain ⟨l1, l2⟩ := loc_ok h q'.1.2
    refine ⟨pgs_cons (pg_name (by rw [h.hN]; exact h.nd) (by rw [h.hN]; exact of_decide_eq_true q'.1.1) l1 l2) h1, by show (assignEach es W.env).length + 1 = is.length + 1; rw [h2], ?_⟩
    have e : assignEach (.Name x p :: es) W.env = (false, assign (.Name x p) W.env) :: assignEach es W.env := rfl
    rw [e, List.findIdx?_cons, h3]
    rfl
  | [], _ :: _, q => by cases q
  | _ :: _, [], q => by cases q
  | i :: is, e :: es, q => by
    cases e with
    | Name x p =>
      have q' : (decide (k.N[i]? = some x) && locb sc fn x && tgNames k sc fn is es) = true := q
      rw [Bool.and_eq_true, Bool.and_eq_true] at q'
      obtain ⟨h1, h2, h3⟩ := tgNames_ok h is es q'.2
      obtain ⟨l1, l2⟩ := loc_ok h q'.1.2
      refine ⟨pgs_cons (pg_name (by rw [h.hN]; exact h.nd) (by rw [h.hN]; exact of_decide_eq_true q'.1.1) l1 l2) h1, by show (assignEach es W.env).length + 1 = is.length + 1; rw [h2], ?_⟩
      have e : assignEach (.Name x p :: es) W.env = (false, assign (.Name x p) W.env) :: assignEach es W.env := rfl
      rw [e, List.findIdx?_cons, h3]
      rfl
    | _ => cases q
theorem tg_sound {sc : Scope} {fn : Str → Bool} {E : XK} {W : Cx} (h : CxOk k sc fn lv CX E W) (tg : Tg) (e : Expr) (q : tg.ok k sc fn e = true) : PG W e (tg.g W.K) := by
  cases tg with
  | nm i =>
    cases e with
    | Name x p =>
      have q' : (decide (k.N[i]? = some x) && locb sc fn x) = true := q
      rw [Bool.and_eq_true] at q'
      obtain ⟨l1, l2⟩ := loc_ok h q'.2
      exact pg_name (by rw [h.hN]; exact h.nd) (by rw [h.hN]; exact of_decide_eq_true q'.1) l1 l2
    | _ => cases q
  | tup is =>
    cases e with
    | Tuple es n p =>
      obtain ⟨h1, h2, h3⟩ := tgNames_ok h is es q
      exact pg_tup h.calm h1 h2 h3
    | _ => cases q
theorem rng_split {K : PySem.W.Frag} {mg : Str → Option Value} {E : XK} {f : FEs} (p : List D → Bool) (hp : ∀ ds μ, p ds = false → dRng ds μ = none) : ∀ σ H R, TXi K mg E (fun env μ => rb (f env μ) dRng) σ H R → TXi K mg E (fun env μ => rb (f env μ) fun ds μ1 => if p ds = true then dRng ds μ1 else none) σ H R := by
  rintro σ H R ⟨c, env, ρ, G, μ, hK, hm, re, eo, h⟩
  refine ⟨c, env, ρ, G, μ, hK, hm, re, eo, ?_⟩
  have : (fun ds μ1 => if p ds = true then dRng ds μ1 else none) = dRng := by
    funext ds μ1
    by_cases e : p ds = true
    · rw [if_pos e]
    · rw [if_neg e, hp ds μ1 (by simpa using e)]
  show Fin c E ρ G (rb (f env μ) fun ds μ1 => if p ds = true then dRng ds μ1 else none) _
  rw [this]
  exact h
/-- how many there are -/
theorem evs_len (Γ : List (Nat × Fn)) : ∀ (xs : List X) (env : Env) (μ : Sto) (ds : List D) (μ' : Sto), X.evs Γ xs env μ = some (.ok (ds, μ')) → ds.length = xs.length
  | [], env, μ, ds, μ', h => by
    cases h
    rfl
  | x :: xs, env, μ, ds, μ', h => by
    have h' : rb (x.ev Γ env μ) (fun d μ1 => rb (X.evs Γ xs env μ1) fun ds μ2 => ok (d :: ds) μ2) = some (.ok (ds, μ')) := h
    cases e : x.ev Γ env μ with
    | none =>
      rw [e] at h'
      cases h'
    | some o =>
      rw [e] at h'
      cases o with
      | error y => cases h'
      | ok p =>
        have h2 : rb (X.evs Γ xs env p.2) (fun ds μ2 => ok (p.1 :: ds) μ2) = some (.ok (ds, μ')) := h'
        cases e2 : X.evs Γ xs env p.2 with
        | none =>
          rw [e2] at h2
          cases h2
        | some o2 =>
          rw [e2] at h2
          cases o2 with
          | error y => cases h2
          | ok p2 =>
            cases h2
            rw [List.length_cons, List.length_cons, evs_len Γ xs env p.2 p2.1 p2.2 e2]
theorem tx_none {K : PySem.W.Frag} {mg : Str → Option Value} {E : XK} {t : TE} : ∀ σ H Q, TX K mg E (fun _ _ => none) σ H Q → t σ H Q := by
  rintro σ H Q ⟨c, env, ρ, G, μ, hK, hm, re, eo, h⟩
  exact h.elim
end
end Lv

set_option Elab.async false
set_option linter.all false
set_option maxRecDepth 100000
set_option autoImplicit false
/-! the check is sound: expressions, all -/
namespace Lv
open PySem PySem.Spec PyProof.Rows L2
theorem allNS_nil : allNS [] := fun _ h => nomatch h
theorem allNS_cons {e : Expr} {es : List Expr} (h : notStar e = true) (t : allNS es) : allNS (e :: es) := fun x hx => by
  rcases List.mem_cons.mp hx with q | q
  · rw [q]
    exact h
  · exact t x q
theorem asName_eq {e : Expr} {x : Str} (h : asName e = some x) : ∃ p, e = .Name x p := by
  cases e <;> first | (cases h; exact ⟨_, rfl⟩) | cases h
theorem asConst_eq {e : Expr} {x : Const} (h : asConst e = some x) : ∃ j p, e = .Constant x j p := by
  cases e <;> first | (cases h; exact ⟨_, _, rfl⟩) | cases h
theorem asBin_eq {e : Expr} {t : Expr × Operator × Expr} (h : asBin e = some t) : ∃ p, e = .BinOp t.1 t.2.1 t.2.2 p := by
  cases e <;> first | (cases h; exact ⟨_, rfl⟩) | cases h
theorem asNeg_eq {e t : Expr} (h : asNeg e = some t) : ∃ p, e = .UnaryOp .USub t p := by
  unfold asNeg at h
  split at h
  · cases h
    exact ⟨_, rfl⟩
  · cases h
theorem asNot_eq {e t : Expr} (h : asNot e = some t) : ∃ p, e = .UnaryOp .Not t p := by
  unfold asNot at h
  split at h
  · cases h
    exact ⟨_, rfl⟩
  · cases h
theorem asCmp_eq {e : Expr} {t : Expr × CmpOp × Expr} (h : asCmp e = some t) : ∃ p, e = .Compare t.1 [t.2.1] [t.2.2] p := by
  unfold asCmp at h
  split at h
  · cases h
    exact ⟨_, rfl⟩
  · cases h
theorem asChain_eq {e : Expr} {t : Expr × CmpOp × Expr × CmpOp × Expr} (h : asChain e = some t) : ∃ p, e = .Compare t.1 [t.2.1, t.2.2.2.1] [t.2.2.1, t.2.2.2.2] p := by
  unfold asChain at h
  split at h
  · cases h
    exact ⟨_, rfl⟩
  · cases h
theorem asIsN_eq {e t : Expr} (h : asIsN e = some t) : ∃ j q p, e = .Compare t [.Is] [.Constant .none j q] p := by
  unfold asIsN at h
  split at h
  · cases h
    exact ⟨_, _, _, rfl⟩
  · cases h
theorem asNotN_eq {e t : Expr} (h : asNotN e = some t) : ∃ j q p, e = .Compare t [.IsNot] [.Constant .none j q] p := by
  unfold asNotN at h
  split at h
  · cases h
    exact ⟨_, _, _, rfl⟩
  · cases h
theorem asAnd_eq {e : Expr} {t : List Expr} (h : asAnd e = some t) : ∃ p, e = .BoolOp .And t p := by
  unfold asAnd at h
  split at h
  · cases h
    exact ⟨_, rfl⟩
  · cases h
theorem asOr_eq {e : Expr} {t : List Expr} (h : asOr e = some t) : ∃ p, e = .BoolOp .Or t p := by
  unfold asOr at h
  split at h
  · cases h
    exact ⟨_, rfl⟩
  · cases h
theorem asList_eq {e : Expr} {t : List Expr} (h : asList e = some t) : ∃ p, e = .List t p := by
  cases e <;> first | (cases h; exact ⟨_, rfl⟩) | cases h
theorem asTup_eq {e : Expr} {t : List Expr} (h : asTup e = some t) : ∃ n p, e = .Tuple t n p := by
  cases e <;> first | (cases h; exact ⟨_, _, rfl⟩) | cases h
theorem asSub_eq {e : Expr} {t : Expr × Expr} (h : asSub e = some t) : ∃ p, e = .Subscript t.1 t.2 p := by
  cases e <;> first | (cases h; exact ⟨_, rfl⟩) | cases h
theorem asSlice_eq {e : Expr} {t : Expr × Option Expr × Option Expr} (h : asSlice e = some t) : ∃ q p, e = .Subscript t.1 (.Slice t.2.1 t.2.2 none q) p := by
  unfold asSlice at h
  split at h
  · cases h
    exact ⟨_, _, rfl⟩
  · cases h
theorem asRev_eq {e t : Expr} (h : asRev e = some t) : ∃ k p1 p2 p3 p, e = .Subscript t (.Slice none none (some (.UnaryOp .USub (.Constant (.int 1) k p1) p2)) p3) p := by
  unfold asRev at h
  split at h
  · split at h
    · rename_i i _ _ _ _ _ hi
      cases hi
      cases h
      exact ⟨_, _, _, _, _, rfl⟩
    · cases h
  · cases h
theorem asIsB_eq {e : Expr} {t : Expr × Bool × Bool} (h : asIsB e = some t) : (t.2.1 = false ∧ ∃ j q p, e = .Compare t.1 [.Is] [.Constant (.bool t.2.2) j q] p) ∨ (t.2.1 = true ∧ ∃ j q p, e = .Compare t.1 [.IsNot] [.Constant (.bool t.2.2) j q] p) := by
  unfold asIsB at h
  split at h
  · cases h
    exact .inl ⟨rfl, _, _, _, rfl⟩
  · cases h
    exact .inr ⟨rfl, _, _, _, rfl⟩
  · cases h
theorem asLSet_eq {e : Expr} {t : Str × Str × Expr} (h : asLSet e = some t) : ∃ q0 r0 p2 p, e = .Call (.Name t.1 q0) [.Call (.Name t.2.1 r0) [t.2.2] [] p2] [] p := by
  unfold asLSet at h
  split at h
  · cases h
    exact ⟨_, _, _, _, rfl⟩
  · cases h
theorem asLrg_eq {e : Expr} {t : Str × Str × Expr × List Expr} (h : asLrg e = some t) : ∃ q r p2 p, e = .Call (.Name t.1 q) [.Call (.Name t.2.1 r) (t.2.2.1 :: t.2.2.2) [] p2] [] p := by
  unfold asLrg at h
  split at h
  · cases h
    exact ⟨_, _, _, _, rfl⟩
  · cases h
theorem asCall_eq {e : Expr} {t : Str × Expr × List Expr} (h : asCall e = some t) : ∃ q p, e = .Call (.Name t.1 q) (t.2.1 :: t.2.2) [] p := by
  unfold asCall at h
  split at h
  · cases h
    exact ⟨_, _, rfl⟩
  · cases h
theorem asCall2_eq {e : Expr} {t : Str × Expr × Expr} (h : asCall2 e = some t) : ∃ q p, e = .Call (.Name t.1 q) [t.2.1, t.2.2] [] p := by
  unfold asCall2 at h
  split at h
  · cases h
    exact ⟨_, _, rfl⟩
  · cases h
theorem asIsi_eq {e : Expr} {t : Str × Expr × Str} (h : asIsi e = some t) : ∃ q r p, e = .Call (.Name t.1 q) [t.2.1, .Name t.2.2 r] [] p := by
  unfold asIsi at h
  split at h
  · cases h
    exact ⟨_, _, _, rfl⟩
  · cases h
theorem asMth_eq {e : Expr} {t : Expr × Str × Pos × List Expr × Pos} (h : asMth e = some t) : e = .Call (.Attribute t.1 t.2.1 t.2.2.1) t.2.2.2.1 [] t.2.2.2.2 := by
  unfold asMth at h
  split at h
  · cases h
    rfl
  · cases h
theorem asComp_eq {e : Expr} {t : Expr × Expr × Expr × List Expr × Scope} (h : asComp e = some t) : ∃ p, e = .ListComp t.1 [⟨t.2.1, t.2.2.1, t.2.2.2.1, 0⟩] t.2.2.2.2 p := by
  unfold asComp at h
  split at h
  · cases h
    exact ⟨_, rfl⟩
  · cases h
theorem isTupE_eq {e : Expr} (h : isTupE e = true) : ∃ es n p, e = .Tuple es n p := by
  cases e <;> first | exact ⟨_, _, _, rfl⟩ | cases h
theorem isIntC_eq {c : Const} {i : Int} (h : isIntC i c = true) : c = .int i := by
  cases c <;> first | (rw [of_decide_eq_true h]) | cases h
theorem isBlC_eq {c : Const} {b : Bool} (h : isBlC b c = true) : c = .bool b := by
  cases c with
  | bool d =>
    have h' : (b == d) = true := h
    rw [beq_iff_eq.mp h']
  | _ => cases h
theorem isStrC_eq {c : Const} {x : Str} (h : isStrC x c = true) : c = .str x := by
  cases c <;> first | (rw [of_decide_eq_true h]) | cases h
theorem isNonC_eq {c : Const} (h : isNonC c = true) : c = .none := by
  cases c <;> first | rfl | cases h
theorem sameC_eq {c d : D} (h : sameC c d = true) : c = d := by
  cases c <;> cases d <;> first | (rw [of_decide_eq_true h]) | cases h
theorem and_ok {a b : Bool} (h : (a && b) = true) : a = true ∧ b = true := Bool.and_eq_true_iff.mp h
theorem vals_non : ∀ n, Vals (List.replicate n .non) (List.replicate n .none)
  | 0 => .nil
  | n + 1 => .cons rfl (vals_non n)
section
variable {k : Ck} {lv : Nat} {CX : CXT}
mutual
theorem X.sound : ∀ (x : X) (sc : Scope) (fn : Str → Bool) (E : XK) (W : Cx) (e : Expr), CxOk k sc fn lv CX E W → x.ok k sc fn e = true → Snd W E e (x.ev k.Γ)
  | .var i, sc, fn, E, W, e, h, q => by
    obtain ⟨x, e1, q⟩ := optB_ok q
    obtain ⟨p, rfl⟩ := asName_eq e1
    obtain ⟨q, q3⟩ := and_ok q
    obtain ⟨q1, q2⟩ := and_ok q
    obtain ⟨n1, n2, n3⟩ := nm_ok q3
    exact snd_of (PE.imp (pe_var (by rw [h.hN]; exact of_decide_eq_true q1) (vis_ok h q2) n1 n2) (tx_var i)) rfl
  | .int i, sc, fn, E, W, e, h, q => by
    obtain ⟨c, e1, q⟩ := optB_ok q
    obtain ⟨j, p, rfl⟩ := asConst_eq e1
    have := isIntC_eq q
    subst this
    exact snd_of (PE.imp pe_int (tx_c rfl)) rfl
  | .bl b, sc, fn, E, W, e, h, q => by
    obtain ⟨c, e1, q⟩ := optB_ok q
    obtain ⟨j, p, rfl⟩ := asConst_eq e1
    have := isBlC_eq q
    subst this
    exact snd_of (PE.imp pe_bl (tx_c rfl)) rfl
  | .non, sc, fn, E, W, e, h, q => by
    obtain ⟨c, e1, q⟩ := optB_ok q
    obtain ⟨j, p, rfl⟩ := asConst_eq e1
    have := isNonC_eq q
    subst this
    exact snd_of (PE.imp pe_non (tx_c rfl)) rfl
  | .str x, sc, fn, E, W, e, h, q => by
    obtain ⟨c, e1, q⟩ := optB_ok q
    obtain ⟨j, p, rfl⟩ := asConst_eq e1
    have := isStrC_eq q
    subst this
    exact snd_of (PE.imp pe_str (tx_c rfl)) rfl
  | .cst x d, sc, fn, E, W, e, h, q => by
    obtain ⟨y, e1, q⟩ := optB_ok q
    obtain ⟨p, rfl⟩ := asName_eq e1
    obtain ⟨q, q4⟩ := and_ok q
    obtain ⟨q, q3⟩ := and_ok q
    obtain ⟨q1, q2⟩ := and_ok q
    obtain ⟨n1, n2, n3⟩ := nm_ok q3
    obtain ⟨d', e2, q5⟩ := optB_ok q4
    have := sameC_eq q5
    subst this
    obtain ⟨u, v, w1, w2, w3⟩ := h.cst y d' e2
    exact snd_of (PE.imp (pe_glob (gl_ok h q2) w1 w3 n1) (tx_c w2)) rfl
  | .bin b l x y, sc, fn, E, W, e, h, q => by
    obtain ⟨t, e1, q⟩ := optB_ok q
    obtain ⟨p, rfl⟩ := asBin_eq e1
    obtain ⟨q, q3⟩ := and_ok q
    obtain ⟨q1, q2⟩ := and_ok q
    rw [← opEq_ok q1]
    exact snd_of (PE.imp (pe_op b.opR (X.sound x sc fn E W _ h q2).1 (X.sound y sc fn E W _ h q3).1) (tx_bin (b.opD l))) rfl
  | .neg x, sc, fn, E, W, e, h, q => by
    obtain ⟨t, e1, q⟩ := optB_ok q
    obtain ⟨p, rfl⟩ := asNeg_eq e1
    have hp : PE W (.UnaryOp .USub t p) (TX W.K W.mg E ((X.neg x).ev k.Γ)) := PE.imp (pe_un un_neg (X.sound x sc fn E W t h q).1) (tx_un fun c ρ G H μ d v Q hK r hv hh => by
      cases d with
      | int i =>
        cases hv
        exact ⟨i, rfl, val_use (d := .int _) (v := .int _) hK r rfl hh⟩
      | _ => exact fin_none hh)
    exact ⟨hp, PT.imp (pt_val hp) txb_tx⟩
  | .cmp c x y, sc, fn, E, W, e, h, q => by
    obtain ⟨t, e1, q⟩ := optB_ok q
    obtain ⟨p, rfl⟩ := asCmp_eq e1
    obtain ⟨q, q4⟩ := and_ok q
    obtain ⟨q, q3⟩ := and_ok q
    obtain ⟨q1, q2⟩ := and_ok q
    rw [← cmEq_ok q1]
    have h1 := (X.sound x sc fn E W _ h q3).1
    have h2 := (X.sound y sc fn E W _ h q4).1
    exact snd_cmp (pe_cmpR (op_py h.room.units c) h1 h2 (mark_ok q2)) (pt_cmpR (op_py h.room.units c) h1 h2 (mark_ok q2)) (tx_bin (cmp_ok c))
  | .chain c c' x y z, sc, fn, E, W, e, h, q => by
    obtain ⟨t, e1, q⟩ := optB_ok q
    obtain ⟨p, rfl⟩ := asChain_eq e1
    obtain ⟨q, q6⟩ := and_ok q
    obtain ⟨q, q5⟩ := and_ok q
    obtain ⟨q, q4⟩ := and_ok q
    obtain ⟨q, q3⟩ := and_ok q
    obtain ⟨q1, q2⟩ := and_ok q
    rw [← cmEq_ok q1, ← cmEq_ok q2]
    have h1 := (X.sound x sc fn E W _ h q4).1
    have h2 := (X.sound y sc fn E W _ h q5).1
    have h3 := (X.sound z sc fn E W _ h q6).1
    have hm : lastMarks [c.op, c'.op] [t.2.2.1, t.2.2.2.2] = false := mark_ok q3
    exact snd_cmp (pe_chain (op_py h.room.units c) (op_py h.room.units c') h1 h2 h3 hm) (pt_chain (op_py h.room.units c) (op_py h.room.units c') h1 h2 h3 hm) tx_chain
  | .isN x, sc, fn, E, W, e, h, q => by
    obtain ⟨t, e1, q⟩ := optB_ok q
    obtain ⟨j, q0, p, rfl⟩ := asIsN_eq e1
    have h1 := (X.sound x sc fn E W _ h q).1
    exact ⟨PE.imp (pe_cmp (pc_isN h1)) tx_isN, PT.imp (pt_cmp (pc_isN h1)) fun σ H Q z => tx_isN σ H _ (txb_tx σ H Q z)⟩
  | .notN x, sc, fn, E, W, e, h, q => by
    obtain ⟨t, e1, q⟩ := optB_ok q
    obtain ⟨j, q0, p, rfl⟩ := asNotN_eq e1
    have h1 := (X.sound x sc fn E W _ h q).1
    exact ⟨PE.imp (pe_cmp (pc_notN h1)) tx_notN, PT.imp (pt_cmp (pc_notN h1)) fun σ H Q z => tx_notN σ H _ (txb_tx σ H Q z)⟩
  | .and xs, sc, fn, E, W, e, h, q => by
    obtain ⟨t, e1, q⟩ := optB_ok q
    obtain ⟨p, rfl⟩ := asAnd_eq e1
    obtain ⟨h1, h2⟩ := X.soundAnd xs sc fn E W t p h q
    exact ⟨h1, h2.pt⟩
  | .or xs, sc, fn, E, W, e, h, q => by
    obtain ⟨t, e1, q⟩ := optB_ok q
    obtain ⟨p, rfl⟩ := asOr_eq e1
    obtain ⟨h1, h2⟩ := X.soundOr xs sc fn E W t p h q
    exact ⟨h1, h2.pt⟩
  | .not x, sc, fn, E, W, e, h, q => by
    obtain ⟨t, e1, q⟩ := optB_ok q
    obtain ⟨p, rfl⟩ := asNot_eq e1
    obtain ⟨h1, h2⟩ := X.sound x sc fn E W t h q
    exact ⟨PE.imp (pe_not h1) tx_not, PT.imp (pt_not h2) txb_not⟩
  | .lst l xs, sc, fn, E, W, e, h, q => by
    obtain ⟨t, e1, q⟩ := optB_ok q
    obtain ⟨p, rfl⟩ := asList_eq e1
    exact snd_of (PE.imp (pe_lst (X.sounds xs sc fn E W t h q).1) (tx_lst l)) rfl
  | .tup xs, sc, fn, E, W, e, h, q => by
    obtain ⟨t, e1, q⟩ := optB_ok q
    obtain ⟨n, p, rfl⟩ := asTup_eq e1
    exact snd_of (PE.imp (pe_tup (X.sounds xs sc fn E W t h q).1) tx_tup) rfl
  | .ix x y, sc, fn, E, W, e, h, q => by
    obtain ⟨t, e1, q⟩ := optB_ok q
    obtain ⟨p, rfl⟩ := asSub_eq e1
    obtain ⟨q, q3⟩ := and_ok q
    obtain ⟨q1, q2⟩ := and_ok q
    exact snd_of (PE.imp (pe_ix ix_seq (X.sound x sc fn E W _ h q2).1 (X.sound y sc fn E W _ h q3).1 (plain_ok q1)) (tx_bin ix_ok)) rfl
  | .slice l x lo hi, sc, fn, E, W, e, h, q => by
    obtain ⟨t, e1, q⟩ := optB_ok q
    obtain ⟨q0, p, rfl⟩ := asSlice_eq e1
    obtain ⟨q, q3⟩ := and_ok q
    obtain ⟨q1, q2⟩ := and_ok q
    exact snd_of (PE.imp (pe_slice sl_any (X.sound x sc fn E W _ h q1).1 (X.soundo lo sc fn E W _ h q2) (X.soundo hi sc fn E W _ h q3)) (tx_slice l)) rfl
  | .call f dn fz xs, sc, fn, E, W, e, h, q => by
    obtain ⟨t, e1, q⟩ := optB_ok q
    obtain ⟨q0, p, rfl⟩ := asCall_eq e1
    obtain ⟨q, q4⟩ := and_ok q
    obtain ⟨q, q3⟩ := and_ok q
    obtain ⟨q1, q2⟩ := and_ok q
    obtain ⟨F, e2, q5⟩ := optB_ok q1
    obtain ⟨q5, q6⟩ := and_ok q5
    obtain ⟨n1, n2, n3⟩ := nm_ok q3
    obtain ⟨fa, fd, w1, w2, w3, w4⟩ := h.fns f F (lookup_mem e2)
    obtain ⟨hs, hn⟩ := X.sounds xs sc fn E W _ h q4
    rw [of_decide_eq_true q5] at w1
    have hd : Vals (List.replicate dn .non) (List.replicate dn .none) := vals_non dn
    have hp := pe_call (E := E) (p := q0) (pos := p) w4 h.room (gl_ok h q2) w1 w2 (w3 dn (of_decide_eq_true q6)) hd h.pass hs n1 (star_cons (hn _ List.mem_cons_self)) (star_any fun x hx => hn x (List.mem_cons_of_mem _ hx))
    refine snd_of (PE.imp hp fun σ H Q z => tx_call (dn := dn) (fz := fz) σ H Q ?_) rfl
    have : fnth k.Γ f dn fz = dCall F dn fz := by
      funext ds μ
      unfold fnth
      rw [e2]
    have z' : TX W.K W.mg E (fun env μ => rb (X.evs k.Γ xs env μ) (fnth k.Γ f dn fz)) σ H Q := z
    rw [this] at z'
    exact z'
  | .bi b l xs, sc, fn, E, W, e, h, q => by
    obtain ⟨t, e1, q⟩ := optB_ok q
    obtain ⟨q0, p, rfl⟩ := asCall_eq e1
    obtain ⟨q1, q2⟩ := and_ok q
    obtain ⟨n1, n2, n3⟩ := bi_ok h q1
    obtain ⟨hs, hn⟩ := X.sounds xs sc fn E W _ h q2
    have hc : CallR W b.val (b.r W.K) := b.callR h.calm
    have hv : bootBuiltins t.1 = some b.val := by
      rw [n1]
      exact bi_boot b
    have hq1 : t.1 ≠ "__name__" := by
      rw [n1]
      exact (bi_nm b).1
    have hq2 : (t.1 == ("__debug__" : Str)) = false := by
      rw [n1]
      exact (bi_nm b).2
    have hst := star_cons (env := W.env) (es := t.2.2) (hn _ List.mem_cons_self)
    have hpl := star_any (env := W.env) (pos := p) fun x hx => hn x (List.mem_cons_of_mem _ hx)
    refine snd_of (PE.imp ?_ (tx_cb (b.ok l))) rfl
    cases b <;> first
      | exact pe_callB hc n2 n3 hv hs hq1 hq2 hst hpl
      | exact pe_callTy hc n2 n3 hv hs hq1 hq2 hst hpl
  | .isi t x, sc, fn, E, W, e, h, q => by
    obtain ⟨u, e1, q⟩ := optB_ok q
    obtain ⟨q0, r0, p, rfl⟩ := asIsi_eq e1
    obtain ⟨q, q4⟩ := and_ok q
    obtain ⟨q, q3⟩ := and_ok q
    obtain ⟨q1, q2⟩ := and_ok q
    obtain ⟨n1, n2, n3⟩ := bi_ok h q1
    obtain ⟨m1, m2, m3⟩ := bi_ok h q2
    have h1 := (X.sound x sc fn E W _ h q4).1
    have ht : PE W (.Name u.2.2 r0) (tC (.ty t.nm)) := pe_bltn m2 m3 (by rw [m1]; exact ty_boot t) rfl (by rw [m1]; exact (ty_nm t).1) (by rw [m1]; exact (ty_nm t).2)
    have hv : bootBuiltins u.1 = some (.builtin "isinstance") := by
      rw [n1]
      exact PyProof.Rows.boot_isinstance
    refine snd_of (PE.imp (pe_callB call_isi n2 n3 hv (pa_cons h1 (pa_cons ht pa_nil) (star_cons q3)) (by rw [n1]; decide +kernel) (by rw [n1]; decide +kernel) (star_cons q3)) (tx_isi t)) rfl
  | .mth m x xs, sc, fn, E, W, e, h, q => by
    obtain ⟨t, e1, q⟩ := optB_ok q
    have := asMth_eq e1
    subst this
    obtain ⟨q, q6⟩ := and_ok q
    obtain ⟨q, q5⟩ := and_ok q
    obtain ⟨q, q4⟩ := and_ok q
    obtain ⟨q, q3⟩ := and_ok q
    obtain ⟨q1, q2⟩ := and_ok q
    have h1 := (X.sound x sc fn E W _ h q5).1
    obtain ⟨hs, hn⟩ := X.sounds xs sc fn E W _ h q6
    have hl := of_decide_eq_true q4
    have hsl : Slot "list" t.2.1 m.id := by
      rw [← of_decide_eq_true q1]
      exact m.slot
    obtain ⟨o, a, ap, es, p⟩ := t
    refine snd_of ?_ rfl
    cases xs with
    | nil =>
      cases es with
      | nil => exact PE.imp (pe_bm0 PySem.F.plainAttrs_list hsl m.ty m.mt h1 (base_ok q2) q3) tx_mth0
      | cons e es => cases q6
    | cons x0 xs =>
      cases es with
      | nil => cases q6
      | cons e es => exact PE.imp (pe_bm PySem.F.plainAttrs_list hsl m.ty m.mt h1 hs (base_ok q2) (few_ok hn hl) q3 (star_cons (hn _ List.mem_cons_self)) (star_any fun x hx => hn x (List.mem_cons_of_mem _ hx))) tx_mth
  | .comp l src tg cond elt own, sc, fn, E, W, e, h, q => by
    obtain ⟨t, e1, q⟩ := optB_ok q
    obtain ⟨p, rfl⟩ := asComp_eq e1
    obtain ⟨q, q7⟩ := and_ok q
    obtain ⟨q, q6⟩ := and_ok q
    obtain ⟨q, q5⟩ := and_ok q
    obtain ⟨q, q4⟩ := and_ok q
    obtain ⟨q, q3⟩ := and_ok q
    obtain ⟨q1, q2⟩ := and_ok q
    have hb : BlkOk W.N W.env.scope t.2.2.2.2 (own.map fun i => (k.N.getD i "", i)) := blkOk_by (by rw [h.hN, h.hsc]; exact q1)
    have ho : (own.map fun i => (k.N.getD i "", i)).map (·.2) = own := by
      rw [List.map_map]
      exact List.map_id' own
    have hown : ∀ i ∈ tg.slots, i ∈ own := fun i hi => by
      have := List.all_eq_true.mp q2 i hi
      simpa using this
    have hp := pe_lc (pos := p) (elt := t.1) (tg := t.2.1) (iter := t.2.2.1) (ifs := t.2.2.2.1) (scope := t.2.2.2.2) (g := tg.g W.K) (tt := ttOf W.K W.mg (X.evo k.Γ cond)) (te := TX W.K W.mg E0 (elt.ev k.Γ)) h.calm (by rw [h.hN]; exact h.nd) (Src.sound src sc fn E W _ _ h q4) hb
      (fun s H C cl fp => tg_sound (blk_ok h t.2.2.2.2 s H C cl fp) tg _ q5)
      (fun s H C cl fp => X.soundc cond _ _ _ _ (blk_ok h t.2.2.2.2 s H C cl fp) q6)
      (fun s H C cl fp => (X.sound elt _ _ E0 _ _ (blk_ok h t.2.2.2.2 s H C cl fp) q7).1) (set_ok q3 W.env)
    rw [ho] at hp
    exact snd_of (PE.imp hp (tx_comp hown)) rfl
  | .frz x, sc, fn, E, W, e, h, q => by
    obtain ⟨q1, q2⟩ := and_ok q
    obtain ⟨h1, h2⟩ := X.sound x sc fn E W e h q2
    exact snd_of (PE.imp h1 tx_frz) q1
  | .rev l x, sc, fn, E, W, e, h, q => by
    obtain ⟨t, e1, q⟩ := optB_ok q
    obtain ⟨k1, p1, p2, p3, p, rfl⟩ := asRev_eq e1
    exact snd_of (PE.imp (pe_revL (X.sound x sc fn E W _ h q).1) (tx_rev l)) rfl
  | .isB neg x b, sc, fn, E, W, e, h, q => by
    obtain ⟨t, e1, q⟩ := optB_ok q
    obtain ⟨q, q3⟩ := and_ok q
    obtain ⟨q1, q2⟩ := and_ok q
    have eb : b = t.2.2 := beq_iff_eq.mp q2
    have en : neg = t.2.1 := beq_iff_eq.mp q1
    have h1 := (X.sound x sc fn E W _ h q3).1
    have hb : ∀ j p, PE W (.Constant (.bool t.2.2) j p) (TX W.K W.mg E (fC (.bl b))) := fun j p => by
      rw [eb]
      exact PE.imp pe_bl (tx_c rfl)
    rcases asIsB_eq e1 with ⟨z, j, q0, p, rfl⟩ | ⟨z, j, q0, p, rfl⟩
    · rw [z] at en
      subst en
      exact snd_cmp (pe_cmpR op_isB h1 (hb j q0) (mark_ok rfl)) (pt_cmpR op_isB h1 (hb j q0) (mark_ok rfl)) (tx_bin (isB_ok false))
    · rw [z] at en
      subst en
      exact snd_cmp (pe_cmpR op_notB h1 (hb j q0) (mark_ok rfl)) (pt_cmpR op_notB h1 (hb j q0) (mark_ok rfl)) (tx_bin (isB_ok true))
  | .lrg l xs, sc, fn, E, W, e, h, q => by
    obtain ⟨t, e1, q⟩ := optB_ok q
    obtain ⟨q0, r0, p2, p, rfl⟩ := asLrg_eq e1
    obtain ⟨q, q4⟩ := and_ok q
    obtain ⟨q, q3⟩ := and_ok q
    obtain ⟨q1, q2⟩ := and_ok q
    obtain ⟨n1, n2, n3⟩ := bi_ok h q1
    obtain ⟨m1, m2, m3⟩ := bi_ok h q2
    obtain ⟨hs, hn⟩ := X.sounds xs sc fn E W _ h q4
    obtain ⟨x0, y0, a, as⟩ := t
    subst n1
    subst m1
    cases as with
    | nil =>
      have st : starEach [a] W.env = [(false, eval a W.env)] := star_cons (hn _ List.mem_cons_self)
      cases xs with
      | nil => cases q4
      | cons x xs =>
        cases xs with
        | cons y xs =>
          obtain ⟨_, q⟩ := and_ok q4
          cases q
        | nil =>
          obtain ⟨q, _⟩ := and_ok q4
          obtain ⟨q5, q6⟩ := and_ok q
          exact snd_of (PE.imp (pe_listRg h.calm n2 n3 (prg_1 m2 m3 (X.sound x sc fn E W a h q6).1 st)) (tx_lrg1 l)) rfl
    | cons b as =>
      cases as with
      | cons c as => exact absurd (of_decide_eq_true q3) (by simp)
      | nil =>
        have st2 : starEach [b] W.env = [(false, eval b W.env)] := star_cons (hn _ (by simp))
        have st : starEach [a, b] W.env = (false, eval a W.env) :: starEach [b] W.env := star_cons (hn _ List.mem_cons_self)
        cases xs with
        | nil => cases q4
        | cons x xs =>
          cases xs with
          | nil =>
            obtain ⟨_, q⟩ := and_ok q4
            cases q
          | cons y xs =>
            cases xs with
            | cons w xs =>
              obtain ⟨_, q⟩ := and_ok q4
              obtain ⟨_, q⟩ := and_ok q
              cases q
            | nil =>
              obtain ⟨q, q7⟩ := and_ok q4
              obtain ⟨q5, q6⟩ := and_ok q
              obtain ⟨q7, _⟩ := and_ok q7
              obtain ⟨_, q8⟩ := and_ok q7
              exact snd_of (PE.imp (pe_listRg h.calm n2 n3 (prg_2 m2 m3 (X.sound x sc fn E W a h q6).1 (X.sound y sc fn E W b h q8).1 st st2 (by rw [st2]; rfl))) (tx_lrg2 l)) rfl
  | .lset x, sc, fn, E, W, e, h, q => by
    obtain ⟨t, e1, q⟩ := optB_ok q
    obtain ⟨q0, r0, p2, p, rfl⟩ := asLSet_eq e1
    obtain ⟨q, q4⟩ := and_ok q
    obtain ⟨q, q3⟩ := and_ok q
    obtain ⟨q1, q2⟩ := and_ok q
    obtain ⟨n1, n2, n3⟩ := bi_ok h q1
    obtain ⟨m1, m2, m3⟩ := bi_ok h q2
    obtain ⟨x0, y0, a⟩ := t
    subst n1
    subst m1
    exact snd_of (PE.imp (pe_lset h.calm n2 n3 m2 m3 (X.sound x sc fn E W a h q4).1 (star_cons q3)) tx_lset) rfl
  | .srtP l xs, sc, fn, E, W, e, h, q => by
    obtain ⟨t, e1, q⟩ := optB_ok q
    obtain ⟨q0, p, rfl⟩ := asCall_eq e1
    obtain ⟨q1, q2⟩ := and_ok q
    obtain ⟨n1, n2, n3⟩ := bi_ok h q1
    obtain ⟨hs, hn⟩ := X.sounds xs sc fn E W _ h q2
    have hc : CallR W (BI.val .sorted) (rSortedPO W.K) := cr_sortedPO
    have hv : bootBuiltins t.1 = some (BI.val .sorted) := by
      rw [n1]
      exact bi_boot .sorted
    have hq1 : t.1 ≠ "__name__" := by
      rw [n1]
      exact (bi_nm .sorted).1
    have hq2 : (t.1 == ("__debug__" : Str)) = false := by
      rw [n1]
      exact (bi_nm .sorted).2
    have hst := star_cons (env := W.env) (es := t.2.2) (hn _ List.mem_cons_self)
    have hpl := star_any (env := W.env) (pos := p) fun x hx => hn x (List.mem_cons_of_mem _ hx)
    exact snd_of (PE.imp (pe_callB hc n2 n3 hv hs hq1 hq2 hst hpl) (tx_cb (sortP_ok l))) rfl
theorem X.sounds : ∀ (xs : List X) (sc : Scope) (fn : Str → Bool) (E : XK) (W : Cx) (es : List Expr), CxOk k sc fn lv CX E W → X.oks k sc fn xs es = true → PA W es (TXs W.K W.mg E (X.evs k.Γ xs)) ∧ allNS es
  | [], sc, fn, E, W, [], h, q => ⟨PA.imp pa_nil txs_nil, allNS_nil⟩
  | x :: xs, sc, fn, E, W, e :: es, h, q => by
    obtain ⟨q, q3⟩ := and_ok q
    obtain ⟨q1, q2⟩ := and_ok q
    obtain ⟨hs, hn⟩ := X.sounds xs sc fn E W es h q3
    exact ⟨PA.imp (pa_cons (X.sound x sc fn E W e h q2).1 hs (star_cons q1)) txs_cons, allNS_cons q1 hn⟩
  | [], _, _, _, _, _ :: _, _, q => by cases q
  | _ :: _, _, _, _, _, [], _, q => by cases q
theorem X.soundo : ∀ (xs : List X) (sc : Scope) (fn : Str → Bool) (E : XK) (W : Cx) (o : Option Expr), CxOk k sc fn lv CX E W → X.oko k sc fn xs o = true → PO W o (tPartX W.K W.mg E (X.evo k.Γ xs))
  | [], sc, fn, E, W, none, h, q => po_none
  | [x], sc, fn, E, W, some e, h, q => po_some (X.sound x sc fn E W e h q).1
  | [], _, _, _, _, some _, _, q => by cases q
  | [_], _, _, _, _, none, _, q => by cases q
  | _ :: _ :: _, _, _, _, _, none, _, q => by cases q
  | _ :: _ :: _, _, _, _, _, some _, _, q => by cases q
theorem X.soundc : ∀ (xs : List X) (sc : Scope) (fn : Str → Bool) (W : Cx) (es : List Expr), CxOk k sc fn lv CX E0 W → X.okc k sc fn xs es = true → PTs W es (ttOf W.K W.mg (X.evo k.Γ xs))
  | [], sc, fn, W, [], h, q => pts_nil
  | [x], sc, fn, W, [e], h, q => pts_one (X.sound x sc fn E0 W e h q).2
  | [], _, _, _, _ :: _, _, q => by cases q
  | [_], _, _, _, [], _, q => by cases q
  | [_], _, _, _, _ :: _ :: _, _, q => by cases q
  | _ :: _ :: _, _, _, _, [], _, q => by cases q
  | _ :: _ :: _, _, _, _, [_], _, q => by cases q
  | _ :: _ :: _, _, _, _, _ :: _ :: _, _, q => by cases q
theorem X.soundAnd : ∀ (xs : List X) (sc : Scope) (fn : Str → Bool) (E : XK) (W : Cx) (es : List Expr) (p : Pos), CxOk k sc fn lv CX E W → X.oks k sc fn xs es = true → PE W (.BoolOp .And es p) (TX W.K W.mg E (X.evAnd k.Γ xs)) ∧ PW W (.BoolOp .And es p) (TXb W.K W.mg E (X.evAnd k.Γ xs))
  | [], sc, fn, E, W, es, p, h, q => ⟨⟨fun _ _ _ _ _ _ hw => by
      obtain ⟨c, env, ρ, G, μ, hK, hm, re, eo, z⟩ := hw
      exact z.elim⟩, ⟨fun _ _ _ _ _ _ _ hw => by
      obtain ⟨c, env, ρ, G, μ, hK, hm, re, eo, z⟩ := hw
      exact z.elim⟩⟩
  | [x], sc, fn, E, W, es, p, h, q => by
    cases es with
    | nil => cases q
    | cons e es =>
      cases es with
      | nil =>
        obtain ⟨q, _⟩ := and_ok q
        obtain ⟨q1, q2⟩ := and_ok q
        obtain ⟨h1, h2⟩ := X.sound x sc fn E W e h q2
        exact ⟨pe_one h1, pw_and1 h2⟩
      | cons f es =>
        obtain ⟨_, q⟩ := and_ok q
        cases q
  | x :: y :: xs, sc, fn, E, W, es, p, h, q => by
    cases es with
    | nil => cases q
    | cons e es =>
      cases es with
      | nil =>
        obtain ⟨_, q⟩ := and_ok q
        cases q
      | cons f es =>
        obtain ⟨q, q3⟩ := and_ok q
        obtain ⟨q1, q2⟩ := and_ok q
        obtain ⟨h1, h2⟩ := X.sound x sc fn E W e h q2
        obtain ⟨h3, h4⟩ := X.soundAnd (y :: xs) sc fn E W (f :: es) p h q3
        exact ⟨PE.imp (pe_and h1 h3) tx_and, PW.imp (pw_and h2 h4) txb_and⟩
theorem X.soundOr : ∀ (xs : List X) (sc : Scope) (fn : Str → Bool) (E : XK) (W : Cx) (es : List Expr) (p : Pos), CxOk k sc fn lv CX E W → X.oks k sc fn xs es = true → PE W (.BoolOp .Or es p) (TX W.K W.mg E (X.evOr k.Γ xs)) ∧ PW W (.BoolOp .Or es p) (TXb W.K W.mg E (X.evOr k.Γ xs))
  | [], sc, fn, E, W, es, p, h, q => ⟨⟨fun _ _ _ _ _ _ hw => by
      obtain ⟨c, env, ρ, G, μ, hK, hm, re, eo, z⟩ := hw
      exact z.elim⟩, ⟨fun _ _ _ _ _ _ _ hw => by
      obtain ⟨c, env, ρ, G, μ, hK, hm, re, eo, z⟩ := hw
      exact z.elim⟩⟩
  | [x], sc, fn, E, W, es, p, h, q => by
    cases es with
    | nil => cases q
    | cons e es =>
      cases es with
      | nil =>
        obtain ⟨q, _⟩ := and_ok q
        obtain ⟨q1, q2⟩ := and_ok q
        obtain ⟨h1, h2⟩ := X.sound x sc fn E W e h q2
        exact ⟨pe_one h1, pw_or1 h2⟩
      | cons f es =>
        obtain ⟨_, q⟩ := and_ok q
        cases q
  | x :: y :: xs, sc, fn, E, W, es, p, h, q => by
    cases es with
    | nil => cases q
    | cons e es =>
      cases es with
      | nil =>
        obtain ⟨_, q⟩ := and_ok q
        cases q
      | cons f es =>
        obtain ⟨q, q3⟩ := and_ok q
        obtain ⟨q1, q2⟩ := and_ok q
        obtain ⟨h1, h2⟩ := X.sound x sc fn E W e h q2
        obtain ⟨h3, h4⟩ := X.soundOr (y :: xs) sc fn E W (f :: es) p h q3
        exact ⟨PE.imp (pe_or h1 h3) tx_or, PW.imp (pw_or h2 h4) txb_or⟩
theorem Src.sound : ∀ (s : Src) (sc : Scope) (fn : Str → Bool) (E : XK) (W : Cx) (e tg : Expr), CxOk k sc fn lv CX E W → s.ok k sc fn e tg = true → PI W tg e (TXi W.K W.mg E (s.ev k.Γ))
  | .lst x, sc, fn, E, W, e, tg, h, q => PI.imp (pi_list (X.sound x sc fn E W e h q).1) txi_list
  | .tup x, sc, fn, E, W, e, tg, h, q => PI.imp (pi_tup (X.sound x sc fn E W e h q).1) txi_tup
  | .rng xs, sc, fn, E, W, e, tg, h, q => by
    obtain ⟨t, e1, q⟩ := optB_ok q
    obtain ⟨q0, p, rfl⟩ := asCall_eq e1
    obtain ⟨q, q3⟩ := and_ok q
    obtain ⟨q1, q2⟩ := and_ok q
    obtain ⟨n1, n2, n3⟩ := bi_ok h q1
    obtain ⟨hs, hn⟩ := X.sounds xs sc fn E W _ h q3
    obtain ⟨x0, a, es⟩ := t
    subst n1
    cases es with
    | nil =>
      have st : starEach [a] W.env = [(false, eval a W.env)] := star_cons (hn _ List.mem_cons_self)
      refine PI.imp (pi_range1 n2 n3 hs st) fun σ H R z => txi_rng1 σ H R ?_
      cases xs with
      | nil => cases q3
      | cons x xs =>
        cases xs with
        | cons y xs =>
          obtain ⟨_, q⟩ := and_ok q3
          cases q
        | nil =>
          have z' : TXi W.K W.mg E (fun env μ => rb (fCons (x.ev k.Γ) fNil env μ) dRng) σ H R := z
          show TXi W.K W.mg E (fun env μ => rb (fCons (x.ev k.Γ) fNil env μ) fun ds μ1 => match ds with
            | [d] => dRng [d] μ1
            | _ => none) σ H R
          simp only [rb_one] at z' ⊢
          exact z'
    | cons b es =>
      cases es with
      | nil =>
        have st2 : starEach [b] W.env = [(false, eval b W.env)] := star_cons (hn _ (by simp))
        have st : starEach [a, b] W.env = [(false, eval a W.env), (false, eval b W.env)] := by
          rw [star_cons (hn _ List.mem_cons_self), st2]
        refine PI.imp (pi_range2 n2 n3 hs st st2) fun σ H R z => txi_rng2 σ H R ?_
        cases xs with
        | nil => cases q3
        | cons x xs =>
          cases xs with
          | nil =>
            obtain ⟨_, q⟩ := and_ok q3
            cases q
          | cons y xs =>
            cases xs with
            | cons w xs =>
              obtain ⟨_, q⟩ := and_ok q3
              obtain ⟨_, q⟩ := and_ok q
              cases q
            | nil =>
              have z' : TXi W.K W.mg E (fun env μ => rb (fCons (x.ev k.Γ) (fCons (y.ev k.Γ) fNil) env μ) dRng) σ H R := z
              show TXi W.K W.mg E (fun env μ => rb (fCons (x.ev k.Γ) (fCons (y.ev k.Γ) fNil) env μ) fun ds μ1 => match ds with
                | [d, e] => dRng [d, e] μ1
                | _ => none) σ H R
              simp only [rb_two] at z' ⊢
              exact z'
      | cons c es => exact absurd (of_decide_eq_true q2) (by simp)
  | .enum x, sc, fn, E, W, e, tg, h, q => by
    obtain ⟨q, q0⟩ := and_ok q
    obtain ⟨es, n, pp, rfl⟩ := isTupE_eq q
    obtain ⟨t, e1, q⟩ := optB_ok q0
    obtain ⟨qq, p, rfl⟩ := asCall_eq e1
    obtain ⟨q, q4⟩ := and_ok q
    obtain ⟨q, q3⟩ := and_ok q
    obtain ⟨q1, q2⟩ := and_ok q
    obtain ⟨n1, n2, n3⟩ := bi_ok h q1
    obtain ⟨x0, a, as⟩ := t
    subst n1
    cases as with
    | cons _ _ => cases q2
    | nil => exact PI.imp (pi_enum n2 n3 (PA.imp (pa_cons (X.sound x sc fn E W a h q4).1 (PA.imp pa_nil txs_nil) (star_cons q3)) txs_cons) (star_cons q3)) txi_enum
  | .enumT x, sc, fn, E, W, e, tg, h, q => by
    obtain ⟨q, q0⟩ := and_ok q
    obtain ⟨es, n, pp, rfl⟩ := isTupE_eq q
    obtain ⟨t, e1, q⟩ := optB_ok q0
    obtain ⟨qq, p, rfl⟩ := asCall_eq e1
    obtain ⟨q, q4⟩ := and_ok q
    obtain ⟨q, q3⟩ := and_ok q
    obtain ⟨q1, q2⟩ := and_ok q
    obtain ⟨n1, n2, n3⟩ := bi_ok h q1
    obtain ⟨x0, a, as⟩ := t
    subst n1
    cases as with
    | cons _ _ => cases q2
    | nil => exact PI.imp (pi_enN n2 n3 (PA.imp (pa_cons (X.sound x sc fn E W a h q4).1 (PA.imp pa_nil txs_nil) (star_cons q3)) txs_cons) (star_cons q3)) txi_enumT
  | .zip x y, sc, fn, E, W, e, tg, h, q => by
    obtain ⟨q, q0⟩ := and_ok q
    obtain ⟨es, n, pp, rfl⟩ := isTupE_eq q
    obtain ⟨t, e1, q⟩ := optB_ok q0
    obtain ⟨qq, p, rfl⟩ := asCall2_eq e1
    obtain ⟨q, q5⟩ := and_ok q
    obtain ⟨q, q4⟩ := and_ok q
    obtain ⟨q, q3⟩ := and_ok q
    obtain ⟨q1, q2⟩ := and_ok q
    obtain ⟨n1, n2, n3⟩ := bi_ok h q1
    obtain ⟨x0, a, b⟩ := t
    subst n1
    have hn : allNS [b] := allNS_cons q3 allNS_nil
    exact PI.imp (pi_zip n2 n3 (PA.imp (pa_cons (X.sound x sc fn E W a h q4).1 (PA.imp (pa_cons (X.sound y sc fn E W b h q5).1 (PA.imp pa_nil txs_nil) (star_cons q3)) txs_cons) (star_cons q2)) txs_cons) (star_cons q2) (star_any hn)) txi_zip
end
end
end Lv

set_option Elab.async false
set_option linter.all false
set_option maxRecDepth 100000
set_option autoImplicit false
/-! the check is sound: statements -/
namespace Lv
open PySem PySem.Spec PyProof.Rows L2
theorem asRet_eq {s : Stmt} {e : Expr} (h : asRet s = some e) : ∃ p, s = .Return (some e) p := by
  unfold asRet at h
  split at h
  · cases h
    exact ⟨_, rfl⟩
  · cases h
theorem isRetN_eq {s : Stmt} (h : isRetN s = true) : ∃ p, s = .Return none p := by
  unfold isRetN at h
  split at h
  · exact ⟨_, rfl⟩
  · cases h
theorem isPass_eq {s : Stmt} (h : isPass s = true) : ∃ p, s = .Pass p := by
  unfold isPass at h
  split at h
  · exact ⟨_, rfl⟩
  · cases h
theorem asExpr_eq {s : Stmt} {e : Expr} (h : asExpr s = some e) : ∃ p, s = .Expr e p := by
  unfold asExpr at h
  split at h
  · cases h
    exact ⟨_, rfl⟩
  · cases h
theorem asSet_eq {s : Stmt} {t : Str × Pos × Expr × Pos} (h : asSet s = some t) : s = .Assign [.Name t.1 t.2.1] t.2.2.1 t.2.2.2 := by
  unfold asSet at h
  split at h
  · cases h
    rfl
  · cases h
theorem asAsgT_eq {s : Stmt} {t : List Expr × Expr} (h : asAsgT s = some t) : ∃ n q p, s = .Assign [.Tuple t.1 n q] t.2 p := by
  unfold asAsgT at h
  split at h
  · cases h
    exact ⟨_, _, _, rfl⟩
  · cases h
theorem asSetIx_eq {s : Stmt} {t : Expr × Expr × Expr} (h : asSetIx s = some t) : ∃ q p, s = .Assign [.Subscript t.1 t.2.1 q] t.2.2 p := by
  unfold asSetIx at h
  split at h
  · cases h
    exact ⟨_, _, rfl⟩
  · cases h
theorem asAug_eq {s : Stmt} {t : Str × Operator × Expr} (h : asAug s = some t) : ∃ q p, s = .AugAssign (.Name t.1 q) t.2.1 t.2.2 p := by
  unfold asAug at h
  split at h
  · cases h
    exact ⟨_, _, rfl⟩
  · cases h
theorem asAugIx_eq {s : Stmt} {t : Expr × Expr × Operator × Expr} (h : asAugIx s = some t) : ∃ q p, s = .AugAssign (.Subscript t.1 t.2.1 q) t.2.2.1 t.2.2.2 p := by
  unfold asAugIx at h
  split at h
  · cases h
    exact ⟨_, _, rfl⟩
  · cases h
theorem asIf_eq {s : Stmt} {t : Expr × List Stmt × List Stmt} (h : asIf s = some t) : ∃ p, s = .If t.1 t.2.1 t.2.2 p := by
  unfold asIf at h
  split at h
  · cases h
    exact ⟨_, rfl⟩
  · cases h
theorem asFor_eq {s : Stmt} {t : Expr × Expr × List Stmt} (h : asFor s = some t) : ∃ p, s = .For t.1 t.2.1 t.2.2 [] p := by
  unfold asFor at h
  split at h
  · cases h
    exact ⟨_, rfl⟩
  · cases h
theorem asWh_eq {s : Stmt} {t : Expr × List Stmt} (h : asWh s = some t) : ∃ p, s = .While t.1 t.2 [] p := by
  unfold asWh at h
  split at h
  · cases h
    exact ⟨_, rfl⟩
  · cases h
theorem stores_none {es : List Expr} {n : Nat} {q : Pos} {e : Expr} {env : PySem.Env} (h : notTup e = true) : swappedStores [.Tuple es n q] e env = pure none := by
  cases e <;> first | rfl | cases h
theorem asPar_eq {s : Stmt} {t : (Str × Pos × Str × Pos) × Expr × Expr} (h : asPar s = some t) : ∃ kt pt k2 pt2 p, s = .Assign [.Tuple [.Name t.1.1 t.1.2.1, .Name t.1.2.2.1 t.1.2.2.2] kt pt] (.Tuple [t.2.1, t.2.2] k2 pt2) p := by
  unfold asPar at h
  split at h
  · cases h
    exact ⟨_, _, _, _, _, rfl⟩
  · cases h
theorem isFun_eq {sc : Scope} (h : isFun sc = true) : sc.kind = .function := by
  unfold isFun at h
  split at h
  · assumption
  · cases h
theorem isLoc_eq {sc : Scope} {x : Str} (h : isLoc sc x = true) : sc.names.lookup x = some .local := by
  unfold isLoc at h
  split at h
  · assumption
  · cases h
theorem star_no {e : Expr} (h : notStar e = true) : (match e with | .Starred .. => true | _ => false) = false := by
  cases e <;> first | rfl | cases h
theorem par_stores {env : PySem.Env} {x y : Str} {px py pt pt2 : Pos} {a b : Expr} {kt k2 : Nat} (hk : env.scope.kind = .function) (hx : env.scope.names.lookup x = some .local) (hy : env.scope.names.lookup y = some .local) (hl : (py.line == px.line) = true) (hn : (y == x) = false)
    (sa : notStar a = true) (sb : notStar b = true) (hf : (foldedForSure 8 a && foldedForSure 8 b) = false) (hc : (constantsAlone 8 a && constantsAlone 8 b) = false) :
    swappedStores [.Tuple [.Name x px, .Name y py] kt pt] (.Tuple [a, b] k2 pt2) env = pure (some [x, y]) := by
  have kx : env.kindOf x = some .local := hx
  have ky : env.kindOf y = some .local := hy
  have hb : env.blockKind = .function := by unfold Env.blockKind; rw [hk]; rfl
  have hd : [x, y].eraseDups = [x, y] := by simp [List.eraseDups_cons, List.filter_cons, hn, bne]
  have hpl : (Expr.Name x px).pos = px := rfl
  unfold swappedStores
  simp only [hb, List.length_cons, List.length_nil, List.any_cons, List.any_nil, star_no sa, star_no sb, List.head?_cons, Option.map_some, Option.getD_some, List.filterMap_cons, List.filterMap_nil, kx, ky, hpl, hl, beq_self_eq_true, Bool.and_self, if_true, hd, List.all_cons, List.all_nil, Bool.and_true, hf, hc]
  clear hf hc
  refine Eq.trans (if_neg (by decide)) (Eq.trans (if_neg ?_) rfl)
  intro hh
  rcases Bool.or_eq_true_iff.mp hh with hh | hh
  · cases a <;> first | (cases hh; done) | cases sa
  · rcases Bool.or_eq_true_iff.mp hh with hh | hh
    · cases b <;> first | (cases hh; done) | cases sb
    · cases hh
section
variable {k : Ck} {lv : Nat} {CX : CXT}
theorem set_comp {sc : Scope} {fn : Str → Bool} {E : XK} {W : Cx} {y : Str} {py spos : Pos} {l : Bool} {src : Src} {tg : Tg} {cond : List X} {elt : X} {own : List Nat} {e : Expr} {i : Nat} (h : CxOk k sc fn lv CX E W) (hi : k.N[i]? = some y) (hl : locb sc fn y = true) (hs : setOk sc y py e = true)
    (q : (X.comp l src tg cond elt own).ok k sc fn e = true) : PS W (.Assign [.Name y py] e spos) (tAsg (TX W.K W.mg E ((X.comp l src tg cond elt own).ev k.Γ)) (gName i)) := by
  have h0 := (X.sound _ sc fn E W e h q).1
  obtain ⟨t, e1, q⟩ := optB_ok q
  obtain ⟨p, rfl⟩ := asComp_eq e1
  obtain ⟨l1, l2⟩ := loc_ok h hl
  have hs' : (match sc.names.lookup y with
    | some .cell => true
    | some .local => (t.2.2.2.2.names.any fun (n, k) => n == y && (k == .local || k == .cell)) || (isFun sc && (py.line == p.line))
    | _ => false) = true := hs
  have plain : swapsWith (.ListComp t.1 [⟨t.2.1, t.2.2.1, t.2.2.2.1, 0⟩] t.2.2.2.2 p) (some (.Name y py)) spos.line W.env = pure false → PS W (.Assign [.Name y py] (.ListComp t.1 [⟨t.2.1, t.2.2.1, t.2.2.2.1, 0⟩] t.2.2.2.2 p) spos) (tAsg (TX W.K W.mg E ((X.comp l src tg cond elt own).ev k.Γ)) (gName i)) :=
    fun z => ps_set (by rw [h.hN]; exact h.nd) (by rw [h.hN]; exact hi) l1 h0 z l2
  have sw : swapsWith (.ListComp t.1 [⟨t.2.1, t.2.2.1, t.2.2.2.1, 0⟩] t.2.2.2.2 p) (some (.Name y py)) spos.line W.env = pure (W.env.blockKind == .function && W.env.kindOf y == some .local && py.line == p.line && !(t.2.2.2.2.names.any fun (n, k) => n == y && (k == .local || k == .cell))) := rfl
  split at hs'
  · rename_i hc
    refine plain ?_
    have : W.env.kindOf y = some .cell := by
      show W.env.scope.names.lookup y = _
      rw [h.hsc]
      exact hc
    rw [sw, this]
    show (pure (W.env.blockKind == .function && false && _ && _) : Sem Bool) = _
    rw [Bool.and_false, Bool.false_and, Bool.false_and]
  · rename_i hc
    by_cases hn : (t.2.2.2.2.names.any fun (n, k) => n == y && (k == .local || k == .cell)) = true
    · refine plain ?_
      rw [sw, hn]
      show (pure (_ && false) : Sem Bool) = _
      rw [Bool.and_false]
    · have hn' : (t.2.2.2.2.names.any fun (n, k) => n == y && (k == .local || k == .cell)) = false := by simpa using hn
      rw [hn', Bool.false_or, Bool.and_eq_true] at hs'
      have hk : W.env.scope.kind = .function := by
        rw [h.hsc]
        have := hs'.1
        unfold isFun at this
        split at this
        · assumption
        · cases this
      have hyl : W.env.scope.names.lookup y = some .local := by
        rw [h.hsc]
        exact hc
      obtain ⟨q, q7⟩ := and_ok q
      obtain ⟨q, q6⟩ := and_ok q
      obtain ⟨q, q5⟩ := and_ok q
      obtain ⟨q, q4⟩ := and_ok q
      obtain ⟨q, q3⟩ := and_ok q
      obtain ⟨q1, q2⟩ := and_ok q
      have hb : BlkOk W.N W.env.scope t.2.2.2.2 (own.map fun i => (k.N.getD i "", i)) := blkOk_by (by rw [h.hN, h.hsc]; exact q1)
      have ho : (own.map fun i => (k.N.getD i "", i)).map (·.2) = own := by
        rw [List.map_map]
        exact List.map_id' own
      have hown : ∀ i ∈ tg.slots, i ∈ own := fun i hi => by
        have := List.all_eq_true.mp q2 i hi
        simpa using this
      have hp := ps_setLc (i := i) (y := y) (py := py) (pos := p) (spos := spos) (elt := t.1) (tg := t.2.1) (iter := t.2.2.1) (ifs := t.2.2.2.1) (scope := t.2.2.2.2) (g := tg.g W.K) (tt := ttOf W.K W.mg (X.evo k.Γ cond)) (te := TX W.K W.mg E0 (elt.ev k.Γ)) h.calm (by rw [h.hN]; exact h.nd) (by rw [h.hN]; exact hi) hyl
        (sw_true hk hyl hs'.2 hn') (Src.sound src sc fn E W _ _ h q4) hb
        (fun s H C cl fp => tg_sound (blk_ok h t.2.2.2.2 s H C cl fp) tg _ q5)
        (fun s H C cl fp => X.soundc cond _ _ _ _ (blk_ok h t.2.2.2.2 s H C cl fp) q6)
        (fun s H C cl fp => (X.sound elt _ _ E0 _ _ (blk_ok h t.2.2.2.2 s H C cl fp) q7).1) (set_ok q3 W.env)
      rw [ho] at hp
      exact PS.imp hp fun D σ H z => tx_comp hown σ H _ z
  · cases hs'
mutual
theorem S.sound : ∀ (x : S) (sc : Scope) (fn : Str → Bool) (E : XK) (W : Cx) (s : Stmt), CxOk k sc fn lv CX E W → x.ok k sc fn s = true → PS W s (TSx W.K W.mg E (x.ev k.Γ))
  | .ret x, sc, fn, E, W, s, h, q => by
    obtain ⟨e, e1, q⟩ := optB_ok q
    obtain ⟨p, rfl⟩ := asRet_eq e1
    exact PS.imp (ps_ret (X.sound x sc fn E W e h q).1) ts_ret
  | .retN, sc, fn, E, W, s, h, q => by
    obtain ⟨p, rfl⟩ := isRetN_eq q
    exact PS.imp ps_retN ts_retN
  | .expr x, sc, fn, E, W, s, h, q => by
    obtain ⟨e, e1, q⟩ := optB_ok q
    obtain ⟨p, rfl⟩ := asExpr_eq e1
    obtain ⟨q1, q2⟩ := and_ok q
    exact PS.imp (ps_expr (X.sound x sc fn E W e h q2).1 (swap_none q1)) ts_drop
  | .set i x, sc, fn, E, W, s, h, q => by
    obtain ⟨t, e1, q⟩ := optB_ok q
    have := asSet_eq e1
    subst this
    obtain ⟨q, q4⟩ := and_ok q
    obtain ⟨q, q3⟩ := and_ok q
    obtain ⟨q1, q2⟩ := and_ok q
    obtain ⟨l1, l2⟩ := loc_ok h q2
    rcases Bool.or_eq_true_iff.mp q3 with q5 | q5
    · exact PS.imp (ps_set (by rw [h.hN]; exact h.nd) (by rw [h.hN]; exact of_decide_eq_true q1) l1 (X.sound x sc fn E W _ h q4).1 (swap_none q5) l2) (ts_asg (tg := .nm i))
    · obtain ⟨q5, q6⟩ := and_ok q5
      cases x with
      | comp l src tg cond elt own => exact PS.imp (set_comp h (of_decide_eq_true q1) q2 q6 q4) (ts_asg (tg := .nm i))
      | _ => cases q5
  | .asg is x, sc, fn, E, W, s, h, q => by
    obtain ⟨t, e1, q⟩ := optB_ok q
    obtain ⟨n, q0, p, rfl⟩ := asAsgT_eq e1
    obtain ⟨q, q4⟩ := and_ok q
    obtain ⟨q, q3⟩ := and_ok q
    obtain ⟨q1, q2⟩ := and_ok q
    obtain ⟨h1, h2, h3⟩ := tgNames_ok h is _ q1
    have hg : PG W (.Tuple t.1 n q0) ((Tg.tup is).g W.K) := pg_tup h.calm h1 h2 h3
    exact PS.imp (ps_asg (X.sound x sc fn E W _ h q4).1 hg (by obtain ⟨a, b⟩ := t; cases b <;> first | rfl | cases q2) (stores_none q3)) ts_asg
  | .par i j x y, sc, fn, E, W, s, h, q => by
    obtain ⟨t, e1, q⟩ := optB_ok q
    obtain ⟨kt, pt, k2, pt2, p, rfl⟩ := asPar_eq e1
    obtain ⟨q, q6⟩ := and_ok q
    obtain ⟨q, q5⟩ := and_ok q
    obtain ⟨q, q4⟩ := and_ok q
    obtain ⟨q, q3⟩ := and_ok q
    obtain ⟨q1, q2⟩ := and_ok q
    obtain ⟨q4, c9⟩ := and_ok q4
    obtain ⟨q4, c8⟩ := and_ok q4
    obtain ⟨q4, c7⟩ := and_ok q4
    obtain ⟨q4, c6⟩ := and_ok q4
    obtain ⟨q4, c5⟩ := and_ok q4
    obtain ⟨q4, c4⟩ := and_ok q4
    obtain ⟨q4, c3⟩ := and_ok q4
    obtain ⟨c1, c2⟩ := and_ok q4
    have hs : W.env.scope = sc := h.hsc
    have ha : PA W [t.2.1, t.2.2] (tCons (TX W.K W.mg E (x.ev k.Γ)) (tCons (TX W.K W.mg E (y.ev k.Γ)) tNil)) := pa_cons (X.sound x sc fn E W _ h q5).1 (pa_cons (X.sound y sc fn E W _ h q6).1 pa_nil (star_cons c7)) (star_cons c6)
    refine PS.imp (ps_par h.calm (by rw [h.hN]; exact h.nd) (by rw [h.hN]; exact of_decide_eq_true q1) (by rw [h.hN]; exact of_decide_eq_true q2) (of_decide_eq_true q3) (by rw [hs]; exact isLoc_eq c2) (by rw [hs]; exact isLoc_eq c3) ha
      (par_stores (by rw [hs]; exact isFun_eq c1) (by rw [hs]; exact isLoc_eq c2) (by rw [hs]; exact isLoc_eq c3) c4 (by rw [Bool.not_eq_true'] at c5; exact c5) c6 c7 (by rw [Bool.not_eq_true'] at c8; exact c8) (by rw [Bool.not_eq_true'] at c9; exact c9))) ts_par
  | .setIx o i v, sc, fn, E, W, s, h, q => by
    obtain ⟨t, e1, q⟩ := optB_ok q
    obtain ⟨q0, p, rfl⟩ := asSetIx_eq e1
    obtain ⟨q, q4⟩ := and_ok q
    obtain ⟨q, q3⟩ := and_ok q
    obtain ⟨q1, q2⟩ := and_ok q
    have hg := pg_sub (pos := q0) (X.sound o sc fn E W _ h q2).1 (X.sound i sc fn E W _ h q3).1 set_list (fun v => by
      obtain ⟨a, b, c⟩ := t
      cases b <;> first | rfl | cases q1)
    have hsw : swapsWithSole [.Subscript t.1 t.2.1 q0] t.2.2 p.line W.env = pure false := by
      obtain ⟨a, b, c⟩ := t
      cases c <;> rfl
    exact PS.imp (ps_asg (X.sound v sc fn E W _ h q4).1 hg hsw) ts_setIx
  | .aug a i x, sc, fn, E, W, s, h, q => by
    obtain ⟨t, e1, q⟩ := optB_ok q
    obtain ⟨q0, p, rfl⟩ := asAug_eq e1
    obtain ⟨q, q4⟩ := and_ok q
    obtain ⟨q, q3⟩ := and_ok q
    obtain ⟨q1, q2⟩ := and_ok q
    obtain ⟨l1, l2⟩ := loc_ok h q2
    rw [← aoEq_ok q3]
    exact PS.imp (ps_aug (by rw [h.hN]; exact h.nd) (by rw [h.hN]; exact of_decide_eq_true q1) l1 (X.sound x sc fn E W _ h q4).1 a.ip l2) ts_aug
  | .augIx a o i x, sc, fn, E, W, s, h, q => by
    obtain ⟨t, e1, q⟩ := optB_ok q
    obtain ⟨q0, p, rfl⟩ := asAugIx_eq e1
    obtain ⟨q, q4⟩ := and_ok q
    obtain ⟨q, q3⟩ := and_ok q
    obtain ⟨q, q2⟩ := and_ok q
    obtain ⟨q1, q5⟩ := and_ok q
    obtain ⟨b, d, op, e⟩ := t
    have q1' := aoEq_ok q1
    subst q1'
    exact PS.imp (ps_augS (X.sound o sc fn E W _ h q2).1 (X.sound i sc fn E W _ h q3).1 get_list (X.sound x sc fn E W _ h q4).1 a.ip set_list (fun ov iv new => by cases d <;> first | rfl | cases q5)) ts_augIx
  | .ife c t f, sc, fn, E, W, s, h, q => by
    obtain ⟨u, e1, q⟩ := optB_ok q
    obtain ⟨p, rfl⟩ := asIf_eq e1
    obtain ⟨q, q3⟩ := and_ok q
    obtain ⟨q1, q2⟩ := and_ok q
    exact PS.imp (ps_if (X.sound c sc fn E W _ h q1).2 (S.sounds t sc fn E W _ h q2) (S.sounds f sc fn E W _ h q3)) ts_if
  | .for_ tg src body, sc, fn, E, W, s, h, q => by
    obtain ⟨u, e1, q⟩ := optB_ok q
    obtain ⟨p, rfl⟩ := asFor_eq e1
    obtain ⟨q, q4⟩ := and_ok q
    obtain ⟨q, q3⟩ := and_ok q
    obtain ⟨q1, q2⟩ := and_ok q
    exact PS.imp (ps_for h.own h.calm (Src.sound src sc fn E W _ _ h q3) (tg_sound h tg _ q2) (S.sounds body sc fn E W _ h q4) (set_ok q1 W.env)) ts_for
  | .wh c body, sc, fn, E, W, s, h, q => by
    obtain ⟨u, e1, q⟩ := optB_ok q
    obtain ⟨p, rfl⟩ := asWh_eq e1
    obtain ⟨q1, q2⟩ := and_ok q
    exact PS.imp (ps_while h.own (X.sound c sc fn E W _ h q1).2 (S.sounds body sc fn E W _ h q2)) ts_while
  | .pass, sc, fn, E, W, s, h, q => by
    obtain ⟨p, rfl⟩ := isPass_eq q
    exact PS.imp ps_pass ts_next
  | .kill is, sc, fn, E, W, s, h, q => by cases q
  | .never, sc, fn, E, W, s, h, q => PS.imp ps_never fun D σ H z => by
    obtain ⟨c, env, ρ, G, μ, hK, hm, re, eo, z⟩ := z
    exact z.elim
theorem S.sounds : ∀ (xs : List S) (sc : Scope) (fn : Str → Bool) (E : XK) (W : Cx) (st : List Stmt), CxOk k sc fn lv CX E W → S.oks k sc fn xs st = true → PSs W st (TSx W.K W.mg E (S.evs k.Γ xs))
  | [], sc, fn, E, W, st, h, q => by
    cases st with
    | nil => exact PSs.imp pss_nil ts_next
    | cons _ _ => cases q
  | x :: xs, sc, fn, E, W, st, h, q => by
    by_cases hk : ∃ is, x = .kill is
    · obtain ⟨is, rfl⟩ := hk
      exact PSs.imp (S.sounds xs sc fn E W st h q) ts_kill
    · cases st with
      | nil =>
        exfalso
        cases x <;> first | cases q | exact hk ⟨_, rfl⟩
      | cons t u =>
        have q' : (x.ok k sc fn t && S.oks k sc fn xs u) = true := by
          cases x <;> first | exact q | exact absurd ⟨_, rfl⟩ hk
        obtain ⟨q1, q2⟩ := and_ok q'
        exact PSs.imp (pss_cons (S.sound x sc fn E W t h q1) (S.sounds xs sc fn E W u h q2)) ts_seq
end
end
end Lv

set_option Elab.async false
set_option linter.all false
set_option maxRecDepth 100000
set_option autoImplicit false
/-! a def by its check -/
namespace Lv
open PySem PySem.Spec PyProof.Rows L2
theorem start_ok {c : Ct} {ρ : List Addr} {G : Hp} {N : List Str} : ∀ {ds : List D} {vs : List V}, Reps c.K c.B ρ G ds vs → EnvOk c ρ G (ds.map some ++ List.replicate (N.length - ds.length) none) (L2.start N vs) := by
  intro ds vs h
  have hl := h.length
  refine ⟨by unfold L2.start; rw [List.length_append, List.length_append, List.length_map, List.length_map, List.length_replicate, List.length_replicate, hl], fun i d e => ?_⟩
  by_cases hi : i < ds.length
  · rw [List.getElem?_append_left (by rw [List.length_map]; exact hi), List.getElem?_map] at e
    cases e1 : ds[i]? with
    | none =>
      rw [e1] at e
      cases e
    | some x =>
      rw [e1] at e
      cases e
      obtain ⟨v, q1, q2⟩ := h.get e1
      refine ⟨v, ?_, q2⟩
      unfold L2.start
      rw [List.getElem?_append_left (by rw [List.length_map, ← hl]; exact hi), List.getElem?_map, q1]
      rfl
  · rw [List.getElem?_append_right (by rw [List.length_map]; omega), List.getElem?_replicate] at e
    split at e <;> cases e
theorem Rel.none {c : Ct} {ρ : List Addr} {G H : Hp} {μ : Sto} (r : Rel c ρ G μ H) : Rel c [] G [] H :=
  ⟨r.gh, r.bh, r.ph, r.tp, r.g0, r.nw, fun a o q => ⟨(r.gp a o q).1, List.not_mem_nil, (r.gp a o q).2.2⟩, rfl, List.nodup_nil, fun n a x e => by simp at e⟩
section
variable {P : Program} {w : World} {K : PySem.W.Frag} {mg : Str → Option Value} {base : Heap}
theorem run_ts {Γ : List (Nat × Fn)} {N : List Str} {body : List S} {nme : Str} {ps : List Str} {bo : List Bool} {dn : Nat} {vs : List V} {H : Hp} {Q : VK} {E : XK} (h : Fn.sp K mg ⟨nme, ps, bo, dn, runDef Γ N body⟩ vs H Q E) :
    TSx K mg E (S.evs Γ body) { nx := fun _ H' => Q .non H', rt := Q } (L2.start N vs) H := by
  obtain ⟨hl, G, ds, gh, tp, hr, h⟩ := h
  refine ⟨⟨K, mg, H, G, fun _ => none⟩, _, [], G, [], rfl, rfl, ⟨gh, Same.refl _, fun _ _ e => (nomatch e), tp, Same.refl _, fun a o e => .inl e, fun _ _ e => (nomatch e), rfl, List.nodup_nil, fun n a x e => by simp at e⟩, start_ok hr, ?_⟩
  have h' : match runDef Γ N body ds with
    | none => False
    | some (.ok (d, μ)) => ∀ v ρ G' H', Same G G' → Rel ⟨K, mg, H, G, fun _ => none⟩ ρ G' μ H' → Rep K H ρ G' d v → Q v H'
    | some (.error x) => ∀ G' H' cls da, Aft G H G' H' → ErrOk mg x cls da H' → E cls da H' := h
  unfold runDef at h'
  cases e : S.evs Γ body (ds.map some ++ List.replicate (N.length - ds.length) none) [] with
  | none =>
    rw [e] at h'
    exact h'
  | some r =>
    rw [e] at h'
    cases r with
    | error p =>
      obtain ⟨x, μ'⟩ := p
      exact fun ρ' G' H' cls da _ s r' q => h' G' H' cls da (aft_of s r') q
    | ok p =>
      obtain ⟨fl, μ'⟩ := p
      cases fl with
      | nx env => exact fun ρ' G' H' _ s r' σ _ => h' .non [] G' H' s r'.none rfl
      | rt d =>
        have h2 : ∀ v ρ G' H', Same G G' → Rel ⟨K, mg, H, G, fun _ => none⟩ ρ G' (if d.clean = true then [] else μ') H' → Rep K H ρ G' d v → Q v H' := h'
        by_cases hc : d.clean = true
        · rw [if_pos hc] at h2
          exact fun ρ' G' H' _ s r' v hv => h2 v [] G' H' s r'.none (Rep.clean d v hc hv)
        · rw [if_neg hc] at h2
          exact fun ρ' G' H' _ s r' v hv => h2 v ρ' G' H' s r' hv
/-- what a law's defs rest on -/
structure TxtOk (P : Program) (w : World) (K : PySem.W.Frag) (mg : Str → Option Value) (base : Heap) (CX : CXT) (lv : Nat) (k : Ck) : Prop where
  fns : ∀ i F, (i, F) ∈ k.Γ → ∃ f fd, mg F.name = some (.ref f) ∧ PySem.W.keepIn K (.ref f) = true ∧ (∀ j, j ≤ F.dn → Binds K fd F.ps (List.replicate j .none)) ∧ FnOk P w K mg base CX lv f fd F.ps (F.sp K mg)
  blt : ∀ b ∈ k.bs, mg b = none
  cst : ∀ x d, k.cs.lookup x = some d → ∃ u v, mg x = some u ∧ scv d = some v ∧ RelV v u
theorem TxtOk.nil {P : Program} {w : World} {K : PySem.W.Frag} {mg : Str → Option Value} {base : Heap} {CX : CXT} {lv : Nat} {N : List Str} {bs : List Str} {cs : List (Str × D)} (blt : ∀ b ∈ bs, mg b = none)
    (cst : ∀ x d, cs.lookup x = some d → ∃ u v, mg x = some u ∧ scv d = some v ∧ RelV v u) : TxtOk P w K mg base CX lv ⟨N, [], bs, cs⟩ := ⟨fun _ _ h => (nomatch h), blt, cst⟩
/-- one def more -/
theorem TxtOk.cons {CX : CXT} {lv : Nat} {N : List Str} {Γ : List (Nat × Fn)} {bs : List Str} {cs : List (Str × D)} {i : Nat} {F : Fn} {f : Addr} {fd : FuncData} (T : TxtOk P w K mg base CX lv ⟨N, Γ, bs, cs⟩) (h1 : mg F.name = some (.ref f)) (h2 : PySem.W.keepIn K (.ref f) = true)
    (h3 : ∀ j, j ≤ F.dn → Binds K fd F.ps (List.replicate j .none)) (h4 : FnOk P w K mg base CX (lv + 1) f fd F.ps (F.sp K mg)) : TxtOk P w K mg base CX (lv + 1) ⟨N, (i, F) :: Γ, bs, cs⟩ :=
  ⟨fun j X hx => by
    rcases List.mem_cons.mp hx with q | q
    · cases q
      exact ⟨f, fd, h1, h2, h3, h4⟩
    · obtain ⟨g, gd, w1, w2, w3, w4⟩ := T.fns j X q
      exact ⟨g, gd, w1, w2, w3, w4.mono (Nat.le_succ lv)⟩, T.blt, T.cst⟩
theorem TxtOk.names {CX : CXT} {lv : Nat} {k : Ck} (T : TxtOk P w K mg base CX lv k) (N : List Str) : TxtOk P w K mg base CX lv ⟨N, k.Γ, k.bs, k.cs⟩ := ⟨T.fns, T.blt, T.cst⟩
theorem def_ok {x qual : Str} {st : Stmt} {f : Addr} {fd : FuncData} {lv : Nat} {k : Ck} {body : List S} {nme : Str} {ps : List Str} {bo : List Bool} {dn : Nat} (F : Fun K x qual st f fd) (Sc : FnScope k.N ps (defScope st)) (T : TxtOk P w K mg base CX0 lv k)
    (chk : S.oks k (defScope st) (fun _ => true) body (defBody st) = true) : FnOk P w K mg base CX0 (lv + 1) f fd ps (Fn.sp K mg ⟨nme, ps, bo, dn, runDef k.Γ k.N body⟩) := by
  refine F.ok Sc (fun vs H Q E h => h.1) fun cdv A outer s H vs Q E hr h => ⟨_, S.sounds body (defScope st) (fun _ => true) E _ (defBody st)
    { hN := rfl, nd := Sc.nd, hsc := rfl, calm := rfl, room := hr, pass := (fun _ _ _ _ _ _ _ h => h.elim), p0 := fun _ => (fun _ _ _ _ _ _ _ h => h.elim), own := PassesOwn.never, fns := T.fns, blt := T.blt, cst := T.cst, fnx := fun _ _ => rfl } chk, run_ts h⟩
end
end Lv

set_option Elab.async false
set_option linter.all false
set_option maxRecDepth 100000
set_option autoImplicit false
/-! what a run gives, step by step -/
namespace Lv
open PySem PySem.Spec PyProof.Rows

def Ok {α : Type} (r : R α) (P : α → Sto → Prop) : Prop := match r with
  | some (.ok (a, μ)) => P a μ
  | _ => False
section
variable {α β : Type} {P : α → Sto → Prop} {μ : Sto} {Γ : List (Nat × Fn)} {env : Env}
theorem Ok_ok (a : α) : Ok (ok a μ) P = P a μ := rfl
theorem Ok_none : Ok (none : R α) P = False := rfl
theorem Ok_rb (r : R β) (k : β → Sto → R α) : Ok (rb r k) P = Ok r fun a μ1 => Ok (k a μ1) P := by
  cases r with
  | none => rfl
  | some e =>
    cases e with
    | error x => rfl
    | ok p => rfl
theorem Ok_guard (c : Prop) [Decidable c] (r : R α) : Ok (if c then r else none) P = (c ∧ Ok r P) := by
  by_cases h : c
  · rw [if_pos h]
    simp [h]
  · rw [if_neg h]
    simp [h, Ok_none]
theorem Ok.imp {r : R α} {Q : α → Sto → Prop} (h : Ok r P) (q : ∀ a μ, P a μ → Q a μ) : Ok r Q := by
  match r, h with
  | some (.ok (a, μ)), h => exact q a μ h
theorem Ok.elim {r : R α} (h : Ok r P) : ∃ a μ', r = ok a μ' ∧ P a μ' := by
  match r, h with
  | some (.ok (a, μ)), h => exact ⟨a, μ, rfl, h⟩
theorem Ok.noErr {r : R α} (h : Ok r P) : Ok (Lv.noErr r) P := by
  match r, h with
  | some (.ok (a, μ)), h => exact h
end

/-! statements -/
def seqP (Γ : List (Nat × Fn)) (r : List S) (P : Fl → Sto → Prop) : Fl → Sto → Prop := fun fl μ => match fl with
  | .nx e => Ok (S.evs Γ r e μ) P
  | .rt d => P (.rt d) μ
section
variable {P : Fl → Sto → Prop} {Q : D → Sto → Prop} {QL : List D → Sto → Prop} {QI : Sr → Sto → Prop} {μ : Sto} {Γ : List (Nat × Fn)} {env : Env} {d : D} {r : List S}
theorem seqP_nx : seqP Γ r P (.nx env) μ = Ok (S.evs Γ r env μ) P := rfl
theorem seqP_rt : seqP Γ r P (.rt d) μ = P (.rt d) μ := rfl
theorem o_nil : Ok (S.evs Γ [] env μ) P = P (.nx env) μ := rfl
theorem o_cons (s : S) : Ok (S.evs Γ (s :: r) env μ) P = Ok (S.ev Γ s env μ) (seqP Γ r P) := by
  show Ok (rb (S.ev Γ s env μ) _) P = _
  rw [Ok_rb]
  congr 1
  funext fl μ1
  cases fl <;> rfl
theorem o_ret (x : X) : Ok (S.ev Γ (.ret x) env μ) P = Ok (x.ev Γ env μ) fun d μ1 => P (.rt d) μ1 := by
  show Ok (rb (x.ev Γ env μ) _) P = _
  rw [Ok_rb]
  rfl
theorem o_expr (x : X) : Ok (S.ev Γ (.expr x) env μ) P = Ok (x.ev Γ env μ) fun _ μ1 => P (.nx env) μ1 := by
  show Ok (rb (x.ev Γ env μ) _) P = _
  rw [Ok_rb]
  rfl
theorem o_set (i : Nat) (x : X) : Ok (S.ev Γ (.set i x) env μ) P = Ok (x.ev Γ env μ) fun d μ1 => P (.nx (env.set i (some d))) μ1 := by
  show Ok (rb (x.ev Γ env μ) _) P = _
  rw [Ok_rb]
  rfl
theorem o_asg (is : List Nat) (x : X) : Ok (S.ev Γ (.asg is x) env μ) P = Ok (x.ev Γ env μ) fun d μ1 => ∃ ds, d = .tup ds ∧ ds.length = is.length ∧ P (.nx (sets is ds env)) μ1 := by
  show Ok (rb (x.ev Γ env μ) _) P = _
  rw [Ok_rb]
  congr 1
  funext d μ1
  show Ok (match Tg.bind (.tup is) d env with
    | some e => ok (.nx e) μ1
    | none => none) P = _
  cases d with
  | tup ds =>
    show Ok (match (if ds.length = is.length then some (sets is ds env) else none) with
      | some e => ok (.nx e) μ1
      | none => none) P = _
    by_cases h : ds.length = is.length
    · rw [if_pos h]
      simp [h, Ok_ok]
    · rw [if_neg h]
      simp [h, Ok_none]
  | _ => simp [Tg.bind, Ok_none]
theorem o_ife (c : X) (a b : List S) : Ok (S.ev Γ (.ife c a b) env μ) P = Ok (c.ev Γ env μ) fun d μ1 => ∃ t, d = .bl t ∧ (t = true → Ok (S.evs Γ a env μ1) P) ∧ (t = false → Ok (S.evs Γ b env μ1) P) := by
  show Ok (rb (c.ev Γ env μ) _) P = _
  rw [Ok_rb]
  congr 1
  funext d μ1
  cases d with
  | bl t => cases t <;> simp
  | _ => simp [Ok_none]
theorem o_setIx (o i v : X) : Ok (S.ev Γ (.setIx o i v) env μ) P = Ok (v.ev Γ env μ) fun d μ1 => Ok (o.ev Γ env μ1) fun o μ2 => Ok (i.ev Γ env μ2) fun i μ3 => Ok (dSet o i d μ3) fun _ μ4 => P (.nx env) μ4 := by
  show Ok (rb (v.ev Γ env μ) _) P = _
  simp only [Ok_rb, Ok_ok]
theorem o_aug (a : Aop) (i : Nat) (x : X) : Ok (S.ev Γ (.aug a i x) env μ) P = Ok (fVar i env μ) fun x0 _ => Ok (x.ev Γ env μ) fun y μ1 => Ok (a.d x0 y μ1) fun z μ2 => P (.nx (env.set i (some z))) μ2 := by
  show Ok (rb (fVar i env μ) _) P = _
  simp only [Ok_rb, Ok_ok]
theorem o_augIx (a : Aop) (o i x : X) : Ok (S.ev Γ (.augIx a o i x) env μ) P = Ok (o.ev Γ env μ) fun o μ1 => Ok (i.ev Γ env μ1) fun i μ2 => Ok (dIxL o i μ2) fun w μ3 => Ok (x.ev Γ env μ3) fun y μ4 => Ok (a.d w y μ4) fun z μ5 => Ok (dSet o i z μ5) fun _ μ6 => P (.nx env) μ6 := by
  show Ok (rb (o.ev Γ env μ) _) P = _
  simp only [Ok_rb, Ok_ok]
theorem o_kill (is : List Nat) : Ok (S.ev Γ (.kill is) env μ) P = P (.nx (is.foldl (fun e i => e.set i none) env)) μ := rfl
theorem o_pass : Ok (S.ev Γ .pass env μ) P = P (.nx env) μ := rfl
theorem o_retN : Ok (S.ev Γ .retN env μ) P = P (.rt .non) μ := rfl

/-! expressions -/
theorem o_var (i : Nat) : Ok (X.ev Γ (.var i) env μ) Q = Ok (fVar i env μ) Q := rfl
theorem o_fvar (i : Nat) (h : env[i]? = some (some d)) : Ok (fVar i env μ) Q = Q d μ := by
  unfold fVar
  rw [h]
  rfl
theorem o_int (i : Int) : Ok (X.ev Γ (.int i) env μ) Q = Q (.int i) μ := rfl
theorem o_bl (i : Bool) : Ok (X.ev Γ (.bl i) env μ) Q = Q (.bl i) μ := rfl
theorem o_non : Ok (X.ev Γ .non env μ) Q = Q .non μ := rfl
theorem o_str (x : Str) : Ok (X.ev Γ (.str x) env μ) Q = Q (.str x) μ := rfl
theorem o_cst (x : Str) (d : D) : Ok (X.ev Γ (.cst x d) env μ) Q = Q d μ := rfl
theorem o_bin (b : Bop) (lv : Bool) (x y : X) : Ok (X.ev Γ (.bin b lv x y) env μ) Q = Ok (x.ev Γ env μ) fun d μ1 => Ok (y.ev Γ env μ1) fun e μ2 => Ok (b.d lv d e μ2) Q := by
  show Ok (rb (x.ev Γ env μ) _) Q = _
  simp only [Ok_rb, Ok_ok]
theorem o_neg (x : X) : Ok (X.ev Γ (.neg x) env μ) Q = Ok (x.ev Γ env μ) fun d μ1 => Ok (dNeg d μ1) Q := by
  show Ok (rb (x.ev Γ env μ) _) Q = _
  rw [Ok_rb]
theorem o_cmp (k : Cmp) (x y : X) : Ok (X.ev Γ (.cmp k x y) env μ) Q = Ok (x.ev Γ env μ) fun d μ1 => Ok (y.ev Γ env μ1) fun e μ2 => Ok (dCmp k d e μ2) Q := by
  show Ok (rb (x.ev Γ env μ) _) Q = _
  simp only [Ok_rb, Ok_ok]
theorem o_chain (k k' : Cmp) (x y z : X) : Ok (X.ev Γ (.chain k k' x y z) env μ) Q = Ok (x.ev Γ env μ) fun d μ1 => Ok (y.ev Γ env μ1) fun e μ2 => Ok (dCmp k d e μ2) fun t μ3 => ∃ b, t = .bl b ∧ (b = true → Ok (z.ev Γ env μ3) fun g μ4 => Ok (dCmp k' e g μ4) Q) ∧ (b = false → Q (.bl false) μ3) := by
  show Ok (rb (x.ev Γ env μ) _) Q = _
  simp only [Ok_rb, Ok_ok]
  congr 1
  funext d μ1
  congr 1
  funext e μ2
  congr 1
  funext t μ3
  cases t with
  | bl b => cases b <;> simp [Ok_rb, Ok_ok]
  | _ => simp [Ok_none]
theorem o_isN (x : X) : Ok (X.ev Γ (.isN x) env μ) Q = Ok (x.ev Γ env μ) fun d μ1 => Ok (dIsN d μ1) Q := by
  show Ok (rb (x.ev Γ env μ) _) Q = _
  rw [Ok_rb]
theorem o_notN (x : X) : Ok (X.ev Γ (.notN x) env μ) Q = Ok (x.ev Γ env μ) fun d μ1 => Ok (dNotN d μ1) Q := by
  show Ok (rb (x.ev Γ env μ) _) Q = _
  rw [Ok_rb]
theorem o_and (xs : List X) : Ok (X.ev Γ (.and xs) env μ) Q = Ok (X.evAnd Γ xs env μ) Q := rfl
theorem o_or (xs : List X) : Ok (X.ev Γ (.or xs) env μ) Q = Ok (X.evOr Γ xs env μ) Q := rfl
theorem o_and1 (x : X) : Ok (X.evAnd Γ [x] env μ) Q = Ok (x.ev Γ env μ) Q := rfl
theorem o_or1 (x : X) : Ok (X.evOr Γ [x] env μ) Q = Ok (x.ev Γ env μ) Q := rfl
theorem o_and2 (x y : X) (r : List X) : Ok (X.evAnd Γ (x :: y :: r) env μ) Q = Ok (x.ev Γ env μ) fun d μ1 => ∃ t, d = .bl t ∧ (t = true → Ok (X.evAnd Γ (y :: r) env μ1) Q) ∧ (t = false → Q (.bl false) μ1) := by
  show Ok (rb (x.ev Γ env μ) _) Q = _
  rw [Ok_rb]
  congr 1
  funext d μ1
  cases d with
  | bl t => cases t <;> simp [Ok_ok]
  | _ => simp [Ok_none]
theorem o_or2 (x y : X) (r : List X) : Ok (X.evOr Γ (x :: y :: r) env μ) Q = Ok (x.ev Γ env μ) fun d μ1 => ∃ t, d = .bl t ∧ (t = true → Q (.bl true) μ1) ∧ (t = false → Ok (X.evOr Γ (y :: r) env μ1) Q) := by
  show Ok (rb (x.ev Γ env μ) _) Q = _
  rw [Ok_rb]
  congr 1
  funext d μ1
  cases d with
  | bl t => cases t <;> simp [Ok_ok]
  | _ => simp [Ok_none]
theorem o_not (x : X) : Ok (X.ev Γ (.not x) env μ) Q = Ok (x.ev Γ env μ) fun d μ1 => Ok (dNot d μ1) Q := by
  show Ok (rb (x.ev Γ env μ) _) Q = _
  rw [Ok_rb]
theorem o_lst (lv : Bool) (xs : List X) : Ok (X.ev Γ (.lst lv xs) env μ) Q = Ok (X.evs Γ xs env μ) fun ds μ1 => Ok (dLst lv ds μ1) Q := by
  show Ok (rb (X.evs Γ xs env μ) _) Q = _
  rw [Ok_rb]
theorem o_tup (xs : List X) : Ok (X.ev Γ (.tup xs) env μ) Q = Ok (X.evs Γ xs env μ) fun ds μ1 => Ok (dTup ds μ1) Q := by
  show Ok (rb (X.evs Γ xs env μ) _) Q = _
  rw [Ok_rb]
theorem o_ix (x y : X) : Ok (X.ev Γ (.ix x y) env μ) Q = Ok (x.ev Γ env μ) fun d μ1 => Ok (y.ev Γ env μ1) fun e μ2 => Ok (dIx d e μ2) Q := by
  show Ok (rb (x.ev Γ env μ) _) Q = _
  simp only [Ok_rb]
theorem o_slice (lv : Bool) (x : X) (lo hi : List X) : Ok (X.ev Γ (.slice lv x lo hi) env μ) Q = Ok (x.ev Γ env μ) fun d μ1 => Ok (fPart (X.evo Γ lo) env μ1) fun l μ2 => Ok (fPart (X.evo Γ hi) env μ2) fun u μ3 => Ok (dSlice lv d l u μ3) Q := by
  show Ok (rb (x.ev Γ env μ) _) Q = _
  simp only [Ok_rb]
theorem o_part0 {P : Option Int → Sto → Prop} : Ok (fPart (X.evo Γ []) env μ) P = P none μ := rfl
theorem o_part1 {P : Option Int → Sto → Prop} (x : X) : Ok (fPart (X.evo Γ [x]) env μ) P = Ok (x.ev Γ env μ) fun d μ1 => ∃ i, d = .int i ∧ P (some i) μ1 := by
  show Ok (rb (x.ev Γ env μ) _) P = _
  rw [Ok_rb]
  congr 1
  funext d μ1
  cases d with
  | int i => simp [Ok_ok]
  | _ => simp [Ok_none]
theorem o_call (f dn : Nat) (fz : Bool) (xs : List X) : Ok (X.ev Γ (.call f dn fz xs) env μ) Q = Ok (X.evs Γ xs env μ) fun ds μ1 => Ok (fnth Γ f dn fz ds μ1) Q := by
  show Ok (rb (X.evs Γ xs env μ) _) Q = _
  rw [Ok_rb]
theorem o_bi (b : BI) (lv : Bool) (xs : List X) : Ok (X.ev Γ (.bi b lv xs) env μ) Q = Ok (X.evs Γ xs env μ) fun ds μ1 => Ok (b.d lv ds μ1) Q := by
  show Ok (rb (X.evs Γ xs env μ) _) Q = _
  rw [Ok_rb]
theorem o_isi (t : Ty) (x : X) : Ok (X.ev Γ (.isi t x) env μ) Q = Ok (x.ev Γ env μ) fun d μ1 => Ok (dIsi t d μ1) Q := by
  show Ok (rb (x.ev Γ env μ) _) Q = _
  rw [Ok_rb]
theorem o_frz (x : X) : Ok (X.ev Γ (.frz x) env μ) Q = Ok (x.ev Γ env μ) fun d μ1 => Ok (dFrz d μ1) Q := by
  show Ok (rb (x.ev Γ env μ) _) Q = _
  rw [Ok_rb]
theorem o_rev (lv : Bool) (x : X) : Ok (X.ev Γ (.rev lv x) env μ) Q = Ok (x.ev Γ env μ) fun d μ1 => Ok (dRev lv d μ1) Q := by
  show Ok (rb (x.ev Γ env μ) _) Q = _
  rw [Ok_rb]
theorem o_isB (neg : Bool) (x : X) (b : Bool) : Ok (X.ev Γ (.isB neg x b) env μ) Q = Ok (x.ev Γ env μ) fun d μ1 => Ok (dIsB neg d (.bl b) μ1) Q := by
  show Ok (rb (x.ev Γ env μ) _) Q = _
  rw [Ok_rb]
  rfl
theorem o_lrg (lv : Bool) (xs : List X) : Ok (X.ev Γ (.lrg lv xs) env μ) Q = Ok (X.evs Γ xs env μ) fun ds μ1 => Ok (dLrg lv ds μ1) Q := by
  show Ok (rb (X.evs Γ xs env μ) _) Q = _
  rw [Ok_rb]
theorem o_par (i j : Nat) (x y : X) : Ok (S.ev Γ (.par i j x y) env μ) P = Ok (x.ev Γ env μ) fun d μ1 => Ok (y.ev Γ env μ1) fun e μ2 => P (.nx ((env.set i (some d)).set j (some e))) μ2 := by
  show Ok (rb (x.ev Γ env μ) _) P = _
  simp only [Ok_rb, Ok_ok]
theorem o_mth0 (m : Mth) (x : X) : Ok (X.ev Γ (.mth m x []) env μ) Q = Ok (x.ev Γ env μ) fun d μ1 => isList μ1 d = true ∧ Ok (dMth m d [] μ1) Q := by
  show Ok (rb (x.ev Γ env μ) _) Q = _
  rw [Ok_rb]
  simp only [Ok_guard]
theorem o_mth (m : Mth) (x y : X) (ys : List X) : Ok (X.ev Γ (.mth m x (y :: ys)) env μ) Q = Ok (x.ev Γ env μ) fun d μ1 => isList μ1 d = true ∧ Ok (X.evs Γ (y :: ys) env μ1) fun ds μ2 => Ok (dMth m d ds μ2) Q := by
  show Ok (rb (x.ev Γ env μ) _) Q = _
  rw [Ok_rb]
  simp only [Ok_guard, Ok_rb]
theorem o_evs0 : Ok (X.evs Γ [] env μ) QL = QL [] μ := rfl
theorem o_evs1 (x : X) (r : List X) : Ok (X.evs Γ (x :: r) env μ) QL = Ok (x.ev Γ env μ) fun d μ1 => Ok (X.evs Γ r env μ1) fun ds μ2 => QL (d :: ds) μ2 := by
  show Ok (rb (x.ev Γ env μ) _) QL = _
  simp only [Ok_rb, Ok_ok]
theorem o_slst (x : X) : Ok (Src.ev Γ (.lst x) env μ) QI = Ok (x.ev Γ env μ) fun d μ1 => Ok (dSrc d μ1) QI := by
  show Ok (rb (x.ev Γ env μ) _) QI = _
  rw [Ok_rb]
theorem o_stup (x : X) : Ok (Src.ev Γ (.tup x) env μ) QI = Ok (x.ev Γ env μ) fun d μ1 => Ok (dSrcT d μ1) QI := by
  show Ok (rb (x.ev Γ env μ) _) QI = _
  rw [Ok_rb]
theorem o_rng (xs : List X) : Ok (Src.ev Γ (.rng xs) env μ) QI = Ok (X.evs Γ xs env μ) fun ds μ1 => Ok (dRng ds μ1) QI := by
  show Ok (rb (X.evs Γ xs env μ) _) QI = _
  rw [Ok_rb]
theorem o_enum (x : X) : Ok (Src.ev Γ (.enum x) env μ) QI = Ok (x.ev Γ env μ) fun d μ1 => Ok (dEnum [d] μ1) QI := by
  show Ok (rb (fCons (x.ev Γ) fNil env μ) _) QI = _
  rw [rb_one, Ok_rb]
theorem o_enumT (x : X) : Ok (Src.ev Γ (.enumT x) env μ) QI = Ok (x.ev Γ env μ) fun d μ1 => Ok (dEnumT [d] μ1) QI := by
  show Ok (rb (fCons (x.ev Γ) fNil env μ) _) QI = _
  rw [rb_one, Ok_rb]
theorem o_lset (x : X) : Ok (X.ev Γ (.lset x) env μ) Q = Ok (x.ev Γ env μ) fun d μ1 => Ok (dLSet d μ1) Q := by
  show Ok (rb (x.ev Γ env μ) _) Q = _
  rw [Ok_rb]
theorem o_srtP (lv : Bool) (xs : List X) : Ok (X.ev Γ (.srtP lv xs) env μ) Q = Ok (X.evs Γ xs env μ) fun ds μ1 => Ok (dSortP lv ds μ1) Q := by
  show Ok (rb (X.evs Γ xs env μ) _) Q = _
  rw [Ok_rb]
theorem o_zip (x y : X) : Ok (Src.ev Γ (.zip x y) env μ) QI = Ok (x.ev Γ env μ) fun d μ1 => Ok (y.ev Γ env μ1) fun e μ2 => Ok (dZip [d, e] μ2) QI := by
  show Ok (rb (fCons (x.ev Γ) (fCons (y.ev Γ) fNil) env μ) _) QI = _
  rw [rb_two, Ok_rb]
  simp only [Ok_rb]
end

/-! operations -/
section
variable {Q : D → Sto → Prop} {QI : Sr → Sto → Prop} {μ : Sto} {i j : Int} {lv b b' : Bool} {xs ys : List D}
theorem p_add : Ok (Bop.d lv .add (.int i) (.int j) μ) Q = Q (.int (i + j)) μ := rfl
theorem p_addL : Ok (Bop.d lv .add (.lst b xs) (.lst b' ys) μ) Q = (xs.length + ys.length ≤ LIM ∧ Ok (alloc lv (xs ++ ys) μ) Q) := by
  show Ok (if xs.length + ys.length ≤ LIM then alloc lv (xs ++ ys) μ else none) Q = _
  rw [Ok_guard]
theorem p_addT : Ok (Bop.d lv .add (.tup xs) (.tup ys) μ) Q = (xs.length + ys.length ≤ LIM ∧ Q (.tup (xs ++ ys)) μ) := by
  show Ok (if xs.length + ys.length ≤ LIM then ok (.tup (xs ++ ys)) μ else none) Q = _
  rw [Ok_guard, Ok_ok]
theorem p_sub : Ok (Bop.d lv .sub (.int i) (.int j) μ) Q = Q (.int (i - j)) μ := rfl
theorem p_mul : Ok (Bop.d lv .mul (.int i) (.int j) μ) Q = (mulOk i j = true ∧ Q (.int (i * j)) μ) := by
  show Ok (if mulOk i j = true then ok (.int (i * j)) μ else none) Q = _
  rw [Ok_guard, Ok_ok]
theorem p_mulL : Ok (Bop.d lv .mul (.lst b xs) (.int j) μ) Q = ((j.natAbs ≤ LIM ∧ xs.length * j.toNat ≤ LIM) ∧ Ok (alloc lv (List.replicate j.toNat xs).flatten μ) Q) := by
  show Ok (if j.natAbs ≤ LIM ∧ xs.length * j.toNat ≤ LIM then alloc lv (List.replicate j.toNat xs).flatten μ else none) Q = _
  rw [Ok_guard]
theorem p_div : Ok (Bop.d lv .div (.int i) (.int j) μ) Q = ((0 < j ∧ fits j = true) ∧ Q (.int (i / j)) μ) := by
  show Ok (if (decide (0 < j) && fits j) = true then ok (.int (i / j)) μ else none) Q = _
  rw [Ok_guard, Ok_ok, Bool.and_eq_true, decide_eq_true_iff]
theorem p_mod : Ok (Bop.d lv .mod (.int i) (.int j) μ) Q = (0 < j ∧ Q (.int (i % j)) μ) := by
  show Ok (if 0 < j then ok (.int (i % j)) μ else none) Q = _
  rw [Ok_guard, Ok_ok]
theorem p_pow : Ok (Bop.d lv .pow (.int i) (.int j) μ) Q = (((0 ≤ j ∧ j ≤ 1000) ∧ fits i = true) ∧ Q (.int (i ^ j.toNat)) μ) := by
  show Ok (if (decide (0 ≤ j) && decide (j ≤ 1000) && fits i) = true then ok (.int (i ^ j.toNat)) μ else none) Q = _
  rw [Ok_guard, Ok_ok, Bool.and_eq_true, Bool.and_eq_true, decide_eq_true_iff, decide_eq_true_iff]
theorem p_neg : Ok (dNeg (.int i) μ) Q = Q (.int (-i)) μ := rfl
theorem p_alF : Ok (alloc false xs μ) Q = Q (.lst false xs) μ := rfl
theorem p_alT : Ok (alloc true xs μ) Q = Q (.ref μ.length) (μ ++ [.lst .live xs]) := rfl
theorem p_lst : Ok (dLst lv xs μ) Q = (xs.length ≤ LIM ∧ Ok (alloc lv xs μ) Q) := by
  show Ok (if xs.length ≤ LIM then alloc lv xs μ else none) Q = _
  rw [Ok_guard]
theorem p_tup : Ok (dTup xs μ) Q = (xs.length ≤ LIM ∧ Q (.tup xs) μ) := by
  show Ok (if xs.length ≤ LIM then ok (.tup xs) μ else none) Q = _
  rw [Ok_guard, Ok_ok]
theorem p_not (t : Bool) : Ok (dNot (.bl t) μ) Q = Q (.bl (!t)) μ := rfl
end
/-! the typed data -/
def oi : Option Int → D
  | none => .non
  | some i => .int i
def oP : Option Int → PyData
  | none => .none
  | some i => .int i
def row (b : Bool) (r : List Int) : D := .lst b (r.map .int)
def rP (r : List Int) : PyData := .list (r.map .int)
section
variable {μ : Sto} {n : Nat} {α : Type}
theorem atI_map {β : Type} (f : α → β) (xs : List α) (i : Int) : L2.atI (xs.map f) i = (L2.atI xs i).map f := by
  unfold L2.atI
  rw [List.length_map]
  cases L2.ixN xs.length i with
  | none => rfl
  | some j => simp
theorem atI_pos {xs : List α} {i : Int} (h : 0 ≤ i) (h' : i < xs.length) : L2.atI xs i = some (xs[i.toNat]'(by omega)) := by
  unfold L2.atI L2.ixN
  rw [if_pos h, if_pos h']
  show xs[i.toNat]? = _
  rw [List.getElem?_eq_getElem]
theorem omap_id {β : Type} {f : β → Option β} {xs : List β} (h : ∀ x ∈ xs, f x = some x) : omap f xs = some xs := by
  induction xs with
  | nil => rfl
  | cons x r ih =>
    show (match f x, omap f r with
      | some y, some s => some (y :: s)
      | _, _ => none) = _
    rw [h x List.mem_cons_self, ih fun y hy => h y (List.mem_cons_of_mem _ hy)]
theorem omap_nil {β γ : Type} (f : β → Option γ) : omap f [] = some [] := rfl
theorem omap_cons {β γ : Type} (f : β → Option γ) (x : β) (r : List β) : omap f (x :: r) = (f x).bind fun y => (omap f r).map (y :: ·) := by
  show (match f x, omap f r with
    | some y, some s => some (y :: s)
    | _, _ => none) = _
  cases f x with
  | none => rfl
  | some y =>
    cases omap f r with
    | none => rfl
    | some s => rfl
theorem omap_app {β γ : Type} (f : β → Option γ) (xs ys : List β) : omap f (xs ++ ys) = (omap f xs).bind fun a => (omap f ys).map (a ++ ·) := by
  induction xs with
  | nil => cases e : omap f ys <;> simp [omap_nil, e]
  | cons x r ih =>
    rw [List.cons_append, omap_cons, omap_cons, ih]
    cases f x with
    | none => rfl
    | some y =>
      cases omap f r with
      | none => rfl
      | some s =>
        cases omap f ys with
        | none => rfl
        | some t => rfl
theorem omap_rep {β γ : Type} {f : β → Option γ} {x : β} {y : γ} (h : f x = some y) : ∀ n : Nat, omap f (List.replicate n x) = some (List.replicate n y)
  | 0 => rfl
  | n + 1 => by
    rw [List.replicate_succ, omap_cons, h, omap_rep h n]
    rfl
/-! lent -/
theorem le_int (i : Int) : lend μ n (.int i) = some (.int i) := by cases n <;> rfl
theorem le_bl (i : Bool) : lend μ n (.bl i) = some (.bl i) := by cases n <;> rfl
theorem le_non : lend μ n .non = some .non := by cases n <;> rfl
theorem le_str (x : Str) : lend μ n (.str x) = some (.str x) := by cases n <;> rfl
theorem le_scr (x : List Int) : lend μ n (.scr x) = some (.scr x) := by cases n <;> rfl
theorem le_oi (o : Option Int) : lend μ n (oi o) = some (oi o) := by cases o <;> cases n <;> rfl
theorem le_lst (b : Bool) (xs : List D) : lend μ (n + 1) (.lst b xs) = (omap (lend μ n) xs).map (.lst true) := rfl
theorem le_tup (xs : List D) : lend μ (n + 1) (.tup xs) = (omap (lend μ n) xs).map .tup := rfl
theorem le_ints (xs : List Int) : omap (lend μ n) (xs.map D.int) = some (xs.map D.int) := omap_map (fun i => le_int i) xs
theorem le_bls (xs : List Bool) : omap (lend μ n) (xs.map D.bl) = some (xs.map D.bl) := omap_map (fun i => le_bl i) xs
theorem le_ois (xs : List (Option Int)) : omap (lend μ n) (xs.map oi) = some (xs.map oi) := omap_map (fun i => le_oi i) xs
theorem le_row (b : Bool) (r : List Int) : lend μ (n + 1) (row b r) = some (row true r) := by
  unfold row
  rw [le_lst, le_ints]
  rfl
theorem le_rows (b : Bool) (t : List (List Int)) : omap (lend μ (n + 1)) (t.map (row b)) = some (t.map (row true)) := omap_map (fun r => le_row b r) t
theorem le_ref (k : Nat) : lend μ (n + 1) (.ref k) = match μ[k]? with
    | some (.lst _ xs) => (omap (lend μ n) xs).map (.lst true)
    | some (.dK _ xs) => (okv (lend μ n) xs).map (.dK true)
    | some (.dT _ xs) => (okv (lend μ n) xs).map (.dT true)
    | none => none := rfl
/-! clean -/
theorem cl_ints : ∀ xs : List Int, D.cleans (xs.map D.int) = true
  | [] => rfl
  | x :: r => cl_ints r
theorem cl_bls : ∀ xs : List Bool, D.cleans (xs.map D.bl) = true
  | [] => rfl
  | x :: r => cl_bls r
theorem cl_oi : ∀ o : Option Int, (oi o).clean = true
  | none => rfl
  | some i => rfl
theorem cl_ois : ∀ xs : List (Option Int), D.cleans (xs.map oi) = true
  | [] => rfl
  | x :: r => by
    show ((oi x).clean && D.cleans (r.map oi)) = true
    rw [cl_oi, cl_ois r]
    rfl
theorem cl_row (r : List Int) : (row false r).clean = true := cl_ints r
theorem cl_rows : ∀ t : List (List Int), D.cleans (t.map (row false)) = true
  | [] => rfl
  | x :: r => by
    show ((row false x).clean && D.cleans (r.map (row false))) = true
    rw [cl_row, cl_rows r]
    rfl
theorem cl_app : ∀ xs ys : List D, D.cleans (xs ++ ys) = (D.cleans xs && D.cleans ys)
  | [], ys => rfl
  | x :: r, ys => by
    show (x.clean && D.cleans (r ++ ys)) = (x.clean && D.cleans r && D.cleans ys)
    rw [cl_app r ys, Bool.and_assoc]
theorem cl_rep {x : D} (h : x.clean = true) : ∀ n : Nat, D.cleans (List.replicate n x) = true
  | 0 => rfl
  | n + 1 => by
    show (x.clean && D.cleans (List.replicate n x)) = true
    rw [h, cl_rep h n]
    rfl
theorem cl_lst (xs : List D) : (D.lst false xs).clean = D.cleans xs := rfl
theorem cl_cons (x : D) (r : List D) : D.cleans (x :: r) = (x.clean && D.cleans r) := rfl
theorem cl_nil : D.cleans [] = true := rfl
theorem cl_int (i : Int) : (D.int i).clean = true := rfl
theorem cl_bl (i : Bool) : (D.bl i).clean = true := rfl
theorem cl_non : D.non.clean = true := rfl
theorem cl_str (x : Str) : (D.str x).clean = true := rfl
theorem cl_tup (xs : List D) : (D.tup xs).clean = D.cleans xs := rfl
/-! frozen -/
theorem fr_int (i : Int) : frz n (.int i) μ = some (.int i, μ) := by cases n <;> rfl
theorem fr_bl (i : Bool) : frz n (.bl i) μ = some (.bl i, μ) := by cases n <;> rfl
theorem fr_non : frz n .non μ = some (.non, μ) := by cases n <;> rfl
theorem fr_str (x : Str) : frz n (.str x) μ = some (.str x, μ) := by cases n <;> rfl
theorem fr_lst (b : Bool) (xs : List D) : frz n (.lst b xs) μ = some (.lst b xs, μ) := by cases n <;> rfl
theorem fr_oi (o : Option Int) : frz n (oi o) μ = some (oi o, μ) := by cases o <;> cases n <;> rfl
theorem fr_row (b : Bool) (r : List Int) : frz n (row b r) μ = some (row b r, μ) := fr_lst b _
theorem fr_tup (xs : List D) : frz (n + 1) (.tup xs) μ = (frs (frz n) xs μ).map fun p => (.tup p.1, p.2) := rfl
theorem fr_nil {f : D → Sto → Option (D × Sto)} : frs f [] μ = some ([], μ) := rfl
theorem fr_cons {f : D → Sto → Option (D × Sto)} (d : D) (r : List D) : frs f (d :: r) μ = (f d μ).bind fun p => (frs f r p.2).map fun q => (p.1 :: q.1, q.2) := by
  show (match f d μ with
    | none => none
    | some (e, μ1) => match frs f r μ1 with
      | none => none
      | some (es, μ2) => some (e :: es, μ2)) = _
  cases f d μ with
  | none => rfl
  | some p =>
    cases e : frs f r p.2 with
    | none => simp [e]
    | some q => simp [e]
theorem fr_id {f : D → Sto → Option (D × Sto)} {xs : List D} (h : ∀ x ∈ xs, f x μ = some (x, μ)) : frs f xs μ = some (xs, μ) := by
  induction xs with
  | nil => rfl
  | cons x r ih =>
    rw [fr_cons, h x List.mem_cons_self]
    show (frs f r μ).map _ = _
    rw [ih fun y hy => h y (List.mem_cons_of_mem _ hy)]
    rfl
theorem fr_map (f : α → D) (xs : List α) (h : ∀ x, frz n (f x) μ = some (f x, μ)) : frs (frz n) (xs.map f) μ = some (xs.map f, μ) := fr_id fun x hx => by
  obtain ⟨y, _, rfl⟩ := List.mem_map.mp hx
  exact h y
theorem fr_ints (xs : List Int) : frs (frz n) (xs.map D.int) μ = some (xs.map D.int, μ) := fr_map _ xs fun i => fr_int i
theorem fr_ois (xs : List (Option Int)) : frs (frz n) (xs.map oi) μ = some (xs.map oi, μ) := fr_map _ xs fun i => fr_oi i
theorem fr_rows (b : Bool) (xs : List (List Int)) : frs (frz n) (xs.map (row b)) μ = some (xs.map (row b), μ) := fr_map _ xs fun i => fr_row b i
theorem fr_ref (k : Nat) : frz (n + 1) (.ref k) μ = match μ[k]? with
    | some (.lst .fz xs) => some (.lst false xs, μ)
    | some (.lst .live xs) => (frs (frz n) xs μ).map fun p => (.lst false p.1, p.2.set k (.lst .fz p.1))
    | some (.dK .fz xs) => some (.dK false xs, μ)
    | some (.dK .live xs) => (fvs (frz n) xs μ).map fun p => (.dK false p.1, p.2.set k (.dK .fz p.1))
    | some (.dT .fz xs) => some (.dT false xs, μ)
    | some (.dT .live xs) => (fvs (frz n) xs μ).map fun p => (.dT false p.1, p.2.set k (.dT .fz p.1))
    | _ => none := rfl
/-! a deal -/
def drow (b : Bool) (d : List (Option Int)) : D := .lst b (d.map oi)
theorem le_drow (b : Bool) (r : List (Option Int)) : lend μ (n + 1) (drow b r) = some (drow true r) := by
  unfold drow
  rw [le_lst, le_ois]
  rfl
theorem le_drows (b : Bool) (t : List (List (Option Int))) : omap (lend μ (n + 1)) (t.map (drow b)) = some (t.map (drow true)) := omap_map (fun r => le_drow b r) t
theorem cl_drow (r : List (Option Int)) : (drow false r).clean = true := cl_ois r
theorem cl_map {f : α → D} (h : ∀ x, (f x).clean = true) : ∀ xs : List α, D.cleans (xs.map f) = true
  | [] => rfl
  | x :: r => by
    show ((f x).clean && D.cleans (r.map f)) = true
    rw [h, cl_map h r]
    rfl
theorem cl_drows (t : List (List (Option Int))) : D.cleans (t.map (drow false)) = true := cl_map cl_drow t
theorem fr_drow (b : Bool) (r : List (Option Int)) : frz n (drow b r) μ = some (drow b r, μ) := fr_lst b _
theorem fr_drows (b : Bool) (xs : List (List (Option Int))) : frs (frz n) (xs.map (drow b)) μ = some (xs.map (drow b), μ) := fr_map _ xs fun i => fr_drow b i
/-! as a datum -/
theorem py_int (i : Int) : py μ n (.int i) = some (.int i) := by cases n <;> rfl
theorem py_bl (i : Bool) : py μ n (.bl i) = some (.bool i) := by cases n <;> rfl
theorem py_non : py μ n .non = some .none := by cases n <;> rfl
theorem py_str (x : Str) : py μ n (.str x) = some (.str x) := by cases n <;> rfl
theorem py_oi (o : Option Int) : py μ n (oi o) = some (oP o) := by cases o <;> cases n <;> rfl
theorem py_lst (b : Bool) (xs : List D) : py μ (n + 1) (.lst b xs) = (omap (py μ n) xs).map .list := rfl
theorem py_tup (xs : List D) : py μ (n + 1) (.tup xs) = (omap (py μ n) xs).map .tuple := rfl
theorem py_scr (xs : List Int) : py μ (n + 1) (.scr xs) = some (rP xs) := rfl
theorem py_ints (xs : List Int) : omap (py μ n) (xs.map D.int) = some (xs.map PyData.int) := omap_map (fun i => py_int i) xs
theorem py_bls (xs : List Bool) : omap (py μ n) (xs.map D.bl) = some (xs.map PyData.bool) := omap_map (fun i => py_bl i) xs
theorem py_ois (xs : List (Option Int)) : omap (py μ n) (xs.map oi) = some (xs.map oP) := omap_map (fun i => py_oi i) xs
theorem py_row (b : Bool) (r : List Int) : py μ (n + 1) (row b r) = some (rP r) := by
  unfold row
  rw [py_lst, py_ints]
  rfl
theorem py_rows (b : Bool) (t : List (List Int)) : omap (py μ (n + 1)) (t.map (row b)) = some (t.map rP) := omap_map (fun r => py_row b r) t
def dP (r : List (Option Int)) : PyData := .list (r.map oP)
theorem py_drow (b : Bool) (r : List (Option Int)) : py μ (n + 1) (drow b r) = some (dP r) := by
  unfold drow
  rw [py_lst, py_ois]
  rfl
theorem py_drows (b : Bool) (t : List (List (Option Int))) : omap (py μ (n + 1)) (t.map (drow b)) = some (t.map dP) := omap_map (fun r => py_drow b r) t
theorem py_ref (k : Nat) : py μ (n + 1) (.ref k) = match μ[k]? with
    | some (.lst _ xs) => (omap (py μ n) xs).map .list
    | _ => none := rfl
theorem ev_int (i j : Int) : PyData.eqv (.int i) (.int j) = decide (i = j) := by simp only [PyData.eqv]; exact Bool.eq_iff_iff.mpr (by simp)
theorem ev_bl (i j : Bool) : PyData.eqv (.bool i) (.bool j) = (i == j) := by simp only [PyData.eqv]
theorem ev_str (i j : Str) : PyData.eqv (.str i) (.str j) = decide (i = j) := by simp only [PyData.eqv]; exact Bool.eq_iff_iff.mpr (by simp)
theorem ev_oi (a b : Option Int) : PyData.eqv (oP a) (oP b) = decide (a = b) := by
  cases a <;> cases b <;> simp [oP, PyData.eqv, ev_int]
theorem ev_oI (a : Option Int) (i : Int) : PyData.eqv (oP a) (.int i) = decide (a = some i) := ev_oi a (some i)
theorem ev_Io (a : Option Int) (i : Int) : PyData.eqv (.int i) (oP a) = decide (some i = a) := ev_oi (some i) a
theorem ev_oN (a : Option Int) : PyData.eqv (oP a) .none = decide (a = none) := ev_oi a none
theorem ev_No (a : Option Int) : PyData.eqv .none (oP a) = decide (none = a) := ev_oi none a
theorem ev_maps {f : α → PyData} [DecidableEq α] (h : ∀ a b, PyData.eqv (f a) (f b) = decide (a = b)) : ∀ xs ys : List α, PyData.eqvAll (xs.map f) (ys.map f) = decide (xs = ys)
  | [], [] => by simp [PyData.eqvAll]
  | [], _ :: _ => by simp [PyData.eqvAll]
  | _ :: _, [] => by simp [PyData.eqvAll]
  | x :: xs, y :: ys => by
    rw [List.map_cons, List.map_cons, PyData.eqvAll, h, ev_maps h xs ys]
    simp
theorem ev_lists {f : α → PyData} [DecidableEq α] (h : ∀ a b, PyData.eqv (f a) (f b) = decide (a = b)) (xs ys : List α) : PyData.eqv (.list (xs.map f)) (.list (ys.map f)) = decide (xs = ys) := by
  simp only [PyData.eqv]
  exact ev_maps h xs ys
theorem ev_ints (xs ys : List Int) : PyData.eqv (.list (xs.map .int)) (.list (ys.map .int)) = decide (xs = ys) := ev_lists ev_int xs ys
theorem ev_ints0 (xs : List Int) : PyData.eqv (.list (xs.map .int)) (.list []) = decide (xs = []) := ev_ints xs []
theorem ev_0ints (xs : List Int) : PyData.eqv (.list []) (.list (xs.map .int)) = decide ([] = xs) := ev_ints [] xs
theorem ev_ois0 (xs : List (Option Int)) : PyData.eqv (.list (xs.map oP)) (.list []) = decide (xs = []) := ev_lists ev_oi xs []
theorem ev_row0 (xs : List Int) : PyData.eqv (rP xs) (.list []) = decide (xs = []) := ev_ints0 xs
theorem ev_row (xs ys : List Int) : PyData.eqv (rP xs) (rP ys) = decide (xs = ys) := ev_ints xs ys
theorem ev_ois (xs ys : List (Option Int)) : PyData.eqv (.list (xs.map oP)) (.list (ys.map oP)) = decide (xs = ys) := ev_lists ev_oi xs ys
theorem ev_drow (xs ys : List (Option Int)) : PyData.eqv (dP xs) (dP ys) = decide (xs = ys) := ev_ois xs ys
theorem ev_drows (xs ys : List (List (Option Int))) : PyData.eqv (.list (xs.map dP)) (.list (ys.map dP)) = decide (xs = ys) := ev_lists ev_drow xs ys
theorem ev_rows (xs ys : List (List Int)) : PyData.eqv (.list (xs.map rP)) (.list (ys.map rP)) = decide (xs = ys) := ev_lists ev_row xs ys
theorem ev_list (xs ys : List PyData) : PyData.eqv (.list xs) (.list ys) = PyData.eqvAll xs ys := by simp only [PyData.eqv]
theorem ev_cons (x y : PyData) (xs ys : List PyData) : PyData.eqvAll (x :: xs) (y :: ys) = (PyData.eqv x y && PyData.eqvAll xs ys) := by rw [PyData.eqvAll]
theorem ev_nil : PyData.eqvAll [] [] = true := by rw [PyData.eqvAll]
end
def cmpP (k : Cmp) (p q : Option PyData) (K : Bool → Prop) : Prop := match p, q with
  | some p, some q => match k.g p q with
    | some b => K b
    | none => False
  | _, _ => False
section
variable {Q : D → Sto → Prop} {QI : Sr → Sto → Prop} {QU : Unit → Sto → Prop} {μ : Sto} {i j : Int} {lv b b' : Bool} {xs ys : List D} {d e : D} {K : Bool → Prop} {p q : PyData}
theorem p_cmp (k : Cmp) : Ok (dCmp k d e μ) Q = cmpP k (py μ 8 d) (py μ 8 e) fun b => Q (.bl b) μ := by
  unfold dCmp cmpP
  cases py μ 8 d with
  | none => rfl
  | some p =>
    cases py μ 8 e with
    | none => rfl
    | some q =>
      simp only
      cases k.g p q <;> rfl
theorem c_eq : cmpP .eq (some p) (some q) K = K (PyData.eqv p q) := rfl
theorem c_ne : cmpP .ne (some p) (some q) K = K (!PyData.eqv p q) := rfl
theorem c_lt : cmpP .lt (some (.int i)) (some (.int j)) K = K (decide (i < j)) := by
  show K (PySem.W.dataLt (.int i) (.int j)) = _
  rw [PySem.W.dataLt_int]
theorem c_gt : cmpP .gt (some (.int i)) (some (.int j)) K = K (decide (j < i)) := by
  show K (PySem.W.dataLt (.int j) (.int i)) = _
  rw [PySem.W.dataLt_int]
theorem c_le : cmpP .le (some (.int i)) (some (.int j)) K = K (decide (i ≤ j)) := by
  show K (!PySem.W.dataLt (.int j) (.int i)) = _
  rw [PySem.W.dataLt_int]
  congr 1
  by_cases h : j < i
  · simp [h]
  · simp [h]
    omega
theorem c_ge : cmpP .ge (some (.int i)) (some (.int j)) K = K (decide (j ≤ i)) := by
  show K (!PySem.W.dataLt (.int i) (.int j)) = _
  rw [PySem.W.dataLt_int]
  congr 1
  by_cases h : i < j
  · simp [h]
  · simp [h]
    omega
theorem c_in (zs : List PyData) : cmpP .inn (some p) (some (.list zs)) K = K (zs.any fun z => PyData.eqv z p) := rfl
theorem c_nin (zs : List PyData) : cmpP .nin (some p) (some (.list zs)) K = K (!zs.any fun z => PyData.eqv z p) := rfl
theorem anyI (zs : List Int) (i : Int) : ((zs.map PyData.int).any fun z => PyData.eqv z (.int i)) = decide (i ∈ zs) := by
  rw [List.any_map, show ((fun z => PyData.eqv z (.int i)) ∘ PyData.int) = fun z => decide (z = i) from funext fun z => ev_int z i]
  exact Bool.eq_iff_iff.mpr (by simp)
theorem anyO (zs : List (Option Int)) (o : Option Int) : ((zs.map oP).any fun z => PyData.eqv z (oP o)) = decide (o ∈ zs) := by
  rw [List.any_map, show ((fun z => PyData.eqv z (oP o)) ∘ oP) = fun z => decide (z = o) from funext fun z => ev_oi z o]
  exact Bool.eq_iff_iff.mpr (by simp)
theorem c_inT (zs : List PyData) : cmpP .inn (some p) (some (.tuple zs)) K = K (zs.any fun z => PyData.eqv z p) := rfl
theorem c_ninT (zs : List PyData) : cmpP .nin (some p) (some (.tuple zs)) K = K (!zs.any fun z => PyData.eqv z p) := rfl
section
variable {a1 b1 a2 b2 : Int}
theorem al2 : PySem.W.alike (.tuple [.int a1, .int b1]) (.tuple [.int a2, .int b2]) = true := by
  simp [PySem.W.alike, PySem.W.alikeAll]
theorem c_ltT : cmpP .lt (some (.tuple [.int a1, .int b1])) (some (.tuple [.int a2, .int b2])) K = K (decide (a1 < a2 ∨ (a1 = a2 ∧ b1 < b2))) := by
  show (match (if (PySem.W.alike (.tuple [.int a1, .int b1]) (.tuple [.int a2, .int b2]) && true) = true then some (PySem.W.dataLt (.tuple [.int a1, .int b1]) (.tuple [.int a2, .int b2])) else none) with
    | some b => K b
    | none => False) = _
  rw [al2, PySem.W.dataLt_ii]
  rfl
theorem c_gtT : cmpP .gt (some (.tuple [.int a1, .int b1])) (some (.tuple [.int a2, .int b2])) K = K (decide (a2 < a1 ∨ (a2 = a1 ∧ b2 < b1))) := by
  show (match (if (PySem.W.alike (.tuple [.int a1, .int b1]) (.tuple [.int a2, .int b2]) && true) = true then some (PySem.W.dataLt (.tuple [.int a2, .int b2]) (.tuple [.int a1, .int b1])) else none) with
    | some b => K b
    | none => False) = _
  rw [al2, PySem.W.dataLt_ii]
  rfl
theorem c_leT : cmpP .le (some (.tuple [.int a1, .int b1])) (some (.tuple [.int a2, .int b2])) K = K (!decide (a2 < a1 ∨ (a2 = a1 ∧ b2 < b1))) := by
  show (match (if (PySem.W.alike (.tuple [.int a1, .int b1]) (.tuple [.int a2, .int b2]) && true) = true then some (!PySem.W.dataLt (.tuple [.int a2, .int b2]) (.tuple [.int a1, .int b1])) else none) with
    | some b => K b
    | none => False) = _
  rw [al2, PySem.W.dataLt_ii]
  rfl
end
theorem ev_tup (xs ys : List PyData) : PyData.eqv (.tuple xs) (.tuple ys) = PyData.eqvAll xs ys := by simp only [PyData.eqv]
theorem ev_listc (x y : PyData) (xs ys : List PyData) : PyData.eqv (.list (x :: xs)) (.list (y :: ys)) = (PyData.eqv x y && PyData.eqvAll xs ys) := by rw [ev_list, ev_cons]
theorem ev_list0 (x : PyData) (xs : List PyData) : PyData.eqvAll (x :: xs) [] = false := by rw [PyData.eqvAll] <;> simp
theorem ev_0list (x : PyData) (xs : List PyData) : PyData.eqvAll [] (x :: xs) = false := by rw [PyData.eqvAll] <;> simp
theorem p_isN : Ok (dIsN d μ) Q = Q (.bl (isNon d)) μ := rfl
theorem p_notN : Ok (dNotN d μ) Q = Q (.bl (!isNon d)) μ := rfl
theorem non_oi (o : Option Int) : isNon (oi o) = o.isNone := by cases o <;> rfl
theorem seeL_ref (n : Nat) : seeL μ (.ref n) = match μ[n]? with
  | some (.lst _ xs) => some xs
  | _ => none := rfl
def seeP (μ : Sto) (d : D) (K : List D → Prop) : Prop := match seeL μ d with
  | some xs => K xs
  | none => False
theorem see_lst {K : List D → Prop} : seeP μ (.lst b xs) K = K xs := rfl
theorem see_scr {K : List D → Prop} (ns : List Int) : seeP μ (.scr ns) K = K (ns.map D.int) := rfl
def cellP (o : Option Cell) (K : List D → Prop) : Prop := match o with
  | some (.lst _ xs) => K xs
  | _ => False
theorem see_rf {K : List D → Prop} (n : Nat) : seeP μ (.ref n) K = cellP μ[n]? K := by
  unfold seeP
  rw [seeL_ref]
  unfold cellP
  cases μ[n]? with
  | none => rfl
  | some c => cases c <;> rfl
theorem cell_l {K : List D → Prop} (m : Mode) : cellP (some (.lst m xs)) K = K xs := rfl
theorem p_ix : Ok (dIx (.lst b xs) (.int i) μ) Q = ∃ x, L2.atI xs i = some x ∧ Q x μ := by
  show Ok (match L2.atI xs i with
    | some x => ok x μ
    | none => none) Q = _
  cases L2.atI xs i with
  | none => simp [Ok_none]
  | some x => simp [Ok_ok]
theorem p_ixT : Ok (dIx (.tup xs) (.int i) μ) Q = ∃ x, L2.atI xs i = some x ∧ Q x μ := by
  show Ok (match L2.atI xs i with
    | some x => ok x μ
    | none => none) Q = _
  cases L2.atI xs i with
  | none => simp [Ok_none]
  | some x => simp [Ok_ok]
theorem p_ixS (ns : List Int) : Ok (dIx (.scr ns) (.int i) μ) Q = ∃ x, L2.atI ns i = some x ∧ Q (.int x) μ := by
  show Ok (match L2.atI (ns.map D.int) i with
    | some x => ok x μ
    | none => none) Q = _
  rw [atI_map]
  cases L2.atI ns i with
  | none => simp [Ok_none]
  | some x => simp [Ok_ok]
theorem p_ixR (n : Nat) : Ok (dIx (.ref n) (.int i) μ) Q = cellP μ[n]? fun xs => ∃ x, L2.atI xs i = some x ∧ Q x μ := by
  show Ok (match seeL μ (.ref n) with
    | some xs => match L2.atI xs i with
      | some x => ok x μ
      | none => none
    | none => none) Q = _
  rw [seeL_ref]
  unfold cellP
  cases μ[n]? with
  | none => rfl
  | some c =>
    cases c with
    | lst m xs =>
      simp only
      cases L2.atI xs i with
      | none => simp [Ok_none]
      | some x => simp [Ok_ok]
    | _ => rfl
theorem at_m {α β : Type} {f : α → β} {zs : List α} {P : β → Prop} : (∃ x, L2.atI (zs.map f) i = some x ∧ P x) = ∃ x, L2.atI zs i = some x ∧ P (f x) := by
  rw [atI_map]
  cases L2.atI zs i with
  | none => simp
  | some x => simp
theorem at_rng {n k : Nat} (h : k < n) : L2.atI (List.range n) (k : Int) = some k := by
  rw [atI_pos (by omega) (by rw [List.length_range]; omega)]
  simp
theorem p_ixRow {r : List Int} : Ok (dIx (row b r) (.int i) μ) Q ↔ ∃ x, L2.atI r i = some x ∧ Q (.int x) μ := by
  unfold row
  rw [p_ix, at_m]
theorem at_0 {α : Type} (x : α) (r : List α) : L2.atI (x :: r) 0 = some x := by
  rw [atI_pos (by decide) (by rw [List.length_cons]; omega)]
  rfl
theorem at_1 {α : Type} (x y : α) (r : List α) : L2.atI (x :: y :: r) 1 = some y := by
  rw [atI_pos (by decide) (by rw [List.length_cons, List.length_cons]; omega)]
  rfl
theorem at_2 {α : Type} (x y z : α) (r : List α) : L2.atI (x :: y :: z :: r) 2 = some z := by
  rw [atI_pos (by decide) (by rw [List.length_cons, List.length_cons, List.length_cons]; omega)]
  rfl
theorem oi_some (i : Int) : oi (some i) = .int i := rfl
theorem oi_none : oi none = .non := rfl
theorem oP_some (i : Int) : oP (some i) = .int i := rfl
theorem oP_none : oP none = .none := rfl
theorem at_ok {α : Type} {zs : List α} {P : α → Prop} (h : 0 ≤ i) (h' : i < zs.length) (q : P (zs[i.toNat]'(by omega))) : ∃ x, L2.atI zs i = some x ∧ P x := ⟨_, atI_pos h h', q⟩
theorem p_len : Ok (BI.d lv .len [.lst b xs] μ) Q = Q (.int (xs.length : Nat)) μ := rfl
theorem p_lenT : Ok (BI.d lv .len [.tup xs] μ) Q = Q (.int (xs.length : Nat)) μ := rfl
theorem p_lenS (ns : List Int) : Ok (BI.d lv .len [.scr ns] μ) Q = Q (.int (ns.length : Nat)) μ := by
  show Q (.int ((ns.map D.int).length : Nat)) μ = _
  rw [List.length_map]
theorem p_lenR (n : Nat) : Ok (BI.d lv .len [.ref n] μ) Q = cellP μ[n]? fun xs => Q (.int (xs.length : Nat)) μ := by
  show Ok (match seeL μ (.ref n) with
    | some xs => ok (.int (xs.length : Int)) μ
    | none => none) Q = _
  rw [seeL_ref]
  unfold cellP
  cases μ[n]? with
  | none => rfl
  | some c => cases c <;> rfl
theorem p_list : Ok (BI.d lv .list [.lst b xs] μ) Q = Ok (alloc lv xs μ) Q := rfl
theorem p_listS (ns : List Int) : Ok (BI.d lv .list [.scr ns] μ) Q = Ok (alloc lv (ns.map D.int) μ) Q := rfl
theorem p_listR (n : Nat) : Ok (BI.d lv .list [.ref n] μ) Q = cellP μ[n]? fun xs => Ok (alloc lv xs μ) Q := by
  show Ok (match seeL μ (.ref n) with
    | some xs => alloc lv xs μ
    | none => none) Q = _
  rw [seeL_ref]
  unfold cellP
  cases μ[n]? with
  | none => rfl
  | some c => cases c <;> rfl
theorem p_all (bs : List Bool) : Ok (BI.d lv .all [.lst b (bs.map D.bl)] μ) Q = Q (.bl (bs.all id)) μ := by
  show Ok (match (some (bs.map D.bl)).bind boolsD with
    | some xs => ok (.bl (xs.all id)) μ
    | none => none) Q = _
  rw [Option.bind_some, bools_map]
  rfl
theorem p_any (bs : List Bool) : Ok (BI.d lv .any [.lst b (bs.map D.bl)] μ) Q = Q (.bl (bs.any id)) μ := by
  show Ok (match (some (bs.map D.bl)).bind boolsD with
    | some xs => ok (.bl (xs.any id)) μ
    | none => none) Q = _
  rw [Option.bind_some, bools_map]
  rfl
theorem p_sum (ns : List Int) : Ok (BI.d lv .sum [.lst b (ns.map D.int)] μ) Q = Q (.int ns.sum) μ := by
  show Ok (match (some (ns.map D.int)).bind intsD with
    | some xs => ok (.int xs.sum) μ
    | none => none) Q = _
  rw [Option.bind_some, ints_map]
  rfl
theorem p_allM {α : Type} (zs : List α) (g : α → Bool) : Ok (BI.d lv .all [.lst b (zs.map fun x => D.bl (g x))] μ) Q = Q (.bl (zs.all g)) μ := by
  have : (zs.map fun x => D.bl (g x)) = (zs.map g).map D.bl := by rw [List.map_map]; rfl
  rw [this, p_all, List.all_map]
  rfl
theorem p_anyM {α : Type} (zs : List α) (g : α → Bool) : Ok (BI.d lv .any [.lst b (zs.map fun x => D.bl (g x))] μ) Q = Q (.bl (zs.any g)) μ := by
  have : (zs.map fun x => D.bl (g x)) = (zs.map g).map D.bl := by rw [List.map_map]; rfl
  rw [this, p_any, List.any_map]
  rfl
theorem p_sumM {α : Type} (zs : List α) (g : α → Int) : Ok (BI.d lv .sum [.lst b (zs.map fun x => D.int (g x))] μ) Q = Q (.int (zs.map g).sum) μ := by
  have : (zs.map fun x => D.int (g x)) = (zs.map g).map D.int := by rw [List.map_map]; rfl
  rw [this, p_sum]
theorem p_minR (n : Nat) : Ok (BI.d lv .min [.ref n] μ) Q = cellP μ[n]? fun xs => Ok (BI.d lv .min [.lst false xs] μ) Q := by
  unfold BI.d
  simp only [bInts, bSum, bBools, bSorted]
  rw [seeL_ref]
  unfold cellP
  cases μ[n]? with
  | none => rfl
  | some c => cases c <;> rfl
theorem p_maxR (n : Nat) : Ok (BI.d lv .max [.ref n] μ) Q = cellP μ[n]? fun xs => Ok (BI.d lv .max [.lst false xs] μ) Q := by
  unfold BI.d
  simp only [bInts, bSum, bBools, bSorted]
  rw [seeL_ref]
  unfold cellP
  cases μ[n]? with
  | none => rfl
  | some c => cases c <;> rfl
theorem p_sumR (n : Nat) : Ok (BI.d lv .sum [.ref n] μ) Q = cellP μ[n]? fun xs => Ok (BI.d lv .sum [.lst false xs] μ) Q := by
  unfold BI.d
  simp only [bInts, bSum, bBools, bSorted]
  rw [seeL_ref]
  unfold cellP
  cases μ[n]? with
  | none => rfl
  | some c => cases c <;> rfl
theorem p_allR (n : Nat) : Ok (BI.d lv .all [.ref n] μ) Q = cellP μ[n]? fun xs => Ok (BI.d lv .all [.lst false xs] μ) Q := by
  unfold BI.d
  simp only [bInts, bSum, bBools, bSorted]
  rw [seeL_ref]
  unfold cellP
  cases μ[n]? with
  | none => rfl
  | some c => cases c <;> rfl
theorem p_anyR (n : Nat) : Ok (BI.d lv .any [.ref n] μ) Q = cellP μ[n]? fun xs => Ok (BI.d lv .any [.lst false xs] μ) Q := by
  unfold BI.d
  simp only [bInts, bSum, bBools, bSorted]
  rw [seeL_ref]
  unfold cellP
  cases μ[n]? with
  | none => rfl
  | some c => cases c <;> rfl
theorem p_sortedR (n : Nat) : Ok (BI.d lv .sorted [.ref n] μ) Q = cellP μ[n]? fun xs => Ok (BI.d lv .sorted [.lst false xs] μ) Q := by
  unfold BI.d
  simp only [bInts, bSum, bBools, bSorted]
  rw [seeL_ref]
  unfold cellP
  cases μ[n]? with
  | none => rfl
  | some c => cases c <;> rfl
theorem p_max (n : Int) (ns : List Int) : Ok (BI.d lv .max [.lst b ((n :: ns).map D.int)] μ) Q = Q (.int (imax (n :: ns))) μ := by
  show Ok (match (some ((n :: ns).map D.int)).bind intsD with
    | some (x :: r) => ok (.int (imax (x :: r))) μ
    | _ => none) Q = _
  rw [Option.bind_some, ints_map]
  rfl
theorem p_maxN (ns : List Int) (h : ns ≠ []) : Ok (BI.d lv .max [.lst b (ns.map D.int)] μ) Q = Q (.int (imax ns)) μ := by
  cases ns with
  | nil => exact absurd rfl h
  | cons n ns => exact p_max n ns
theorem p_min (n : Int) (ns : List Int) : Ok (BI.d lv .min [.lst b ((n :: ns).map D.int)] μ) Q = Q (.int (imin (n :: ns))) μ := by
  show Ok (match (some ((n :: ns).map D.int)).bind intsD with
    | some (x :: r) => ok (.int (imin (x :: r))) μ
    | _ => none) Q = _
  rw [Option.bind_some, ints_map]
  rfl
theorem p_minN (ns : List Int) (h : ns ≠ []) : Ok (BI.d lv .min [.lst b (ns.map D.int)] μ) Q = Q (.int (imin ns)) μ := by
  cases ns with
  | nil => exact absurd rfl h
  | cons n ns => exact p_min n ns
theorem p_max2 : Ok (BI.d lv .max2 [.int i, .int j] μ) Q = Q (.int (if j > i then j else i)) μ := rfl
theorem p_min2 : Ok (BI.d lv .min2 [.int i, .int j] μ) Q = Q (.int (if j < i then j else i)) μ := rfl
theorem p_slice (lo hi : Option Int) : Ok (dSlice lv (.lst b xs) lo hi μ) Q = Ok (alloc lv (cut xs lo hi) μ) Q := rfl
theorem p_sliceS (ns : List Int) (lo hi : Option Int) : Ok (dSlice lv (.scr ns) lo hi μ) Q = Ok (alloc lv (cut (ns.map D.int) lo hi) μ) Q := rfl
theorem p_sliceR (n : Nat) (lo hi : Option Int) : Ok (dSlice lv (.ref n) lo hi μ) Q = cellP μ[n]? fun xs => Ok (alloc lv (cut xs lo hi) μ) Q := by
  show Ok (match seeL μ (.ref n) with
    | some xs => alloc lv (cut xs lo hi) μ
    | none => none) Q = _
  rw [seeL_ref]
  unfold cellP
  cases μ[n]? with
  | none => rfl
  | some c => cases c <;> rfl
theorem p_revL : Ok (dRev lv (.lst b xs) μ) Q = Ok (alloc lv xs.reverse μ) Q := rfl
theorem p_revS (ns : List Int) : Ok (dRev lv (.scr ns) μ) Q = Ok (alloc lv (ns.map D.int).reverse μ) Q := rfl
theorem p_revR (n : Nat) : Ok (dRev lv (.ref n) μ) Q = cellP μ[n]? fun xs => Ok (alloc lv xs.reverse μ) Q := by
  show Ok (match seeL μ (.ref n) with
    | some xs => alloc lv xs.reverse μ
    | none => none) Q = _
  rw [seeL_ref]
  unfold cellP
  cases μ[n]? with
  | none => rfl
  | some c => cases c <;> rfl
theorem cut_map {α β : Type} (f : α → β) (zs : List α) (lo hi : Option Int) : cut (zs.map f) lo hi = (cut zs lo hi).map f := by
  unfold cut
  rw [List.length_map, List.map_take, List.map_drop]
theorem cut_take {α : Type} (zs : List α) {h : Int} (p : 0 ≤ h) : cut zs none (some h) = zs.take h.toNat := by
  unfold cut HT.sIx
  simp only [List.drop_zero, Nat.sub_zero]
  rw [if_neg (by omega)]
  apply List.ext_getElem?
  intro i
  simp only [List.getElem?_take]
  by_cases q : i < zs.length
  · simp only [Nat.lt_min, q, and_true]
  · rw [List.getElem?_eq_none (by omega)]
    simp
theorem cut_drop {α : Type} (zs : List α) {h : Int} (p : 0 ≤ h) : cut zs (some h) none = zs.drop h.toNat := by
  unfold cut HT.sIx
  simp only
  rw [if_neg (by omega)]
  by_cases q : h.toNat ≤ zs.length
  · rw [Nat.min_eq_left q, List.take_of_length_le (by rw [List.length_drop] <;> omega)]
  · rw [Nat.min_eq_right (by omega), List.drop_of_length_le (Nat.le_refl _), List.drop_of_length_le (by omega), List.take_nil]
theorem p_src : Ok (dSrc (.lst b xs) μ) QI = QI (.fix xs) μ := rfl
theorem p_srcS (ns : List Int) : Ok (dSrc (.scr ns) μ) QI = QI (.fix (ns.map D.int)) μ := rfl
theorem p_srcT : Ok (dSrcT (.tup xs) μ) QI = QI (.fix xs) μ := rfl
def rgi (lo : Int) (n : Nat) : List Int := (List.range n).map fun i => lo + (i : Nat)
theorem rgi_len (lo : Int) (n : Nat) : (rgi lo n).length = n := by simp [rgi]
theorem rgi_get (lo : Int) (n i : Nat) (h : i < (rgi lo n).length) : (rgi lo n)[i] = lo + (i : Nat) := by simp [rgi]
theorem rangeD_eq (lo : Int) (n : Nat) : rangeD lo n = (rgi lo n).map D.int := by
  unfold rangeD rgi
  rw [List.map_map]
  rfl
theorem p_rng1 : Ok (dRng [.int j] μ) QI = ((j.toNat ≤ LIM ∧ -(2 ^ 62) ≤ j) ∧ QI (.fix ((rgi 0 j.toNat).map D.int)) μ) := by
  show Ok (if j.toNat ≤ LIM ∧ -(2 ^ 62) ≤ j then ok (.fix (rangeD 0 j.toNat)) μ else none) QI = _
  rw [Ok_guard, Ok_ok, rangeD_eq]
theorem p_rng2 : Ok (dRng [.int i, .int j] μ) QI = (((-(2 ^ 61) ≤ i ∧ i ≤ 2 ^ 61) ∧ (-(2 ^ 61) ≤ j ∧ j ≤ 2 ^ 61) ∧ (j - i).toNat ≤ LIM) ∧ QI (.fix ((rgi i (j - i).toNat).map D.int)) μ) := by
  show Ok (if (-(2 ^ 61) ≤ i ∧ i ≤ 2 ^ 61) ∧ (-(2 ^ 61) ≤ j ∧ j ≤ 2 ^ 61) ∧ (j - i).toNat ≤ LIM then ok (.fix (rangeD i (j - i).toNat)) μ else none) QI = _
  rw [Ok_guard, Ok_ok, rangeD_eq]
theorem p_isB {neg c z : Bool} : Ok (dIsB neg (.bl c) (.bl z) μ) Q = Q (.bl (if neg then c != z else c == z)) μ := rfl
theorem p_lrg1 : Ok (dLrg lv [.int j] μ) Q = ((j.toNat ≤ LIM ∧ -(2 ^ 61) ≤ j) ∧ Ok (alloc lv ((rgi 0 j.toNat).map D.int) μ) Q) := by
  show Ok (if j.toNat ≤ LIM ∧ -(2 ^ 61) ≤ j then alloc lv (rangeD 0 j.toNat) μ else none) Q = _
  rw [Ok_guard, rangeD_eq]
theorem p_lrg2 : Ok (dLrg lv [.int i, .int j] μ) Q = (((-(2 ^ 61) ≤ i ∧ i ≤ 2 ^ 61) ∧ (-(2 ^ 61) ≤ j ∧ j ≤ 2 ^ 61) ∧ (j - i).toNat ≤ LIM) ∧ Ok (alloc lv ((rgi i (j - i).toNat).map D.int) μ) Q) := by
  show Ok (if (-(2 ^ 61) ≤ i ∧ i ≤ 2 ^ 61) ∧ (-(2 ^ 61) ≤ j ∧ j ≤ 2 ^ 61) ∧ (j - i).toNat ≤ LIM then alloc lv (rangeD i (j - i).toNat) μ else none) Q = _
  rw [Ok_guard, rangeD_eq]
theorem enumD_map {α : Type} (f : α → D) : ∀ (zs : List α) (k : Nat), enumD k (zs.map f) = (zs.zipIdx k).map fun p => .tup [.int (p.2 : Nat), f p.1]
  | [], _ => rfl
  | z :: r, k => by
    show D.tup [.int (k : Nat), f z] :: enumD (k + 1) (r.map f) = _
    rw [enumD_map f r (k + 1)]
    rfl
theorem p_enum : Ok (dEnum [.lst b xs] μ) QI = QI (.fix (enumD 0 xs)) μ := rfl
theorem p_enumT : Ok (dEnumT [.tup xs] μ) QI = QI (.fix (enumD 0 xs)) μ := rfl
theorem p_lset (ns : List Int) : Ok (dLSet (.lst b (ns.map D.int)) μ) Q = (ns.length ≤ 1000 ∧ Q (.int (lsetN ns : Nat)) μ) := by
  show Ok (match (some (ns.map D.int)).bind intsD with
    | some ns => if ns.length ≤ 1000 then ok (.int (lsetN ns : Nat)) μ else none
    | none => none) Q = _
  rw [Option.bind_some, ints_map]
  show Ok (if ns.length ≤ 1000 then ok (.int (lsetN ns : Nat)) μ else none) Q = _
  rw [Ok_guard, Ok_ok]
theorem pairs_map : ∀ ps : List (Int × Int), pairsD (ps.map pairD) = some ps
  | [] => rfl
  | p :: r => by
    show (pairsD (r.map pairD)).map ((p.1, p.2) :: ·) = _
    rw [pairs_map r]
    rfl
theorem p_srtP (ps : List (Int × Int)) : Ok (dSortP lv [.lst b (ps.map pairD)] μ) Q = Ok (alloc lv ((psort ps).map pairD) μ) Q := by
  show Ok (match (some (ps.map pairD)).bind pairsD with
    | some ps => alloc lv ((psort ps).map pairD) μ
    | none => none) Q = _
  rw [Option.bind_some, pairs_map]
theorem p_listT : Ok (BI.d lv .list [.tup xs] μ) Q = Ok (alloc lv xs μ) Q := rfl
theorem p_tupL : Ok (BI.d lv .tuple [.lst b xs] μ) Q = Q (.tup xs) μ := rfl
theorem p_sliceT (lo hi : Option Int) : Ok (dSlice lv (.tup xs) lo hi μ) Q = Q (.tup (cut xs lo hi)) μ := rfl
theorem p_divmod : Ok (BI.d lv .divmod [.int i, .int j] μ) Q = (((0 < j ∧ fits i = true) ∧ fits j = true) ∧ Q (.tup [.int (i / j), .int (i % j)]) μ) := by
  show Ok (if (decide (0 < j) && fits i && fits j) = true then ok (.tup [.int (i / j), .int (i % j)]) μ else none) Q = _
  rw [Ok_guard, Ok_ok, Bool.and_eq_true, Bool.and_eq_true, decide_eq_true_iff]
theorem zipD_map {α β : Type} (f : α → D) (g : β → D) : ∀ (zs : List α) (ws : List β), zipD (zs.map f) (ws.map g) = (zs.zip ws).map fun p => .tup [f p.1, g p.2]
  | [], _ => by simp [zipD]
  | _ :: _, [] => by simp [zipD]
  | z :: r, w :: s => by
    show D.tup [f z, g w] :: zipD (r.map f) (s.map g) = _
    rw [zipD_map f g r s]
    rfl
theorem p_zip : Ok (dZip [.lst b xs, .lst b' ys] μ) QI = QI (.fix (zipD xs ys)) μ := rfl
def liveP (o : Option Cell) (K : List D → Prop) : Prop := match o with
  | some (.lst .live xs) => K xs
  | _ => False
theorem live_l {K : List D → Prop} : liveP (some (.lst .live xs)) K = K xs := rfl
theorem live_eq (n : Nat) : live μ (.ref n) = match μ[n]? with
    | some (.lst .live xs) => some (n, xs)
    | _ => none := rfl
theorem p_app (n : Nat) (y : D) : Ok (dMth .append (.ref n) [y] μ) Q = liveP μ[n]? fun xs => xs.length < LIM ∧ Q .non (μ.set n (.lst .live (xs ++ [y]))) := by
  show Ok (match live μ (.ref n) with
    | none => none
    | some (n, xs) => if xs.length < LIM then ok .non (μ.set n (.lst .live (xs ++ [y]))) else none) Q = _
  rw [live_eq]
  cases μ[n]? with
  | none => rfl
  | some c =>
    cases c with
    | lst m xs => cases m <;> first | rfl | (simp only [liveP]; rw [Ok_guard, Ok_ok])
    | _ => rfl
theorem p_pop (n : Nat) : Ok (dMth .pop (.ref n) [] μ) Q = liveP μ[n]? fun xs => ∃ y, xs[xs.length - 1]? = some y ∧ Q y (μ.set n (.lst .live xs.dropLast)) := by
  show Ok (match live μ (.ref n) with
    | none => none
    | some (n, xs) => match xs[xs.length - 1]? with
      | some y => ok y (μ.set n (.lst .live xs.dropLast))
      | none => none) Q = _
  rw [live_eq]
  cases μ[n]? with
  | none => rfl
  | some c =>
    cases c with
    | lst m xs =>
      cases m with
      | live =>
        simp only [liveP]
        cases xs[xs.length - 1]? with
        | none => simp [Ok_none]
        | some y => simp [Ok_ok]
      | _ => rfl
    | _ => rfl
theorem p_clear (n : Nat) : Ok (dMth .clear (.ref n) [] μ) Q = liveP μ[n]? fun xs => Q .non (μ.set n (.lst .live [])) := by
  show Ok (match live μ (.ref n) with
    | none => none
    | some (n, xs) => ok .non (μ.set n (.lst .live []))) Q = _
  rw [live_eq]
  cases μ[n]? with
  | none => rfl
  | some c =>
    cases c with
    | lst m xs =>
      cases m with
      | live =>
        simp only [liveP]
        rfl
      | _ => rfl
    | _ => rfl
theorem p_rev (n : Nat) : Ok (dMth .reverse (.ref n) [] μ) Q = liveP μ[n]? fun xs => Q .non (μ.set n (.lst .live xs.reverse)) := by
  show Ok (match live μ (.ref n) with
    | none => none
    | some (n, xs) => ok .non (μ.set n (.lst .live xs.reverse))) Q = _
  rw [live_eq]
  cases μ[n]? with
  | none => rfl
  | some c =>
    cases c with
    | lst m xs =>
      cases m with
      | live =>
        simp only [liveP]
        rfl
      | _ => rfl
    | _ => rfl
theorem p_ext (n : Nat) (b : Bool) (ys : List D) : Ok (dMth .extend (.ref n) [.lst b ys] μ) Q = liveP μ[n]? fun xs => xs.length + ys.length ≤ LIM ∧ Q .non (μ.set n (.lst .live (xs ++ ys))) := by
  show Ok (match live μ (.ref n) with
    | none => none
    | some (n, xs) => if xs.length + ys.length ≤ LIM then ok .non (μ.set n (.lst .live (xs ++ ys))) else none) Q = _
  rw [live_eq]
  cases μ[n]? with
  | none => rfl
  | some c =>
    cases c with
    | lst m xs =>
      cases m with
      | live =>
        simp only [liveP]
        rw [Ok_guard, Ok_ok]
      | _ => rfl
    | _ => rfl
theorem p_ins (n : Nat) (y : D) : Ok (dMth .insert (.ref n) [.int i, y] μ) Q = liveP μ[n]? fun xs => (xs.length < LIM ∧ 0 ≤ i ∧ i.natAbs ≤ LIM) ∧ Q .non (μ.set n (.lst .live (xs.take i.toNat ++ [y] ++ xs.drop i.toNat))) := by
  show Ok (match live μ (.ref n) with
    | none => none
    | some (n, xs) => if xs.length < LIM ∧ 0 ≤ i ∧ i.natAbs ≤ LIM then ok .non (μ.set n (.lst .live (xs.take i.toNat ++ [y] ++ xs.drop i.toNat))) else none) Q = _
  rw [live_eq]
  cases μ[n]? with
  | none => rfl
  | some c =>
    cases c with
    | lst m xs =>
      cases m with
      | live =>
        simp only [liveP]
        rw [Ok_guard, Ok_ok]
      | _ => rfl
    | _ => rfl
theorem p_popAt (n : Nat) : Ok (dMth .popAt (.ref n) [.int i] μ) Q = liveP μ[n]? fun xs => ∃ k, L2.ixN xs.length i = some k ∧ ∃ y, xs[k]? = some y ∧ i.natAbs ≤ LIM ∧ Q y (μ.set n (.lst .live (xs.eraseIdx k))) := by
  show Ok (match live μ (.ref n) with
    | none => none
    | some (n, xs) => match L2.ixN xs.length i with
      | some k => match xs[k]? with
        | some y => if i.natAbs ≤ LIM then ok y (μ.set n (.lst .live (xs.eraseIdx k))) else none
        | none => none
      | none => none) Q = _
  rw [live_eq]
  cases μ[n]? with
  | none => rfl
  | some c =>
    cases c with
    | lst m xs =>
      cases m with
      | live =>
        simp only [liveP]
        cases L2.ixN xs.length i with
        | none => simp [Ok_none]
        | some k =>
          simp only [Option.some.injEq, exists_eq_left']
          cases xs[k]? with
          | none => simp [Ok_none]
          | some y =>
            simp only [Option.some.injEq, exists_eq_left', Ok_guard, Ok_ok]
      | _ => rfl
    | _ => rfl
theorem p_index (ns : List Int) : Ok (dMth .index (.lst b (ns.map D.int)) [.int i] μ) Q = ∃ j, idxOf i ns 0 = some j ∧ Q (.int (j : Nat)) μ := by
  show Ok (match (some (ns.map D.int)).bind intsD with
    | some ns => match idxOf i ns 0 with
      | some j => ok (.int (j : Nat)) μ
      | none => none
    | none => none) Q = _
  rw [Option.bind_some, ints_map]
  simp only
  cases idxOf i ns 0 with
  | none => simp [Ok_none]
  | some j => simp [Ok_ok]
theorem p_indexR (n : Nat) (ns : List Int) (h : μ[n]? = some (.lst .live (ns.map D.int))) : Ok (dMth .index (.ref n) [.int i] μ) Q = ∃ j, idxOf i ns 0 = some j ∧ Q (.int (j : Nat)) μ := by
  show Ok (match (seeL μ (.ref n)).bind intsD with
    | some ns => match idxOf i ns 0 with
      | some j => ok (.int (j : Nat)) μ
      | none => none
    | none => none) Q = _
  rw [seeL_ref, h]
  simp only [Option.bind_some, ints_map]
  cases idxOf i ns 0 with
  | none => simp [Ok_none]
  | some j => simp [Ok_ok]
theorem idx_mem {k : Int} : ∀ {ns : List Int} {i : Nat}, k ∈ ns → ∃ j, idxOf k ns i = some j ∧ i ≤ j ∧ j < i + ns.length
  | [], _, h => by cases h
  | x :: r, i, h => by
    unfold idxOf
    by_cases e : x = k
    · rw [if_pos e]
      exact ⟨i, rfl, Nat.le_refl _, by rw [List.length_cons]; omega⟩
    · rw [if_neg e]
      rcases List.mem_cons.mp h with q | q
      · exact absurd q.symm e
      · obtain ⟨j, h1, h2, h3⟩ := idx_mem (i := i + 1) q
        exact ⟨j, h1, by omega, by rw [List.length_cons]; omega⟩
theorem p_remove (n : Nat) : Ok (dMth .remove (.ref n) [.int i] μ) Q = liveP μ[n]? fun xs => ∃ ns, intsD xs = some ns ∧ ∃ j, idxOf i ns 0 = some j ∧ Q .non (μ.set n (.lst .live ((ns.eraseIdx j).map D.int))) := by
  show Ok (match live μ (.ref n) with
    | none => none
    | some (n, xs) => match intsD xs with
      | some ns => match idxOf i ns 0 with
        | some j => ok .non (μ.set n (.lst .live ((ns.eraseIdx j).map D.int)))
        | none => none
      | none => none) Q = _
  rw [live_eq]
  cases μ[n]? with
  | none => rfl
  | some c =>
    cases c with
    | lst m xs =>
      cases m with
      | live =>
        simp only [liveP]
        cases intsD xs with
        | none => simp [Ok_none]
        | some ns =>
          simp only [Option.some.injEq, exists_eq_left']
          cases idxOf i ns 0 with
          | none => simp [Ok_none]
          | some j => simp [Ok_ok]
      | _ => rfl
    | _ => rfl
theorem p_sorted : Ok (BI.d lv .sorted [.lst b xs] μ) Q = ∃ ns, intsD xs = some ns ∧ Ok (alloc lv ((isort ns).map D.int) μ) Q := by
  show Ok (match (some xs).bind intsD with
    | some ns => alloc lv ((isort ns).map D.int) μ
    | none => none) Q = _
  rw [Option.bind_some]
  cases intsD xs with
  | none => simp [Ok_none]
  | some ns => simp
theorem ints_snoc (k : Int) : ∀ ns : List Int, intsD (ns.map D.int ++ [D.int k]) = some (ns ++ [k])
  | [] => rfl
  | x :: r => by
    show (intsD (r.map D.int ++ [D.int k])).map (x :: ·) = _
    rw [ints_snoc k r]
    rfl
theorem isl_l : (isList μ (.lst b xs) = true) = True := by simp [isList, seeL, see]
theorem cut_len {α : Type} (zs : List α) (lo hi : Option Int) : (cut zs lo hi).length ≤ zs.length := by
  unfold cut
  rw [List.length_take, List.length_drop]
  omega
theorem at_last {α : Type} (zs : List α) (x : α) : L2.atI (zs ++ [x]) (-1) = some x := by
  unfold L2.atI L2.ixN
  rw [if_neg (by decide), if_pos (by rw [List.length_append, List.length_singleton]; omega)]
  show (zs ++ [x])[(-1 + ((zs ++ [x]).length : Int)).toNat]? = _
  rw [show (-1 + ((zs ++ [x]).length : Int)).toNat = zs.length by rw [List.length_append, List.length_singleton]; omega]
  simp
theorem isl (n : Nat) : (isList μ (.ref n) = true) = cellP μ[n]? fun _ => True := by
  unfold isList
  rw [seeL_ref]
  unfold cellP
  cases μ[n]? with
  | none => simp
  | some c => cases c <;> simp
theorem p_set (n : Nat) : Ok (dSet (.ref n) (.int i) d μ) QU = liveP μ[n]? fun xs => ∃ j, L2.ixN xs.length i = some j ∧ QU () (μ.set n (.lst .live (xs.set j d))) := by
  show Ok (match live μ (.ref n), D.int i with
    | some (n, xs), .int k => match L2.ixN xs.length k with
      | some j => ok () (μ.set n (.lst .live (xs.set j d)))
      | none => none
    | _, _ => none) QU = _
  rw [live_eq]
  cases μ[n]? with
  | none => rfl
  | some c =>
    cases c with
    | lst m xs =>
      cases m with
      | live =>
        simp only [liveP]
        cases L2.ixN xs.length i with
        | none => simp [Ok_none]
        | some j => simp [Ok_ok]
      | _ => rfl
    | _ => rfl
theorem ixN_pos {n : Nat} (h : 0 ≤ i) (h' : i < n) : L2.ixN n i = some i.toNat := by
  unfold L2.ixN
  rw [if_pos h, if_pos h']
def isiP (T : Ty) (t : Option (Option Ty)) (K : Bool → Prop) : Prop := match t with
  | some t => K (isTy t T)
  | none => False
theorem p_isi (T : Ty) : Ok (dIsi T d μ) Q = isiP T (tyOf μ d) fun b => Q (.bl b) μ := by
  unfold dIsi isiP
  cases tyOf μ d <;> rfl
theorem isi_s (T : Ty) (t : Option Ty) : isiP T (some t) K = K (isTy t T) := rfl
theorem ty_int : tyOf μ (.int i) = some (some .int) := rfl
theorem ty_bl (z : Bool) : tyOf μ (.bl z) = some (some .bool) := rfl
theorem ty_non : tyOf μ .non = some none := rfl
theorem ty_lst : tyOf μ (.lst b xs) = some (some .list) := rfl
theorem ty_tup : tyOf μ (.tup xs) = some (some .tuple) := rfl
theorem ty_str (z : Str) : tyOf μ (.str z) = some (some .str) := rfl
theorem ty_ref (n : Nat) : tyOf μ (.ref n) = tyC μ[n]? := rfl
theorem ty_cl (m : Mode) : tyC (some (.lst m xs)) = some (some .list) := rfl
theorem ty_oi (o : Option Int) : tyOf μ (oi o) = some (if o.isSome then some .int else none) := by cases o <;> rfl
theorem p_frz : Ok (dFrz d μ) Q = match frz 6 d μ with
    | some (e, μ') => Q e μ'
    | none => False := by
  unfold dFrz
  cases frz 6 d μ <;> rfl
theorem a_add : Ok (Aop.d .add (.int i) (.int j) μ) Q = Q (.int (i + j)) μ := rfl
theorem a_sub : Ok (Aop.d .sub (.int i) (.int j) μ) Q = Q (.int (i - j)) μ := rfl
theorem a_mul : Ok (Aop.d .mul (.int i) (.int j) μ) Q = (mulOk i j = true ∧ Q (.int (i * j)) μ) := by
  show Ok (if mulOk i j = true then ok (.int (i * j)) μ else none) Q = _
  rw [Ok_guard, Ok_ok]
theorem ixL : dIxL (.lst b xs) e μ = dIx (.lst b xs) e μ := rfl
theorem ixLR (n : Nat) : dIxL (.ref n) e μ = dIx (.ref n) e μ := rfl
def varP (env : Env) (i : Nat) (K : D → Prop) : Prop := match env[i]? with
  | some (some d) => K d
  | _ => False
theorem p_var {env : Env} (i : Nat) : Ok (fVar i env μ) Q = varP env i fun d => Q d μ := by
  unfold fVar varP
  cases env[i]? with
  | none => rfl
  | some o => cases o <;> rfl
theorem v_0 {r : Env} {K : D → Prop} : varP (some d :: r) 0 K = K d := rfl
theorem v_s {o : Option D} {r : Env} {K : D → Prop} (i : Nat) : varP (o :: r) (i + 1) K = varP r i K := rfl
end

theorem rep_one {α : Type} (x : α) : ∀ n : Nat, (List.replicate n [x]).flatten = List.replicate n x
  | 0 => rfl
  | n + 1 => by
    rw [List.replicate_succ, List.flatten_cons, rep_one x n]
    rfl
theorem end_get {μ : Sto} {c : Cell} : (μ ++ [c])[List.length μ]? = some c := by simp
theorem end_set {μ : Sto} {c c' : Cell} : (μ ++ [c]).set (List.length μ) c' = μ ++ [c'] := by simp
theorem snoc_ind {α : Type} {P : List α → Prop} (nil : P []) (snoc : ∀ xs x, P xs → P (xs ++ [x])) (xs : List α) : P xs := by
  have h : ∀ ys : List α, P ys.reverse := fun ys => by
    induction ys with
    | nil => exact nil
    | cons y r ih =>
      rw [List.reverse_cons]
      exact snoc _ _ ih
  have := h xs.reverse
  rwa [List.reverse_reverse] at this
theorem sorted_ext : ∀ {xs ys : List Int}, xs.Pairwise (· < ·) → ys.Pairwise (· < ·) → (∀ x, x ∈ xs ↔ x ∈ ys) → xs = ys
  | [], [], _, _, _ => rfl
  | [], y :: r, _, _, h => by
    have := (h y).mpr List.mem_cons_self
    cases this
  | x :: r, [], _, _, h => by
    have := (h x).mp List.mem_cons_self
    cases this
  | x :: r, y :: s, hx, hy, h => by
    obtain ⟨x1, x2⟩ := List.pairwise_cons.mp hx
    obtain ⟨y1, y2⟩ := List.pairwise_cons.mp hy
    have e : x = y := by
      rcases List.mem_cons.mp ((h x).mp List.mem_cons_self) with q | q
      · exact q
      · rcases List.mem_cons.mp ((h y).mpr List.mem_cons_self) with p | p
        · exact p.symm
        · have := x1 y p
          have := y1 x q
          omega
    subst e
    rw [sorted_ext x2 y2 fun z => ⟨fun q => ?_, fun q => ?_⟩]
    · rcases List.mem_cons.mp ((h z).mp (List.mem_cons_of_mem _ q)) with p | p
      · have := x1 z q
        omega
      · exact p
    · rcases List.mem_cons.mp ((h z).mpr (List.mem_cons_of_mem _ q)) with p | p
      · have := y1 z q
        omega
      · exact p
/-! loops, comprehensions -/
section
variable {Γ : List (Nat × Fn)} {α : Type}
theorem gc_id {n : Nat} {env : Env} {μ : Sto} (h : μ.length ≤ n) : gc n env μ = μ := by
  unfold gc
  split
  · exact List.take_of_length_le h
  · rfl
theorem o_for {f : α → D} {xs : List α} {tg : Tg} {src : Src} {body : List S} {P : Fl → Sto → Prop} {env : Env} {μ : Sto} (n0 : Nat) (I : Nat → Env → Sto → Prop)
    (hs : Ok (src.ev Γ env μ) fun s μ1 => s = .fix (xs.map f) ∧ μ1.length = n0 ∧ I 0 env μ1)
    (step : ∀ i (h : i < xs.length) e m, I i e m → ∃ e1, tg.bind (f xs[i]) e = some e1 ∧ Ok (S.evs Γ body e1 m) fun fl m1 => match fl with
      | .nx e2 => I (i + 1) e2 (gc n0 e2 m1)
      | .rt d => P (.rt d) m1)
    (done : ∀ e m, I xs.length e m → P (.nx e) m) : Ok (S.ev Γ (.for_ tg src body) env μ) P := by
  show Ok (rb (src.ev Γ env μ) fun s μ1 => forN tg (S.evs Γ body) s μ1.length (s.fuel μ1) 0 env μ1) P
  rw [Ok_rb]
  refine hs.imp ?_
  rintro s μ1 ⟨rfl, hn, h0⟩
  have go : ∀ k i e m, i + k = xs.length → I i e m → Ok (forN tg (S.evs Γ body) (.fix (xs.map f)) n0 (k + 1) i e m) P := by
    intro k
    induction k with
    | zero =>
      intro i e m hk hi
      have hi' : i = xs.length := by omega
      unfold forN
      have e1 : Sr.at m i (.fix (xs.map f)) = some none := by
        show some (xs.map f)[i]? = _
        rw [List.getElem?_eq_none (by rw [List.length_map]; omega)]
      rw [e1]
      rw [hi'] at hi
      exact done e m hi
    | succ k ih =>
      intro i e m hk hi
      have hl : i < xs.length := by omega
      obtain ⟨e1, h1, h2⟩ := step i hl e m hi
      have ea : Sr.at m i (.fix (xs.map f)) = some (some (f xs[i])) := by
        show some (xs.map f)[i]? = _
        rw [List.getElem?_eq_getElem (by rw [List.length_map]; exact hl), List.getElem_map]
      unfold forN
      rw [ea]
      simp only [h1]
      rw [Ok_rb]
      refine h2.imp fun fl m1 q => ?_
      cases fl with
      | nx e2 => exact ih (i + 1) e2 _ (by omega) q
      | rt d => exact q
  have e0 : Sr.fuel μ1 (.fix (xs.map f)) = xs.length + 1 := by
    show (xs.map f).length + 1 = _
    rw [List.length_map]
  rw [e0, hn]
  exact go xs.length 0 env μ1 (by omega) h0
/-- a while loop with a measure -/
theorem o_wh {c : X} {body : List S} {P : Fl → Sto → Prop} {env : Env} {μ : Sto} (n0 : Nat) (I : Nat → Env → Sto → Prop) (b : Nat) (hb : b < 1000000) (hn : μ.length = n0) (h0 : I b env μ)
    (step : ∀ k e m, I k e m → Ok (c.ev Γ e m) fun d m1 => ∃ t, d = .bl t ∧ (t = false → P (.nx e) m1) ∧ (t = true → Ok (S.evs Γ body e m1) fun fl m2 => match fl with
      | .nx e2 => ∃ k', k' < k ∧ I k' e2 (gc n0 e2 m2)
      | .rt d => P (.rt d) m2)) : Ok (S.ev Γ (.wh c body) env μ) P := by
  show Ok (whN (c.ev Γ) (S.evs Γ body) μ.length FUEL env μ) P
  have go : ∀ f k e m, k < f → I k e m → Ok (whN (c.ev Γ) (S.evs Γ body) n0 f e m) P := by
    intro f
    induction f with
    | zero =>
      intro k e m hk
      omega
    | succ f ih =>
      intro k e m hk hi
      unfold whN
      rw [Ok_rb]
      refine (step k e m hi).imp ?_
      rintro d m1 ⟨t, rfl, hf, ht⟩
      cases t with
      | false => exact hf rfl
      | true =>
        show Ok (rb (S.evs Γ body e m1) _) P
        rw [Ok_rb]
        refine (ht rfl).imp fun fl m2 q => ?_
        cases fl with
        | nx e2 =>
          obtain ⟨k', hk', hi'⟩ := q
          exact ih k' e2 _ (by omega) hi'
        | rt d => exact q
  rw [hn]
  exact go FUEL b env μ (by unfold FUEL; omega) h0
/-- a loop that goes on while p holds, and else tells d0 -/
theorem o_all {f : α → D} {xs : List α} {tg : Tg} {src : Src} {body : List S} {P : Fl → Sto → Prop} {env : Env} {μ : Sto} (p : α → Bool) (d0 : D)
    (hs : Ok (src.ev Γ env μ) fun s μ1 => s = .fix (xs.map f) ∧ μ1 = μ)
    (step : ∀ i (h : i < xs.length), ∃ e1, tg.bind (f xs[i]) env = some e1 ∧ Ok (S.evs Γ body e1 μ) fun fl m => (p xs[i] = true ∧ fl = .nx env ∧ gc μ.length env m = μ) ∨ (p xs[i] = false ∧ fl = .rt d0))
    (yes : xs.all p = true → P (.nx env) μ) (no : xs.all p = false → ∀ m, P (.rt d0) m) : Ok (S.ev Γ (.for_ tg src body) env μ) P := by
  refine o_for (xs := xs) (f := f) μ.length (fun i e m => e = env ∧ m = μ ∧ (xs.take i).all p = true) (hs.imp fun s m ⟨h1, h2⟩ => ⟨h1, by rw [h2], rfl, h2, rfl⟩) ?_ ?_
  · rintro i hi e m ⟨rfl, rfl, ha⟩
    obtain ⟨e1, h1, h2⟩ := step i hi
    refine ⟨e1, h1, h2.imp fun fl m1 q => ?_⟩
    rcases q with ⟨q1, rfl, q2⟩ | ⟨q1, rfl⟩
    · refine ⟨rfl, q2, ?_⟩
      rw [List.take_succ_eq_append_getElem hi, List.all_append, ha, List.all_cons, q1]
      rfl
    · refine no ?_ _
      cases e2 : xs.all p with
      | false => rfl
      | true =>
        rw [List.all_eq_true.mp e2 _ (List.getElem_mem hi)] at q1
        cases q1
  · rintro e m ⟨rfl, rfl, ha⟩
    rw [List.take_of_length_le (Nat.le_refl _)] at ha
    exact yes ha
theorem rgi_snoc (lo : Int) (i : Nat) : rgi lo (i + 1) = rgi lo i ++ [lo + i] := by
  unfold rgi
  rw [List.range_succ, List.map_append]
  rfl
theorem rgi_mem {lo x : Int} {n : Nat} : x ∈ rgi lo n ↔ lo ≤ x ∧ x < lo + n := by
  unfold rgi
  rw [List.mem_map]
  refine ⟨?_, fun h => ⟨(x - lo).toNat, List.mem_range.mpr (by omega), by omega⟩⟩
  rintro ⟨i, hi, rfl⟩
  have := List.mem_range.mp hi
  omega
theorem Ok_eq {β : Type} {r : R β} {a : β} {μ' : Sto} (h : Ok r fun x m => x = a ∧ m = μ') : r = ok a μ' := by
  match r, h with
  | some (.ok (_, _)), ⟨rfl, rfl⟩ => rfl
theorem o_comp {f : α → D} {xs : List α} {tg : Tg} {src : Src} {cond : List X} {elt : X} {own : List Nat} {lv : Bool} {Q : D → Sto → Prop} {env : Env} {μ : Sto} (p : α → Bool) (g : α → D)
    (hs : Ok (src.ev Γ env μ) fun s μ1 => s = .fix (xs.map f) ∧ μ1 = μ ∧ xs.length < LIM)
    (step : ∀ i (h : i < xs.length), ∃ e1, tg.bind (f xs[i]) (wipeE env own) = some e1 ∧ (match cond with
      | [] => p xs[i] = true
      | c :: _ => Ok (c.ev Γ e1 μ) fun t m => t = D.bl (p xs[i]) ∧ m = μ) ∧ (p xs[i] = true → Ok (elt.ev Γ e1 μ) fun y m => y = g xs[i] ∧ m = μ))
    (done : Ok (alloc lv ((xs.filter p).map g) μ) Q) : Ok (X.ev Γ (.comp lv src tg cond elt own) env μ) Q := by
  show Ok (rb (src.ev Γ env μ) fun s μ1 => if s.fuel μ1 ≤ LIM then rb (compN tg (X.evo Γ cond) (elt.ev Γ) s (wipeE env own) (s.fuel μ1) 0 μ1) fun ys μ2 => alloc lv ys (s.free μ2) else none) Q
  rw [Ok_rb]
  refine hs.imp ?_
  rintro s μ1 ⟨rfl, rfl, hl⟩
  have e0 : Sr.fuel μ1 (.fix (xs.map f)) = xs.length + 1 := by
    show (xs.map f).length + 1 = _
    rw [List.length_map]
  rw [e0, if_pos (by omega)]
  have go : ∀ k i, i + k = xs.length → compN tg (X.evo Γ cond) (elt.ev Γ) (.fix (xs.map f)) (wipeE env own) (k + 1) i μ1 = ok (((xs.drop i).filter p).map g) μ1 := by
    intro k
    induction k with
    | zero =>
      intro i hk
      unfold compN
      have e1 : Sr.at μ1 i (.fix (xs.map f)) = some none := by
        show some (xs.map f)[i]? = _
        rw [List.getElem?_eq_none (by rw [List.length_map]; omega)]
      rw [e1, List.drop_of_length_le (by omega)]
      rfl
    | succ k ih =>
      intro i hk
      have hi : i < xs.length := by omega
      obtain ⟨e1, h1, h2, h3⟩ := step i hi
      have ea : Sr.at μ1 i (.fix (xs.map f)) = some (some (f xs[i])) := by
        show some (xs.map f)[i]? = _
        rw [List.getElem?_eq_getElem (by rw [List.length_map]; exact hi), List.getElem_map]
      have ec : condT (X.evo Γ cond) e1 μ1 = ok (D.bl (p xs[i])) μ1 := by
        cases cond with
        | nil =>
          show ok (D.bl true) μ1 = _
          rw [show p xs[i] = true from h2]
        | cons c r =>
          show noErr (c.ev Γ e1 μ1) = _
          rw [Ok_eq h2, noErr_ok]
      unfold compN
      rw [ea]
      simp only [h1, ec, rb_ok]
      rw [List.drop_eq_getElem_cons hi]
      cases hp : p xs[i] with
      | true =>
        simp only
        rw [Ok_eq (h3 hp), noErr_ok, rb_ok, ih (i + 1) (by omega), rb_ok, List.filter_cons, if_pos hp]
        rfl
      | false =>
        simp only
        rw [ih (i + 1) (by omega), List.filter_cons, if_neg (by rw [hp]; decide)]
  rw [go xs.length 0 (by omega), rb_ok]
  exact done
def srcP (n : Nat) (μ : Sto) (o : Option Cell) (K : Sr → Sto → Prop) : Prop := match o with
  | some (.lst .live xs) => K (.cell n true) (μ.set n (.lst .lock xs))
  | some (.lst .lock _) => K (.cell n false) μ
  | some (.lst .fz xs) => K (.fix xs) μ
  | _ => False
theorem src_l {n : Nat} {μ : Sto} {xs : List D} {K : Sr → Sto → Prop} : srcP n μ (some (.lst .live xs)) K = K (.cell n true) (μ.set n (.lst .lock xs)) := rfl
theorem src_f {n : Nat} {μ : Sto} {xs : List D} {K : Sr → Sto → Prop} : srcP n μ (some (.lst .fz xs)) K = K (.fix xs) μ := rfl
theorem p_srcR (n : Nat) {μ : Sto} {QI : Sr → Sto → Prop} : Ok (dSrc (.ref n) μ) QI = srcP n μ μ[n]? QI := by
  show Ok (match μ[n]? with
    | some (.lst .live xs) => ok (.cell n true) (μ.set n (.lst .lock xs))
    | some (.lst .lock _) => ok (.cell n false) μ
    | some (.lst .fz xs) => ok (.fix xs) μ
    | _ => none) QI = _
  unfold srcP
  cases μ[n]? with
  | none => rfl
  | some c =>
    cases c with
    | lst m xs => cases m <;> rfl
    | _ => rfl
theorem p_srcL {n : Nat} {ys : List D} {QI : Sr → Sto → Prop} {μ : Sto} (h : μ[n]? = some (.lst .live ys)) : Ok (dSrc (.ref n) μ) QI = QI (.cell n true) (μ.set n (.lst .lock ys)) := by
  show Ok (match μ[n]? with
    | some (.lst .live xs) => ok (.cell n true) (μ.set n (.lst .lock xs))
    | some (.lst .lock _) => ok (.cell n false) μ
    | some (.lst .fz xs) => ok (.fix xs) μ
    | _ => none) QI = _
  rw [h]
  rfl
theorem comp_run {f : α → D} {xs : List α} {tg : Tg} {cond : List X} {elt : X} {s : Sr} {env : Env} {μ : Sto} (p : α → Bool) (g : α → D) (hat : ∀ i, s.at μ i = some (xs.map f)[i]?)
    (step : ∀ i (h : i < xs.length), ∃ e1, tg.bind (f xs[i]) env = some e1 ∧ (match cond with
      | [] => p xs[i] = true
      | c :: _ => Ok (c.ev Γ e1 μ) fun t m => t = D.bl (p xs[i]) ∧ m = μ) ∧ (p xs[i] = true → Ok (elt.ev Γ e1 μ) fun y m => y = g xs[i] ∧ m = μ)) :
    ∀ k i, i + k = xs.length → compN tg (X.evo Γ cond) (elt.ev Γ) s env (k + 1) i μ = ok (((xs.drop i).filter p).map g) μ := by
  intro k
  induction k with
  | zero =>
    intro i hk
    unfold compN
    rw [hat, List.getElem?_eq_none (by rw [List.length_map]; omega), List.drop_of_length_le (by omega)]
    rfl
  | succ k ih =>
    intro i hk
    have hi : i < xs.length := by omega
    obtain ⟨e1, h1, h2, h3⟩ := step i hi
    have ec : condT (X.evo Γ cond) e1 μ = ok (D.bl (p xs[i])) μ := by
      cases cond with
      | nil =>
        show ok (D.bl true) μ = _
        rw [show p xs[i] = true from h2]
      | cons c r =>
        show noErr (c.ev Γ e1 μ) = _
        rw [Ok_eq h2, noErr_ok]
    unfold compN
    rw [hat, List.getElem?_eq_getElem (by rw [List.length_map]; exact hi), List.getElem_map]
    simp only [h1, ec, rb_ok]
    rw [List.drop_eq_getElem_cons hi]
    cases hp : p xs[i] with
    | true =>
      simp only
      rw [Ok_eq (h3 hp), noErr_ok, rb_ok, ih (i + 1) (by omega), rb_ok, List.filter_cons, if_pos hp]
      rfl
    | false =>
      simp only
      rw [ih (i + 1) (by omega), List.filter_cons, if_neg (by rw [hp]; decide)]
/-- over a list that lives -/
theorem o_compL {f : α → D} {xs : List α} {tg : Tg} {src : Src} {cond : List X} {elt : X} {own : List Nat} {lv : Bool} {Q : D → Sto → Prop} {env : Env} {μ : Sto} (n : Nat) (p : α → Bool) (g : α → D) (hn : μ[n]? = some (.lst .live (xs.map f)))
    (hs : Ok (src.ev Γ env μ) fun s μ1 => s = .cell n true ∧ μ1 = μ.set n (.lst .lock (xs.map f)))
    (hl : xs.length < LIM)
    (step : ∀ i (h : i < xs.length), ∃ e1, tg.bind (f xs[i]) (wipeE env own) = some e1 ∧ (match cond with
      | [] => p xs[i] = true
      | c :: _ => Ok (c.ev Γ e1 (μ.set n (.lst .lock (xs.map f)))) fun t m => t = D.bl (p xs[i]) ∧ m = μ.set n (.lst .lock (xs.map f))) ∧ (p xs[i] = true → Ok (elt.ev Γ e1 (μ.set n (.lst .lock (xs.map f)))) fun y m => y = g xs[i] ∧ m = μ.set n (.lst .lock (xs.map f))))
    (done : Ok (alloc lv ((xs.filter p).map g) μ) Q) : Ok (X.ev Γ (.comp lv src tg cond elt own) env μ) Q := by
  show Ok (rb (src.ev Γ env μ) fun s μ1 => if s.fuel μ1 ≤ LIM then rb (compN tg (X.evo Γ cond) (elt.ev Γ) s (wipeE env own) (s.fuel μ1) 0 μ1) fun ys μ2 => alloc lv ys (s.free μ2) else none) Q
  rw [Ok_rb]
  refine hs.imp ?_
  rintro s μ1 ⟨rfl, rfl⟩
  have hlt : n < μ.length := (List.getElem?_eq_some_iff.mp hn).1
  have hg : (μ.set n (.lst .lock (xs.map f)))[n]? = some (.lst .lock (xs.map f)) := List.getElem?_set_self hlt
  have e0 : Sr.fuel (μ.set n (.lst .lock (xs.map f))) (.cell n true) = xs.length + 1 := by
    show (match (μ.set n (.lst .lock (xs.map f)))[n]? with
      | some (.lst _ xs) => xs.length + 1
      | _ => 0) = _
    rw [hg]
    show (xs.map f).length + 1 = _
    rw [List.length_map]
  have ef : Sr.free (μ.set n (.lst .lock (xs.map f))) (.cell n true) = μ := by
    show (match (μ.set n (.lst .lock (xs.map f)))[n]? with
      | some (.lst .lock ys) => (μ.set n (.lst .lock (xs.map f))).set n (.lst .live ys)
      | _ => (μ.set n (.lst .lock (xs.map f)))) = _
    rw [hg]
    show (μ.set n (.lst .lock (xs.map f))).set n (.lst .live (xs.map f)) = μ
    rw [List.set_set]
    obtain ⟨h1, h2⟩ := List.getElem?_eq_some_iff.mp hn
    rw [← h2]
    exact List.set_getElem_self h1
  rw [e0, if_pos (by omega), comp_run p g (fun i => by
    show (match (μ.set n (.lst .lock (xs.map f)))[n]? with
      | some (.lst .lock ys) => some ys[i]?
      | _ => none) = _
    rw [hg]) step xs.length 0 (by omega), rb_ok, ef]
  exact done
theorem o_map {f : α → D} {xs : List α} {tg : Tg} {src : Src} {elt : X} {own : List Nat} {lv : Bool} {Q : D → Sto → Prop} {env : Env} {μ : Sto} (g : α → D)
    (hs : Ok (src.ev Γ env μ) fun s μ1 => s = .fix (xs.map f) ∧ μ1 = μ ∧ xs.length < LIM)
    (step : ∀ i (h : i < xs.length), ∃ e1, tg.bind (f xs[i]) (wipeE env own) = some e1 ∧ Ok (elt.ev Γ e1 μ) fun y m => y = g xs[i] ∧ m = μ)
    (done : Ok (alloc lv (xs.map g) μ) Q) : Ok (X.ev Γ (.comp lv src tg [] elt own) env μ) Q := by
  refine o_comp (fun _ => true) g hs (fun i h => ?_) (by rw [List.filter_eq_self.mpr fun _ _ => rfl]; exact done)
  obtain ⟨e1, h1, h2⟩ := step i h
  exact ⟨e1, h1, rfl, fun _ => h2⟩
/-- each element a new cell -/
theorem o_mapR {f : α → D} {xs : List α} {tg : Tg} {src : Src} {elt : X} {own : List Nat} {lv : Bool} {Q : D → Sto → Prop} {env : Env} {μ : Sto} (c : α → Cell)
    (hs : Ok (src.ev Γ env μ) fun s μ1 => s = .fix (xs.map f) ∧ μ1 = μ ∧ xs.length < LIM)
    (step : ∀ i (h : i < xs.length) m, m = μ ++ (xs.take i).map c → ∃ e1, tg.bind (f xs[i]) (wipeE env own) = some e1 ∧ Ok (elt.ev Γ e1 m) fun y m' => y = .ref (μ.length + i) ∧ m' = m ++ [c xs[i]])
    (done : Ok (alloc lv ((List.range xs.length).map fun i => D.ref (μ.length + i)) (μ ++ xs.map c)) Q) : Ok (X.ev Γ (.comp lv src tg [] elt own) env μ) Q := by
  show Ok (rb (src.ev Γ env μ) fun s μ1 => if s.fuel μ1 ≤ LIM then rb (compN tg (X.evo Γ []) (elt.ev Γ) s (wipeE env own) (s.fuel μ1) 0 μ1) fun ys μ2 => alloc lv ys (s.free μ2) else none) Q
  rw [Ok_rb]
  refine hs.imp ?_
  rintro s μ1 ⟨rfl, rfl, hl⟩
  have e0 : Sr.fuel μ1 (.fix (xs.map f)) = xs.length + 1 := by
    show (xs.map f).length + 1 = _
    rw [List.length_map]
  rw [e0, if_pos (by omega)]
  have go : ∀ k i, i + k = xs.length → compN tg (X.evo Γ []) (elt.ev Γ) (.fix (xs.map f)) (wipeE env own) (k + 1) i (μ1 ++ (xs.take i).map c) = ok ((List.range' i k).map fun j => D.ref (μ1.length + j)) (μ1 ++ xs.map c) := by
    intro k
    induction k with
    | zero =>
      intro i hk
      unfold compN
      have e1 : Sr.at (μ1 ++ (xs.take i).map c) i (.fix (xs.map f)) = some none := by
        show some (xs.map f)[i]? = _
        rw [List.getElem?_eq_none (by rw [List.length_map]; omega)]
      rw [e1, List.take_of_length_le (by omega)]
      rfl
    | succ k ih =>
      intro i hk
      have hi : i < xs.length := by omega
      obtain ⟨e1, h1, h3⟩ := step i hi _ rfl
      have ea : Sr.at (μ1 ++ (xs.take i).map c) i (.fix (xs.map f)) = some (some (f xs[i])) := by
        show some (xs.map f)[i]? = _
        rw [List.getElem?_eq_getElem (by rw [List.length_map]; exact hi), List.getElem_map]
      unfold compN
      rw [ea]
      simp only [h1]
      show rb (ok (D.bl true) (μ1 ++ (xs.take i).map c)) _ = _
      rw [rb_ok]
      simp only
      have et : μ1 ++ (xs.take i).map c ++ [c xs[i]] = μ1 ++ (xs.take (i + 1)).map c := by
        rw [List.append_assoc, List.take_succ_eq_append_getElem hi, List.map_append]
        rfl
      rw [Ok_eq h3, noErr_ok, rb_ok, et, ih (i + 1) (by omega), rb_ok, List.range'_succ]
      rfl
  have g := go xs.length 0 (by omega)
  rw [List.take_zero, List.map_nil, List.append_nil] at g
  rw [g, rb_ok]
  rw [List.range_eq_range'] at done
  exact done
theorem ex_neg {b : Bool} {P : Bool → Prop} : (∃ t, b = !t ∧ P t) = P (!b) := by
  cases b <;> simp
theorem ex_neg' {b : Bool} {P : Bool → Prop} : (∃ t, (!t) = b ∧ P t) = P (!b) := by
  cases b <;> simp
/-- a statement, a word behind it, the rest -/
theorem o_cut {s : S} {r : List S} {P : Fl → Sto → Prop} {env : Env} {μ : Sto} (J : Env → Sto → Prop) (h : Ok (S.ev Γ s env μ) fun fl m => ∃ e, fl = .nx e ∧ J e m) (k : ∀ e m, J e m → Ok (S.evs Γ r e m) P) : Ok (S.evs Γ (s :: r) env μ) P := by
  rw [o_cons]
  refine h.imp ?_
  rintro fl m ⟨e, rfl, hj⟩
  exact k e m hj
theorem o_cutR {s : S} {r : List S} {P : Fl → Sto → Prop} {env : Env} {μ : Sto} (J : Env → Sto → Prop) (h : Ok (S.ev Γ s env μ) fun fl m => match fl with
    | .nx e => J e m
    | .rt d => P (.rt d) m) (k : ∀ e m, J e m → Ok (S.evs Γ r e m) P) : Ok (S.evs Γ (s :: r) env μ) P := by
  rw [o_cons]
  refine h.imp ?_
  intro fl m hj
  cases fl with
  | nx e => exact k e m hj
  | rt d => exact hj
/-- a test that changes nothing -/
theorem o_iteP {c : X} {a b : List S} {P : Fl → Sto → Prop} {env : Env} {μ : Sto} (p : Prop) [Decidable p] (h : Ok (c.ev Γ env μ) fun d m => d = .bl (decide p) ∧ m = μ) (h1 : p → Ok (S.evs Γ a env μ) P) (h2 : ¬ p → Ok (S.evs Γ b env μ) P) : Ok (S.ev Γ (.ife c a b) env μ) P := by
  rw [o_ife]
  refine h.imp ?_
  rintro d m ⟨rfl, rfl⟩
  exact ⟨_, rfl, fun q => h1 (of_decide_eq_true q), fun q => h2 (of_decide_eq_false q)⟩
theorem o_one {s : S} {P : Fl → Sto → Prop} {env : Env} {μ : Sto} (h : Ok (S.ev Γ s env μ) P) : Ok (S.evs Γ [s] env μ) P := by
  rw [o_cons]
  refine h.imp ?_
  intro fl m q
  cases fl <;> exact q
/-- a def's run -/
theorem run_ok {N : List Str} {body : List S} {ds : List D} {d : D} {μ : Sto} (h : Ok (S.evs Γ body (ds.map some ++ List.replicate (N.length - ds.length) none) []) fun fl m => fl = .rt d ∧ (d.clean = true ∧ μ = [] ∨ d.clean = false ∧ m = μ)) : runDef Γ N body ds = some (.ok (d, μ)) := by
  unfold runDef
  obtain ⟨fl, m, e, rfl, q⟩ := h.elim
  rw [e]
  show some (Except.ok (d, if d.clean = true then [] else m)) = _
  rcases q with ⟨q, rfl⟩ | ⟨q, rfl⟩
  · rw [if_pos q]
  · rw [if_neg (by rw [q]; decide)]
theorem run_nx {N : List Str} {body : List S} {ds : List D} (h : Ok (S.evs Γ body (ds.map some ++ List.replicate (N.length - ds.length) none) []) fun fl _ => ∃ e, fl = .nx e) : runDef Γ N body ds = some (.ok (.non, [])) := by
  unfold runDef
  obtain ⟨fl, m, e, _, rfl⟩ := h.elim
  rw [e]
  rfl
theorem run_ex {N : List Str} {body : List S} {ds : List D} {T : D → Prop} (h : Ok (S.evs Γ body (ds.map some ++ List.replicate (N.length - ds.length) none) []) fun fl m => ∃ d, fl = .rt d ∧ d.clean = true ∧ T d) : ∃ d, runDef Γ N body ds = some (.ok (d, [])) ∧ T d := by
  obtain ⟨fl, m, e, d, rfl, hc, ht⟩ := h.elim
  refine ⟨d, run_ok ?_, ht⟩
  rw [e]
  exact ⟨rfl, .inl ⟨hc, rfl⟩⟩
end

/-! calls -/
def giveP (o : Option (D × Sto)) (K : D → Prop) : Prop := match o with
  | some (e, _) => e.clean = true ∧ K e
  | none => False
theorem g_s {e : D} {m : Sto} {K : D → Prop} : giveP (some (e, m)) K = (e.clean = true ∧ K e) := rfl
theorem p_gT {d : D} {μ' μ : Sto} {Q : D → Sto → Prop} : Ok (give true d μ' μ) Q = giveP (frz 6 d μ') fun e => Q e μ := by
  unfold give giveP
  simp only
  cases frz 6 d μ' with
  | none => rfl
  | some p =>
    obtain ⟨e, m⟩ := p
    simp only
    rw [Ok_guard, Ok_ok]
theorem p_gF {d : D} {μ' μ : Sto} {Q : D → Sto → Prop} : Ok (give false d μ' μ) Q = ((d.ret = true ∧ μ'.all Cell.ret = true) ∧ Q (d.sh μ.length) (μ ++ μ'.map (Cell.sh μ.length))) := by
  unfold give
  simp only
  rw [Ok_guard, Ok_ok, Bool.and_eq_true]
theorem call_eq {Γ : List (Nat × Fn)} {f dn : Nat} {fz : Bool} {ds es : List D} {μ μ' : Sto} {Q : D → Sto → Prop} {F : Fn} {d : D} (hF : Γ.lookup f = some F) (hl : lendA μ F.bo (ds ++ List.replicate dn .non) = some es) (hp : es.length = F.ps.length) (hr : F.run es = some (.ok (d, μ'))) : Ok (fnth Γ f dn fz ds μ) Q = Ok (give fz d μ' μ) Q := by
  unfold fnth
  rw [hF]
  show Ok (dCall F dn fz ds μ) Q = _
  unfold dCall
  rw [hl]
  simp only
  rw [if_pos hp, hr]
theorem la_nil {μ : Sto} : lendA μ [] [] = some [] := rfl
theorem la_t {μ : Sto} {m : List Bool} {d : D} {r : List D} : lendA μ (true :: m) (d :: r) = (lend μ 8 d).bind fun x => (lendA μ m r).map (x :: ·) := by
  show (match lend μ 8 d, lendA μ m r with
    | some x, some s => some (x :: s)
    | _, _ => none) = _
  cases lend μ 8 d with
  | none => rfl
  | some x => cases lendA μ m r <;> rfl
theorem la_f {μ : Sto} {m : List Bool} {d : D} {r : List D} (h : d.clean = true) : lendA μ (false :: m) (d :: r) = (lendA μ m r).map (d :: ·) := by
  show (if d.clean = true then (lendA μ m r).map (d :: ·) else none) = _
  rw [if_pos h]
theorem rt_ints : ∀ xs : List Int, D.rets (xs.map D.int) = true
  | [] => rfl
  | x :: r => rt_ints r
theorem rt_oi : ∀ o : Option Int, (oi o).ret = true
  | none => rfl
  | some i => rfl
theorem rt_ois : ∀ xs : List (Option Int), D.rets (xs.map oi) = true
  | [] => rfl
  | x :: r => by
    show ((oi x).ret && D.rets (r.map oi)) = true
    rw [rt_oi, rt_ois r]
    rfl
theorem rt_row (r : List Int) : (row false r).ret = true := rt_ints r
theorem rt_rows : ∀ t : List (List Int), D.rets (t.map (row false)) = true
  | [] => rfl
  | x :: r => by
    show ((row false x).ret && D.rets (r.map (row false))) = true
    rw [rt_row, rt_rows r]
    rfl
theorem rt_map {α : Type} {f : α → D} (h : ∀ x, (f x).ret = true) : ∀ xs : List α, D.rets (xs.map f) = true
  | [] => rfl
  | x :: r => by
    show ((f x).ret && D.rets (r.map f)) = true
    rw [h, rt_map h r]
    rfl
theorem rt_drow (r : List (Option Int)) : (drow false r).ret = true := rt_ois r
theorem rt_drows (t : List (List (Option Int))) : D.rets (t.map (drow false)) = true := rt_map rt_drow t
theorem rt_ref (k : Nat) : (D.ref k).ret = true := rfl
theorem rt_int (k : Int) : (D.int k).ret = true := rfl
theorem rt_bl (k : Bool) : (D.bl k).ret = true := rfl
theorem rt_non : D.non.ret = true := rfl
theorem rt_str (x : Str) : (D.str x).ret = true := rfl
theorem rt_tup (xs : List D) : (D.tup xs).ret = D.rets xs := rfl
theorem sh_non (n : Nat) : D.non.sh n = .non := rfl
theorem sh_str (n : Nat) (x : Str) : (D.str x).sh n = .str x := rfl
theorem sh_tup (n : Nat) (xs : List D) : (D.tup xs).sh n = .tup (D.shs n xs) := rfl
theorem rt_cell (xs : List D) : Cell.ret (.lst .live xs) = D.rets xs := rfl
theorem rt_cons (x : D) (r : List D) : D.rets (x :: r) = (x.ret && D.rets r) := rfl
theorem rt_nil : D.rets [] = true := rfl
theorem rt_lst (xs : List D) : (D.lst false xs).ret = D.rets xs := rfl
theorem rt_app : ∀ xs ys : List D, D.rets (xs ++ ys) = (D.rets xs && D.rets ys)
  | [], ys => rfl
  | x :: r, ys => by
    show (x.ret && D.rets (r ++ ys)) = (x.ret && D.rets r && D.rets ys)
    rw [rt_app r ys, Bool.and_assoc]
theorem sh_ints (n : Nat) : ∀ xs : List Int, D.shs n (xs.map D.int) = xs.map D.int
  | [] => rfl
  | x :: r => by
    show D.int x :: D.shs n (r.map D.int) = _
    rw [sh_ints n r]
    rfl
theorem sh_oi (n : Nat) (o : Option Int) : (oi o).sh n = oi o := by cases o <;> rfl
theorem sh_ois (n : Nat) : ∀ xs : List (Option Int), D.shs n (xs.map oi) = xs.map oi
  | [] => rfl
  | x :: r => by
    show (oi x).sh n :: D.shs n (r.map oi) = _
    rw [sh_oi, sh_ois n r]
    rfl
theorem sh_row (n : Nat) (b : Bool) (r : List Int) : (row b r).sh n = row b r := by
  show D.lst b (D.shs n (r.map D.int)) = _
  rw [sh_ints]
  rfl
theorem sh_rows (n : Nat) (b : Bool) : ∀ t : List (List Int), D.shs n (t.map (row b)) = t.map (row b)
  | [] => rfl
  | x :: r => by
    show (row b x).sh n :: D.shs n (r.map (row b)) = _
    rw [sh_row, sh_rows n b r]
    rfl
theorem sh_map {α : Type} {n : Nat} {f g : α → D} (h : ∀ x, (f x).sh n = g x) : ∀ xs : List α, D.shs n (xs.map f) = xs.map g
  | [] => rfl
  | x :: r => by
    show (f x).sh n :: D.shs n (r.map f) = _
    rw [h, sh_map h r]
    rfl
theorem sh_drow (n : Nat) (b : Bool) (r : List (Option Int)) : (drow b r).sh n = drow b r := by
  show D.lst b (D.shs n (r.map oi)) = _
  rw [sh_ois]
  rfl
theorem sh_drows (n : Nat) (b : Bool) (t : List (List (Option Int))) : D.shs n (t.map (drow b)) = t.map (drow b) := sh_map (sh_drow n b) t
theorem sh_ref (n k : Nat) : (D.ref k).sh n = .ref (n + k) := rfl
theorem sh_int (n : Nat) (k : Int) : (D.int k).sh n = .int k := rfl
theorem sh_bl (n : Nat) (k : Bool) : (D.bl k).sh n = .bl k := rfl
theorem sh_cell (n : Nat) (m : Mode) (xs : List D) : Cell.sh n (.lst m xs) = .lst m (D.shs n xs) := rfl
theorem sh_cons (n : Nat) (x : D) (r : List D) : D.shs n (x :: r) = x.sh n :: D.shs n r := rfl
theorem sh_nil (n : Nat) : D.shs n [] = [] := rfl
theorem sh_lst (n : Nat) (b : Bool) (xs : List D) : (D.lst b xs).sh n = .lst b (D.shs n xs) := rfl
/-! nothing new is spoken of -/
theorem be_ints (n : Nat) : ∀ xs : List Int, D.bels n (xs.map D.int) = true
  | [] => rfl
  | x :: r => be_ints n r
theorem be_oi (n : Nat) : ∀ o : Option Int, (oi o).bel n = true
  | none => rfl
  | some i => rfl
theorem be_ois (n : Nat) : ∀ xs : List (Option Int), D.bels n (xs.map oi) = true
  | [] => rfl
  | x :: r => by
    show ((oi x).bel n && D.bels n (r.map oi)) = true
    rw [be_oi, be_ois n r]
    rfl
theorem be_row (n : Nat) (b : Bool) (r : List Int) : (row b r).bel n = true := be_ints n r
theorem be_rows (n : Nat) (b : Bool) : ∀ t : List (List Int), D.bels n (t.map (row b)) = true
  | [] => rfl
  | x :: r => by
    show ((row b x).bel n && D.bels n (r.map (row b))) = true
    rw [be_row, be_rows n b r]
    rfl
theorem be_map {α : Type} {n : Nat} {f : α → D} (h : ∀ x, (f x).bel n = true) : ∀ xs : List α, D.bels n (xs.map f) = true
  | [] => rfl
  | x :: r => by
    show ((f x).bel n && D.bels n (r.map f)) = true
    rw [h, be_map h r]
    rfl
theorem be_drow (n : Nat) (b : Bool) (r : List (Option Int)) : (drow b r).bel n = true := be_ois n r
theorem be_drows (n : Nat) (b : Bool) (t : List (List (Option Int))) : D.bels n (t.map (drow b)) = true := be_map (be_drow n b) t
theorem be_app (n : Nat) : ∀ xs ys : List D, D.bels n (xs ++ ys) = (D.bels n xs && D.bels n ys)
  | [], ys => rfl
  | x :: r, ys => by
    show (x.bel n && D.bels n (r ++ ys)) = (x.bel n && D.bels n r && D.bels n ys)
    rw [be_app n r ys, Bool.and_assoc]
theorem be_int (n : Nat) (i : Int) : (D.int i).bel n = true := rfl
theorem be_bl (n : Nat) (i : Bool) : (D.bl i).bel n = true := rfl
theorem be_non (n : Nat) : D.non.bel n = true := rfl
theorem be_str (n : Nat) (x : Str) : (D.str x).bel n = true := rfl
theorem be_scr (n : Nat) (x : List Int) : (D.scr x).bel n = true := rfl
theorem be_lst (n : Nat) (b : Bool) (xs : List D) : (D.lst b xs).bel n = D.bels n xs := rfl
theorem be_tup (n : Nat) (xs : List D) : (D.tup xs).bel n = D.bels n xs := rfl
theorem be_ref (n k : Nat) : (D.ref k).bel n = decide (k < n) := rfl
theorem be_cons (n : Nat) (x : D) (r : List D) : D.bels n (x :: r) = (x.bel n && D.bels n r) := rfl
theorem be_nil (n : Nat) : D.bels n [] = true := rfl
theorem be_cell (n : Nat) (m : Mode) (xs : List D) : Cell.bel n (.lst m xs) = D.bels n xs := rfl
theorem be_e0 (n : Nat) : envBelow n [] = true := rfl
theorem be_eN (n : Nat) (r : Env) : envBelow n (none :: r) = envBelow n r := rfl
theorem be_eS (n : Nat) (d : D) (r : Env) : envBelow n (some d :: r) = (d.bel n && envBelow n r) := rfl
theorem gc_take {n : Nat} {env : Env} {μ : Sto} (h : envBelow n env = true) (h' : (μ.take n).all (Cell.bel n) = true) : gc n env μ = μ.take n := by
  unfold gc
  rw [if_pos (by rw [h, h']; rfl)]
theorem tn (n : Nat) : Int.toNat (no_index (OfNat.ofNat n)) = n := rfl
theorem tn0 : Int.toNat 0 = 0 := rfl
theorem tn1 : Int.toNat 1 = 1 := rfl
theorem nc (n : Nat) : ((no_index (OfNat.ofNat n) : Nat) : Int) = OfNat.ofNat n := rfl
theorem nc0 : ((0 : Nat) : Int) = 0 := rfl
theorem nc1 : ((1 : Nat) : Int) = 1 := rfl
/-! small enough -/
class Sm (i : Int) (n : outParam Nat) : Prop where
  h : i.natAbs < 2 ^ n
section
variable {i j : Int} {a b : Nat}
theorem two_le {a b : Nat} (h : a ≤ b) : 2 ^ a ≤ 2 ^ b := Nat.pow_le_pow_right (by decide) h
instance [Sm i a] [Sm j b] : Sm (i + j) (a + b + 1) := ⟨by
  have h1 := (inferInstance : Sm i a).h
  have h2 := (inferInstance : Sm j b).h
  have h3 := two_le (Nat.le_add_right a b)
  have h4 := two_le (Nat.le_add_left b a)
  rw [Nat.pow_succ]
  omega⟩
instance [Sm i a] [Sm j b] : Sm (i - j) (a + b + 1) := ⟨by
  have h1 := (inferInstance : Sm i a).h
  have h2 := (inferInstance : Sm j b).h
  have h3 := two_le (Nat.le_add_right a b)
  have h4 := two_le (Nat.le_add_left b a)
  rw [Nat.pow_succ]
  omega⟩
instance [Sm i a] : Sm (-i) a := ⟨by
  have h1 := (inferInstance : Sm i a).h
  omega⟩
instance [Sm i a] [Sm j b] : Sm (i * j) (a + b) := ⟨by
  have h1 := (inferInstance : Sm i a).h
  have h2 := (inferInstance : Sm j b).h
  rw [Int.natAbs_mul, Nat.pow_add]
  exact Nat.mul_lt_mul'' h1 h2⟩
instance [Sm i a] : Sm (i / j) a := ⟨by
  have h1 := (inferInstance : Sm i a).h
  exact Nat.lt_of_le_of_lt (Int.natAbs_ediv_le_natAbs i j) h1⟩
instance (priority := low) {n : Nat} : Sm (no_index (OfNat.ofNat n : Int)) (n.log2 + 1) := ⟨by
  show (n : Int).natAbs < _
  rw [Int.natAbs_natCast]
  exact Nat.lt_log2_self⟩
instance (priority := high) {n : Nat} {i : Int} : Sm (i % (no_index (OfNat.ofNat (n + 1) : Int))) ((n + 1).log2 + 1) := ⟨by
  have h : (OfNat.ofNat (n + 1) : Int) = ((n + 1 : Nat) : Int) := rfl
  rw [h]
  have h1 := Int.emod_nonneg i (show ((n + 1 : Nat) : Int) ≠ 0 by omega)
  have h2 := Int.emod_lt_of_pos i (show (0 : Int) < ((n + 1 : Nat) : Int) by omega)
  have h3 : n + 1 < 2 ^ ((n + 1).log2 + 1) := Nat.lt_log2_self
  omega⟩
theorem fit [Sm i a] (h : a ≤ 4000) : fits i = true := by
  have h1 := (inferInstance : Sm i a).h
  exact decide_eq_true (Nat.lt_of_lt_of_le h1 (by unfold BIG; exact two_le h))
theorem fitL (n : Nat) (h : n < 1606938044258990275541962092341162602522202993782792835301376) : fits (no_index (OfNat.ofNat n)) = true := by
  refine decide_eq_true ?_
  show (n : Int).natAbs < BIG
  rw [Int.natAbs_natCast]
  exact Nat.lt_trans h (by unfold BIG; decide)
theorem fit' (h : 0 ≤ i ∧ i < 2305843009213693951) : fits i = true := by
  refine decide_eq_true ?_
  have h1 : (2305843009213693951 : Nat) < BIG := by unfold BIG; decide
  omega
theorem mul_l (h : -18446744073709551616 < i ∧ i < 18446744073709551616) : mulOk i j = true := by
  have : small i = true := decide_eq_true (by omega)
  unfold mulOk
  rw [this, Bool.or_true, Bool.true_or]
theorem mul_r (h : -18446744073709551616 < j ∧ j < 18446744073709551616) : mulOk i j = true := by
  have : small j = true := decide_eq_true (by omega)
  unfold mulOk
  rw [this, Bool.or_true]
theorem mfit [Sm i a] [Sm j b] (h : a ≤ 4000) (h' : b ≤ 4000) : mulOk i j = true := by
  unfold mulOk
  rw [fit (i := i) h, fit (i := j) h']
  rfl
theorem mL (n : Nat) (h : n < 18446744073709551616) : mulOk (no_index (OfNat.ofNat n)) j = true := by
  refine mul_l ?_
  show -18446744073709551616 < (n : Int) ∧ (n : Int) < 18446744073709551616
  omega
theorem mR (n : Nat) (h : n < 18446744073709551616) : mulOk i (no_index (OfNat.ofNat n)) = true := by
  refine mul_r ?_
  show -18446744073709551616 < (n : Int) ∧ (n : Int) < 18446744073709551616
  omega
theorem sm_of {n : Nat} (h : -(2 ^ n : Nat) < i) (h' : i < (2 ^ n : Nat)) : Sm i n := ⟨by omega⟩
end
end Lv

set_option Elab.async false
set_option linter.all false
set_option maxRecDepth 100000
set_option autoImplicit false
/-! the end -/
namespace Lv
open PySem PySem.Spec PyProof.Rows L2
def spLaw (K : PySem.W.Frag) : Sp := fun vs H Q _ => ∃ (a : Addr) (ns : List Int), vs = [.ref a] ∧ SqL K H a (ns.map V.int) ∧ ns.length ≤ 63 ∧ ∀ H', Q (.bl true) H'
theorem law_sp {K : PySem.W.Frag} {mg : Str → Option Value} {F : Fn} (h1 : F.ps.length = 1) (run : ∀ ns : List Int, ns.length ≤ 63 → F.run [.scr ns] = some (.ok (.bl true, []))) : ∀ vs H Q E, spLaw K vs H Q E → F.sp K mg vs H Q E := by
  rintro vs H Q E ⟨a, ns, rfl, hS, hl, q⟩
  refine ⟨h1.symm, H, [.scr ns], Same.refl _, fun _ _ e => e, ⟨.ref a, [], rfl, ⟨a, rfl, hS⟩, rfl⟩, ?_⟩
  rw [run ns hl]
  intro v ρ G' H' _ _ hv
  cases hv
  exact q H'
theorem law_walk {l : PySem.W.OpenLaw} {q : Program} {loose : List Str} {XP : (Str → Option Value) → Heap → Prop} {YP : World → Heap → Prop} {d : DefRec} {K : Params → PySem.W.Frag} {Fl : Fn} {k : Nat} {x : Str} (hn : l.most = some 63) (hdf : d.params.defaults = []) (hr : Room k callerA)
    (hY : ∀ (w : World) (h : Heap), YP w h → (K w.params).In h)
    (F : ∀ (w : World) (mg : Str → Option Value) (fa : Addr) (h : Heap), (K w.params).In h → h.Ns mainGlobals mg → mg d.name = some (.ref fa) →
      ∃ fd : FuncData, (∀ (s : Shared) (u : Value), BindsTo s fd ⟨[u], []⟩ [(x, u)]) ∧ ∀ base : Heap, (K w.params).In base → base.Ns mainGlobals mg → FnOk l.prog w (K w.params) mg base CX0 k fa fd [x] (Fl.sp (K w.params) mg))
    (hps : Fl.ps.length = 1) (run : ∀ ns : List Int, ns.length ≤ 63 → Fl.run [.scr ns] = some (.ok (.bl true, []))) :
    PySem.W.WalkO q loose XP YP l.row.toRowW d [] (fun f vs => PySem.call f vs) :=
  L2.walk_of (n := 63) (k := k) (x := x) (CX := fun _ => CX0) (sp := fun w => spLaw (K w.params)) hn (by decide) hdf hr hY
    (fun w mg fa h KX G hm => by
      obtain ⟨fd, h1, h2⟩ := F w mg fa h KX G hm
      exact ⟨fd, h1, fun base KB GB => (h2 base KB GB).imp (law_sp hps run)⟩)
    (fun w H a ns hl _ hS => ⟨a, ns, rfl, hS, hl, fun _ => rfl⟩) fun _ _ _ _ _ z => z
end Lv

set_option Elab.async false
set_option linter.all false
set_option maxRecDepth 100000
set_option autoImplicit false
/-! tuples of two whole numbers -/
namespace Lv
open PySem PySem.Spec PyProof.Rows
section
variable {μ : Sto} {n : Nat}
theorem cl_pairs (xs : List (Int × Int)) : D.cleans (xs.map pairD) = true := cl_map (fun p => rfl) xs
theorem fr_pair (p : Int × Int) : frz (n + 1) (pairD p) μ = some (pairD p, μ) := by
  cases n <;> rfl
theorem fr_pairs (xs : List (Int × Int)) : frs (frz (n + 1)) (xs.map pairD) μ = some (xs.map pairD, μ) := fr_map _ xs fun p => fr_pair p
theorem rt_pairs (xs : List (Int × Int)) : D.rets (xs.map pairD) = true := rt_map (fun p => rfl) xs
theorem sh_pairs (xs : List (Int × Int)) : D.shs n (xs.map pairD) = xs.map pairD := sh_map (fun p => rfl) xs
theorem be_pairs (xs : List (Int × Int)) : D.bels n (xs.map pairD) = true := be_map (fun p => rfl) xs
def pairP (p : Int × Int) : PyData := .tuple [.int p.1, .int p.2]
theorem py_pair (p : Int × Int) : py μ (n + 1) (pairD p) = some (pairP p) := by
  unfold pairD pairP
  rw [py_tup]
  simp only [omap_cons, omap_nil, py_int, Option.map_some]
  rfl
theorem py_pairs (xs : List (Int × Int)) : omap (py μ (n + 1)) (xs.map pairD) = some (xs.map pairP) := omap_map (fun p => py_pair p) xs
theorem ev_pair (p q : Int × Int) : PyData.eqv (pairP p) (pairP q) = decide (p = q) := by
  unfold pairP
  rw [ev_tup, ev_cons, ev_cons, ev_nil, ev_int, ev_int]
  obtain ⟨a, b⟩ := p
  obtain ⟨c, d⟩ := q
  exact Bool.eq_iff_iff.mpr (by simp)
theorem ev_pairs (xs ys : List (Int × Int)) : PyData.eqv (.list (xs.map pairP)) (.list (ys.map pairP)) = decide (xs = ys) := ev_lists ev_pair xs ys
theorem ev_pairs0 (xs : List (Int × Int)) : PyData.eqv (.list (xs.map pairP)) (.list []) = decide (xs = []) := ev_pairs xs []
theorem anyPr (zs : List (Int × Int)) (p : Int × Int) : ((zs.map pairP).any fun z => PyData.eqv z (pairP p)) = decide (p ∈ zs) := by
  rw [List.any_map, show ((fun z => PyData.eqv z (pairP p)) ∘ pairP) = fun z => decide (z = p) from funext fun z => ev_pair z p]
  exact Bool.eq_iff_iff.mpr (by simp)
theorem le_pair (p : Int × Int) : lend μ (n + 1) (pairD p) = some (pairD p) := by
  cases n <;> rfl
theorem le_pairs (xs : List (Int × Int)) : omap (lend μ (n + 1)) (xs.map pairD) = some (xs.map pairD) := (omap_map (fun p => le_pair p) xs).trans rfl
end
end Lv
namespace Lv
open PySem PySem.Spec PyProof.Rows
section
variable {α : Type} {Γ : List (Nat × Fn)}
/-- over a list that lives -/
theorem o_forL {f : α → D} {xs : List α} {tg : Tg} {src : Src} {body : List S} {P : Fl → Sto → Prop} {env : Env} {μ : Sto} (n n0 : Nat) (I : Nat → Env → Sto → Prop)
    (hs : Ok (src.ev Γ env μ) fun s μ1 => s = .cell n true ∧ μ1.length = n0 ∧ I 0 env μ1)
    (hI : ∀ i e m, I i e m → m[n]? = some (.lst .lock (xs.map f)))
    (step : ∀ i (h : i < xs.length) e m, I i e m → ∃ e1, tg.bind (f xs[i]) e = some e1 ∧ Ok (S.evs Γ body e1 m) fun fl m1 => match fl with
      | .nx e2 => I (i + 1) e2 (gc n0 e2 m1)
      | .rt d => P (.rt d) m1)
    (done : ∀ e m, I xs.length e m → P (.nx e) (m.set n (.lst .live (xs.map f)))) : Ok (S.ev Γ (.for_ tg src body) env μ) P := by
  show Ok (rb (src.ev Γ env μ) fun s μ1 => forN tg (S.evs Γ body) s μ1.length (s.fuel μ1) 0 env μ1) P
  rw [Ok_rb]
  refine hs.imp ?_
  rintro s μ1 ⟨rfl, hn, h0⟩
  have hat : ∀ i e m, I i e m → ∀ j, Sr.at m j (.cell n true) = some (xs.map f)[j]? := fun i e m h j => by
    show (match m[n]? with
      | some (.lst .lock ys) => some ys[j]?
      | _ => none) = _
    rw [hI i e m h]
  have go : ∀ k i e m, i + k = xs.length → I i e m → Ok (forN tg (S.evs Γ body) (.cell n true) n0 (k + 1) i e m) P := by
    intro k
    induction k with
    | zero =>
      intro i e m hk hi
      have hi' : i = xs.length := by omega
      unfold forN
      rw [hat i e m hi, List.getElem?_eq_none (by rw [List.length_map]; omega)]
      rw [hi'] at hi
      have hf : Sr.free m (.cell n true) = m.set n (.lst .live (xs.map f)) := by
        show (match m[n]? with
          | some (.lst .lock ys) => m.set n (.lst .live ys)
          | _ => m) = _
        rw [hI _ e m hi]
      show P (.nx e) (Sr.free m (.cell n true))
      rw [hf]
      exact done e m hi
    | succ k ih =>
      intro i e m hk hi
      have hlt : i < xs.length := by omega
      obtain ⟨e1, h1, h2⟩ := step i hlt e m hi
      unfold forN
      rw [hat i e m hi, List.getElem?_eq_getElem (by rw [List.length_map]; exact hlt), List.getElem_map]
      simp only [h1, Ok_rb]
      refine h2.imp fun fl m1 q => ?_
      cases fl with
      | nx e2 => exact ih (i + 1) e2 _ (by omega) q
      | rt d => exact q
  rw [hn]
  have e0 : Sr.fuel μ1 (.cell n true) = xs.length + 1 := by
    show (match μ1[n]? with
      | some (.lst _ xs) => xs.length + 1
      | _ => 0) = _
    rw [hI 0 env μ1 h0]
    show (xs.map f).length + 1 = _
    rw [List.length_map]
  rw [e0]
  exact go xs.length 0 env μ1 (by omega) h0
end
end Lv
namespace Lv
open PySem PySem.Spec PyProof.Rows
theorem ev_00 : PyData.eqv (.list []) (.list []) = true := by rw [ev_list, ev_nil]
end Lv
/-! defs with one default, None -/
namespace Lv
open PySem PySem.Spec PyProof.Rows L2
section
variable {P : Program} {w : World} {K : PySem.W.Frag} {mg : Str → Option Value} {base : Heap} {x qual : Str} {params : Arguments} {body : List Stmt} {scope : Scope} {f : Addr} {fd : FuncData}
theorem funD_mk {T : Addr} {oc toc : Value} {od an tod : Option Addr} {osl tsl : Array (Option Value)} {kV doc pm cdv ct : Value} {tn : Nat} (l : K.lookup f = some ⟨oc, od, .func (PySem.W.fnOf x qual params body scope (.ref T) kV doc pm an cdv ct), osl⟩)
    (c : PySem.W.codeIn K cdv qual = true) (k : PySem.W.keepIn K (.ref f) = true) (e : K.lookup T = some ⟨toc, tod, .seq #[Value.none] tn, tsl⟩) : FunD K x qual params body scope [.non] [] f (PySem.W.fnOf x qual params body scope (.ref T) kV doc pm an cdv ct) :=
  ⟨⟨oc, od, .ref T, kV, doc, pm, an, cdv, ct, osl, rfl, l, c, .inr ⟨by simp, T, _, [Value.none], tn, rfl, e, rfl, .cons rfl .nil⟩, .inl rfl⟩, k⟩
theorem dflt_binds {ps : List Str} (F : FunD K x qual params body scope [.non] [] f fd) (n : Nat) (hn : n + 1 = ps.length)
    (h0 : ∀ (T : Addr) (kV doc pm : Value) (an : Option Addr) (cdv ct : Value) (us its : List Value), us.length = n + 1 → its.length = 1 →
      ∃ k, bindArgs (PySem.W.fnOf x qual params body scope (.ref T) kV doc pm an cdv ct) ⟨us, []⟩ = seqItems? (.ref T) >>= k ∧ k (some its.toArray) = pure (ps.zip (us ++ its.drop 1)))
    (h1 : ∀ (T : Addr) (kV doc pm : Value) (an : Option Addr) (cdv ct : Value) (us its : List Value), us.length = n → its.length = 1 →
      ∃ k, bindArgs (PySem.W.fnOf x qual params body scope (.ref T) kV doc pm an cdv ct) ⟨us, []⟩ = seqItems? (.ref T) >>= k ∧ k (some its.toArray) = pure (ps.zip (us ++ its.drop 0))) : ∀ j, j ≤ 1 → Binds K fd ps (List.replicate j .none) := by
  intro j hj
  match j, hj with
  | 0, _ =>
    obtain ⟨ds, r, b⟩ := F.binds1 (ps := ps) (n + 1) 1 (by simp) (by simp; omega) h0
    cases r
    exact b
  | 1, _ =>
    obtain ⟨ds, r, b⟩ := F.binds1 (ps := ps) n 0 (by simp) (by simp; omega) h1
    cases r with
    | cons e r =>
      cases r
      cases e
      exact b
theorem def_okD {st : Stmt} {lv : Nat} {k : Ck} {body : List S} {nme : Str} {ps : List Str} {bo : List Bool} {dn : Nat} (F : FunD K x qual (defArgs st) (defBody st) (defScope st) [.non] [] f fd) (Sc : FnScope k.N ps (defScope st)) (T : TxtOk P w K mg base CX0 lv k)
    (chk : S.oks k (defScope st) (fun _ => true) body (defBody st) = true) : FnOk P w K mg base CX0 (lv + 1) f fd ps (Fn.sp K mg ⟨nme, ps, bo, dn, runDef k.Γ k.N body⟩) := by
  refine F.ok Sc (fun vs H Q E h => h.1) fun cdv A outer s H vs Q E hr h => ?_
  have q := S.sounds body (defScope st) (fun _ => true) E (cxOf CX0 P w K mg base k.N qual (defScope st) f cdv A outer s H E).nox (defBody st)
    { hN := rfl, nd := Sc.nd, hsc := rfl, calm := rfl, room := hr, pass := (fun _ _ _ _ _ _ _ h => h.elim), p0 := fun _ => (fun _ _ _ _ _ _ _ h => h.elim), own := PassesOwn.never, fns := T.fns, blt := T.blt, cst := T.cst, fnx := fun _ _ => rfl } chk
  exact ⟨_, q.nox, run_ts h⟩
end
end Lv

set_option Elab.async false
set_option linter.all false
set_option maxRecDepth 100000
set_option autoImplicit false
set_option maxHeartbeats 0
namespace Lk22
open PySem PySem.Spec PyProof.Rows Lv
def N__law_cell_at : List Str := ["_law_script", "_law_k"]
def b__law_cell_at : List S :=
  [.ife (.cmp .lt (.var 1) (.bi .len false [.var 0]))
  [.ret (.ix (.var 0) (.var 1))]
  [],
   .ret (.int 0)]
def G__law_cell_at : List (Nat × Fn) := []
def F__law_cell_at : Fn := ⟨"_law_cell_at", ["_law_script", "_law_k"], [true, true], 0, runDef G__law_cell_at N__law_cell_at b__law_cell_at⟩
theorem B__law_cell_at : F__law_cell_at.bo = [true, true] := rfl
theorem R__law_cell_at : F__law_cell_at.run = runDef G__law_cell_at N__law_cell_at b__law_cell_at := rfl
def N__law_draw : List Str := ["_law_script", "_law_k", "_law_cells", "_law_cell"]
def b__law_draw : List S :=
  [.set 2 (.slice false (.var 0) [.int 3] [.int 63]),
   .ife (.cmp .lt (.var 1) (.bi .len false [.var 2]))
  [.ret (.bin .mod true (.ix (.var 2) (.var 1)) (.bin .add false (.bin .pow false (.int 10) (.int 12)) (.int 1)))]
  [],
   .set 3 (.var 1),
   .ife (.cmp .gt (.bi .len false [.var 2]) (.int 0))
  [.set 3 (.bin .add false (.bin .mod false (.ix (.var 2) (.bin .mod false (.var 1) (.bi .len false [.var 2]))) (.bin .pow false (.int 10) (.int 12))) (.var 1))]
  [],
   .ret (.bin .mod true (.bin .mul false (.bin .mod false (.bin .mul false (.bin .mod false (.bin .mul false (.var 3) (.bin .add false (.bin .mul false (.int 2) (.var 1)) (.int 3))) (.int 2147483629)) (.int 48271)) (.int 2147483587)) (.int 466)) (.bin .add false (.bin .pow false (.int 10) (.int 12)) (.int 1)))]
def G__law_draw : List (Nat × Fn) := (16, F__law_cell_at) :: G__law_cell_at
def F__law_draw : Fn := ⟨"_law_draw", ["_law_script", "_law_k"], [true, true], 0, runDef G__law_draw N__law_draw b__law_draw⟩
theorem B__law_draw : F__law_draw.bo = [true, true] := rfl
theorem R__law_draw : F__law_draw.run = runDef G__law_draw N__law_draw b__law_draw := rfl
def N__law_table : List Str := ["_law_script", "_law_most", "_law_hands", "_law_things", "_law_kind", "_law_rows", "_law_i", "_law_row", "_law_j", "_law_worth"]
def b__law_table : List S :=
  [.set 2 (.bin .add false (.int 1) (.bin .mod false (.call 16 0 true [.var 0, .int 0]) (.int 8))),
   .set 3 (.bin .mod false (.call 16 0 true [.var 0, .int 1]) (.bin .add false (.var 1) (.int 1))),
   .ife (.cmp .eq (.bin .mod false (.bin .div false (.call 16 0 true [.var 0, .int 1]) (.int 64)) (.int 8)) (.int 5))
  [.set 3 (.int 40)]
  [],
   .set 4 (.bin .mod false (.call 16 0 true [.var 0, .int 2]) (.int 6)),
   .set 5 (.lst true []),
   .for_ (.nm 6) (.rng [.var 2])
  [.set 7 (.lst true []),
   .for_ (.nm 8) (.rng [.var 3])
  [.set 9 (.call 25 0 true [.var 0, .bin .add false (.bin .mul false (.var 6) (.var 3)) (.var 8)]),
   .ife (.or [.cmp .eq (.var 4) (.int 1), .cmp .eq (.var 4) (.int 2)])
  [.set 9 (.bin .mod false (.var 9) (.ix (.lst false [.int 4, .int 100]) (.bin .sub false (.var 4) (.int 1))))]
  [],
   .ife (.cmp .eq (.var 4) (.int 3))
  [.set 9 (.bin .mul false (.var 9) (.bin .mod false (.bin .div false (.var 9) (.int 4)) (.int 2)))]
  [],
   .ife (.and [.cmp .eq (.var 4) (.int 4), .cmp .gt (.var 6) (.int 0)])
  [.set 9 (.ix (.ix (.var 5) (.int 0)) (.var 8))]
  [],
   .expr (.mth .append (.var 7) [.var 9]),
   .kill [8, 9]],
   .expr (.mth .append (.var 5) [.frz (.var 7)]),
   .kill [6, 7, 8, 9]],
   .ret (.var 5)]
def G__law_table : List (Nat × Fn) := (25, F__law_draw) :: G__law_draw
def F__law_table : Fn := ⟨"_law_table", ["_law_script", "_law_most"], [true, true], 0, runDef G__law_table N__law_table b__law_table⟩
theorem B__law_table : F__law_table.bo = [true, true] := rfl
theorem R__law_table : F__law_table.run = runDef G__law_table N__law_table b__law_table := rfl
def N_things_of : List Str := ["table"]
def b_things_of : List S :=
  [.ret (.bi .len false [.ix (.var 0) (.int 0)])]
def G_things_of : List (Nat × Fn) := (107, F__law_table) :: G__law_table
def F_things_of : Fn := ⟨"things_of", ["table"], [true], 0, runDef G_things_of N_things_of b_things_of⟩
theorem B_things_of : F_things_of.bo = [true] := rfl
theorem R_things_of : F_things_of.run = runDef G_things_of N_things_of b_things_of := rfl
def N_nothing_dealt : List Str := ["table"]
def b_nothing_dealt : List S :=
  [.ret (.bin .mul true (.lst false [.non]) (.call 199 0 true [.var 0]))]
def G_nothing_dealt : List (Nat × Fn) := (199, F_things_of) :: G_things_of
def F_nothing_dealt : Fn := ⟨"nothing_dealt", ["table"], [true], 0, runDef G_nothing_dealt N_nothing_dealt b_nothing_dealt⟩
theorem B_nothing_dealt : F_nothing_dealt.bo = [true] := rfl
theorem R_nothing_dealt : F_nothing_dealt.run = runDef G_nothing_dealt N_nothing_dealt b_nothing_dealt := rfl
def N_dearest_of : List Str := ["row", "left", "best", "thing"]
def b_dearest_of : List S :=
  [.set 2 (.ix (.var 1) (.int 0)),
   .for_ (.nm 3) (.lst (.var 1))
  [.ife (.cmp .gt (.ix (.var 0) (.var 3)) (.ix (.var 0) (.var 2)))
  [.set 2 (.var 3)]
  [],
   .kill [3]],
   .ret (.var 2)]
def G_dearest_of : List (Nat × Fn) := (180, F_nothing_dealt) :: G_nothing_dealt
def F_dearest_of : Fn := ⟨"dearest_of", ["row", "left"], [true, true], 0, runDef G_dearest_of N_dearest_of b_dearest_of⟩
theorem B_dearest_of : F_dearest_of.bo = [true, true] := rfl
theorem R_dearest_of : F_dearest_of.run = runDef G_dearest_of N_dearest_of b_dearest_of := rfl
def N_hands_of : List Str := ["table"]
def b_hands_of : List S :=
  [.ret (.bi .len false [.var 0])]
def G_hands_of : List (Nat × Fn) := (151, F_dearest_of) :: G_dearest_of
def F_hands_of : Fn := ⟨"hands_of", ["table"], [true], 0, runDef G_hands_of N_hands_of b_hands_of⟩
theorem B_hands_of : F_hands_of.bo = [true] := rfl
theorem R_hands_of : F_hands_of.run = runDef G_hands_of N_hands_of b_hands_of := rfl
def N_is_order : List Str := ["order", "many"]
def b_is_order : List S :=
  [.ret (.cmp .eq (.bi .sorted false [.var 0]) (.lrg false [.var 1]))]
def G_is_order : List (Nat × Fn) := (163, F_hands_of) :: G_hands_of
def F_is_order : Fn := ⟨"is_order", ["order", "many"], [true, true], 0, runDef G_is_order N_is_order b_is_order⟩
theorem B_is_order : F_is_order.bo = [true, true] := rfl
theorem R_is_order : F_is_order.run = runDef G_is_order N_is_order b_is_order := rfl
def N_by_turns : List Str := ["table", "orders", "order", "deal", "left", "picks", "rounds", "hand", "thing"]
def b_by_turns : List S :=
  [.ife (.isN (.var 1))
  [.set 1 (.lst false [.lrg false [.call 163 0 true [.var 0]]])]
  [],
   .ife (.or [.cmp .eq (.bi .len false [.var 1]) (.int 0), .not (.bi .all false [.comp false (.lst (.var 1)) (.nm 2) [] (.call 173 0 true [.var 2, .call 163 0 true [.var 0]]) [2]])])
  [.never]
  [],
   .set 3 (.call 180 0 false [.var 0]),
   .set 4 (.lrg true [.call 199 0 true [.var 0]]),
   .set 5 (.lst true []),
   .set 6 (.int 0),
   .wh (.cmp .gt (.bi .len false [.var 4]) (.int 0))
  [.for_ (.nm 7) (.lst (.slice false (.ix (.var 1) (.bin .mod false (.var 6) (.bi .len false [.var 1]))) [] [.bi .len false [.var 4]]))
  [.set 8 (.call 151 0 true [.ix (.var 0) (.var 7), .var 4]),
   .expr (.mth .remove (.var 4) [.var 8]),
   .setIx (.var 3) (.var 8) (.var 7),
   .expr (.mth .append (.var 5) [.tup [.var 7, .var 8]]),
   .kill [7, 8]],
   .aug .add 6 (.int 1),
   .kill [7, 8]],
   .ret (.tup [.frz (.var 3), .frz (.var 5)])]
def G_by_turns : List (Nat × Fn) := (173, F_is_order) :: G_is_order
def F_by_turns : Fn := ⟨"by_turns", ["table", "orders"], [true, true], 1, runDef G_by_turns N_by_turns b_by_turns⟩
theorem B_by_turns : F_by_turns.bo = [true, true] := rfl
theorem R_by_turns : F_by_turns.run = runDef G_by_turns N_by_turns b_by_turns := rfl
def N__law_seen : List Str := ["_law_table_here", "_law_deal", "_law_one", "_law_other", "_law_thing"]
def b__law_seen : List S :=
  [.ret (.bi .sum false [.comp false (.rng [.bi .len false [.var 1]]) (.nm 4) [.cmp .eq (.ix (.var 1) (.var 4)) (.var 3)] (.ix (.ix (.var 0) (.var 2)) (.var 4)) [4]])]
def G__law_seen : List (Nat × Fn) := (139, F_by_turns) :: G_by_turns
def F__law_seen : Fn := ⟨"_law_seen", ["_law_table_here", "_law_deal", "_law_one", "_law_other"], [true, true, true, true], 0, runDef G__law_seen N__law_seen b__law_seen⟩
theorem B__law_seen : F__law_seen.bo = [true, true, true, true] := rfl
theorem R__law_seen : F__law_seen.run = runDef G__law_seen N__law_seen b__law_seen := rfl
def N__law_no_envy_behind : List Str := ["_law_table_here", "_law_deal", "_law_order_here", "_law_k", "_law_other"]
def b__law_no_envy_behind : List S :=
  [.for_ (.nm 3) (.rng [.bi .len false [.var 2]])
  [.for_ (.nm 4) (.lst (.slice false (.var 2) [.bin .add false (.var 3) (.int 1)] []))
  [.ife (.cmp .gt (.call 99 0 true [.var 0, .var 1, .ix (.var 2) (.var 3), .var 4]) (.call 99 0 true [.var 0, .var 1, .ix (.var 2) (.var 3), .ix (.var 2) (.var 3)]))
  [.ret (.bl false)]
  [],
   .kill [4]],
   .kill [3, 4]],
   .ret (.bl true)]
def G__law_no_envy_behind : List (Nat × Fn) := (99, F__law_seen) :: G__law_seen
def F__law_no_envy_behind : Fn := ⟨"_law_no_envy_behind", ["_law_table_here", "_law_deal", "_law_order_here"], [true, true, true], 0, runDef G__law_no_envy_behind N__law_no_envy_behind b__law_no_envy_behind⟩
theorem B__law_no_envy_behind : F__law_no_envy_behind.bo = [true, true, true] := rfl
theorem R__law_no_envy_behind : F__law_no_envy_behind.run = runDef G__law_no_envy_behind N__law_no_envy_behind b__law_no_envy_behind := rfl
def N__law_order : List Str := ["_law_cell", "_law_many", "_law_left", "_law_order_here", "_law_number"]
def b__law_order : List S :=
  [.set 2 (.lrg true [.var 1]),
   .set 3 (.lst true []),
   .set 4 (.bin .mod false (.bin .mul false (.var 0) (.int 48271)) (.int 2147483647)),
   .wh (.cmp .gt (.bi .len false [.var 2]) (.int 0))
  [.set 4 (.bin .mod false (.bin .add false (.bin .add false (.bin .mul false (.var 4) (.var 4)) (.bin .mul false (.int 48271) (.var 4))) (.bi .len false [.var 2])) (.int 2147483647)),
   .expr (.mth .append (.var 3) [.mth .popAt (.var 2) [.bin .mod false (.bin .div false (.var 4) (.int 64)) (.bi .len false [.var 2])]])],
   .ret (.var 3)]
def G__law_order : List (Nat × Fn) := (67, F__law_no_envy_behind) :: G__law_no_envy_behind
def F__law_order : Fn := ⟨"_law_order", ["_law_cell", "_law_many"], [true, true], 0, runDef G__law_order N__law_order b__law_order⟩
theorem B__law_order : F__law_order.bo = [true, true] := rfl
theorem R__law_order : F__law_order.run = runDef G__law_order N__law_order b__law_order := rfl
def N__law_first : List Str := ["_law_picks", "_law_hand", "_law_some", "_law_other", "_law_thing"]
def b__law_first : List S :=
  [.set 2 (.comp false (.lst (.var 0)) (.tup [3, 4]) [.cmp .eq (.var 3) (.var 1)] (.var 4) [3, 4]),
   .ret (.slice true (.var 2) [] [.int 1])]
def G__law_first : List (Nat × Fn) := (76, F__law_order) :: G__law_order
def F__law_first : Fn := ⟨"_law_first", ["_law_picks", "_law_hand"], [true, true], 0, runDef G__law_first N__law_first b__law_first⟩
theorem B__law_first : F__law_first.bo = [true, true] := rfl
theorem R__law_first : F__law_first.run = runDef G__law_first N__law_first b__law_first := rfl
def N_law : List Str := ["_law_script", "_law_table_here", "_law_hands", "_law_orders", "_law_k", "_law_deal", "_law_picks", "_law_order_here", "_law_hand", "_law_one", "_law_mine", "_law_other", "_law_seen_here", "_law_thing"]
def b_law : List S :=
  [.set 1 (.call 107 0 true [.var 0, .int 14]),
   .set 2 (.lrg false [.bi .len false [.var 1]]),
   .set 3 (.comp false (.rng [.bin .add false (.int 1) (.bin .mod false (.call 16 0 true [.var 0, .int 3]) (.int 4))]) (.nm 4) [] (.call 76 0 true [.call 16 0 true [.var 0, .bin .add false (.int 4) (.var 4)], .bi .len false [.var 1]]) [4]),
   .asg [5, 6] (.call 139 0 true [.var 1, .comp false (.lst (.var 3)) (.nm 7) [] (.bi .list false [.var 7]) [7]]),
   .ife (.or [.cmp .ne (.bi .len false [.var 5]) (.bi .len false [.ix (.var 1) (.int 0)]), .cmp .ne (.comp false (.lst (.var 5)) (.nm 8) [.cmp .nin (.var 8) (.var 2)] (.var 8) [8]) (.lst false [])])
  [.ret (.bl false)]
  [],
   .for_ (.nm 9) (.lst (.var 2))
  [.set 10 (.call 99 0 true [.var 1, .var 5, .var 9, .var 9]),
   .for_ (.nm 11) (.lst (.var 2))
  [.set 12 (.bin .sub false (.call 99 0 true [.var 1, .var 5, .var 9, .var 11]) (.bi .sum false [.comp false (.lst (.call 35 0 true [.var 6, .var 11])) (.nm 13) [] (.ix (.ix (.var 1) (.var 9)) (.var 13)) [13]])),
   .ife (.and [.cmp .ne (.var 11) (.var 9), .cmp .gt (.var 12) (.var 10)])
  [.ret (.bl false)]
  [],
   .kill [11, 12]],
   .kill [9, 10, 11, 12]],
   .ife (.not (.call 67 0 true [.var 1, .ix (.call 139 0 true [.var 1, .lst false [.bi .list false [.ix (.var 3) (.int 0)]]]) (.int 0), .ix (.var 3) (.int 0)]))
  [.ret (.bl false)]
  [],
   .ret (.call 67 0 false [.var 1, .ix (.call 139 1 true [.var 1]) (.int 0), .var 2])]
def G_law : List (Nat × Fn) := (35, F__law_first) :: G__law_first
def F_law : Fn := ⟨"law", ["_law_script"], [true], 0, runDef G_law N_law b_law⟩
theorem B_law : F_law.bo = [true] := rfl
theorem R_law : F_law.run = runDef G_law N_law b_law := rfl
end Lk22

set_option Elab.async false
set_option linter.all false
set_option maxRecDepth 100000
set_option autoImplicit false
namespace Lk22
open PySem Lv
def cellF (ns : List Int) (k : Int) : Int := ns.getD k.toNat 0
theorem cell_at (ns : List Int) (k : Int) (hk : 0 ≤ k) : F__law_cell_at.run [.scr ns, .int k] = some (.ok (.int (cellF ns k), [])) := by
  rw [R__law_cell_at]
  refine run_ok ?_
  simp only [b__law_cell_at, N__law_cell_at, List.map_cons, List.map_nil, List.length_cons, List.length_nil, Nat.reduceAdd, Nat.reduceSub, List.replicate, List.cons_append, List.nil_append]
  simp (disch := decide) only [ev_00, fr_pair, fr_pairs, py_pair, py_pairs, ev_pair, ev_pairs, ev_pairs0, anyPr, p_minR, p_maxR, p_sumR, p_allR, p_anyR, p_sortedR, o_nil, o_cons, o_ret, o_expr, o_set, o_asg, o_ife, o_setIx, o_aug, o_augIx, o_kill, o_pass, o_retN, seqP_nx, seqP_rt, o_var, o_int, o_bl, o_non, o_str, o_cst, o_bin, o_neg, o_cmp, o_chain, o_isN, o_notN, o_and, o_or, o_and1, o_or1, o_and2, o_or2, o_not, o_lst, o_tup, o_ix, o_slice, o_part0, o_part1, o_call, o_bi, o_isi, o_frz, o_isB, o_lrg, p_isB, p_lrg1, p_lrg2, o_rev, o_par, p_revL, p_revS, p_revR, ← List.map_reverse, o_mth0, o_mth, o_evs0, o_evs1, o_slst, o_stup, o_rng, o_enum, o_zip, o_enumT, o_lset, o_srtP, p_enumT, p_lset, p_srtP, p_listT, p_tupL, p_sliceT, p_divmod, p_var, v_0, v_s, p_add, p_addL, p_addT, p_sub, p_mul, p_mulL, p_div, p_mod, p_pow, p_neg, p_alF, p_alT, p_lst, p_tup, p_not, p_cmp, c_eq, c_ne, c_lt, c_gt, c_le, c_ge, c_in, c_nin, anyI, ev_ints0, ev_row0, ev_0ints, ev_ois0, p_isN, p_notN, p_ix, p_ixT, p_ixS, p_ixR, at_m, p_len, p_lenT, p_lenS, p_lenR, p_list, p_listS, p_listR, p_slice, p_allM, p_anyM, p_sumM, p_all, p_any, p_sum, p_max2, p_min2, p_remove, p_sorted, ints_snoc, ints_map, p_index, isl_l, py_drow, py_drows, ev_drow, ev_drows, fr_drow, fr_drows, p_sliceS, p_sliceR, p_src, p_srcS, p_srcT, p_srcR, src_l, src_f, p_rng1, p_rng2, p_enum, p_zip, p_app, p_pop, p_clear, p_rev, p_ext, p_ins, p_popAt, p_set, p_isi, p_frz, a_add, a_sub, a_mul, ixL, ixLR, cell_l, live_l, isl, py_int, py_bl, py_non, py_str, py_oi, py_lst, py_tup, py_scr, py_ints, py_bls, py_ois, py_row, py_rows, py_ref, ev_int, ev_bl, ev_str, ev_oi, ev_oI, ev_Io, ev_oN, ev_No, ev_ints, ev_row, ev_ois, ev_rows, non_oi, cut_map, ← List.map_take, ← List.map_drop, List.getElem?_cons_zero, List.getElem?_cons_succ, List.set_cons_zero, List.set_cons_succ, List.foldl_cons, List.foldl_nil, List.map_cons, List.map_nil, List.length_cons, List.length_nil, List.replicate, List.cons_append, List.nil_append, exists_eq_left, exists_eq_left', D.bl.injEq, D.int.injEq, D.tup.injEq, decide_eq_true_eq, decide_eq_false_iff_not, true_and, and_true, true_implies, List.length_map, fr_ref, fr_ints, fr_ois, fr_rows, fr_int, fr_lst, fr_row, fr_oi, fr_bl, fr_non, fr_cons, fr_nil, fr_tup, Fl.rt.injEq, Fl.nx.injEq, ex_neg, ex_neg', Bool.not_eq_true', Bool.not_eq_false', Bool.not_not, wipeE, omap_cons, omap_nil, at_0, at_1, at_2, oi_some, oi_none, oP_some, oP_none, Option.some.injEq, end_get, end_set, beq_self_eq_true, bne_self_eq_false, tn, tn0, tn1, fitL, mL, mR, nc, nc0, nc1, c_ltT, c_gtT, c_leT, ev_tup, ev_listc, ev_cons, ev_nil, ev_list0, ev_0list, c_inT, c_ninT, LIM, Int.zero_add, gc_id, Nat.le_refl, Option.map_some, Option.bind_some, isi_s, ty_int, ty_bl, ty_non, ty_lst, ty_tup, ty_str, ty_ref, ty_cl, ty_oi, isTy, Int.reduceLE, Int.reduceLT, Int.reducePow, Int.reduceAdd, Int.reduceSub, Int.reduceMul, Int.reduceNeg, Int.reduceEq, Int.reduceGT, Int.reduceGE, Int.reduceNe, Nat.reduceAdd, Nat.reduceSub, Nat.reduceLT, Nat.reduceLeDiff, Nat.reduceMul, Nat.reducePow, Nat.reduceBEq, Nat.reduceEqDiff, Int.reduceToNat, Bool.not_eq_true, Bool.not_true, Bool.not_false, Bool.not_eq_false, Bool.not_eq_eq_eq_not, reduceCtorEq, if_true, if_false, false_implies, Bool.false_eq_true, Bool.true_eq_false, and_self, not_true, not_false_iff, implies_true, forall_const, true_or, or_true, and_false, false_and, ge_iff_le, gt_iff_lt, cl_pairs, g_s, p_gT, p_gF, Bool.and_true, Bool.true_and, Bool.and_self, cl_ints, cl_bls, cl_oi, cl_ois, cl_row, cl_rows, cl_drow, cl_drows, cl_app, cl_lst, cl_cons, cl_nil, cl_int, cl_bl, cl_non, cl_str, cl_tup, fit, mfit, rt_pairs, sh_pairs, rt_bl, rt_non, rt_str, rt_tup, sh_non, sh_str, sh_tup, rt_ints, rt_oi, rt_ois, rt_row, rt_rows, rt_drow, rt_drows, rt_ref, rt_int, rt_cell, rt_cons, rt_nil, rt_lst, rt_app, p_gF, List.all_cons, List.all_nil, sh_ints, sh_oi, sh_ois, sh_row, sh_rows, sh_drow, sh_drows, sh_ref, sh_int, sh_bl, sh_cell, sh_cons, sh_nil, sh_lst, Nat.zero_add, Nat.add_zero]
  unfold cellF
  refine ⟨fun h => ⟨_, atI_pos hk h, ?_⟩, fun h => ?_⟩
  · rw [List.getD_eq_getElem?_getD, List.getElem?_eq_getElem (by omega)]
    rfl
  · rw [List.getD_eq_getElem?_getD, List.getElem?_eq_none (by omega)]
    rfl
def dealOk (hands : Int) (d : List (Option Int)) : Prop := ∀ h, some h ∈ d → 0 ≤ h ∧ h < hands
theorem draw (ns : List Int) (k : Int) (k0 : 0 ≤ k) (k1 : k ≤ 100000) : ∃ w, F__law_draw.run [.scr ns, .int k] = some (.ok (.int w, [])) ∧ 0 ≤ w ∧ w ≤ 1000000000000 := by
  have h : ∃ d, F__law_draw.run [.scr ns, .int k] = some (.ok (d, [])) ∧ ∃ w, d = .int w ∧ 0 ≤ w ∧ w ≤ 1000000000000 := by
    rw [R__law_draw]
    refine run_ex ?_
    simp only [b__law_draw, N__law_draw, List.map_cons, List.map_nil, List.length_cons, List.length_nil, Nat.reduceAdd, Nat.reduceSub, List.replicate, List.cons_append, List.nil_append]
    rw [o_cons]
    simp (disch := decide) only [ev_00, fr_pair, fr_pairs, py_pair, py_pairs, ev_pair, ev_pairs, ev_pairs0, anyPr, p_minR, p_maxR, p_sumR, p_allR, p_anyR, p_sortedR, o_nil, o_ret, o_expr, o_set, o_asg, o_ife, o_setIx, o_aug, o_augIx, o_kill, o_pass, o_retN, seqP_nx, seqP_rt, o_var, o_int, o_bl, o_non, o_str, o_cst, o_bin, o_neg, o_cmp, o_chain, o_isN, o_notN, o_and, o_or, o_and1, o_or1, o_and2, o_or2, o_not, o_lst, o_tup, o_ix, o_slice, o_part0, o_part1, o_call, o_bi, o_isi, o_frz, o_isB, o_lrg, p_isB, p_lrg1, p_lrg2, o_rev, o_par, p_revL, p_revS, p_revR, ← List.map_reverse, o_mth0, o_mth, o_evs0, o_evs1, o_slst, o_stup, o_rng, o_enum, o_zip, o_enumT, o_lset, o_srtP, p_enumT, p_lset, p_srtP, p_listT, p_tupL, p_sliceT, p_divmod, p_var, v_0, v_s, p_add, p_addL, p_addT, p_sub, p_mul, p_mulL, p_div, p_mod, p_pow, p_neg, p_alF, p_alT, p_lst, p_tup, p_not, p_cmp, c_eq, c_ne, c_lt, c_gt, c_le, c_ge, c_in, c_nin, anyI, ev_ints0, ev_row0, ev_0ints, ev_ois0, p_isN, p_notN, p_ix, p_ixT, p_ixS, p_ixR, at_m, p_len, p_lenT, p_lenS, p_lenR, p_list, p_listS, p_listR, p_slice, p_allM, p_anyM, p_sumM, p_all, p_any, p_sum, p_max2, p_min2, p_remove, p_sorted, ints_snoc, ints_map, p_index, isl_l, py_drow, py_drows, ev_drow, ev_drows, fr_drow, fr_drows, p_sliceS, p_sliceR, p_src, p_srcS, p_srcT, p_srcR, src_l, src_f, p_rng1, p_rng2, p_enum, p_zip, p_app, p_pop, p_clear, p_rev, p_ext, p_ins, p_popAt, p_set, p_isi, p_frz, a_add, a_sub, a_mul, ixL, ixLR, cell_l, live_l, isl, py_int, py_bl, py_non, py_str, py_oi, py_lst, py_tup, py_scr, py_ints, py_bls, py_ois, py_row, py_rows, py_ref, ev_int, ev_bl, ev_str, ev_oi, ev_oI, ev_Io, ev_oN, ev_No, ev_ints, ev_row, ev_ois, ev_rows, non_oi, cut_map, ← List.map_take, ← List.map_drop, List.getElem?_cons_zero, List.getElem?_cons_succ, List.set_cons_zero, List.set_cons_succ, List.foldl_cons, List.foldl_nil, List.map_cons, List.map_nil, List.length_cons, List.length_nil, List.replicate, List.cons_append, List.nil_append, exists_eq_left, exists_eq_left', D.bl.injEq, D.int.injEq, D.tup.injEq, decide_eq_true_eq, decide_eq_false_iff_not, true_and, and_true, true_implies, List.length_map, fr_ref, fr_ints, fr_ois, fr_rows, fr_int, fr_lst, fr_row, fr_oi, fr_bl, fr_non, fr_cons, fr_nil, fr_tup, Fl.rt.injEq, Fl.nx.injEq, ex_neg, ex_neg', Bool.not_eq_true', Bool.not_eq_false', Bool.not_not, wipeE, omap_cons, omap_nil, at_0, at_1, at_2, oi_some, oi_none, oP_some, oP_none, Option.some.injEq, end_get, end_set, beq_self_eq_true, bne_self_eq_false, tn, tn0, tn1, fitL, mL, mR, nc, nc0, nc1, c_ltT, c_gtT, c_leT, ev_tup, ev_listc, ev_cons, ev_nil, ev_list0, ev_0list, c_inT, c_ninT, LIM, Int.zero_add, gc_id, Nat.le_refl, Option.map_some, Option.bind_some, isi_s, ty_int, ty_bl, ty_non, ty_lst, ty_tup, ty_str, ty_ref, ty_cl, ty_oi, isTy, Int.reduceLE, Int.reduceLT, Int.reducePow, Int.reduceAdd, Int.reduceSub, Int.reduceMul, Int.reduceNeg, Int.reduceEq, Int.reduceGT, Int.reduceGE, Int.reduceNe, Nat.reduceAdd, Nat.reduceSub, Nat.reduceLT, Nat.reduceLeDiff, Nat.reduceMul, Nat.reducePow, Nat.reduceBEq, Nat.reduceEqDiff, Int.reduceToNat, Bool.not_eq_true, Bool.not_true, Bool.not_false, Bool.not_eq_false, Bool.not_eq_eq_eq_not, reduceCtorEq, if_true, if_false, false_implies, Bool.false_eq_true, Bool.true_eq_false, and_self, not_true, not_false_iff, implies_true, forall_const, true_or, or_true, and_false, false_and, ge_iff_le, gt_iff_lt, cl_pairs, g_s, p_gT, p_gF, Bool.and_true, Bool.true_and, Bool.and_self, cl_ints, cl_bls, cl_oi, cl_ois, cl_row, cl_rows, cl_drow, cl_drows, cl_app, cl_lst, cl_cons, cl_nil, cl_int, cl_bl, cl_non, cl_str, cl_tup, fit, mfit, rt_pairs, sh_pairs, rt_bl, rt_non, rt_str, rt_tup, sh_non, sh_str, sh_tup, rt_ints, rt_oi, rt_ois, rt_row, rt_rows, rt_drow, rt_drows, rt_ref, rt_int, rt_cell, rt_cons, rt_nil, rt_lst, rt_app, p_gF, List.all_cons, List.all_nil, sh_ints, sh_oi, sh_ois, sh_row, sh_rows, sh_drow, sh_drows, sh_ref, sh_int, sh_bl, sh_cell, sh_cons, sh_nil, sh_lst, Nat.zero_add, Nat.add_zero]
    generalize cut ns (some 3) (some 63) = cs
    have m1 : ∀ x, mulOk x (2 * k + 3) = true := fun x => mul_r (by omega)
    refine o_cutR (fun e m => e = [some (.scr ns), some (.int k), some ((D.lst false (List.map D.int cs))), none] ∧ m = [] ∧ cs.length ≤ k) ?_ ?_
    · simp (disch := decide) only [ev_00, fr_pair, fr_pairs, py_pair, py_pairs, ev_pair, ev_pairs, ev_pairs0, anyPr, p_minR, p_maxR, p_sumR, p_allR, p_anyR, p_sortedR, o_nil, o_cons, o_ret, o_expr, o_set, o_asg, o_ife, o_setIx, o_aug, o_augIx, o_kill, o_pass, o_retN, seqP_nx, seqP_rt, o_var, o_int, o_bl, o_non, o_str, o_cst, o_bin, o_neg, o_cmp, o_chain, o_isN, o_notN, o_and, o_or, o_and1, o_or1, o_and2, o_or2, o_not, o_lst, o_tup, o_ix, o_slice, o_part0, o_part1, o_call, o_bi, o_isi, o_frz, o_isB, o_lrg, p_isB, p_lrg1, p_lrg2, o_rev, o_par, p_revL, p_revS, p_revR, ← List.map_reverse, o_mth0, o_mth, o_evs0, o_evs1, o_slst, o_stup, o_rng, o_enum, o_zip, o_enumT, o_lset, o_srtP, p_enumT, p_lset, p_srtP, p_listT, p_tupL, p_sliceT, p_divmod, p_var, v_0, v_s, p_add, p_addL, p_addT, p_sub, p_mul, p_mulL, p_div, p_mod, p_pow, p_neg, p_alF, p_alT, p_lst, p_tup, p_not, p_cmp, c_eq, c_ne, c_lt, c_gt, c_le, c_ge, c_in, c_nin, anyI, ev_ints0, ev_row0, ev_0ints, ev_ois0, p_isN, p_notN, p_ix, p_ixT, p_ixS, p_ixR, at_m, p_len, p_lenT, p_lenS, p_lenR, p_list, p_listS, p_listR, p_slice, p_allM, p_anyM, p_sumM, p_all, p_any, p_sum, p_max2, p_min2, p_remove, p_sorted, ints_snoc, ints_map, p_index, isl_l, py_drow, py_drows, ev_drow, ev_drows, fr_drow, fr_drows, p_sliceS, p_sliceR, p_src, p_srcS, p_srcT, p_srcR, src_l, src_f, p_rng1, p_rng2, p_enum, p_zip, p_app, p_pop, p_clear, p_rev, p_ext, p_ins, p_popAt, p_set, p_isi, p_frz, a_add, a_sub, a_mul, ixL, ixLR, cell_l, live_l, isl, py_int, py_bl, py_non, py_str, py_oi, py_lst, py_tup, py_scr, py_ints, py_bls, py_ois, py_row, py_rows, py_ref, ev_int, ev_bl, ev_str, ev_oi, ev_oI, ev_Io, ev_oN, ev_No, ev_ints, ev_row, ev_ois, ev_rows, non_oi, cut_map, ← List.map_take, ← List.map_drop, List.getElem?_cons_zero, List.getElem?_cons_succ, List.set_cons_zero, List.set_cons_succ, List.foldl_cons, List.foldl_nil, List.map_cons, List.map_nil, List.length_cons, List.length_nil, List.replicate, List.cons_append, List.nil_append, exists_eq_left, exists_eq_left', D.bl.injEq, D.int.injEq, D.tup.injEq, decide_eq_true_eq, decide_eq_false_iff_not, true_and, and_true, true_implies, List.length_map, fr_ref, fr_ints, fr_ois, fr_rows, fr_int, fr_lst, fr_row, fr_oi, fr_bl, fr_non, fr_cons, fr_nil, fr_tup, Fl.rt.injEq, Fl.nx.injEq, ex_neg, ex_neg', Bool.not_eq_true', Bool.not_eq_false', Bool.not_not, wipeE, omap_cons, omap_nil, at_0, at_1, at_2, oi_some, oi_none, oP_some, oP_none, Option.some.injEq, end_get, end_set, beq_self_eq_true, bne_self_eq_false, tn, tn0, tn1, fitL, mL, mR, nc, nc0, nc1, c_ltT, c_gtT, c_leT, ev_tup, ev_listc, ev_cons, ev_nil, ev_list0, ev_0list, c_inT, c_ninT, LIM, Int.zero_add, gc_id, Nat.le_refl, Option.map_some, Option.bind_some, isi_s, ty_int, ty_bl, ty_non, ty_lst, ty_tup, ty_str, ty_ref, ty_cl, ty_oi, isTy, Int.reduceLE, Int.reduceLT, Int.reducePow, Int.reduceAdd, Int.reduceSub, Int.reduceMul, Int.reduceNeg, Int.reduceEq, Int.reduceGT, Int.reduceGE, Int.reduceNe, Nat.reduceAdd, Nat.reduceSub, Nat.reduceLT, Nat.reduceLeDiff, Nat.reduceMul, Nat.reducePow, Nat.reduceBEq, Nat.reduceEqDiff, Int.reduceToNat, Bool.not_eq_true, Bool.not_true, Bool.not_false, Bool.not_eq_false, Bool.not_eq_eq_eq_not, reduceCtorEq, if_true, if_false, false_implies, Bool.false_eq_true, Bool.true_eq_false, and_self, not_true, not_false_iff, implies_true, forall_const, true_or, or_true, and_false, false_and, ge_iff_le, gt_iff_lt, cl_pairs, g_s, p_gT, p_gF, Bool.and_true, Bool.true_and, Bool.and_self, cl_ints, cl_bls, cl_oi, cl_ois, cl_row, cl_rows, cl_drow, cl_drows, cl_app, cl_lst, cl_cons, cl_nil, cl_int, cl_bl, cl_non, cl_str, cl_tup, fit, mfit, rt_pairs, sh_pairs, rt_bl, rt_non, rt_str, rt_tup, sh_non, sh_str, sh_tup, rt_ints, rt_oi, rt_ois, rt_row, rt_rows, rt_drow, rt_drows, rt_ref, rt_int, rt_cell, rt_cons, rt_nil, rt_lst, rt_app, p_gF, List.all_cons, List.all_nil, sh_ints, sh_oi, sh_ois, sh_row, sh_rows, sh_drow, sh_drows, sh_ref, sh_int, sh_bl, sh_cell, sh_cons, sh_nil, sh_lst, Nat.zero_add, Nat.add_zero]
      exact ⟨fun q => ⟨_, atI_pos k0 q, by omega, by omega⟩, fun q => by omega⟩
    rintro e m ⟨rfl, rfl, hk⟩
    rw [o_cons]
    simp (disch := decide) only [ev_00, fr_pair, fr_pairs, py_pair, py_pairs, ev_pair, ev_pairs, ev_pairs0, anyPr, p_minR, p_maxR, p_sumR, p_allR, p_anyR, p_sortedR, o_nil, o_ret, o_expr, o_set, o_asg, o_ife, o_setIx, o_aug, o_augIx, o_kill, o_pass, o_retN, seqP_nx, seqP_rt, o_var, o_int, o_bl, o_non, o_str, o_cst, o_bin, o_neg, o_cmp, o_chain, o_isN, o_notN, o_and, o_or, o_and1, o_or1, o_and2, o_or2, o_not, o_lst, o_tup, o_ix, o_slice, o_part0, o_part1, o_call, o_bi, o_isi, o_frz, o_isB, o_lrg, p_isB, p_lrg1, p_lrg2, o_rev, o_par, p_revL, p_revS, p_revR, ← List.map_reverse, o_mth0, o_mth, o_evs0, o_evs1, o_slst, o_stup, o_rng, o_enum, o_zip, o_enumT, o_lset, o_srtP, p_enumT, p_lset, p_srtP, p_listT, p_tupL, p_sliceT, p_divmod, p_var, v_0, v_s, p_add, p_addL, p_addT, p_sub, p_mul, p_mulL, p_div, p_mod, p_pow, p_neg, p_alF, p_alT, p_lst, p_tup, p_not, p_cmp, c_eq, c_ne, c_lt, c_gt, c_le, c_ge, c_in, c_nin, anyI, ev_ints0, ev_row0, ev_0ints, ev_ois0, p_isN, p_notN, p_ix, p_ixT, p_ixS, p_ixR, at_m, p_len, p_lenT, p_lenS, p_lenR, p_list, p_listS, p_listR, p_slice, p_allM, p_anyM, p_sumM, p_all, p_any, p_sum, p_max2, p_min2, p_remove, p_sorted, ints_snoc, ints_map, p_index, isl_l, py_drow, py_drows, ev_drow, ev_drows, fr_drow, fr_drows, p_sliceS, p_sliceR, p_src, p_srcS, p_srcT, p_srcR, src_l, src_f, p_rng1, p_rng2, p_enum, p_zip, p_app, p_pop, p_clear, p_rev, p_ext, p_ins, p_popAt, p_set, p_isi, p_frz, a_add, a_sub, a_mul, ixL, ixLR, cell_l, live_l, isl, py_int, py_bl, py_non, py_str, py_oi, py_lst, py_tup, py_scr, py_ints, py_bls, py_ois, py_row, py_rows, py_ref, ev_int, ev_bl, ev_str, ev_oi, ev_oI, ev_Io, ev_oN, ev_No, ev_ints, ev_row, ev_ois, ev_rows, non_oi, cut_map, ← List.map_take, ← List.map_drop, List.getElem?_cons_zero, List.getElem?_cons_succ, List.set_cons_zero, List.set_cons_succ, List.foldl_cons, List.foldl_nil, List.map_cons, List.map_nil, List.length_cons, List.length_nil, List.replicate, List.cons_append, List.nil_append, exists_eq_left, exists_eq_left', D.bl.injEq, D.int.injEq, D.tup.injEq, decide_eq_true_eq, decide_eq_false_iff_not, true_and, and_true, true_implies, List.length_map, fr_ref, fr_ints, fr_ois, fr_rows, fr_int, fr_lst, fr_row, fr_oi, fr_bl, fr_non, fr_cons, fr_nil, fr_tup, Fl.rt.injEq, Fl.nx.injEq, ex_neg, ex_neg', Bool.not_eq_true', Bool.not_eq_false', Bool.not_not, wipeE, omap_cons, omap_nil, at_0, at_1, at_2, oi_some, oi_none, oP_some, oP_none, Option.some.injEq, end_get, end_set, beq_self_eq_true, bne_self_eq_false, tn, tn0, tn1, fitL, mL, mR, nc, nc0, nc1, c_ltT, c_gtT, c_leT, ev_tup, ev_listc, ev_cons, ev_nil, ev_list0, ev_0list, c_inT, c_ninT, LIM, Int.zero_add, gc_id, Nat.le_refl, Option.map_some, Option.bind_some, isi_s, ty_int, ty_bl, ty_non, ty_lst, ty_tup, ty_str, ty_ref, ty_cl, ty_oi, isTy, Int.reduceLE, Int.reduceLT, Int.reducePow, Int.reduceAdd, Int.reduceSub, Int.reduceMul, Int.reduceNeg, Int.reduceEq, Int.reduceGT, Int.reduceGE, Int.reduceNe, Nat.reduceAdd, Nat.reduceSub, Nat.reduceLT, Nat.reduceLeDiff, Nat.reduceMul, Nat.reducePow, Nat.reduceBEq, Nat.reduceEqDiff, Int.reduceToNat, Bool.not_eq_true, Bool.not_true, Bool.not_false, Bool.not_eq_false, Bool.not_eq_eq_eq_not, reduceCtorEq, if_true, if_false, false_implies, Bool.false_eq_true, Bool.true_eq_false, and_self, not_true, not_false_iff, implies_true, forall_const, true_or, or_true, and_false, false_and, ge_iff_le, gt_iff_lt, cl_pairs, g_s, p_gT, p_gF, Bool.and_true, Bool.true_and, Bool.and_self, cl_ints, cl_bls, cl_oi, cl_ois, cl_row, cl_rows, cl_drow, cl_drows, cl_app, cl_lst, cl_cons, cl_nil, cl_int, cl_bl, cl_non, cl_str, cl_tup, fit, mfit, rt_pairs, sh_pairs, rt_bl, rt_non, rt_str, rt_tup, sh_non, sh_str, sh_tup, rt_ints, rt_oi, rt_ois, rt_row, rt_rows, rt_drow, rt_drows, rt_ref, rt_int, rt_cell, rt_cons, rt_nil, rt_lst, rt_app, p_gF, List.all_cons, List.all_nil, sh_ints, sh_oi, sh_ois, sh_row, sh_rows, sh_drow, sh_drows, sh_ref, sh_int, sh_bl, sh_cell, sh_cons, sh_nil, sh_lst, Nat.zero_add, Nat.add_zero]
    refine o_cut (fun e m => ∃ c, e = [some (.scr ns), some (.int k), some ((D.lst false (List.map D.int cs))), some (.int c)] ∧ m = []) ?_ ?_
    · simp (disch := decide) only [ev_00, fr_pair, fr_pairs, py_pair, py_pairs, ev_pair, ev_pairs, ev_pairs0, anyPr, p_minR, p_maxR, p_sumR, p_allR, p_anyR, p_sortedR, o_nil, o_cons, o_ret, o_expr, o_set, o_asg, o_ife, o_setIx, o_aug, o_augIx, o_kill, o_pass, o_retN, seqP_nx, seqP_rt, o_var, o_int, o_bl, o_non, o_str, o_cst, o_bin, o_neg, o_cmp, o_chain, o_isN, o_notN, o_and, o_or, o_and1, o_or1, o_and2, o_or2, o_not, o_lst, o_tup, o_ix, o_slice, o_part0, o_part1, o_call, o_bi, o_isi, o_frz, o_isB, o_lrg, p_isB, p_lrg1, p_lrg2, o_rev, o_par, p_revL, p_revS, p_revR, ← List.map_reverse, o_mth0, o_mth, o_evs0, o_evs1, o_slst, o_stup, o_rng, o_enum, o_zip, o_enumT, o_lset, o_srtP, p_enumT, p_lset, p_srtP, p_listT, p_tupL, p_sliceT, p_divmod, p_var, v_0, v_s, p_add, p_addL, p_addT, p_sub, p_mul, p_mulL, p_div, p_mod, p_pow, p_neg, p_alF, p_alT, p_lst, p_tup, p_not, p_cmp, c_eq, c_ne, c_lt, c_gt, c_le, c_ge, c_in, c_nin, anyI, ev_ints0, ev_row0, ev_0ints, ev_ois0, p_isN, p_notN, p_ix, p_ixT, p_ixS, p_ixR, at_m, p_len, p_lenT, p_lenS, p_lenR, p_list, p_listS, p_listR, p_slice, p_allM, p_anyM, p_sumM, p_all, p_any, p_sum, p_max2, p_min2, p_remove, p_sorted, ints_snoc, ints_map, p_index, isl_l, py_drow, py_drows, ev_drow, ev_drows, fr_drow, fr_drows, p_sliceS, p_sliceR, p_src, p_srcS, p_srcT, p_srcR, src_l, src_f, p_rng1, p_rng2, p_enum, p_zip, p_app, p_pop, p_clear, p_rev, p_ext, p_ins, p_popAt, p_set, p_isi, p_frz, a_add, a_sub, a_mul, ixL, ixLR, cell_l, live_l, isl, py_int, py_bl, py_non, py_str, py_oi, py_lst, py_tup, py_scr, py_ints, py_bls, py_ois, py_row, py_rows, py_ref, ev_int, ev_bl, ev_str, ev_oi, ev_oI, ev_Io, ev_oN, ev_No, ev_ints, ev_row, ev_ois, ev_rows, non_oi, cut_map, ← List.map_take, ← List.map_drop, List.getElem?_cons_zero, List.getElem?_cons_succ, List.set_cons_zero, List.set_cons_succ, List.foldl_cons, List.foldl_nil, List.map_cons, List.map_nil, List.length_cons, List.length_nil, List.replicate, List.cons_append, List.nil_append, exists_eq_left, exists_eq_left', D.bl.injEq, D.int.injEq, D.tup.injEq, decide_eq_true_eq, decide_eq_false_iff_not, true_and, and_true, true_implies, List.length_map, fr_ref, fr_ints, fr_ois, fr_rows, fr_int, fr_lst, fr_row, fr_oi, fr_bl, fr_non, fr_cons, fr_nil, fr_tup, Fl.rt.injEq, Fl.nx.injEq, ex_neg, ex_neg', Bool.not_eq_true', Bool.not_eq_false', Bool.not_not, wipeE, omap_cons, omap_nil, at_0, at_1, at_2, oi_some, oi_none, oP_some, oP_none, Option.some.injEq, end_get, end_set, beq_self_eq_true, bne_self_eq_false, tn, tn0, tn1, fitL, mL, mR, nc, nc0, nc1, c_ltT, c_gtT, c_leT, ev_tup, ev_listc, ev_cons, ev_nil, ev_list0, ev_0list, c_inT, c_ninT, LIM, Int.zero_add, gc_id, Nat.le_refl, Option.map_some, Option.bind_some, isi_s, ty_int, ty_bl, ty_non, ty_lst, ty_tup, ty_str, ty_ref, ty_cl, ty_oi, isTy, Int.reduceLE, Int.reduceLT, Int.reducePow, Int.reduceAdd, Int.reduceSub, Int.reduceMul, Int.reduceNeg, Int.reduceEq, Int.reduceGT, Int.reduceGE, Int.reduceNe, Nat.reduceAdd, Nat.reduceSub, Nat.reduceLT, Nat.reduceLeDiff, Nat.reduceMul, Nat.reducePow, Nat.reduceBEq, Nat.reduceEqDiff, Int.reduceToNat, Bool.not_eq_true, Bool.not_true, Bool.not_false, Bool.not_eq_false, Bool.not_eq_eq_eq_not, reduceCtorEq, if_true, if_false, false_implies, Bool.false_eq_true, Bool.true_eq_false, and_self, not_true, not_false_iff, implies_true, forall_const, true_or, or_true, and_false, false_and, ge_iff_le, gt_iff_lt, cl_pairs, g_s, p_gT, p_gF, Bool.and_true, Bool.true_and, Bool.and_self, cl_ints, cl_bls, cl_oi, cl_ois, cl_row, cl_rows, cl_drow, cl_drows, cl_app, cl_lst, cl_cons, cl_nil, cl_int, cl_bl, cl_non, cl_str, cl_tup, fit, mfit, rt_pairs, sh_pairs, rt_bl, rt_non, rt_str, rt_tup, sh_non, sh_str, sh_tup, rt_ints, rt_oi, rt_ois, rt_row, rt_rows, rt_drow, rt_drows, rt_ref, rt_int, rt_cell, rt_cons, rt_nil, rt_lst, rt_app, p_gF, List.all_cons, List.all_nil, sh_ints, sh_oi, sh_ois, sh_row, sh_rows, sh_drow, sh_drows, sh_ref, sh_int, sh_bl, sh_cell, sh_cons, sh_nil, sh_lst, Nat.zero_add, Nat.add_zero]
      refine ⟨fun q => ⟨by omega, at_ok (Int.emod_nonneg _ (by omega)) (Int.emod_lt_of_pos _ (by omega)) ⟨_, rfl⟩⟩, fun q => ⟨_, rfl⟩⟩
    rintro e m ⟨c, rfl, rfl⟩
    simp (disch := decide) only [ev_00, fr_pair, fr_pairs, py_pair, py_pairs, ev_pair, ev_pairs, ev_pairs0, anyPr, p_minR, p_maxR, p_sumR, p_allR, p_anyR, p_sortedR, o_nil, o_cons, o_ret, o_expr, o_set, o_asg, o_ife, o_setIx, o_aug, o_augIx, o_kill, o_pass, o_retN, seqP_nx, seqP_rt, o_var, o_int, o_bl, o_non, o_str, o_cst, o_bin, o_neg, o_cmp, o_chain, o_isN, o_notN, o_and, o_or, o_and1, o_or1, o_and2, o_or2, o_not, o_lst, o_tup, o_ix, o_slice, o_part0, o_part1, o_call, o_bi, o_isi, o_frz, o_isB, o_lrg, p_isB, p_lrg1, p_lrg2, o_rev, o_par, p_revL, p_revS, p_revR, ← List.map_reverse, o_mth0, o_mth, o_evs0, o_evs1, o_slst, o_stup, o_rng, o_enum, o_zip, o_enumT, o_lset, o_srtP, p_enumT, p_lset, p_srtP, p_listT, p_tupL, p_sliceT, p_divmod, p_var, v_0, v_s, p_add, p_addL, p_addT, p_sub, p_mul, p_mulL, p_div, p_mod, p_pow, p_neg, p_alF, p_alT, p_lst, p_tup, p_not, p_cmp, c_eq, c_ne, c_lt, c_gt, c_le, c_ge, c_in, c_nin, anyI, ev_ints0, ev_row0, ev_0ints, ev_ois0, p_isN, p_notN, p_ix, p_ixT, p_ixS, p_ixR, at_m, p_len, p_lenT, p_lenS, p_lenR, p_list, p_listS, p_listR, p_slice, p_allM, p_anyM, p_sumM, p_all, p_any, p_sum, p_max2, p_min2, p_remove, p_sorted, ints_snoc, ints_map, p_index, isl_l, py_drow, py_drows, ev_drow, ev_drows, fr_drow, fr_drows, p_sliceS, p_sliceR, p_src, p_srcS, p_srcT, p_srcR, src_l, src_f, p_rng1, p_rng2, p_enum, p_zip, p_app, p_pop, p_clear, p_rev, p_ext, p_ins, p_popAt, p_set, p_isi, p_frz, a_add, a_sub, a_mul, ixL, ixLR, cell_l, live_l, isl, py_int, py_bl, py_non, py_str, py_oi, py_lst, py_tup, py_scr, py_ints, py_bls, py_ois, py_row, py_rows, py_ref, ev_int, ev_bl, ev_str, ev_oi, ev_oI, ev_Io, ev_oN, ev_No, ev_ints, ev_row, ev_ois, ev_rows, non_oi, cut_map, ← List.map_take, ← List.map_drop, List.getElem?_cons_zero, List.getElem?_cons_succ, List.set_cons_zero, List.set_cons_succ, List.foldl_cons, List.foldl_nil, List.map_cons, List.map_nil, List.length_cons, List.length_nil, List.replicate, List.cons_append, List.nil_append, exists_eq_left, exists_eq_left', D.bl.injEq, D.int.injEq, D.tup.injEq, decide_eq_true_eq, decide_eq_false_iff_not, true_and, and_true, true_implies, List.length_map, fr_ref, fr_ints, fr_ois, fr_rows, fr_int, fr_lst, fr_row, fr_oi, fr_bl, fr_non, fr_cons, fr_nil, fr_tup, Fl.rt.injEq, Fl.nx.injEq, ex_neg, ex_neg', Bool.not_eq_true', Bool.not_eq_false', Bool.not_not, wipeE, omap_cons, omap_nil, at_0, at_1, at_2, oi_some, oi_none, oP_some, oP_none, Option.some.injEq, end_get, end_set, beq_self_eq_true, bne_self_eq_false, tn, tn0, tn1, fitL, mL, mR, nc, nc0, nc1, c_ltT, c_gtT, c_leT, ev_tup, ev_listc, ev_cons, ev_nil, ev_list0, ev_0list, c_inT, c_ninT, LIM, Int.zero_add, gc_id, Nat.le_refl, Option.map_some, Option.bind_some, isi_s, ty_int, ty_bl, ty_non, ty_lst, ty_tup, ty_str, ty_ref, ty_cl, ty_oi, isTy, Int.reduceLE, Int.reduceLT, Int.reducePow, Int.reduceAdd, Int.reduceSub, Int.reduceMul, Int.reduceNeg, Int.reduceEq, Int.reduceGT, Int.reduceGE, Int.reduceNe, Nat.reduceAdd, Nat.reduceSub, Nat.reduceLT, Nat.reduceLeDiff, Nat.reduceMul, Nat.reducePow, Nat.reduceBEq, Nat.reduceEqDiff, Int.reduceToNat, Bool.not_eq_true, Bool.not_true, Bool.not_false, Bool.not_eq_false, Bool.not_eq_eq_eq_not, reduceCtorEq, if_true, if_false, false_implies, Bool.false_eq_true, Bool.true_eq_false, and_self, not_true, not_false_iff, implies_true, forall_const, true_or, or_true, and_false, false_and, ge_iff_le, gt_iff_lt, cl_pairs, g_s, p_gT, p_gF, Bool.and_true, Bool.true_and, Bool.and_self, cl_ints, cl_bls, cl_oi, cl_ois, cl_row, cl_rows, cl_drow, cl_drows, cl_app, cl_lst, cl_cons, cl_nil, cl_int, cl_bl, cl_non, cl_str, cl_tup, fit, mfit, rt_pairs, sh_pairs, rt_bl, rt_non, rt_str, rt_tup, sh_non, sh_str, sh_tup, rt_ints, rt_oi, rt_ois, rt_row, rt_rows, rt_drow, rt_drows, rt_ref, rt_int, rt_cell, rt_cons, rt_nil, rt_lst, rt_app, p_gF, List.all_cons, List.all_nil, sh_ints, sh_oi, sh_ois, sh_row, sh_rows, sh_drow, sh_drows, sh_ref, sh_int, sh_bl, sh_cell, sh_cons, sh_nil, sh_lst, Nat.zero_add, Nat.add_zero, m1]
    exact ⟨by omega, by omega⟩
  obtain ⟨d, h1, c, rfl, h2⟩ := h
  exact ⟨c, h1, h2⟩
/-- a row of a table -/
def rowOk (m : Nat) (r : List Int) : Prop := r.length = m ∧ ∀ w ∈ r, 0 ≤ w ∧ w ≤ 1000000000000
theorem rowOk_snoc {j : Nat} {r : List Int} {v : Int} (h : rowOk j r) (v0 : 0 ≤ v) (v1 : v ≤ 1000000000000) : rowOk (j + 1) (r ++ [v]) := ⟨by rw [List.length_append, h.1]; rfl, fun w hw => by
  rcases List.mem_append.mp hw with q | q
  · exact h.2 w q
  · rw [List.mem_singleton.mp q]
    exact ⟨v0, v1⟩⟩
theorem rowOk_at {m : Nat} {r : List Int} (h : rowOk m r) {P : Int → Prop} {i : Int} (i0 : 0 ≤ i) (i1 : i < m) (q : ∀ w, 0 ≤ w → w ≤ 1000000000000 → P w) : ∃ w, L2.atI r i = some w ∧ P w := by
  have hl := h.1
  refine at_ok i0 (by omega) ?_
  have := h.2 _ (List.getElem_mem (l := r) (n := i.toNat) (by omega))
  exact q _ this.1 this.2
theorem rowsOk_snoc {m : Nat} {t : List (List Int)} {r : List Int} (h : ∀ r ∈ t, rowOk m r) (hr : rowOk m r) : ∀ x ∈ t ++ [r], rowOk m x := fun x hx => by
  rcases List.mem_append.mp hx with q | q
  · exact h x q
  · rw [List.mem_singleton.mp q]
    exact hr
theorem table (ns : List Int) (mt : Int) (mt0 : 0 ≤ mt) (mt1 : mt ≤ 40) : ∃ t : List (List Int), F__law_table.run [.scr ns, .int mt] = some (.ok (.ref 0, [(Cell.lst .live (List.map (row false) t))])) ∧ (1 ≤ t.length ∧ t.length ≤ 8) ∧ ∃ m ≤ 40, ∀ r ∈ t, rowOk m r := by
  have kc := fun (k : Int) (h : 0 ≤ k) μ Q => call_eq (Γ := G__law_table) (f := 16) (dn := 0) (fz := true) (ds := [.scr ns, .int k]) (μ := μ) (Q := Q) rfl (by simp only [B__law_cell_at, le_pair, le_pairs, la_nil, la_t, la_f, Option.bind_some, Option.map_some, List.append_nil, List.replicate, le_int, le_bl, le_non, le_str, le_scr, le_oi, le_lst, le_tup, le_ints, le_bls, le_ois, le_row, le_rows, le_drow, le_drows, le_ref, cl_pairs, g_s, p_gT, p_gF, Bool.and_true, Bool.true_and, Bool.and_self, cl_ints, cl_bls, cl_oi, cl_ois, cl_row, cl_rows, cl_drow, cl_drows, cl_app, cl_lst, cl_cons, cl_nil, cl_int, cl_bl, cl_non, cl_str, cl_tup] <;> rfl) rfl (cell_at ns k h)
  have k0 := kc 0 (by omega)
  have k1 := kc 1 (by omega)
  have k2 := kc 2 (by omega)
  generalize cellF ns 0 = c0 at k0
  generalize cellF ns 1 = c1 at k1
  generalize cellF ns 2 = c2 at k2
  obtain ⟨hands, eh, h1, h2⟩ : ∃ hands : Int, 1 + c0 % 8 = hands ∧ 1 ≤ hands ∧ hands ≤ 8 := ⟨_, rfl, by omega, by omega⟩
  have q0 := Int.emod_nonneg c1 (show mt + 1 ≠ 0 by omega)
  have q1 := Int.emod_lt_of_pos c1 (show 0 < mt + 1 by omega)
  have h : Ok (S.evs G__law_table b__law_table ([D.scr ns, .int mt].map some ++ List.replicate (N__law_table.length - [D.scr ns, .int mt].length) none) []) fun fl m' => ∃ t : List (List Int), fl = .rt (.ref 0) ∧ m' = [(Cell.lst .live (List.map (row false) t))] ∧ (1 ≤ t.length ∧ t.length ≤ 8) ∧ ∃ m ≤ 40, ∀ r ∈ t, rowOk m r := by
    simp only [b__law_table, N__law_table, List.map_cons, List.map_nil, List.length_cons, List.length_nil, Nat.reduceAdd, Nat.reduceSub, List.replicate, List.cons_append, List.nil_append]
    rw [o_cons]
    simp (disch := decide) only [ev_00, fr_pair, fr_pairs, py_pair, py_pairs, ev_pair, ev_pairs, ev_pairs0, anyPr, p_minR, p_maxR, p_sumR, p_allR, p_anyR, p_sortedR, o_nil, o_ret, o_expr, o_set, o_asg, o_ife, o_setIx, o_aug, o_augIx, o_kill, o_pass, o_retN, seqP_nx, seqP_rt, o_var, o_int, o_bl, o_non, o_str, o_cst, o_bin, o_neg, o_cmp, o_chain, o_isN, o_notN, o_and, o_or, o_and1, o_or1, o_and2, o_or2, o_not, o_lst, o_tup, o_ix, o_slice, o_part0, o_part1, o_call, o_bi, o_isi, o_frz, o_isB, o_lrg, p_isB, p_lrg1, p_lrg2, o_rev, o_par, p_revL, p_revS, p_revR, ← List.map_reverse, o_mth0, o_mth, o_evs0, o_evs1, o_slst, o_stup, o_rng, o_enum, o_zip, o_enumT, o_lset, o_srtP, p_enumT, p_lset, p_srtP, p_listT, p_tupL, p_sliceT, p_divmod, p_var, v_0, v_s, p_add, p_addL, p_addT, p_sub, p_mul, p_mulL, p_div, p_mod, p_pow, p_neg, p_alF, p_alT, p_lst, p_tup, p_not, p_cmp, c_eq, c_ne, c_lt, c_gt, c_le, c_ge, c_in, c_nin, anyI, ev_ints0, ev_row0, ev_0ints, ev_ois0, p_isN, p_notN, p_ix, p_ixT, p_ixS, p_ixR, at_m, p_len, p_lenT, p_lenS, p_lenR, p_list, p_listS, p_listR, p_slice, p_allM, p_anyM, p_sumM, p_all, p_any, p_sum, p_max2, p_min2, p_remove, p_sorted, ints_snoc, ints_map, p_index, isl_l, py_drow, py_drows, ev_drow, ev_drows, fr_drow, fr_drows, p_sliceS, p_sliceR, p_src, p_srcS, p_srcT, p_srcR, src_l, src_f, p_rng1, p_rng2, p_enum, p_zip, p_app, p_pop, p_clear, p_rev, p_ext, p_ins, p_popAt, p_set, p_isi, p_frz, a_add, a_sub, a_mul, ixL, ixLR, cell_l, live_l, isl, py_int, py_bl, py_non, py_str, py_oi, py_lst, py_tup, py_scr, py_ints, py_bls, py_ois, py_row, py_rows, py_ref, ev_int, ev_bl, ev_str, ev_oi, ev_oI, ev_Io, ev_oN, ev_No, ev_ints, ev_row, ev_ois, ev_rows, non_oi, cut_map, ← List.map_take, ← List.map_drop, List.getElem?_cons_zero, List.getElem?_cons_succ, List.set_cons_zero, List.set_cons_succ, List.foldl_cons, List.foldl_nil, List.map_cons, List.map_nil, List.length_cons, List.length_nil, List.replicate, List.cons_append, List.nil_append, exists_eq_left, exists_eq_left', D.bl.injEq, D.int.injEq, D.tup.injEq, decide_eq_true_eq, decide_eq_false_iff_not, true_and, and_true, true_implies, List.length_map, fr_ref, fr_ints, fr_ois, fr_rows, fr_int, fr_lst, fr_row, fr_oi, fr_bl, fr_non, fr_cons, fr_nil, fr_tup, Fl.rt.injEq, Fl.nx.injEq, ex_neg, ex_neg', Bool.not_eq_true', Bool.not_eq_false', Bool.not_not, wipeE, omap_cons, omap_nil, at_0, at_1, at_2, oi_some, oi_none, oP_some, oP_none, Option.some.injEq, end_get, end_set, beq_self_eq_true, bne_self_eq_false, tn, tn0, tn1, fitL, mL, mR, nc, nc0, nc1, c_ltT, c_gtT, c_leT, ev_tup, ev_listc, ev_cons, ev_nil, ev_list0, ev_0list, c_inT, c_ninT, LIM, Int.zero_add, gc_id, Nat.le_refl, Option.map_some, Option.bind_some, isi_s, ty_int, ty_bl, ty_non, ty_lst, ty_tup, ty_str, ty_ref, ty_cl, ty_oi, isTy, Int.reduceLE, Int.reduceLT, Int.reducePow, Int.reduceAdd, Int.reduceSub, Int.reduceMul, Int.reduceNeg, Int.reduceEq, Int.reduceGT, Int.reduceGE, Int.reduceNe, Nat.reduceAdd, Nat.reduceSub, Nat.reduceLT, Nat.reduceLeDiff, Nat.reduceMul, Nat.reducePow, Nat.reduceBEq, Nat.reduceEqDiff, Int.reduceToNat, Bool.not_eq_true, Bool.not_true, Bool.not_false, Bool.not_eq_false, Bool.not_eq_eq_eq_not, reduceCtorEq, if_true, if_false, false_implies, Bool.false_eq_true, Bool.true_eq_false, and_self, not_true, not_false_iff, implies_true, forall_const, true_or, or_true, and_false, false_and, ge_iff_le, gt_iff_lt, cl_pairs, g_s, p_gT, p_gF, Bool.and_true, Bool.true_and, Bool.and_self, cl_ints, cl_bls, cl_oi, cl_ois, cl_row, cl_rows, cl_drow, cl_drows, cl_app, cl_lst, cl_cons, cl_nil, cl_int, cl_bl, cl_non, cl_str, cl_tup, fit, mfit, rt_pairs, sh_pairs, rt_bl, rt_non, rt_str, rt_tup, sh_non, sh_str, sh_tup, rt_ints, rt_oi, rt_ois, rt_row, rt_rows, rt_drow, rt_drows, rt_ref, rt_int, rt_cell, rt_cons, rt_nil, rt_lst, rt_app, p_gF, List.all_cons, List.all_nil, sh_ints, sh_oi, sh_ois, sh_row, sh_rows, sh_drow, sh_drows, sh_ref, sh_int, sh_bl, sh_cell, sh_cons, sh_nil, sh_lst, Nat.zero_add, Nat.add_zero, k0, eh]
    rw [o_cons]
    simp (disch := decide) only [ev_00, fr_pair, fr_pairs, py_pair, py_pairs, ev_pair, ev_pairs, ev_pairs0, anyPr, p_minR, p_maxR, p_sumR, p_allR, p_anyR, p_sortedR, o_nil, o_ret, o_expr, o_set, o_asg, o_ife, o_setIx, o_aug, o_augIx, o_kill, o_pass, o_retN, seqP_nx, seqP_rt, o_var, o_int, o_bl, o_non, o_str, o_cst, o_bin, o_neg, o_cmp, o_chain, o_isN, o_notN, o_and, o_or, o_and1, o_or1, o_and2, o_or2, o_not, o_lst, o_tup, o_ix, o_slice, o_part0, o_part1, o_call, o_bi, o_isi, o_frz, o_isB, o_lrg, p_isB, p_lrg1, p_lrg2, o_rev, o_par, p_revL, p_revS, p_revR, ← List.map_reverse, o_mth0, o_mth, o_evs0, o_evs1, o_slst, o_stup, o_rng, o_enum, o_zip, o_enumT, o_lset, o_srtP, p_enumT, p_lset, p_srtP, p_listT, p_tupL, p_sliceT, p_divmod, p_var, v_0, v_s, p_add, p_addL, p_addT, p_sub, p_mul, p_mulL, p_div, p_mod, p_pow, p_neg, p_alF, p_alT, p_lst, p_tup, p_not, p_cmp, c_eq, c_ne, c_lt, c_gt, c_le, c_ge, c_in, c_nin, anyI, ev_ints0, ev_row0, ev_0ints, ev_ois0, p_isN, p_notN, p_ix, p_ixT, p_ixS, p_ixR, at_m, p_len, p_lenT, p_lenS, p_lenR, p_list, p_listS, p_listR, p_slice, p_allM, p_anyM, p_sumM, p_all, p_any, p_sum, p_max2, p_min2, p_remove, p_sorted, ints_snoc, ints_map, p_index, isl_l, py_drow, py_drows, ev_drow, ev_drows, fr_drow, fr_drows, p_sliceS, p_sliceR, p_src, p_srcS, p_srcT, p_srcR, src_l, src_f, p_rng1, p_rng2, p_enum, p_zip, p_app, p_pop, p_clear, p_rev, p_ext, p_ins, p_popAt, p_set, p_isi, p_frz, a_add, a_sub, a_mul, ixL, ixLR, cell_l, live_l, isl, py_int, py_bl, py_non, py_str, py_oi, py_lst, py_tup, py_scr, py_ints, py_bls, py_ois, py_row, py_rows, py_ref, ev_int, ev_bl, ev_str, ev_oi, ev_oI, ev_Io, ev_oN, ev_No, ev_ints, ev_row, ev_ois, ev_rows, non_oi, cut_map, ← List.map_take, ← List.map_drop, List.getElem?_cons_zero, List.getElem?_cons_succ, List.set_cons_zero, List.set_cons_succ, List.foldl_cons, List.foldl_nil, List.map_cons, List.map_nil, List.length_cons, List.length_nil, List.replicate, List.cons_append, List.nil_append, exists_eq_left, exists_eq_left', D.bl.injEq, D.int.injEq, D.tup.injEq, decide_eq_true_eq, decide_eq_false_iff_not, true_and, and_true, true_implies, List.length_map, fr_ref, fr_ints, fr_ois, fr_rows, fr_int, fr_lst, fr_row, fr_oi, fr_bl, fr_non, fr_cons, fr_nil, fr_tup, Fl.rt.injEq, Fl.nx.injEq, ex_neg, ex_neg', Bool.not_eq_true', Bool.not_eq_false', Bool.not_not, wipeE, omap_cons, omap_nil, at_0, at_1, at_2, oi_some, oi_none, oP_some, oP_none, Option.some.injEq, end_get, end_set, beq_self_eq_true, bne_self_eq_false, tn, tn0, tn1, fitL, mL, mR, nc, nc0, nc1, c_ltT, c_gtT, c_leT, ev_tup, ev_listc, ev_cons, ev_nil, ev_list0, ev_0list, c_inT, c_ninT, LIM, Int.zero_add, gc_id, Nat.le_refl, Option.map_some, Option.bind_some, isi_s, ty_int, ty_bl, ty_non, ty_lst, ty_tup, ty_str, ty_ref, ty_cl, ty_oi, isTy, Int.reduceLE, Int.reduceLT, Int.reducePow, Int.reduceAdd, Int.reduceSub, Int.reduceMul, Int.reduceNeg, Int.reduceEq, Int.reduceGT, Int.reduceGE, Int.reduceNe, Nat.reduceAdd, Nat.reduceSub, Nat.reduceLT, Nat.reduceLeDiff, Nat.reduceMul, Nat.reducePow, Nat.reduceBEq, Nat.reduceEqDiff, Int.reduceToNat, Bool.not_eq_true, Bool.not_true, Bool.not_false, Bool.not_eq_false, Bool.not_eq_eq_eq_not, reduceCtorEq, if_true, if_false, false_implies, Bool.false_eq_true, Bool.true_eq_false, and_self, not_true, not_false_iff, implies_true, forall_const, true_or, or_true, and_false, false_and, ge_iff_le, gt_iff_lt, cl_pairs, g_s, p_gT, p_gF, Bool.and_true, Bool.true_and, Bool.and_self, cl_ints, cl_bls, cl_oi, cl_ois, cl_row, cl_rows, cl_drow, cl_drows, cl_app, cl_lst, cl_cons, cl_nil, cl_int, cl_bl, cl_non, cl_str, cl_tup, fit, mfit, rt_pairs, sh_pairs, rt_bl, rt_non, rt_str, rt_tup, sh_non, sh_str, sh_tup, rt_ints, rt_oi, rt_ois, rt_row, rt_rows, rt_drow, rt_drows, rt_ref, rt_int, rt_cell, rt_cons, rt_nil, rt_lst, rt_app, p_gF, List.all_cons, List.all_nil, sh_ints, sh_oi, sh_ois, sh_row, sh_rows, sh_drow, sh_drows, sh_ref, sh_int, sh_bl, sh_cell, sh_cons, sh_nil, sh_lst, Nat.zero_add, Nat.add_zero, k1]
    refine ⟨by omega, ?_⟩
    refine o_cut (fun e m' => ∃ m : Nat, m ≤ 40 ∧ e = [some (.scr ns), some (.int mt), some (.int hands), some (.int m), none, none, none, none, none, none] ∧ m' = []) ?_ ?_
    · simp (disch := decide) only [ev_00, fr_pair, fr_pairs, py_pair, py_pairs, ev_pair, ev_pairs, ev_pairs0, anyPr, p_minR, p_maxR, p_sumR, p_allR, p_anyR, p_sortedR, o_nil, o_cons, o_ret, o_expr, o_set, o_asg, o_ife, o_setIx, o_aug, o_augIx, o_kill, o_pass, o_retN, seqP_nx, seqP_rt, o_var, o_int, o_bl, o_non, o_str, o_cst, o_bin, o_neg, o_cmp, o_chain, o_isN, o_notN, o_and, o_or, o_and1, o_or1, o_and2, o_or2, o_not, o_lst, o_tup, o_ix, o_slice, o_part0, o_part1, o_call, o_bi, o_isi, o_frz, o_isB, o_lrg, p_isB, p_lrg1, p_lrg2, o_rev, o_par, p_revL, p_revS, p_revR, ← List.map_reverse, o_mth0, o_mth, o_evs0, o_evs1, o_slst, o_stup, o_rng, o_enum, o_zip, o_enumT, o_lset, o_srtP, p_enumT, p_lset, p_srtP, p_listT, p_tupL, p_sliceT, p_divmod, p_var, v_0, v_s, p_add, p_addL, p_addT, p_sub, p_mul, p_mulL, p_div, p_mod, p_pow, p_neg, p_alF, p_alT, p_lst, p_tup, p_not, p_cmp, c_eq, c_ne, c_lt, c_gt, c_le, c_ge, c_in, c_nin, anyI, ev_ints0, ev_row0, ev_0ints, ev_ois0, p_isN, p_notN, p_ix, p_ixT, p_ixS, p_ixR, at_m, p_len, p_lenT, p_lenS, p_lenR, p_list, p_listS, p_listR, p_slice, p_allM, p_anyM, p_sumM, p_all, p_any, p_sum, p_max2, p_min2, p_remove, p_sorted, ints_snoc, ints_map, p_index, isl_l, py_drow, py_drows, ev_drow, ev_drows, fr_drow, fr_drows, p_sliceS, p_sliceR, p_src, p_srcS, p_srcT, p_srcR, src_l, src_f, p_rng1, p_rng2, p_enum, p_zip, p_app, p_pop, p_clear, p_rev, p_ext, p_ins, p_popAt, p_set, p_isi, p_frz, a_add, a_sub, a_mul, ixL, ixLR, cell_l, live_l, isl, py_int, py_bl, py_non, py_str, py_oi, py_lst, py_tup, py_scr, py_ints, py_bls, py_ois, py_row, py_rows, py_ref, ev_int, ev_bl, ev_str, ev_oi, ev_oI, ev_Io, ev_oN, ev_No, ev_ints, ev_row, ev_ois, ev_rows, non_oi, cut_map, ← List.map_take, ← List.map_drop, List.getElem?_cons_zero, List.getElem?_cons_succ, List.set_cons_zero, List.set_cons_succ, List.foldl_cons, List.foldl_nil, List.map_cons, List.map_nil, List.length_cons, List.length_nil, List.replicate, List.cons_append, List.nil_append, exists_eq_left, exists_eq_left', D.bl.injEq, D.int.injEq, D.tup.injEq, decide_eq_true_eq, decide_eq_false_iff_not, true_and, and_true, true_implies, List.length_map, fr_ref, fr_ints, fr_ois, fr_rows, fr_int, fr_lst, fr_row, fr_oi, fr_bl, fr_non, fr_cons, fr_nil, fr_tup, Fl.rt.injEq, Fl.nx.injEq, ex_neg, ex_neg', Bool.not_eq_true', Bool.not_eq_false', Bool.not_not, wipeE, omap_cons, omap_nil, at_0, at_1, at_2, oi_some, oi_none, oP_some, oP_none, Option.some.injEq, end_get, end_set, beq_self_eq_true, bne_self_eq_false, tn, tn0, tn1, fitL, mL, mR, nc, nc0, nc1, c_ltT, c_gtT, c_leT, ev_tup, ev_listc, ev_cons, ev_nil, ev_list0, ev_0list, c_inT, c_ninT, LIM, Int.zero_add, gc_id, Nat.le_refl, Option.map_some, Option.bind_some, isi_s, ty_int, ty_bl, ty_non, ty_lst, ty_tup, ty_str, ty_ref, ty_cl, ty_oi, isTy, Int.reduceLE, Int.reduceLT, Int.reducePow, Int.reduceAdd, Int.reduceSub, Int.reduceMul, Int.reduceNeg, Int.reduceEq, Int.reduceGT, Int.reduceGE, Int.reduceNe, Nat.reduceAdd, Nat.reduceSub, Nat.reduceLT, Nat.reduceLeDiff, Nat.reduceMul, Nat.reducePow, Nat.reduceBEq, Nat.reduceEqDiff, Int.reduceToNat, Bool.not_eq_true, Bool.not_true, Bool.not_false, Bool.not_eq_false, Bool.not_eq_eq_eq_not, reduceCtorEq, if_true, if_false, false_implies, Bool.false_eq_true, Bool.true_eq_false, and_self, not_true, not_false_iff, implies_true, forall_const, true_or, or_true, and_false, false_and, ge_iff_le, gt_iff_lt, cl_pairs, g_s, p_gT, p_gF, Bool.and_true, Bool.true_and, Bool.and_self, cl_ints, cl_bls, cl_oi, cl_ois, cl_row, cl_rows, cl_drow, cl_drows, cl_app, cl_lst, cl_cons, cl_nil, cl_int, cl_bl, cl_non, cl_str, cl_tup, fit, mfit, rt_pairs, sh_pairs, rt_bl, rt_non, rt_str, rt_tup, sh_non, sh_str, sh_tup, rt_ints, rt_oi, rt_ois, rt_row, rt_rows, rt_drow, rt_drows, rt_ref, rt_int, rt_cell, rt_cons, rt_nil, rt_lst, rt_app, p_gF, List.all_cons, List.all_nil, sh_ints, sh_oi, sh_ois, sh_row, sh_rows, sh_drow, sh_drows, sh_ref, sh_int, sh_bl, sh_cell, sh_cons, sh_nil, sh_lst, Nat.zero_add, Nat.add_zero, k1]
      refine ⟨fun q => ⟨40, by omega, rfl⟩, fun q => ⟨(c1 % (mt + 1)).toNat, by omega, by rw [Int.toNat_of_nonneg q0]⟩⟩
    rintro e m' ⟨m, hm, rfl, rfl⟩
    rw [o_cons]
    simp (disch := decide) only [ev_00, fr_pair, fr_pairs, py_pair, py_pairs, ev_pair, ev_pairs, ev_pairs0, anyPr, p_minR, p_maxR, p_sumR, p_allR, p_anyR, p_sortedR, o_nil, o_ret, o_expr, o_set, o_asg, o_ife, o_setIx, o_aug, o_augIx, o_kill, o_pass, o_retN, seqP_nx, seqP_rt, o_var, o_int, o_bl, o_non, o_str, o_cst, o_bin, o_neg, o_cmp, o_chain, o_isN, o_notN, o_and, o_or, o_and1, o_or1, o_and2, o_or2, o_not, o_lst, o_tup, o_ix, o_slice, o_part0, o_part1, o_call, o_bi, o_isi, o_frz, o_isB, o_lrg, p_isB, p_lrg1, p_lrg2, o_rev, o_par, p_revL, p_revS, p_revR, ← List.map_reverse, o_mth0, o_mth, o_evs0, o_evs1, o_slst, o_stup, o_rng, o_enum, o_zip, o_enumT, o_lset, o_srtP, p_enumT, p_lset, p_srtP, p_listT, p_tupL, p_sliceT, p_divmod, p_var, v_0, v_s, p_add, p_addL, p_addT, p_sub, p_mul, p_mulL, p_div, p_mod, p_pow, p_neg, p_alF, p_alT, p_lst, p_tup, p_not, p_cmp, c_eq, c_ne, c_lt, c_gt, c_le, c_ge, c_in, c_nin, anyI, ev_ints0, ev_row0, ev_0ints, ev_ois0, p_isN, p_notN, p_ix, p_ixT, p_ixS, p_ixR, at_m, p_len, p_lenT, p_lenS, p_lenR, p_list, p_listS, p_listR, p_slice, p_allM, p_anyM, p_sumM, p_all, p_any, p_sum, p_max2, p_min2, p_remove, p_sorted, ints_snoc, ints_map, p_index, isl_l, py_drow, py_drows, ev_drow, ev_drows, fr_drow, fr_drows, p_sliceS, p_sliceR, p_src, p_srcS, p_srcT, p_srcR, src_l, src_f, p_rng1, p_rng2, p_enum, p_zip, p_app, p_pop, p_clear, p_rev, p_ext, p_ins, p_popAt, p_set, p_isi, p_frz, a_add, a_sub, a_mul, ixL, ixLR, cell_l, live_l, isl, py_int, py_bl, py_non, py_str, py_oi, py_lst, py_tup, py_scr, py_ints, py_bls, py_ois, py_row, py_rows, py_ref, ev_int, ev_bl, ev_str, ev_oi, ev_oI, ev_Io, ev_oN, ev_No, ev_ints, ev_row, ev_ois, ev_rows, non_oi, cut_map, ← List.map_take, ← List.map_drop, List.getElem?_cons_zero, List.getElem?_cons_succ, List.set_cons_zero, List.set_cons_succ, List.foldl_cons, List.foldl_nil, List.map_cons, List.map_nil, List.length_cons, List.length_nil, List.replicate, List.cons_append, List.nil_append, exists_eq_left, exists_eq_left', D.bl.injEq, D.int.injEq, D.tup.injEq, decide_eq_true_eq, decide_eq_false_iff_not, true_and, and_true, true_implies, List.length_map, fr_ref, fr_ints, fr_ois, fr_rows, fr_int, fr_lst, fr_row, fr_oi, fr_bl, fr_non, fr_cons, fr_nil, fr_tup, Fl.rt.injEq, Fl.nx.injEq, ex_neg, ex_neg', Bool.not_eq_true', Bool.not_eq_false', Bool.not_not, wipeE, omap_cons, omap_nil, at_0, at_1, at_2, oi_some, oi_none, oP_some, oP_none, Option.some.injEq, end_get, end_set, beq_self_eq_true, bne_self_eq_false, tn, tn0, tn1, fitL, mL, mR, nc, nc0, nc1, c_ltT, c_gtT, c_leT, ev_tup, ev_listc, ev_cons, ev_nil, ev_list0, ev_0list, c_inT, c_ninT, LIM, Int.zero_add, gc_id, Nat.le_refl, Option.map_some, Option.bind_some, isi_s, ty_int, ty_bl, ty_non, ty_lst, ty_tup, ty_str, ty_ref, ty_cl, ty_oi, isTy, Int.reduceLE, Int.reduceLT, Int.reducePow, Int.reduceAdd, Int.reduceSub, Int.reduceMul, Int.reduceNeg, Int.reduceEq, Int.reduceGT, Int.reduceGE, Int.reduceNe, Nat.reduceAdd, Nat.reduceSub, Nat.reduceLT, Nat.reduceLeDiff, Nat.reduceMul, Nat.reducePow, Nat.reduceBEq, Nat.reduceEqDiff, Int.reduceToNat, Bool.not_eq_true, Bool.not_true, Bool.not_false, Bool.not_eq_false, Bool.not_eq_eq_eq_not, reduceCtorEq, if_true, if_false, false_implies, Bool.false_eq_true, Bool.true_eq_false, and_self, not_true, not_false_iff, implies_true, forall_const, true_or, or_true, and_false, false_and, ge_iff_le, gt_iff_lt, cl_pairs, g_s, p_gT, p_gF, Bool.and_true, Bool.true_and, Bool.and_self, cl_ints, cl_bls, cl_oi, cl_ois, cl_row, cl_rows, cl_drow, cl_drows, cl_app, cl_lst, cl_cons, cl_nil, cl_int, cl_bl, cl_non, cl_str, cl_tup, fit, mfit, rt_pairs, sh_pairs, rt_bl, rt_non, rt_str, rt_tup, sh_non, sh_str, sh_tup, rt_ints, rt_oi, rt_ois, rt_row, rt_rows, rt_drow, rt_drows, rt_ref, rt_int, rt_cell, rt_cons, rt_nil, rt_lst, rt_app, p_gF, List.all_cons, List.all_nil, sh_ints, sh_oi, sh_ois, sh_row, sh_rows, sh_drow, sh_drows, sh_ref, sh_int, sh_bl, sh_cell, sh_cons, sh_nil, sh_lst, Nat.zero_add, Nat.add_zero, k2]
    generalize c2 % 6 = kind
    rw [o_cons]
    simp (disch := decide) only [ev_00, fr_pair, fr_pairs, py_pair, py_pairs, ev_pair, ev_pairs, ev_pairs0, anyPr, p_minR, p_maxR, p_sumR, p_allR, p_anyR, p_sortedR, o_nil, o_ret, o_expr, o_set, o_asg, o_ife, o_setIx, o_aug, o_augIx, o_kill, o_pass, o_retN, seqP_nx, seqP_rt, o_var, o_int, o_bl, o_non, o_str, o_cst, o_bin, o_neg, o_cmp, o_chain, o_isN, o_notN, o_and, o_or, o_and1, o_or1, o_and2, o_or2, o_not, o_lst, o_tup, o_ix, o_slice, o_part0, o_part1, o_call, o_bi, o_isi, o_frz, o_isB, o_lrg, p_isB, p_lrg1, p_lrg2, o_rev, o_par, p_revL, p_revS, p_revR, ← List.map_reverse, o_mth0, o_mth, o_evs0, o_evs1, o_slst, o_stup, o_rng, o_enum, o_zip, o_enumT, o_lset, o_srtP, p_enumT, p_lset, p_srtP, p_listT, p_tupL, p_sliceT, p_divmod, p_var, v_0, v_s, p_add, p_addL, p_addT, p_sub, p_mul, p_mulL, p_div, p_mod, p_pow, p_neg, p_alF, p_alT, p_lst, p_tup, p_not, p_cmp, c_eq, c_ne, c_lt, c_gt, c_le, c_ge, c_in, c_nin, anyI, ev_ints0, ev_row0, ev_0ints, ev_ois0, p_isN, p_notN, p_ix, p_ixT, p_ixS, p_ixR, at_m, p_len, p_lenT, p_lenS, p_lenR, p_list, p_listS, p_listR, p_slice, p_allM, p_anyM, p_sumM, p_all, p_any, p_sum, p_max2, p_min2, p_remove, p_sorted, ints_snoc, ints_map, p_index, isl_l, py_drow, py_drows, ev_drow, ev_drows, fr_drow, fr_drows, p_sliceS, p_sliceR, p_src, p_srcS, p_srcT, p_srcR, src_l, src_f, p_rng1, p_rng2, p_enum, p_zip, p_app, p_pop, p_clear, p_rev, p_ext, p_ins, p_popAt, p_set, p_isi, p_frz, a_add, a_sub, a_mul, ixL, ixLR, cell_l, live_l, isl, py_int, py_bl, py_non, py_str, py_oi, py_lst, py_tup, py_scr, py_ints, py_bls, py_ois, py_row, py_rows, py_ref, ev_int, ev_bl, ev_str, ev_oi, ev_oI, ev_Io, ev_oN, ev_No, ev_ints, ev_row, ev_ois, ev_rows, non_oi, cut_map, ← List.map_take, ← List.map_drop, List.getElem?_cons_zero, List.getElem?_cons_succ, List.set_cons_zero, List.set_cons_succ, List.foldl_cons, List.foldl_nil, List.map_cons, List.map_nil, List.length_cons, List.length_nil, List.replicate, List.cons_append, List.nil_append, exists_eq_left, exists_eq_left', D.bl.injEq, D.int.injEq, D.tup.injEq, decide_eq_true_eq, decide_eq_false_iff_not, true_and, and_true, true_implies, List.length_map, fr_ref, fr_ints, fr_ois, fr_rows, fr_int, fr_lst, fr_row, fr_oi, fr_bl, fr_non, fr_cons, fr_nil, fr_tup, Fl.rt.injEq, Fl.nx.injEq, ex_neg, ex_neg', Bool.not_eq_true', Bool.not_eq_false', Bool.not_not, wipeE, omap_cons, omap_nil, at_0, at_1, at_2, oi_some, oi_none, oP_some, oP_none, Option.some.injEq, end_get, end_set, beq_self_eq_true, bne_self_eq_false, tn, tn0, tn1, fitL, mL, mR, nc, nc0, nc1, c_ltT, c_gtT, c_leT, ev_tup, ev_listc, ev_cons, ev_nil, ev_list0, ev_0list, c_inT, c_ninT, LIM, Int.zero_add, gc_id, Nat.le_refl, Option.map_some, Option.bind_some, isi_s, ty_int, ty_bl, ty_non, ty_lst, ty_tup, ty_str, ty_ref, ty_cl, ty_oi, isTy, Int.reduceLE, Int.reduceLT, Int.reducePow, Int.reduceAdd, Int.reduceSub, Int.reduceMul, Int.reduceNeg, Int.reduceEq, Int.reduceGT, Int.reduceGE, Int.reduceNe, Nat.reduceAdd, Nat.reduceSub, Nat.reduceLT, Nat.reduceLeDiff, Nat.reduceMul, Nat.reducePow, Nat.reduceBEq, Nat.reduceEqDiff, Int.reduceToNat, Bool.not_eq_true, Bool.not_true, Bool.not_false, Bool.not_eq_false, Bool.not_eq_eq_eq_not, reduceCtorEq, if_true, if_false, false_implies, Bool.false_eq_true, Bool.true_eq_false, and_self, not_true, not_false_iff, implies_true, forall_const, true_or, or_true, and_false, false_and, ge_iff_le, gt_iff_lt, cl_pairs, g_s, p_gT, p_gF, Bool.and_true, Bool.true_and, Bool.and_self, cl_ints, cl_bls, cl_oi, cl_ois, cl_row, cl_rows, cl_drow, cl_drows, cl_app, cl_lst, cl_cons, cl_nil, cl_int, cl_bl, cl_non, cl_str, cl_tup, fit, mfit, rt_pairs, sh_pairs, rt_bl, rt_non, rt_str, rt_tup, sh_non, sh_str, sh_tup, rt_ints, rt_oi, rt_ois, rt_row, rt_rows, rt_drow, rt_drows, rt_ref, rt_int, rt_cell, rt_cons, rt_nil, rt_lst, rt_app, p_gF, List.all_cons, List.all_nil, sh_ints, sh_oi, sh_ois, sh_row, sh_rows, sh_drow, sh_drows, sh_ref, sh_int, sh_bl, sh_cell, sh_cons, sh_nil, sh_lst, Nat.zero_add, Nat.add_zero]
    rw [o_cons]
    refine o_for (xs := rgi 0 hands.toNat) (f := D.int) 1 (fun i e m' => ∃ t : List (List Int), e = [some (.scr ns), some (.int mt), some (.int hands), some (.int m), some (.int kind), some (.ref 0), none, none, none, none] ∧ m' = [(Cell.lst .live (List.map (row false) t))] ∧ t.length = i ∧ ∀ r ∈ t, rowOk m r) ?_ ?_ ?_
    · simp (disch := decide) only [ev_00, fr_pair, fr_pairs, py_pair, py_pairs, ev_pair, ev_pairs, ev_pairs0, anyPr, p_minR, p_maxR, p_sumR, p_allR, p_anyR, p_sortedR, o_nil, o_cons, o_ret, o_expr, o_set, o_asg, o_ife, o_setIx, o_aug, o_augIx, o_kill, o_pass, o_retN, seqP_nx, seqP_rt, o_var, o_int, o_bl, o_non, o_str, o_cst, o_bin, o_neg, o_cmp, o_chain, o_isN, o_notN, o_and, o_or, o_and1, o_or1, o_and2, o_or2, o_not, o_lst, o_tup, o_ix, o_slice, o_part0, o_part1, o_call, o_bi, o_isi, o_frz, o_isB, o_lrg, p_isB, p_lrg1, p_lrg2, o_rev, o_par, p_revL, p_revS, p_revR, ← List.map_reverse, o_mth0, o_mth, o_evs0, o_evs1, o_slst, o_stup, o_rng, o_enum, o_zip, o_enumT, o_lset, o_srtP, p_enumT, p_lset, p_srtP, p_listT, p_tupL, p_sliceT, p_divmod, p_var, v_0, v_s, p_add, p_addL, p_addT, p_sub, p_mul, p_mulL, p_div, p_mod, p_pow, p_neg, p_alF, p_alT, p_lst, p_tup, p_not, p_cmp, c_eq, c_ne, c_lt, c_gt, c_le, c_ge, c_in, c_nin, anyI, ev_ints0, ev_row0, ev_0ints, ev_ois0, p_isN, p_notN, p_ix, p_ixT, p_ixS, p_ixR, at_m, p_len, p_lenT, p_lenS, p_lenR, p_list, p_listS, p_listR, p_slice, p_allM, p_anyM, p_sumM, p_all, p_any, p_sum, p_max2, p_min2, p_remove, p_sorted, ints_snoc, ints_map, p_index, isl_l, py_drow, py_drows, ev_drow, ev_drows, fr_drow, fr_drows, p_sliceS, p_sliceR, p_src, p_srcS, p_srcT, p_srcR, src_l, src_f, p_rng1, p_rng2, p_enum, p_zip, p_app, p_pop, p_clear, p_rev, p_ext, p_ins, p_popAt, p_set, p_isi, p_frz, a_add, a_sub, a_mul, ixL, ixLR, cell_l, live_l, isl, py_int, py_bl, py_non, py_str, py_oi, py_lst, py_tup, py_scr, py_ints, py_bls, py_ois, py_row, py_rows, py_ref, ev_int, ev_bl, ev_str, ev_oi, ev_oI, ev_Io, ev_oN, ev_No, ev_ints, ev_row, ev_ois, ev_rows, non_oi, cut_map, ← List.map_take, ← List.map_drop, List.getElem?_cons_zero, List.getElem?_cons_succ, List.set_cons_zero, List.set_cons_succ, List.foldl_cons, List.foldl_nil, List.map_cons, List.map_nil, List.length_cons, List.length_nil, List.replicate, List.cons_append, List.nil_append, exists_eq_left, exists_eq_left', D.bl.injEq, D.int.injEq, D.tup.injEq, decide_eq_true_eq, decide_eq_false_iff_not, true_and, and_true, true_implies, List.length_map, fr_ref, fr_ints, fr_ois, fr_rows, fr_int, fr_lst, fr_row, fr_oi, fr_bl, fr_non, fr_cons, fr_nil, fr_tup, Fl.rt.injEq, Fl.nx.injEq, ex_neg, ex_neg', Bool.not_eq_true', Bool.not_eq_false', Bool.not_not, wipeE, omap_cons, omap_nil, at_0, at_1, at_2, oi_some, oi_none, oP_some, oP_none, Option.some.injEq, end_get, end_set, beq_self_eq_true, bne_self_eq_false, tn, tn0, tn1, fitL, mL, mR, nc, nc0, nc1, c_ltT, c_gtT, c_leT, ev_tup, ev_listc, ev_cons, ev_nil, ev_list0, ev_0list, c_inT, c_ninT, LIM, Int.zero_add, gc_id, Nat.le_refl, Option.map_some, Option.bind_some, isi_s, ty_int, ty_bl, ty_non, ty_lst, ty_tup, ty_str, ty_ref, ty_cl, ty_oi, isTy, Int.reduceLE, Int.reduceLT, Int.reducePow, Int.reduceAdd, Int.reduceSub, Int.reduceMul, Int.reduceNeg, Int.reduceEq, Int.reduceGT, Int.reduceGE, Int.reduceNe, Nat.reduceAdd, Nat.reduceSub, Nat.reduceLT, Nat.reduceLeDiff, Nat.reduceMul, Nat.reducePow, Nat.reduceBEq, Nat.reduceEqDiff, Int.reduceToNat, Bool.not_eq_true, Bool.not_true, Bool.not_false, Bool.not_eq_false, Bool.not_eq_eq_eq_not, reduceCtorEq, if_true, if_false, false_implies, Bool.false_eq_true, Bool.true_eq_false, and_self, not_true, not_false_iff, implies_true, forall_const, true_or, or_true, and_false, false_and, ge_iff_le, gt_iff_lt, cl_pairs, g_s, p_gT, p_gF, Bool.and_true, Bool.true_and, Bool.and_self, cl_ints, cl_bls, cl_oi, cl_ois, cl_row, cl_rows, cl_drow, cl_drows, cl_app, cl_lst, cl_cons, cl_nil, cl_int, cl_bl, cl_non, cl_str, cl_tup, fit, mfit, rt_pairs, sh_pairs, rt_bl, rt_non, rt_str, rt_tup, sh_non, sh_str, sh_tup, rt_ints, rt_oi, rt_ois, rt_row, rt_rows, rt_drow, rt_drows, rt_ref, rt_int, rt_cell, rt_cons, rt_nil, rt_lst, rt_app, p_gF, List.all_cons, List.all_nil, sh_ints, sh_oi, sh_ois, sh_row, sh_rows, sh_drow, sh_drows, sh_ref, sh_int, sh_bl, sh_cell, sh_cons, sh_nil, sh_lst, Nat.zero_add, Nat.add_zero]
      exact ⟨⟨by omega, by omega⟩, [], rfl, rfl, fun _ h => by cases h⟩
    · rintro i hi e m' ⟨t, rfl, rfl, hz, hb⟩
      rw [rgi_len] at hi
      refine ⟨_, rfl, ?_⟩
      rw [o_cons]
      simp (disch := decide) only [ev_00, fr_pair, fr_pairs, py_pair, py_pairs, ev_pair, ev_pairs, ev_pairs0, anyPr, p_minR, p_maxR, p_sumR, p_allR, p_anyR, p_sortedR, o_nil, o_ret, o_expr, o_set, o_asg, o_ife, o_setIx, o_aug, o_augIx, o_kill, o_pass, o_retN, seqP_nx, seqP_rt, o_var, o_int, o_bl, o_non, o_str, o_cst, o_bin, o_neg, o_cmp, o_chain, o_isN, o_notN, o_and, o_or, o_and1, o_or1, o_and2, o_or2, o_not, o_lst, o_tup, o_ix, o_slice, o_part0, o_part1, o_call, o_bi, o_isi, o_frz, o_isB, o_lrg, p_isB, p_lrg1, p_lrg2, o_rev, o_par, p_revL, p_revS, p_revR, ← List.map_reverse, o_mth0, o_mth, o_evs0, o_evs1, o_slst, o_stup, o_rng, o_enum, o_zip, o_enumT, o_lset, o_srtP, p_enumT, p_lset, p_srtP, p_listT, p_tupL, p_sliceT, p_divmod, p_var, v_0, v_s, p_add, p_addL, p_addT, p_sub, p_mul, p_mulL, p_div, p_mod, p_pow, p_neg, p_alF, p_alT, p_lst, p_tup, p_not, p_cmp, c_eq, c_ne, c_lt, c_gt, c_le, c_ge, c_in, c_nin, anyI, ev_ints0, ev_row0, ev_0ints, ev_ois0, p_isN, p_notN, p_ix, p_ixT, p_ixS, p_ixR, at_m, p_len, p_lenT, p_lenS, p_lenR, p_list, p_listS, p_listR, p_slice, p_allM, p_anyM, p_sumM, p_all, p_any, p_sum, p_max2, p_min2, p_remove, p_sorted, ints_snoc, ints_map, p_index, isl_l, py_drow, py_drows, ev_drow, ev_drows, fr_drow, fr_drows, p_sliceS, p_sliceR, p_src, p_srcS, p_srcT, p_srcR, src_l, src_f, p_rng1, p_rng2, p_enum, p_zip, p_app, p_pop, p_clear, p_rev, p_ext, p_ins, p_popAt, p_set, p_isi, p_frz, a_add, a_sub, a_mul, ixL, ixLR, cell_l, live_l, isl, py_int, py_bl, py_non, py_str, py_oi, py_lst, py_tup, py_scr, py_ints, py_bls, py_ois, py_row, py_rows, py_ref, ev_int, ev_bl, ev_str, ev_oi, ev_oI, ev_Io, ev_oN, ev_No, ev_ints, ev_row, ev_ois, ev_rows, non_oi, cut_map, ← List.map_take, ← List.map_drop, List.getElem?_cons_zero, List.getElem?_cons_succ, List.set_cons_zero, List.set_cons_succ, List.foldl_cons, List.foldl_nil, List.map_cons, List.map_nil, List.length_cons, List.length_nil, List.replicate, List.cons_append, List.nil_append, exists_eq_left, exists_eq_left', D.bl.injEq, D.int.injEq, D.tup.injEq, decide_eq_true_eq, decide_eq_false_iff_not, true_and, and_true, true_implies, List.length_map, fr_ref, fr_ints, fr_ois, fr_rows, fr_int, fr_lst, fr_row, fr_oi, fr_bl, fr_non, fr_cons, fr_nil, fr_tup, Fl.rt.injEq, Fl.nx.injEq, ex_neg, ex_neg', Bool.not_eq_true', Bool.not_eq_false', Bool.not_not, wipeE, omap_cons, omap_nil, at_0, at_1, at_2, oi_some, oi_none, oP_some, oP_none, Option.some.injEq, end_get, end_set, beq_self_eq_true, bne_self_eq_false, tn, tn0, tn1, fitL, mL, mR, nc, nc0, nc1, c_ltT, c_gtT, c_leT, ev_tup, ev_listc, ev_cons, ev_nil, ev_list0, ev_0list, c_inT, c_ninT, LIM, Int.zero_add, gc_id, Nat.le_refl, Option.map_some, Option.bind_some, isi_s, ty_int, ty_bl, ty_non, ty_lst, ty_tup, ty_str, ty_ref, ty_cl, ty_oi, isTy, Int.reduceLE, Int.reduceLT, Int.reducePow, Int.reduceAdd, Int.reduceSub, Int.reduceMul, Int.reduceNeg, Int.reduceEq, Int.reduceGT, Int.reduceGE, Int.reduceNe, Nat.reduceAdd, Nat.reduceSub, Nat.reduceLT, Nat.reduceLeDiff, Nat.reduceMul, Nat.reducePow, Nat.reduceBEq, Nat.reduceEqDiff, Int.reduceToNat, Bool.not_eq_true, Bool.not_true, Bool.not_false, Bool.not_eq_false, Bool.not_eq_eq_eq_not, reduceCtorEq, if_true, if_false, false_implies, Bool.false_eq_true, Bool.true_eq_false, and_self, not_true, not_false_iff, implies_true, forall_const, true_or, or_true, and_false, false_and, ge_iff_le, gt_iff_lt, cl_pairs, g_s, p_gT, p_gF, Bool.and_true, Bool.true_and, Bool.and_self, cl_ints, cl_bls, cl_oi, cl_ois, cl_row, cl_rows, cl_drow, cl_drows, cl_app, cl_lst, cl_cons, cl_nil, cl_int, cl_bl, cl_non, cl_str, cl_tup, fit, mfit, rt_pairs, sh_pairs, rt_bl, rt_non, rt_str, rt_tup, sh_non, sh_str, sh_tup, rt_ints, rt_oi, rt_ois, rt_row, rt_rows, rt_drow, rt_drows, rt_ref, rt_int, rt_cell, rt_cons, rt_nil, rt_lst, rt_app, p_gF, List.all_cons, List.all_nil, sh_ints, sh_oi, sh_ois, sh_row, sh_rows, sh_drow, sh_drows, sh_ref, sh_int, sh_bl, sh_cell, sh_cons, sh_nil, sh_lst, Nat.zero_add, Nat.add_zero, rgi_get]
      rw [o_cons]
      refine o_for (xs := rgi 0 m) (f := D.int) 2 (fun j e m' => ∃ w : List Int, e = [some (.scr ns), some (.int mt), some (.int hands), some (.int m), some (.int kind), some (.ref 0), some (.int i), some (.ref 1), none, none] ∧ m' = [(Cell.lst .live (List.map (row false) t)), (Cell.lst .live (List.map D.int w))] ∧ rowOk j w) ?_ ?_ ?_
      · simp (disch := decide) only [ev_00, fr_pair, fr_pairs, py_pair, py_pairs, ev_pair, ev_pairs, ev_pairs0, anyPr, p_minR, p_maxR, p_sumR, p_allR, p_anyR, p_sortedR, o_nil, o_cons, o_ret, o_expr, o_set, o_asg, o_ife, o_setIx, o_aug, o_augIx, o_kill, o_pass, o_retN, seqP_nx, seqP_rt, o_var, o_int, o_bl, o_non, o_str, o_cst, o_bin, o_neg, o_cmp, o_chain, o_isN, o_notN, o_and, o_or, o_and1, o_or1, o_and2, o_or2, o_not, o_lst, o_tup, o_ix, o_slice, o_part0, o_part1, o_call, o_bi, o_isi, o_frz, o_isB, o_lrg, p_isB, p_lrg1, p_lrg2, o_rev, o_par, p_revL, p_revS, p_revR, ← List.map_reverse, o_mth0, o_mth, o_evs0, o_evs1, o_slst, o_stup, o_rng, o_enum, o_zip, o_enumT, o_lset, o_srtP, p_enumT, p_lset, p_srtP, p_listT, p_tupL, p_sliceT, p_divmod, p_var, v_0, v_s, p_add, p_addL, p_addT, p_sub, p_mul, p_mulL, p_div, p_mod, p_pow, p_neg, p_alF, p_alT, p_lst, p_tup, p_not, p_cmp, c_eq, c_ne, c_lt, c_gt, c_le, c_ge, c_in, c_nin, anyI, ev_ints0, ev_row0, ev_0ints, ev_ois0, p_isN, p_notN, p_ix, p_ixT, p_ixS, p_ixR, at_m, p_len, p_lenT, p_lenS, p_lenR, p_list, p_listS, p_listR, p_slice, p_allM, p_anyM, p_sumM, p_all, p_any, p_sum, p_max2, p_min2, p_remove, p_sorted, ints_snoc, ints_map, p_index, isl_l, py_drow, py_drows, ev_drow, ev_drows, fr_drow, fr_drows, p_sliceS, p_sliceR, p_src, p_srcS, p_srcT, p_srcR, src_l, src_f, p_rng1, p_rng2, p_enum, p_zip, p_app, p_pop, p_clear, p_rev, p_ext, p_ins, p_popAt, p_set, p_isi, p_frz, a_add, a_sub, a_mul, ixL, ixLR, cell_l, live_l, isl, py_int, py_bl, py_non, py_str, py_oi, py_lst, py_tup, py_scr, py_ints, py_bls, py_ois, py_row, py_rows, py_ref, ev_int, ev_bl, ev_str, ev_oi, ev_oI, ev_Io, ev_oN, ev_No, ev_ints, ev_row, ev_ois, ev_rows, non_oi, cut_map, ← List.map_take, ← List.map_drop, List.getElem?_cons_zero, List.getElem?_cons_succ, List.set_cons_zero, List.set_cons_succ, List.foldl_cons, List.foldl_nil, List.map_cons, List.map_nil, List.length_cons, List.length_nil, List.replicate, List.cons_append, List.nil_append, exists_eq_left, exists_eq_left', D.bl.injEq, D.int.injEq, D.tup.injEq, decide_eq_true_eq, decide_eq_false_iff_not, true_and, and_true, true_implies, List.length_map, fr_ref, fr_ints, fr_ois, fr_rows, fr_int, fr_lst, fr_row, fr_oi, fr_bl, fr_non, fr_cons, fr_nil, fr_tup, Fl.rt.injEq, Fl.nx.injEq, ex_neg, ex_neg', Bool.not_eq_true', Bool.not_eq_false', Bool.not_not, wipeE, omap_cons, omap_nil, at_0, at_1, at_2, oi_some, oi_none, oP_some, oP_none, Option.some.injEq, end_get, end_set, beq_self_eq_true, bne_self_eq_false, tn, tn0, tn1, fitL, mL, mR, nc, nc0, nc1, c_ltT, c_gtT, c_leT, ev_tup, ev_listc, ev_cons, ev_nil, ev_list0, ev_0list, c_inT, c_ninT, LIM, Int.zero_add, gc_id, Nat.le_refl, Option.map_some, Option.bind_some, isi_s, ty_int, ty_bl, ty_non, ty_lst, ty_tup, ty_str, ty_ref, ty_cl, ty_oi, isTy, Int.reduceLE, Int.reduceLT, Int.reducePow, Int.reduceAdd, Int.reduceSub, Int.reduceMul, Int.reduceNeg, Int.reduceEq, Int.reduceGT, Int.reduceGE, Int.reduceNe, Nat.reduceAdd, Nat.reduceSub, Nat.reduceLT, Nat.reduceLeDiff, Nat.reduceMul, Nat.reducePow, Nat.reduceBEq, Nat.reduceEqDiff, Int.reduceToNat, Bool.not_eq_true, Bool.not_true, Bool.not_false, Bool.not_eq_false, Bool.not_eq_eq_eq_not, reduceCtorEq, if_true, if_false, false_implies, Bool.false_eq_true, Bool.true_eq_false, and_self, not_true, not_false_iff, implies_true, forall_const, true_or, or_true, and_false, false_and, ge_iff_le, gt_iff_lt, cl_pairs, g_s, p_gT, p_gF, Bool.and_true, Bool.true_and, Bool.and_self, cl_ints, cl_bls, cl_oi, cl_ois, cl_row, cl_rows, cl_drow, cl_drows, cl_app, cl_lst, cl_cons, cl_nil, cl_int, cl_bl, cl_non, cl_str, cl_tup, fit, mfit, rt_pairs, sh_pairs, rt_bl, rt_non, rt_str, rt_tup, sh_non, sh_str, sh_tup, rt_ints, rt_oi, rt_ois, rt_row, rt_rows, rt_drow, rt_drows, rt_ref, rt_int, rt_cell, rt_cons, rt_nil, rt_lst, rt_app, p_gF, List.all_cons, List.all_nil, sh_ints, sh_oi, sh_ois, sh_row, sh_rows, sh_drow, sh_drows, sh_ref, sh_int, sh_bl, sh_cell, sh_cons, sh_nil, sh_lst, Nat.zero_add, Nat.add_zero]
        exact ⟨⟨by omega, by omega⟩, by simp, [], rfl, rfl, fun _ h => by cases h⟩
      · rintro j hj e m' ⟨w, rfl, rfl, hw⟩
        rw [rgi_len] at hj
        refine ⟨_, rfl, ?_⟩
        have g1 : (i : Int) * m ≤ 8 * 40 := Int.mul_le_mul (by omega) (by omega) (by omega) (by omega)
        have g0 : 0 ≤ (i : Int) * m := Int.mul_nonneg (by omega) (by omega)
        obtain ⟨v, hv, v0, v1⟩ := draw ns ((i : Int) * m + j) (by omega) (by omega)
        have kd := fun  Q => call_eq (Γ := G__law_table) (f := 25) (dn := 0) (fz := true) (ds := [.scr ns, .int ((i : Int) * m + j)]) (μ := [(Cell.lst .live (List.map (row false) t)), (Cell.lst .live (List.map D.int w))]) (Q := Q) rfl (by simp only [B__law_draw, le_pair, le_pairs, la_nil, la_t, la_f, Option.bind_some, Option.map_some, List.append_nil, List.replicate, le_int, le_bl, le_non, le_str, le_scr, le_oi, le_lst, le_tup, le_ints, le_bls, le_ois, le_row, le_rows, le_drow, le_drows, le_ref, cl_pairs, g_s, p_gT, p_gF, Bool.and_true, Bool.true_and, Bool.and_self, cl_ints, cl_bls, cl_oi, cl_ois, cl_row, cl_rows, cl_drow, cl_drows, cl_app, cl_lst, cl_cons, cl_nil, cl_int, cl_bl, cl_non, cl_str, cl_tup, List.getElem?_cons_zero, List.getElem?_cons_succ, le_ints, le_ois, le_rows, le_pairs] <;> rfl) rfl (hv)
        have m1 : ∀ x, mulOk (i : Int) x = true := fun x => mul_l (by omega)
        have m2 : ∀ x, mulOk (v : Int) x = true := fun x => mul_l (by omega)
        let J : Lv.Env → Sto → Prop := fun e m' => ∃ v : Int, e = [some (.scr ns), some (.int mt), some (.int hands), some (.int m), some (.int kind), some (.ref 0), some (.int i), some (.ref 1), some (.int j), some (.int v)] ∧ m' = [(Cell.lst .live (List.map (row false) t)), (Cell.lst .live (List.map D.int w))] ∧ 0 ≤ v ∧ v ≤ 1000000000000
        have hJ : ∀ v : Int, 0 ≤ v → v ≤ 1000000000000 → J ([some (.scr ns), some (.int mt), some (.int hands), some (.int m), some (.int kind), some (.ref 0), some (.int i), some (.ref 1), some (.int j), some (.int v)]) [(Cell.lst .live (List.map (row false) t)), (Cell.lst .live (List.map D.int w))] := fun v a b => ⟨v, rfl, rfl, a, b⟩
        rw [o_cons]
        simp (disch := decide) only [ev_00, fr_pair, fr_pairs, py_pair, py_pairs, ev_pair, ev_pairs, ev_pairs0, anyPr, p_minR, p_maxR, p_sumR, p_allR, p_anyR, p_sortedR, o_nil, o_ret, o_expr, o_set, o_asg, o_ife, o_setIx, o_aug, o_augIx, o_kill, o_pass, o_retN, seqP_nx, seqP_rt, o_var, o_int, o_bl, o_non, o_str, o_cst, o_bin, o_neg, o_cmp, o_chain, o_isN, o_notN, o_and, o_or, o_and1, o_or1, o_and2, o_or2, o_not, o_lst, o_tup, o_ix, o_slice, o_part0, o_part1, o_call, o_bi, o_isi, o_frz, o_isB, o_lrg, p_isB, p_lrg1, p_lrg2, o_rev, o_par, p_revL, p_revS, p_revR, ← List.map_reverse, o_mth0, o_mth, o_evs0, o_evs1, o_slst, o_stup, o_rng, o_enum, o_zip, o_enumT, o_lset, o_srtP, p_enumT, p_lset, p_srtP, p_listT, p_tupL, p_sliceT, p_divmod, p_var, v_0, v_s, p_add, p_addL, p_addT, p_sub, p_mul, p_mulL, p_div, p_mod, p_pow, p_neg, p_alF, p_alT, p_lst, p_tup, p_not, p_cmp, c_eq, c_ne, c_lt, c_gt, c_le, c_ge, c_in, c_nin, anyI, ev_ints0, ev_row0, ev_0ints, ev_ois0, p_isN, p_notN, p_ix, p_ixT, p_ixS, p_ixR, at_m, p_len, p_lenT, p_lenS, p_lenR, p_list, p_listS, p_listR, p_slice, p_allM, p_anyM, p_sumM, p_all, p_any, p_sum, p_max2, p_min2, p_remove, p_sorted, ints_snoc, ints_map, p_index, isl_l, py_drow, py_drows, ev_drow, ev_drows, fr_drow, fr_drows, p_sliceS, p_sliceR, p_src, p_srcS, p_srcT, p_srcR, src_l, src_f, p_rng1, p_rng2, p_enum, p_zip, p_app, p_pop, p_clear, p_rev, p_ext, p_ins, p_popAt, p_set, p_isi, p_frz, a_add, a_sub, a_mul, ixL, ixLR, cell_l, live_l, isl, py_int, py_bl, py_non, py_str, py_oi, py_lst, py_tup, py_scr, py_ints, py_bls, py_ois, py_row, py_rows, py_ref, ev_int, ev_bl, ev_str, ev_oi, ev_oI, ev_Io, ev_oN, ev_No, ev_ints, ev_row, ev_ois, ev_rows, non_oi, cut_map, ← List.map_take, ← List.map_drop, List.getElem?_cons_zero, List.getElem?_cons_succ, List.set_cons_zero, List.set_cons_succ, List.foldl_cons, List.foldl_nil, List.map_cons, List.map_nil, List.length_cons, List.length_nil, List.replicate, List.cons_append, List.nil_append, exists_eq_left, exists_eq_left', D.bl.injEq, D.int.injEq, D.tup.injEq, decide_eq_true_eq, decide_eq_false_iff_not, true_and, and_true, true_implies, List.length_map, fr_ref, fr_ints, fr_ois, fr_rows, fr_int, fr_lst, fr_row, fr_oi, fr_bl, fr_non, fr_cons, fr_nil, fr_tup, Fl.rt.injEq, Fl.nx.injEq, ex_neg, ex_neg', Bool.not_eq_true', Bool.not_eq_false', Bool.not_not, wipeE, omap_cons, omap_nil, at_0, at_1, at_2, oi_some, oi_none, oP_some, oP_none, Option.some.injEq, end_get, end_set, beq_self_eq_true, bne_self_eq_false, tn, tn0, tn1, fitL, mL, mR, nc, nc0, nc1, c_ltT, c_gtT, c_leT, ev_tup, ev_listc, ev_cons, ev_nil, ev_list0, ev_0list, c_inT, c_ninT, LIM, Int.zero_add, gc_id, Nat.le_refl, Option.map_some, Option.bind_some, isi_s, ty_int, ty_bl, ty_non, ty_lst, ty_tup, ty_str, ty_ref, ty_cl, ty_oi, isTy, Int.reduceLE, Int.reduceLT, Int.reducePow, Int.reduceAdd, Int.reduceSub, Int.reduceMul, Int.reduceNeg, Int.reduceEq, Int.reduceGT, Int.reduceGE, Int.reduceNe, Nat.reduceAdd, Nat.reduceSub, Nat.reduceLT, Nat.reduceLeDiff, Nat.reduceMul, Nat.reducePow, Nat.reduceBEq, Nat.reduceEqDiff, Int.reduceToNat, Bool.not_eq_true, Bool.not_true, Bool.not_false, Bool.not_eq_false, Bool.not_eq_eq_eq_not, reduceCtorEq, if_true, if_false, false_implies, Bool.false_eq_true, Bool.true_eq_false, and_self, not_true, not_false_iff, implies_true, forall_const, true_or, or_true, and_false, false_and, ge_iff_le, gt_iff_lt, cl_pairs, g_s, p_gT, p_gF, Bool.and_true, Bool.true_and, Bool.and_self, cl_ints, cl_bls, cl_oi, cl_ois, cl_row, cl_rows, cl_drow, cl_drows, cl_app, cl_lst, cl_cons, cl_nil, cl_int, cl_bl, cl_non, cl_str, cl_tup, fit, mfit, rt_pairs, sh_pairs, rt_bl, rt_non, rt_str, rt_tup, sh_non, sh_str, sh_tup, rt_ints, rt_oi, rt_ois, rt_row, rt_rows, rt_drow, rt_drows, rt_ref, rt_int, rt_cell, rt_cons, rt_nil, rt_lst, rt_app, p_gF, List.all_cons, List.all_nil, sh_ints, sh_oi, sh_ois, sh_row, sh_rows, sh_drow, sh_drows, sh_ref, sh_int, sh_bl, sh_cell, sh_cons, sh_nil, sh_lst, Nat.zero_add, Nat.add_zero, rgi_get, m1, kd]
        refine o_cut J ?_ ?_
        · simp (disch := decide) only [ev_00, fr_pair, fr_pairs, py_pair, py_pairs, ev_pair, ev_pairs, ev_pairs0, anyPr, p_minR, p_maxR, p_sumR, p_allR, p_anyR, p_sortedR, o_nil, o_cons, o_ret, o_expr, o_set, o_asg, o_ife, o_setIx, o_aug, o_augIx, o_kill, o_pass, o_retN, seqP_nx, seqP_rt, o_var, o_int, o_bl, o_non, o_str, o_cst, o_bin, o_neg, o_cmp, o_chain, o_isN, o_notN, o_and, o_or, o_and1, o_or1, o_and2, o_or2, o_not, o_lst, o_tup, o_ix, o_slice, o_part0, o_part1, o_call, o_bi, o_isi, o_frz, o_isB, o_lrg, p_isB, p_lrg1, p_lrg2, o_rev, o_par, p_revL, p_revS, p_revR, ← List.map_reverse, o_mth0, o_mth, o_evs0, o_evs1, o_slst, o_stup, o_rng, o_enum, o_zip, o_enumT, o_lset, o_srtP, p_enumT, p_lset, p_srtP, p_listT, p_tupL, p_sliceT, p_divmod, p_var, v_0, v_s, p_add, p_addL, p_addT, p_sub, p_mul, p_mulL, p_div, p_mod, p_pow, p_neg, p_alF, p_alT, p_lst, p_tup, p_not, p_cmp, c_eq, c_ne, c_lt, c_gt, c_le, c_ge, c_in, c_nin, anyI, ev_ints0, ev_row0, ev_0ints, ev_ois0, p_isN, p_notN, p_ix, p_ixT, p_ixS, p_ixR, at_m, p_len, p_lenT, p_lenS, p_lenR, p_list, p_listS, p_listR, p_slice, p_allM, p_anyM, p_sumM, p_all, p_any, p_sum, p_max2, p_min2, p_remove, p_sorted, ints_snoc, ints_map, p_index, isl_l, py_drow, py_drows, ev_drow, ev_drows, fr_drow, fr_drows, p_sliceS, p_sliceR, p_src, p_srcS, p_srcT, p_srcR, src_l, src_f, p_rng1, p_rng2, p_enum, p_zip, p_app, p_pop, p_clear, p_rev, p_ext, p_ins, p_popAt, p_set, p_isi, p_frz, a_add, a_sub, a_mul, ixL, ixLR, cell_l, live_l, isl, py_int, py_bl, py_non, py_str, py_oi, py_lst, py_tup, py_scr, py_ints, py_bls, py_ois, py_row, py_rows, py_ref, ev_int, ev_bl, ev_str, ev_oi, ev_oI, ev_Io, ev_oN, ev_No, ev_ints, ev_row, ev_ois, ev_rows, non_oi, cut_map, ← List.map_take, ← List.map_drop, List.getElem?_cons_zero, List.getElem?_cons_succ, List.set_cons_zero, List.set_cons_succ, List.foldl_cons, List.foldl_nil, List.map_cons, List.map_nil, List.length_cons, List.length_nil, List.replicate, List.cons_append, List.nil_append, exists_eq_left, exists_eq_left', D.bl.injEq, D.int.injEq, D.tup.injEq, decide_eq_true_eq, decide_eq_false_iff_not, true_and, and_true, true_implies, List.length_map, fr_ref, fr_ints, fr_ois, fr_rows, fr_int, fr_lst, fr_row, fr_oi, fr_bl, fr_non, fr_cons, fr_nil, fr_tup, Fl.rt.injEq, Fl.nx.injEq, ex_neg, ex_neg', Bool.not_eq_true', Bool.not_eq_false', Bool.not_not, wipeE, omap_cons, omap_nil, at_0, at_1, at_2, oi_some, oi_none, oP_some, oP_none, Option.some.injEq, end_get, end_set, beq_self_eq_true, bne_self_eq_false, tn, tn0, tn1, fitL, mL, mR, nc, nc0, nc1, c_ltT, c_gtT, c_leT, ev_tup, ev_listc, ev_cons, ev_nil, ev_list0, ev_0list, c_inT, c_ninT, LIM, Int.zero_add, gc_id, Nat.le_refl, Option.map_some, Option.bind_some, isi_s, ty_int, ty_bl, ty_non, ty_lst, ty_tup, ty_str, ty_ref, ty_cl, ty_oi, isTy, Int.reduceLE, Int.reduceLT, Int.reducePow, Int.reduceAdd, Int.reduceSub, Int.reduceMul, Int.reduceNeg, Int.reduceEq, Int.reduceGT, Int.reduceGE, Int.reduceNe, Nat.reduceAdd, Nat.reduceSub, Nat.reduceLT, Nat.reduceLeDiff, Nat.reduceMul, Nat.reducePow, Nat.reduceBEq, Nat.reduceEqDiff, Int.reduceToNat, Bool.not_eq_true, Bool.not_true, Bool.not_false, Bool.not_eq_false, Bool.not_eq_eq_eq_not, reduceCtorEq, if_true, if_false, false_implies, Bool.false_eq_true, Bool.true_eq_false, and_self, not_true, not_false_iff, implies_true, forall_const, true_or, or_true, and_false, false_and, ge_iff_le, gt_iff_lt, cl_pairs, g_s, p_gT, p_gF, Bool.and_true, Bool.true_and, Bool.and_self, cl_ints, cl_bls, cl_oi, cl_ois, cl_row, cl_rows, cl_drow, cl_drows, cl_app, cl_lst, cl_cons, cl_nil, cl_int, cl_bl, cl_non, cl_str, cl_tup, fit, mfit, rt_pairs, sh_pairs, rt_bl, rt_non, rt_str, rt_tup, sh_non, sh_str, sh_tup, rt_ints, rt_oi, rt_ois, rt_row, rt_rows, rt_drow, rt_drows, rt_ref, rt_int, rt_cell, rt_cons, rt_nil, rt_lst, rt_app, p_gF, List.all_cons, List.all_nil, sh_ints, sh_oi, sh_ois, sh_row, sh_rows, sh_drow, sh_drows, sh_ref, sh_int, sh_bl, sh_cell, sh_cons, sh_nil, sh_lst, Nat.zero_add, Nat.add_zero]
          have st : ∀ b : Int, 0 < b → b ≤ 100 → Ok (Bop.d false .mod (.int v) (.int b) [(Cell.lst .live (List.map (row false) t)), (Cell.lst .live (List.map D.int w))]) fun d μ1 => J ([some (.scr ns), some (.int mt), some (.int hands), some (.int m), some (.int kind), some (.ref 0), some (.int i), some (.ref 1), some (.int j), some (d)]) μ1 := fun b b0 b1 => by
            have := Int.emod_nonneg v (show b ≠ 0 by omega)
            have := Int.emod_lt_of_pos v b0
            simp (disch := decide) only [ev_00, fr_pair, fr_pairs, py_pair, py_pairs, ev_pair, ev_pairs, ev_pairs0, anyPr, p_minR, p_maxR, p_sumR, p_allR, p_anyR, p_sortedR, o_nil, o_cons, o_ret, o_expr, o_set, o_asg, o_ife, o_setIx, o_aug, o_augIx, o_kill, o_pass, o_retN, seqP_nx, seqP_rt, o_var, o_int, o_bl, o_non, o_str, o_cst, o_bin, o_neg, o_cmp, o_chain, o_isN, o_notN, o_and, o_or, o_and1, o_or1, o_and2, o_or2, o_not, o_lst, o_tup, o_ix, o_slice, o_part0, o_part1, o_call, o_bi, o_isi, o_frz, o_isB, o_lrg, p_isB, p_lrg1, p_lrg2, o_rev, o_par, p_revL, p_revS, p_revR, ← List.map_reverse, o_mth0, o_mth, o_evs0, o_evs1, o_slst, o_stup, o_rng, o_enum, o_zip, o_enumT, o_lset, o_srtP, p_enumT, p_lset, p_srtP, p_listT, p_tupL, p_sliceT, p_divmod, p_var, v_0, v_s, p_add, p_addL, p_addT, p_sub, p_mul, p_mulL, p_div, p_mod, p_pow, p_neg, p_alF, p_alT, p_lst, p_tup, p_not, p_cmp, c_eq, c_ne, c_lt, c_gt, c_le, c_ge, c_in, c_nin, anyI, ev_ints0, ev_row0, ev_0ints, ev_ois0, p_isN, p_notN, p_ix, p_ixT, p_ixS, p_ixR, at_m, p_len, p_lenT, p_lenS, p_lenR, p_list, p_listS, p_listR, p_slice, p_allM, p_anyM, p_sumM, p_all, p_any, p_sum, p_max2, p_min2, p_remove, p_sorted, ints_snoc, ints_map, p_index, isl_l, py_drow, py_drows, ev_drow, ev_drows, fr_drow, fr_drows, p_sliceS, p_sliceR, p_src, p_srcS, p_srcT, p_srcR, src_l, src_f, p_rng1, p_rng2, p_enum, p_zip, p_app, p_pop, p_clear, p_rev, p_ext, p_ins, p_popAt, p_set, p_isi, p_frz, a_add, a_sub, a_mul, ixL, ixLR, cell_l, live_l, isl, py_int, py_bl, py_non, py_str, py_oi, py_lst, py_tup, py_scr, py_ints, py_bls, py_ois, py_row, py_rows, py_ref, ev_int, ev_bl, ev_str, ev_oi, ev_oI, ev_Io, ev_oN, ev_No, ev_ints, ev_row, ev_ois, ev_rows, non_oi, cut_map, ← List.map_take, ← List.map_drop, List.getElem?_cons_zero, List.getElem?_cons_succ, List.set_cons_zero, List.set_cons_succ, List.foldl_cons, List.foldl_nil, List.map_cons, List.map_nil, List.length_cons, List.length_nil, List.replicate, List.cons_append, List.nil_append, exists_eq_left, exists_eq_left', D.bl.injEq, D.int.injEq, D.tup.injEq, decide_eq_true_eq, decide_eq_false_iff_not, true_and, and_true, true_implies, List.length_map, fr_ref, fr_ints, fr_ois, fr_rows, fr_int, fr_lst, fr_row, fr_oi, fr_bl, fr_non, fr_cons, fr_nil, fr_tup, Fl.rt.injEq, Fl.nx.injEq, ex_neg, ex_neg', Bool.not_eq_true', Bool.not_eq_false', Bool.not_not, wipeE, omap_cons, omap_nil, at_0, at_1, at_2, oi_some, oi_none, oP_some, oP_none, Option.some.injEq, end_get, end_set, beq_self_eq_true, bne_self_eq_false, tn, tn0, tn1, fitL, mL, mR, nc, nc0, nc1, c_ltT, c_gtT, c_leT, ev_tup, ev_listc, ev_cons, ev_nil, ev_list0, ev_0list, c_inT, c_ninT, LIM, Int.zero_add, gc_id, Nat.le_refl, Option.map_some, Option.bind_some, isi_s, ty_int, ty_bl, ty_non, ty_lst, ty_tup, ty_str, ty_ref, ty_cl, ty_oi, isTy, Int.reduceLE, Int.reduceLT, Int.reducePow, Int.reduceAdd, Int.reduceSub, Int.reduceMul, Int.reduceNeg, Int.reduceEq, Int.reduceGT, Int.reduceGE, Int.reduceNe, Nat.reduceAdd, Nat.reduceSub, Nat.reduceLT, Nat.reduceLeDiff, Nat.reduceMul, Nat.reducePow, Nat.reduceBEq, Nat.reduceEqDiff, Int.reduceToNat, Bool.not_eq_true, Bool.not_true, Bool.not_false, Bool.not_eq_false, Bool.not_eq_eq_eq_not, reduceCtorEq, if_true, if_false, false_implies, Bool.false_eq_true, Bool.true_eq_false, and_self, not_true, not_false_iff, implies_true, forall_const, true_or, or_true, and_false, false_and, ge_iff_le, gt_iff_lt, cl_pairs, g_s, p_gT, p_gF, Bool.and_true, Bool.true_and, Bool.and_self, cl_ints, cl_bls, cl_oi, cl_ois, cl_row, cl_rows, cl_drow, cl_drows, cl_app, cl_lst, cl_cons, cl_nil, cl_int, cl_bl, cl_non, cl_str, cl_tup, fit, mfit, rt_pairs, sh_pairs, rt_bl, rt_non, rt_str, rt_tup, sh_non, sh_str, sh_tup, rt_ints, rt_oi, rt_ois, rt_row, rt_rows, rt_drow, rt_drows, rt_ref, rt_int, rt_cell, rt_cons, rt_nil, rt_lst, rt_app, p_gF, List.all_cons, List.all_nil, sh_ints, sh_oi, sh_ois, sh_row, sh_rows, sh_drow, sh_drows, sh_ref, sh_int, sh_bl, sh_cell, sh_cons, sh_nil, sh_lst, Nat.zero_add, Nat.add_zero]
            exact ⟨b0, hJ _ (by omega) (by omega)⟩
          exact ⟨fun q => ⟨.int 4, by rw [q]; rfl, st 4 (by decide) (by decide)⟩, fun _ => ⟨fun q => ⟨.int 100, by rw [q]; rfl, st 100 (by decide) (by decide)⟩, fun _ => hJ _ v0 v1⟩⟩
        clear v0 v1 m2 kd hv v
        rintro e m' ⟨v, rfl, rfl, v0, v1⟩
        have m2 : ∀ x, mulOk (v : Int) x = true := fun x => mul_l (by omega)
        refine o_cut J ?_ ?_
        · simp (disch := decide) only [ev_00, fr_pair, fr_pairs, py_pair, py_pairs, ev_pair, ev_pairs, ev_pairs0, anyPr, p_minR, p_maxR, p_sumR, p_allR, p_anyR, p_sortedR, o_nil, o_cons, o_ret, o_expr, o_set, o_asg, o_ife, o_setIx, o_aug, o_augIx, o_kill, o_pass, o_retN, seqP_nx, seqP_rt, o_var, o_int, o_bl, o_non, o_str, o_cst, o_bin, o_neg, o_cmp, o_chain, o_isN, o_notN, o_and, o_or, o_and1, o_or1, o_and2, o_or2, o_not, o_lst, o_tup, o_ix, o_slice, o_part0, o_part1, o_call, o_bi, o_isi, o_frz, o_isB, o_lrg, p_isB, p_lrg1, p_lrg2, o_rev, o_par, p_revL, p_revS, p_revR, ← List.map_reverse, o_mth0, o_mth, o_evs0, o_evs1, o_slst, o_stup, o_rng, o_enum, o_zip, o_enumT, o_lset, o_srtP, p_enumT, p_lset, p_srtP, p_listT, p_tupL, p_sliceT, p_divmod, p_var, v_0, v_s, p_add, p_addL, p_addT, p_sub, p_mul, p_mulL, p_div, p_mod, p_pow, p_neg, p_alF, p_alT, p_lst, p_tup, p_not, p_cmp, c_eq, c_ne, c_lt, c_gt, c_le, c_ge, c_in, c_nin, anyI, ev_ints0, ev_row0, ev_0ints, ev_ois0, p_isN, p_notN, p_ix, p_ixT, p_ixS, p_ixR, at_m, p_len, p_lenT, p_lenS, p_lenR, p_list, p_listS, p_listR, p_slice, p_allM, p_anyM, p_sumM, p_all, p_any, p_sum, p_max2, p_min2, p_remove, p_sorted, ints_snoc, ints_map, p_index, isl_l, py_drow, py_drows, ev_drow, ev_drows, fr_drow, fr_drows, p_sliceS, p_sliceR, p_src, p_srcS, p_srcT, p_srcR, src_l, src_f, p_rng1, p_rng2, p_enum, p_zip, p_app, p_pop, p_clear, p_rev, p_ext, p_ins, p_popAt, p_set, p_isi, p_frz, a_add, a_sub, a_mul, ixL, ixLR, cell_l, live_l, isl, py_int, py_bl, py_non, py_str, py_oi, py_lst, py_tup, py_scr, py_ints, py_bls, py_ois, py_row, py_rows, py_ref, ev_int, ev_bl, ev_str, ev_oi, ev_oI, ev_Io, ev_oN, ev_No, ev_ints, ev_row, ev_ois, ev_rows, non_oi, cut_map, ← List.map_take, ← List.map_drop, List.getElem?_cons_zero, List.getElem?_cons_succ, List.set_cons_zero, List.set_cons_succ, List.foldl_cons, List.foldl_nil, List.map_cons, List.map_nil, List.length_cons, List.length_nil, List.replicate, List.cons_append, List.nil_append, exists_eq_left, exists_eq_left', D.bl.injEq, D.int.injEq, D.tup.injEq, decide_eq_true_eq, decide_eq_false_iff_not, true_and, and_true, true_implies, List.length_map, fr_ref, fr_ints, fr_ois, fr_rows, fr_int, fr_lst, fr_row, fr_oi, fr_bl, fr_non, fr_cons, fr_nil, fr_tup, Fl.rt.injEq, Fl.nx.injEq, ex_neg, ex_neg', Bool.not_eq_true', Bool.not_eq_false', Bool.not_not, wipeE, omap_cons, omap_nil, at_0, at_1, at_2, oi_some, oi_none, oP_some, oP_none, Option.some.injEq, end_get, end_set, beq_self_eq_true, bne_self_eq_false, tn, tn0, tn1, fitL, mL, mR, nc, nc0, nc1, c_ltT, c_gtT, c_leT, ev_tup, ev_listc, ev_cons, ev_nil, ev_list0, ev_0list, c_inT, c_ninT, LIM, Int.zero_add, gc_id, Nat.le_refl, Option.map_some, Option.bind_some, isi_s, ty_int, ty_bl, ty_non, ty_lst, ty_tup, ty_str, ty_ref, ty_cl, ty_oi, isTy, Int.reduceLE, Int.reduceLT, Int.reducePow, Int.reduceAdd, Int.reduceSub, Int.reduceMul, Int.reduceNeg, Int.reduceEq, Int.reduceGT, Int.reduceGE, Int.reduceNe, Nat.reduceAdd, Nat.reduceSub, Nat.reduceLT, Nat.reduceLeDiff, Nat.reduceMul, Nat.reducePow, Nat.reduceBEq, Nat.reduceEqDiff, Int.reduceToNat, Bool.not_eq_true, Bool.not_true, Bool.not_false, Bool.not_eq_false, Bool.not_eq_eq_eq_not, reduceCtorEq, if_true, if_false, false_implies, Bool.false_eq_true, Bool.true_eq_false, and_self, not_true, not_false_iff, implies_true, forall_const, true_or, or_true, and_false, false_and, ge_iff_le, gt_iff_lt, cl_pairs, g_s, p_gT, p_gF, Bool.and_true, Bool.true_and, Bool.and_self, cl_ints, cl_bls, cl_oi, cl_ois, cl_row, cl_rows, cl_drow, cl_drows, cl_app, cl_lst, cl_cons, cl_nil, cl_int, cl_bl, cl_non, cl_str, cl_tup, fit, mfit, rt_pairs, sh_pairs, rt_bl, rt_non, rt_str, rt_tup, sh_non, sh_str, sh_tup, rt_ints, rt_oi, rt_ois, rt_row, rt_rows, rt_drow, rt_drows, rt_ref, rt_int, rt_cell, rt_cons, rt_nil, rt_lst, rt_app, p_gF, List.all_cons, List.all_nil, sh_ints, sh_oi, sh_ois, sh_row, sh_rows, sh_drow, sh_drows, sh_ref, sh_int, sh_bl, sh_cell, sh_cons, sh_nil, sh_lst, Nat.zero_add, Nat.add_zero, m2]
          have e0 : v / 4 % 2 = 0 ∨ v / 4 % 2 = 1 := by omega
          have b0 : 0 ≤ v * (v / 4 % 2) ∧ v * (v / 4 % 2) ≤ 1000000000000 := by
            rcases e0 with e | e
            · rw [e]
              omega
            · rw [e]
              omega
          exact ⟨fun _ => hJ _ b0.1 b0.2, fun _ => hJ _ v0 v1⟩
        clear v0 v1 m2 v
        rintro e m' ⟨v, rfl, rfl, v0, v1⟩
        refine o_cut J ?_ ?_
        · simp (disch := decide) only [ev_00, fr_pair, fr_pairs, py_pair, py_pairs, ev_pair, ev_pairs, ev_pairs0, anyPr, p_minR, p_maxR, p_sumR, p_allR, p_anyR, p_sortedR, o_nil, o_cons, o_ret, o_expr, o_set, o_asg, o_ife, o_setIx, o_aug, o_augIx, o_kill, o_pass, o_retN, seqP_nx, seqP_rt, o_var, o_int, o_bl, o_non, o_str, o_cst, o_bin, o_neg, o_cmp, o_chain, o_isN, o_notN, o_and, o_or, o_and1, o_or1, o_and2, o_or2, o_not, o_lst, o_tup, o_ix, o_slice, o_part0, o_part1, o_call, o_bi, o_isi, o_frz, o_isB, o_lrg, p_isB, p_lrg1, p_lrg2, o_rev, o_par, p_revL, p_revS, p_revR, ← List.map_reverse, o_mth0, o_mth, o_evs0, o_evs1, o_slst, o_stup, o_rng, o_enum, o_zip, o_enumT, o_lset, o_srtP, p_enumT, p_lset, p_srtP, p_listT, p_tupL, p_sliceT, p_divmod, p_var, v_0, v_s, p_add, p_addL, p_addT, p_sub, p_mul, p_mulL, p_div, p_mod, p_pow, p_neg, p_alF, p_alT, p_lst, p_tup, p_not, p_cmp, c_eq, c_ne, c_lt, c_gt, c_le, c_ge, c_in, c_nin, anyI, ev_ints0, ev_row0, ev_0ints, ev_ois0, p_isN, p_notN, p_ix, p_ixT, p_ixS, p_ixR, at_m, p_len, p_lenT, p_lenS, p_lenR, p_list, p_listS, p_listR, p_slice, p_allM, p_anyM, p_sumM, p_all, p_any, p_sum, p_max2, p_min2, p_remove, p_sorted, ints_snoc, ints_map, p_index, isl_l, py_drow, py_drows, ev_drow, ev_drows, fr_drow, fr_drows, p_sliceS, p_sliceR, p_src, p_srcS, p_srcT, p_srcR, src_l, src_f, p_rng1, p_rng2, p_enum, p_zip, p_app, p_pop, p_clear, p_rev, p_ext, p_ins, p_popAt, p_set, p_isi, p_frz, a_add, a_sub, a_mul, ixL, ixLR, cell_l, live_l, isl, py_int, py_bl, py_non, py_str, py_oi, py_lst, py_tup, py_scr, py_ints, py_bls, py_ois, py_row, py_rows, py_ref, ev_int, ev_bl, ev_str, ev_oi, ev_oI, ev_Io, ev_oN, ev_No, ev_ints, ev_row, ev_ois, ev_rows, non_oi, cut_map, ← List.map_take, ← List.map_drop, List.getElem?_cons_zero, List.getElem?_cons_succ, List.set_cons_zero, List.set_cons_succ, List.foldl_cons, List.foldl_nil, List.map_cons, List.map_nil, List.length_cons, List.length_nil, List.replicate, List.cons_append, List.nil_append, exists_eq_left, exists_eq_left', D.bl.injEq, D.int.injEq, D.tup.injEq, decide_eq_true_eq, decide_eq_false_iff_not, true_and, and_true, true_implies, List.length_map, fr_ref, fr_ints, fr_ois, fr_rows, fr_int, fr_lst, fr_row, fr_oi, fr_bl, fr_non, fr_cons, fr_nil, fr_tup, Fl.rt.injEq, Fl.nx.injEq, ex_neg, ex_neg', Bool.not_eq_true', Bool.not_eq_false', Bool.not_not, wipeE, omap_cons, omap_nil, at_0, at_1, at_2, oi_some, oi_none, oP_some, oP_none, Option.some.injEq, end_get, end_set, beq_self_eq_true, bne_self_eq_false, tn, tn0, tn1, fitL, mL, mR, nc, nc0, nc1, c_ltT, c_gtT, c_leT, ev_tup, ev_listc, ev_cons, ev_nil, ev_list0, ev_0list, c_inT, c_ninT, LIM, Int.zero_add, gc_id, Nat.le_refl, Option.map_some, Option.bind_some, isi_s, ty_int, ty_bl, ty_non, ty_lst, ty_tup, ty_str, ty_ref, ty_cl, ty_oi, isTy, Int.reduceLE, Int.reduceLT, Int.reducePow, Int.reduceAdd, Int.reduceSub, Int.reduceMul, Int.reduceNeg, Int.reduceEq, Int.reduceGT, Int.reduceGE, Int.reduceNe, Nat.reduceAdd, Nat.reduceSub, Nat.reduceLT, Nat.reduceLeDiff, Nat.reduceMul, Nat.reducePow, Nat.reduceBEq, Nat.reduceEqDiff, Int.reduceToNat, Bool.not_eq_true, Bool.not_true, Bool.not_false, Bool.not_eq_false, Bool.not_eq_eq_eq_not, reduceCtorEq, if_true, if_false, false_implies, Bool.false_eq_true, Bool.true_eq_false, and_self, not_true, not_false_iff, implies_true, forall_const, true_or, or_true, and_false, false_and, ge_iff_le, gt_iff_lt, cl_pairs, g_s, p_gT, p_gF, Bool.and_true, Bool.true_and, Bool.and_self, cl_ints, cl_bls, cl_oi, cl_ois, cl_row, cl_rows, cl_drow, cl_drows, cl_app, cl_lst, cl_cons, cl_nil, cl_int, cl_bl, cl_non, cl_str, cl_tup, fit, mfit, rt_pairs, sh_pairs, rt_bl, rt_non, rt_str, rt_tup, sh_non, sh_str, sh_tup, rt_ints, rt_oi, rt_ois, rt_row, rt_rows, rt_drow, rt_drows, rt_ref, rt_int, rt_cell, rt_cons, rt_nil, rt_lst, rt_app, p_gF, List.all_cons, List.all_nil, sh_ints, sh_oi, sh_ois, sh_row, sh_rows, sh_drow, sh_drows, sh_ref, sh_int, sh_bl, sh_cell, sh_cons, sh_nil, sh_lst, Nat.zero_add, Nat.add_zero]
          refine ⟨fun q => ⟨fun q2 => ?_, fun _ => hJ _ v0 v1⟩, fun _ => hJ _ v0 v1⟩
          refine at_ok (by omega) (by omega) ?_
          have hr := hb _ (List.getElem_mem (l := t) (n := (0 : Int).toNat) (by simp; omega))
          simp (disch := decide) only [ev_00, fr_pair, fr_pairs, py_pair, py_pairs, ev_pair, ev_pairs, ev_pairs0, anyPr, p_minR, p_maxR, p_sumR, p_allR, p_anyR, p_sortedR, o_nil, o_cons, o_ret, o_expr, o_set, o_asg, o_ife, o_setIx, o_aug, o_augIx, o_kill, o_pass, o_retN, seqP_nx, seqP_rt, o_var, o_int, o_bl, o_non, o_str, o_cst, o_bin, o_neg, o_cmp, o_chain, o_isN, o_notN, o_and, o_or, o_and1, o_or1, o_and2, o_or2, o_not, o_lst, o_tup, o_ix, o_slice, o_part0, o_part1, o_call, o_bi, o_isi, o_frz, o_isB, o_lrg, p_isB, p_lrg1, p_lrg2, o_rev, o_par, p_revL, p_revS, p_revR, ← List.map_reverse, o_mth0, o_mth, o_evs0, o_evs1, o_slst, o_stup, o_rng, o_enum, o_zip, o_enumT, o_lset, o_srtP, p_enumT, p_lset, p_srtP, p_listT, p_tupL, p_sliceT, p_divmod, p_var, v_0, v_s, p_add, p_addL, p_addT, p_sub, p_mul, p_mulL, p_div, p_mod, p_pow, p_neg, p_alF, p_alT, p_lst, p_tup, p_not, p_cmp, c_eq, c_ne, c_lt, c_gt, c_le, c_ge, c_in, c_nin, anyI, ev_ints0, ev_row0, ev_0ints, ev_ois0, p_isN, p_notN, p_ix, p_ixT, p_ixS, p_ixR, at_m, p_len, p_lenT, p_lenS, p_lenR, p_list, p_listS, p_listR, p_slice, p_allM, p_anyM, p_sumM, p_all, p_any, p_sum, p_max2, p_min2, p_remove, p_sorted, ints_snoc, ints_map, p_index, isl_l, py_drow, py_drows, ev_drow, ev_drows, fr_drow, fr_drows, p_sliceS, p_sliceR, p_src, p_srcS, p_srcT, p_srcR, src_l, src_f, p_rng1, p_rng2, p_enum, p_zip, p_app, p_pop, p_clear, p_rev, p_ext, p_ins, p_popAt, p_set, p_isi, p_frz, a_add, a_sub, a_mul, ixL, ixLR, cell_l, live_l, isl, py_int, py_bl, py_non, py_str, py_oi, py_lst, py_tup, py_scr, py_ints, py_bls, py_ois, py_row, py_rows, py_ref, ev_int, ev_bl, ev_str, ev_oi, ev_oI, ev_Io, ev_oN, ev_No, ev_ints, ev_row, ev_ois, ev_rows, non_oi, cut_map, ← List.map_take, ← List.map_drop, List.getElem?_cons_zero, List.getElem?_cons_succ, List.set_cons_zero, List.set_cons_succ, List.foldl_cons, List.foldl_nil, List.map_cons, List.map_nil, List.length_cons, List.length_nil, List.replicate, List.cons_append, List.nil_append, exists_eq_left, exists_eq_left', D.bl.injEq, D.int.injEq, D.tup.injEq, decide_eq_true_eq, decide_eq_false_iff_not, true_and, and_true, true_implies, List.length_map, fr_ref, fr_ints, fr_ois, fr_rows, fr_int, fr_lst, fr_row, fr_oi, fr_bl, fr_non, fr_cons, fr_nil, fr_tup, Fl.rt.injEq, Fl.nx.injEq, ex_neg, ex_neg', Bool.not_eq_true', Bool.not_eq_false', Bool.not_not, wipeE, omap_cons, omap_nil, at_0, at_1, at_2, oi_some, oi_none, oP_some, oP_none, Option.some.injEq, end_get, end_set, beq_self_eq_true, bne_self_eq_false, tn, tn0, tn1, fitL, mL, mR, nc, nc0, nc1, c_ltT, c_gtT, c_leT, ev_tup, ev_listc, ev_cons, ev_nil, ev_list0, ev_0list, c_inT, c_ninT, LIM, Int.zero_add, gc_id, Nat.le_refl, Option.map_some, Option.bind_some, isi_s, ty_int, ty_bl, ty_non, ty_lst, ty_tup, ty_str, ty_ref, ty_cl, ty_oi, isTy, Int.reduceLE, Int.reduceLT, Int.reducePow, Int.reduceAdd, Int.reduceSub, Int.reduceMul, Int.reduceNeg, Int.reduceEq, Int.reduceGT, Int.reduceGE, Int.reduceNe, Nat.reduceAdd, Nat.reduceSub, Nat.reduceLT, Nat.reduceLeDiff, Nat.reduceMul, Nat.reducePow, Nat.reduceBEq, Nat.reduceEqDiff, Int.reduceToNat, Bool.not_eq_true, Bool.not_true, Bool.not_false, Bool.not_eq_false, Bool.not_eq_eq_eq_not, reduceCtorEq, if_true, if_false, false_implies, Bool.false_eq_true, Bool.true_eq_false, and_self, not_true, not_false_iff, implies_true, forall_const, true_or, or_true, and_false, false_and, ge_iff_le, gt_iff_lt, cl_pairs, g_s, p_gT, p_gF, Bool.and_true, Bool.true_and, Bool.and_self, cl_ints, cl_bls, cl_oi, cl_ois, cl_row, cl_rows, cl_drow, cl_drows, cl_app, cl_lst, cl_cons, cl_nil, cl_int, cl_bl, cl_non, cl_str, cl_tup, fit, mfit, rt_pairs, sh_pairs, rt_bl, rt_non, rt_str, rt_tup, sh_non, sh_str, sh_tup, rt_ints, rt_oi, rt_ois, rt_row, rt_rows, rt_drow, rt_drows, rt_ref, rt_int, rt_cell, rt_cons, rt_nil, rt_lst, rt_app, p_gF, List.all_cons, List.all_nil, sh_ints, sh_oi, sh_ois, sh_row, sh_rows, sh_drow, sh_drows, sh_ref, sh_int, sh_bl, sh_cell, sh_cons, sh_nil, sh_lst, Nat.zero_add, Nat.add_zero, row]
          exact rowOk_at hr (by omega) (by omega) fun w' a b => hJ _ a b
        clear v0 v1 v
        rintro e m' ⟨v, rfl, rfl, v0, v1⟩
        simp (disch := decide) only [ev_00, fr_pair, fr_pairs, py_pair, py_pairs, ev_pair, ev_pairs, ev_pairs0, anyPr, p_minR, p_maxR, p_sumR, p_allR, p_anyR, p_sortedR, o_nil, o_cons, o_ret, o_expr, o_set, o_asg, o_ife, o_setIx, o_aug, o_augIx, o_kill, o_pass, o_retN, seqP_nx, seqP_rt, o_var, o_int, o_bl, o_non, o_str, o_cst, o_bin, o_neg, o_cmp, o_chain, o_isN, o_notN, o_and, o_or, o_and1, o_or1, o_and2, o_or2, o_not, o_lst, o_tup, o_ix, o_slice, o_part0, o_part1, o_call, o_bi, o_isi, o_frz, o_isB, o_lrg, p_isB, p_lrg1, p_lrg2, o_rev, o_par, p_revL, p_revS, p_revR, ← List.map_reverse, o_mth0, o_mth, o_evs0, o_evs1, o_slst, o_stup, o_rng, o_enum, o_zip, o_enumT, o_lset, o_srtP, p_enumT, p_lset, p_srtP, p_listT, p_tupL, p_sliceT, p_divmod, p_var, v_0, v_s, p_add, p_addL, p_addT, p_sub, p_mul, p_mulL, p_div, p_mod, p_pow, p_neg, p_alF, p_alT, p_lst, p_tup, p_not, p_cmp, c_eq, c_ne, c_lt, c_gt, c_le, c_ge, c_in, c_nin, anyI, ev_ints0, ev_row0, ev_0ints, ev_ois0, p_isN, p_notN, p_ix, p_ixT, p_ixS, p_ixR, at_m, p_len, p_lenT, p_lenS, p_lenR, p_list, p_listS, p_listR, p_slice, p_allM, p_anyM, p_sumM, p_all, p_any, p_sum, p_max2, p_min2, p_remove, p_sorted, ints_snoc, ints_map, p_index, isl_l, py_drow, py_drows, ev_drow, ev_drows, fr_drow, fr_drows, p_sliceS, p_sliceR, p_src, p_srcS, p_srcT, p_srcR, src_l, src_f, p_rng1, p_rng2, p_enum, p_zip, p_app, p_pop, p_clear, p_rev, p_ext, p_ins, p_popAt, p_set, p_isi, p_frz, a_add, a_sub, a_mul, ixL, ixLR, cell_l, live_l, isl, py_int, py_bl, py_non, py_str, py_oi, py_lst, py_tup, py_scr, py_ints, py_bls, py_ois, py_row, py_rows, py_ref, ev_int, ev_bl, ev_str, ev_oi, ev_oI, ev_Io, ev_oN, ev_No, ev_ints, ev_row, ev_ois, ev_rows, non_oi, cut_map, ← List.map_take, ← List.map_drop, List.getElem?_cons_zero, List.getElem?_cons_succ, List.set_cons_zero, List.set_cons_succ, List.foldl_cons, List.foldl_nil, List.map_cons, List.map_nil, List.length_cons, List.length_nil, List.replicate, List.cons_append, List.nil_append, exists_eq_left, exists_eq_left', D.bl.injEq, D.int.injEq, D.tup.injEq, decide_eq_true_eq, decide_eq_false_iff_not, true_and, and_true, true_implies, List.length_map, fr_ref, fr_ints, fr_ois, fr_rows, fr_int, fr_lst, fr_row, fr_oi, fr_bl, fr_non, fr_cons, fr_nil, fr_tup, Fl.rt.injEq, Fl.nx.injEq, ex_neg, ex_neg', Bool.not_eq_true', Bool.not_eq_false', Bool.not_not, wipeE, omap_cons, omap_nil, at_0, at_1, at_2, oi_some, oi_none, oP_some, oP_none, Option.some.injEq, end_get, end_set, beq_self_eq_true, bne_self_eq_false, tn, tn0, tn1, fitL, mL, mR, nc, nc0, nc1, c_ltT, c_gtT, c_leT, ev_tup, ev_listc, ev_cons, ev_nil, ev_list0, ev_0list, c_inT, c_ninT, LIM, Int.zero_add, gc_id, Nat.le_refl, Option.map_some, Option.bind_some, isi_s, ty_int, ty_bl, ty_non, ty_lst, ty_tup, ty_str, ty_ref, ty_cl, ty_oi, isTy, Int.reduceLE, Int.reduceLT, Int.reducePow, Int.reduceAdd, Int.reduceSub, Int.reduceMul, Int.reduceNeg, Int.reduceEq, Int.reduceGT, Int.reduceGE, Int.reduceNe, Nat.reduceAdd, Nat.reduceSub, Nat.reduceLT, Nat.reduceLeDiff, Nat.reduceMul, Nat.reducePow, Nat.reduceBEq, Nat.reduceEqDiff, Int.reduceToNat, Bool.not_eq_true, Bool.not_true, Bool.not_false, Bool.not_eq_false, Bool.not_eq_eq_eq_not, reduceCtorEq, if_true, if_false, false_implies, Bool.false_eq_true, Bool.true_eq_false, and_self, not_true, not_false_iff, implies_true, forall_const, true_or, or_true, and_false, false_and, ge_iff_le, gt_iff_lt, cl_pairs, g_s, p_gT, p_gF, Bool.and_true, Bool.true_and, Bool.and_self, cl_ints, cl_bls, cl_oi, cl_ois, cl_row, cl_rows, cl_drow, cl_drows, cl_app, cl_lst, cl_cons, cl_nil, cl_int, cl_bl, cl_non, cl_str, cl_tup, fit, mfit, rt_pairs, sh_pairs, rt_bl, rt_non, rt_str, rt_tup, sh_non, sh_str, sh_tup, rt_ints, rt_oi, rt_ois, rt_row, rt_rows, rt_drow, rt_drows, rt_ref, rt_int, rt_cell, rt_cons, rt_nil, rt_lst, rt_app, p_gF, List.all_cons, List.all_nil, sh_ints, sh_oi, sh_ois, sh_row, sh_rows, sh_drow, sh_drows, sh_ref, sh_int, sh_bl, sh_cell, sh_cons, sh_nil, sh_lst, Nat.zero_add, Nat.add_zero]
        have hw1 := hw.1
        refine ⟨by omega, w ++ [v], ?_, rowOk_snoc hw v0 v1⟩
        rw [gc_id (by simp)]
        simp
      · rintro e m' ⟨w, rfl, rfl, hw⟩
        rw [rgi_len] at hw
        simp (disch := decide) only [ev_00, fr_pair, fr_pairs, py_pair, py_pairs, ev_pair, ev_pairs, ev_pairs0, anyPr, p_minR, p_maxR, p_sumR, p_allR, p_anyR, p_sortedR, o_nil, o_cons, o_ret, o_expr, o_set, o_asg, o_ife, o_setIx, o_aug, o_augIx, o_kill, o_pass, o_retN, seqP_nx, seqP_rt, o_var, o_int, o_bl, o_non, o_str, o_cst, o_bin, o_neg, o_cmp, o_chain, o_isN, o_notN, o_and, o_or, o_and1, o_or1, o_and2, o_or2, o_not, o_lst, o_tup, o_ix, o_slice, o_part0, o_part1, o_call, o_bi, o_isi, o_frz, o_isB, o_lrg, p_isB, p_lrg1, p_lrg2, o_rev, o_par, p_revL, p_revS, p_revR, ← List.map_reverse, o_mth0, o_mth, o_evs0, o_evs1, o_slst, o_stup, o_rng, o_enum, o_zip, o_enumT, o_lset, o_srtP, p_enumT, p_lset, p_srtP, p_listT, p_tupL, p_sliceT, p_divmod, p_var, v_0, v_s, p_add, p_addL, p_addT, p_sub, p_mul, p_mulL, p_div, p_mod, p_pow, p_neg, p_alF, p_alT, p_lst, p_tup, p_not, p_cmp, c_eq, c_ne, c_lt, c_gt, c_le, c_ge, c_in, c_nin, anyI, ev_ints0, ev_row0, ev_0ints, ev_ois0, p_isN, p_notN, p_ix, p_ixT, p_ixS, p_ixR, at_m, p_len, p_lenT, p_lenS, p_lenR, p_list, p_listS, p_listR, p_slice, p_allM, p_anyM, p_sumM, p_all, p_any, p_sum, p_max2, p_min2, p_remove, p_sorted, ints_snoc, ints_map, p_index, isl_l, py_drow, py_drows, ev_drow, ev_drows, fr_drow, fr_drows, p_sliceS, p_sliceR, p_src, p_srcS, p_srcT, p_srcR, src_l, src_f, p_rng1, p_rng2, p_enum, p_zip, p_app, p_pop, p_clear, p_rev, p_ext, p_ins, p_popAt, p_set, p_isi, p_frz, a_add, a_sub, a_mul, ixL, ixLR, cell_l, live_l, isl, py_int, py_bl, py_non, py_str, py_oi, py_lst, py_tup, py_scr, py_ints, py_bls, py_ois, py_row, py_rows, py_ref, ev_int, ev_bl, ev_str, ev_oi, ev_oI, ev_Io, ev_oN, ev_No, ev_ints, ev_row, ev_ois, ev_rows, non_oi, cut_map, ← List.map_take, ← List.map_drop, List.getElem?_cons_zero, List.getElem?_cons_succ, List.set_cons_zero, List.set_cons_succ, List.foldl_cons, List.foldl_nil, List.map_cons, List.map_nil, List.length_cons, List.length_nil, List.replicate, List.cons_append, List.nil_append, exists_eq_left, exists_eq_left', D.bl.injEq, D.int.injEq, D.tup.injEq, decide_eq_true_eq, decide_eq_false_iff_not, true_and, and_true, true_implies, List.length_map, fr_ref, fr_ints, fr_ois, fr_rows, fr_int, fr_lst, fr_row, fr_oi, fr_bl, fr_non, fr_cons, fr_nil, fr_tup, Fl.rt.injEq, Fl.nx.injEq, ex_neg, ex_neg', Bool.not_eq_true', Bool.not_eq_false', Bool.not_not, wipeE, omap_cons, omap_nil, at_0, at_1, at_2, oi_some, oi_none, oP_some, oP_none, Option.some.injEq, end_get, end_set, beq_self_eq_true, bne_self_eq_false, tn, tn0, tn1, fitL, mL, mR, nc, nc0, nc1, c_ltT, c_gtT, c_leT, ev_tup, ev_listc, ev_cons, ev_nil, ev_list0, ev_0list, c_inT, c_ninT, LIM, Int.zero_add, gc_id, Nat.le_refl, Option.map_some, Option.bind_some, isi_s, ty_int, ty_bl, ty_non, ty_lst, ty_tup, ty_str, ty_ref, ty_cl, ty_oi, isTy, Int.reduceLE, Int.reduceLT, Int.reducePow, Int.reduceAdd, Int.reduceSub, Int.reduceMul, Int.reduceNeg, Int.reduceEq, Int.reduceGT, Int.reduceGE, Int.reduceNe, Nat.reduceAdd, Nat.reduceSub, Nat.reduceLT, Nat.reduceLeDiff, Nat.reduceMul, Nat.reducePow, Nat.reduceBEq, Nat.reduceEqDiff, Int.reduceToNat, Bool.not_eq_true, Bool.not_true, Bool.not_false, Bool.not_eq_false, Bool.not_eq_eq_eq_not, reduceCtorEq, if_true, if_false, false_implies, Bool.false_eq_true, Bool.true_eq_false, and_self, not_true, not_false_iff, implies_true, forall_const, true_or, or_true, and_false, false_and, ge_iff_le, gt_iff_lt, cl_pairs, g_s, p_gT, p_gF, Bool.and_true, Bool.true_and, Bool.and_self, cl_ints, cl_bls, cl_oi, cl_ois, cl_row, cl_rows, cl_drow, cl_drows, cl_app, cl_lst, cl_cons, cl_nil, cl_int, cl_bl, cl_non, cl_str, cl_tup, fit, mfit, rt_pairs, sh_pairs, rt_bl, rt_non, rt_str, rt_tup, sh_non, sh_str, sh_tup, rt_ints, rt_oi, rt_ois, rt_row, rt_rows, rt_drow, rt_drows, rt_ref, rt_int, rt_cell, rt_cons, rt_nil, rt_lst, rt_app, p_gF, List.all_cons, List.all_nil, sh_ints, sh_oi, sh_ois, sh_row, sh_rows, sh_drow, sh_drows, sh_ref, sh_int, sh_bl, sh_cell, sh_cons, sh_nil, sh_lst, Nat.zero_add, Nat.add_zero]
        refine ⟨by omega, t ++ [w], (gc_take (by simp only [be_pairs, be_ints, be_oi, be_ois, be_row, be_rows, be_drow, be_drows, be_app, be_int, be_bl, be_non, be_str, be_scr, be_lst, be_tup, be_ref, be_cons, be_nil, be_cell, be_e0, be_eN, be_eS, List.take_succ_cons, List.take_zero, List.all_cons, List.all_nil, Bool.and_true, Bool.true_and, Bool.and_self, decide_eq_true_eq]; decide) (by simp only [be_pairs, be_ints, be_oi, be_ois, be_row, be_rows, be_drow, be_drows, be_app, be_int, be_bl, be_non, be_str, be_scr, be_lst, be_tup, be_ref, be_cons, be_nil, be_cell, be_e0, be_eN, be_eS, List.take_succ_cons, List.take_zero, List.all_cons, List.all_nil, Bool.and_true, Bool.true_and, Bool.and_self, decide_eq_true_eq])).trans (by simp [row]), by simp [hz], rowsOk_snoc hb hw⟩
    · rintro e m' ⟨t, rfl, rfl, hz, hb⟩
      rw [rgi_len] at hz
      simp (disch := decide) only [ev_00, fr_pair, fr_pairs, py_pair, py_pairs, ev_pair, ev_pairs, ev_pairs0, anyPr, p_minR, p_maxR, p_sumR, p_allR, p_anyR, p_sortedR, o_nil, o_cons, o_ret, o_expr, o_set, o_asg, o_ife, o_setIx, o_aug, o_augIx, o_kill, o_pass, o_retN, seqP_nx, seqP_rt, o_var, o_int, o_bl, o_non, o_str, o_cst, o_bin, o_neg, o_cmp, o_chain, o_isN, o_notN, o_and, o_or, o_and1, o_or1, o_and2, o_or2, o_not, o_lst, o_tup, o_ix, o_slice, o_part0, o_part1, o_call, o_bi, o_isi, o_frz, o_isB, o_lrg, p_isB, p_lrg1, p_lrg2, o_rev, o_par, p_revL, p_revS, p_revR, ← List.map_reverse, o_mth0, o_mth, o_evs0, o_evs1, o_slst, o_stup, o_rng, o_enum, o_zip, o_enumT, o_lset, o_srtP, p_enumT, p_lset, p_srtP, p_listT, p_tupL, p_sliceT, p_divmod, p_var, v_0, v_s, p_add, p_addL, p_addT, p_sub, p_mul, p_mulL, p_div, p_mod, p_pow, p_neg, p_alF, p_alT, p_lst, p_tup, p_not, p_cmp, c_eq, c_ne, c_lt, c_gt, c_le, c_ge, c_in, c_nin, anyI, ev_ints0, ev_row0, ev_0ints, ev_ois0, p_isN, p_notN, p_ix, p_ixT, p_ixS, p_ixR, at_m, p_len, p_lenT, p_lenS, p_lenR, p_list, p_listS, p_listR, p_slice, p_allM, p_anyM, p_sumM, p_all, p_any, p_sum, p_max2, p_min2, p_remove, p_sorted, ints_snoc, ints_map, p_index, isl_l, py_drow, py_drows, ev_drow, ev_drows, fr_drow, fr_drows, p_sliceS, p_sliceR, p_src, p_srcS, p_srcT, p_srcR, src_l, src_f, p_rng1, p_rng2, p_enum, p_zip, p_app, p_pop, p_clear, p_rev, p_ext, p_ins, p_popAt, p_set, p_isi, p_frz, a_add, a_sub, a_mul, ixL, ixLR, cell_l, live_l, isl, py_int, py_bl, py_non, py_str, py_oi, py_lst, py_tup, py_scr, py_ints, py_bls, py_ois, py_row, py_rows, py_ref, ev_int, ev_bl, ev_str, ev_oi, ev_oI, ev_Io, ev_oN, ev_No, ev_ints, ev_row, ev_ois, ev_rows, non_oi, cut_map, ← List.map_take, ← List.map_drop, List.getElem?_cons_zero, List.getElem?_cons_succ, List.set_cons_zero, List.set_cons_succ, List.foldl_cons, List.foldl_nil, List.map_cons, List.map_nil, List.length_cons, List.length_nil, List.replicate, List.cons_append, List.nil_append, exists_eq_left, exists_eq_left', D.bl.injEq, D.int.injEq, D.tup.injEq, decide_eq_true_eq, decide_eq_false_iff_not, true_and, and_true, true_implies, List.length_map, fr_ref, fr_ints, fr_ois, fr_rows, fr_int, fr_lst, fr_row, fr_oi, fr_bl, fr_non, fr_cons, fr_nil, fr_tup, Fl.rt.injEq, Fl.nx.injEq, ex_neg, ex_neg', Bool.not_eq_true', Bool.not_eq_false', Bool.not_not, wipeE, omap_cons, omap_nil, at_0, at_1, at_2, oi_some, oi_none, oP_some, oP_none, Option.some.injEq, end_get, end_set, beq_self_eq_true, bne_self_eq_false, tn, tn0, tn1, fitL, mL, mR, nc, nc0, nc1, c_ltT, c_gtT, c_leT, ev_tup, ev_listc, ev_cons, ev_nil, ev_list0, ev_0list, c_inT, c_ninT, LIM, Int.zero_add, gc_id, Nat.le_refl, Option.map_some, Option.bind_some, isi_s, ty_int, ty_bl, ty_non, ty_lst, ty_tup, ty_str, ty_ref, ty_cl, ty_oi, isTy, Int.reduceLE, Int.reduceLT, Int.reducePow, Int.reduceAdd, Int.reduceSub, Int.reduceMul, Int.reduceNeg, Int.reduceEq, Int.reduceGT, Int.reduceGE, Int.reduceNe, Nat.reduceAdd, Nat.reduceSub, Nat.reduceLT, Nat.reduceLeDiff, Nat.reduceMul, Nat.reducePow, Nat.reduceBEq, Nat.reduceEqDiff, Int.reduceToNat, Bool.not_eq_true, Bool.not_true, Bool.not_false, Bool.not_eq_false, Bool.not_eq_eq_eq_not, reduceCtorEq, if_true, if_false, false_implies, Bool.false_eq_true, Bool.true_eq_false, and_self, not_true, not_false_iff, implies_true, forall_const, true_or, or_true, and_false, false_and, ge_iff_le, gt_iff_lt, cl_pairs, g_s, p_gT, p_gF, Bool.and_true, Bool.true_and, Bool.and_self, cl_ints, cl_bls, cl_oi, cl_ois, cl_row, cl_rows, cl_drow, cl_drows, cl_app, cl_lst, cl_cons, cl_nil, cl_int, cl_bl, cl_non, cl_str, cl_tup, fit, mfit, rt_pairs, sh_pairs, rt_bl, rt_non, rt_str, rt_tup, sh_non, sh_str, sh_tup, rt_ints, rt_oi, rt_ois, rt_row, rt_rows, rt_drow, rt_drows, rt_ref, rt_int, rt_cell, rt_cons, rt_nil, rt_lst, rt_app, p_gF, List.all_cons, List.all_nil, sh_ints, sh_oi, sh_ois, sh_row, sh_rows, sh_drow, sh_drows, sh_ref, sh_int, sh_bl, sh_cell, sh_cons, sh_nil, sh_lst, Nat.zero_add, Nat.add_zero]
      exact ⟨t, rfl, ⟨by omega, by omega⟩, m, hm, hb⟩
  obtain ⟨fl, m', e, t, rfl, rfl, h2⟩ := h.elim
  exact ⟨t, by rw [R__law_table]; exact run_ok (by rw [e]; exact ⟨rfl, .inr ⟨rfl, rfl⟩⟩), h2⟩
/-- an order of all: each once -/
theorem order (c : Int) (many : Nat) (hm : many ≤ 100) : ∃ os : List Int, F__law_order.run [.int c, .int many] = some (.ok (.ref 1, [.lst .live [], (Cell.lst .live (List.map D.int os))])) ∧ os.Perm (rgi 0 many) := by
  have h : Ok (S.evs G__law_order b__law_order ([.int c, D.int many].map some ++ List.replicate (N__law_order.length - [D.int c, .int many].length) none) []) fun fl m => ∃ os : List Int, fl = .rt (.ref 1) ∧ m = [.lst .live [], (Cell.lst .live (List.map D.int os))] ∧ os.Perm (rgi 0 many) := by
    simp only [b__law_order, N__law_order, List.map_cons, List.map_nil, List.length_cons, List.length_nil, Nat.reduceAdd, Nat.reduceSub, List.replicate, List.cons_append, List.nil_append]
    rw [o_cons]
    simp (disch := decide) only [ev_00, fr_pair, fr_pairs, py_pair, py_pairs, ev_pair, ev_pairs, ev_pairs0, anyPr, p_minR, p_maxR, p_sumR, p_allR, p_anyR, p_sortedR, o_nil, o_ret, o_expr, o_set, o_asg, o_ife, o_setIx, o_aug, o_augIx, o_kill, o_pass, o_retN, seqP_nx, seqP_rt, o_var, o_int, o_bl, o_non, o_str, o_cst, o_bin, o_neg, o_cmp, o_chain, o_isN, o_notN, o_and, o_or, o_and1, o_or1, o_and2, o_or2, o_not, o_lst, o_tup, o_ix, o_slice, o_part0, o_part1, o_call, o_bi, o_isi, o_frz, o_isB, o_lrg, p_isB, p_lrg1, p_lrg2, o_rev, o_par, p_revL, p_revS, p_revR, ← List.map_reverse, o_mth0, o_mth, o_evs0, o_evs1, o_slst, o_stup, o_rng, o_enum, o_zip, o_enumT, o_lset, o_srtP, p_enumT, p_lset, p_srtP, p_listT, p_tupL, p_sliceT, p_divmod, p_var, v_0, v_s, p_add, p_addL, p_addT, p_sub, p_mul, p_mulL, p_div, p_mod, p_pow, p_neg, p_alF, p_alT, p_lst, p_tup, p_not, p_cmp, c_eq, c_ne, c_lt, c_gt, c_le, c_ge, c_in, c_nin, anyI, ev_ints0, ev_row0, ev_0ints, ev_ois0, p_isN, p_notN, p_ix, p_ixT, p_ixS, p_ixR, at_m, p_len, p_lenT, p_lenS, p_lenR, p_list, p_listS, p_listR, p_slice, p_allM, p_anyM, p_sumM, p_all, p_any, p_sum, p_max2, p_min2, p_remove, p_sorted, ints_snoc, ints_map, p_index, isl_l, py_drow, py_drows, ev_drow, ev_drows, fr_drow, fr_drows, p_sliceS, p_sliceR, p_src, p_srcS, p_srcT, p_srcR, src_l, src_f, p_rng1, p_rng2, p_enum, p_zip, p_app, p_pop, p_clear, p_rev, p_ext, p_ins, p_popAt, p_set, p_isi, p_frz, a_add, a_sub, a_mul, ixL, ixLR, cell_l, live_l, isl, py_int, py_bl, py_non, py_str, py_oi, py_lst, py_tup, py_scr, py_ints, py_bls, py_ois, py_row, py_rows, py_ref, ev_int, ev_bl, ev_str, ev_oi, ev_oI, ev_Io, ev_oN, ev_No, ev_ints, ev_row, ev_ois, ev_rows, non_oi, cut_map, ← List.map_take, ← List.map_drop, List.getElem?_cons_zero, List.getElem?_cons_succ, List.set_cons_zero, List.set_cons_succ, List.foldl_cons, List.foldl_nil, List.map_cons, List.map_nil, List.length_cons, List.length_nil, List.replicate, List.cons_append, List.nil_append, exists_eq_left, exists_eq_left', D.bl.injEq, D.int.injEq, D.tup.injEq, decide_eq_true_eq, decide_eq_false_iff_not, true_and, and_true, true_implies, List.length_map, fr_ref, fr_ints, fr_ois, fr_rows, fr_int, fr_lst, fr_row, fr_oi, fr_bl, fr_non, fr_cons, fr_nil, fr_tup, Fl.rt.injEq, Fl.nx.injEq, ex_neg, ex_neg', Bool.not_eq_true', Bool.not_eq_false', Bool.not_not, wipeE, omap_cons, omap_nil, at_0, at_1, at_2, oi_some, oi_none, oP_some, oP_none, Option.some.injEq, end_get, end_set, beq_self_eq_true, bne_self_eq_false, tn, tn0, tn1, fitL, mL, mR, nc, nc0, nc1, c_ltT, c_gtT, c_leT, ev_tup, ev_listc, ev_cons, ev_nil, ev_list0, ev_0list, c_inT, c_ninT, LIM, Int.zero_add, gc_id, Nat.le_refl, Option.map_some, Option.bind_some, isi_s, ty_int, ty_bl, ty_non, ty_lst, ty_tup, ty_str, ty_ref, ty_cl, ty_oi, isTy, Int.reduceLE, Int.reduceLT, Int.reducePow, Int.reduceAdd, Int.reduceSub, Int.reduceMul, Int.reduceNeg, Int.reduceEq, Int.reduceGT, Int.reduceGE, Int.reduceNe, Nat.reduceAdd, Nat.reduceSub, Nat.reduceLT, Nat.reduceLeDiff, Nat.reduceMul, Nat.reducePow, Nat.reduceBEq, Nat.reduceEqDiff, Int.reduceToNat, Bool.not_eq_true, Bool.not_true, Bool.not_false, Bool.not_eq_false, Bool.not_eq_eq_eq_not, reduceCtorEq, if_true, if_false, false_implies, Bool.false_eq_true, Bool.true_eq_false, and_self, not_true, not_false_iff, implies_true, forall_const, true_or, or_true, and_false, false_and, ge_iff_le, gt_iff_lt, cl_pairs, g_s, p_gT, p_gF, Bool.and_true, Bool.true_and, Bool.and_self, cl_ints, cl_bls, cl_oi, cl_ois, cl_row, cl_rows, cl_drow, cl_drows, cl_app, cl_lst, cl_cons, cl_nil, cl_int, cl_bl, cl_non, cl_str, cl_tup, fit, mfit, rt_pairs, sh_pairs, rt_bl, rt_non, rt_str, rt_tup, sh_non, sh_str, sh_tup, rt_ints, rt_oi, rt_ois, rt_row, rt_rows, rt_drow, rt_drows, rt_ref, rt_int, rt_cell, rt_cons, rt_nil, rt_lst, rt_app, p_gF, List.all_cons, List.all_nil, sh_ints, sh_oi, sh_ois, sh_row, sh_rows, sh_drow, sh_drows, sh_ref, sh_int, sh_bl, sh_cell, sh_cons, sh_nil, sh_lst, Nat.zero_add, Nat.add_zero]
    refine ⟨⟨by omega, by omega⟩, ?_⟩
    rw [o_cons]
    simp (disch := decide) only [ev_00, fr_pair, fr_pairs, py_pair, py_pairs, ev_pair, ev_pairs, ev_pairs0, anyPr, p_minR, p_maxR, p_sumR, p_allR, p_anyR, p_sortedR, o_nil, o_ret, o_expr, o_set, o_asg, o_ife, o_setIx, o_aug, o_augIx, o_kill, o_pass, o_retN, seqP_nx, seqP_rt, o_var, o_int, o_bl, o_non, o_str, o_cst, o_bin, o_neg, o_cmp, o_chain, o_isN, o_notN, o_and, o_or, o_and1, o_or1, o_and2, o_or2, o_not, o_lst, o_tup, o_ix, o_slice, o_part0, o_part1, o_call, o_bi, o_isi, o_frz, o_isB, o_lrg, p_isB, p_lrg1, p_lrg2, o_rev, o_par, p_revL, p_revS, p_revR, ← List.map_reverse, o_mth0, o_mth, o_evs0, o_evs1, o_slst, o_stup, o_rng, o_enum, o_zip, o_enumT, o_lset, o_srtP, p_enumT, p_lset, p_srtP, p_listT, p_tupL, p_sliceT, p_divmod, p_var, v_0, v_s, p_add, p_addL, p_addT, p_sub, p_mul, p_mulL, p_div, p_mod, p_pow, p_neg, p_alF, p_alT, p_lst, p_tup, p_not, p_cmp, c_eq, c_ne, c_lt, c_gt, c_le, c_ge, c_in, c_nin, anyI, ev_ints0, ev_row0, ev_0ints, ev_ois0, p_isN, p_notN, p_ix, p_ixT, p_ixS, p_ixR, at_m, p_len, p_lenT, p_lenS, p_lenR, p_list, p_listS, p_listR, p_slice, p_allM, p_anyM, p_sumM, p_all, p_any, p_sum, p_max2, p_min2, p_remove, p_sorted, ints_snoc, ints_map, p_index, isl_l, py_drow, py_drows, ev_drow, ev_drows, fr_drow, fr_drows, p_sliceS, p_sliceR, p_src, p_srcS, p_srcT, p_srcR, src_l, src_f, p_rng1, p_rng2, p_enum, p_zip, p_app, p_pop, p_clear, p_rev, p_ext, p_ins, p_popAt, p_set, p_isi, p_frz, a_add, a_sub, a_mul, ixL, ixLR, cell_l, live_l, isl, py_int, py_bl, py_non, py_str, py_oi, py_lst, py_tup, py_scr, py_ints, py_bls, py_ois, py_row, py_rows, py_ref, ev_int, ev_bl, ev_str, ev_oi, ev_oI, ev_Io, ev_oN, ev_No, ev_ints, ev_row, ev_ois, ev_rows, non_oi, cut_map, ← List.map_take, ← List.map_drop, List.getElem?_cons_zero, List.getElem?_cons_succ, List.set_cons_zero, List.set_cons_succ, List.foldl_cons, List.foldl_nil, List.map_cons, List.map_nil, List.length_cons, List.length_nil, List.replicate, List.cons_append, List.nil_append, exists_eq_left, exists_eq_left', D.bl.injEq, D.int.injEq, D.tup.injEq, decide_eq_true_eq, decide_eq_false_iff_not, true_and, and_true, true_implies, List.length_map, fr_ref, fr_ints, fr_ois, fr_rows, fr_int, fr_lst, fr_row, fr_oi, fr_bl, fr_non, fr_cons, fr_nil, fr_tup, Fl.rt.injEq, Fl.nx.injEq, ex_neg, ex_neg', Bool.not_eq_true', Bool.not_eq_false', Bool.not_not, wipeE, omap_cons, omap_nil, at_0, at_1, at_2, oi_some, oi_none, oP_some, oP_none, Option.some.injEq, end_get, end_set, beq_self_eq_true, bne_self_eq_false, tn, tn0, tn1, fitL, mL, mR, nc, nc0, nc1, c_ltT, c_gtT, c_leT, ev_tup, ev_listc, ev_cons, ev_nil, ev_list0, ev_0list, c_inT, c_ninT, LIM, Int.zero_add, gc_id, Nat.le_refl, Option.map_some, Option.bind_some, isi_s, ty_int, ty_bl, ty_non, ty_lst, ty_tup, ty_str, ty_ref, ty_cl, ty_oi, isTy, Int.reduceLE, Int.reduceLT, Int.reducePow, Int.reduceAdd, Int.reduceSub, Int.reduceMul, Int.reduceNeg, Int.reduceEq, Int.reduceGT, Int.reduceGE, Int.reduceNe, Nat.reduceAdd, Nat.reduceSub, Nat.reduceLT, Nat.reduceLeDiff, Nat.reduceMul, Nat.reducePow, Nat.reduceBEq, Nat.reduceEqDiff, Int.reduceToNat, Bool.not_eq_true, Bool.not_true, Bool.not_false, Bool.not_eq_false, Bool.not_eq_eq_eq_not, reduceCtorEq, if_true, if_false, false_implies, Bool.false_eq_true, Bool.true_eq_false, and_self, not_true, not_false_iff, implies_true, forall_const, true_or, or_true, and_false, false_and, ge_iff_le, gt_iff_lt, cl_pairs, g_s, p_gT, p_gF, Bool.and_true, Bool.true_and, Bool.and_self, cl_ints, cl_bls, cl_oi, cl_ois, cl_row, cl_rows, cl_drow, cl_drows, cl_app, cl_lst, cl_cons, cl_nil, cl_int, cl_bl, cl_non, cl_str, cl_tup, fit, mfit, rt_pairs, sh_pairs, rt_bl, rt_non, rt_str, rt_tup, sh_non, sh_str, sh_tup, rt_ints, rt_oi, rt_ois, rt_row, rt_rows, rt_drow, rt_drows, rt_ref, rt_int, rt_cell, rt_cons, rt_nil, rt_lst, rt_app, p_gF, List.all_cons, List.all_nil, sh_ints, sh_oi, sh_ois, sh_row, sh_rows, sh_drow, sh_drows, sh_ref, sh_int, sh_bl, sh_cell, sh_cons, sh_nil, sh_lst, Nat.zero_add, Nat.add_zero]
    rw [o_cons]
    simp (disch := decide) only [ev_00, fr_pair, fr_pairs, py_pair, py_pairs, ev_pair, ev_pairs, ev_pairs0, anyPr, p_minR, p_maxR, p_sumR, p_allR, p_anyR, p_sortedR, o_nil, o_ret, o_expr, o_set, o_asg, o_ife, o_setIx, o_aug, o_augIx, o_kill, o_pass, o_retN, seqP_nx, seqP_rt, o_var, o_int, o_bl, o_non, o_str, o_cst, o_bin, o_neg, o_cmp, o_chain, o_isN, o_notN, o_and, o_or, o_and1, o_or1, o_and2, o_or2, o_not, o_lst, o_tup, o_ix, o_slice, o_part0, o_part1, o_call, o_bi, o_isi, o_frz, o_isB, o_lrg, p_isB, p_lrg1, p_lrg2, o_rev, o_par, p_revL, p_revS, p_revR, ← List.map_reverse, o_mth0, o_mth, o_evs0, o_evs1, o_slst, o_stup, o_rng, o_enum, o_zip, o_enumT, o_lset, o_srtP, p_enumT, p_lset, p_srtP, p_listT, p_tupL, p_sliceT, p_divmod, p_var, v_0, v_s, p_add, p_addL, p_addT, p_sub, p_mul, p_mulL, p_div, p_mod, p_pow, p_neg, p_alF, p_alT, p_lst, p_tup, p_not, p_cmp, c_eq, c_ne, c_lt, c_gt, c_le, c_ge, c_in, c_nin, anyI, ev_ints0, ev_row0, ev_0ints, ev_ois0, p_isN, p_notN, p_ix, p_ixT, p_ixS, p_ixR, at_m, p_len, p_lenT, p_lenS, p_lenR, p_list, p_listS, p_listR, p_slice, p_allM, p_anyM, p_sumM, p_all, p_any, p_sum, p_max2, p_min2, p_remove, p_sorted, ints_snoc, ints_map, p_index, isl_l, py_drow, py_drows, ev_drow, ev_drows, fr_drow, fr_drows, p_sliceS, p_sliceR, p_src, p_srcS, p_srcT, p_srcR, src_l, src_f, p_rng1, p_rng2, p_enum, p_zip, p_app, p_pop, p_clear, p_rev, p_ext, p_ins, p_popAt, p_set, p_isi, p_frz, a_add, a_sub, a_mul, ixL, ixLR, cell_l, live_l, isl, py_int, py_bl, py_non, py_str, py_oi, py_lst, py_tup, py_scr, py_ints, py_bls, py_ois, py_row, py_rows, py_ref, ev_int, ev_bl, ev_str, ev_oi, ev_oI, ev_Io, ev_oN, ev_No, ev_ints, ev_row, ev_ois, ev_rows, non_oi, cut_map, ← List.map_take, ← List.map_drop, List.getElem?_cons_zero, List.getElem?_cons_succ, List.set_cons_zero, List.set_cons_succ, List.foldl_cons, List.foldl_nil, List.map_cons, List.map_nil, List.length_cons, List.length_nil, List.replicate, List.cons_append, List.nil_append, exists_eq_left, exists_eq_left', D.bl.injEq, D.int.injEq, D.tup.injEq, decide_eq_true_eq, decide_eq_false_iff_not, true_and, and_true, true_implies, List.length_map, fr_ref, fr_ints, fr_ois, fr_rows, fr_int, fr_lst, fr_row, fr_oi, fr_bl, fr_non, fr_cons, fr_nil, fr_tup, Fl.rt.injEq, Fl.nx.injEq, ex_neg, ex_neg', Bool.not_eq_true', Bool.not_eq_false', Bool.not_not, wipeE, omap_cons, omap_nil, at_0, at_1, at_2, oi_some, oi_none, oP_some, oP_none, Option.some.injEq, end_get, end_set, beq_self_eq_true, bne_self_eq_false, tn, tn0, tn1, fitL, mL, mR, nc, nc0, nc1, c_ltT, c_gtT, c_leT, ev_tup, ev_listc, ev_cons, ev_nil, ev_list0, ev_0list, c_inT, c_ninT, LIM, Int.zero_add, gc_id, Nat.le_refl, Option.map_some, Option.bind_some, isi_s, ty_int, ty_bl, ty_non, ty_lst, ty_tup, ty_str, ty_ref, ty_cl, ty_oi, isTy, Int.reduceLE, Int.reduceLT, Int.reducePow, Int.reduceAdd, Int.reduceSub, Int.reduceMul, Int.reduceNeg, Int.reduceEq, Int.reduceGT, Int.reduceGE, Int.reduceNe, Nat.reduceAdd, Nat.reduceSub, Nat.reduceLT, Nat.reduceLeDiff, Nat.reduceMul, Nat.reducePow, Nat.reduceBEq, Nat.reduceEqDiff, Int.reduceToNat, Bool.not_eq_true, Bool.not_true, Bool.not_false, Bool.not_eq_false, Bool.not_eq_eq_eq_not, reduceCtorEq, if_true, if_false, false_implies, Bool.false_eq_true, Bool.true_eq_false, and_self, not_true, not_false_iff, implies_true, forall_const, true_or, or_true, and_false, false_and, ge_iff_le, gt_iff_lt, cl_pairs, g_s, p_gT, p_gF, Bool.and_true, Bool.true_and, Bool.and_self, cl_ints, cl_bls, cl_oi, cl_ois, cl_row, cl_rows, cl_drow, cl_drows, cl_app, cl_lst, cl_cons, cl_nil, cl_int, cl_bl, cl_non, cl_str, cl_tup, fit, mfit, rt_pairs, sh_pairs, rt_bl, rt_non, rt_str, rt_tup, sh_non, sh_str, sh_tup, rt_ints, rt_oi, rt_ois, rt_row, rt_rows, rt_drow, rt_drows, rt_ref, rt_int, rt_cell, rt_cons, rt_nil, rt_lst, rt_app, p_gF, List.all_cons, List.all_nil, sh_ints, sh_oi, sh_ois, sh_row, sh_rows, sh_drow, sh_drows, sh_ref, sh_int, sh_bl, sh_cell, sh_cons, sh_nil, sh_lst, Nat.zero_add, Nat.add_zero]
    have z0 : 0 ≤ c * 48271 % 2147483647 ∧ c * 48271 % 2147483647 < 2147483647 := by omega
    generalize c * 48271 % 2147483647 = z at z0 ⊢
    rw [o_cons]
    refine o_wh 2 (fun k e m => ∃ (left os : List Int) (z : Int), k = left.length ∧ e = [some (.int c), some (.int many), some (.ref 0), some (.ref 1), some (.int z)] ∧ m = [(Cell.lst .live (List.map D.int left)), (Cell.lst .live (List.map D.int os))] ∧ (0 ≤ z ∧ z < 2147483647) ∧ (left ++ os).Perm (rgi 0 many)) many (by omega) ?_ ?_ ?_
    · simp
    · exact ⟨rgi 0 many, [], z, by simp [rgi_len], rfl, by simp, z0, by simp⟩
    · rintro k e m ⟨left, os, z, rfl, rfl, rfl, z0, hp⟩
      have hlen := hp.length_eq
      rw [List.length_append, rgi_len] at hlen
      have m1 : mulOk z z = true := mul_l (by omega)
      simp (disch := decide) only [ev_00, fr_pair, fr_pairs, py_pair, py_pairs, ev_pair, ev_pairs, ev_pairs0, anyPr, p_minR, p_maxR, p_sumR, p_allR, p_anyR, p_sortedR, o_nil, o_cons, o_ret, o_expr, o_set, o_asg, o_ife, o_setIx, o_aug, o_augIx, o_kill, o_pass, o_retN, seqP_nx, seqP_rt, o_var, o_int, o_bl, o_non, o_str, o_cst, o_bin, o_neg, o_cmp, o_chain, o_isN, o_notN, o_and, o_or, o_and1, o_or1, o_and2, o_or2, o_not, o_lst, o_tup, o_ix, o_slice, o_part0, o_part1, o_call, o_bi, o_isi, o_frz, o_isB, o_lrg, p_isB, p_lrg1, p_lrg2, o_rev, o_par, p_revL, p_revS, p_revR, ← List.map_reverse, o_mth0, o_mth, o_evs0, o_evs1, o_slst, o_stup, o_rng, o_enum, o_zip, o_enumT, o_lset, o_srtP, p_enumT, p_lset, p_srtP, p_listT, p_tupL, p_sliceT, p_divmod, p_var, v_0, v_s, p_add, p_addL, p_addT, p_sub, p_mul, p_mulL, p_div, p_mod, p_pow, p_neg, p_alF, p_alT, p_lst, p_tup, p_not, p_cmp, c_eq, c_ne, c_lt, c_gt, c_le, c_ge, c_in, c_nin, anyI, ev_ints0, ev_row0, ev_0ints, ev_ois0, p_isN, p_notN, p_ix, p_ixT, p_ixS, p_ixR, at_m, p_len, p_lenT, p_lenS, p_lenR, p_list, p_listS, p_listR, p_slice, p_allM, p_anyM, p_sumM, p_all, p_any, p_sum, p_max2, p_min2, p_remove, p_sorted, ints_snoc, ints_map, p_index, isl_l, py_drow, py_drows, ev_drow, ev_drows, fr_drow, fr_drows, p_sliceS, p_sliceR, p_src, p_srcS, p_srcT, p_srcR, src_l, src_f, p_rng1, p_rng2, p_enum, p_zip, p_app, p_pop, p_clear, p_rev, p_ext, p_ins, p_popAt, p_set, p_isi, p_frz, a_add, a_sub, a_mul, ixL, ixLR, cell_l, live_l, isl, py_int, py_bl, py_non, py_str, py_oi, py_lst, py_tup, py_scr, py_ints, py_bls, py_ois, py_row, py_rows, py_ref, ev_int, ev_bl, ev_str, ev_oi, ev_oI, ev_Io, ev_oN, ev_No, ev_ints, ev_row, ev_ois, ev_rows, non_oi, cut_map, ← List.map_take, ← List.map_drop, List.getElem?_cons_zero, List.getElem?_cons_succ, List.set_cons_zero, List.set_cons_succ, List.foldl_cons, List.foldl_nil, List.map_cons, List.map_nil, List.length_cons, List.length_nil, List.replicate, List.cons_append, List.nil_append, exists_eq_left, exists_eq_left', D.bl.injEq, D.int.injEq, D.tup.injEq, decide_eq_true_eq, decide_eq_false_iff_not, true_and, and_true, true_implies, List.length_map, fr_ref, fr_ints, fr_ois, fr_rows, fr_int, fr_lst, fr_row, fr_oi, fr_bl, fr_non, fr_cons, fr_nil, fr_tup, Fl.rt.injEq, Fl.nx.injEq, ex_neg, ex_neg', Bool.not_eq_true', Bool.not_eq_false', Bool.not_not, wipeE, omap_cons, omap_nil, at_0, at_1, at_2, oi_some, oi_none, oP_some, oP_none, Option.some.injEq, end_get, end_set, beq_self_eq_true, bne_self_eq_false, tn, tn0, tn1, fitL, mL, mR, nc, nc0, nc1, c_ltT, c_gtT, c_leT, ev_tup, ev_listc, ev_cons, ev_nil, ev_list0, ev_0list, c_inT, c_ninT, LIM, Int.zero_add, gc_id, Nat.le_refl, Option.map_some, Option.bind_some, isi_s, ty_int, ty_bl, ty_non, ty_lst, ty_tup, ty_str, ty_ref, ty_cl, ty_oi, isTy, Int.reduceLE, Int.reduceLT, Int.reducePow, Int.reduceAdd, Int.reduceSub, Int.reduceMul, Int.reduceNeg, Int.reduceEq, Int.reduceGT, Int.reduceGE, Int.reduceNe, Nat.reduceAdd, Nat.reduceSub, Nat.reduceLT, Nat.reduceLeDiff, Nat.reduceMul, Nat.reducePow, Nat.reduceBEq, Nat.reduceEqDiff, Int.reduceToNat, Bool.not_eq_true, Bool.not_true, Bool.not_false, Bool.not_eq_false, Bool.not_eq_eq_eq_not, reduceCtorEq, if_true, if_false, false_implies, Bool.false_eq_true, Bool.true_eq_false, and_self, not_true, not_false_iff, implies_true, forall_const, true_or, or_true, and_false, false_and, ge_iff_le, gt_iff_lt, cl_pairs, g_s, p_gT, p_gF, Bool.and_true, Bool.true_and, Bool.and_self, cl_ints, cl_bls, cl_oi, cl_ois, cl_row, cl_rows, cl_drow, cl_drows, cl_app, cl_lst, cl_cons, cl_nil, cl_int, cl_bl, cl_non, cl_str, cl_tup, fit, mfit, rt_pairs, sh_pairs, rt_bl, rt_non, rt_str, rt_tup, sh_non, sh_str, sh_tup, rt_ints, rt_oi, rt_ois, rt_row, rt_rows, rt_drow, rt_drows, rt_ref, rt_int, rt_cell, rt_cons, rt_nil, rt_lst, rt_app, p_gF, List.all_cons, List.all_nil, sh_ints, sh_oi, sh_ois, sh_row, sh_rows, sh_drow, sh_drows, sh_ref, sh_int, sh_bl, sh_cell, sh_cons, sh_nil, sh_lst, Nat.zero_add, Nat.add_zero]
      refine ⟨fun q => ?_, fun q => ?_⟩
      · have : left = [] := List.eq_nil_of_length_eq_zero (by omega)
        subst this
        exact ⟨os, rfl, by simpa using hp⟩
      · refine ⟨m1, ?_⟩
        have z2 : 0 ≤ (z * z + 48271 * z + left.length) % 2147483647 ∧ (z * z + 48271 * z + left.length) % 2147483647 < 2147483647 := by omega
        generalize (z * z + 48271 * z + left.length) % 2147483647 = y at z2 ⊢
        have g0 := Int.emod_nonneg (y / 64) (show (left.length : Int) ≠ 0 by omega)
        have g1 := Int.emod_lt_of_pos (y / 64) (show (0 : Int) < left.length by omega)
        generalize y / 64 % (left.length : Int) = a at g0 g1 ⊢
        have ha : a.toNat < left.length := by omega
        refine ⟨by omega, a.toNat, ixN_pos g0 g1, .int left[a.toNat], by rw [List.getElem?_map, List.getElem?_eq_getElem ha]; rfl, by omega, by omega, left.length - 1, by omega, left.eraseIdx a.toNat, os ++ [left[a.toNat]], y, by rw [List.length_eraseIdx, if_pos ha], rfl, ?_, z2, ?_⟩
        · rw [gc_id (by simp), List.eraseIdx_eq_take_drop_succ, List.eraseIdx_eq_take_drop_succ, List.map_append, List.map_take, List.map_drop]
          simp
        · have e1 : (left.eraseIdx a.toNat ++ (os ++ [left[a.toNat]])).Perm (left ++ os) := by
            have e2 : (left[a.toNat] :: left.eraseIdx a.toNat).Perm left := by
              have e5 : left = left.take a.toNat ++ left[a.toNat] :: left.drop (a.toNat + 1) := by
                rw [← List.drop_eq_getElem_cons ha, List.take_append_drop]
              rw [List.eraseIdx_eq_take_drop_succ]
              refine List.Perm.trans List.perm_middle.symm ?_
              rw [← e5]
            have e3 : (left.eraseIdx a.toNat ++ (os ++ [left[a.toNat]])).Perm (left[a.toNat] :: left.eraseIdx a.toNat ++ os) := by
              rw [← List.append_assoc]
              exact (List.perm_append_singleton _ _)
            exact e3.trans (e2.append_right os)
          exact e1.trans hp
  obtain ⟨fl, m, e, os, rfl, rfl, h2⟩ := h.elim
  exact ⟨os, by rw [R__law_order]; exact run_ok (by rw [e]; exact ⟨rfl, .inr ⟨rfl, rfl⟩⟩), h2⟩
theorem hands (xs : List D) : F_hands_of.run [.lst true xs] = some (.ok (.int xs.length, [])) := by
  rw [R_hands_of]
  refine run_ok ?_
  simp only [b_hands_of, N_hands_of, ev_00, fr_pair, fr_pairs, py_pair, py_pairs, ev_pair, ev_pairs, ev_pairs0, anyPr, p_minR, p_maxR, p_sumR, p_allR, p_anyR, p_sortedR, o_nil, o_cons, o_ret, o_expr, o_set, o_asg, o_ife, o_setIx, o_aug, o_augIx, o_kill, o_pass, o_retN, seqP_nx, seqP_rt, o_var, o_int, o_bl, o_non, o_str, o_cst, o_bin, o_neg, o_cmp, o_chain, o_isN, o_notN, o_and, o_or, o_and1, o_or1, o_and2, o_or2, o_not, o_lst, o_tup, o_ix, o_slice, o_part0, o_part1, o_call, o_bi, o_isi, o_frz, o_isB, o_lrg, p_isB, p_lrg1, p_lrg2, o_rev, o_par, p_revL, p_revS, p_revR, ← List.map_reverse, o_mth0, o_mth, o_evs0, o_evs1, o_slst, o_stup, o_rng, o_enum, o_zip, o_enumT, o_lset, o_srtP, p_enumT, p_lset, p_srtP, p_listT, p_tupL, p_sliceT, p_divmod, p_var, v_0, v_s, p_add, p_addL, p_addT, p_sub, p_mul, p_mulL, p_div, p_mod, p_pow, p_neg, p_alF, p_alT, p_lst, p_tup, p_not, p_cmp, c_eq, c_ne, c_lt, c_gt, c_le, c_ge, c_in, c_nin, anyI, ev_ints0, ev_row0, ev_0ints, ev_ois0, p_isN, p_notN, p_ix, p_ixT, p_ixS, p_ixR, at_m, p_len, p_lenT, p_lenS, p_lenR, p_list, p_listS, p_listR, p_slice, p_allM, p_anyM, p_sumM, p_all, p_any, p_sum, p_max2, p_min2, p_remove, p_sorted, ints_snoc, ints_map, p_index, isl_l, py_drow, py_drows, ev_drow, ev_drows, fr_drow, fr_drows, p_sliceS, p_sliceR, p_src, p_srcS, p_srcT, p_srcR, src_l, src_f, p_rng1, p_rng2, p_enum, p_zip, p_app, p_pop, p_clear, p_rev, p_ext, p_ins, p_popAt, p_set, p_isi, p_frz, a_add, a_sub, a_mul, ixL, ixLR, cell_l, live_l, isl, py_int, py_bl, py_non, py_str, py_oi, py_lst, py_tup, py_scr, py_ints, py_bls, py_ois, py_row, py_rows, py_ref, ev_int, ev_bl, ev_str, ev_oi, ev_oI, ev_Io, ev_oN, ev_No, ev_ints, ev_row, ev_ois, ev_rows, non_oi, cut_map, ← List.map_take, ← List.map_drop, List.getElem?_cons_zero, List.getElem?_cons_succ, List.set_cons_zero, List.set_cons_succ, List.foldl_cons, List.foldl_nil, List.map_cons, List.map_nil, List.length_cons, List.length_nil, List.replicate, List.cons_append, List.nil_append, exists_eq_left, exists_eq_left', D.bl.injEq, D.int.injEq, D.tup.injEq, decide_eq_true_eq, decide_eq_false_iff_not, true_and, and_true, true_implies, List.length_map, fr_ref, fr_ints, fr_ois, fr_rows, fr_int, fr_lst, fr_row, fr_oi, fr_bl, fr_non, fr_cons, fr_nil, fr_tup, Fl.rt.injEq, Fl.nx.injEq, ex_neg, ex_neg', Bool.not_eq_true', Bool.not_eq_false', Bool.not_not, wipeE, omap_cons, omap_nil, at_0, at_1, at_2, oi_some, oi_none, oP_some, oP_none, Option.some.injEq, end_get, end_set, beq_self_eq_true, bne_self_eq_false, tn, tn0, tn1, fitL, mL, mR, nc, nc0, nc1, c_ltT, c_gtT, c_leT, ev_tup, ev_listc, ev_cons, ev_nil, ev_list0, ev_0list, c_inT, c_ninT, LIM, Int.zero_add, gc_id, Nat.le_refl, Option.map_some, Option.bind_some, isi_s, ty_int, ty_bl, ty_non, ty_lst, ty_tup, ty_str, ty_ref, ty_cl, ty_oi, isTy, Int.reduceLE, Int.reduceLT, Int.reducePow, Int.reduceAdd, Int.reduceSub, Int.reduceMul, Int.reduceNeg, Int.reduceEq, Int.reduceGT, Int.reduceGE, Int.reduceNe, Nat.reduceAdd, Nat.reduceSub, Nat.reduceLT, Nat.reduceLeDiff, Nat.reduceMul, Nat.reducePow, Nat.reduceBEq, Nat.reduceEqDiff, Int.reduceToNat, Bool.not_eq_true, Bool.not_true, Bool.not_false, Bool.not_eq_false, Bool.not_eq_eq_eq_not, reduceCtorEq, if_true, if_false, false_implies, Bool.false_eq_true, Bool.true_eq_false, and_self, not_true, not_false_iff, implies_true, forall_const, true_or, or_true, and_false, false_and, ge_iff_le, gt_iff_lt, cl_pairs, g_s, p_gT, p_gF, Bool.and_true, Bool.true_and, Bool.and_self, cl_ints, cl_bls, cl_oi, cl_ois, cl_row, cl_rows, cl_drow, cl_drows, cl_app, cl_lst, cl_cons, cl_nil, cl_int, cl_bl, cl_non, cl_str, cl_tup]
theorem things (t : List (List Int)) (h : 0 < t.length) : F_things_of.run [.lst true (t.map (row true))] = some (.ok (.int t[0].length, [])) := by
  rw [R_things_of]
  refine run_ok ?_
  simp only [b_things_of, N_things_of, ev_00, fr_pair, fr_pairs, py_pair, py_pairs, ev_pair, ev_pairs, ev_pairs0, anyPr, p_minR, p_maxR, p_sumR, p_allR, p_anyR, p_sortedR, o_nil, o_cons, o_ret, o_expr, o_set, o_asg, o_ife, o_setIx, o_aug, o_augIx, o_kill, o_pass, o_retN, seqP_nx, seqP_rt, o_var, o_int, o_bl, o_non, o_str, o_cst, o_bin, o_neg, o_cmp, o_chain, o_isN, o_notN, o_and, o_or, o_and1, o_or1, o_and2, o_or2, o_not, o_lst, o_tup, o_ix, o_slice, o_part0, o_part1, o_call, o_bi, o_isi, o_frz, o_isB, o_lrg, p_isB, p_lrg1, p_lrg2, o_rev, o_par, p_revL, p_revS, p_revR, ← List.map_reverse, o_mth0, o_mth, o_evs0, o_evs1, o_slst, o_stup, o_rng, o_enum, o_zip, o_enumT, o_lset, o_srtP, p_enumT, p_lset, p_srtP, p_listT, p_tupL, p_sliceT, p_divmod, p_var, v_0, v_s, p_add, p_addL, p_addT, p_sub, p_mul, p_mulL, p_div, p_mod, p_pow, p_neg, p_alF, p_alT, p_lst, p_tup, p_not, p_cmp, c_eq, c_ne, c_lt, c_gt, c_le, c_ge, c_in, c_nin, anyI, ev_ints0, ev_row0, ev_0ints, ev_ois0, p_isN, p_notN, p_ix, p_ixT, p_ixS, p_ixR, at_m, p_len, p_lenT, p_lenS, p_lenR, p_list, p_listS, p_listR, p_slice, p_allM, p_anyM, p_sumM, p_all, p_any, p_sum, p_max2, p_min2, p_remove, p_sorted, ints_snoc, ints_map, p_index, isl_l, py_drow, py_drows, ev_drow, ev_drows, fr_drow, fr_drows, p_sliceS, p_sliceR, p_src, p_srcS, p_srcT, p_srcR, src_l, src_f, p_rng1, p_rng2, p_enum, p_zip, p_app, p_pop, p_clear, p_rev, p_ext, p_ins, p_popAt, p_set, p_isi, p_frz, a_add, a_sub, a_mul, ixL, ixLR, cell_l, live_l, isl, py_int, py_bl, py_non, py_str, py_oi, py_lst, py_tup, py_scr, py_ints, py_bls, py_ois, py_row, py_rows, py_ref, ev_int, ev_bl, ev_str, ev_oi, ev_oI, ev_Io, ev_oN, ev_No, ev_ints, ev_row, ev_ois, ev_rows, non_oi, cut_map, ← List.map_take, ← List.map_drop, List.getElem?_cons_zero, List.getElem?_cons_succ, List.set_cons_zero, List.set_cons_succ, List.foldl_cons, List.foldl_nil, List.map_cons, List.map_nil, List.length_cons, List.length_nil, List.replicate, List.cons_append, List.nil_append, exists_eq_left, exists_eq_left', D.bl.injEq, D.int.injEq, D.tup.injEq, decide_eq_true_eq, decide_eq_false_iff_not, true_and, and_true, true_implies, List.length_map, fr_ref, fr_ints, fr_ois, fr_rows, fr_int, fr_lst, fr_row, fr_oi, fr_bl, fr_non, fr_cons, fr_nil, fr_tup, Fl.rt.injEq, Fl.nx.injEq, ex_neg, ex_neg', Bool.not_eq_true', Bool.not_eq_false', Bool.not_not, wipeE, omap_cons, omap_nil, at_0, at_1, at_2, oi_some, oi_none, oP_some, oP_none, Option.some.injEq, end_get, end_set, beq_self_eq_true, bne_self_eq_false, tn, tn0, tn1, fitL, mL, mR, nc, nc0, nc1, c_ltT, c_gtT, c_leT, ev_tup, ev_listc, ev_cons, ev_nil, ev_list0, ev_0list, c_inT, c_ninT, LIM, Int.zero_add, gc_id, Nat.le_refl, Option.map_some, Option.bind_some, isi_s, ty_int, ty_bl, ty_non, ty_lst, ty_tup, ty_str, ty_ref, ty_cl, ty_oi, isTy, Int.reduceLE, Int.reduceLT, Int.reducePow, Int.reduceAdd, Int.reduceSub, Int.reduceMul, Int.reduceNeg, Int.reduceEq, Int.reduceGT, Int.reduceGE, Int.reduceNe, Nat.reduceAdd, Nat.reduceSub, Nat.reduceLT, Nat.reduceLeDiff, Nat.reduceMul, Nat.reducePow, Nat.reduceBEq, Nat.reduceEqDiff, Int.reduceToNat, Bool.not_eq_true, Bool.not_true, Bool.not_false, Bool.not_eq_false, Bool.not_eq_eq_eq_not, reduceCtorEq, if_true, if_false, false_implies, Bool.false_eq_true, Bool.true_eq_false, and_self, not_true, not_false_iff, implies_true, forall_const, true_or, or_true, and_false, false_and, ge_iff_le, gt_iff_lt, cl_pairs, g_s, p_gT, p_gF, Bool.and_true, Bool.true_and, Bool.and_self, cl_ints, cl_bls, cl_oi, cl_ois, cl_row, cl_rows, cl_drow, cl_drows, cl_app, cl_lst, cl_cons, cl_nil, cl_int, cl_bl, cl_non, cl_str, cl_tup]
  refine at_ok (by omega) (by omega) ?_
  simp only [row, ev_00, fr_pair, fr_pairs, py_pair, py_pairs, ev_pair, ev_pairs, ev_pairs0, anyPr, p_minR, p_maxR, p_sumR, p_allR, p_anyR, p_sortedR, o_nil, o_cons, o_ret, o_expr, o_set, o_asg, o_ife, o_setIx, o_aug, o_augIx, o_kill, o_pass, o_retN, seqP_nx, seqP_rt, o_var, o_int, o_bl, o_non, o_str, o_cst, o_bin, o_neg, o_cmp, o_chain, o_isN, o_notN, o_and, o_or, o_and1, o_or1, o_and2, o_or2, o_not, o_lst, o_tup, o_ix, o_slice, o_part0, o_part1, o_call, o_bi, o_isi, o_frz, o_isB, o_lrg, p_isB, p_lrg1, p_lrg2, o_rev, o_par, p_revL, p_revS, p_revR, ← List.map_reverse, o_mth0, o_mth, o_evs0, o_evs1, o_slst, o_stup, o_rng, o_enum, o_zip, o_enumT, o_lset, o_srtP, p_enumT, p_lset, p_srtP, p_listT, p_tupL, p_sliceT, p_divmod, p_var, v_0, v_s, p_add, p_addL, p_addT, p_sub, p_mul, p_mulL, p_div, p_mod, p_pow, p_neg, p_alF, p_alT, p_lst, p_tup, p_not, p_cmp, c_eq, c_ne, c_lt, c_gt, c_le, c_ge, c_in, c_nin, anyI, ev_ints0, ev_row0, ev_0ints, ev_ois0, p_isN, p_notN, p_ix, p_ixT, p_ixS, p_ixR, at_m, p_len, p_lenT, p_lenS, p_lenR, p_list, p_listS, p_listR, p_slice, p_allM, p_anyM, p_sumM, p_all, p_any, p_sum, p_max2, p_min2, p_remove, p_sorted, ints_snoc, ints_map, p_index, isl_l, py_drow, py_drows, ev_drow, ev_drows, fr_drow, fr_drows, p_sliceS, p_sliceR, p_src, p_srcS, p_srcT, p_srcR, src_l, src_f, p_rng1, p_rng2, p_enum, p_zip, p_app, p_pop, p_clear, p_rev, p_ext, p_ins, p_popAt, p_set, p_isi, p_frz, a_add, a_sub, a_mul, ixL, ixLR, cell_l, live_l, isl, py_int, py_bl, py_non, py_str, py_oi, py_lst, py_tup, py_scr, py_ints, py_bls, py_ois, py_row, py_rows, py_ref, ev_int, ev_bl, ev_str, ev_oi, ev_oI, ev_Io, ev_oN, ev_No, ev_ints, ev_row, ev_ois, ev_rows, non_oi, cut_map, ← List.map_take, ← List.map_drop, List.getElem?_cons_zero, List.getElem?_cons_succ, List.set_cons_zero, List.set_cons_succ, List.foldl_cons, List.foldl_nil, List.map_cons, List.map_nil, List.length_cons, List.length_nil, List.replicate, List.cons_append, List.nil_append, exists_eq_left, exists_eq_left', D.bl.injEq, D.int.injEq, D.tup.injEq, decide_eq_true_eq, decide_eq_false_iff_not, true_and, and_true, true_implies, List.length_map, fr_ref, fr_ints, fr_ois, fr_rows, fr_int, fr_lst, fr_row, fr_oi, fr_bl, fr_non, fr_cons, fr_nil, fr_tup, Fl.rt.injEq, Fl.nx.injEq, ex_neg, ex_neg', Bool.not_eq_true', Bool.not_eq_false', Bool.not_not, wipeE, omap_cons, omap_nil, at_0, at_1, at_2, oi_some, oi_none, oP_some, oP_none, Option.some.injEq, end_get, end_set, beq_self_eq_true, bne_self_eq_false, tn, tn0, tn1, fitL, mL, mR, nc, nc0, nc1, c_ltT, c_gtT, c_leT, ev_tup, ev_listc, ev_cons, ev_nil, ev_list0, ev_0list, c_inT, c_ninT, LIM, Int.zero_add, gc_id, Nat.le_refl, Option.map_some, Option.bind_some, isi_s, ty_int, ty_bl, ty_non, ty_lst, ty_tup, ty_str, ty_ref, ty_cl, ty_oi, isTy, Int.reduceLE, Int.reduceLT, Int.reducePow, Int.reduceAdd, Int.reduceSub, Int.reduceMul, Int.reduceNeg, Int.reduceEq, Int.reduceGT, Int.reduceGE, Int.reduceNe, Nat.reduceAdd, Nat.reduceSub, Nat.reduceLT, Nat.reduceLeDiff, Nat.reduceMul, Nat.reducePow, Nat.reduceBEq, Nat.reduceEqDiff, Int.reduceToNat, Bool.not_eq_true, Bool.not_true, Bool.not_false, Bool.not_eq_false, Bool.not_eq_eq_eq_not, reduceCtorEq, if_true, if_false, false_implies, Bool.false_eq_true, Bool.true_eq_false, and_self, not_true, not_false_iff, implies_true, forall_const, true_or, or_true, and_false, false_and, ge_iff_le, gt_iff_lt]
/-- the places where a hand stands -/
def heap (d : List (Option Int)) (o : Option Int) : List Int := (d.zipIdx.filter fun p => decide (p.1 = o)).map fun p => ((p.2 : Nat) : Int)
theorem heap_pw (d : List (Option Int)) (o : Option Int) : (heap d o).Pairwise (· < ·) := by
  unfold heap
  rw [List.pairwise_map]
  refine List.Pairwise.filter _ ?_
  have h : (d.zipIdx.map (·.2)).Pairwise (· < ·) := by
    rw [List.zipIdx_map_snd]
    exact List.pairwise_lt_range'
  rw [List.pairwise_map] at h
  exact h.imp fun q => by omega
theorem heap_lt (d : List (Option Int)) (o : Option Int) (i j : Nat) (h : i < j) (hj : j < (heap d o).length) : (heap d o)[i] < (heap d o)[j] := List.pairwise_iff_getElem.mp (heap_pw d o) i j (by omega) hj h
theorem heap_mem {d : List (Option Int)} {o : Option Int} {x : Int} (h : x ∈ heap d o) : 0 ≤ x ∧ x < d.length ∧ d[x.toNat]? = some o := by
  unfold heap at h
  obtain ⟨p, hp, rfl⟩ := List.mem_map.mp h
  obtain ⟨h1, h2⟩ := List.mem_filter.mp hp
  obtain ⟨a, i⟩ := p
  have h3 := List.mk_mem_zipIdx_iff_getElem?.mp h1
  have h4 : a = o := of_decide_eq_true h2
  have h5 := (List.getElem?_eq_some_iff.mp h3).1
  refine ⟨by omega, by simpa using h5, ?_⟩
  rw [← h4]
  simpa using h3
theorem mem_heap {d : List (Option Int)} {o : Option Int} {i : Nat} (h : d[i]? = some o) : (i : Int) ∈ heap d o := by
  unfold heap
  exact List.mem_map.mpr ⟨(o, i), List.mem_filter.mpr ⟨List.mk_mem_zipIdx_iff_getElem?.mpr h, by simp⟩, rfl⟩
theorem heap_len (d : List (Option Int)) (o : Option Int) : (heap d o).length = (d.filter fun x => decide (x = o)).length := by
  unfold heap
  rw [List.length_map]
  have : ∀ (d : List (Option Int)) (k : Nat), ((d.zipIdx k).filter fun p => decide (p.1 = o)).length = (d.filter fun x => decide (x = o)).length := by
    intro d
    induction d with
    | nil => exact fun _ => rfl
    | cons x r ih =>
      intro k
      rw [List.zipIdx_cons, List.filter_cons, List.filter_cons]
      by_cases h : x = o
      · rw [if_pos (by simpa using h), if_pos (by simpa using h), List.length_cons, List.length_cons, ih]
      · rw [if_neg (by simpa using h), if_neg (by simpa using h), ih]
  exact this d 0
theorem heap_le (d : List (Option Int)) (o : Option Int) : (heap d o).length ≤ d.length := by
  rw [heap_len]
  exact List.length_filter_le _ _
theorem heap_in {d : List (Option Int)} {o : Option Int} {m : Nat} (h : d.length = m) : ∀ x ∈ heap d o, 0 ≤ x ∧ x < m := fun x hx => by
  have := heap_mem hx
  omega
def pick (r : List Int) (i : Int) : Int := r.getD i.toNat 0
def rowAt (t : List (List Int)) (h : Int) : List Int := t.getD h.toNat []
/-- a table of some hands and m things -/
structure TabM (m : Nat) (t : List (List Int)) : Prop where
  pos : 0 < t.length
  few : t.length ≤ 100
  mfew : m ≤ 1000
  rows : ∀ r ∈ t, r.length = m
theorem TabM.at {m : Nat} {t : List (List Int)} (T : TabM m t) {h : Int} (h0 : 0 ≤ h) (h1 : h < t.length) : L2.atI t h = some (rowAt t h) ∧ rowAt t h ∈ t ∧ (rowAt t h).length = m := by
  have hh : h.toNat < t.length := by omega
  have e : rowAt t h = t[h.toNat] := by
    unfold rowAt
    rw [List.getD_eq_getElem?_getD, List.getElem?_eq_getElem hh]
    rfl
  exact ⟨by rw [atI_pos h0 h1, e], by rw [e]; exact List.getElem_mem hh, T.rows _ (by rw [e]; exact List.getElem_mem hh)⟩
theorem TabM.zero {m : Nat} {t : List (List Int)} (T : TabM m t) : (t[0]'T.pos).length = m := T.rows _ (List.getElem_mem _)
theorem pick_at {r : List Int} {i : Int} (h0 : 0 ≤ i) (h1 : i < r.length) : L2.atI r i = some (pick r i) := by
  have hh : i.toNat < r.length := by omega
  unfold pick
  rw [atI_pos h0 h1, List.getD_eq_getElem?_getD, List.getElem?_eq_getElem hh]
  rfl
theorem pick_mem {r : List Int} {i : Int} (h0 : 0 ≤ i) (h1 : i < r.length) : pick r i ∈ r := by
  have hh : i.toNat < r.length := by omega
  unfold pick
  rw [List.getD_eq_getElem?_getD, List.getElem?_eq_getElem hh]
  exact List.getElem_mem hh
def worth (r : List Int) (xs : List Int) : Int := (xs.map (pick r)).sum
def share (t : List (List Int)) (d : List (Option Int)) (h : Int) : Int := worth (rowAt t h) (heap d (some h))
def spareF (r : List Int) (s : Option Int) (i : Int) : Option Int := match s with
  | none => some i
  | some j => if pick r j < pick r i then some i else some j
def spare (r : List Int) (xs : List Int) : Option Int := xs.foldl (spareF r) none
theorem spare_snoc (r : List Int) (xs : List Int) (x : Int) : spare r (xs ++ [x]) = spareF r (spare r xs) x := by
  unfold spare
  rw [List.foldl_append]
  rfl
theorem spare_mem {r xs : List Int} {s : Int} (h : spare r xs = some s) : s ∈ xs := by
  induction xs using snoc_ind generalizing s with
  | nil => cases h
  | snoc xs x ih =>
    rw [spare_snoc] at h
    unfold spareF at h
    cases e : spare r xs with
    | none =>
      rw [e] at h
      cases h
      simp
    | some j =>
      rw [e] at h
      simp only at h
      split at h
      · cases h
        simp
      · cases h
        exact List.mem_append_left _ (ih e)
theorem spare_none {r xs : List Int} (h : spare r xs = none) : xs = [] := by
  induction xs using snoc_ind with
  | nil => rfl
  | snoc xs x ih =>
    rw [spare_snoc] at h
    unfold spareF at h
    cases e : spare r xs with
    | none =>
      rw [e] at h
      cases h
    | some j =>
      rw [e] at h
      simp only at h
      split at h <;> cases h
/-- the first of the greatest -/
theorem spare_max {r xs : List Int} {s : Int} (h : spare r xs = some s) (hp : xs.Pairwise (· < ·)) : ∀ x ∈ xs, pick r x ≤ pick r s ∧ (x < s → pick r x < pick r s) := by
  induction xs using snoc_ind generalizing s with
  | nil => cases h
  | snoc xs x ih =>
    rw [spare_snoc] at h
    have hp1 := (List.pairwise_append.mp hp).1
    have hp2 : ∀ a ∈ xs, a < x := fun a ha => (List.pairwise_append.mp hp).2.2 a ha x (by simp)
    unfold spareF at h
    cases e : spare r xs with
    | none =>
      rw [e] at h
      cases h
      have := spare_none e
      subst this
      intro y hy
      simp at hy
      subst hy
      omega
    | some j =>
      rw [e] at h
      simp only at h
      have hj := ih e hp1
      have hjm := spare_mem e
      split at h
      · rename_i hlt
        cases h
        intro y hy
        rcases List.mem_append.mp hy with q | q
        · have := (hj y q).1
          omega
        · simp at q
          subst q
          omega
      · rename_i hlt
        have e3 : j = s := Option.some.inj h
        subst e3
        intro y hy
        rcases List.mem_append.mp hy with q | q
        · exact hj y q
        · simp at q
          subst q
          have := hp2 j hjm
          omega
/-! a thing that nobody has, given -/
theorem heap_iff {d : List (Option Int)} {o : Option Int} {x : Int} : x ∈ heap d o ↔ 0 ≤ x ∧ d[x.toNat]? = some o := by
  refine ⟨fun h => ⟨(heap_mem h).1, (heap_mem h).2.2⟩, fun h => ?_⟩
  have := mem_heap h.2
  have e : ((x.toNat : Nat) : Int) = x := by omega
  rwa [e] at this
theorem set_get (d : List (Option Int)) (j i : Nat) (a : Option Int) (hj : j < d.length) : (d.set j a)[i]? = if i = j then some a else d[i]? := by
  by_cases h : i = j
  · subst h
    rw [if_pos rfl, List.getElem?_set_self hj]
  · rw [if_neg h, List.getElem?_set_ne (fun z => h z.symm)]
theorem heap_other {d : List (Option Int)} {j : Nat} {h : Int} {o : Option Int} (hj : j < d.length) (hn : d[j] = none) (h1 : o ≠ some h) (h2 : o ≠ none) : heap (d.set j (some h)) o = heap d o := by
  refine sorted_ext (heap_pw _ _) (heap_pw _ _) fun x => ?_
  rw [heap_iff, heap_iff, set_get _ _ _ _ hj]
  by_cases e : x.toNat = j
  · rw [if_pos e, e, List.getElem?_eq_getElem hj, hn]
    simp [h1.symm, h2.symm]
  · rw [if_neg e]
theorem heap_new {d : List (Option Int)} {j : Nat} {h : Int} (hj : j < d.length) (hn : d[j] = none) : isort (heap d (some h) ++ [(j : Int)]) = heap (d.set j (some h)) (some h) := by
  have hm : ∀ x, x ∈ heap (d.set j (some h)) (some h) ↔ x ∈ heap d (some h) ++ [(j : Int)] := fun x => by
    rw [List.mem_append, List.mem_singleton, heap_iff, heap_iff, set_get _ _ _ _ hj]
    by_cases e : x.toNat = j
    · rw [if_pos e, e, List.getElem?_eq_getElem hj, hn]
      simp
      omega
    · rw [if_neg e]
      refine ⟨fun q => .inl q, fun q => ?_⟩
      rcases q with q | q
      · exact q
      · omega
  have nd : (heap d (some h) ++ [(j : Int)]).Nodup := by
    refine List.nodup_append.mpr ⟨(heap_pw d _).imp fun q => by omega, by simp, fun a ha b hb => ?_⟩
    rw [List.mem_singleton.mp hb]
    intro e
    subst e
    have := (heap_iff.mp ha).2
    rw [Int.toNat_natCast, List.getElem?_eq_getElem hj, hn] at this
    simp at this
  have nd2 : (isort (heap d (some h) ++ [(j : Int)])).Nodup := (isort_perm _).nodup_iff.mpr nd
  refine sorted_ext ?_ (heap_pw _ _) fun x => by rw [(isort_perm _).mem_iff, hm]
  have h1 := isort_sorted (heap d (some h) ++ [(j : Int)])
  exact (h1.and nd2).imp fun q => by omega
theorem heap_less {d : List (Option Int)} {j : Nat} {h : Int} (hj : j < d.length) (hn : d[j] = none) : ∃ i, idxOf (j : Int) (heap d none) 0 = some i ∧ (heap d none).eraseIdx i = heap (d.set j (some h)) none := by
  have hm : (j : Int) ∈ heap d none := heap_iff.mpr ⟨by omega, by rw [Int.toNat_natCast, List.getElem?_eq_getElem hj, hn]⟩
  obtain ⟨i, hi, _, hl⟩ := idx_mem (i := 0) hm
  have hat := (idxOf_ok hi).2.1
  rw [Nat.sub_zero] at hat
  refine ⟨i, hi, sorted_ext ((heap_pw d none).sublist (List.eraseIdx_sublist _ _)) (heap_pw _ _) fun x => ?_⟩
  rw [heap_iff, set_get _ _ _ _ hj]
  have hil : i < (heap d none).length := by omega
  have hij : (heap d none)[i] = (j : Int) := by
    rw [List.getElem?_eq_getElem hil] at hat
    exact Option.some.inj hat
  have hmem : x ∈ (heap d none).eraseIdx i ↔ x ∈ heap d none ∧ x ≠ (j : Int) := by
    rw [List.mem_eraseIdx_iff_getElem]
    refine ⟨?_, ?_⟩
    · rintro ⟨k, hk, hne, rfl⟩
      refine ⟨List.getElem_mem _, fun e => ?_⟩
      rcases Nat.lt_trichotomy k i with q | q | q
      · have := heap_lt d none k i q hil
        omega
      · exact hne q
      · have := heap_lt d none i k q hk
        omega
    · rintro ⟨h1, h2⟩
      obtain ⟨k, hk, rfl⟩ := List.getElem_of_mem h1
      exact ⟨k, hk, fun e => h2 (by subst e; exact hij), rfl⟩
  rw [hmem, heap_iff]
  by_cases e : x.toNat = j
  · rw [if_pos e]
    simp
    omega
  · rw [if_neg e]
    refine ⟨fun q => q.1, fun q => ⟨q, fun z => e (by omega)⟩⟩
theorem worth_perm (r : List Int) {xs ys : List Int} (h : xs.Perm ys) : worth r xs = worth r ys := by
  induction h with
  | nil => rfl
  | cons x _ ih =>
    unfold worth at ih ⊢
    rw [List.map_cons, List.map_cons, List.sum_cons, List.sum_cons, ih]
  | swap x y l =>
    unfold worth
    simp only [List.map_cons, List.sum_cons]
    omega
  | trans _ _ ih1 ih2 => exact ih1.trans ih2
theorem share_new {t : List (List Int)} {d : List (Option Int)} {j : Nat} {h : Int} (hj : j < d.length) (hn : d[j] = none) (k : Int) : share t (d.set j (some h)) k = share t d k + (if k = h then pick (rowAt t k) j else 0) := by
  unfold share
  by_cases e : k = h
  · subst e
    rw [if_pos rfl, ← heap_new hj hn, worth_perm _ (isort_perm _)]
    unfold worth
    rw [List.map_append, List.sum_append]
    simp
  · rw [if_neg e, heap_other hj hn (by simp [e]) (by simp), Int.add_zero]

/-! deals by turns -/
def pickOf (t : List (List Int)) (d : List (Option Int)) (h : Int) : Int := (spare (rowAt t h) (heap d none)).getD 0
def pickSt (t : List (List Int)) (s : List (Option Int) × List (Int × Int)) (h : Int) : List (Option Int) × List (Int × Int) := (s.1.set (pickOf t s.1 h).toNat (some h), s.2 ++ [(h, pickOf t s.1 h)])
def turnSt (t : List (List Int)) (m : Nat) (hs : List Int) : List (Option Int) × List (Int × Int) := hs.foldl (pickSt t) (List.replicate m none, [])
theorem turnSt_snoc (t : List (List Int)) (m : Nat) (hs : List Int) (h : Int) : turnSt t m (hs ++ [h]) = pickSt t (turnSt t m hs) h := by
  unfold turnSt
  rw [List.foldl_append]
  rfl
/-- whose turn it is -/
def hsAt (os : List (List Int)) (n k : Nat) : Int := pick (rowAt os ((k / n % os.length : Nat) : Int)) ((k % n : Nat) : Int)
def hsSeq (os : List (List Int)) (n k : Nat) : List Int := (List.range k).map (hsAt os n)
theorem hsSeq_snoc (os : List (List Int)) (n k : Nat) : hsSeq os n (k + 1) = hsSeq os n k ++ [hsAt os n k] := by
  unfold hsSeq
  rw [List.range_succ, List.map_append]
  rfl
theorem hsSeq_len (os : List (List Int)) (n k : Nat) : (hsSeq os n k).length = k := by simp [hsSeq]
theorem less_len {d : List (Option Int)} {j : Nat} {h : Int} (hj : j < d.length) (hn : d[j] = none) : (heap (d.set j (some h)) none).length + 1 = (heap d none).length := by
  obtain ⟨i, h1, h2⟩ := heap_less (h := h) hj hn
  have h3 := (idxOf_ok h1).2.1
  rw [Nat.sub_zero] at h3
  have h4 := (List.getElem?_eq_some_iff.mp h3).1
  rw [← h2, List.length_eraseIdx, if_pos h4]
  omega
theorem heap_rep0 (m : Nat) : heap (List.replicate m none) none = rgi 0 m := by
  refine sorted_ext (heap_pw _ _) ?_ fun x => ?_
  · unfold rgi
    exact List.Pairwise.map _ (fun a b hab => by omega) List.pairwise_lt_range
  · rw [heap_iff, rgi_mem, List.getElem?_replicate]
    refine ⟨fun q => ?_, fun q => ⟨q.1, by rw [if_pos (by omega)]⟩⟩
    have := q.2
    split at this
    · omega
    · cases this
theorem spare_some {r xs : List Int} (h : xs ≠ []) : ∃ s, spare r xs = some s := by
  cases e : spare r xs with
  | none => exact absurd (spare_none e) h
  | some s => exact ⟨s, rfl⟩
/-- what is picked: a thing left, worth most -/
theorem pickOf_ok {t : List (List Int)} {d : List (Option Int)} (h : Int) (hne : heap d none ≠ []) : spare (rowAt t h) (heap d none) = some (pickOf t d h) ∧ pickOf t d h ∈ heap d none ∧ (∃ hj : (pickOf t d h).toNat < d.length, d[(pickOf t d h).toNat] = none) ∧ (((pickOf t d h).toNat : Nat) : Int) = pickOf t d h ∧ ∀ x : Nat, d[x]? = some none → pick (rowAt t h) x ≤ pick (rowAt t h) (pickOf t d h) := by
  obtain ⟨s, e⟩ := spare_some (r := rowAt t h) hne
  have e2 : pickOf t d h = s := by
    unfold pickOf
    rw [e]
    rfl
  rw [e2]
  have hm := spare_mem e
  have h1 := heap_mem hm
  have hj : s.toNat < d.length := by omega
  refine ⟨e, hm, ⟨hj, ?_⟩, by omega, fun x hx => ?_⟩
  · have := h1.2.2
    rw [List.getElem?_eq_getElem hj] at this
    exact Option.some.inj this
  · exact (spare_max e (heap_pw _ _) x (mem_heap hx)).1
theorem turnSt_left (t : List (List Int)) (m : Nat) (hs : List Int) (hl : hs.length ≤ m) : (turnSt t m hs).1.length = m ∧ (heap (turnSt t m hs).1 none).length + hs.length = m := by
  induction hs using snoc_ind with
  | nil => simp [turnSt, heap_rep0, rgi_len]
  | snoc hs h ih =>
    rw [List.length_append, List.length_singleton] at hl ⊢
    obtain ⟨i1, i2⟩ := ih (by omega)
    rw [turnSt_snoc]
    have hne : heap (turnSt t m hs).1 none ≠ [] := fun e => by
      rw [e] at i2
      simp at i2
      omega
    obtain ⟨_, _, ⟨p1, p2⟩, _, _⟩ := pickOf_ok (t := t) h hne
    unfold pickSt
    refine ⟨by simp [i1], ?_⟩
    have := less_len (h := h) p1 p2
    simp only
    omega
theorem nothing_dealt (t : List (List Int)) (h : 0 < t.length) (hm : t[0].length ≤ 1000) : F_nothing_dealt.run [(D.lst true (List.map (row true) t))] = some (.ok (.ref 0, [(Cell.lst .live (List.map oi (List.replicate t[0].length none)))])) := by
  have k := fun  μ Q => call_eq (Γ := G_nothing_dealt) (f := 199) (dn := 0) (fz := true) (ds := [(D.lst true (List.map (row true) t))]) (μ := μ) (Q := Q) rfl (by simp only [B_things_of, le_pair, le_pairs, la_nil, la_t, la_f, Option.bind_some, Option.map_some, List.append_nil, List.replicate, le_int, le_bl, le_non, le_str, le_scr, le_oi, le_lst, le_tup, le_ints, le_bls, le_ois, le_row, le_rows, le_drow, le_drows, le_ref, cl_pairs, g_s, p_gT, p_gF, Bool.and_true, Bool.true_and, Bool.and_self, cl_ints, cl_bls, cl_oi, cl_ois, cl_row, cl_rows, cl_drow, cl_drows, cl_app, cl_lst, cl_cons, cl_nil, cl_int, cl_bl, cl_non, cl_str, cl_tup] <;> rfl) rfl (things t h)
  rw [R_nothing_dealt]
  refine run_ok ?_
  simp only [b_nothing_dealt, N_nothing_dealt, List.map_cons, List.map_nil, List.length_cons, List.length_nil, Nat.reduceAdd, Nat.reduceSub, List.replicate, List.cons_append, List.nil_append]
  simp (disch := decide) only [ev_00, fr_pair, fr_pairs, py_pair, py_pairs, ev_pair, ev_pairs, ev_pairs0, anyPr, p_minR, p_maxR, p_sumR, p_allR, p_anyR, p_sortedR, o_nil, o_cons, o_ret, o_expr, o_set, o_asg, o_ife, o_setIx, o_aug, o_augIx, o_kill, o_pass, o_retN, seqP_nx, seqP_rt, o_var, o_int, o_bl, o_non, o_str, o_cst, o_bin, o_neg, o_cmp, o_chain, o_isN, o_notN, o_and, o_or, o_and1, o_or1, o_and2, o_or2, o_not, o_lst, o_tup, o_ix, o_slice, o_part0, o_part1, o_call, o_bi, o_isi, o_frz, o_isB, o_lrg, p_isB, p_lrg1, p_lrg2, o_rev, o_par, p_revL, p_revS, p_revR, ← List.map_reverse, o_mth0, o_mth, o_evs0, o_evs1, o_slst, o_stup, o_rng, o_enum, o_zip, o_enumT, o_lset, o_srtP, p_enumT, p_lset, p_srtP, p_listT, p_tupL, p_sliceT, p_divmod, p_var, v_0, v_s, p_add, p_addL, p_addT, p_sub, p_mul, p_mulL, p_div, p_mod, p_pow, p_neg, p_alF, p_alT, p_lst, p_tup, p_not, p_cmp, c_eq, c_ne, c_lt, c_gt, c_le, c_ge, c_in, c_nin, anyI, ev_ints0, ev_row0, ev_0ints, ev_ois0, p_isN, p_notN, p_ix, p_ixT, p_ixS, p_ixR, at_m, p_len, p_lenT, p_lenS, p_lenR, p_list, p_listS, p_listR, p_slice, p_allM, p_anyM, p_sumM, p_all, p_any, p_sum, p_max2, p_min2, p_remove, p_sorted, ints_snoc, ints_map, p_index, isl_l, py_drow, py_drows, ev_drow, ev_drows, fr_drow, fr_drows, p_sliceS, p_sliceR, p_src, p_srcS, p_srcT, p_srcR, src_l, src_f, p_rng1, p_rng2, p_enum, p_zip, p_app, p_pop, p_clear, p_rev, p_ext, p_ins, p_popAt, p_set, p_isi, p_frz, a_add, a_sub, a_mul, ixL, ixLR, cell_l, live_l, isl, py_int, py_bl, py_non, py_str, py_oi, py_lst, py_tup, py_scr, py_ints, py_bls, py_ois, py_row, py_rows, py_ref, ev_int, ev_bl, ev_str, ev_oi, ev_oI, ev_Io, ev_oN, ev_No, ev_ints, ev_row, ev_ois, ev_rows, non_oi, cut_map, ← List.map_take, ← List.map_drop, List.getElem?_cons_zero, List.getElem?_cons_succ, List.set_cons_zero, List.set_cons_succ, List.foldl_cons, List.foldl_nil, List.map_cons, List.map_nil, List.length_cons, List.length_nil, List.replicate, List.cons_append, List.nil_append, exists_eq_left, exists_eq_left', D.bl.injEq, D.int.injEq, D.tup.injEq, decide_eq_true_eq, decide_eq_false_iff_not, true_and, and_true, true_implies, List.length_map, fr_ref, fr_ints, fr_ois, fr_rows, fr_int, fr_lst, fr_row, fr_oi, fr_bl, fr_non, fr_cons, fr_nil, fr_tup, Fl.rt.injEq, Fl.nx.injEq, ex_neg, ex_neg', Bool.not_eq_true', Bool.not_eq_false', Bool.not_not, wipeE, omap_cons, omap_nil, at_0, at_1, at_2, oi_some, oi_none, oP_some, oP_none, Option.some.injEq, end_get, end_set, beq_self_eq_true, bne_self_eq_false, tn, tn0, tn1, fitL, mL, mR, nc, nc0, nc1, c_ltT, c_gtT, c_leT, ev_tup, ev_listc, ev_cons, ev_nil, ev_list0, ev_0list, c_inT, c_ninT, LIM, Int.zero_add, gc_id, Nat.le_refl, Option.map_some, Option.bind_some, isi_s, ty_int, ty_bl, ty_non, ty_lst, ty_tup, ty_str, ty_ref, ty_cl, ty_oi, isTy, Int.reduceLE, Int.reduceLT, Int.reducePow, Int.reduceAdd, Int.reduceSub, Int.reduceMul, Int.reduceNeg, Int.reduceEq, Int.reduceGT, Int.reduceGE, Int.reduceNe, Nat.reduceAdd, Nat.reduceSub, Nat.reduceLT, Nat.reduceLeDiff, Nat.reduceMul, Nat.reducePow, Nat.reduceBEq, Nat.reduceEqDiff, Int.reduceToNat, Bool.not_eq_true, Bool.not_true, Bool.not_false, Bool.not_eq_false, Bool.not_eq_eq_eq_not, reduceCtorEq, if_true, if_false, false_implies, Bool.false_eq_true, Bool.true_eq_false, and_self, not_true, not_false_iff, implies_true, forall_const, true_or, or_true, and_false, false_and, ge_iff_le, gt_iff_lt, cl_pairs, g_s, p_gT, p_gF, Bool.and_true, Bool.true_and, Bool.and_self, cl_ints, cl_bls, cl_oi, cl_ois, cl_row, cl_rows, cl_drow, cl_drows, cl_app, cl_lst, cl_cons, cl_nil, cl_int, cl_bl, cl_non, cl_str, cl_tup, fit, mfit, rt_pairs, sh_pairs, rt_bl, rt_non, rt_str, rt_tup, sh_non, sh_str, sh_tup, rt_ints, rt_oi, rt_ois, rt_row, rt_rows, rt_drow, rt_drows, rt_ref, rt_int, rt_cell, rt_cons, rt_nil, rt_lst, rt_app, p_gF, List.all_cons, List.all_nil, sh_ints, sh_oi, sh_ois, sh_row, sh_rows, sh_drow, sh_drows, sh_ref, sh_int, sh_bl, sh_cell, sh_cons, sh_nil, sh_lst, Nat.zero_add, Nat.add_zero, k, rep_one, Int.toNat_natCast]
  refine ⟨⟨by omega, by omega⟩, ?_⟩
  rw [List.map_replicate]
  exact .inr ⟨rfl, rfl⟩
theorem dearest_of (r xs : List Int) (hne : xs ≠ []) (hx : ∀ x ∈ xs, 0 ≤ x ∧ x < r.length) : F_dearest_of.run [(D.lst true (List.map D.int r)), (D.lst true (List.map D.int xs))] = some (.ok (.int ((spare r xs).getD 0), [])) := by
  obtain ⟨x0, r0, rfl⟩ := List.exists_cons_of_ne_nil hne
  rw [R_dearest_of]
  refine run_ok ?_
  simp only [b_dearest_of, N_dearest_of, List.map_cons, List.map_nil, List.length_cons, List.length_nil, Nat.reduceAdd, Nat.reduceSub, List.replicate, List.cons_append, List.nil_append]
  rw [o_cons]
  simp (disch := decide) only [ev_00, fr_pair, fr_pairs, py_pair, py_pairs, ev_pair, ev_pairs, ev_pairs0, anyPr, p_minR, p_maxR, p_sumR, p_allR, p_anyR, p_sortedR, o_nil, o_ret, o_expr, o_set, o_asg, o_ife, o_setIx, o_aug, o_augIx, o_kill, o_pass, o_retN, seqP_nx, seqP_rt, o_var, o_int, o_bl, o_non, o_str, o_cst, o_bin, o_neg, o_cmp, o_chain, o_isN, o_notN, o_and, o_or, o_and1, o_or1, o_and2, o_or2, o_not, o_lst, o_tup, o_ix, o_slice, o_part0, o_part1, o_call, o_bi, o_isi, o_frz, o_isB, o_lrg, p_isB, p_lrg1, p_lrg2, o_rev, o_par, p_revL, p_revS, p_revR, ← List.map_reverse, o_mth0, o_mth, o_evs0, o_evs1, o_slst, o_stup, o_rng, o_enum, o_zip, o_enumT, o_lset, o_srtP, p_enumT, p_lset, p_srtP, p_listT, p_tupL, p_sliceT, p_divmod, p_var, v_0, v_s, p_add, p_addL, p_addT, p_sub, p_mul, p_mulL, p_div, p_mod, p_pow, p_neg, p_alF, p_alT, p_lst, p_tup, p_not, p_cmp, c_eq, c_ne, c_lt, c_gt, c_le, c_ge, c_in, c_nin, anyI, ev_ints0, ev_row0, ev_0ints, ev_ois0, p_isN, p_notN, p_ix, p_ixT, p_ixS, p_ixR, at_m, p_len, p_lenT, p_lenS, p_lenR, p_list, p_listS, p_listR, p_slice, p_allM, p_anyM, p_sumM, p_all, p_any, p_sum, p_max2, p_min2, p_remove, p_sorted, ints_snoc, ints_map, p_index, isl_l, py_drow, py_drows, ev_drow, ev_drows, fr_drow, fr_drows, p_sliceS, p_sliceR, p_src, p_srcS, p_srcT, p_srcR, src_l, src_f, p_rng1, p_rng2, p_enum, p_zip, p_app, p_pop, p_clear, p_rev, p_ext, p_ins, p_popAt, p_set, p_isi, p_frz, a_add, a_sub, a_mul, ixL, ixLR, cell_l, live_l, isl, py_int, py_bl, py_non, py_str, py_oi, py_lst, py_tup, py_scr, py_ints, py_bls, py_ois, py_row, py_rows, py_ref, ev_int, ev_bl, ev_str, ev_oi, ev_oI, ev_Io, ev_oN, ev_No, ev_ints, ev_row, ev_ois, ev_rows, non_oi, cut_map, ← List.map_take, ← List.map_drop, List.getElem?_cons_zero, List.getElem?_cons_succ, List.set_cons_zero, List.set_cons_succ, List.foldl_cons, List.foldl_nil, List.map_cons, List.map_nil, List.length_cons, List.length_nil, List.replicate, List.cons_append, List.nil_append, exists_eq_left, exists_eq_left', D.bl.injEq, D.int.injEq, D.tup.injEq, decide_eq_true_eq, decide_eq_false_iff_not, true_and, and_true, true_implies, List.length_map, fr_ref, fr_ints, fr_ois, fr_rows, fr_int, fr_lst, fr_row, fr_oi, fr_bl, fr_non, fr_cons, fr_nil, fr_tup, Fl.rt.injEq, Fl.nx.injEq, ex_neg, ex_neg', Bool.not_eq_true', Bool.not_eq_false', Bool.not_not, wipeE, omap_cons, omap_nil, at_0, at_1, at_2, oi_some, oi_none, oP_some, oP_none, Option.some.injEq, end_get, end_set, beq_self_eq_true, bne_self_eq_false, tn, tn0, tn1, fitL, mL, mR, nc, nc0, nc1, c_ltT, c_gtT, c_leT, ev_tup, ev_listc, ev_cons, ev_nil, ev_list0, ev_0list, c_inT, c_ninT, LIM, Int.zero_add, gc_id, Nat.le_refl, Option.map_some, Option.bind_some, isi_s, ty_int, ty_bl, ty_non, ty_lst, ty_tup, ty_str, ty_ref, ty_cl, ty_oi, isTy, Int.reduceLE, Int.reduceLT, Int.reducePow, Int.reduceAdd, Int.reduceSub, Int.reduceMul, Int.reduceNeg, Int.reduceEq, Int.reduceGT, Int.reduceGE, Int.reduceNe, Nat.reduceAdd, Nat.reduceSub, Nat.reduceLT, Nat.reduceLeDiff, Nat.reduceMul, Nat.reducePow, Nat.reduceBEq, Nat.reduceEqDiff, Int.reduceToNat, Bool.not_eq_true, Bool.not_true, Bool.not_false, Bool.not_eq_false, Bool.not_eq_eq_eq_not, reduceCtorEq, if_true, if_false, false_implies, Bool.false_eq_true, Bool.true_eq_false, and_self, not_true, not_false_iff, implies_true, forall_const, true_or, or_true, and_false, false_and, ge_iff_le, gt_iff_lt, cl_pairs, g_s, p_gT, p_gF, Bool.and_true, Bool.true_and, Bool.and_self, cl_ints, cl_bls, cl_oi, cl_ois, cl_row, cl_rows, cl_drow, cl_drows, cl_app, cl_lst, cl_cons, cl_nil, cl_int, cl_bl, cl_non, cl_str, cl_tup, fit, mfit, rt_pairs, sh_pairs, rt_bl, rt_non, rt_str, rt_tup, sh_non, sh_str, sh_tup, rt_ints, rt_oi, rt_ois, rt_row, rt_rows, rt_drow, rt_drows, rt_ref, rt_int, rt_cell, rt_cons, rt_nil, rt_lst, rt_app, p_gF, List.all_cons, List.all_nil, sh_ints, sh_oi, sh_ois, sh_row, sh_rows, sh_drow, sh_drows, sh_ref, sh_int, sh_bl, sh_cell, sh_cons, sh_nil, sh_lst, Nat.zero_add, Nat.add_zero, at_0]
  rw [o_cons]
  refine o_for (xs := x0 :: r0) (f := D.int) 0 (fun i e m => ∃ s, e = [some ((D.lst true (List.map D.int r))), some ((D.lst true (List.map D.int (x0 :: r0)))), some (.int s), none] ∧ m = [] ∧ s ∈ x0 :: r0 ∧ (i = 0 → s = x0) ∧ (0 < i → spare r ((x0 :: r0).take i) = some s)) ?_ ?_ ?_
  · simp (disch := decide) only [ev_00, fr_pair, fr_pairs, py_pair, py_pairs, ev_pair, ev_pairs, ev_pairs0, anyPr, p_minR, p_maxR, p_sumR, p_allR, p_anyR, p_sortedR, o_nil, o_cons, o_ret, o_expr, o_set, o_asg, o_ife, o_setIx, o_aug, o_augIx, o_kill, o_pass, o_retN, seqP_nx, seqP_rt, o_var, o_int, o_bl, o_non, o_str, o_cst, o_bin, o_neg, o_cmp, o_chain, o_isN, o_notN, o_and, o_or, o_and1, o_or1, o_and2, o_or2, o_not, o_lst, o_tup, o_ix, o_slice, o_part0, o_part1, o_call, o_bi, o_isi, o_frz, o_isB, o_lrg, p_isB, p_lrg1, p_lrg2, o_rev, o_par, p_revL, p_revS, p_revR, ← List.map_reverse, o_mth0, o_mth, o_evs0, o_evs1, o_slst, o_stup, o_rng, o_enum, o_zip, o_enumT, o_lset, o_srtP, p_enumT, p_lset, p_srtP, p_listT, p_tupL, p_sliceT, p_divmod, p_var, v_0, v_s, p_add, p_addL, p_addT, p_sub, p_mul, p_mulL, p_div, p_mod, p_pow, p_neg, p_alF, p_alT, p_lst, p_tup, p_not, p_cmp, c_eq, c_ne, c_lt, c_gt, c_le, c_ge, c_in, c_nin, anyI, ev_ints0, ev_row0, ev_0ints, ev_ois0, p_isN, p_notN, p_ix, p_ixT, p_ixS, p_ixR, at_m, p_len, p_lenT, p_lenS, p_lenR, p_list, p_listS, p_listR, p_slice, p_allM, p_anyM, p_sumM, p_all, p_any, p_sum, p_max2, p_min2, p_remove, p_sorted, ints_snoc, ints_map, p_index, isl_l, py_drow, py_drows, ev_drow, ev_drows, fr_drow, fr_drows, p_sliceS, p_sliceR, p_src, p_srcS, p_srcT, p_srcR, src_l, src_f, p_rng1, p_rng2, p_enum, p_zip, p_app, p_pop, p_clear, p_rev, p_ext, p_ins, p_popAt, p_set, p_isi, p_frz, a_add, a_sub, a_mul, ixL, ixLR, cell_l, live_l, isl, py_int, py_bl, py_non, py_str, py_oi, py_lst, py_tup, py_scr, py_ints, py_bls, py_ois, py_row, py_rows, py_ref, ev_int, ev_bl, ev_str, ev_oi, ev_oI, ev_Io, ev_oN, ev_No, ev_ints, ev_row, ev_ois, ev_rows, non_oi, cut_map, ← List.map_take, ← List.map_drop, List.getElem?_cons_zero, List.getElem?_cons_succ, List.set_cons_zero, List.set_cons_succ, List.foldl_cons, List.foldl_nil, List.map_cons, List.map_nil, List.length_cons, List.length_nil, List.replicate, List.cons_append, List.nil_append, exists_eq_left, exists_eq_left', D.bl.injEq, D.int.injEq, D.tup.injEq, decide_eq_true_eq, decide_eq_false_iff_not, true_and, and_true, true_implies, List.length_map, fr_ref, fr_ints, fr_ois, fr_rows, fr_int, fr_lst, fr_row, fr_oi, fr_bl, fr_non, fr_cons, fr_nil, fr_tup, Fl.rt.injEq, Fl.nx.injEq, ex_neg, ex_neg', Bool.not_eq_true', Bool.not_eq_false', Bool.not_not, wipeE, omap_cons, omap_nil, at_0, at_1, at_2, oi_some, oi_none, oP_some, oP_none, Option.some.injEq, end_get, end_set, beq_self_eq_true, bne_self_eq_false, tn, tn0, tn1, fitL, mL, mR, nc, nc0, nc1, c_ltT, c_gtT, c_leT, ev_tup, ev_listc, ev_cons, ev_nil, ev_list0, ev_0list, c_inT, c_ninT, LIM, Int.zero_add, gc_id, Nat.le_refl, Option.map_some, Option.bind_some, isi_s, ty_int, ty_bl, ty_non, ty_lst, ty_tup, ty_str, ty_ref, ty_cl, ty_oi, isTy, Int.reduceLE, Int.reduceLT, Int.reducePow, Int.reduceAdd, Int.reduceSub, Int.reduceMul, Int.reduceNeg, Int.reduceEq, Int.reduceGT, Int.reduceGE, Int.reduceNe, Nat.reduceAdd, Nat.reduceSub, Nat.reduceLT, Nat.reduceLeDiff, Nat.reduceMul, Nat.reducePow, Nat.reduceBEq, Nat.reduceEqDiff, Int.reduceToNat, Bool.not_eq_true, Bool.not_true, Bool.not_false, Bool.not_eq_false, Bool.not_eq_eq_eq_not, reduceCtorEq, if_true, if_false, false_implies, Bool.false_eq_true, Bool.true_eq_false, and_self, not_true, not_false_iff, implies_true, forall_const, true_or, or_true, and_false, false_and, ge_iff_le, gt_iff_lt, cl_pairs, g_s, p_gT, p_gF, Bool.and_true, Bool.true_and, Bool.and_self, cl_ints, cl_bls, cl_oi, cl_ois, cl_row, cl_rows, cl_drow, cl_drows, cl_app, cl_lst, cl_cons, cl_nil, cl_int, cl_bl, cl_non, cl_str, cl_tup, fit, mfit, rt_pairs, sh_pairs, rt_bl, rt_non, rt_str, rt_tup, sh_non, sh_str, sh_tup, rt_ints, rt_oi, rt_ois, rt_row, rt_rows, rt_drow, rt_drows, rt_ref, rt_int, rt_cell, rt_cons, rt_nil, rt_lst, rt_app, p_gF, List.all_cons, List.all_nil, sh_ints, sh_oi, sh_ois, sh_row, sh_rows, sh_drow, sh_drows, sh_ref, sh_int, sh_bl, sh_cell, sh_cons, sh_nil, sh_lst, Nat.zero_add, Nat.add_zero]
    exact ⟨x0, rfl, List.mem_cons_self, rfl⟩
  · rintro i hi e m ⟨s, rfl, rfl, hs, h0, h1⟩
    refine ⟨_, rfl, ?_⟩
    have hxi := hx _ (List.getElem_mem hi)
    have hxs := hx _ hs
    have hmi : (x0 :: r0)[i] ∈ x0 :: r0 := List.getElem_mem hi
    have hz : i = 0 → (x0 :: r0)[i] = x0 := fun q => by subst q; rfl
    rw [List.take_succ_eq_append_getElem hi]
    simp only [spare_snoc]
    generalize (x0 :: r0)[i] = x at *
    simp (disch := decide) only [ev_00, fr_pair, fr_pairs, py_pair, py_pairs, ev_pair, ev_pairs, ev_pairs0, anyPr, p_minR, p_maxR, p_sumR, p_allR, p_anyR, p_sortedR, o_nil, o_cons, o_ret, o_expr, o_set, o_asg, o_ife, o_setIx, o_aug, o_augIx, o_kill, o_pass, o_retN, seqP_nx, seqP_rt, o_var, o_int, o_bl, o_non, o_str, o_cst, o_bin, o_neg, o_cmp, o_chain, o_isN, o_notN, o_and, o_or, o_and1, o_or1, o_and2, o_or2, o_not, o_lst, o_tup, o_ix, o_slice, o_part0, o_part1, o_call, o_bi, o_isi, o_frz, o_isB, o_lrg, p_isB, p_lrg1, p_lrg2, o_rev, o_par, p_revL, p_revS, p_revR, ← List.map_reverse, o_mth0, o_mth, o_evs0, o_evs1, o_slst, o_stup, o_rng, o_enum, o_zip, o_enumT, o_lset, o_srtP, p_enumT, p_lset, p_srtP, p_listT, p_tupL, p_sliceT, p_divmod, p_var, v_0, v_s, p_add, p_addL, p_addT, p_sub, p_mul, p_mulL, p_div, p_mod, p_pow, p_neg, p_alF, p_alT, p_lst, p_tup, p_not, p_cmp, c_eq, c_ne, c_lt, c_gt, c_le, c_ge, c_in, c_nin, anyI, ev_ints0, ev_row0, ev_0ints, ev_ois0, p_isN, p_notN, p_ix, p_ixT, p_ixS, p_ixR, at_m, p_len, p_lenT, p_lenS, p_lenR, p_list, p_listS, p_listR, p_slice, p_allM, p_anyM, p_sumM, p_all, p_any, p_sum, p_max2, p_min2, p_remove, p_sorted, ints_snoc, ints_map, p_index, isl_l, py_drow, py_drows, ev_drow, ev_drows, fr_drow, fr_drows, p_sliceS, p_sliceR, p_src, p_srcS, p_srcT, p_srcR, src_l, src_f, p_rng1, p_rng2, p_enum, p_zip, p_app, p_pop, p_clear, p_rev, p_ext, p_ins, p_popAt, p_set, p_isi, p_frz, a_add, a_sub, a_mul, ixL, ixLR, cell_l, live_l, isl, py_int, py_bl, py_non, py_str, py_oi, py_lst, py_tup, py_scr, py_ints, py_bls, py_ois, py_row, py_rows, py_ref, ev_int, ev_bl, ev_str, ev_oi, ev_oI, ev_Io, ev_oN, ev_No, ev_ints, ev_row, ev_ois, ev_rows, non_oi, cut_map, ← List.map_take, ← List.map_drop, List.getElem?_cons_zero, List.getElem?_cons_succ, List.set_cons_zero, List.set_cons_succ, List.foldl_cons, List.foldl_nil, List.map_cons, List.map_nil, List.length_cons, List.length_nil, List.replicate, List.cons_append, List.nil_append, exists_eq_left, exists_eq_left', D.bl.injEq, D.int.injEq, D.tup.injEq, decide_eq_true_eq, decide_eq_false_iff_not, true_and, and_true, true_implies, List.length_map, fr_ref, fr_ints, fr_ois, fr_rows, fr_int, fr_lst, fr_row, fr_oi, fr_bl, fr_non, fr_cons, fr_nil, fr_tup, Fl.rt.injEq, Fl.nx.injEq, ex_neg, ex_neg', Bool.not_eq_true', Bool.not_eq_false', Bool.not_not, wipeE, omap_cons, omap_nil, at_0, at_1, at_2, oi_some, oi_none, oP_some, oP_none, Option.some.injEq, end_get, end_set, beq_self_eq_true, bne_self_eq_false, tn, tn0, tn1, fitL, mL, mR, nc, nc0, nc1, c_ltT, c_gtT, c_leT, ev_tup, ev_listc, ev_cons, ev_nil, ev_list0, ev_0list, c_inT, c_ninT, LIM, Int.zero_add, gc_id, Nat.le_refl, Option.map_some, Option.bind_some, isi_s, ty_int, ty_bl, ty_non, ty_lst, ty_tup, ty_str, ty_ref, ty_cl, ty_oi, isTy, Int.reduceLE, Int.reduceLT, Int.reducePow, Int.reduceAdd, Int.reduceSub, Int.reduceMul, Int.reduceNeg, Int.reduceEq, Int.reduceGT, Int.reduceGE, Int.reduceNe, Nat.reduceAdd, Nat.reduceSub, Nat.reduceLT, Nat.reduceLeDiff, Nat.reduceMul, Nat.reducePow, Nat.reduceBEq, Nat.reduceEqDiff, Int.reduceToNat, Bool.not_eq_true, Bool.not_true, Bool.not_false, Bool.not_eq_false, Bool.not_eq_eq_eq_not, reduceCtorEq, if_true, if_false, false_implies, Bool.false_eq_true, Bool.true_eq_false, and_self, not_true, not_false_iff, implies_true, forall_const, true_or, or_true, and_false, false_and, ge_iff_le, gt_iff_lt, cl_pairs, g_s, p_gT, p_gF, Bool.and_true, Bool.true_and, Bool.and_self, cl_ints, cl_bls, cl_oi, cl_ois, cl_row, cl_rows, cl_drow, cl_drows, cl_app, cl_lst, cl_cons, cl_nil, cl_int, cl_bl, cl_non, cl_str, cl_tup, fit, mfit, rt_pairs, sh_pairs, rt_bl, rt_non, rt_str, rt_tup, sh_non, sh_str, sh_tup, rt_ints, rt_oi, rt_ois, rt_row, rt_rows, rt_drow, rt_drows, rt_ref, rt_int, rt_cell, rt_cons, rt_nil, rt_lst, rt_app, p_gF, List.all_cons, List.all_nil, sh_ints, sh_oi, sh_ois, sh_row, sh_rows, sh_drow, sh_drows, sh_ref, sh_int, sh_bl, sh_cell, sh_cons, sh_nil, sh_lst, Nat.zero_add, Nat.add_zero]
    refine ⟨_, pick_at hxi.1 (by omega), _, pick_at hxs.1 (by omega), fun q => ?_, fun q => ?_⟩
    · refine ⟨x, rfl, hmi, fun _ => ?_⟩
      by_cases z : i = 0
      · rw [h0 z, hz z] at q
        omega
      · rw [h1 (by omega)]
        simp only [spareF]
        rw [if_pos q]
    · refine ⟨s, rfl, hs, fun _ => ?_⟩
      by_cases z : i = 0
      · subst z
        rw [h0 rfl, hz rfl]
        rfl
      · rw [h1 (by omega)]
        simp only [spareF]
        rw [if_neg q]
  · rintro e m ⟨s, rfl, rfl, hs, h0, h1⟩
    rw [List.take_of_length_le (Nat.le_refl _)] at h1
    have := h1 (by simp)
    simp (disch := decide) only [ev_00, fr_pair, fr_pairs, py_pair, py_pairs, ev_pair, ev_pairs, ev_pairs0, anyPr, p_minR, p_maxR, p_sumR, p_allR, p_anyR, p_sortedR, o_nil, o_cons, o_ret, o_expr, o_set, o_asg, o_ife, o_setIx, o_aug, o_augIx, o_kill, o_pass, o_retN, seqP_nx, seqP_rt, o_var, o_int, o_bl, o_non, o_str, o_cst, o_bin, o_neg, o_cmp, o_chain, o_isN, o_notN, o_and, o_or, o_and1, o_or1, o_and2, o_or2, o_not, o_lst, o_tup, o_ix, o_slice, o_part0, o_part1, o_call, o_bi, o_isi, o_frz, o_isB, o_lrg, p_isB, p_lrg1, p_lrg2, o_rev, o_par, p_revL, p_revS, p_revR, ← List.map_reverse, o_mth0, o_mth, o_evs0, o_evs1, o_slst, o_stup, o_rng, o_enum, o_zip, o_enumT, o_lset, o_srtP, p_enumT, p_lset, p_srtP, p_listT, p_tupL, p_sliceT, p_divmod, p_var, v_0, v_s, p_add, p_addL, p_addT, p_sub, p_mul, p_mulL, p_div, p_mod, p_pow, p_neg, p_alF, p_alT, p_lst, p_tup, p_not, p_cmp, c_eq, c_ne, c_lt, c_gt, c_le, c_ge, c_in, c_nin, anyI, ev_ints0, ev_row0, ev_0ints, ev_ois0, p_isN, p_notN, p_ix, p_ixT, p_ixS, p_ixR, at_m, p_len, p_lenT, p_lenS, p_lenR, p_list, p_listS, p_listR, p_slice, p_allM, p_anyM, p_sumM, p_all, p_any, p_sum, p_max2, p_min2, p_remove, p_sorted, ints_snoc, ints_map, p_index, isl_l, py_drow, py_drows, ev_drow, ev_drows, fr_drow, fr_drows, p_sliceS, p_sliceR, p_src, p_srcS, p_srcT, p_srcR, src_l, src_f, p_rng1, p_rng2, p_enum, p_zip, p_app, p_pop, p_clear, p_rev, p_ext, p_ins, p_popAt, p_set, p_isi, p_frz, a_add, a_sub, a_mul, ixL, ixLR, cell_l, live_l, isl, py_int, py_bl, py_non, py_str, py_oi, py_lst, py_tup, py_scr, py_ints, py_bls, py_ois, py_row, py_rows, py_ref, ev_int, ev_bl, ev_str, ev_oi, ev_oI, ev_Io, ev_oN, ev_No, ev_ints, ev_row, ev_ois, ev_rows, non_oi, cut_map, ← List.map_take, ← List.map_drop, List.getElem?_cons_zero, List.getElem?_cons_succ, List.set_cons_zero, List.set_cons_succ, List.foldl_cons, List.foldl_nil, List.map_cons, List.map_nil, List.length_cons, List.length_nil, List.replicate, List.cons_append, List.nil_append, exists_eq_left, exists_eq_left', D.bl.injEq, D.int.injEq, D.tup.injEq, decide_eq_true_eq, decide_eq_false_iff_not, true_and, and_true, true_implies, List.length_map, fr_ref, fr_ints, fr_ois, fr_rows, fr_int, fr_lst, fr_row, fr_oi, fr_bl, fr_non, fr_cons, fr_nil, fr_tup, Fl.rt.injEq, Fl.nx.injEq, ex_neg, ex_neg', Bool.not_eq_true', Bool.not_eq_false', Bool.not_not, wipeE, omap_cons, omap_nil, at_0, at_1, at_2, oi_some, oi_none, oP_some, oP_none, Option.some.injEq, end_get, end_set, beq_self_eq_true, bne_self_eq_false, tn, tn0, tn1, fitL, mL, mR, nc, nc0, nc1, c_ltT, c_gtT, c_leT, ev_tup, ev_listc, ev_cons, ev_nil, ev_list0, ev_0list, c_inT, c_ninT, LIM, Int.zero_add, gc_id, Nat.le_refl, Option.map_some, Option.bind_some, isi_s, ty_int, ty_bl, ty_non, ty_lst, ty_tup, ty_str, ty_ref, ty_cl, ty_oi, isTy, Int.reduceLE, Int.reduceLT, Int.reducePow, Int.reduceAdd, Int.reduceSub, Int.reduceMul, Int.reduceNeg, Int.reduceEq, Int.reduceGT, Int.reduceGE, Int.reduceNe, Nat.reduceAdd, Nat.reduceSub, Nat.reduceLT, Nat.reduceLeDiff, Nat.reduceMul, Nat.reducePow, Nat.reduceBEq, Nat.reduceEqDiff, Int.reduceToNat, Bool.not_eq_true, Bool.not_true, Bool.not_false, Bool.not_eq_false, Bool.not_eq_eq_eq_not, reduceCtorEq, if_true, if_false, false_implies, Bool.false_eq_true, Bool.true_eq_false, and_self, not_true, not_false_iff, implies_true, forall_const, true_or, or_true, and_false, false_and, ge_iff_le, gt_iff_lt, cl_pairs, g_s, p_gT, p_gF, Bool.and_true, Bool.true_and, Bool.and_self, cl_ints, cl_bls, cl_oi, cl_ois, cl_row, cl_rows, cl_drow, cl_drows, cl_app, cl_lst, cl_cons, cl_nil, cl_int, cl_bl, cl_non, cl_str, cl_tup, fit, mfit, rt_pairs, sh_pairs, rt_bl, rt_non, rt_str, rt_tup, sh_non, sh_str, sh_tup, rt_ints, rt_oi, rt_ois, rt_row, rt_rows, rt_drow, rt_drows, rt_ref, rt_int, rt_cell, rt_cons, rt_nil, rt_lst, rt_app, p_gF, List.all_cons, List.all_nil, sh_ints, sh_oi, sh_ois, sh_row, sh_rows, sh_drow, sh_drows, sh_ref, sh_int, sh_bl, sh_cell, sh_cons, sh_nil, sh_lst, Nat.zero_add, Nat.add_zero, this, Option.getD_some]
theorem is_order_yes (os : List Int) (n : Nat) (hn : n ≤ 1000) (hp : os.Perm (rgi 0 n)) : F_is_order.run [(D.lst true (List.map D.int os)), .int n] = some (.ok (.bl true, [])) := by
  have hs : isort os = rgi 0 n := by
    have h1 : (rgi 0 n).Pairwise (· < ·) := by
      unfold rgi
      exact List.Pairwise.map _ (fun a b hab => by omega) List.pairwise_lt_range
    have nd : (isort os).Nodup := (isort_perm _).nodup_iff.mpr (hp.nodup_iff.mpr (h1.imp fun q => by omega))
    refine sorted_ext (((isort_sorted os).and nd).imp fun q => by omega) h1 fun x => by rw [(isort_perm os).mem_iff, hp.mem_iff]
  rw [R_is_order]
  refine run_ok ?_
  simp only [b_is_order, N_is_order, List.map_cons, List.map_nil, List.length_cons, List.length_nil, Nat.reduceAdd, Nat.reduceSub, List.replicate, List.cons_append, List.nil_append]
  simp (disch := decide) only [ev_00, fr_pair, fr_pairs, py_pair, py_pairs, ev_pair, ev_pairs, ev_pairs0, anyPr, p_minR, p_maxR, p_sumR, p_allR, p_anyR, p_sortedR, o_nil, o_cons, o_ret, o_expr, o_set, o_asg, o_ife, o_setIx, o_aug, o_augIx, o_kill, o_pass, o_retN, seqP_nx, seqP_rt, o_var, o_int, o_bl, o_non, o_str, o_cst, o_bin, o_neg, o_cmp, o_chain, o_isN, o_notN, o_and, o_or, o_and1, o_or1, o_and2, o_or2, o_not, o_lst, o_tup, o_ix, o_slice, o_part0, o_part1, o_call, o_bi, o_isi, o_frz, o_isB, o_lrg, p_isB, p_lrg1, p_lrg2, o_rev, o_par, p_revL, p_revS, p_revR, ← List.map_reverse, o_mth0, o_mth, o_evs0, o_evs1, o_slst, o_stup, o_rng, o_enum, o_zip, o_enumT, o_lset, o_srtP, p_enumT, p_lset, p_srtP, p_listT, p_tupL, p_sliceT, p_divmod, p_var, v_0, v_s, p_add, p_addL, p_addT, p_sub, p_mul, p_mulL, p_div, p_mod, p_pow, p_neg, p_alF, p_alT, p_lst, p_tup, p_not, p_cmp, c_eq, c_ne, c_lt, c_gt, c_le, c_ge, c_in, c_nin, anyI, ev_ints0, ev_row0, ev_0ints, ev_ois0, p_isN, p_notN, p_ix, p_ixT, p_ixS, p_ixR, at_m, p_len, p_lenT, p_lenS, p_lenR, p_list, p_listS, p_listR, p_slice, p_allM, p_anyM, p_sumM, p_all, p_any, p_sum, p_max2, p_min2, p_remove, p_sorted, ints_snoc, ints_map, p_index, isl_l, py_drow, py_drows, ev_drow, ev_drows, fr_drow, fr_drows, p_sliceS, p_sliceR, p_src, p_srcS, p_srcT, p_srcR, src_l, src_f, p_rng1, p_rng2, p_enum, p_zip, p_app, p_pop, p_clear, p_rev, p_ext, p_ins, p_popAt, p_set, p_isi, p_frz, a_add, a_sub, a_mul, ixL, ixLR, cell_l, live_l, isl, py_int, py_bl, py_non, py_str, py_oi, py_lst, py_tup, py_scr, py_ints, py_bls, py_ois, py_row, py_rows, py_ref, ev_int, ev_bl, ev_str, ev_oi, ev_oI, ev_Io, ev_oN, ev_No, ev_ints, ev_row, ev_ois, ev_rows, non_oi, cut_map, ← List.map_take, ← List.map_drop, List.getElem?_cons_zero, List.getElem?_cons_succ, List.set_cons_zero, List.set_cons_succ, List.foldl_cons, List.foldl_nil, List.map_cons, List.map_nil, List.length_cons, List.length_nil, List.replicate, List.cons_append, List.nil_append, exists_eq_left, exists_eq_left', D.bl.injEq, D.int.injEq, D.tup.injEq, decide_eq_true_eq, decide_eq_false_iff_not, true_and, and_true, true_implies, List.length_map, fr_ref, fr_ints, fr_ois, fr_rows, fr_int, fr_lst, fr_row, fr_oi, fr_bl, fr_non, fr_cons, fr_nil, fr_tup, Fl.rt.injEq, Fl.nx.injEq, ex_neg, ex_neg', Bool.not_eq_true', Bool.not_eq_false', Bool.not_not, wipeE, omap_cons, omap_nil, at_0, at_1, at_2, oi_some, oi_none, oP_some, oP_none, Option.some.injEq, end_get, end_set, beq_self_eq_true, bne_self_eq_false, tn, tn0, tn1, fitL, mL, mR, nc, nc0, nc1, c_ltT, c_gtT, c_leT, ev_tup, ev_listc, ev_cons, ev_nil, ev_list0, ev_0list, c_inT, c_ninT, LIM, Int.zero_add, gc_id, Nat.le_refl, Option.map_some, Option.bind_some, isi_s, ty_int, ty_bl, ty_non, ty_lst, ty_tup, ty_str, ty_ref, ty_cl, ty_oi, isTy, Int.reduceLE, Int.reduceLT, Int.reducePow, Int.reduceAdd, Int.reduceSub, Int.reduceMul, Int.reduceNeg, Int.reduceEq, Int.reduceGT, Int.reduceGE, Int.reduceNe, Nat.reduceAdd, Nat.reduceSub, Nat.reduceLT, Nat.reduceLeDiff, Nat.reduceMul, Nat.reducePow, Nat.reduceBEq, Nat.reduceEqDiff, Int.reduceToNat, Bool.not_eq_true, Bool.not_true, Bool.not_false, Bool.not_eq_false, Bool.not_eq_eq_eq_not, reduceCtorEq, if_true, if_false, false_implies, Bool.false_eq_true, Bool.true_eq_false, and_self, not_true, not_false_iff, implies_true, forall_const, true_or, or_true, and_false, false_and, ge_iff_le, gt_iff_lt, cl_pairs, g_s, p_gT, p_gF, Bool.and_true, Bool.true_and, Bool.and_self, cl_ints, cl_bls, cl_oi, cl_ois, cl_row, cl_rows, cl_drow, cl_drows, cl_app, cl_lst, cl_cons, cl_nil, cl_int, cl_bl, cl_non, cl_str, cl_tup, fit, mfit, rt_pairs, sh_pairs, rt_bl, rt_non, rt_str, rt_tup, sh_non, sh_str, sh_tup, rt_ints, rt_oi, rt_ois, rt_row, rt_rows, rt_drow, rt_drows, rt_ref, rt_int, rt_cell, rt_cons, rt_nil, rt_lst, rt_app, p_gF, List.all_cons, List.all_nil, sh_ints, sh_oi, sh_ois, sh_row, sh_rows, sh_drow, sh_drows, sh_ref, sh_int, sh_bl, sh_cell, sh_cons, sh_nil, sh_lst, Nat.zero_add, Nat.add_zero, hs]
  exact ⟨⟨by omega, by omega⟩, by rw [Int.toNat_natCast]⟩
def turnsR (t os : List (List Int)) (n m : Nat) : D := .tup [(D.lst false (List.map oi ((turnSt t m (hsSeq os n m)).1))), .lst false ((turnSt t m (hsSeq os n m)).2.map pairD)]
theorem by_turns_tail {n m : Nat} (b : Bool) (t : List (List Int)) (os : List (List Int)) (T : TabM m t) (hn : t.length = n) (hos : os ≠ []) (ho : ∀ o ∈ os, o.Perm (rgi 0 n)) (hol : os.length ≤ 100) : Ok (S.evs G_by_turns b_by_turns.tail [some ((D.lst true (List.map (row true) t))), some (.lst b (os.map (row b))), none, none, none, none, none, none, none] []) fun fl m' => fl = .rt (turnsR t os n m) := by
  have few := T.few
  have mf := T.mfew
  have tp := T.pos
  have tz := T.zero
  have olen : ∀ o ∈ os, o.length = n := fun o h => by rw [(ho o h).length_eq, rgi_len]
  have op : 0 < os.length := List.length_pos_iff.mpr hos
  have kh := fun  μ Q => call_eq (Γ := G_by_turns) (f := 163) (dn := 0) (fz := true) (ds := [(D.lst true (List.map (row true) t))]) (μ := μ) (Q := Q) rfl (by simp only [B_hands_of, le_pair, le_pairs, la_nil, la_t, la_f, Option.bind_some, Option.map_some, List.append_nil, List.replicate, le_int, le_bl, le_non, le_str, le_scr, le_oi, le_lst, le_tup, le_ints, le_bls, le_ois, le_row, le_rows, le_drow, le_drows, le_ref, cl_pairs, g_s, p_gT, p_gF, Bool.and_true, Bool.true_and, Bool.and_self, cl_ints, cl_bls, cl_oi, cl_ois, cl_row, cl_rows, cl_drow, cl_drows, cl_app, cl_lst, cl_cons, cl_nil, cl_int, cl_bl, cl_non, cl_str, cl_tup] <;> rfl) rfl (hands (t.map (row true)))
  have kt := fun  μ Q => call_eq (Γ := G_by_turns) (f := 199) (dn := 0) (fz := true) (ds := [(D.lst true (List.map (row true) t))]) (μ := μ) (Q := Q) rfl (by simp only [B_things_of, le_pair, le_pairs, la_nil, la_t, la_f, Option.bind_some, Option.map_some, List.append_nil, List.replicate, le_int, le_bl, le_non, le_str, le_scr, le_oi, le_lst, le_tup, le_ints, le_bls, le_ois, le_row, le_rows, le_drow, le_drows, le_ref, cl_pairs, g_s, p_gT, p_gF, Bool.and_true, Bool.true_and, Bool.and_self, cl_ints, cl_bls, cl_oi, cl_ois, cl_row, cl_rows, cl_drow, cl_drows, cl_app, cl_lst, cl_cons, cl_nil, cl_int, cl_bl, cl_non, cl_str, cl_tup] <;> rfl) rfl (things t tp)
  have kt2 := fun (c : Cell) Q => call_eq (Γ := G_by_turns) (f := 199) (dn := 0) (fz := true) (ds := [(D.lst true (List.map (row true) t))]) (μ := [c]) (Q := Q) rfl (by simp only [B_things_of, le_pair, le_pairs, la_nil, la_t, la_f, Option.bind_some, Option.map_some, List.append_nil, List.replicate, le_int, le_bl, le_non, le_str, le_scr, le_oi, le_lst, le_tup, le_ints, le_bls, le_ois, le_row, le_rows, le_drow, le_drows, le_ref, cl_pairs, g_s, p_gT, p_gF, Bool.and_true, Bool.true_and, Bool.and_self, cl_ints, cl_bls, cl_oi, cl_ois, cl_row, cl_rows, cl_drow, cl_drows, cl_app, cl_lst, cl_cons, cl_nil, cl_int, cl_bl, cl_non, cl_str, cl_tup, List.getElem?_cons_zero, List.getElem?_cons_succ, le_ints, le_ois, le_rows, le_pairs] <;> rfl) rfl (things t tp)
  have kn := fun (fz : Bool) μ Q => call_eq (Γ := G_by_turns) (f := 180) (dn := 0) (fz := fz) (ds := [(D.lst true (List.map (row true) t))]) (μ := μ) (Q := Q) rfl (by simp only [B_nothing_dealt, le_pair, le_pairs, la_nil, la_t, la_f, Option.bind_some, Option.map_some, List.append_nil, List.replicate, le_int, le_bl, le_non, le_str, le_scr, le_oi, le_lst, le_tup, le_ints, le_bls, le_ois, le_row, le_rows, le_drow, le_drows, le_ref, cl_pairs, g_s, p_gT, p_gF, Bool.and_true, Bool.true_and, Bool.and_self, cl_ints, cl_bls, cl_oi, cl_ois, cl_row, cl_rows, cl_drow, cl_drows, cl_app, cl_lst, cl_cons, cl_nil, cl_int, cl_bl, cl_non, cl_str, cl_tup] <;> rfl) rfl (nothing_dealt t tp (by omega))
  have kio := fun (o : List Int) (h : o.Perm (rgi 0 n)) μ Q => call_eq (Γ := G_by_turns) (f := 173) (dn := 0) (fz := true) (ds := [.lst b (o.map D.int), .int n]) (μ := μ) (Q := Q) rfl (by simp only [B_is_order, le_pair, le_pairs, la_nil, la_t, la_f, Option.bind_some, Option.map_some, List.append_nil, List.replicate, le_int, le_bl, le_non, le_str, le_scr, le_oi, le_lst, le_tup, le_ints, le_bls, le_ois, le_row, le_rows, le_drow, le_drows, le_ref, cl_pairs, g_s, p_gT, p_gF, Bool.and_true, Bool.true_and, Bool.and_self, cl_ints, cl_bls, cl_oi, cl_ois, cl_row, cl_rows, cl_drow, cl_drows, cl_app, cl_lst, cl_cons, cl_nil, cl_int, cl_bl, cl_non, cl_str, cl_tup] <;> rfl) rfl (is_order_yes o n (by omega) h)
  unfold turnsR
  simp only [b_by_turns, List.tail_cons]
  rw [o_cons]
  simp (disch := decide) only [ev_00, fr_pair, fr_pairs, py_pair, py_pairs, ev_pair, ev_pairs, ev_pairs0, anyPr, p_minR, p_maxR, p_sumR, p_allR, p_anyR, p_sortedR, o_nil, o_ret, o_expr, o_set, o_asg, o_ife, o_setIx, o_aug, o_augIx, o_kill, o_pass, o_retN, seqP_nx, seqP_rt, o_var, o_int, o_bl, o_non, o_str, o_cst, o_bin, o_neg, o_cmp, o_chain, o_isN, o_notN, o_and, o_or, o_and1, o_or1, o_and2, o_or2, o_not, o_lst, o_tup, o_ix, o_slice, o_part0, o_part1, o_call, o_bi, o_isi, o_frz, o_isB, o_lrg, p_isB, p_lrg1, p_lrg2, o_rev, o_par, p_revL, p_revS, p_revR, ← List.map_reverse, o_mth0, o_mth, o_evs0, o_evs1, o_slst, o_stup, o_rng, o_enum, o_zip, o_enumT, o_lset, o_srtP, p_enumT, p_lset, p_srtP, p_listT, p_tupL, p_sliceT, p_divmod, p_var, v_0, v_s, p_add, p_addL, p_addT, p_sub, p_mul, p_mulL, p_div, p_mod, p_pow, p_neg, p_alF, p_alT, p_lst, p_tup, p_not, p_cmp, c_eq, c_ne, c_lt, c_gt, c_le, c_ge, c_in, c_nin, anyI, ev_ints0, ev_row0, ev_0ints, ev_ois0, p_isN, p_notN, p_ix, p_ixT, p_ixS, p_ixR, at_m, p_len, p_lenT, p_lenS, p_lenR, p_list, p_listS, p_listR, p_slice, p_allM, p_anyM, p_sumM, p_all, p_any, p_sum, p_max2, p_min2, p_remove, p_sorted, ints_snoc, ints_map, p_index, isl_l, py_drow, py_drows, ev_drow, ev_drows, fr_drow, fr_drows, p_sliceS, p_sliceR, p_src, p_srcS, p_srcT, p_srcR, src_l, src_f, p_rng1, p_rng2, p_enum, p_zip, p_app, p_pop, p_clear, p_rev, p_ext, p_ins, p_popAt, p_set, p_isi, p_frz, a_add, a_sub, a_mul, ixL, ixLR, cell_l, live_l, isl, py_int, py_bl, py_non, py_str, py_oi, py_lst, py_tup, py_scr, py_ints, py_bls, py_ois, py_row, py_rows, py_ref, ev_int, ev_bl, ev_str, ev_oi, ev_oI, ev_Io, ev_oN, ev_No, ev_ints, ev_row, ev_ois, ev_rows, non_oi, cut_map, ← List.map_take, ← List.map_drop, List.getElem?_cons_zero, List.getElem?_cons_succ, List.set_cons_zero, List.set_cons_succ, List.foldl_cons, List.foldl_nil, List.map_cons, List.map_nil, List.length_cons, List.length_nil, List.replicate, List.cons_append, List.nil_append, exists_eq_left, exists_eq_left', D.bl.injEq, D.int.injEq, D.tup.injEq, decide_eq_true_eq, decide_eq_false_iff_not, true_and, and_true, true_implies, List.length_map, fr_ref, fr_ints, fr_ois, fr_rows, fr_int, fr_lst, fr_row, fr_oi, fr_bl, fr_non, fr_cons, fr_nil, fr_tup, Fl.rt.injEq, Fl.nx.injEq, ex_neg, ex_neg', Bool.not_eq_true', Bool.not_eq_false', Bool.not_not, wipeE, omap_cons, omap_nil, at_0, at_1, at_2, oi_some, oi_none, oP_some, oP_none, Option.some.injEq, end_get, end_set, beq_self_eq_true, bne_self_eq_false, tn, tn0, tn1, fitL, mL, mR, nc, nc0, nc1, c_ltT, c_gtT, c_leT, ev_tup, ev_listc, ev_cons, ev_nil, ev_list0, ev_0list, c_inT, c_ninT, LIM, Int.zero_add, gc_id, Nat.le_refl, Option.map_some, Option.bind_some, isi_s, ty_int, ty_bl, ty_non, ty_lst, ty_tup, ty_str, ty_ref, ty_cl, ty_oi, isTy, Int.reduceLE, Int.reduceLT, Int.reducePow, Int.reduceAdd, Int.reduceSub, Int.reduceMul, Int.reduceNeg, Int.reduceEq, Int.reduceGT, Int.reduceGE, Int.reduceNe, Nat.reduceAdd, Nat.reduceSub, Nat.reduceLT, Nat.reduceLeDiff, Nat.reduceMul, Nat.reducePow, Nat.reduceBEq, Nat.reduceEqDiff, Int.reduceToNat, Bool.not_eq_true, Bool.not_true, Bool.not_false, Bool.not_eq_false, Bool.not_eq_eq_eq_not, reduceCtorEq, if_true, if_false, false_implies, Bool.false_eq_true, Bool.true_eq_false, and_self, not_true, not_false_iff, implies_true, forall_const, true_or, or_true, and_false, false_and, ge_iff_le, gt_iff_lt, cl_pairs, g_s, p_gT, p_gF, Bool.and_true, Bool.true_and, Bool.and_self, cl_ints, cl_bls, cl_oi, cl_ois, cl_row, cl_rows, cl_drow, cl_drows, cl_app, cl_lst, cl_cons, cl_nil, cl_int, cl_bl, cl_non, cl_str, cl_tup, fit, mfit, rt_pairs, sh_pairs, rt_bl, rt_non, rt_str, rt_tup, sh_non, sh_str, sh_tup, rt_ints, rt_oi, rt_ois, rt_row, rt_rows, rt_drow, rt_drows, rt_ref, rt_int, rt_cell, rt_cons, rt_nil, rt_lst, rt_app, p_gF, List.all_cons, List.all_nil, sh_ints, sh_oi, sh_ois, sh_row, sh_rows, sh_drow, sh_drows, sh_ref, sh_int, sh_bl, sh_cell, sh_cons, sh_nil, sh_lst, Nat.zero_add, Nat.add_zero]
  refine ⟨fun q => absurd (List.length_eq_zero_iff.mp (by omega)) hos, fun _ => ?_⟩
  refine o_map (xs := os) (f := row b) (fun _ => .bl true) ?_ ?_ ?_
  · simp (disch := decide) only [ev_00, fr_pair, fr_pairs, py_pair, py_pairs, ev_pair, ev_pairs, ev_pairs0, anyPr, p_minR, p_maxR, p_sumR, p_allR, p_anyR, p_sortedR, o_nil, o_cons, o_ret, o_expr, o_set, o_asg, o_ife, o_setIx, o_aug, o_augIx, o_kill, o_pass, o_retN, seqP_nx, seqP_rt, o_var, o_int, o_bl, o_non, o_str, o_cst, o_bin, o_neg, o_cmp, o_chain, o_isN, o_notN, o_and, o_or, o_and1, o_or1, o_and2, o_or2, o_not, o_lst, o_tup, o_ix, o_slice, o_part0, o_part1, o_call, o_bi, o_isi, o_frz, o_isB, o_lrg, p_isB, p_lrg1, p_lrg2, o_rev, o_par, p_revL, p_revS, p_revR, ← List.map_reverse, o_mth0, o_mth, o_evs0, o_evs1, o_slst, o_stup, o_rng, o_enum, o_zip, o_enumT, o_lset, o_srtP, p_enumT, p_lset, p_srtP, p_listT, p_tupL, p_sliceT, p_divmod, p_var, v_0, v_s, p_add, p_addL, p_addT, p_sub, p_mul, p_mulL, p_div, p_mod, p_pow, p_neg, p_alF, p_alT, p_lst, p_tup, p_not, p_cmp, c_eq, c_ne, c_lt, c_gt, c_le, c_ge, c_in, c_nin, anyI, ev_ints0, ev_row0, ev_0ints, ev_ois0, p_isN, p_notN, p_ix, p_ixT, p_ixS, p_ixR, at_m, p_len, p_lenT, p_lenS, p_lenR, p_list, p_listS, p_listR, p_slice, p_allM, p_anyM, p_sumM, p_all, p_any, p_sum, p_max2, p_min2, p_remove, p_sorted, ints_snoc, ints_map, p_index, isl_l, py_drow, py_drows, ev_drow, ev_drows, fr_drow, fr_drows, p_sliceS, p_sliceR, p_src, p_srcS, p_srcT, p_srcR, src_l, src_f, p_rng1, p_rng2, p_enum, p_zip, p_app, p_pop, p_clear, p_rev, p_ext, p_ins, p_popAt, p_set, p_isi, p_frz, a_add, a_sub, a_mul, ixL, ixLR, cell_l, live_l, isl, py_int, py_bl, py_non, py_str, py_oi, py_lst, py_tup, py_scr, py_ints, py_bls, py_ois, py_row, py_rows, py_ref, ev_int, ev_bl, ev_str, ev_oi, ev_oI, ev_Io, ev_oN, ev_No, ev_ints, ev_row, ev_ois, ev_rows, non_oi, cut_map, ← List.map_take, ← List.map_drop, List.getElem?_cons_zero, List.getElem?_cons_succ, List.set_cons_zero, List.set_cons_succ, List.foldl_cons, List.foldl_nil, List.map_cons, List.map_nil, List.length_cons, List.length_nil, List.replicate, List.cons_append, List.nil_append, exists_eq_left, exists_eq_left', D.bl.injEq, D.int.injEq, D.tup.injEq, decide_eq_true_eq, decide_eq_false_iff_not, true_and, and_true, true_implies, List.length_map, fr_ref, fr_ints, fr_ois, fr_rows, fr_int, fr_lst, fr_row, fr_oi, fr_bl, fr_non, fr_cons, fr_nil, fr_tup, Fl.rt.injEq, Fl.nx.injEq, ex_neg, ex_neg', Bool.not_eq_true', Bool.not_eq_false', Bool.not_not, wipeE, omap_cons, omap_nil, at_0, at_1, at_2, oi_some, oi_none, oP_some, oP_none, Option.some.injEq, end_get, end_set, beq_self_eq_true, bne_self_eq_false, tn, tn0, tn1, fitL, mL, mR, nc, nc0, nc1, c_ltT, c_gtT, c_leT, ev_tup, ev_listc, ev_cons, ev_nil, ev_list0, ev_0list, c_inT, c_ninT, LIM, Int.zero_add, gc_id, Nat.le_refl, Option.map_some, Option.bind_some, isi_s, ty_int, ty_bl, ty_non, ty_lst, ty_tup, ty_str, ty_ref, ty_cl, ty_oi, isTy, Int.reduceLE, Int.reduceLT, Int.reducePow, Int.reduceAdd, Int.reduceSub, Int.reduceMul, Int.reduceNeg, Int.reduceEq, Int.reduceGT, Int.reduceGE, Int.reduceNe, Nat.reduceAdd, Nat.reduceSub, Nat.reduceLT, Nat.reduceLeDiff, Nat.reduceMul, Nat.reducePow, Nat.reduceBEq, Nat.reduceEqDiff, Int.reduceToNat, Bool.not_eq_true, Bool.not_true, Bool.not_false, Bool.not_eq_false, Bool.not_eq_eq_eq_not, reduceCtorEq, if_true, if_false, false_implies, Bool.false_eq_true, Bool.true_eq_false, and_self, not_true, not_false_iff, implies_true, forall_const, true_or, or_true, and_false, false_and, ge_iff_le, gt_iff_lt, cl_pairs, g_s, p_gT, p_gF, Bool.and_true, Bool.true_and, Bool.and_self, cl_ints, cl_bls, cl_oi, cl_ois, cl_row, cl_rows, cl_drow, cl_drows, cl_app, cl_lst, cl_cons, cl_nil, cl_int, cl_bl, cl_non, cl_str, cl_tup, fit, mfit, rt_pairs, sh_pairs, rt_bl, rt_non, rt_str, rt_tup, sh_non, sh_str, sh_tup, rt_ints, rt_oi, rt_ois, rt_row, rt_rows, rt_drow, rt_drows, rt_ref, rt_int, rt_cell, rt_cons, rt_nil, rt_lst, rt_app, p_gF, List.all_cons, List.all_nil, sh_ints, sh_oi, sh_ois, sh_row, sh_rows, sh_drow, sh_drows, sh_ref, sh_int, sh_bl, sh_cell, sh_cons, sh_nil, sh_lst, Nat.zero_add, Nat.add_zero]
    omega
  · intro i hi
    refine ⟨_, rfl, ?_⟩
    simp (disch := decide) only [ev_00, fr_pair, fr_pairs, py_pair, py_pairs, ev_pair, ev_pairs, ev_pairs0, anyPr, p_minR, p_maxR, p_sumR, p_allR, p_anyR, p_sortedR, o_nil, o_cons, o_ret, o_expr, o_set, o_asg, o_ife, o_setIx, o_aug, o_augIx, o_kill, o_pass, o_retN, seqP_nx, seqP_rt, o_var, o_int, o_bl, o_non, o_str, o_cst, o_bin, o_neg, o_cmp, o_chain, o_isN, o_notN, o_and, o_or, o_and1, o_or1, o_and2, o_or2, o_not, o_lst, o_tup, o_ix, o_slice, o_part0, o_part1, o_call, o_bi, o_isi, o_frz, o_isB, o_lrg, p_isB, p_lrg1, p_lrg2, o_rev, o_par, p_revL, p_revS, p_revR, ← List.map_reverse, o_mth0, o_mth, o_evs0, o_evs1, o_slst, o_stup, o_rng, o_enum, o_zip, o_enumT, o_lset, o_srtP, p_enumT, p_lset, p_srtP, p_listT, p_tupL, p_sliceT, p_divmod, p_var, v_0, v_s, p_add, p_addL, p_addT, p_sub, p_mul, p_mulL, p_div, p_mod, p_pow, p_neg, p_alF, p_alT, p_lst, p_tup, p_not, p_cmp, c_eq, c_ne, c_lt, c_gt, c_le, c_ge, c_in, c_nin, anyI, ev_ints0, ev_row0, ev_0ints, ev_ois0, p_isN, p_notN, p_ix, p_ixT, p_ixS, p_ixR, at_m, p_len, p_lenT, p_lenS, p_lenR, p_list, p_listS, p_listR, p_slice, p_allM, p_anyM, p_sumM, p_all, p_any, p_sum, p_max2, p_min2, p_remove, p_sorted, ints_snoc, ints_map, p_index, isl_l, py_drow, py_drows, ev_drow, ev_drows, fr_drow, fr_drows, p_sliceS, p_sliceR, p_src, p_srcS, p_srcT, p_srcR, src_l, src_f, p_rng1, p_rng2, p_enum, p_zip, p_app, p_pop, p_clear, p_rev, p_ext, p_ins, p_popAt, p_set, p_isi, p_frz, a_add, a_sub, a_mul, ixL, ixLR, cell_l, live_l, isl, py_int, py_bl, py_non, py_str, py_oi, py_lst, py_tup, py_scr, py_ints, py_bls, py_ois, py_row, py_rows, py_ref, ev_int, ev_bl, ev_str, ev_oi, ev_oI, ev_Io, ev_oN, ev_No, ev_ints, ev_row, ev_ois, ev_rows, non_oi, cut_map, ← List.map_take, ← List.map_drop, List.getElem?_cons_zero, List.getElem?_cons_succ, List.set_cons_zero, List.set_cons_succ, List.foldl_cons, List.foldl_nil, List.map_cons, List.map_nil, List.length_cons, List.length_nil, List.replicate, List.cons_append, List.nil_append, exists_eq_left, exists_eq_left', D.bl.injEq, D.int.injEq, D.tup.injEq, decide_eq_true_eq, decide_eq_false_iff_not, true_and, and_true, true_implies, List.length_map, fr_ref, fr_ints, fr_ois, fr_rows, fr_int, fr_lst, fr_row, fr_oi, fr_bl, fr_non, fr_cons, fr_nil, fr_tup, Fl.rt.injEq, Fl.nx.injEq, ex_neg, ex_neg', Bool.not_eq_true', Bool.not_eq_false', Bool.not_not, wipeE, omap_cons, omap_nil, at_0, at_1, at_2, oi_some, oi_none, oP_some, oP_none, Option.some.injEq, end_get, end_set, beq_self_eq_true, bne_self_eq_false, tn, tn0, tn1, fitL, mL, mR, nc, nc0, nc1, c_ltT, c_gtT, c_leT, ev_tup, ev_listc, ev_cons, ev_nil, ev_list0, ev_0list, c_inT, c_ninT, LIM, Int.zero_add, gc_id, Nat.le_refl, Option.map_some, Option.bind_some, isi_s, ty_int, ty_bl, ty_non, ty_lst, ty_tup, ty_str, ty_ref, ty_cl, ty_oi, isTy, Int.reduceLE, Int.reduceLT, Int.reducePow, Int.reduceAdd, Int.reduceSub, Int.reduceMul, Int.reduceNeg, Int.reduceEq, Int.reduceGT, Int.reduceGE, Int.reduceNe, Nat.reduceAdd, Nat.reduceSub, Nat.reduceLT, Nat.reduceLeDiff, Nat.reduceMul, Nat.reducePow, Nat.reduceBEq, Nat.reduceEqDiff, Int.reduceToNat, Bool.not_eq_true, Bool.not_true, Bool.not_false, Bool.not_eq_false, Bool.not_eq_eq_eq_not, reduceCtorEq, if_true, if_false, false_implies, Bool.false_eq_true, Bool.true_eq_false, and_self, not_true, not_false_iff, implies_true, forall_const, true_or, or_true, and_false, false_and, ge_iff_le, gt_iff_lt, cl_pairs, g_s, p_gT, p_gF, Bool.and_true, Bool.true_and, Bool.and_self, cl_ints, cl_bls, cl_oi, cl_ois, cl_row, cl_rows, cl_drow, cl_drows, cl_app, cl_lst, cl_cons, cl_nil, cl_int, cl_bl, cl_non, cl_str, cl_tup, fit, mfit, rt_pairs, sh_pairs, rt_bl, rt_non, rt_str, rt_tup, sh_non, sh_str, sh_tup, rt_ints, rt_oi, rt_ois, rt_row, rt_rows, rt_drow, rt_drows, rt_ref, rt_int, rt_cell, rt_cons, rt_nil, rt_lst, rt_app, p_gF, List.all_cons, List.all_nil, sh_ints, sh_oi, sh_ois, sh_row, sh_rows, sh_drow, sh_drows, sh_ref, sh_int, sh_bl, sh_cell, sh_cons, sh_nil, sh_lst, Nat.zero_add, Nat.add_zero, kh]
    rw [hn]
    simp (disch := decide) only [ev_00, fr_pair, fr_pairs, py_pair, py_pairs, ev_pair, ev_pairs, ev_pairs0, anyPr, p_minR, p_maxR, p_sumR, p_allR, p_anyR, p_sortedR, o_nil, o_cons, o_ret, o_expr, o_set, o_asg, o_ife, o_setIx, o_aug, o_augIx, o_kill, o_pass, o_retN, seqP_nx, seqP_rt, o_var, o_int, o_bl, o_non, o_str, o_cst, o_bin, o_neg, o_cmp, o_chain, o_isN, o_notN, o_and, o_or, o_and1, o_or1, o_and2, o_or2, o_not, o_lst, o_tup, o_ix, o_slice, o_part0, o_part1, o_call, o_bi, o_isi, o_frz, o_isB, o_lrg, p_isB, p_lrg1, p_lrg2, o_rev, o_par, p_revL, p_revS, p_revR, ← List.map_reverse, o_mth0, o_mth, o_evs0, o_evs1, o_slst, o_stup, o_rng, o_enum, o_zip, o_enumT, o_lset, o_srtP, p_enumT, p_lset, p_srtP, p_listT, p_tupL, p_sliceT, p_divmod, p_var, v_0, v_s, p_add, p_addL, p_addT, p_sub, p_mul, p_mulL, p_div, p_mod, p_pow, p_neg, p_alF, p_alT, p_lst, p_tup, p_not, p_cmp, c_eq, c_ne, c_lt, c_gt, c_le, c_ge, c_in, c_nin, anyI, ev_ints0, ev_row0, ev_0ints, ev_ois0, p_isN, p_notN, p_ix, p_ixT, p_ixS, p_ixR, at_m, p_len, p_lenT, p_lenS, p_lenR, p_list, p_listS, p_listR, p_slice, p_allM, p_anyM, p_sumM, p_all, p_any, p_sum, p_max2, p_min2, p_remove, p_sorted, ints_snoc, ints_map, p_index, isl_l, py_drow, py_drows, ev_drow, ev_drows, fr_drow, fr_drows, p_sliceS, p_sliceR, p_src, p_srcS, p_srcT, p_srcR, src_l, src_f, p_rng1, p_rng2, p_enum, p_zip, p_app, p_pop, p_clear, p_rev, p_ext, p_ins, p_popAt, p_set, p_isi, p_frz, a_add, a_sub, a_mul, ixL, ixLR, cell_l, live_l, isl, py_int, py_bl, py_non, py_str, py_oi, py_lst, py_tup, py_scr, py_ints, py_bls, py_ois, py_row, py_rows, py_ref, ev_int, ev_bl, ev_str, ev_oi, ev_oI, ev_Io, ev_oN, ev_No, ev_ints, ev_row, ev_ois, ev_rows, non_oi, cut_map, ← List.map_take, ← List.map_drop, List.getElem?_cons_zero, List.getElem?_cons_succ, List.set_cons_zero, List.set_cons_succ, List.foldl_cons, List.foldl_nil, List.map_cons, List.map_nil, List.length_cons, List.length_nil, List.replicate, List.cons_append, List.nil_append, exists_eq_left, exists_eq_left', D.bl.injEq, D.int.injEq, D.tup.injEq, decide_eq_true_eq, decide_eq_false_iff_not, true_and, and_true, true_implies, List.length_map, fr_ref, fr_ints, fr_ois, fr_rows, fr_int, fr_lst, fr_row, fr_oi, fr_bl, fr_non, fr_cons, fr_nil, fr_tup, Fl.rt.injEq, Fl.nx.injEq, ex_neg, ex_neg', Bool.not_eq_true', Bool.not_eq_false', Bool.not_not, wipeE, omap_cons, omap_nil, at_0, at_1, at_2, oi_some, oi_none, oP_some, oP_none, Option.some.injEq, end_get, end_set, beq_self_eq_true, bne_self_eq_false, tn, tn0, tn1, fitL, mL, mR, nc, nc0, nc1, c_ltT, c_gtT, c_leT, ev_tup, ev_listc, ev_cons, ev_nil, ev_list0, ev_0list, c_inT, c_ninT, LIM, Int.zero_add, gc_id, Nat.le_refl, Option.map_some, Option.bind_some, isi_s, ty_int, ty_bl, ty_non, ty_lst, ty_tup, ty_str, ty_ref, ty_cl, ty_oi, isTy, Int.reduceLE, Int.reduceLT, Int.reducePow, Int.reduceAdd, Int.reduceSub, Int.reduceMul, Int.reduceNeg, Int.reduceEq, Int.reduceGT, Int.reduceGE, Int.reduceNe, Nat.reduceAdd, Nat.reduceSub, Nat.reduceLT, Nat.reduceLeDiff, Nat.reduceMul, Nat.reducePow, Nat.reduceBEq, Nat.reduceEqDiff, Int.reduceToNat, Bool.not_eq_true, Bool.not_true, Bool.not_false, Bool.not_eq_false, Bool.not_eq_eq_eq_not, reduceCtorEq, if_true, if_false, false_implies, Bool.false_eq_true, Bool.true_eq_false, and_self, not_true, not_false_iff, implies_true, forall_const, true_or, or_true, and_false, false_and, ge_iff_le, gt_iff_lt, cl_pairs, g_s, p_gT, p_gF, Bool.and_true, Bool.true_and, Bool.and_self, cl_ints, cl_bls, cl_oi, cl_ois, cl_row, cl_rows, cl_drow, cl_drows, cl_app, cl_lst, cl_cons, cl_nil, cl_int, cl_bl, cl_non, cl_str, cl_tup, fit, mfit, rt_pairs, sh_pairs, rt_bl, rt_non, rt_str, rt_tup, sh_non, sh_str, sh_tup, rt_ints, rt_oi, rt_ois, rt_row, rt_rows, rt_drow, rt_drows, rt_ref, rt_int, rt_cell, rt_cons, rt_nil, rt_lst, rt_app, p_gF, List.all_cons, List.all_nil, sh_ints, sh_oi, sh_ois, sh_row, sh_rows, sh_drow, sh_drows, sh_ref, sh_int, sh_bl, sh_cell, sh_cons, sh_nil, sh_lst, Nat.zero_add, Nat.add_zero, row, kio _ (ho _ (List.getElem_mem hi))]
  have hall : (os.all fun _ => true) = true := by simp
  simp (disch := decide) only [ev_00, fr_pair, fr_pairs, py_pair, py_pairs, ev_pair, ev_pairs, ev_pairs0, anyPr, p_minR, p_maxR, p_sumR, p_allR, p_anyR, p_sortedR, o_nil, o_ret, o_expr, o_set, o_asg, o_ife, o_setIx, o_aug, o_augIx, o_kill, o_pass, o_retN, seqP_nx, seqP_rt, o_var, o_int, o_bl, o_non, o_str, o_cst, o_bin, o_neg, o_cmp, o_chain, o_isN, o_notN, o_and, o_or, o_and1, o_or1, o_and2, o_or2, o_not, o_lst, o_tup, o_ix, o_slice, o_part0, o_part1, o_call, o_bi, o_isi, o_frz, o_isB, o_lrg, p_isB, p_lrg1, p_lrg2, o_rev, o_par, p_revL, p_revS, p_revR, ← List.map_reverse, o_mth0, o_mth, o_evs0, o_evs1, o_slst, o_stup, o_rng, o_enum, o_zip, o_enumT, o_lset, o_srtP, p_enumT, p_lset, p_srtP, p_listT, p_tupL, p_sliceT, p_divmod, p_var, v_0, v_s, p_add, p_addL, p_addT, p_sub, p_mul, p_mulL, p_div, p_mod, p_pow, p_neg, p_alF, p_alT, p_lst, p_tup, p_not, p_cmp, c_eq, c_ne, c_lt, c_gt, c_le, c_ge, c_in, c_nin, anyI, ev_ints0, ev_row0, ev_0ints, ev_ois0, p_isN, p_notN, p_ix, p_ixT, p_ixS, p_ixR, at_m, p_len, p_lenT, p_lenS, p_lenR, p_list, p_listS, p_listR, p_slice, p_allM, p_anyM, p_sumM, p_all, p_any, p_sum, p_max2, p_min2, p_remove, p_sorted, ints_snoc, ints_map, p_index, isl_l, py_drow, py_drows, ev_drow, ev_drows, fr_drow, fr_drows, p_sliceS, p_sliceR, p_src, p_srcS, p_srcT, p_srcR, src_l, src_f, p_rng1, p_rng2, p_enum, p_zip, p_app, p_pop, p_clear, p_rev, p_ext, p_ins, p_popAt, p_set, p_isi, p_frz, a_add, a_sub, a_mul, ixL, ixLR, cell_l, live_l, isl, py_int, py_bl, py_non, py_str, py_oi, py_lst, py_tup, py_scr, py_ints, py_bls, py_ois, py_row, py_rows, py_ref, ev_int, ev_bl, ev_str, ev_oi, ev_oI, ev_Io, ev_oN, ev_No, ev_ints, ev_row, ev_ois, ev_rows, non_oi, cut_map, ← List.map_take, ← List.map_drop, List.getElem?_cons_zero, List.getElem?_cons_succ, List.set_cons_zero, List.set_cons_succ, List.foldl_cons, List.foldl_nil, List.map_cons, List.map_nil, List.length_cons, List.length_nil, List.replicate, List.cons_append, List.nil_append, exists_eq_left, exists_eq_left', D.bl.injEq, D.int.injEq, D.tup.injEq, decide_eq_true_eq, decide_eq_false_iff_not, true_and, and_true, true_implies, List.length_map, fr_ref, fr_ints, fr_ois, fr_rows, fr_int, fr_lst, fr_row, fr_oi, fr_bl, fr_non, fr_cons, fr_nil, fr_tup, Fl.rt.injEq, Fl.nx.injEq, ex_neg, ex_neg', Bool.not_eq_true', Bool.not_eq_false', Bool.not_not, wipeE, omap_cons, omap_nil, at_0, at_1, at_2, oi_some, oi_none, oP_some, oP_none, Option.some.injEq, end_get, end_set, beq_self_eq_true, bne_self_eq_false, tn, tn0, tn1, fitL, mL, mR, nc, nc0, nc1, c_ltT, c_gtT, c_leT, ev_tup, ev_listc, ev_cons, ev_nil, ev_list0, ev_0list, c_inT, c_ninT, LIM, Int.zero_add, gc_id, Nat.le_refl, Option.map_some, Option.bind_some, isi_s, ty_int, ty_bl, ty_non, ty_lst, ty_tup, ty_str, ty_ref, ty_cl, ty_oi, isTy, Int.reduceLE, Int.reduceLT, Int.reducePow, Int.reduceAdd, Int.reduceSub, Int.reduceMul, Int.reduceNeg, Int.reduceEq, Int.reduceGT, Int.reduceGE, Int.reduceNe, Nat.reduceAdd, Nat.reduceSub, Nat.reduceLT, Nat.reduceLeDiff, Nat.reduceMul, Nat.reducePow, Nat.reduceBEq, Nat.reduceEqDiff, Int.reduceToNat, Bool.not_eq_true, Bool.not_true, Bool.not_false, Bool.not_eq_false, Bool.not_eq_eq_eq_not, reduceCtorEq, if_true, if_false, false_implies, Bool.false_eq_true, Bool.true_eq_false, and_self, not_true, not_false_iff, implies_true, forall_const, true_or, or_true, and_false, false_and, ge_iff_le, gt_iff_lt, cl_pairs, g_s, p_gT, p_gF, Bool.and_true, Bool.true_and, Bool.and_self, cl_ints, cl_bls, cl_oi, cl_ois, cl_row, cl_rows, cl_drow, cl_drows, cl_app, cl_lst, cl_cons, cl_nil, cl_int, cl_bl, cl_non, cl_str, cl_tup, fit, mfit, rt_pairs, sh_pairs, rt_bl, rt_non, rt_str, rt_tup, sh_non, sh_str, sh_tup, rt_ints, rt_oi, rt_ois, rt_row, rt_rows, rt_drow, rt_drows, rt_ref, rt_int, rt_cell, rt_cons, rt_nil, rt_lst, rt_app, p_gF, List.all_cons, List.all_nil, sh_ints, sh_oi, sh_ois, sh_row, sh_rows, sh_drow, sh_drows, sh_ref, sh_int, sh_bl, sh_cell, sh_cons, sh_nil, sh_lst, Nat.zero_add, Nat.add_zero, hall]
  rw [o_cons]
  simp (disch := decide) only [ev_00, fr_pair, fr_pairs, py_pair, py_pairs, ev_pair, ev_pairs, ev_pairs0, anyPr, p_minR, p_maxR, p_sumR, p_allR, p_anyR, p_sortedR, o_nil, o_ret, o_expr, o_set, o_asg, o_ife, o_setIx, o_aug, o_augIx, o_kill, o_pass, o_retN, seqP_nx, seqP_rt, o_var, o_int, o_bl, o_non, o_str, o_cst, o_bin, o_neg, o_cmp, o_chain, o_isN, o_notN, o_and, o_or, o_and1, o_or1, o_and2, o_or2, o_not, o_lst, o_tup, o_ix, o_slice, o_part0, o_part1, o_call, o_bi, o_isi, o_frz, o_isB, o_lrg, p_isB, p_lrg1, p_lrg2, o_rev, o_par, p_revL, p_revS, p_revR, ← List.map_reverse, o_mth0, o_mth, o_evs0, o_evs1, o_slst, o_stup, o_rng, o_enum, o_zip, o_enumT, o_lset, o_srtP, p_enumT, p_lset, p_srtP, p_listT, p_tupL, p_sliceT, p_divmod, p_var, v_0, v_s, p_add, p_addL, p_addT, p_sub, p_mul, p_mulL, p_div, p_mod, p_pow, p_neg, p_alF, p_alT, p_lst, p_tup, p_not, p_cmp, c_eq, c_ne, c_lt, c_gt, c_le, c_ge, c_in, c_nin, anyI, ev_ints0, ev_row0, ev_0ints, ev_ois0, p_isN, p_notN, p_ix, p_ixT, p_ixS, p_ixR, at_m, p_len, p_lenT, p_lenS, p_lenR, p_list, p_listS, p_listR, p_slice, p_allM, p_anyM, p_sumM, p_all, p_any, p_sum, p_max2, p_min2, p_remove, p_sorted, ints_snoc, ints_map, p_index, isl_l, py_drow, py_drows, ev_drow, ev_drows, fr_drow, fr_drows, p_sliceS, p_sliceR, p_src, p_srcS, p_srcT, p_srcR, src_l, src_f, p_rng1, p_rng2, p_enum, p_zip, p_app, p_pop, p_clear, p_rev, p_ext, p_ins, p_popAt, p_set, p_isi, p_frz, a_add, a_sub, a_mul, ixL, ixLR, cell_l, live_l, isl, py_int, py_bl, py_non, py_str, py_oi, py_lst, py_tup, py_scr, py_ints, py_bls, py_ois, py_row, py_rows, py_ref, ev_int, ev_bl, ev_str, ev_oi, ev_oI, ev_Io, ev_oN, ev_No, ev_ints, ev_row, ev_ois, ev_rows, non_oi, cut_map, ← List.map_take, ← List.map_drop, List.getElem?_cons_zero, List.getElem?_cons_succ, List.set_cons_zero, List.set_cons_succ, List.foldl_cons, List.foldl_nil, List.map_cons, List.map_nil, List.length_cons, List.length_nil, List.replicate, List.cons_append, List.nil_append, exists_eq_left, exists_eq_left', D.bl.injEq, D.int.injEq, D.tup.injEq, decide_eq_true_eq, decide_eq_false_iff_not, true_and, and_true, true_implies, List.length_map, fr_ref, fr_ints, fr_ois, fr_rows, fr_int, fr_lst, fr_row, fr_oi, fr_bl, fr_non, fr_cons, fr_nil, fr_tup, Fl.rt.injEq, Fl.nx.injEq, ex_neg, ex_neg', Bool.not_eq_true', Bool.not_eq_false', Bool.not_not, wipeE, omap_cons, omap_nil, at_0, at_1, at_2, oi_some, oi_none, oP_some, oP_none, Option.some.injEq, end_get, end_set, beq_self_eq_true, bne_self_eq_false, tn, tn0, tn1, fitL, mL, mR, nc, nc0, nc1, c_ltT, c_gtT, c_leT, ev_tup, ev_listc, ev_cons, ev_nil, ev_list0, ev_0list, c_inT, c_ninT, LIM, Int.zero_add, gc_id, Nat.le_refl, Option.map_some, Option.bind_some, isi_s, ty_int, ty_bl, ty_non, ty_lst, ty_tup, ty_str, ty_ref, ty_cl, ty_oi, isTy, Int.reduceLE, Int.reduceLT, Int.reducePow, Int.reduceAdd, Int.reduceSub, Int.reduceMul, Int.reduceNeg, Int.reduceEq, Int.reduceGT, Int.reduceGE, Int.reduceNe, Nat.reduceAdd, Nat.reduceSub, Nat.reduceLT, Nat.reduceLeDiff, Nat.reduceMul, Nat.reducePow, Nat.reduceBEq, Nat.reduceEqDiff, Int.reduceToNat, Bool.not_eq_true, Bool.not_true, Bool.not_false, Bool.not_eq_false, Bool.not_eq_eq_eq_not, reduceCtorEq, if_true, if_false, false_implies, Bool.false_eq_true, Bool.true_eq_false, and_self, not_true, not_false_iff, implies_true, forall_const, true_or, or_true, and_false, false_and, ge_iff_le, gt_iff_lt, cl_pairs, g_s, p_gT, p_gF, Bool.and_true, Bool.true_and, Bool.and_self, cl_ints, cl_bls, cl_oi, cl_ois, cl_row, cl_rows, cl_drow, cl_drows, cl_app, cl_lst, cl_cons, cl_nil, cl_int, cl_bl, cl_non, cl_str, cl_tup, fit, mfit, rt_pairs, sh_pairs, rt_bl, rt_non, rt_str, rt_tup, sh_non, sh_str, sh_tup, rt_ints, rt_oi, rt_ois, rt_row, rt_rows, rt_drow, rt_drows, rt_ref, rt_int, rt_cell, rt_cons, rt_nil, rt_lst, rt_app, p_gF, List.all_cons, List.all_nil, sh_ints, sh_oi, sh_ois, sh_row, sh_rows, sh_drow, sh_drows, sh_ref, sh_int, sh_bl, sh_cell, sh_cons, sh_nil, sh_lst, Nat.zero_add, Nat.add_zero, kn, tz]
  rw [o_cons]
  simp (disch := decide) only [ev_00, fr_pair, fr_pairs, py_pair, py_pairs, ev_pair, ev_pairs, ev_pairs0, anyPr, p_minR, p_maxR, p_sumR, p_allR, p_anyR, p_sortedR, o_nil, o_ret, o_expr, o_set, o_asg, o_ife, o_setIx, o_aug, o_augIx, o_kill, o_pass, o_retN, seqP_nx, seqP_rt, o_var, o_int, o_bl, o_non, o_str, o_cst, o_bin, o_neg, o_cmp, o_chain, o_isN, o_notN, o_and, o_or, o_and1, o_or1, o_and2, o_or2, o_not, o_lst, o_tup, o_ix, o_slice, o_part0, o_part1, o_call, o_bi, o_isi, o_frz, o_isB, o_lrg, p_isB, p_lrg1, p_lrg2, o_rev, o_par, p_revL, p_revS, p_revR, ← List.map_reverse, o_mth0, o_mth, o_evs0, o_evs1, o_slst, o_stup, o_rng, o_enum, o_zip, o_enumT, o_lset, o_srtP, p_enumT, p_lset, p_srtP, p_listT, p_tupL, p_sliceT, p_divmod, p_var, v_0, v_s, p_add, p_addL, p_addT, p_sub, p_mul, p_mulL, p_div, p_mod, p_pow, p_neg, p_alF, p_alT, p_lst, p_tup, p_not, p_cmp, c_eq, c_ne, c_lt, c_gt, c_le, c_ge, c_in, c_nin, anyI, ev_ints0, ev_row0, ev_0ints, ev_ois0, p_isN, p_notN, p_ix, p_ixT, p_ixS, p_ixR, at_m, p_len, p_lenT, p_lenS, p_lenR, p_list, p_listS, p_listR, p_slice, p_allM, p_anyM, p_sumM, p_all, p_any, p_sum, p_max2, p_min2, p_remove, p_sorted, ints_snoc, ints_map, p_index, isl_l, py_drow, py_drows, ev_drow, ev_drows, fr_drow, fr_drows, p_sliceS, p_sliceR, p_src, p_srcS, p_srcT, p_srcR, src_l, src_f, p_rng1, p_rng2, p_enum, p_zip, p_app, p_pop, p_clear, p_rev, p_ext, p_ins, p_popAt, p_set, p_isi, p_frz, a_add, a_sub, a_mul, ixL, ixLR, cell_l, live_l, isl, py_int, py_bl, py_non, py_str, py_oi, py_lst, py_tup, py_scr, py_ints, py_bls, py_ois, py_row, py_rows, py_ref, ev_int, ev_bl, ev_str, ev_oi, ev_oI, ev_Io, ev_oN, ev_No, ev_ints, ev_row, ev_ois, ev_rows, non_oi, cut_map, ← List.map_take, ← List.map_drop, List.getElem?_cons_zero, List.getElem?_cons_succ, List.set_cons_zero, List.set_cons_succ, List.foldl_cons, List.foldl_nil, List.map_cons, List.map_nil, List.length_cons, List.length_nil, List.replicate, List.cons_append, List.nil_append, exists_eq_left, exists_eq_left', D.bl.injEq, D.int.injEq, D.tup.injEq, decide_eq_true_eq, decide_eq_false_iff_not, true_and, and_true, true_implies, List.length_map, fr_ref, fr_ints, fr_ois, fr_rows, fr_int, fr_lst, fr_row, fr_oi, fr_bl, fr_non, fr_cons, fr_nil, fr_tup, Fl.rt.injEq, Fl.nx.injEq, ex_neg, ex_neg', Bool.not_eq_true', Bool.not_eq_false', Bool.not_not, wipeE, omap_cons, omap_nil, at_0, at_1, at_2, oi_some, oi_none, oP_some, oP_none, Option.some.injEq, end_get, end_set, beq_self_eq_true, bne_self_eq_false, tn, tn0, tn1, fitL, mL, mR, nc, nc0, nc1, c_ltT, c_gtT, c_leT, ev_tup, ev_listc, ev_cons, ev_nil, ev_list0, ev_0list, c_inT, c_ninT, LIM, Int.zero_add, gc_id, Nat.le_refl, Option.map_some, Option.bind_some, isi_s, ty_int, ty_bl, ty_non, ty_lst, ty_tup, ty_str, ty_ref, ty_cl, ty_oi, isTy, Int.reduceLE, Int.reduceLT, Int.reducePow, Int.reduceAdd, Int.reduceSub, Int.reduceMul, Int.reduceNeg, Int.reduceEq, Int.reduceGT, Int.reduceGE, Int.reduceNe, Nat.reduceAdd, Nat.reduceSub, Nat.reduceLT, Nat.reduceLeDiff, Nat.reduceMul, Nat.reducePow, Nat.reduceBEq, Nat.reduceEqDiff, Int.reduceToNat, Bool.not_eq_true, Bool.not_true, Bool.not_false, Bool.not_eq_false, Bool.not_eq_eq_eq_not, reduceCtorEq, if_true, if_false, false_implies, Bool.false_eq_true, Bool.true_eq_false, and_self, not_true, not_false_iff, implies_true, forall_const, true_or, or_true, and_false, false_and, ge_iff_le, gt_iff_lt, cl_pairs, g_s, p_gT, p_gF, Bool.and_true, Bool.true_and, Bool.and_self, cl_ints, cl_bls, cl_oi, cl_ois, cl_row, cl_rows, cl_drow, cl_drows, cl_app, cl_lst, cl_cons, cl_nil, cl_int, cl_bl, cl_non, cl_str, cl_tup, fit, mfit, rt_pairs, sh_pairs, rt_bl, rt_non, rt_str, rt_tup, sh_non, sh_str, sh_tup, rt_ints, rt_oi, rt_ois, rt_row, rt_rows, rt_drow, rt_drows, rt_ref, rt_int, rt_cell, rt_cons, rt_nil, rt_lst, rt_app, p_gF, List.all_cons, List.all_nil, sh_ints, sh_oi, sh_ois, sh_row, sh_rows, sh_drow, sh_drows, sh_ref, sh_int, sh_bl, sh_cell, sh_cons, sh_nil, sh_lst, Nat.zero_add, Nat.add_zero, kt2, tz]
  refine ⟨⟨by omega, by omega⟩, ?_⟩
  rw [o_cons]
  simp (disch := decide) only [ev_00, fr_pair, fr_pairs, py_pair, py_pairs, ev_pair, ev_pairs, ev_pairs0, anyPr, p_minR, p_maxR, p_sumR, p_allR, p_anyR, p_sortedR, o_nil, o_ret, o_expr, o_set, o_asg, o_ife, o_setIx, o_aug, o_augIx, o_kill, o_pass, o_retN, seqP_nx, seqP_rt, o_var, o_int, o_bl, o_non, o_str, o_cst, o_bin, o_neg, o_cmp, o_chain, o_isN, o_notN, o_and, o_or, o_and1, o_or1, o_and2, o_or2, o_not, o_lst, o_tup, o_ix, o_slice, o_part0, o_part1, o_call, o_bi, o_isi, o_frz, o_isB, o_lrg, p_isB, p_lrg1, p_lrg2, o_rev, o_par, p_revL, p_revS, p_revR, ← List.map_reverse, o_mth0, o_mth, o_evs0, o_evs1, o_slst, o_stup, o_rng, o_enum, o_zip, o_enumT, o_lset, o_srtP, p_enumT, p_lset, p_srtP, p_listT, p_tupL, p_sliceT, p_divmod, p_var, v_0, v_s, p_add, p_addL, p_addT, p_sub, p_mul, p_mulL, p_div, p_mod, p_pow, p_neg, p_alF, p_alT, p_lst, p_tup, p_not, p_cmp, c_eq, c_ne, c_lt, c_gt, c_le, c_ge, c_in, c_nin, anyI, ev_ints0, ev_row0, ev_0ints, ev_ois0, p_isN, p_notN, p_ix, p_ixT, p_ixS, p_ixR, at_m, p_len, p_lenT, p_lenS, p_lenR, p_list, p_listS, p_listR, p_slice, p_allM, p_anyM, p_sumM, p_all, p_any, p_sum, p_max2, p_min2, p_remove, p_sorted, ints_snoc, ints_map, p_index, isl_l, py_drow, py_drows, ev_drow, ev_drows, fr_drow, fr_drows, p_sliceS, p_sliceR, p_src, p_srcS, p_srcT, p_srcR, src_l, src_f, p_rng1, p_rng2, p_enum, p_zip, p_app, p_pop, p_clear, p_rev, p_ext, p_ins, p_popAt, p_set, p_isi, p_frz, a_add, a_sub, a_mul, ixL, ixLR, cell_l, live_l, isl, py_int, py_bl, py_non, py_str, py_oi, py_lst, py_tup, py_scr, py_ints, py_bls, py_ois, py_row, py_rows, py_ref, ev_int, ev_bl, ev_str, ev_oi, ev_oI, ev_Io, ev_oN, ev_No, ev_ints, ev_row, ev_ois, ev_rows, non_oi, cut_map, ← List.map_take, ← List.map_drop, List.getElem?_cons_zero, List.getElem?_cons_succ, List.set_cons_zero, List.set_cons_succ, List.foldl_cons, List.foldl_nil, List.map_cons, List.map_nil, List.length_cons, List.length_nil, List.replicate, List.cons_append, List.nil_append, exists_eq_left, exists_eq_left', D.bl.injEq, D.int.injEq, D.tup.injEq, decide_eq_true_eq, decide_eq_false_iff_not, true_and, and_true, true_implies, List.length_map, fr_ref, fr_ints, fr_ois, fr_rows, fr_int, fr_lst, fr_row, fr_oi, fr_bl, fr_non, fr_cons, fr_nil, fr_tup, Fl.rt.injEq, Fl.nx.injEq, ex_neg, ex_neg', Bool.not_eq_true', Bool.not_eq_false', Bool.not_not, wipeE, omap_cons, omap_nil, at_0, at_1, at_2, oi_some, oi_none, oP_some, oP_none, Option.some.injEq, end_get, end_set, beq_self_eq_true, bne_self_eq_false, tn, tn0, tn1, fitL, mL, mR, nc, nc0, nc1, c_ltT, c_gtT, c_leT, ev_tup, ev_listc, ev_cons, ev_nil, ev_list0, ev_0list, c_inT, c_ninT, LIM, Int.zero_add, gc_id, Nat.le_refl, Option.map_some, Option.bind_some, isi_s, ty_int, ty_bl, ty_non, ty_lst, ty_tup, ty_str, ty_ref, ty_cl, ty_oi, isTy, Int.reduceLE, Int.reduceLT, Int.reducePow, Int.reduceAdd, Int.reduceSub, Int.reduceMul, Int.reduceNeg, Int.reduceEq, Int.reduceGT, Int.reduceGE, Int.reduceNe, Nat.reduceAdd, Nat.reduceSub, Nat.reduceLT, Nat.reduceLeDiff, Nat.reduceMul, Nat.reducePow, Nat.reduceBEq, Nat.reduceEqDiff, Int.reduceToNat, Bool.not_eq_true, Bool.not_true, Bool.not_false, Bool.not_eq_false, Bool.not_eq_eq_eq_not, reduceCtorEq, if_true, if_false, false_implies, Bool.false_eq_true, Bool.true_eq_false, and_self, not_true, not_false_iff, implies_true, forall_const, true_or, or_true, and_false, false_and, ge_iff_le, gt_iff_lt, cl_pairs, g_s, p_gT, p_gF, Bool.and_true, Bool.true_and, Bool.and_self, cl_ints, cl_bls, cl_oi, cl_ois, cl_row, cl_rows, cl_drow, cl_drows, cl_app, cl_lst, cl_cons, cl_nil, cl_int, cl_bl, cl_non, cl_str, cl_tup, fit, mfit, rt_pairs, sh_pairs, rt_bl, rt_non, rt_str, rt_tup, sh_non, sh_str, sh_tup, rt_ints, rt_oi, rt_ois, rt_row, rt_rows, rt_drow, rt_drows, rt_ref, rt_int, rt_cell, rt_cons, rt_nil, rt_lst, rt_app, p_gF, List.all_cons, List.all_nil, sh_ints, sh_oi, sh_ois, sh_row, sh_rows, sh_drow, sh_drows, sh_ref, sh_int, sh_bl, sh_cell, sh_cons, sh_nil, sh_lst, Nat.zero_add, Nat.add_zero]
  rw [o_cons]
  simp (disch := decide) only [ev_00, fr_pair, fr_pairs, py_pair, py_pairs, ev_pair, ev_pairs, ev_pairs0, anyPr, p_minR, p_maxR, p_sumR, p_allR, p_anyR, p_sortedR, o_nil, o_ret, o_expr, o_set, o_asg, o_ife, o_setIx, o_aug, o_augIx, o_kill, o_pass, o_retN, seqP_nx, seqP_rt, o_var, o_int, o_bl, o_non, o_str, o_cst, o_bin, o_neg, o_cmp, o_chain, o_isN, o_notN, o_and, o_or, o_and1, o_or1, o_and2, o_or2, o_not, o_lst, o_tup, o_ix, o_slice, o_part0, o_part1, o_call, o_bi, o_isi, o_frz, o_isB, o_lrg, p_isB, p_lrg1, p_lrg2, o_rev, o_par, p_revL, p_revS, p_revR, ← List.map_reverse, o_mth0, o_mth, o_evs0, o_evs1, o_slst, o_stup, o_rng, o_enum, o_zip, o_enumT, o_lset, o_srtP, p_enumT, p_lset, p_srtP, p_listT, p_tupL, p_sliceT, p_divmod, p_var, v_0, v_s, p_add, p_addL, p_addT, p_sub, p_mul, p_mulL, p_div, p_mod, p_pow, p_neg, p_alF, p_alT, p_lst, p_tup, p_not, p_cmp, c_eq, c_ne, c_lt, c_gt, c_le, c_ge, c_in, c_nin, anyI, ev_ints0, ev_row0, ev_0ints, ev_ois0, p_isN, p_notN, p_ix, p_ixT, p_ixS, p_ixR, at_m, p_len, p_lenT, p_lenS, p_lenR, p_list, p_listS, p_listR, p_slice, p_allM, p_anyM, p_sumM, p_all, p_any, p_sum, p_max2, p_min2, p_remove, p_sorted, ints_snoc, ints_map, p_index, isl_l, py_drow, py_drows, ev_drow, ev_drows, fr_drow, fr_drows, p_sliceS, p_sliceR, p_src, p_srcS, p_srcT, p_srcR, src_l, src_f, p_rng1, p_rng2, p_enum, p_zip, p_app, p_pop, p_clear, p_rev, p_ext, p_ins, p_popAt, p_set, p_isi, p_frz, a_add, a_sub, a_mul, ixL, ixLR, cell_l, live_l, isl, py_int, py_bl, py_non, py_str, py_oi, py_lst, py_tup, py_scr, py_ints, py_bls, py_ois, py_row, py_rows, py_ref, ev_int, ev_bl, ev_str, ev_oi, ev_oI, ev_Io, ev_oN, ev_No, ev_ints, ev_row, ev_ois, ev_rows, non_oi, cut_map, ← List.map_take, ← List.map_drop, List.getElem?_cons_zero, List.getElem?_cons_succ, List.set_cons_zero, List.set_cons_succ, List.foldl_cons, List.foldl_nil, List.map_cons, List.map_nil, List.length_cons, List.length_nil, List.replicate, List.cons_append, List.nil_append, exists_eq_left, exists_eq_left', D.bl.injEq, D.int.injEq, D.tup.injEq, decide_eq_true_eq, decide_eq_false_iff_not, true_and, and_true, true_implies, List.length_map, fr_ref, fr_ints, fr_ois, fr_rows, fr_int, fr_lst, fr_row, fr_oi, fr_bl, fr_non, fr_cons, fr_nil, fr_tup, Fl.rt.injEq, Fl.nx.injEq, ex_neg, ex_neg', Bool.not_eq_true', Bool.not_eq_false', Bool.not_not, wipeE, omap_cons, omap_nil, at_0, at_1, at_2, oi_some, oi_none, oP_some, oP_none, Option.some.injEq, end_get, end_set, beq_self_eq_true, bne_self_eq_false, tn, tn0, tn1, fitL, mL, mR, nc, nc0, nc1, c_ltT, c_gtT, c_leT, ev_tup, ev_listc, ev_cons, ev_nil, ev_list0, ev_0list, c_inT, c_ninT, LIM, Int.zero_add, gc_id, Nat.le_refl, Option.map_some, Option.bind_some, isi_s, ty_int, ty_bl, ty_non, ty_lst, ty_tup, ty_str, ty_ref, ty_cl, ty_oi, isTy, Int.reduceLE, Int.reduceLT, Int.reducePow, Int.reduceAdd, Int.reduceSub, Int.reduceMul, Int.reduceNeg, Int.reduceEq, Int.reduceGT, Int.reduceGE, Int.reduceNe, Nat.reduceAdd, Nat.reduceSub, Nat.reduceLT, Nat.reduceLeDiff, Nat.reduceMul, Nat.reducePow, Nat.reduceBEq, Nat.reduceEqDiff, Int.reduceToNat, Bool.not_eq_true, Bool.not_true, Bool.not_false, Bool.not_eq_false, Bool.not_eq_eq_eq_not, reduceCtorEq, if_true, if_false, false_implies, Bool.false_eq_true, Bool.true_eq_false, and_self, not_true, not_false_iff, implies_true, forall_const, true_or, or_true, and_false, false_and, ge_iff_le, gt_iff_lt, cl_pairs, g_s, p_gT, p_gF, Bool.and_true, Bool.true_and, Bool.and_self, cl_ints, cl_bls, cl_oi, cl_ois, cl_row, cl_rows, cl_drow, cl_drows, cl_app, cl_lst, cl_cons, cl_nil, cl_int, cl_bl, cl_non, cl_str, cl_tup, fit, mfit, rt_pairs, sh_pairs, rt_bl, rt_non, rt_str, rt_tup, sh_non, sh_str, sh_tup, rt_ints, rt_oi, rt_ois, rt_row, rt_rows, rt_drow, rt_drows, rt_ref, rt_int, rt_cell, rt_cons, rt_nil, rt_lst, rt_app, p_gF, List.all_cons, List.all_nil, sh_ints, sh_oi, sh_ois, sh_row, sh_rows, sh_drow, sh_drows, sh_ref, sh_int, sh_bl, sh_cell, sh_cons, sh_nil, sh_lst, Nat.zero_add, Nat.add_zero]
  have el : ∀ k, k ≤ m → (turnSt t m (hsSeq os n k)).1.length = m ∧ (heap (turnSt t m (hsSeq os n k)).1 none).length + k = m := fun k hk => by
    have := turnSt_left t m (hsSeq os n k) (by rw [hsSeq_len]; exact hk)
    rwa [hsSeq_len] at this
  have pl : ∀ k, (turnSt t m (hsSeq os n k)).2.length = k := fun k => by
    induction k with
    | zero => simp [hsSeq, turnSt]
    | succ k ih =>
      rw [hsSeq_snoc, turnSt_snoc]
      unfold pickSt
      simp [ih]
  rw [o_cons]
  refine o_wh 3 (fun v e m' => ∃ q k : Nat, v = m - k ∧ k ≤ m ∧ (k = n * q ∨ k = m) ∧ e = [some ((D.lst true (List.map (row true) t))), some (.lst b (os.map (row b))), none, some (.ref 0), some (.ref 1), some (.ref 2), some (.int q), none, none] ∧ m' = [(Cell.lst .live (List.map oi ((turnSt t m (hsSeq os n k)).1))), (Cell.lst .live (List.map D.int (heap (turnSt t m (hsSeq os n k)).1 none))), .lst .live ((turnSt t m (hsSeq os n k)).2.map pairD)]) m (by omega) ?_ ?_ ?_
  · simp
  · refine ⟨0, 0, by simp, by omega, .inl (by simp), rfl, ?_⟩
    simp [hsSeq, turnSt, heap_rep0]
  · rintro v e m' ⟨q, k, rfl, hk, hq, rfl, rfl⟩
    obtain ⟨e1, e2⟩ := el k hk
    simp (disch := decide) only [ev_00, fr_pair, fr_pairs, py_pair, py_pairs, ev_pair, ev_pairs, ev_pairs0, anyPr, p_minR, p_maxR, p_sumR, p_allR, p_anyR, p_sortedR, o_nil, o_cons, o_ret, o_expr, o_set, o_asg, o_ife, o_setIx, o_aug, o_augIx, o_kill, o_pass, o_retN, seqP_nx, seqP_rt, o_var, o_int, o_bl, o_non, o_str, o_cst, o_bin, o_neg, o_cmp, o_chain, o_isN, o_notN, o_and, o_or, o_and1, o_or1, o_and2, o_or2, o_not, o_lst, o_tup, o_ix, o_slice, o_part0, o_part1, o_call, o_bi, o_isi, o_frz, o_isB, o_lrg, p_isB, p_lrg1, p_lrg2, o_rev, o_par, p_revL, p_revS, p_revR, ← List.map_reverse, o_mth0, o_mth, o_evs0, o_evs1, o_slst, o_stup, o_rng, o_enum, o_zip, o_enumT, o_lset, o_srtP, p_enumT, p_lset, p_srtP, p_listT, p_tupL, p_sliceT, p_divmod, p_var, v_0, v_s, p_add, p_addL, p_addT, p_sub, p_mul, p_mulL, p_div, p_mod, p_pow, p_neg, p_alF, p_alT, p_lst, p_tup, p_not, p_cmp, c_eq, c_ne, c_lt, c_gt, c_le, c_ge, c_in, c_nin, anyI, ev_ints0, ev_row0, ev_0ints, ev_ois0, p_isN, p_notN, p_ix, p_ixT, p_ixS, p_ixR, at_m, p_len, p_lenT, p_lenS, p_lenR, p_list, p_listS, p_listR, p_slice, p_allM, p_anyM, p_sumM, p_all, p_any, p_sum, p_max2, p_min2, p_remove, p_sorted, ints_snoc, ints_map, p_index, isl_l, py_drow, py_drows, ev_drow, ev_drows, fr_drow, fr_drows, p_sliceS, p_sliceR, p_src, p_srcS, p_srcT, p_srcR, src_l, src_f, p_rng1, p_rng2, p_enum, p_zip, p_app, p_pop, p_clear, p_rev, p_ext, p_ins, p_popAt, p_set, p_isi, p_frz, a_add, a_sub, a_mul, ixL, ixLR, cell_l, live_l, isl, py_int, py_bl, py_non, py_str, py_oi, py_lst, py_tup, py_scr, py_ints, py_bls, py_ois, py_row, py_rows, py_ref, ev_int, ev_bl, ev_str, ev_oi, ev_oI, ev_Io, ev_oN, ev_No, ev_ints, ev_row, ev_ois, ev_rows, non_oi, cut_map, ← List.map_take, ← List.map_drop, List.getElem?_cons_zero, List.getElem?_cons_succ, List.set_cons_zero, List.set_cons_succ, List.foldl_cons, List.foldl_nil, List.map_cons, List.map_nil, List.length_cons, List.length_nil, List.replicate, List.cons_append, List.nil_append, exists_eq_left, exists_eq_left', D.bl.injEq, D.int.injEq, D.tup.injEq, decide_eq_true_eq, decide_eq_false_iff_not, true_and, and_true, true_implies, List.length_map, fr_ref, fr_ints, fr_ois, fr_rows, fr_int, fr_lst, fr_row, fr_oi, fr_bl, fr_non, fr_cons, fr_nil, fr_tup, Fl.rt.injEq, Fl.nx.injEq, ex_neg, ex_neg', Bool.not_eq_true', Bool.not_eq_false', Bool.not_not, wipeE, omap_cons, omap_nil, at_0, at_1, at_2, oi_some, oi_none, oP_some, oP_none, Option.some.injEq, end_get, end_set, beq_self_eq_true, bne_self_eq_false, tn, tn0, tn1, fitL, mL, mR, nc, nc0, nc1, c_ltT, c_gtT, c_leT, ev_tup, ev_listc, ev_cons, ev_nil, ev_list0, ev_0list, c_inT, c_ninT, LIM, Int.zero_add, gc_id, Nat.le_refl, Option.map_some, Option.bind_some, isi_s, ty_int, ty_bl, ty_non, ty_lst, ty_tup, ty_str, ty_ref, ty_cl, ty_oi, isTy, Int.reduceLE, Int.reduceLT, Int.reducePow, Int.reduceAdd, Int.reduceSub, Int.reduceMul, Int.reduceNeg, Int.reduceEq, Int.reduceGT, Int.reduceGE, Int.reduceNe, Nat.reduceAdd, Nat.reduceSub, Nat.reduceLT, Nat.reduceLeDiff, Nat.reduceMul, Nat.reducePow, Nat.reduceBEq, Nat.reduceEqDiff, Int.reduceToNat, Bool.not_eq_true, Bool.not_true, Bool.not_false, Bool.not_eq_false, Bool.not_eq_eq_eq_not, reduceCtorEq, if_true, if_false, false_implies, Bool.false_eq_true, Bool.true_eq_false, and_self, not_true, not_false_iff, implies_true, forall_const, true_or, or_true, and_false, false_and, ge_iff_le, gt_iff_lt, cl_pairs, g_s, p_gT, p_gF, Bool.and_true, Bool.true_and, Bool.and_self, cl_ints, cl_bls, cl_oi, cl_ois, cl_row, cl_rows, cl_drow, cl_drows, cl_app, cl_lst, cl_cons, cl_nil, cl_int, cl_bl, cl_non, cl_str, cl_tup, fit, mfit, rt_pairs, sh_pairs, rt_bl, rt_non, rt_str, rt_tup, sh_non, sh_str, sh_tup, rt_ints, rt_oi, rt_ois, rt_row, rt_rows, rt_drow, rt_drows, rt_ref, rt_int, rt_cell, rt_cons, rt_nil, rt_lst, rt_app, p_gF, List.all_cons, List.all_nil, sh_ints, sh_oi, sh_ois, sh_row, sh_rows, sh_drow, sh_drows, sh_ref, sh_int, sh_bl, sh_cell, sh_cons, sh_nil, sh_lst, Nat.zero_add, Nat.add_zero]
    refine ⟨fun z => ?_, fun z => ?_⟩
    · have : k = m := by omega
      subst this
      simp (disch := decide) only [ev_00, fr_pair, fr_pairs, py_pair, py_pairs, ev_pair, ev_pairs, ev_pairs0, anyPr, p_minR, p_maxR, p_sumR, p_allR, p_anyR, p_sortedR, o_nil, o_cons, o_ret, o_expr, o_set, o_asg, o_ife, o_setIx, o_aug, o_augIx, o_kill, o_pass, o_retN, seqP_nx, seqP_rt, o_var, o_int, o_bl, o_non, o_str, o_cst, o_bin, o_neg, o_cmp, o_chain, o_isN, o_notN, o_and, o_or, o_and1, o_or1, o_and2, o_or2, o_not, o_lst, o_tup, o_ix, o_slice, o_part0, o_part1, o_call, o_bi, o_isi, o_frz, o_isB, o_lrg, p_isB, p_lrg1, p_lrg2, o_rev, o_par, p_revL, p_revS, p_revR, ← List.map_reverse, o_mth0, o_mth, o_evs0, o_evs1, o_slst, o_stup, o_rng, o_enum, o_zip, o_enumT, o_lset, o_srtP, p_enumT, p_lset, p_srtP, p_listT, p_tupL, p_sliceT, p_divmod, p_var, v_0, v_s, p_add, p_addL, p_addT, p_sub, p_mul, p_mulL, p_div, p_mod, p_pow, p_neg, p_alF, p_alT, p_lst, p_tup, p_not, p_cmp, c_eq, c_ne, c_lt, c_gt, c_le, c_ge, c_in, c_nin, anyI, ev_ints0, ev_row0, ev_0ints, ev_ois0, p_isN, p_notN, p_ix, p_ixT, p_ixS, p_ixR, at_m, p_len, p_lenT, p_lenS, p_lenR, p_list, p_listS, p_listR, p_slice, p_allM, p_anyM, p_sumM, p_all, p_any, p_sum, p_max2, p_min2, p_remove, p_sorted, ints_snoc, ints_map, p_index, isl_l, py_drow, py_drows, ev_drow, ev_drows, fr_drow, fr_drows, p_sliceS, p_sliceR, p_src, p_srcS, p_srcT, p_srcR, src_l, src_f, p_rng1, p_rng2, p_enum, p_zip, p_app, p_pop, p_clear, p_rev, p_ext, p_ins, p_popAt, p_set, p_isi, p_frz, a_add, a_sub, a_mul, ixL, ixLR, cell_l, live_l, isl, py_int, py_bl, py_non, py_str, py_oi, py_lst, py_tup, py_scr, py_ints, py_bls, py_ois, py_row, py_rows, py_ref, ev_int, ev_bl, ev_str, ev_oi, ev_oI, ev_Io, ev_oN, ev_No, ev_ints, ev_row, ev_ois, ev_rows, non_oi, cut_map, ← List.map_take, ← List.map_drop, List.getElem?_cons_zero, List.getElem?_cons_succ, List.set_cons_zero, List.set_cons_succ, List.foldl_cons, List.foldl_nil, List.map_cons, List.map_nil, List.length_cons, List.length_nil, List.replicate, List.cons_append, List.nil_append, exists_eq_left, exists_eq_left', D.bl.injEq, D.int.injEq, D.tup.injEq, decide_eq_true_eq, decide_eq_false_iff_not, true_and, and_true, true_implies, List.length_map, fr_ref, fr_ints, fr_ois, fr_rows, fr_int, fr_lst, fr_row, fr_oi, fr_bl, fr_non, fr_cons, fr_nil, fr_tup, Fl.rt.injEq, Fl.nx.injEq, ex_neg, ex_neg', Bool.not_eq_true', Bool.not_eq_false', Bool.not_not, wipeE, omap_cons, omap_nil, at_0, at_1, at_2, oi_some, oi_none, oP_some, oP_none, Option.some.injEq, end_get, end_set, beq_self_eq_true, bne_self_eq_false, tn, tn0, tn1, fitL, mL, mR, nc, nc0, nc1, c_ltT, c_gtT, c_leT, ev_tup, ev_listc, ev_cons, ev_nil, ev_list0, ev_0list, c_inT, c_ninT, LIM, Int.zero_add, gc_id, Nat.le_refl, Option.map_some, Option.bind_some, isi_s, ty_int, ty_bl, ty_non, ty_lst, ty_tup, ty_str, ty_ref, ty_cl, ty_oi, isTy, Int.reduceLE, Int.reduceLT, Int.reducePow, Int.reduceAdd, Int.reduceSub, Int.reduceMul, Int.reduceNeg, Int.reduceEq, Int.reduceGT, Int.reduceGE, Int.reduceNe, Nat.reduceAdd, Nat.reduceSub, Nat.reduceLT, Nat.reduceLeDiff, Nat.reduceMul, Nat.reducePow, Nat.reduceBEq, Nat.reduceEqDiff, Int.reduceToNat, Bool.not_eq_true, Bool.not_true, Bool.not_false, Bool.not_eq_false, Bool.not_eq_eq_eq_not, reduceCtorEq, if_true, if_false, false_implies, Bool.false_eq_true, Bool.true_eq_false, and_self, not_true, not_false_iff, implies_true, forall_const, true_or, or_true, and_false, false_and, ge_iff_le, gt_iff_lt, cl_pairs, g_s, p_gT, p_gF, Bool.and_true, Bool.true_and, Bool.and_self, cl_ints, cl_bls, cl_oi, cl_ois, cl_row, cl_rows, cl_drow, cl_drows, cl_app, cl_lst, cl_cons, cl_nil, cl_int, cl_bl, cl_non, cl_str, cl_tup, fit, mfit, rt_pairs, sh_pairs, rt_bl, rt_non, rt_str, rt_tup, sh_non, sh_str, sh_tup, rt_ints, rt_oi, rt_ois, rt_row, rt_rows, rt_drow, rt_drows, rt_ref, rt_int, rt_cell, rt_cons, rt_nil, rt_lst, rt_app, p_gF, List.all_cons, List.all_nil, sh_ints, sh_oi, sh_ois, sh_row, sh_rows, sh_drow, sh_drows, sh_ref, sh_int, sh_bl, sh_cell, sh_cons, sh_nil, sh_lst, Nat.zero_add, Nat.add_zero]
    · have hkn : k = n * q := by omega
      have ho' : L2.atI os ((q : Int) % os.length) = some (rowAt os ((q % os.length : Nat) : Int)) ∧ rowAt os ((q % os.length : Nat) : Int) ∈ os := by
        have hlt : q % os.length < os.length := Nat.mod_lt _ op
        have h2 : rowAt os ((q % os.length : Nat) : Int) = os[q % os.length] := by
          unfold rowAt
          rw [List.getD_eq_getElem?_getD, Int.toNat_natCast, List.getElem?_eq_getElem hlt]
          rfl
        rw [h2]
        refine ⟨?_, List.getElem_mem hlt⟩
        rw [← Int.natCast_emod, atI_pos (by omega) (by omega)]
        simp only [Int.toNat_natCast]
      have oro := olen _ ho'.2
      have oat : ∀ i, i < n → hsAt os n (k + i) = pick (rowAt os ((q % os.length : Nat) : Int)) i := fun i hi => by
        unfold hsAt
        rw [hkn, Nat.mul_add_div (by omega), Nat.div_eq_of_lt hi, Nat.mul_add_mod, Nat.mod_eq_of_lt hi, Nat.add_zero]
      generalize rowAt os ((q % os.length : Nat) : Int) = o at ho' oro oat
      refine o_for (xs := o.take (m - k)) (f := D.int) 3 (fun i e m' => e = [some ((D.lst true (List.map (row true) t))), some (.lst b (os.map (row b))), none, some (.ref 0), some (.ref 1), some (.ref 2), some (.int q), none, none] ∧ m' = [(Cell.lst .live (List.map oi ((turnSt t m (hsSeq os n (k + i))).1))), (Cell.lst .live (List.map D.int (heap (turnSt t m (hsSeq os n (k + i))).1 none))), .lst .live ((turnSt t m (hsSeq os n (k + i))).2.map pairD)]) ?_ ?_ ?_
      · simp (disch := decide) only [ev_00, fr_pair, fr_pairs, py_pair, py_pairs, ev_pair, ev_pairs, ev_pairs0, anyPr, p_minR, p_maxR, p_sumR, p_allR, p_anyR, p_sortedR, o_nil, o_cons, o_ret, o_expr, o_set, o_asg, o_ife, o_setIx, o_aug, o_augIx, o_kill, o_pass, o_retN, seqP_nx, seqP_rt, o_var, o_int, o_bl, o_non, o_str, o_cst, o_bin, o_neg, o_cmp, o_chain, o_isN, o_notN, o_and, o_or, o_and1, o_or1, o_and2, o_or2, o_not, o_lst, o_tup, o_ix, o_slice, o_part0, o_part1, o_call, o_bi, o_isi, o_frz, o_isB, o_lrg, p_isB, p_lrg1, p_lrg2, o_rev, o_par, p_revL, p_revS, p_revR, ← List.map_reverse, o_mth0, o_mth, o_evs0, o_evs1, o_slst, o_stup, o_rng, o_enum, o_zip, o_enumT, o_lset, o_srtP, p_enumT, p_lset, p_srtP, p_listT, p_tupL, p_sliceT, p_divmod, p_var, v_0, v_s, p_add, p_addL, p_addT, p_sub, p_mul, p_mulL, p_div, p_mod, p_pow, p_neg, p_alF, p_alT, p_lst, p_tup, p_not, p_cmp, c_eq, c_ne, c_lt, c_gt, c_le, c_ge, c_in, c_nin, anyI, ev_ints0, ev_row0, ev_0ints, ev_ois0, p_isN, p_notN, p_ix, p_ixT, p_ixS, p_ixR, at_m, p_len, p_lenT, p_lenS, p_lenR, p_list, p_listS, p_listR, p_slice, p_allM, p_anyM, p_sumM, p_all, p_any, p_sum, p_max2, p_min2, p_remove, p_sorted, ints_snoc, ints_map, p_index, isl_l, py_drow, py_drows, ev_drow, ev_drows, fr_drow, fr_drows, p_sliceS, p_sliceR, p_src, p_srcS, p_srcT, p_srcR, src_l, src_f, p_rng1, p_rng2, p_enum, p_zip, p_app, p_pop, p_clear, p_rev, p_ext, p_ins, p_popAt, p_set, p_isi, p_frz, a_add, a_sub, a_mul, ixL, ixLR, cell_l, live_l, isl, py_int, py_bl, py_non, py_str, py_oi, py_lst, py_tup, py_scr, py_ints, py_bls, py_ois, py_row, py_rows, py_ref, ev_int, ev_bl, ev_str, ev_oi, ev_oI, ev_Io, ev_oN, ev_No, ev_ints, ev_row, ev_ois, ev_rows, non_oi, cut_map, ← List.map_take, ← List.map_drop, List.getElem?_cons_zero, List.getElem?_cons_succ, List.set_cons_zero, List.set_cons_succ, List.foldl_cons, List.foldl_nil, List.map_cons, List.map_nil, List.length_cons, List.length_nil, List.replicate, List.cons_append, List.nil_append, exists_eq_left, exists_eq_left', D.bl.injEq, D.int.injEq, D.tup.injEq, decide_eq_true_eq, decide_eq_false_iff_not, true_and, and_true, true_implies, List.length_map, fr_ref, fr_ints, fr_ois, fr_rows, fr_int, fr_lst, fr_row, fr_oi, fr_bl, fr_non, fr_cons, fr_nil, fr_tup, Fl.rt.injEq, Fl.nx.injEq, ex_neg, ex_neg', Bool.not_eq_true', Bool.not_eq_false', Bool.not_not, wipeE, omap_cons, omap_nil, at_0, at_1, at_2, oi_some, oi_none, oP_some, oP_none, Option.some.injEq, end_get, end_set, beq_self_eq_true, bne_self_eq_false, tn, tn0, tn1, fitL, mL, mR, nc, nc0, nc1, c_ltT, c_gtT, c_leT, ev_tup, ev_listc, ev_cons, ev_nil, ev_list0, ev_0list, c_inT, c_ninT, LIM, Int.zero_add, gc_id, Nat.le_refl, Option.map_some, Option.bind_some, isi_s, ty_int, ty_bl, ty_non, ty_lst, ty_tup, ty_str, ty_ref, ty_cl, ty_oi, isTy, Int.reduceLE, Int.reduceLT, Int.reducePow, Int.reduceAdd, Int.reduceSub, Int.reduceMul, Int.reduceNeg, Int.reduceEq, Int.reduceGT, Int.reduceGE, Int.reduceNe, Nat.reduceAdd, Nat.reduceSub, Nat.reduceLT, Nat.reduceLeDiff, Nat.reduceMul, Nat.reducePow, Nat.reduceBEq, Nat.reduceEqDiff, Int.reduceToNat, Bool.not_eq_true, Bool.not_true, Bool.not_false, Bool.not_eq_false, Bool.not_eq_eq_eq_not, reduceCtorEq, if_true, if_false, false_implies, Bool.false_eq_true, Bool.true_eq_false, and_self, not_true, not_false_iff, implies_true, forall_const, true_or, or_true, and_false, false_and, ge_iff_le, gt_iff_lt, cl_pairs, g_s, p_gT, p_gF, Bool.and_true, Bool.true_and, Bool.and_self, cl_ints, cl_bls, cl_oi, cl_ois, cl_row, cl_rows, cl_drow, cl_drows, cl_app, cl_lst, cl_cons, cl_nil, cl_int, cl_bl, cl_non, cl_str, cl_tup, fit, mfit, rt_pairs, sh_pairs, rt_bl, rt_non, rt_str, rt_tup, sh_non, sh_str, sh_tup, rt_ints, rt_oi, rt_ois, rt_row, rt_rows, rt_drow, rt_drows, rt_ref, rt_int, rt_cell, rt_cons, rt_nil, rt_lst, rt_app, p_gF, List.all_cons, List.all_nil, sh_ints, sh_oi, sh_ois, sh_row, sh_rows, sh_drow, sh_drows, sh_ref, sh_int, sh_bl, sh_cell, sh_cons, sh_nil, sh_lst, Nat.zero_add, Nat.add_zero]
        refine ⟨by omega, _, ho'.1, ?_⟩
        simp (disch := decide) only [ev_00, fr_pair, fr_pairs, py_pair, py_pairs, ev_pair, ev_pairs, ev_pairs0, anyPr, p_minR, p_maxR, p_sumR, p_allR, p_anyR, p_sortedR, o_nil, o_cons, o_ret, o_expr, o_set, o_asg, o_ife, o_setIx, o_aug, o_augIx, o_kill, o_pass, o_retN, seqP_nx, seqP_rt, o_var, o_int, o_bl, o_non, o_str, o_cst, o_bin, o_neg, o_cmp, o_chain, o_isN, o_notN, o_and, o_or, o_and1, o_or1, o_and2, o_or2, o_not, o_lst, o_tup, o_ix, o_slice, o_part0, o_part1, o_call, o_bi, o_isi, o_frz, o_isB, o_lrg, p_isB, p_lrg1, p_lrg2, o_rev, o_par, p_revL, p_revS, p_revR, ← List.map_reverse, o_mth0, o_mth, o_evs0, o_evs1, o_slst, o_stup, o_rng, o_enum, o_zip, o_enumT, o_lset, o_srtP, p_enumT, p_lset, p_srtP, p_listT, p_tupL, p_sliceT, p_divmod, p_var, v_0, v_s, p_add, p_addL, p_addT, p_sub, p_mul, p_mulL, p_div, p_mod, p_pow, p_neg, p_alF, p_alT, p_lst, p_tup, p_not, p_cmp, c_eq, c_ne, c_lt, c_gt, c_le, c_ge, c_in, c_nin, anyI, ev_ints0, ev_row0, ev_0ints, ev_ois0, p_isN, p_notN, p_ix, p_ixT, p_ixS, p_ixR, at_m, p_len, p_lenT, p_lenS, p_lenR, p_list, p_listS, p_listR, p_slice, p_allM, p_anyM, p_sumM, p_all, p_any, p_sum, p_max2, p_min2, p_remove, p_sorted, ints_snoc, ints_map, p_index, isl_l, py_drow, py_drows, ev_drow, ev_drows, fr_drow, fr_drows, p_sliceS, p_sliceR, p_src, p_srcS, p_srcT, p_srcR, src_l, src_f, p_rng1, p_rng2, p_enum, p_zip, p_app, p_pop, p_clear, p_rev, p_ext, p_ins, p_popAt, p_set, p_isi, p_frz, a_add, a_sub, a_mul, ixL, ixLR, cell_l, live_l, isl, py_int, py_bl, py_non, py_str, py_oi, py_lst, py_tup, py_scr, py_ints, py_bls, py_ois, py_row, py_rows, py_ref, ev_int, ev_bl, ev_str, ev_oi, ev_oI, ev_Io, ev_oN, ev_No, ev_ints, ev_row, ev_ois, ev_rows, non_oi, cut_map, ← List.map_take, ← List.map_drop, List.getElem?_cons_zero, List.getElem?_cons_succ, List.set_cons_zero, List.set_cons_succ, List.foldl_cons, List.foldl_nil, List.map_cons, List.map_nil, List.length_cons, List.length_nil, List.replicate, List.cons_append, List.nil_append, exists_eq_left, exists_eq_left', D.bl.injEq, D.int.injEq, D.tup.injEq, decide_eq_true_eq, decide_eq_false_iff_not, true_and, and_true, true_implies, List.length_map, fr_ref, fr_ints, fr_ois, fr_rows, fr_int, fr_lst, fr_row, fr_oi, fr_bl, fr_non, fr_cons, fr_nil, fr_tup, Fl.rt.injEq, Fl.nx.injEq, ex_neg, ex_neg', Bool.not_eq_true', Bool.not_eq_false', Bool.not_not, wipeE, omap_cons, omap_nil, at_0, at_1, at_2, oi_some, oi_none, oP_some, oP_none, Option.some.injEq, end_get, end_set, beq_self_eq_true, bne_self_eq_false, tn, tn0, tn1, fitL, mL, mR, nc, nc0, nc1, c_ltT, c_gtT, c_leT, ev_tup, ev_listc, ev_cons, ev_nil, ev_list0, ev_0list, c_inT, c_ninT, LIM, Int.zero_add, gc_id, Nat.le_refl, Option.map_some, Option.bind_some, isi_s, ty_int, ty_bl, ty_non, ty_lst, ty_tup, ty_str, ty_ref, ty_cl, ty_oi, isTy, Int.reduceLE, Int.reduceLT, Int.reducePow, Int.reduceAdd, Int.reduceSub, Int.reduceMul, Int.reduceNeg, Int.reduceEq, Int.reduceGT, Int.reduceGE, Int.reduceNe, Nat.reduceAdd, Nat.reduceSub, Nat.reduceLT, Nat.reduceLeDiff, Nat.reduceMul, Nat.reducePow, Nat.reduceBEq, Nat.reduceEqDiff, Int.reduceToNat, Bool.not_eq_true, Bool.not_true, Bool.not_false, Bool.not_eq_false, Bool.not_eq_eq_eq_not, reduceCtorEq, if_true, if_false, false_implies, Bool.false_eq_true, Bool.true_eq_false, and_self, not_true, not_false_iff, implies_true, forall_const, true_or, or_true, and_false, false_and, ge_iff_le, gt_iff_lt, cl_pairs, g_s, p_gT, p_gF, Bool.and_true, Bool.true_and, Bool.and_self, cl_ints, cl_bls, cl_oi, cl_ois, cl_row, cl_rows, cl_drow, cl_drows, cl_app, cl_lst, cl_cons, cl_nil, cl_int, cl_bl, cl_non, cl_str, cl_tup, fit, mfit, rt_pairs, sh_pairs, rt_bl, rt_non, rt_str, rt_tup, sh_non, sh_str, sh_tup, rt_ints, rt_oi, rt_ois, rt_row, rt_rows, rt_drow, rt_drows, rt_ref, rt_int, rt_cell, rt_cons, rt_nil, rt_lst, rt_app, p_gF, List.all_cons, List.all_nil, sh_ints, sh_oi, sh_ois, sh_row, sh_rows, sh_drow, sh_drows, sh_ref, sh_int, sh_bl, sh_cell, sh_cons, sh_nil, sh_lst, Nat.zero_add, Nat.add_zero, row, cut_take]
        rw [show (heap (turnSt t m (hsSeq os n k)).1 none).length = m - k by omega, cut_take _ (by omega), Int.toNat_natCast]
        try simp
      · rintro i hi e m' ⟨rfl, rfl⟩
        rw [List.length_take] at hi
        obtain ⟨f1, f2⟩ := el (k + i) (by omega)
        obtain ⟨f3, f4⟩ := el (k + (i + 1)) (by omega)
        have hne : heap (turnSt t m (hsSeq os n (k + i))).1 none ≠ [] := fun e => by
          rw [e] at f2
          simp at f2
          omega
        have hrng : 0 ≤ o[i] ∧ o[i] < n := by
          have := rgi_mem.mp ((ho o ho'.2).mem_iff.mp (List.getElem_mem (l := o) (n := i) (by omega)))
          omega
        have hnext : hsSeq os n (k + (i + 1)) = hsSeq os n (k + i) ++ [o[i]] := by
          rw [← Nat.add_assoc, hsSeq_snoc, oat i (by omega)]
          unfold pick
          rw [List.getD_eq_getElem?_getD, Int.toNat_natCast, List.getElem?_eq_getElem (by omega)]
          rfl
        have pli := pl (k + i)
        rw [hnext, turnSt_snoc] at f3 f4 ⊢
        rw [List.getElem_take]
        generalize o[i]'(by omega) = h at *
        obtain ⟨w1, w2, w3⟩ := T.at hrng.1 (by omega)
        obtain ⟨p0, p1, ⟨p2, p3⟩, p4, p5⟩ := pickOf_ok (t := t) h hne
        have kd := dearest_of (rowAt t h) (heap (turnSt t m (hsSeq os n (k + i))).1 none) hne (fun x hx => by have := heap_in f1 x hx; omega)
        rw [p0, Option.getD_some] at kd
        obtain ⟨j, j1, j2⟩ := heap_less (h := h) p2 p3
        unfold pickSt at f3 f4 ⊢
        generalize turnSt t m (hsSeq os n (k + i)) = s at *
        generalize pickOf t s.1 h = x at *
        have kd2 := fun  Q => call_eq (Γ := G_by_turns) (f := 151) (dn := 0) (fz := true) (ds := [row true (rowAt t h), .ref 1]) (μ := [(Cell.lst .live (List.map oi (s.1))), (Cell.lst .live (List.map D.int (heap s.1 none))), .lst .live (s.2.map pairD)]) (Q := Q) rfl (by simp only [B_dearest_of, le_pair, le_pairs, la_nil, la_t, la_f, Option.bind_some, Option.map_some, List.append_nil, List.replicate, le_int, le_bl, le_non, le_str, le_scr, le_oi, le_lst, le_tup, le_ints, le_bls, le_ois, le_row, le_rows, le_drow, le_drows, le_ref, cl_pairs, g_s, p_gT, p_gF, Bool.and_true, Bool.true_and, Bool.and_self, cl_ints, cl_bls, cl_oi, cl_ois, cl_row, cl_rows, cl_drow, cl_drows, cl_app, cl_lst, cl_cons, cl_nil, cl_int, cl_bl, cl_non, cl_str, cl_tup, List.getElem?_cons_zero, List.getElem?_cons_succ, le_ints, le_ois, le_rows, le_pairs] <;> rfl) rfl (kd)
        refine ⟨_, rfl, ?_⟩
        rw [o_cons]
        simp (disch := decide) only [ev_00, fr_pair, fr_pairs, py_pair, py_pairs, ev_pair, ev_pairs, ev_pairs0, anyPr, p_minR, p_maxR, p_sumR, p_allR, p_anyR, p_sortedR, o_nil, o_ret, o_expr, o_set, o_asg, o_ife, o_setIx, o_aug, o_augIx, o_kill, o_pass, o_retN, seqP_nx, seqP_rt, o_var, o_int, o_bl, o_non, o_str, o_cst, o_bin, o_neg, o_cmp, o_chain, o_isN, o_notN, o_and, o_or, o_and1, o_or1, o_and2, o_or2, o_not, o_lst, o_tup, o_ix, o_slice, o_part0, o_part1, o_call, o_bi, o_isi, o_frz, o_isB, o_lrg, p_isB, p_lrg1, p_lrg2, o_rev, o_par, p_revL, p_revS, p_revR, ← List.map_reverse, o_mth0, o_mth, o_evs0, o_evs1, o_slst, o_stup, o_rng, o_enum, o_zip, o_enumT, o_lset, o_srtP, p_enumT, p_lset, p_srtP, p_listT, p_tupL, p_sliceT, p_divmod, p_var, v_0, v_s, p_add, p_addL, p_addT, p_sub, p_mul, p_mulL, p_div, p_mod, p_pow, p_neg, p_alF, p_alT, p_lst, p_tup, p_not, p_cmp, c_eq, c_ne, c_lt, c_gt, c_le, c_ge, c_in, c_nin, anyI, ev_ints0, ev_row0, ev_0ints, ev_ois0, p_isN, p_notN, p_ix, p_ixT, p_ixS, p_ixR, at_m, p_len, p_lenT, p_lenS, p_lenR, p_list, p_listS, p_listR, p_slice, p_allM, p_anyM, p_sumM, p_all, p_any, p_sum, p_max2, p_min2, p_remove, p_sorted, ints_snoc, ints_map, p_index, isl_l, py_drow, py_drows, ev_drow, ev_drows, fr_drow, fr_drows, p_sliceS, p_sliceR, p_src, p_srcS, p_srcT, p_srcR, src_l, src_f, p_rng1, p_rng2, p_enum, p_zip, p_app, p_pop, p_clear, p_rev, p_ext, p_ins, p_popAt, p_set, p_isi, p_frz, a_add, a_sub, a_mul, ixL, ixLR, cell_l, live_l, isl, py_int, py_bl, py_non, py_str, py_oi, py_lst, py_tup, py_scr, py_ints, py_bls, py_ois, py_row, py_rows, py_ref, ev_int, ev_bl, ev_str, ev_oi, ev_oI, ev_Io, ev_oN, ev_No, ev_ints, ev_row, ev_ois, ev_rows, non_oi, cut_map, ← List.map_take, ← List.map_drop, List.getElem?_cons_zero, List.getElem?_cons_succ, List.set_cons_zero, List.set_cons_succ, List.foldl_cons, List.foldl_nil, List.map_cons, List.map_nil, List.length_cons, List.length_nil, List.replicate, List.cons_append, List.nil_append, exists_eq_left, exists_eq_left', D.bl.injEq, D.int.injEq, D.tup.injEq, decide_eq_true_eq, decide_eq_false_iff_not, true_and, and_true, true_implies, List.length_map, fr_ref, fr_ints, fr_ois, fr_rows, fr_int, fr_lst, fr_row, fr_oi, fr_bl, fr_non, fr_cons, fr_nil, fr_tup, Fl.rt.injEq, Fl.nx.injEq, ex_neg, ex_neg', Bool.not_eq_true', Bool.not_eq_false', Bool.not_not, wipeE, omap_cons, omap_nil, at_0, at_1, at_2, oi_some, oi_none, oP_some, oP_none, Option.some.injEq, end_get, end_set, beq_self_eq_true, bne_self_eq_false, tn, tn0, tn1, fitL, mL, mR, nc, nc0, nc1, c_ltT, c_gtT, c_leT, ev_tup, ev_listc, ev_cons, ev_nil, ev_list0, ev_0list, c_inT, c_ninT, LIM, Int.zero_add, gc_id, Nat.le_refl, Option.map_some, Option.bind_some, isi_s, ty_int, ty_bl, ty_non, ty_lst, ty_tup, ty_str, ty_ref, ty_cl, ty_oi, isTy, Int.reduceLE, Int.reduceLT, Int.reducePow, Int.reduceAdd, Int.reduceSub, Int.reduceMul, Int.reduceNeg, Int.reduceEq, Int.reduceGT, Int.reduceGE, Int.reduceNe, Nat.reduceAdd, Nat.reduceSub, Nat.reduceLT, Nat.reduceLeDiff, Nat.reduceMul, Nat.reducePow, Nat.reduceBEq, Nat.reduceEqDiff, Int.reduceToNat, Bool.not_eq_true, Bool.not_true, Bool.not_false, Bool.not_eq_false, Bool.not_eq_eq_eq_not, reduceCtorEq, if_true, if_false, false_implies, Bool.false_eq_true, Bool.true_eq_false, and_self, not_true, not_false_iff, implies_true, forall_const, true_or, or_true, and_false, false_and, ge_iff_le, gt_iff_lt, cl_pairs, g_s, p_gT, p_gF, Bool.and_true, Bool.true_and, Bool.and_self, cl_ints, cl_bls, cl_oi, cl_ois, cl_row, cl_rows, cl_drow, cl_drows, cl_app, cl_lst, cl_cons, cl_nil, cl_int, cl_bl, cl_non, cl_str, cl_tup, fit, mfit, rt_pairs, sh_pairs, rt_bl, rt_non, rt_str, rt_tup, sh_non, sh_str, sh_tup, rt_ints, rt_oi, rt_ois, rt_row, rt_rows, rt_drow, rt_drows, rt_ref, rt_int, rt_cell, rt_cons, rt_nil, rt_lst, rt_app, p_gF, List.all_cons, List.all_nil, sh_ints, sh_oi, sh_ois, sh_row, sh_rows, sh_drow, sh_drows, sh_ref, sh_int, sh_bl, sh_cell, sh_cons, sh_nil, sh_lst, Nat.zero_add, Nat.add_zero]
        refine ⟨_, w1, ?_⟩
        simp (disch := decide) only [ev_00, fr_pair, fr_pairs, py_pair, py_pairs, ev_pair, ev_pairs, ev_pairs0, anyPr, p_minR, p_maxR, p_sumR, p_allR, p_anyR, p_sortedR, o_nil, o_ret, o_expr, o_set, o_asg, o_ife, o_setIx, o_aug, o_augIx, o_kill, o_pass, o_retN, seqP_nx, seqP_rt, o_var, o_int, o_bl, o_non, o_str, o_cst, o_bin, o_neg, o_cmp, o_chain, o_isN, o_notN, o_and, o_or, o_and1, o_or1, o_and2, o_or2, o_not, o_lst, o_tup, o_ix, o_slice, o_part0, o_part1, o_call, o_bi, o_isi, o_frz, o_isB, o_lrg, p_isB, p_lrg1, p_lrg2, o_rev, o_par, p_revL, p_revS, p_revR, ← List.map_reverse, o_mth0, o_mth, o_evs0, o_evs1, o_slst, o_stup, o_rng, o_enum, o_zip, o_enumT, o_lset, o_srtP, p_enumT, p_lset, p_srtP, p_listT, p_tupL, p_sliceT, p_divmod, p_var, v_0, v_s, p_add, p_addL, p_addT, p_sub, p_mul, p_mulL, p_div, p_mod, p_pow, p_neg, p_alF, p_alT, p_lst, p_tup, p_not, p_cmp, c_eq, c_ne, c_lt, c_gt, c_le, c_ge, c_in, c_nin, anyI, ev_ints0, ev_row0, ev_0ints, ev_ois0, p_isN, p_notN, p_ix, p_ixT, p_ixS, p_ixR, at_m, p_len, p_lenT, p_lenS, p_lenR, p_list, p_listS, p_listR, p_slice, p_allM, p_anyM, p_sumM, p_all, p_any, p_sum, p_max2, p_min2, p_remove, p_sorted, ints_snoc, ints_map, p_index, isl_l, py_drow, py_drows, ev_drow, ev_drows, fr_drow, fr_drows, p_sliceS, p_sliceR, p_src, p_srcS, p_srcT, p_srcR, src_l, src_f, p_rng1, p_rng2, p_enum, p_zip, p_app, p_pop, p_clear, p_rev, p_ext, p_ins, p_popAt, p_set, p_isi, p_frz, a_add, a_sub, a_mul, ixL, ixLR, cell_l, live_l, isl, py_int, py_bl, py_non, py_str, py_oi, py_lst, py_tup, py_scr, py_ints, py_bls, py_ois, py_row, py_rows, py_ref, ev_int, ev_bl, ev_str, ev_oi, ev_oI, ev_Io, ev_oN, ev_No, ev_ints, ev_row, ev_ois, ev_rows, non_oi, cut_map, ← List.map_take, ← List.map_drop, List.getElem?_cons_zero, List.getElem?_cons_succ, List.set_cons_zero, List.set_cons_succ, List.foldl_cons, List.foldl_nil, List.map_cons, List.map_nil, List.length_cons, List.length_nil, List.replicate, List.cons_append, List.nil_append, exists_eq_left, exists_eq_left', D.bl.injEq, D.int.injEq, D.tup.injEq, decide_eq_true_eq, decide_eq_false_iff_not, true_and, and_true, true_implies, List.length_map, fr_ref, fr_ints, fr_ois, fr_rows, fr_int, fr_lst, fr_row, fr_oi, fr_bl, fr_non, fr_cons, fr_nil, fr_tup, Fl.rt.injEq, Fl.nx.injEq, ex_neg, ex_neg', Bool.not_eq_true', Bool.not_eq_false', Bool.not_not, wipeE, omap_cons, omap_nil, at_0, at_1, at_2, oi_some, oi_none, oP_some, oP_none, Option.some.injEq, end_get, end_set, beq_self_eq_true, bne_self_eq_false, tn, tn0, tn1, fitL, mL, mR, nc, nc0, nc1, c_ltT, c_gtT, c_leT, ev_tup, ev_listc, ev_cons, ev_nil, ev_list0, ev_0list, c_inT, c_ninT, LIM, Int.zero_add, gc_id, Nat.le_refl, Option.map_some, Option.bind_some, isi_s, ty_int, ty_bl, ty_non, ty_lst, ty_tup, ty_str, ty_ref, ty_cl, ty_oi, isTy, Int.reduceLE, Int.reduceLT, Int.reducePow, Int.reduceAdd, Int.reduceSub, Int.reduceMul, Int.reduceNeg, Int.reduceEq, Int.reduceGT, Int.reduceGE, Int.reduceNe, Nat.reduceAdd, Nat.reduceSub, Nat.reduceLT, Nat.reduceLeDiff, Nat.reduceMul, Nat.reducePow, Nat.reduceBEq, Nat.reduceEqDiff, Int.reduceToNat, Bool.not_eq_true, Bool.not_true, Bool.not_false, Bool.not_eq_false, Bool.not_eq_eq_eq_not, reduceCtorEq, if_true, if_false, false_implies, Bool.false_eq_true, Bool.true_eq_false, and_self, not_true, not_false_iff, implies_true, forall_const, true_or, or_true, and_false, false_and, ge_iff_le, gt_iff_lt, cl_pairs, g_s, p_gT, p_gF, Bool.and_true, Bool.true_and, Bool.and_self, cl_ints, cl_bls, cl_oi, cl_ois, cl_row, cl_rows, cl_drow, cl_drows, cl_app, cl_lst, cl_cons, cl_nil, cl_int, cl_bl, cl_non, cl_str, cl_tup, fit, mfit, rt_pairs, sh_pairs, rt_bl, rt_non, rt_str, rt_tup, sh_non, sh_str, sh_tup, rt_ints, rt_oi, rt_ois, rt_row, rt_rows, rt_drow, rt_drows, rt_ref, rt_int, rt_cell, rt_cons, rt_nil, rt_lst, rt_app, p_gF, List.all_cons, List.all_nil, sh_ints, sh_oi, sh_ois, sh_row, sh_rows, sh_drow, sh_drows, sh_ref, sh_int, sh_bl, sh_cell, sh_cons, sh_nil, sh_lst, Nat.zero_add, Nat.add_zero, kd2]
        rw [o_cons]
        simp (disch := decide) only [ev_00, fr_pair, fr_pairs, py_pair, py_pairs, ev_pair, ev_pairs, ev_pairs0, anyPr, p_minR, p_maxR, p_sumR, p_allR, p_anyR, p_sortedR, o_nil, o_ret, o_expr, o_set, o_asg, o_ife, o_setIx, o_aug, o_augIx, o_kill, o_pass, o_retN, seqP_nx, seqP_rt, o_var, o_int, o_bl, o_non, o_str, o_cst, o_bin, o_neg, o_cmp, o_chain, o_isN, o_notN, o_and, o_or, o_and1, o_or1, o_and2, o_or2, o_not, o_lst, o_tup, o_ix, o_slice, o_part0, o_part1, o_call, o_bi, o_isi, o_frz, o_isB, o_lrg, p_isB, p_lrg1, p_lrg2, o_rev, o_par, p_revL, p_revS, p_revR, ← List.map_reverse, o_mth0, o_mth, o_evs0, o_evs1, o_slst, o_stup, o_rng, o_enum, o_zip, o_enumT, o_lset, o_srtP, p_enumT, p_lset, p_srtP, p_listT, p_tupL, p_sliceT, p_divmod, p_var, v_0, v_s, p_add, p_addL, p_addT, p_sub, p_mul, p_mulL, p_div, p_mod, p_pow, p_neg, p_alF, p_alT, p_lst, p_tup, p_not, p_cmp, c_eq, c_ne, c_lt, c_gt, c_le, c_ge, c_in, c_nin, anyI, ev_ints0, ev_row0, ev_0ints, ev_ois0, p_isN, p_notN, p_ix, p_ixT, p_ixS, p_ixR, at_m, p_len, p_lenT, p_lenS, p_lenR, p_list, p_listS, p_listR, p_slice, p_allM, p_anyM, p_sumM, p_all, p_any, p_sum, p_max2, p_min2, p_remove, p_sorted, ints_snoc, ints_map, p_index, isl_l, py_drow, py_drows, ev_drow, ev_drows, fr_drow, fr_drows, p_sliceS, p_sliceR, p_src, p_srcS, p_srcT, p_srcR, src_l, src_f, p_rng1, p_rng2, p_enum, p_zip, p_app, p_pop, p_clear, p_rev, p_ext, p_ins, p_popAt, p_set, p_isi, p_frz, a_add, a_sub, a_mul, ixL, ixLR, cell_l, live_l, isl, py_int, py_bl, py_non, py_str, py_oi, py_lst, py_tup, py_scr, py_ints, py_bls, py_ois, py_row, py_rows, py_ref, ev_int, ev_bl, ev_str, ev_oi, ev_oI, ev_Io, ev_oN, ev_No, ev_ints, ev_row, ev_ois, ev_rows, non_oi, cut_map, ← List.map_take, ← List.map_drop, List.getElem?_cons_zero, List.getElem?_cons_succ, List.set_cons_zero, List.set_cons_succ, List.foldl_cons, List.foldl_nil, List.map_cons, List.map_nil, List.length_cons, List.length_nil, List.replicate, List.cons_append, List.nil_append, exists_eq_left, exists_eq_left', D.bl.injEq, D.int.injEq, D.tup.injEq, decide_eq_true_eq, decide_eq_false_iff_not, true_and, and_true, true_implies, List.length_map, fr_ref, fr_ints, fr_ois, fr_rows, fr_int, fr_lst, fr_row, fr_oi, fr_bl, fr_non, fr_cons, fr_nil, fr_tup, Fl.rt.injEq, Fl.nx.injEq, ex_neg, ex_neg', Bool.not_eq_true', Bool.not_eq_false', Bool.not_not, wipeE, omap_cons, omap_nil, at_0, at_1, at_2, oi_some, oi_none, oP_some, oP_none, Option.some.injEq, end_get, end_set, beq_self_eq_true, bne_self_eq_false, tn, tn0, tn1, fitL, mL, mR, nc, nc0, nc1, c_ltT, c_gtT, c_leT, ev_tup, ev_listc, ev_cons, ev_nil, ev_list0, ev_0list, c_inT, c_ninT, LIM, Int.zero_add, gc_id, Nat.le_refl, Option.map_some, Option.bind_some, isi_s, ty_int, ty_bl, ty_non, ty_lst, ty_tup, ty_str, ty_ref, ty_cl, ty_oi, isTy, Int.reduceLE, Int.reduceLT, Int.reducePow, Int.reduceAdd, Int.reduceSub, Int.reduceMul, Int.reduceNeg, Int.reduceEq, Int.reduceGT, Int.reduceGE, Int.reduceNe, Nat.reduceAdd, Nat.reduceSub, Nat.reduceLT, Nat.reduceLeDiff, Nat.reduceMul, Nat.reducePow, Nat.reduceBEq, Nat.reduceEqDiff, Int.reduceToNat, Bool.not_eq_true, Bool.not_true, Bool.not_false, Bool.not_eq_false, Bool.not_eq_eq_eq_not, reduceCtorEq, if_true, if_false, false_implies, Bool.false_eq_true, Bool.true_eq_false, and_self, not_true, not_false_iff, implies_true, forall_const, true_or, or_true, and_false, false_and, ge_iff_le, gt_iff_lt, cl_pairs, g_s, p_gT, p_gF, Bool.and_true, Bool.true_and, Bool.and_self, cl_ints, cl_bls, cl_oi, cl_ois, cl_row, cl_rows, cl_drow, cl_drows, cl_app, cl_lst, cl_cons, cl_nil, cl_int, cl_bl, cl_non, cl_str, cl_tup, fit, mfit, rt_pairs, sh_pairs, rt_bl, rt_non, rt_str, rt_tup, sh_non, sh_str, sh_tup, rt_ints, rt_oi, rt_ois, rt_row, rt_rows, rt_drow, rt_drows, rt_ref, rt_int, rt_cell, rt_cons, rt_nil, rt_lst, rt_app, p_gF, List.all_cons, List.all_nil, sh_ints, sh_oi, sh_ois, sh_row, sh_rows, sh_drow, sh_drows, sh_ref, sh_int, sh_bl, sh_cell, sh_cons, sh_nil, sh_lst, Nat.zero_add, Nat.add_zero]
        rw [p4] at j1
        refine ⟨j, j1, ?_⟩
        rw [j2]
        rw [o_cons]
        simp (disch := decide) only [ev_00, fr_pair, fr_pairs, py_pair, py_pairs, ev_pair, ev_pairs, ev_pairs0, anyPr, p_minR, p_maxR, p_sumR, p_allR, p_anyR, p_sortedR, o_nil, o_ret, o_expr, o_set, o_asg, o_ife, o_setIx, o_aug, o_augIx, o_kill, o_pass, o_retN, seqP_nx, seqP_rt, o_var, o_int, o_bl, o_non, o_str, o_cst, o_bin, o_neg, o_cmp, o_chain, o_isN, o_notN, o_and, o_or, o_and1, o_or1, o_and2, o_or2, o_not, o_lst, o_tup, o_ix, o_slice, o_part0, o_part1, o_call, o_bi, o_isi, o_frz, o_isB, o_lrg, p_isB, p_lrg1, p_lrg2, o_rev, o_par, p_revL, p_revS, p_revR, ← List.map_reverse, o_mth0, o_mth, o_evs0, o_evs1, o_slst, o_stup, o_rng, o_enum, o_zip, o_enumT, o_lset, o_srtP, p_enumT, p_lset, p_srtP, p_listT, p_tupL, p_sliceT, p_divmod, p_var, v_0, v_s, p_add, p_addL, p_addT, p_sub, p_mul, p_mulL, p_div, p_mod, p_pow, p_neg, p_alF, p_alT, p_lst, p_tup, p_not, p_cmp, c_eq, c_ne, c_lt, c_gt, c_le, c_ge, c_in, c_nin, anyI, ev_ints0, ev_row0, ev_0ints, ev_ois0, p_isN, p_notN, p_ix, p_ixT, p_ixS, p_ixR, at_m, p_len, p_lenT, p_lenS, p_lenR, p_list, p_listS, p_listR, p_slice, p_allM, p_anyM, p_sumM, p_all, p_any, p_sum, p_max2, p_min2, p_remove, p_sorted, ints_snoc, ints_map, p_index, isl_l, py_drow, py_drows, ev_drow, ev_drows, fr_drow, fr_drows, p_sliceS, p_sliceR, p_src, p_srcS, p_srcT, p_srcR, src_l, src_f, p_rng1, p_rng2, p_enum, p_zip, p_app, p_pop, p_clear, p_rev, p_ext, p_ins, p_popAt, p_set, p_isi, p_frz, a_add, a_sub, a_mul, ixL, ixLR, cell_l, live_l, isl, py_int, py_bl, py_non, py_str, py_oi, py_lst, py_tup, py_scr, py_ints, py_bls, py_ois, py_row, py_rows, py_ref, ev_int, ev_bl, ev_str, ev_oi, ev_oI, ev_Io, ev_oN, ev_No, ev_ints, ev_row, ev_ois, ev_rows, non_oi, cut_map, ← List.map_take, ← List.map_drop, List.getElem?_cons_zero, List.getElem?_cons_succ, List.set_cons_zero, List.set_cons_succ, List.foldl_cons, List.foldl_nil, List.map_cons, List.map_nil, List.length_cons, List.length_nil, List.replicate, List.cons_append, List.nil_append, exists_eq_left, exists_eq_left', D.bl.injEq, D.int.injEq, D.tup.injEq, decide_eq_true_eq, decide_eq_false_iff_not, true_and, and_true, true_implies, List.length_map, fr_ref, fr_ints, fr_ois, fr_rows, fr_int, fr_lst, fr_row, fr_oi, fr_bl, fr_non, fr_cons, fr_nil, fr_tup, Fl.rt.injEq, Fl.nx.injEq, ex_neg, ex_neg', Bool.not_eq_true', Bool.not_eq_false', Bool.not_not, wipeE, omap_cons, omap_nil, at_0, at_1, at_2, oi_some, oi_none, oP_some, oP_none, Option.some.injEq, end_get, end_set, beq_self_eq_true, bne_self_eq_false, tn, tn0, tn1, fitL, mL, mR, nc, nc0, nc1, c_ltT, c_gtT, c_leT, ev_tup, ev_listc, ev_cons, ev_nil, ev_list0, ev_0list, c_inT, c_ninT, LIM, Int.zero_add, gc_id, Nat.le_refl, Option.map_some, Option.bind_some, isi_s, ty_int, ty_bl, ty_non, ty_lst, ty_tup, ty_str, ty_ref, ty_cl, ty_oi, isTy, Int.reduceLE, Int.reduceLT, Int.reducePow, Int.reduceAdd, Int.reduceSub, Int.reduceMul, Int.reduceNeg, Int.reduceEq, Int.reduceGT, Int.reduceGE, Int.reduceNe, Nat.reduceAdd, Nat.reduceSub, Nat.reduceLT, Nat.reduceLeDiff, Nat.reduceMul, Nat.reducePow, Nat.reduceBEq, Nat.reduceEqDiff, Int.reduceToNat, Bool.not_eq_true, Bool.not_true, Bool.not_false, Bool.not_eq_false, Bool.not_eq_eq_eq_not, reduceCtorEq, if_true, if_false, false_implies, Bool.false_eq_true, Bool.true_eq_false, and_self, not_true, not_false_iff, implies_true, forall_const, true_or, or_true, and_false, false_and, ge_iff_le, gt_iff_lt, cl_pairs, g_s, p_gT, p_gF, Bool.and_true, Bool.true_and, Bool.and_self, cl_ints, cl_bls, cl_oi, cl_ois, cl_row, cl_rows, cl_drow, cl_drows, cl_app, cl_lst, cl_cons, cl_nil, cl_int, cl_bl, cl_non, cl_str, cl_tup, fit, mfit, rt_pairs, sh_pairs, rt_bl, rt_non, rt_str, rt_tup, sh_non, sh_str, sh_tup, rt_ints, rt_oi, rt_ois, rt_row, rt_rows, rt_drow, rt_drows, rt_ref, rt_int, rt_cell, rt_cons, rt_nil, rt_lst, rt_app, p_gF, List.all_cons, List.all_nil, sh_ints, sh_oi, sh_ois, sh_row, sh_rows, sh_drow, sh_drows, sh_ref, sh_int, sh_bl, sh_cell, sh_cons, sh_nil, sh_lst, Nat.zero_add, Nat.add_zero]
        refine ⟨_, ixN_pos (by omega) (by omega), ?_⟩
        simp (disch := decide) only [ev_00, fr_pair, fr_pairs, py_pair, py_pairs, ev_pair, ev_pairs, ev_pairs0, anyPr, p_minR, p_maxR, p_sumR, p_allR, p_anyR, p_sortedR, o_nil, o_cons, o_ret, o_expr, o_set, o_asg, o_ife, o_setIx, o_aug, o_augIx, o_kill, o_pass, o_retN, seqP_nx, seqP_rt, o_var, o_int, o_bl, o_non, o_str, o_cst, o_bin, o_neg, o_cmp, o_chain, o_isN, o_notN, o_and, o_or, o_and1, o_or1, o_and2, o_or2, o_not, o_lst, o_tup, o_ix, o_slice, o_part0, o_part1, o_call, o_bi, o_isi, o_frz, o_isB, o_lrg, p_isB, p_lrg1, p_lrg2, o_rev, o_par, p_revL, p_revS, p_revR, ← List.map_reverse, o_mth0, o_mth, o_evs0, o_evs1, o_slst, o_stup, o_rng, o_enum, o_zip, o_enumT, o_lset, o_srtP, p_enumT, p_lset, p_srtP, p_listT, p_tupL, p_sliceT, p_divmod, p_var, v_0, v_s, p_add, p_addL, p_addT, p_sub, p_mul, p_mulL, p_div, p_mod, p_pow, p_neg, p_alF, p_alT, p_lst, p_tup, p_not, p_cmp, c_eq, c_ne, c_lt, c_gt, c_le, c_ge, c_in, c_nin, anyI, ev_ints0, ev_row0, ev_0ints, ev_ois0, p_isN, p_notN, p_ix, p_ixT, p_ixS, p_ixR, at_m, p_len, p_lenT, p_lenS, p_lenR, p_list, p_listS, p_listR, p_slice, p_allM, p_anyM, p_sumM, p_all, p_any, p_sum, p_max2, p_min2, p_remove, p_sorted, ints_snoc, ints_map, p_index, isl_l, py_drow, py_drows, ev_drow, ev_drows, fr_drow, fr_drows, p_sliceS, p_sliceR, p_src, p_srcS, p_srcT, p_srcR, src_l, src_f, p_rng1, p_rng2, p_enum, p_zip, p_app, p_pop, p_clear, p_rev, p_ext, p_ins, p_popAt, p_set, p_isi, p_frz, a_add, a_sub, a_mul, ixL, ixLR, cell_l, live_l, isl, py_int, py_bl, py_non, py_str, py_oi, py_lst, py_tup, py_scr, py_ints, py_bls, py_ois, py_row, py_rows, py_ref, ev_int, ev_bl, ev_str, ev_oi, ev_oI, ev_Io, ev_oN, ev_No, ev_ints, ev_row, ev_ois, ev_rows, non_oi, cut_map, ← List.map_take, ← List.map_drop, List.getElem?_cons_zero, List.getElem?_cons_succ, List.set_cons_zero, List.set_cons_succ, List.foldl_cons, List.foldl_nil, List.map_cons, List.map_nil, List.length_cons, List.length_nil, List.replicate, List.cons_append, List.nil_append, exists_eq_left, exists_eq_left', D.bl.injEq, D.int.injEq, D.tup.injEq, decide_eq_true_eq, decide_eq_false_iff_not, true_and, and_true, true_implies, List.length_map, fr_ref, fr_ints, fr_ois, fr_rows, fr_int, fr_lst, fr_row, fr_oi, fr_bl, fr_non, fr_cons, fr_nil, fr_tup, Fl.rt.injEq, Fl.nx.injEq, ex_neg, ex_neg', Bool.not_eq_true', Bool.not_eq_false', Bool.not_not, wipeE, omap_cons, omap_nil, at_0, at_1, at_2, oi_some, oi_none, oP_some, oP_none, Option.some.injEq, end_get, end_set, beq_self_eq_true, bne_self_eq_false, tn, tn0, tn1, fitL, mL, mR, nc, nc0, nc1, c_ltT, c_gtT, c_leT, ev_tup, ev_listc, ev_cons, ev_nil, ev_list0, ev_0list, c_inT, c_ninT, LIM, Int.zero_add, gc_id, Nat.le_refl, Option.map_some, Option.bind_some, isi_s, ty_int, ty_bl, ty_non, ty_lst, ty_tup, ty_str, ty_ref, ty_cl, ty_oi, isTy, Int.reduceLE, Int.reduceLT, Int.reducePow, Int.reduceAdd, Int.reduceSub, Int.reduceMul, Int.reduceNeg, Int.reduceEq, Int.reduceGT, Int.reduceGE, Int.reduceNe, Nat.reduceAdd, Nat.reduceSub, Nat.reduceLT, Nat.reduceLeDiff, Nat.reduceMul, Nat.reducePow, Nat.reduceBEq, Nat.reduceEqDiff, Int.reduceToNat, Bool.not_eq_true, Bool.not_true, Bool.not_false, Bool.not_eq_false, Bool.not_eq_eq_eq_not, reduceCtorEq, if_true, if_false, false_implies, Bool.false_eq_true, Bool.true_eq_false, and_self, not_true, not_false_iff, implies_true, forall_const, true_or, or_true, and_false, false_and, ge_iff_le, gt_iff_lt, cl_pairs, g_s, p_gT, p_gF, Bool.and_true, Bool.true_and, Bool.and_self, cl_ints, cl_bls, cl_oi, cl_ois, cl_row, cl_rows, cl_drow, cl_drows, cl_app, cl_lst, cl_cons, cl_nil, cl_int, cl_bl, cl_non, cl_str, cl_tup, fit, mfit, rt_pairs, sh_pairs, rt_bl, rt_non, rt_str, rt_tup, sh_non, sh_str, sh_tup, rt_ints, rt_oi, rt_ois, rt_row, rt_rows, rt_drow, rt_drows, rt_ref, rt_int, rt_cell, rt_cons, rt_nil, rt_lst, rt_app, p_gF, List.all_cons, List.all_nil, sh_ints, sh_oi, sh_ois, sh_row, sh_rows, sh_drow, sh_drows, sh_ref, sh_int, sh_bl, sh_cell, sh_cons, sh_nil, sh_lst, Nat.zero_add, Nat.add_zero]
        refine ⟨by omega, ?_⟩
        rw [gc_id (by simp), List.map_set]
        simp [oi, pairD]
      · rintro e m' ⟨rfl, rfl⟩
        rw [List.length_take]
        simp (disch := decide) only [ev_00, fr_pair, fr_pairs, py_pair, py_pairs, ev_pair, ev_pairs, ev_pairs0, anyPr, p_minR, p_maxR, p_sumR, p_allR, p_anyR, p_sortedR, o_nil, o_cons, o_ret, o_expr, o_set, o_asg, o_ife, o_setIx, o_aug, o_augIx, o_kill, o_pass, o_retN, seqP_nx, seqP_rt, o_var, o_int, o_bl, o_non, o_str, o_cst, o_bin, o_neg, o_cmp, o_chain, o_isN, o_notN, o_and, o_or, o_and1, o_or1, o_and2, o_or2, o_not, o_lst, o_tup, o_ix, o_slice, o_part0, o_part1, o_call, o_bi, o_isi, o_frz, o_isB, o_lrg, p_isB, p_lrg1, p_lrg2, o_rev, o_par, p_revL, p_revS, p_revR, ← List.map_reverse, o_mth0, o_mth, o_evs0, o_evs1, o_slst, o_stup, o_rng, o_enum, o_zip, o_enumT, o_lset, o_srtP, p_enumT, p_lset, p_srtP, p_listT, p_tupL, p_sliceT, p_divmod, p_var, v_0, v_s, p_add, p_addL, p_addT, p_sub, p_mul, p_mulL, p_div, p_mod, p_pow, p_neg, p_alF, p_alT, p_lst, p_tup, p_not, p_cmp, c_eq, c_ne, c_lt, c_gt, c_le, c_ge, c_in, c_nin, anyI, ev_ints0, ev_row0, ev_0ints, ev_ois0, p_isN, p_notN, p_ix, p_ixT, p_ixS, p_ixR, at_m, p_len, p_lenT, p_lenS, p_lenR, p_list, p_listS, p_listR, p_slice, p_allM, p_anyM, p_sumM, p_all, p_any, p_sum, p_max2, p_min2, p_remove, p_sorted, ints_snoc, ints_map, p_index, isl_l, py_drow, py_drows, ev_drow, ev_drows, fr_drow, fr_drows, p_sliceS, p_sliceR, p_src, p_srcS, p_srcT, p_srcR, src_l, src_f, p_rng1, p_rng2, p_enum, p_zip, p_app, p_pop, p_clear, p_rev, p_ext, p_ins, p_popAt, p_set, p_isi, p_frz, a_add, a_sub, a_mul, ixL, ixLR, cell_l, live_l, isl, py_int, py_bl, py_non, py_str, py_oi, py_lst, py_tup, py_scr, py_ints, py_bls, py_ois, py_row, py_rows, py_ref, ev_int, ev_bl, ev_str, ev_oi, ev_oI, ev_Io, ev_oN, ev_No, ev_ints, ev_row, ev_ois, ev_rows, non_oi, cut_map, ← List.map_take, ← List.map_drop, List.getElem?_cons_zero, List.getElem?_cons_succ, List.set_cons_zero, List.set_cons_succ, List.foldl_cons, List.foldl_nil, List.map_cons, List.map_nil, List.length_cons, List.length_nil, List.replicate, List.cons_append, List.nil_append, exists_eq_left, exists_eq_left', D.bl.injEq, D.int.injEq, D.tup.injEq, decide_eq_true_eq, decide_eq_false_iff_not, true_and, and_true, true_implies, List.length_map, fr_ref, fr_ints, fr_ois, fr_rows, fr_int, fr_lst, fr_row, fr_oi, fr_bl, fr_non, fr_cons, fr_nil, fr_tup, Fl.rt.injEq, Fl.nx.injEq, ex_neg, ex_neg', Bool.not_eq_true', Bool.not_eq_false', Bool.not_not, wipeE, omap_cons, omap_nil, at_0, at_1, at_2, oi_some, oi_none, oP_some, oP_none, Option.some.injEq, end_get, end_set, beq_self_eq_true, bne_self_eq_false, tn, tn0, tn1, fitL, mL, mR, nc, nc0, nc1, c_ltT, c_gtT, c_leT, ev_tup, ev_listc, ev_cons, ev_nil, ev_list0, ev_0list, c_inT, c_ninT, LIM, Int.zero_add, gc_id, Nat.le_refl, Option.map_some, Option.bind_some, isi_s, ty_int, ty_bl, ty_non, ty_lst, ty_tup, ty_str, ty_ref, ty_cl, ty_oi, isTy, Int.reduceLE, Int.reduceLT, Int.reducePow, Int.reduceAdd, Int.reduceSub, Int.reduceMul, Int.reduceNeg, Int.reduceEq, Int.reduceGT, Int.reduceGE, Int.reduceNe, Nat.reduceAdd, Nat.reduceSub, Nat.reduceLT, Nat.reduceLeDiff, Nat.reduceMul, Nat.reducePow, Nat.reduceBEq, Nat.reduceEqDiff, Int.reduceToNat, Bool.not_eq_true, Bool.not_true, Bool.not_false, Bool.not_eq_false, Bool.not_eq_eq_eq_not, reduceCtorEq, if_true, if_false, false_implies, Bool.false_eq_true, Bool.true_eq_false, and_self, not_true, not_false_iff, implies_true, forall_const, true_or, or_true, and_false, false_and, ge_iff_le, gt_iff_lt, cl_pairs, g_s, p_gT, p_gF, Bool.and_true, Bool.true_and, Bool.and_self, cl_ints, cl_bls, cl_oi, cl_ois, cl_row, cl_rows, cl_drow, cl_drows, cl_app, cl_lst, cl_cons, cl_nil, cl_int, cl_bl, cl_non, cl_str, cl_tup, fit, mfit, rt_pairs, sh_pairs, rt_bl, rt_non, rt_str, rt_tup, sh_non, sh_str, sh_tup, rt_ints, rt_oi, rt_ois, rt_row, rt_rows, rt_drow, rt_drows, rt_ref, rt_int, rt_cell, rt_cons, rt_nil, rt_lst, rt_app, p_gF, List.all_cons, List.all_nil, sh_ints, sh_oi, sh_ois, sh_row, sh_rows, sh_drow, sh_drows, sh_ref, sh_int, sh_bl, sh_cell, sh_cons, sh_nil, sh_lst, Nat.zero_add, Nat.add_zero]
        refine ⟨m - (k + min (m - k) o.length), by omega, q + 1, k + min (m - k) o.length, rfl, by omega, ?_, by simp, ?_⟩
        · rw [oro, Nat.mul_add, ← hkn]
          omega
        · rw [gc_id (by simp)]
theorem by_turns {n m : Nat} (t : List (List Int)) (os : List (List Int)) (T : TabM m t) (hn : t.length = n) (hos : os ≠ []) (ho : ∀ o ∈ os, o.Perm (rgi 0 n)) (hol : os.length ≤ 100) : F_by_turns.run [(D.lst true (List.map (row true) t)), (D.lst true (List.map (row true) os))] = some (.ok (turnsR t os n m, [])) := by
  rw [R_by_turns]
  refine run_ok ?_
  simp only [b_by_turns, N_by_turns, List.map_cons, List.map_nil, List.length_cons, List.length_nil, Nat.reduceAdd, Nat.reduceSub, List.replicate, List.cons_append, List.nil_append]
  rw [o_cons]
  simp (disch := decide) only [ev_00, fr_pair, fr_pairs, py_pair, py_pairs, ev_pair, ev_pairs, ev_pairs0, anyPr, p_minR, p_maxR, p_sumR, p_allR, p_anyR, p_sortedR, o_nil, o_ret, o_expr, o_set, o_asg, o_ife, o_setIx, o_aug, o_augIx, o_kill, o_pass, o_retN, seqP_nx, seqP_rt, o_var, o_int, o_bl, o_non, o_str, o_cst, o_bin, o_neg, o_cmp, o_chain, o_isN, o_notN, o_and, o_or, o_and1, o_or1, o_and2, o_or2, o_not, o_lst, o_tup, o_ix, o_slice, o_part0, o_part1, o_call, o_bi, o_isi, o_frz, o_isB, o_lrg, p_isB, p_lrg1, p_lrg2, o_rev, o_par, p_revL, p_revS, p_revR, ← List.map_reverse, o_mth0, o_mth, o_evs0, o_evs1, o_slst, o_stup, o_rng, o_enum, o_zip, o_enumT, o_lset, o_srtP, p_enumT, p_lset, p_srtP, p_listT, p_tupL, p_sliceT, p_divmod, p_var, v_0, v_s, p_add, p_addL, p_addT, p_sub, p_mul, p_mulL, p_div, p_mod, p_pow, p_neg, p_alF, p_alT, p_lst, p_tup, p_not, p_cmp, c_eq, c_ne, c_lt, c_gt, c_le, c_ge, c_in, c_nin, anyI, ev_ints0, ev_row0, ev_0ints, ev_ois0, p_isN, p_notN, p_ix, p_ixT, p_ixS, p_ixR, at_m, p_len, p_lenT, p_lenS, p_lenR, p_list, p_listS, p_listR, p_slice, p_allM, p_anyM, p_sumM, p_all, p_any, p_sum, p_max2, p_min2, p_remove, p_sorted, ints_snoc, ints_map, p_index, isl_l, py_drow, py_drows, ev_drow, ev_drows, fr_drow, fr_drows, p_sliceS, p_sliceR, p_src, p_srcS, p_srcT, p_srcR, src_l, src_f, p_rng1, p_rng2, p_enum, p_zip, p_app, p_pop, p_clear, p_rev, p_ext, p_ins, p_popAt, p_set, p_isi, p_frz, a_add, a_sub, a_mul, ixL, ixLR, cell_l, live_l, isl, py_int, py_bl, py_non, py_str, py_oi, py_lst, py_tup, py_scr, py_ints, py_bls, py_ois, py_row, py_rows, py_ref, ev_int, ev_bl, ev_str, ev_oi, ev_oI, ev_Io, ev_oN, ev_No, ev_ints, ev_row, ev_ois, ev_rows, non_oi, cut_map, ← List.map_take, ← List.map_drop, List.getElem?_cons_zero, List.getElem?_cons_succ, List.set_cons_zero, List.set_cons_succ, List.foldl_cons, List.foldl_nil, List.map_cons, List.map_nil, List.length_cons, List.length_nil, List.replicate, List.cons_append, List.nil_append, exists_eq_left, exists_eq_left', D.bl.injEq, D.int.injEq, D.tup.injEq, decide_eq_true_eq, decide_eq_false_iff_not, true_and, and_true, true_implies, List.length_map, fr_ref, fr_ints, fr_ois, fr_rows, fr_int, fr_lst, fr_row, fr_oi, fr_bl, fr_non, fr_cons, fr_nil, fr_tup, Fl.rt.injEq, Fl.nx.injEq, ex_neg, ex_neg', Bool.not_eq_true', Bool.not_eq_false', Bool.not_not, wipeE, omap_cons, omap_nil, at_0, at_1, at_2, oi_some, oi_none, oP_some, oP_none, Option.some.injEq, end_get, end_set, beq_self_eq_true, bne_self_eq_false, tn, tn0, tn1, fitL, mL, mR, nc, nc0, nc1, c_ltT, c_gtT, c_leT, ev_tup, ev_listc, ev_cons, ev_nil, ev_list0, ev_0list, c_inT, c_ninT, LIM, Int.zero_add, gc_id, Nat.le_refl, Option.map_some, Option.bind_some, isi_s, ty_int, ty_bl, ty_non, ty_lst, ty_tup, ty_str, ty_ref, ty_cl, ty_oi, isTy, Int.reduceLE, Int.reduceLT, Int.reducePow, Int.reduceAdd, Int.reduceSub, Int.reduceMul, Int.reduceNeg, Int.reduceEq, Int.reduceGT, Int.reduceGE, Int.reduceNe, Nat.reduceAdd, Nat.reduceSub, Nat.reduceLT, Nat.reduceLeDiff, Nat.reduceMul, Nat.reducePow, Nat.reduceBEq, Nat.reduceEqDiff, Int.reduceToNat, Bool.not_eq_true, Bool.not_true, Bool.not_false, Bool.not_eq_false, Bool.not_eq_eq_eq_not, reduceCtorEq, if_true, if_false, false_implies, Bool.false_eq_true, Bool.true_eq_false, and_self, not_true, not_false_iff, implies_true, forall_const, true_or, or_true, and_false, false_and, ge_iff_le, gt_iff_lt, cl_pairs, g_s, p_gT, p_gF, Bool.and_true, Bool.true_and, Bool.and_self, cl_ints, cl_bls, cl_oi, cl_ois, cl_row, cl_rows, cl_drow, cl_drows, cl_app, cl_lst, cl_cons, cl_nil, cl_int, cl_bl, cl_non, cl_str, cl_tup, fit, mfit, rt_pairs, sh_pairs, rt_bl, rt_non, rt_str, rt_tup, sh_non, sh_str, sh_tup, rt_ints, rt_oi, rt_ois, rt_row, rt_rows, rt_drow, rt_drows, rt_ref, rt_int, rt_cell, rt_cons, rt_nil, rt_lst, rt_app, p_gF, List.all_cons, List.all_nil, sh_ints, sh_oi, sh_ois, sh_row, sh_rows, sh_drow, sh_drows, sh_ref, sh_int, sh_bl, sh_cell, sh_cons, sh_nil, sh_lst, Nat.zero_add, Nat.add_zero, isNon]
  refine (by_turns_tail true t os T hn hos ho hol).imp ?_
  rintro fl m' rfl
  refine ⟨rfl, .inl ?_⟩
  unfold turnsR
  simp only [cl_pairs, g_s, p_gT, p_gF, Bool.and_true, Bool.true_and, Bool.and_self, cl_ints, cl_bls, cl_oi, cl_ois, cl_row, cl_rows, cl_drow, cl_drows, cl_app, cl_lst, cl_cons, cl_nil, cl_int, cl_bl, cl_non, cl_str, cl_tup]
theorem by_turns_none {n m : Nat} (t : List (List Int)) (T : TabM m t) (hn : t.length = n) : F_by_turns.run [(D.lst true (List.map (row true) t)), .non] = some (.ok (turnsR t [rgi 0 n] n m, [])) := by
  have few := T.few
  have kh := fun  μ Q => call_eq (Γ := G_by_turns) (f := 163) (dn := 0) (fz := true) (ds := [(D.lst true (List.map (row true) t))]) (μ := μ) (Q := Q) rfl (by simp only [B_hands_of, le_pair, le_pairs, la_nil, la_t, la_f, Option.bind_some, Option.map_some, List.append_nil, List.replicate, le_int, le_bl, le_non, le_str, le_scr, le_oi, le_lst, le_tup, le_ints, le_bls, le_ois, le_row, le_rows, le_drow, le_drows, le_ref, cl_pairs, g_s, p_gT, p_gF, Bool.and_true, Bool.true_and, Bool.and_self, cl_ints, cl_bls, cl_oi, cl_ois, cl_row, cl_rows, cl_drow, cl_drows, cl_app, cl_lst, cl_cons, cl_nil, cl_int, cl_bl, cl_non, cl_str, cl_tup] <;> rfl) rfl (hands (t.map (row true)))
  rw [R_by_turns]
  refine run_ok ?_
  simp only [b_by_turns, N_by_turns, List.map_cons, List.map_nil, List.length_cons, List.length_nil, Nat.reduceAdd, Nat.reduceSub, List.replicate, List.cons_append, List.nil_append]
  rw [o_cons]
  simp (disch := decide) only [ev_00, fr_pair, fr_pairs, py_pair, py_pairs, ev_pair, ev_pairs, ev_pairs0, anyPr, p_minR, p_maxR, p_sumR, p_allR, p_anyR, p_sortedR, o_nil, o_ret, o_expr, o_set, o_asg, o_ife, o_setIx, o_aug, o_augIx, o_kill, o_pass, o_retN, seqP_nx, seqP_rt, o_var, o_int, o_bl, o_non, o_str, o_cst, o_bin, o_neg, o_cmp, o_chain, o_isN, o_notN, o_and, o_or, o_and1, o_or1, o_and2, o_or2, o_not, o_lst, o_tup, o_ix, o_slice, o_part0, o_part1, o_call, o_bi, o_isi, o_frz, o_isB, o_lrg, p_isB, p_lrg1, p_lrg2, o_rev, o_par, p_revL, p_revS, p_revR, ← List.map_reverse, o_mth0, o_mth, o_evs0, o_evs1, o_slst, o_stup, o_rng, o_enum, o_zip, o_enumT, o_lset, o_srtP, p_enumT, p_lset, p_srtP, p_listT, p_tupL, p_sliceT, p_divmod, p_var, v_0, v_s, p_add, p_addL, p_addT, p_sub, p_mul, p_mulL, p_div, p_mod, p_pow, p_neg, p_alF, p_alT, p_lst, p_tup, p_not, p_cmp, c_eq, c_ne, c_lt, c_gt, c_le, c_ge, c_in, c_nin, anyI, ev_ints0, ev_row0, ev_0ints, ev_ois0, p_isN, p_notN, p_ix, p_ixT, p_ixS, p_ixR, at_m, p_len, p_lenT, p_lenS, p_lenR, p_list, p_listS, p_listR, p_slice, p_allM, p_anyM, p_sumM, p_all, p_any, p_sum, p_max2, p_min2, p_remove, p_sorted, ints_snoc, ints_map, p_index, isl_l, py_drow, py_drows, ev_drow, ev_drows, fr_drow, fr_drows, p_sliceS, p_sliceR, p_src, p_srcS, p_srcT, p_srcR, src_l, src_f, p_rng1, p_rng2, p_enum, p_zip, p_app, p_pop, p_clear, p_rev, p_ext, p_ins, p_popAt, p_set, p_isi, p_frz, a_add, a_sub, a_mul, ixL, ixLR, cell_l, live_l, isl, py_int, py_bl, py_non, py_str, py_oi, py_lst, py_tup, py_scr, py_ints, py_bls, py_ois, py_row, py_rows, py_ref, ev_int, ev_bl, ev_str, ev_oi, ev_oI, ev_Io, ev_oN, ev_No, ev_ints, ev_row, ev_ois, ev_rows, non_oi, cut_map, ← List.map_take, ← List.map_drop, List.getElem?_cons_zero, List.getElem?_cons_succ, List.set_cons_zero, List.set_cons_succ, List.foldl_cons, List.foldl_nil, List.map_cons, List.map_nil, List.length_cons, List.length_nil, List.replicate, List.cons_append, List.nil_append, exists_eq_left, exists_eq_left', D.bl.injEq, D.int.injEq, D.tup.injEq, decide_eq_true_eq, decide_eq_false_iff_not, true_and, and_true, true_implies, List.length_map, fr_ref, fr_ints, fr_ois, fr_rows, fr_int, fr_lst, fr_row, fr_oi, fr_bl, fr_non, fr_cons, fr_nil, fr_tup, Fl.rt.injEq, Fl.nx.injEq, ex_neg, ex_neg', Bool.not_eq_true', Bool.not_eq_false', Bool.not_not, wipeE, omap_cons, omap_nil, at_0, at_1, at_2, oi_some, oi_none, oP_some, oP_none, Option.some.injEq, end_get, end_set, beq_self_eq_true, bne_self_eq_false, tn, tn0, tn1, fitL, mL, mR, nc, nc0, nc1, c_ltT, c_gtT, c_leT, ev_tup, ev_listc, ev_cons, ev_nil, ev_list0, ev_0list, c_inT, c_ninT, LIM, Int.zero_add, gc_id, Nat.le_refl, Option.map_some, Option.bind_some, isi_s, ty_int, ty_bl, ty_non, ty_lst, ty_tup, ty_str, ty_ref, ty_cl, ty_oi, isTy, Int.reduceLE, Int.reduceLT, Int.reducePow, Int.reduceAdd, Int.reduceSub, Int.reduceMul, Int.reduceNeg, Int.reduceEq, Int.reduceGT, Int.reduceGE, Int.reduceNe, Nat.reduceAdd, Nat.reduceSub, Nat.reduceLT, Nat.reduceLeDiff, Nat.reduceMul, Nat.reducePow, Nat.reduceBEq, Nat.reduceEqDiff, Int.reduceToNat, Bool.not_eq_true, Bool.not_true, Bool.not_false, Bool.not_eq_false, Bool.not_eq_eq_eq_not, reduceCtorEq, if_true, if_false, false_implies, Bool.false_eq_true, Bool.true_eq_false, and_self, not_true, not_false_iff, implies_true, forall_const, true_or, or_true, and_false, false_and, ge_iff_le, gt_iff_lt, cl_pairs, g_s, p_gT, p_gF, Bool.and_true, Bool.true_and, Bool.and_self, cl_ints, cl_bls, cl_oi, cl_ois, cl_row, cl_rows, cl_drow, cl_drows, cl_app, cl_lst, cl_cons, cl_nil, cl_int, cl_bl, cl_non, cl_str, cl_tup, fit, mfit, rt_pairs, sh_pairs, rt_bl, rt_non, rt_str, rt_tup, sh_non, sh_str, sh_tup, rt_ints, rt_oi, rt_ois, rt_row, rt_rows, rt_drow, rt_drows, rt_ref, rt_int, rt_cell, rt_cons, rt_nil, rt_lst, rt_app, p_gF, List.all_cons, List.all_nil, sh_ints, sh_oi, sh_ois, sh_row, sh_rows, sh_drow, sh_drows, sh_ref, sh_int, sh_bl, sh_cell, sh_cons, sh_nil, sh_lst, Nat.zero_add, Nat.add_zero, isNon]
  rw [o_cons]
  simp (disch := decide) only [ev_00, fr_pair, fr_pairs, py_pair, py_pairs, ev_pair, ev_pairs, ev_pairs0, anyPr, p_minR, p_maxR, p_sumR, p_allR, p_anyR, p_sortedR, o_nil, o_ret, o_expr, o_set, o_asg, o_ife, o_setIx, o_aug, o_augIx, o_kill, o_pass, o_retN, seqP_nx, seqP_rt, o_var, o_int, o_bl, o_non, o_str, o_cst, o_bin, o_neg, o_cmp, o_chain, o_isN, o_notN, o_and, o_or, o_and1, o_or1, o_and2, o_or2, o_not, o_lst, o_tup, o_ix, o_slice, o_part0, o_part1, o_call, o_bi, o_isi, o_frz, o_isB, o_lrg, p_isB, p_lrg1, p_lrg2, o_rev, o_par, p_revL, p_revS, p_revR, ← List.map_reverse, o_mth0, o_mth, o_evs0, o_evs1, o_slst, o_stup, o_rng, o_enum, o_zip, o_enumT, o_lset, o_srtP, p_enumT, p_lset, p_srtP, p_listT, p_tupL, p_sliceT, p_divmod, p_var, v_0, v_s, p_add, p_addL, p_addT, p_sub, p_mul, p_mulL, p_div, p_mod, p_pow, p_neg, p_alF, p_alT, p_lst, p_tup, p_not, p_cmp, c_eq, c_ne, c_lt, c_gt, c_le, c_ge, c_in, c_nin, anyI, ev_ints0, ev_row0, ev_0ints, ev_ois0, p_isN, p_notN, p_ix, p_ixT, p_ixS, p_ixR, at_m, p_len, p_lenT, p_lenS, p_lenR, p_list, p_listS, p_listR, p_slice, p_allM, p_anyM, p_sumM, p_all, p_any, p_sum, p_max2, p_min2, p_remove, p_sorted, ints_snoc, ints_map, p_index, isl_l, py_drow, py_drows, ev_drow, ev_drows, fr_drow, fr_drows, p_sliceS, p_sliceR, p_src, p_srcS, p_srcT, p_srcR, src_l, src_f, p_rng1, p_rng2, p_enum, p_zip, p_app, p_pop, p_clear, p_rev, p_ext, p_ins, p_popAt, p_set, p_isi, p_frz, a_add, a_sub, a_mul, ixL, ixLR, cell_l, live_l, isl, py_int, py_bl, py_non, py_str, py_oi, py_lst, py_tup, py_scr, py_ints, py_bls, py_ois, py_row, py_rows, py_ref, ev_int, ev_bl, ev_str, ev_oi, ev_oI, ev_Io, ev_oN, ev_No, ev_ints, ev_row, ev_ois, ev_rows, non_oi, cut_map, ← List.map_take, ← List.map_drop, List.getElem?_cons_zero, List.getElem?_cons_succ, List.set_cons_zero, List.set_cons_succ, List.foldl_cons, List.foldl_nil, List.map_cons, List.map_nil, List.length_cons, List.length_nil, List.replicate, List.cons_append, List.nil_append, exists_eq_left, exists_eq_left', D.bl.injEq, D.int.injEq, D.tup.injEq, decide_eq_true_eq, decide_eq_false_iff_not, true_and, and_true, true_implies, List.length_map, fr_ref, fr_ints, fr_ois, fr_rows, fr_int, fr_lst, fr_row, fr_oi, fr_bl, fr_non, fr_cons, fr_nil, fr_tup, Fl.rt.injEq, Fl.nx.injEq, ex_neg, ex_neg', Bool.not_eq_true', Bool.not_eq_false', Bool.not_not, wipeE, omap_cons, omap_nil, at_0, at_1, at_2, oi_some, oi_none, oP_some, oP_none, Option.some.injEq, end_get, end_set, beq_self_eq_true, bne_self_eq_false, tn, tn0, tn1, fitL, mL, mR, nc, nc0, nc1, c_ltT, c_gtT, c_leT, ev_tup, ev_listc, ev_cons, ev_nil, ev_list0, ev_0list, c_inT, c_ninT, LIM, Int.zero_add, gc_id, Nat.le_refl, Option.map_some, Option.bind_some, isi_s, ty_int, ty_bl, ty_non, ty_lst, ty_tup, ty_str, ty_ref, ty_cl, ty_oi, isTy, Int.reduceLE, Int.reduceLT, Int.reducePow, Int.reduceAdd, Int.reduceSub, Int.reduceMul, Int.reduceNeg, Int.reduceEq, Int.reduceGT, Int.reduceGE, Int.reduceNe, Nat.reduceAdd, Nat.reduceSub, Nat.reduceLT, Nat.reduceLeDiff, Nat.reduceMul, Nat.reducePow, Nat.reduceBEq, Nat.reduceEqDiff, Int.reduceToNat, Bool.not_eq_true, Bool.not_true, Bool.not_false, Bool.not_eq_false, Bool.not_eq_eq_eq_not, reduceCtorEq, if_true, if_false, false_implies, Bool.false_eq_true, Bool.true_eq_false, and_self, not_true, not_false_iff, implies_true, forall_const, true_or, or_true, and_false, false_and, ge_iff_le, gt_iff_lt, cl_pairs, g_s, p_gT, p_gF, Bool.and_true, Bool.true_and, Bool.and_self, cl_ints, cl_bls, cl_oi, cl_ois, cl_row, cl_rows, cl_drow, cl_drows, cl_app, cl_lst, cl_cons, cl_nil, cl_int, cl_bl, cl_non, cl_str, cl_tup, fit, mfit, rt_pairs, sh_pairs, rt_bl, rt_non, rt_str, rt_tup, sh_non, sh_str, sh_tup, rt_ints, rt_oi, rt_ois, rt_row, rt_rows, rt_drow, rt_drows, rt_ref, rt_int, rt_cell, rt_cons, rt_nil, rt_lst, rt_app, p_gF, List.all_cons, List.all_nil, sh_ints, sh_oi, sh_ois, sh_row, sh_rows, sh_drow, sh_drows, sh_ref, sh_int, sh_bl, sh_cell, sh_cons, sh_nil, sh_lst, Nat.zero_add, Nat.add_zero, kh]
  refine ⟨⟨by omega, by omega⟩, ?_⟩
  rw [hn]
  refine (by_turns_tail false t [rgi 0 n] T hn (by simp) (fun o h => by rw [List.mem_singleton.mp h]) (by simp)).imp ?_
  rintro fl m' rfl
  refine ⟨rfl, .inl ?_⟩
  unfold turnsR
  simp only [cl_pairs, g_s, p_gT, p_gF, Bool.and_true, Bool.true_and, Bool.and_self, cl_ints, cl_bls, cl_oi, cl_ois, cl_row, cl_rows, cl_drow, cl_drows, cl_app, cl_lst, cl_cons, cl_nil, cl_int, cl_bl, cl_non, cl_str, cl_tup]
/-- what a hand sees at another -/
def seen (t : List (List Int)) (d : List (Option Int)) (a b : Int) : Int := worth (rowAt t a) (heap d (some b))
/-- all tuples of two unlike hands -/
def pairsTo (n i : Nat) : List (Int × Int) := (rgi 0 i).flatMap fun a => ((rgi 0 n).filter fun b => decide (b ≠ a)).map fun b => (a, b)
def pairsL (n : Nat) : List (Int × Int) := pairsTo n n
theorem pairsTo_snoc (n i : Nat) : pairsTo n (i + 1) = pairsTo n i ++ ((rgi 0 n).filter fun b => decide (b ≠ (i : Int))).map fun b => ((i : Int), b) := by
  unfold pairsTo
  rw [rgi_snoc, List.flatMap_append, List.flatMap_cons, List.flatMap_nil, List.append_nil, Int.zero_add]
theorem pairsTo_len (n i : Nat) : (pairsTo n i).length ≤ i * n := by
  induction i with
  | zero => simp [pairsTo, rgi]
  | succ i ih =>
    rw [pairsTo_snoc, List.length_append, List.length_map, Nat.add_mul, Nat.one_mul]
    have := List.length_filter_le (fun b => decide (b ≠ (i : Int))) (rgi 0 n)
    rw [rgi_len] at this
    omega
theorem pairsL_mem {n : Nat} {p : Int × Int} : p ∈ pairsL n ↔ (0 ≤ p.1 ∧ p.1 < n) ∧ (0 ≤ p.2 ∧ p.2 < n) ∧ p.2 ≠ p.1 := by
  obtain ⟨a, b⟩ := p
  unfold pairsL pairsTo
  rw [List.mem_flatMap]
  refine ⟨?_, ?_⟩
  · rintro ⟨x, hx, h⟩
    obtain ⟨y, hy, e⟩ := List.mem_map.mp h
    obtain ⟨h1, h2⟩ := List.mem_filter.mp hy
    have := rgi_mem.mp hx
    have := rgi_mem.mp h1
    have h3 := of_decide_eq_true h2
    cases e
    exact ⟨by omega, by omega, h3⟩
  · rintro ⟨h1, h2, h3⟩
    simp only at h1 h2 h3
    exact ⟨a, rgi_mem.mpr (by omega), List.mem_map.mpr ⟨b, List.mem_filter.mpr ⟨rgi_mem.mpr (by omega), decide_eq_true h3⟩, rfl⟩⟩
def envBut (t : List (List Int)) (d : List (Option Int)) (a b x : Int) : Bool := decide (seen t d a a < seen t d a b - pick (rowAt t a) x)
def envBeyond (t : List (List Int)) (d : List (Option Int)) (a b : Int) : Bool := match spare (rowAt t a) (heap d (some b)) with
  | none => false
  | some x => envBut t d a b x
def fair (t : List (List Int)) (d : List (Option Int)) : Bool := !((pairsL t.length).any fun p => envBeyond t d p.1 p.2)
/-! deals by turns: envy goes no further than the first pick -/
def fstV (t : List (List Int)) (a : Int) : Option Int → Int
  | none => 0
  | some x => pick (rowAt t a) x
def less1 (k : Int) : Int := if k ≤ 1 then 0 else k - 1
theorem seen_new {t : List (List Int)} {d : List (Option Int)} {j : Nat} {h : Int} (hj : j < d.length) (hn : d[j] = none) (a b : Int) : seen t (d.set j (some h)) a b = seen t d a b + (if b = h then pick (rowAt t a) j else 0) := by
  unfold seen
  by_cases e : b = h
  · subst e
    rw [if_pos rfl, ← heap_new hj hn, worth_perm _ (isort_perm _)]
    unfold worth
    rw [List.map_append, List.sum_append]
    simp
  · rw [if_neg e, heap_other hj hn (by simp [e]) (by simp), Int.add_zero]
structure Turn (t : List (List Int)) (d : List (Option Int)) (r : Int → Int) (f : Int → Option Int) : Prop where
  cnt : ∀ b, 0 ≤ r b
  zero : ∀ b, f b = none → r b = 0 ∧ heap d (some b) = []
  one : ∀ b x, f b = some x → 1 ≤ r b ∧ x ∈ heap d (some b)
  own : ∀ a b : Int, (0 ≤ a ∧ a < t.length) → (0 ≤ b ∧ b < t.length) → a ≠ b → ∀ v, (v = 0 ∨ ∃ x : Nat, d[x]? = some none ∧ v = pick (rowAt t a) x) → less1 (r b) ≤ r a ∧ seen t d a b - fstV t a (f b) + (r a - less1 (r b)) * v ≤ seen t d a a
def rUp (r : Int → Int) (h b : Int) : Int := if b = h then r b + 1 else r b
def fUp (f : Int → Option Int) (h x b : Int) : Option Int := if b = h then (match f b with
  | none => some x
  | some y => some y) else f b
theorem Turn.nil {t : List (List Int)} (m : Nat) : Turn t (List.replicate m none) (fun _ => 0) (fun _ => none) := by
  have hh : ∀ b, heap (List.replicate m none) (some b) = [] := fun b => by
    refine List.eq_nil_iff_forall_not_mem.mpr fun x hx => ?_
    have := (heap_mem hx).2.2
    rw [List.getElem?_replicate] at this
    split at this <;> simp at this
  refine ⟨fun _ => Int.le_refl _, fun b _ => ⟨rfl, hh b⟩, fun b x h => by (cases h), fun a b _ _ _ v _ => ⟨by decide, ?_⟩⟩
  unfold seen
  rw [hh, hh]
  simp [worth, fstV, less1]
theorem Turn.step {t : List (List Int)} {d : List (Option Int)} {r : Int → Int} {f : Int → Option Int} (H : Turn t d r f) {j : Nat} {h : Int} (hj : j < d.length) (hn : d[j] = none) (hh : ∀ a : Int, 0 ≤ a → a < t.length → r h ≤ r a) (w0 : ∀ a : Int, 0 ≤ a → a < t.length → 0 ≤ pick (rowAt t a) j) (hg : ∀ x : Nat, d[x]? = some none → pick (rowAt t h) x ≤ pick (rowAt t h) j) : Turn t (d.set j (some h)) (rUp r h) (fUp f h j) := by
  have hme : (j : Int) ∈ heap (d.set j (some h)) (some h) := heap_iff.mpr ⟨by omega, by rw [set_get _ _ _ _ hj, if_pos (by omega)]⟩
  have hmo : ∀ x b, x ∈ heap d (some b) → x ∈ heap (d.set j (some h)) (some b) := fun x b hx => by
    obtain ⟨h1, h2⟩ := heap_iff.mp hx
    refine heap_iff.mpr ⟨h1, ?_⟩
    rw [set_get _ _ _ _ hj, if_neg ?_]
    · exact h2
    · intro e
      rw [e, List.getElem?_eq_getElem hj, hn] at h2
      simp at h2
  have hleft : ∀ x : Nat, (d.set j (some h))[x]? = some none → d[x]? = some none := fun x hx => by
    rw [set_get _ _ _ _ hj] at hx
    split at hx
    · simp at hx
    · exact hx
  have hjn : d[j]? = some none := by rw [List.getElem?_eq_getElem hj, hn]
  refine ⟨fun b => ?_, fun b e => ?_, fun b x e => ?_, fun a b ha hb hab v hv => ?_⟩
  · have := H.cnt b
    unfold rUp
    split <;> omega
  · unfold fUp at e
    split at e
    · split at e <;> cases e
    · rename_i hbh
      obtain ⟨h1, h2⟩ := H.zero b e
      refine ⟨by unfold rUp; rw [if_neg hbh]; exact h1, ?_⟩
      rw [heap_other hj hn (by simp [hbh]) (by simp), h2]
  · unfold fUp at e
    unfold rUp
    split at e
    · rename_i hbh
      rw [if_pos hbh]
      have := H.cnt b
      refine ⟨by omega, ?_⟩
      split at e
      · cases e
        rw [hbh]
        exact hme
      · rename_i y hy
        cases e
        exact hmo _ _ (H.one b _ hy).2
    · rename_i hbh
      rw [if_neg hbh]
      exact ⟨(H.one b x e).1, hmo _ _ (H.one b x e).2⟩
  · have hv' : v = 0 ∨ ∃ x : Nat, d[x]? = some none ∧ v = pick (rowAt t a) x := by
      rcases hv with q | ⟨x, q1, q2⟩
      · exact .inl q
      · exact .inr ⟨x, hleft x q1, q2⟩
    obtain ⟨o1, o2⟩ := H.own a b ha hb hab v hv'
    rw [seen_new hj hn, seen_new hj hn]
    by_cases ea : a = h
    · have eb : b ≠ h := fun e => hab (ea.trans e.symm)
      rw [if_neg eb, if_pos ea]
      unfold rUp fUp
      rw [if_pos ea, if_neg eb, if_neg eb]
      have hvj : v ≤ pick (rowAt t a) j := by
        rcases hv' with q | ⟨x, q1, q2⟩
        · rw [q]
          exact w0 a ha.1 ha.2
        · rw [q2, ea]
          exact hg x q1
      refine ⟨by omega, ?_⟩
      rw [show r a + 1 - less1 (r b) = (r a - less1 (r b)) + 1 by omega, Int.add_mul, Int.one_mul]
      omega
    · rw [if_neg ea]
      unfold rUp
      rw [if_neg ea]
      by_cases eb : b = h
      · rw [if_pos eb, if_pos eb]
        unfold fUp
        rw [if_pos eb]
        have hr := hh a ha.1 ha.2
        rw [← eb] at hr
        cases ef : f b with
        | none =>
          obtain ⟨z1, z2⟩ := H.zero b ef
          have es : seen t d a b = 0 := by
            unfold seen
            rw [z2]
            rfl
          rw [ef, z1, es] at o2
          have e0 : less1 0 = 0 := rfl
          have e1 : less1 (0 + 1) = 0 := rfl
          have ec := H.cnt a
          rw [z1, e1, es]
          rw [e0] at o2
          refine ⟨ec, ?_⟩
          simp only [fstV] at o2 ⊢
          omega
        | some y =>
          have h1 := (H.one b y ef).1
          obtain ⟨p1, p2⟩ := H.own a b ha hb hab (pick (rowAt t a) j) (.inr ⟨j, hjn, rfl⟩)
          rw [ef] at o2 p2
          have e0 : less1 (r b) = r b - 1 := by
            unfold less1
            split <;> omega
          have e1 : less1 (r b + 1) = r b := by
            unfold less1
            split <;> omega
          rw [e0] at o2 p2
          rw [e1]
          refine ⟨hr, ?_⟩
          rw [show r a - (r b - 1) = (r a - r b) + 1 by omega, Int.add_mul, Int.one_mul] at o2 p2
          simp only
          generalize pick (rowAt t a) j = w at *
          have hk : 0 ≤ r a - r b := by omega
          rcases Int.le_total v w with q | q
          · have := Int.mul_le_mul_of_nonneg_left q hk
            omega
          · omega
      · rw [if_neg eb, if_neg eb]
        unfold fUp
        rw [if_neg eb]
        exact ⟨o1, by omega⟩
theorem Turn.fin {t : List (List Int)} {d : List (Option Int)} {r : Int → Int} {f : Int → Option Int} (H : Turn t d r f) {a b : Int} (ha : 0 ≤ a ∧ a < t.length) (hb : 0 ≤ b ∧ b < t.length) (hab : a ≠ b) : heap d (some b) = [] ∨ ∃ x, x ∈ heap d (some b) ∧ seen t d a b - pick (rowAt t a) x ≤ seen t d a a := by
  have h0 := (H.own a b ha hb hab 0 (.inl rfl)).2
  rw [Int.mul_zero, Int.add_zero] at h0
  cases e : f b with
  | none => exact .inl (H.zero b e).2
  | some x =>
    rw [e] at h0
    exact .inr ⟨x, (H.one b x e).2, h0⟩
theorem fair_of {t : List (List Int)} {d : List (Option Int)} (h : ∀ a b : Int, (0 ≤ a ∧ a < t.length) → (0 ≤ b ∧ b < t.length) → b ≠ a → envBeyond t d a b = false) : fair t d = true := by
  unfold fair
  rw [Bool.not_eq_true', List.any_eq_false]
  intro p hp
  obtain ⟨h1, h2, h3⟩ := pairsL_mem.mp hp
  rw [h p.1 p.2 h1 h2 h3]
  decide
theorem fair_no {t : List (List Int)} {d : List (Option Int)} {a b : Int} (ha : 0 ≤ a ∧ a < t.length) (hb : 0 ≤ b ∧ b < t.length) (hab : b ≠ a) (h : envBeyond t d a b = true) : fair t d = false := by
  unfold fair
  rw [Bool.not_eq_false', List.any_eq_true]
  exact ⟨(a, b), pairsL_mem.mpr ⟨ha, hb, hab⟩, h⟩
theorem beyond_not {t : List (List Int)} {d : List (Option Int)} {a b : Int} (h : heap d (some b) = [] ∨ ∃ x, x ∈ heap d (some b) ∧ seen t d a b - pick (rowAt t a) x ≤ seen t d a a) : envBeyond t d a b = false := by
  unfold envBeyond
  cases e : spare (rowAt t a) (heap d (some b)) with
  | none => rfl
  | some s =>
    rcases h with q | ⟨x, q1, q2⟩
    · rw [q] at e
      cases e
    · have := (spare_max e (heap_pw _ _) x q1).1
      unfold envBut
      simp only
      exact decide_eq_false (by omega)
theorem Turn.fair {t : List (List Int)} {d : List (Option Int)} {r : Int → Int} {f : Int → Option Int} (H : Turn t d r f) : fair t d = true :=
  fair_of fun a b ha hb hab => beyond_not (H.fin ha hb hab.symm)
/-! how often each hand has picked -/
theorem hsSeq_add {os : List (List Int)} {n : Nat} (q : Nat) : ∀ s, s ≤ n → (∀ o ∈ os, o.length = n) → 0 < os.length → hsSeq os n (n * q + s) = hsSeq os n (n * q) ++ (rowAt os ((q % os.length : Nat) : Int)).take s := fun s hs hl op => by
  have hlt : q % os.length < os.length := Nat.mod_lt _ op
  have h2 : rowAt os ((q % os.length : Nat) : Int) = os[q % os.length] := by
    unfold rowAt
    rw [List.getD_eq_getElem?_getD, Int.toNat_natCast, List.getElem?_eq_getElem hlt]
    rfl
  have h3 : (rowAt os ((q % os.length : Nat) : Int)).length = n := by rw [h2]; exact hl _ (List.getElem_mem _)
  induction s with
  | zero => simp
  | succ s ih =>
    rw [← Nat.add_assoc, hsSeq_snoc, ih (by omega), List.append_assoc, List.take_succ_eq_append_getElem (by omega)]
    congr 2
    unfold hsAt
    rw [Nat.mul_add_div (by omega), Nat.div_eq_of_lt (show s < n by omega), Nat.mul_add_mod, Nat.mod_eq_of_lt (show s < n by omega), Nat.add_zero]
    unfold pick
    rw [List.getD_eq_getElem?_getD, Int.toNat_natCast, List.getElem?_eq_getElem (by omega)]
    rfl
theorem rgi_nd (n : Nat) : (rgi 0 n).Nodup := by
  unfold rgi
  refine List.Pairwise.map _ (fun a b hab => ?_) List.nodup_range
  omega
theorem hsSeq_full {os : List (List Int)} {n : Nat} (ho : ∀ o ∈ os, o.Perm (rgi 0 n)) (op : 0 < os.length) (q : Nat) (a : Int) (a0 : 0 ≤ a) (a1 : a < n) : (hsSeq os n (n * q)).count a = q := by
  have hl : ∀ o ∈ os, o.length = n := fun o h => by rw [(ho o h).length_eq, rgi_len]
  induction q with
  | zero => simp [hsSeq]
  | succ q ih =>
    have hlt : q % os.length < os.length := Nat.mod_lt _ op
    have h2 : rowAt os ((q % os.length : Nat) : Int) = os[q % os.length] := by
      unfold rowAt
      rw [List.getD_eq_getElem?_getD, Int.toNat_natCast, List.getElem?_eq_getElem hlt]
      rfl
    have h3 := ho _ (List.getElem_mem hlt)
    rw [Nat.mul_succ, hsSeq_add q n (Nat.le_refl _) hl op, List.count_append, ih, h2, List.take_of_length_le (by rw [hl _ (List.getElem_mem hlt)]; exact Nat.le_refl _), h3.count_eq, (rgi_nd n).count, if_pos (rgi_mem.mpr (by omega))]
theorem hsSeq_cnt {os : List (List Int)} {n : Nat} (ho : ∀ o ∈ os, o.Perm (rgi 0 n)) (op : 0 < os.length) (k : Nat) (hn : 0 < n) (a : Int) (a0 : 0 ≤ a) (a1 : a < n) : (hsSeq os n k).count a = k / n + ((rowAt os ((k / n % os.length : Nat) : Int)).take (k % n)).count a := by
  have hl : ∀ o ∈ os, o.length = n := fun o h => by rw [(ho o h).length_eq, rgi_len]
  have e : k = n * (k / n) + k % n := (Nat.div_add_mod k n).symm
  have hm := Nat.mod_lt k hn
  conv => lhs; rw [e]
  rw [hsSeq_add (k / n) (k % n) (by omega) hl op, List.count_append, hsSeq_full ho op _ a a0 a1]
theorem hsAt_ok {os : List (List Int)} {n : Nat} (ho : ∀ o ∈ os, o.Perm (rgi 0 n)) (op : 0 < os.length) (k : Nat) (hn : 0 < n) : (0 ≤ hsAt os n k ∧ hsAt os n k < n) ∧ (hsSeq os n k).count (hsAt os n k) = k / n ∧ (rowAt os ((k / n % os.length : Nat) : Int))[k % n]? = some (hsAt os n k) := by
  have hl : ∀ o ∈ os, o.length = n := fun o h => by rw [(ho o h).length_eq, rgi_len]
  have hm := Nat.mod_lt k hn
  have hlt : k / n % os.length < os.length := Nat.mod_lt _ op
  have h2 : rowAt os ((k / n % os.length : Nat) : Int) = os[k / n % os.length] := by
    unfold rowAt
    rw [List.getD_eq_getElem?_getD, Int.toNat_natCast, List.getElem?_eq_getElem hlt]
    rfl
  have h3 := ho _ (List.getElem_mem hlt)
  have h4 := hl _ (List.getElem_mem hlt)
  have h5 : hsAt os n k = (os[k / n % os.length])[k % n]'(by omega) := by
    unfold hsAt pick
    rw [h2, List.getD_eq_getElem?_getD, Int.toNat_natCast, List.getElem?_eq_getElem (by omega)]
    rfl
  have h6 := rgi_mem.mp (h3.mem_iff.mp (List.getElem_mem (l := os[k / n % os.length]) (n := k % n) (by omega)))
  rw [← h5] at h6
  have hr : 0 ≤ hsAt os n k ∧ hsAt os n k < n := by omega
  refine ⟨hr, ?_, ?_⟩
  · rw [hsSeq_cnt ho op k hn _ hr.1 hr.2]
    have : ((rowAt os ((k / n % os.length : Nat) : Int)).take (k % n)).count (hsAt os n k) = 0 := by
      rw [List.count_eq_zero, h2, h5]
      intro hmem
      obtain ⟨i, hi, e⟩ := List.getElem_of_mem hmem
      rw [List.getElem_take] at e
      rw [List.length_take] at hi
      have := (List.getElem_inj (h3.nodup_iff.mpr (rgi_nd n))).mp e
      omega
    omega
  · rw [h2, List.getElem?_eq_getElem (by omega), h5]
def firstOf (ps : List (Int × Int)) (b : Int) : Option Int := ((ps.filter fun p => decide (p.1 = b)).map (·.2)).head?
def cntI (hs : List Int) (a : Int) : Int := ((hs.count a : Nat) : Int)
theorem Turn.cong {t : List (List Int)} {d : List (Option Int)} {r r' : Int → Int} {f f' : Int → Option Int} (H : Turn t d r f) (h : ∀ a, r a = r' a) (h' : ∀ a, f a = f' a) : Turn t d r' f' := by
  rw [← (funext h : r = r'), ← (funext h' : f = f')]
  exact H
theorem firstOf_up (ps : List (Int × Int)) (h x b : Int) : fUp (firstOf ps) h x b = firstOf (ps ++ [(h, x)]) b := by
  unfold fUp firstOf
  rw [List.filter_append, List.map_append]
  by_cases e : b = h
  · subst e
    rw [if_pos rfl]
    simp only [List.filter_cons, decide_true, if_true, List.filter_nil, List.map_cons, List.map_nil]
    cases (ps.filter fun p => decide (p.1 = b)).map (·.2) with
    | nil => rfl
    | cons y r => rfl
  · rw [if_neg e]
    simp only [List.filter_cons, List.filter_nil]
    rw [if_neg (by simp; exact fun z => e z.symm)]
    simp
theorem cntI_up (hs : List Int) (h b : Int) : rUp (cntI hs) h b = cntI (hs ++ [h]) b := by
  unfold rUp cntI
  rw [List.count_append]
  by_cases e : b = h
  · subst e
    rw [if_pos rfl, List.count_singleton_self]
    simp
  · rw [if_neg e, List.count_eq_zero.mpr (show b ∉ [h] by simpa using e)]
    simp
theorem turnSt_turn {n m : Nat} {t os : List (List Int)} (T : TabM m t) (w0 : ∀ r ∈ t, ∀ w ∈ r, 0 ≤ w) (hn : t.length = n) (ho : ∀ o ∈ os, o.Perm (rgi 0 n)) (op : 0 < os.length) (k : Nat) (hk : k ≤ m) : Turn t (turnSt t m (hsSeq os n k)).1 (cntI (hsSeq os n k)) (firstOf (turnSt t m (hsSeq os n k)).2) := by
  have n0 : 0 < n := by have := T.pos; omega
  induction k with
  | zero => exact (Turn.nil m).cong (fun a => rfl) (fun a => rfl)
  | succ k ih =>
    have H := ih (by omega)
    obtain ⟨e1, e2⟩ := turnSt_left t m (hsSeq os n k) (by rw [hsSeq_len]; omega)
    rw [hsSeq_len] at e2
    have hne : heap (turnSt t m (hsSeq os n k)).1 none ≠ [] := fun e => by
      rw [e] at e2
      simp at e2
      omega
    obtain ⟨p0, p1, ⟨p2, p3⟩, p4, p5⟩ := pickOf_ok (t := t) (hsAt os n k) hne
    obtain ⟨a1, a2, a3⟩ := hsAt_ok ho op k n0
    rw [hsSeq_snoc, turnSt_snoc]
    unfold pickSt
    refine (H.step (h := hsAt os n k) p2 p3 (fun a a0 ha => ?_) (fun a a0 ha => ?_) (fun x hx => ?_)).cong (fun a => cntI_up _ _ _) (fun a => ?_)
    · unfold cntI
      rw [a2, hsSeq_cnt ho op k n0 a a0 (by omega)]
      exact Int.ofNat_le.mpr (Nat.le_add_right _ _)
    · obtain ⟨q1, q2, q3⟩ := T.at a0 ha
      rw [e1] at p2
      exact w0 _ q2 _ (pick_mem (by omega) (by rw [q3]; exact Int.ofNat_lt.mpr p2))
    · rw [p4]
      exact p5 x hx
    · rw [p4]
      exact firstOf_up _ _ _ _
/-- ahead in each round: no envy -/
structure Ahead (t : List (List Int)) (d : List (Option Int)) (a b : Int) (k : Int) : Prop where
  k0 : 0 ≤ k
  own : ∀ v, (v = 0 ∨ ∃ x : Nat, d[x]? = some none ∧ v = pick (rowAt t a) x) → seen t d a b + k * v ≤ seen t d a a
theorem Ahead.step {t : List (List Int)} {d : List (Option Int)} {a b k : Int} (H : Ahead t d a b k) {j : Nat} {h : Int} (hj : j < d.length) (hn : d[j] = none) (hab : a ≠ b) (hb : h = b → 1 ≤ k) (w0 : 0 ≤ pick (rowAt t a) j) (hg : h = a → ∀ x : Nat, d[x]? = some none → pick (rowAt t a) x ≤ pick (rowAt t a) j) : Ahead t (d.set j (some h)) a b (if h = a then k + 1 else if h = b then k - 1 else k) := by
  have hleft : ∀ x : Nat, (d.set j (some h))[x]? = some none → d[x]? = some none := fun x hx => by
    rw [set_get _ _ _ _ hj] at hx
    split at hx
    · simp at hx
    · exact hx
  have hjn : d[j]? = some none := by rw [List.getElem?_eq_getElem hj, hn]
  have k0 := H.k0
  refine ⟨?_, fun v hv => ?_⟩
  · split
    · omega
    · split
      · rename_i e
        have := hb e
        omega
      · exact k0
  · have hv' : v = 0 ∨ ∃ x : Nat, d[x]? = some none ∧ v = pick (rowAt t a) x := by
      rcases hv with q | ⟨x, q1, q2⟩
      · exact .inl q
      · exact .inr ⟨x, hleft x q1, q2⟩
    have o := H.own v hv'
    rw [seen_new hj hn, seen_new hj hn]
    by_cases ea : h = a
    · subst ea
      rw [if_pos rfl, if_pos rfl, if_neg (show ¬ b = h from fun e => hab e.symm), Int.add_mul, Int.one_mul]
      have hvj : v ≤ pick (rowAt t h) j := by
        rcases hv' with q | ⟨x, q1, q2⟩
        · rw [q]
          exact w0
        · rw [q2]
          exact hg rfl x q1
      omega
    · rw [if_neg ea, if_neg (show ¬ a = h from fun e => ea e.symm)]
      by_cases eb : h = b
      · subst eb
        rw [if_pos rfl, if_pos rfl]
        have hk := hb rfl
        have p := H.own (pick (rowAt t a) j) (.inr ⟨j, hjn, rfl⟩)
        generalize pick (rowAt t a) j = w at *
        rw [Int.sub_mul, Int.one_mul]
        have e1 : k * v = (k - 1) * v + v := by rw [Int.sub_mul, Int.one_mul]; omega
        have e2 : k * w = (k - 1) * w + w := by rw [Int.sub_mul, Int.one_mul]; omega
        rcases Int.le_total v w with q | q
        · have := Int.mul_le_mul_of_nonneg_left q (show 0 ≤ k - 1 by omega)
          omega
        · omega
      · rw [if_neg eb, if_neg (show ¬ b = h from fun e => eb e.symm)]
        omega
theorem turnSt_ahead {n m : Nat} {t : List (List Int)} {o : List Int} (T : TabM m t) (w0 : ∀ r ∈ t, ∀ w ∈ r, 0 ≤ w) (hn : t.length = n) (ho : o.Perm (rgi 0 n)) {i j : Nat} (hij : i < j) (hj : j < n) (k : Nat) (hk : k ≤ m) : Ahead t (turnSt t m (hsSeq [o] n k)).1 (pick o i) (pick o j) (if i < k % n ∧ k % n ≤ j then 1 else 0) := by
  have n0 : 0 < n := by omega
  have ol : o.length = n := by rw [ho.length_eq, rgi_len]
  have ho' : ∀ x ∈ [o], x.Perm (rgi 0 n) := fun x h => by rw [List.mem_singleton.mp h]; exact ho
  have hpk : ∀ z, (h : z < n) → pick o (z : Nat) = o[z]'(by rw [ol]; exact h) := fun z h => by
    unfold pick
    rw [List.getD_eq_getElem?_getD, Int.toNat_natCast, List.getElem?_eq_getElem (by omega)]
    rfl
  have hinj : ∀ y z, y < n → z < n → pick o (y : Nat) = pick o (z : Nat) → y = z := fun y z hy hz e => by
    rw [hpk y hy, hpk z hz] at e
    exact (List.getElem_inj (ho.nodup_iff.mpr (rgi_nd n))).mp e
  have hrng : ∀ z, z < n → 0 ≤ pick o (z : Nat) ∧ pick o (z : Nat) < n := fun z hz => by
    rw [hpk z hz]
    have := rgi_mem.mp (ho.mem_iff.mp (List.getElem_mem (l := o) (n := z) (by omega)))
    omega
  induction k with
  | zero =>
    rw [Nat.zero_mod, if_neg (by omega)]
    refine ⟨by omega, fun v _ => ?_⟩
    have hh : ∀ b, heap (List.replicate m none) (some b) = [] := fun b => by
      refine List.eq_nil_iff_forall_not_mem.mpr fun x hx => ?_
      have := (heap_mem hx).2.2
      rw [List.getElem?_replicate] at this
      split at this <;> simp at this
    show seen t (List.replicate m none) _ _ + _ ≤ seen t (List.replicate m none) _ _
    unfold seen
    rw [hh, hh]
    simp [worth]
  | succ k ih =>
    have H := ih (by omega)
    obtain ⟨e1, e2⟩ := turnSt_left t m (hsSeq [o] n k) (by rw [hsSeq_len]; omega)
    rw [hsSeq_len] at e2
    have hne : heap (turnSt t m (hsSeq [o] n k)).1 none ≠ [] := fun e => by
      rw [e] at e2
      simp at e2
      omega
    obtain ⟨p0, p1, ⟨p2, p3⟩, p4, p5⟩ := pickOf_ok (t := t) (hsAt [o] n k) hne
    have hm := Nat.mod_lt k n0
    have hat : hsAt [o] n k = pick o ((k % n : Nat) : Int) := by
      unfold hsAt
      rw [show rowAt [o] ((k / n % [o].length : Nat) : Int) = o by simp [rowAt, Nat.mod_one]]
    rw [hsSeq_snoc, turnSt_snoc]
    unfold pickSt
    have ra := hrng i (by omega)
    obtain ⟨q1, q2, q3⟩ := T.at ra.1 (by omega)
    have pl := (heap_mem p1).2.1
    have S := H.step (h := hsAt [o] n k) p2 p3 (fun e => by have := hinj i j (by omega) hj e; omega) (fun e => by
      rw [hat] at e
      have := hinj _ _ hm hj e
      rw [if_pos (by omega)]
      omega) (w0 _ q2 _ (pick_mem (by omega) (by omega))) (fun e x hx => by
      rw [p4, ← e]
      exact p5 x hx)
    refine cast (congrArg _ ?_) S
    have ea : hsAt [o] n k = pick o (i : Nat) ↔ k % n = i := by
      rw [hat]
      exact ⟨fun e => hinj _ _ hm (by omega) e, fun e => by rw [e]⟩
    have eb : hsAt [o] n k = pick o (j : Nat) ↔ k % n = j := by
      rw [hat]
      exact ⟨fun e => hinj _ _ hm hj e, fun e => by rw [e]⟩
    have hs : (k + 1) % n = if k % n + 1 = n then 0 else k % n + 1 := by
      rw [Nat.add_mod]
      by_cases e : n = 1
      · subst e
        simp [Nat.mod_one]
      · rw [Nat.mod_eq_of_lt (show 1 < n by omega)]
        split
        · rename_i e2
          rw [e2, Nat.mod_self]
        · exact Nat.mod_eq_of_lt (by omega)
    simp only [ea, eb, hs]
    by_cases c1 : k % n = i
    · rw [if_pos c1]
      split <;> split <;> split <;> omega
    · rw [if_neg c1]
      by_cases c2 : k % n = j
      · rw [if_pos c2]
        split <;> split <;> split <;> omega
      · rw [if_neg c2]
        split <;> split <;> split <;> omega
theorem heap_rgi (d : List (Option Int)) (o : Option Int) : heap d o = (rgi 0 d.length).filter fun i => decide (d.getD i.toNat none = o) := by
  have h : ∀ d : List (Option Int), heap d o = (rgi 0 d.length).filter fun i => decide (d.getD i.toNat none = o) := fun d => by
    induction d using snoc_ind with
    | nil => rfl
    | snoc d a ih =>
      have hs : heap (d ++ [a]) o = heap d o ++ (if a = o then [(d.length : Int)] else []) := by
        unfold heap
        rw [List.zipIdx_append, List.filter_append, List.map_append]
        congr 1
        by_cases h : a = o
        · simp [h]
        · simp [h]
      have hr : rgi 0 (d ++ [a]).length = rgi 0 d.length ++ [(d.length : Int)] := by
        unfold rgi
        rw [List.length_append, List.length_singleton, List.range_succ, List.map_append]
        simp
      rw [hs, hr, List.filter_append, ih]
      congr 1
      · refine List.filter_congr fun x hx => ?_
        have hx2 : 0 ≤ x ∧ x < d.length := by
          unfold rgi at hx
          obtain ⟨k, hk, rfl⟩ := List.mem_map.mp hx
          have := List.mem_range.mp hk
          omega
        have : (d ++ [a]).getD x.toNat none = d.getD x.toNat none := by
          simp only [List.getD_eq_getElem?_getD]
          rw [List.getElem?_append_left (by omega)]
        rw [this]
      · have : (d ++ [a]).getD ((d.length : Int)).toNat none = a := by simp
        rw [List.filter_cons, this]
        by_cases h : a = o
        · simp [h]
        · simp [h]
  exact h d
theorem dget {d : List (Option Int)} {j : Nat} (h : j < d.length) : L2.atI d (j : Int) = some (d.getD j none) := by
  rw [atI_pos (by omega) (by omega), List.getD_eq_getElem?_getD]
  simp [h]
theorem turnSt_own (t : List (List Int)) (m : Nat) (hs : List Int) (n : Nat) (h : ∀ a ∈ hs, 0 ≤ a ∧ a < n) : dealOk n (turnSt t m hs).1 := by
  induction hs using snoc_ind with
  | nil =>
    intro a ha
    have := (List.mem_replicate.mp ha).2
    cases this
  | snoc hs x ih =>
    rw [turnSt_snoc]
    intro a ha
    rcases List.mem_or_eq_of_mem_set ha with q | q
    · exact ih (fun a ha => h a (List.mem_append_left _ ha)) a q
    · cases q
      exact h _ (by simp)
theorem heap_nil {d : List (Option Int)} (h : heap d none = []) : ∀ o ∈ d, o ≠ none := fun o ho e => by
  subst e
  obtain ⟨i, hi, e⟩ := List.getElem_of_mem ho
  have : (i : Int) ∈ heap d none := mem_heap (by rw [List.getElem?_eq_getElem hi, e])
  rw [h] at this
  cases this

theorem lseen {m : Nat} (t : List (List Int)) (d : List (Option Int)) (a b : Int) (T : TabM m t) (hd : d.length = m) (h0 : 0 ≤ a) (h1 : a < t.length) : F__law_seen.run [(D.lst true (List.map (row true) t)), (D.lst true (List.map oi d)), .int a, .int b] = some (.ok (.int (seen t d a b), [])) := by
  have mf := T.mfew
  obtain ⟨w1, w2, w3⟩ := T.at h0 h1
  have hs : (heap d (some b)).map (fun k => D.int (pick (rowAt t a) k)) = ((heap d (some b)).map (pick (rowAt t a))).map D.int := by rw [List.map_map]; rfl
  rw [R__law_seen]
  refine run_ok ?_
  simp only [b__law_seen, N__law_seen, List.map_cons, List.map_nil, List.length_cons, List.length_nil, Nat.reduceAdd, Nat.reduceSub, List.replicate, List.cons_append, List.nil_append]
  rw [o_cons]
  simp (disch := decide) only [ev_00, fr_pair, fr_pairs, py_pair, py_pairs, ev_pair, ev_pairs, ev_pairs0, anyPr, p_minR, p_maxR, p_sumR, p_allR, p_anyR, p_sortedR, o_nil, o_ret, o_expr, o_set, o_asg, o_ife, o_setIx, o_aug, o_augIx, o_kill, o_pass, o_retN, seqP_nx, seqP_rt, o_var, o_int, o_bl, o_non, o_str, o_cst, o_bin, o_neg, o_cmp, o_chain, o_isN, o_notN, o_and, o_or, o_and1, o_or1, o_and2, o_or2, o_not, o_lst, o_tup, o_ix, o_slice, o_part0, o_part1, o_call, o_bi, o_isi, o_frz, o_isB, o_lrg, p_isB, p_lrg1, p_lrg2, o_rev, o_par, p_revL, p_revS, p_revR, ← List.map_reverse, o_mth0, o_mth, o_evs0, o_evs1, o_slst, o_stup, o_rng, o_enum, o_zip, o_enumT, o_lset, o_srtP, p_enumT, p_lset, p_srtP, p_listT, p_tupL, p_sliceT, p_divmod, p_var, v_0, v_s, p_add, p_addL, p_addT, p_sub, p_mul, p_mulL, p_div, p_mod, p_pow, p_neg, p_alF, p_alT, p_lst, p_tup, p_not, p_cmp, c_eq, c_ne, c_lt, c_gt, c_le, c_ge, c_in, c_nin, anyI, ev_ints0, ev_row0, ev_0ints, ev_ois0, p_isN, p_notN, p_ix, p_ixT, p_ixS, p_ixR, at_m, p_len, p_lenT, p_lenS, p_lenR, p_list, p_listS, p_listR, p_slice, p_allM, p_anyM, p_sumM, p_all, p_any, p_sum, p_max2, p_min2, p_remove, p_sorted, ints_snoc, ints_map, p_index, isl_l, py_drow, py_drows, ev_drow, ev_drows, fr_drow, fr_drows, p_sliceS, p_sliceR, p_src, p_srcS, p_srcT, p_srcR, src_l, src_f, p_rng1, p_rng2, p_enum, p_zip, p_app, p_pop, p_clear, p_rev, p_ext, p_ins, p_popAt, p_set, p_isi, p_frz, a_add, a_sub, a_mul, ixL, ixLR, cell_l, live_l, isl, py_int, py_bl, py_non, py_str, py_oi, py_lst, py_tup, py_scr, py_ints, py_bls, py_ois, py_row, py_rows, py_ref, ev_int, ev_bl, ev_str, ev_oi, ev_oI, ev_Io, ev_oN, ev_No, ev_ints, ev_row, ev_ois, ev_rows, non_oi, cut_map, ← List.map_take, ← List.map_drop, List.getElem?_cons_zero, List.getElem?_cons_succ, List.set_cons_zero, List.set_cons_succ, List.foldl_cons, List.foldl_nil, List.map_cons, List.map_nil, List.length_cons, List.length_nil, List.replicate, List.cons_append, List.nil_append, exists_eq_left, exists_eq_left', D.bl.injEq, D.int.injEq, D.tup.injEq, decide_eq_true_eq, decide_eq_false_iff_not, true_and, and_true, true_implies, List.length_map, fr_ref, fr_ints, fr_ois, fr_rows, fr_int, fr_lst, fr_row, fr_oi, fr_bl, fr_non, fr_cons, fr_nil, fr_tup, Fl.rt.injEq, Fl.nx.injEq, ex_neg, ex_neg', Bool.not_eq_true', Bool.not_eq_false', Bool.not_not, wipeE, omap_cons, omap_nil, at_0, at_1, at_2, oi_some, oi_none, oP_some, oP_none, Option.some.injEq, end_get, end_set, beq_self_eq_true, bne_self_eq_false, tn, tn0, tn1, fitL, mL, mR, nc, nc0, nc1, c_ltT, c_gtT, c_leT, ev_tup, ev_listc, ev_cons, ev_nil, ev_list0, ev_0list, c_inT, c_ninT, LIM, Int.zero_add, gc_id, Nat.le_refl, Option.map_some, Option.bind_some, isi_s, ty_int, ty_bl, ty_non, ty_lst, ty_tup, ty_str, ty_ref, ty_cl, ty_oi, isTy, Int.reduceLE, Int.reduceLT, Int.reducePow, Int.reduceAdd, Int.reduceSub, Int.reduceMul, Int.reduceNeg, Int.reduceEq, Int.reduceGT, Int.reduceGE, Int.reduceNe, Nat.reduceAdd, Nat.reduceSub, Nat.reduceLT, Nat.reduceLeDiff, Nat.reduceMul, Nat.reducePow, Nat.reduceBEq, Nat.reduceEqDiff, Int.reduceToNat, Bool.not_eq_true, Bool.not_true, Bool.not_false, Bool.not_eq_false, Bool.not_eq_eq_eq_not, reduceCtorEq, if_true, if_false, false_implies, Bool.false_eq_true, Bool.true_eq_false, and_self, not_true, not_false_iff, implies_true, forall_const, true_or, or_true, and_false, false_and, ge_iff_le, gt_iff_lt, cl_pairs, g_s, p_gT, p_gF, Bool.and_true, Bool.true_and, Bool.and_self, cl_ints, cl_bls, cl_oi, cl_ois, cl_row, cl_rows, cl_drow, cl_drows, cl_app, cl_lst, cl_cons, cl_nil, cl_int, cl_bl, cl_non, cl_str, cl_tup, fit, mfit, rt_pairs, sh_pairs, rt_bl, rt_non, rt_str, rt_tup, sh_non, sh_str, sh_tup, rt_ints, rt_oi, rt_ois, rt_row, rt_rows, rt_drow, rt_drows, rt_ref, rt_int, rt_cell, rt_cons, rt_nil, rt_lst, rt_app, p_gF, List.all_cons, List.all_nil, sh_ints, sh_oi, sh_ois, sh_row, sh_rows, sh_drow, sh_drows, sh_ref, sh_int, sh_bl, sh_cell, sh_cons, sh_nil, sh_lst, Nat.zero_add, Nat.add_zero]
  refine o_comp (xs := rgi 0 d.length) (f := D.int) (fun k => decide (d.getD k.toNat none = some b)) (fun k => .int (pick (rowAt t a) k)) ?_ ?_ ?_
  · simp (disch := decide) only [ev_00, fr_pair, fr_pairs, py_pair, py_pairs, ev_pair, ev_pairs, ev_pairs0, anyPr, p_minR, p_maxR, p_sumR, p_allR, p_anyR, p_sortedR, o_nil, o_cons, o_ret, o_expr, o_set, o_asg, o_ife, o_setIx, o_aug, o_augIx, o_kill, o_pass, o_retN, seqP_nx, seqP_rt, o_var, o_int, o_bl, o_non, o_str, o_cst, o_bin, o_neg, o_cmp, o_chain, o_isN, o_notN, o_and, o_or, o_and1, o_or1, o_and2, o_or2, o_not, o_lst, o_tup, o_ix, o_slice, o_part0, o_part1, o_call, o_bi, o_isi, o_frz, o_isB, o_lrg, p_isB, p_lrg1, p_lrg2, o_rev, o_par, p_revL, p_revS, p_revR, ← List.map_reverse, o_mth0, o_mth, o_evs0, o_evs1, o_slst, o_stup, o_rng, o_enum, o_zip, o_enumT, o_lset, o_srtP, p_enumT, p_lset, p_srtP, p_listT, p_tupL, p_sliceT, p_divmod, p_var, v_0, v_s, p_add, p_addL, p_addT, p_sub, p_mul, p_mulL, p_div, p_mod, p_pow, p_neg, p_alF, p_alT, p_lst, p_tup, p_not, p_cmp, c_eq, c_ne, c_lt, c_gt, c_le, c_ge, c_in, c_nin, anyI, ev_ints0, ev_row0, ev_0ints, ev_ois0, p_isN, p_notN, p_ix, p_ixT, p_ixS, p_ixR, at_m, p_len, p_lenT, p_lenS, p_lenR, p_list, p_listS, p_listR, p_slice, p_allM, p_anyM, p_sumM, p_all, p_any, p_sum, p_max2, p_min2, p_remove, p_sorted, ints_snoc, ints_map, p_index, isl_l, py_drow, py_drows, ev_drow, ev_drows, fr_drow, fr_drows, p_sliceS, p_sliceR, p_src, p_srcS, p_srcT, p_srcR, src_l, src_f, p_rng1, p_rng2, p_enum, p_zip, p_app, p_pop, p_clear, p_rev, p_ext, p_ins, p_popAt, p_set, p_isi, p_frz, a_add, a_sub, a_mul, ixL, ixLR, cell_l, live_l, isl, py_int, py_bl, py_non, py_str, py_oi, py_lst, py_tup, py_scr, py_ints, py_bls, py_ois, py_row, py_rows, py_ref, ev_int, ev_bl, ev_str, ev_oi, ev_oI, ev_Io, ev_oN, ev_No, ev_ints, ev_row, ev_ois, ev_rows, non_oi, cut_map, ← List.map_take, ← List.map_drop, List.getElem?_cons_zero, List.getElem?_cons_succ, List.set_cons_zero, List.set_cons_succ, List.foldl_cons, List.foldl_nil, List.map_cons, List.map_nil, List.length_cons, List.length_nil, List.replicate, List.cons_append, List.nil_append, exists_eq_left, exists_eq_left', D.bl.injEq, D.int.injEq, D.tup.injEq, decide_eq_true_eq, decide_eq_false_iff_not, true_and, and_true, true_implies, List.length_map, fr_ref, fr_ints, fr_ois, fr_rows, fr_int, fr_lst, fr_row, fr_oi, fr_bl, fr_non, fr_cons, fr_nil, fr_tup, Fl.rt.injEq, Fl.nx.injEq, ex_neg, ex_neg', Bool.not_eq_true', Bool.not_eq_false', Bool.not_not, wipeE, omap_cons, omap_nil, at_0, at_1, at_2, oi_some, oi_none, oP_some, oP_none, Option.some.injEq, end_get, end_set, beq_self_eq_true, bne_self_eq_false, tn, tn0, tn1, fitL, mL, mR, nc, nc0, nc1, c_ltT, c_gtT, c_leT, ev_tup, ev_listc, ev_cons, ev_nil, ev_list0, ev_0list, c_inT, c_ninT, LIM, Int.zero_add, gc_id, Nat.le_refl, Option.map_some, Option.bind_some, isi_s, ty_int, ty_bl, ty_non, ty_lst, ty_tup, ty_str, ty_ref, ty_cl, ty_oi, isTy, Int.reduceLE, Int.reduceLT, Int.reducePow, Int.reduceAdd, Int.reduceSub, Int.reduceMul, Int.reduceNeg, Int.reduceEq, Int.reduceGT, Int.reduceGE, Int.reduceNe, Nat.reduceAdd, Nat.reduceSub, Nat.reduceLT, Nat.reduceLeDiff, Nat.reduceMul, Nat.reducePow, Nat.reduceBEq, Nat.reduceEqDiff, Int.reduceToNat, Bool.not_eq_true, Bool.not_true, Bool.not_false, Bool.not_eq_false, Bool.not_eq_eq_eq_not, reduceCtorEq, if_true, if_false, false_implies, Bool.false_eq_true, Bool.true_eq_false, and_self, not_true, not_false_iff, implies_true, forall_const, true_or, or_true, and_false, false_and, ge_iff_le, gt_iff_lt, cl_pairs, g_s, p_gT, p_gF, Bool.and_true, Bool.true_and, Bool.and_self, cl_ints, cl_bls, cl_oi, cl_ois, cl_row, cl_rows, cl_drow, cl_drows, cl_app, cl_lst, cl_cons, cl_nil, cl_int, cl_bl, cl_non, cl_str, cl_tup, fit, mfit, rt_pairs, sh_pairs, rt_bl, rt_non, rt_str, rt_tup, sh_non, sh_str, sh_tup, rt_ints, rt_oi, rt_ois, rt_row, rt_rows, rt_drow, rt_drows, rt_ref, rt_int, rt_cell, rt_cons, rt_nil, rt_lst, rt_app, p_gF, List.all_cons, List.all_nil, sh_ints, sh_oi, sh_ois, sh_row, sh_rows, sh_drow, sh_drows, sh_ref, sh_int, sh_bl, sh_cell, sh_cons, sh_nil, sh_lst, Nat.zero_add, Nat.add_zero, rgi_len]
    exact ⟨⟨by omega, by omega⟩, by simp, by omega⟩
  · intro k hk
    rw [rgi_len] at hk
    refine ⟨_, rfl, ?_, fun _ => ?_⟩
    · simp (disch := decide) only [ev_00, fr_pair, fr_pairs, py_pair, py_pairs, ev_pair, ev_pairs, ev_pairs0, anyPr, p_minR, p_maxR, p_sumR, p_allR, p_anyR, p_sortedR, o_nil, o_cons, o_ret, o_expr, o_set, o_asg, o_ife, o_setIx, o_aug, o_augIx, o_kill, o_pass, o_retN, seqP_nx, seqP_rt, o_var, o_int, o_bl, o_non, o_str, o_cst, o_bin, o_neg, o_cmp, o_chain, o_isN, o_notN, o_and, o_or, o_and1, o_or1, o_and2, o_or2, o_not, o_lst, o_tup, o_ix, o_slice, o_part0, o_part1, o_call, o_bi, o_isi, o_frz, o_isB, o_lrg, p_isB, p_lrg1, p_lrg2, o_rev, o_par, p_revL, p_revS, p_revR, ← List.map_reverse, o_mth0, o_mth, o_evs0, o_evs1, o_slst, o_stup, o_rng, o_enum, o_zip, o_enumT, o_lset, o_srtP, p_enumT, p_lset, p_srtP, p_listT, p_tupL, p_sliceT, p_divmod, p_var, v_0, v_s, p_add, p_addL, p_addT, p_sub, p_mul, p_mulL, p_div, p_mod, p_pow, p_neg, p_alF, p_alT, p_lst, p_tup, p_not, p_cmp, c_eq, c_ne, c_lt, c_gt, c_le, c_ge, c_in, c_nin, anyI, ev_ints0, ev_row0, ev_0ints, ev_ois0, p_isN, p_notN, p_ix, p_ixT, p_ixS, p_ixR, at_m, p_len, p_lenT, p_lenS, p_lenR, p_list, p_listS, p_listR, p_slice, p_allM, p_anyM, p_sumM, p_all, p_any, p_sum, p_max2, p_min2, p_remove, p_sorted, ints_snoc, ints_map, p_index, isl_l, py_drow, py_drows, ev_drow, ev_drows, fr_drow, fr_drows, p_sliceS, p_sliceR, p_src, p_srcS, p_srcT, p_srcR, src_l, src_f, p_rng1, p_rng2, p_enum, p_zip, p_app, p_pop, p_clear, p_rev, p_ext, p_ins, p_popAt, p_set, p_isi, p_frz, a_add, a_sub, a_mul, ixL, ixLR, cell_l, live_l, isl, py_int, py_bl, py_non, py_str, py_oi, py_lst, py_tup, py_scr, py_ints, py_bls, py_ois, py_row, py_rows, py_ref, ev_int, ev_bl, ev_str, ev_oi, ev_oI, ev_Io, ev_oN, ev_No, ev_ints, ev_row, ev_ois, ev_rows, non_oi, cut_map, ← List.map_take, ← List.map_drop, List.getElem?_cons_zero, List.getElem?_cons_succ, List.set_cons_zero, List.set_cons_succ, List.foldl_cons, List.foldl_nil, List.map_cons, List.map_nil, List.length_cons, List.length_nil, List.replicate, List.cons_append, List.nil_append, exists_eq_left, exists_eq_left', D.bl.injEq, D.int.injEq, D.tup.injEq, decide_eq_true_eq, decide_eq_false_iff_not, true_and, and_true, true_implies, List.length_map, fr_ref, fr_ints, fr_ois, fr_rows, fr_int, fr_lst, fr_row, fr_oi, fr_bl, fr_non, fr_cons, fr_nil, fr_tup, Fl.rt.injEq, Fl.nx.injEq, ex_neg, ex_neg', Bool.not_eq_true', Bool.not_eq_false', Bool.not_not, wipeE, omap_cons, omap_nil, at_0, at_1, at_2, oi_some, oi_none, oP_some, oP_none, Option.some.injEq, end_get, end_set, beq_self_eq_true, bne_self_eq_false, tn, tn0, tn1, fitL, mL, mR, nc, nc0, nc1, c_ltT, c_gtT, c_leT, ev_tup, ev_listc, ev_cons, ev_nil, ev_list0, ev_0list, c_inT, c_ninT, LIM, Int.zero_add, gc_id, Nat.le_refl, Option.map_some, Option.bind_some, isi_s, ty_int, ty_bl, ty_non, ty_lst, ty_tup, ty_str, ty_ref, ty_cl, ty_oi, isTy, Int.reduceLE, Int.reduceLT, Int.reducePow, Int.reduceAdd, Int.reduceSub, Int.reduceMul, Int.reduceNeg, Int.reduceEq, Int.reduceGT, Int.reduceGE, Int.reduceNe, Nat.reduceAdd, Nat.reduceSub, Nat.reduceLT, Nat.reduceLeDiff, Nat.reduceMul, Nat.reducePow, Nat.reduceBEq, Nat.reduceEqDiff, Int.reduceToNat, Bool.not_eq_true, Bool.not_true, Bool.not_false, Bool.not_eq_false, Bool.not_eq_eq_eq_not, reduceCtorEq, if_true, if_false, false_implies, Bool.false_eq_true, Bool.true_eq_false, and_self, not_true, not_false_iff, implies_true, forall_const, true_or, or_true, and_false, false_and, ge_iff_le, gt_iff_lt, cl_pairs, g_s, p_gT, p_gF, Bool.and_true, Bool.true_and, Bool.and_self, cl_ints, cl_bls, cl_oi, cl_ois, cl_row, cl_rows, cl_drow, cl_drows, cl_app, cl_lst, cl_cons, cl_nil, cl_int, cl_bl, cl_non, cl_str, cl_tup, fit, mfit, rt_pairs, sh_pairs, rt_bl, rt_non, rt_str, rt_tup, sh_non, sh_str, sh_tup, rt_ints, rt_oi, rt_ois, rt_row, rt_rows, rt_drow, rt_drows, rt_ref, rt_int, rt_cell, rt_cons, rt_nil, rt_lst, rt_app, p_gF, List.all_cons, List.all_nil, sh_ints, sh_oi, sh_ois, sh_row, sh_rows, sh_drow, sh_drows, sh_ref, sh_int, sh_bl, sh_cell, sh_cons, sh_nil, sh_lst, Nat.zero_add, Nat.add_zero, rgi_get]
      refine ⟨_, dget hk, ?_⟩
      simp (disch := decide) only [ev_00, fr_pair, fr_pairs, py_pair, py_pairs, ev_pair, ev_pairs, ev_pairs0, anyPr, p_minR, p_maxR, p_sumR, p_allR, p_anyR, p_sortedR, o_nil, o_cons, o_ret, o_expr, o_set, o_asg, o_ife, o_setIx, o_aug, o_augIx, o_kill, o_pass, o_retN, seqP_nx, seqP_rt, o_var, o_int, o_bl, o_non, o_str, o_cst, o_bin, o_neg, o_cmp, o_chain, o_isN, o_notN, o_and, o_or, o_and1, o_or1, o_and2, o_or2, o_not, o_lst, o_tup, o_ix, o_slice, o_part0, o_part1, o_call, o_bi, o_isi, o_frz, o_isB, o_lrg, p_isB, p_lrg1, p_lrg2, o_rev, o_par, p_revL, p_revS, p_revR, ← List.map_reverse, o_mth0, o_mth, o_evs0, o_evs1, o_slst, o_stup, o_rng, o_enum, o_zip, o_enumT, o_lset, o_srtP, p_enumT, p_lset, p_srtP, p_listT, p_tupL, p_sliceT, p_divmod, p_var, v_0, v_s, p_add, p_addL, p_addT, p_sub, p_mul, p_mulL, p_div, p_mod, p_pow, p_neg, p_alF, p_alT, p_lst, p_tup, p_not, p_cmp, c_eq, c_ne, c_lt, c_gt, c_le, c_ge, c_in, c_nin, anyI, ev_ints0, ev_row0, ev_0ints, ev_ois0, p_isN, p_notN, p_ix, p_ixT, p_ixS, p_ixR, at_m, p_len, p_lenT, p_lenS, p_lenR, p_list, p_listS, p_listR, p_slice, p_allM, p_anyM, p_sumM, p_all, p_any, p_sum, p_max2, p_min2, p_remove, p_sorted, ints_snoc, ints_map, p_index, isl_l, py_drow, py_drows, ev_drow, ev_drows, fr_drow, fr_drows, p_sliceS, p_sliceR, p_src, p_srcS, p_srcT, p_srcR, src_l, src_f, p_rng1, p_rng2, p_enum, p_zip, p_app, p_pop, p_clear, p_rev, p_ext, p_ins, p_popAt, p_set, p_isi, p_frz, a_add, a_sub, a_mul, ixL, ixLR, cell_l, live_l, isl, py_int, py_bl, py_non, py_str, py_oi, py_lst, py_tup, py_scr, py_ints, py_bls, py_ois, py_row, py_rows, py_ref, ev_int, ev_bl, ev_str, ev_oi, ev_oI, ev_Io, ev_oN, ev_No, ev_ints, ev_row, ev_ois, ev_rows, non_oi, cut_map, ← List.map_take, ← List.map_drop, List.getElem?_cons_zero, List.getElem?_cons_succ, List.set_cons_zero, List.set_cons_succ, List.foldl_cons, List.foldl_nil, List.map_cons, List.map_nil, List.length_cons, List.length_nil, List.replicate, List.cons_append, List.nil_append, exists_eq_left, exists_eq_left', D.bl.injEq, D.int.injEq, D.tup.injEq, decide_eq_true_eq, decide_eq_false_iff_not, true_and, and_true, true_implies, List.length_map, fr_ref, fr_ints, fr_ois, fr_rows, fr_int, fr_lst, fr_row, fr_oi, fr_bl, fr_non, fr_cons, fr_nil, fr_tup, Fl.rt.injEq, Fl.nx.injEq, ex_neg, ex_neg', Bool.not_eq_true', Bool.not_eq_false', Bool.not_not, wipeE, omap_cons, omap_nil, at_0, at_1, at_2, oi_some, oi_none, oP_some, oP_none, Option.some.injEq, end_get, end_set, beq_self_eq_true, bne_self_eq_false, tn, tn0, tn1, fitL, mL, mR, nc, nc0, nc1, c_ltT, c_gtT, c_leT, ev_tup, ev_listc, ev_cons, ev_nil, ev_list0, ev_0list, c_inT, c_ninT, LIM, Int.zero_add, gc_id, Nat.le_refl, Option.map_some, Option.bind_some, isi_s, ty_int, ty_bl, ty_non, ty_lst, ty_tup, ty_str, ty_ref, ty_cl, ty_oi, isTy, Int.reduceLE, Int.reduceLT, Int.reducePow, Int.reduceAdd, Int.reduceSub, Int.reduceMul, Int.reduceNeg, Int.reduceEq, Int.reduceGT, Int.reduceGE, Int.reduceNe, Nat.reduceAdd, Nat.reduceSub, Nat.reduceLT, Nat.reduceLeDiff, Nat.reduceMul, Nat.reducePow, Nat.reduceBEq, Nat.reduceEqDiff, Int.reduceToNat, Bool.not_eq_true, Bool.not_true, Bool.not_false, Bool.not_eq_false, Bool.not_eq_eq_eq_not, reduceCtorEq, if_true, if_false, false_implies, Bool.false_eq_true, Bool.true_eq_false, and_self, not_true, not_false_iff, implies_true, forall_const, true_or, or_true, and_false, false_and, ge_iff_le, gt_iff_lt, cl_pairs, g_s, p_gT, p_gF, Bool.and_true, Bool.true_and, Bool.and_self, cl_ints, cl_bls, cl_oi, cl_ois, cl_row, cl_rows, cl_drow, cl_drows, cl_app, cl_lst, cl_cons, cl_nil, cl_int, cl_bl, cl_non, cl_str, cl_tup, fit, mfit, rt_pairs, sh_pairs, rt_bl, rt_non, rt_str, rt_tup, sh_non, sh_str, sh_tup, rt_ints, rt_oi, rt_ois, rt_row, rt_rows, rt_drow, rt_drows, rt_ref, rt_int, rt_cell, rt_cons, rt_nil, rt_lst, rt_app, p_gF, List.all_cons, List.all_nil, sh_ints, sh_oi, sh_ois, sh_row, sh_rows, sh_drow, sh_drows, sh_ref, sh_int, sh_bl, sh_cell, sh_cons, sh_nil, sh_lst, Nat.zero_add, Nat.add_zero, Int.toNat_natCast]
    · simp (disch := decide) only [ev_00, fr_pair, fr_pairs, py_pair, py_pairs, ev_pair, ev_pairs, ev_pairs0, anyPr, p_minR, p_maxR, p_sumR, p_allR, p_anyR, p_sortedR, o_nil, o_cons, o_ret, o_expr, o_set, o_asg, o_ife, o_setIx, o_aug, o_augIx, o_kill, o_pass, o_retN, seqP_nx, seqP_rt, o_var, o_int, o_bl, o_non, o_str, o_cst, o_bin, o_neg, o_cmp, o_chain, o_isN, o_notN, o_and, o_or, o_and1, o_or1, o_and2, o_or2, o_not, o_lst, o_tup, o_ix, o_slice, o_part0, o_part1, o_call, o_bi, o_isi, o_frz, o_isB, o_lrg, p_isB, p_lrg1, p_lrg2, o_rev, o_par, p_revL, p_revS, p_revR, ← List.map_reverse, o_mth0, o_mth, o_evs0, o_evs1, o_slst, o_stup, o_rng, o_enum, o_zip, o_enumT, o_lset, o_srtP, p_enumT, p_lset, p_srtP, p_listT, p_tupL, p_sliceT, p_divmod, p_var, v_0, v_s, p_add, p_addL, p_addT, p_sub, p_mul, p_mulL, p_div, p_mod, p_pow, p_neg, p_alF, p_alT, p_lst, p_tup, p_not, p_cmp, c_eq, c_ne, c_lt, c_gt, c_le, c_ge, c_in, c_nin, anyI, ev_ints0, ev_row0, ev_0ints, ev_ois0, p_isN, p_notN, p_ix, p_ixT, p_ixS, p_ixR, at_m, p_len, p_lenT, p_lenS, p_lenR, p_list, p_listS, p_listR, p_slice, p_allM, p_anyM, p_sumM, p_all, p_any, p_sum, p_max2, p_min2, p_remove, p_sorted, ints_snoc, ints_map, p_index, isl_l, py_drow, py_drows, ev_drow, ev_drows, fr_drow, fr_drows, p_sliceS, p_sliceR, p_src, p_srcS, p_srcT, p_srcR, src_l, src_f, p_rng1, p_rng2, p_enum, p_zip, p_app, p_pop, p_clear, p_rev, p_ext, p_ins, p_popAt, p_set, p_isi, p_frz, a_add, a_sub, a_mul, ixL, ixLR, cell_l, live_l, isl, py_int, py_bl, py_non, py_str, py_oi, py_lst, py_tup, py_scr, py_ints, py_bls, py_ois, py_row, py_rows, py_ref, ev_int, ev_bl, ev_str, ev_oi, ev_oI, ev_Io, ev_oN, ev_No, ev_ints, ev_row, ev_ois, ev_rows, non_oi, cut_map, ← List.map_take, ← List.map_drop, List.getElem?_cons_zero, List.getElem?_cons_succ, List.set_cons_zero, List.set_cons_succ, List.foldl_cons, List.foldl_nil, List.map_cons, List.map_nil, List.length_cons, List.length_nil, List.replicate, List.cons_append, List.nil_append, exists_eq_left, exists_eq_left', D.bl.injEq, D.int.injEq, D.tup.injEq, decide_eq_true_eq, decide_eq_false_iff_not, true_and, and_true, true_implies, List.length_map, fr_ref, fr_ints, fr_ois, fr_rows, fr_int, fr_lst, fr_row, fr_oi, fr_bl, fr_non, fr_cons, fr_nil, fr_tup, Fl.rt.injEq, Fl.nx.injEq, ex_neg, ex_neg', Bool.not_eq_true', Bool.not_eq_false', Bool.not_not, wipeE, omap_cons, omap_nil, at_0, at_1, at_2, oi_some, oi_none, oP_some, oP_none, Option.some.injEq, end_get, end_set, beq_self_eq_true, bne_self_eq_false, tn, tn0, tn1, fitL, mL, mR, nc, nc0, nc1, c_ltT, c_gtT, c_leT, ev_tup, ev_listc, ev_cons, ev_nil, ev_list0, ev_0list, c_inT, c_ninT, LIM, Int.zero_add, gc_id, Nat.le_refl, Option.map_some, Option.bind_some, isi_s, ty_int, ty_bl, ty_non, ty_lst, ty_tup, ty_str, ty_ref, ty_cl, ty_oi, isTy, Int.reduceLE, Int.reduceLT, Int.reducePow, Int.reduceAdd, Int.reduceSub, Int.reduceMul, Int.reduceNeg, Int.reduceEq, Int.reduceGT, Int.reduceGE, Int.reduceNe, Nat.reduceAdd, Nat.reduceSub, Nat.reduceLT, Nat.reduceLeDiff, Nat.reduceMul, Nat.reducePow, Nat.reduceBEq, Nat.reduceEqDiff, Int.reduceToNat, Bool.not_eq_true, Bool.not_true, Bool.not_false, Bool.not_eq_false, Bool.not_eq_eq_eq_not, reduceCtorEq, if_true, if_false, false_implies, Bool.false_eq_true, Bool.true_eq_false, and_self, not_true, not_false_iff, implies_true, forall_const, true_or, or_true, and_false, false_and, ge_iff_le, gt_iff_lt, cl_pairs, g_s, p_gT, p_gF, Bool.and_true, Bool.true_and, Bool.and_self, cl_ints, cl_bls, cl_oi, cl_ois, cl_row, cl_rows, cl_drow, cl_drows, cl_app, cl_lst, cl_cons, cl_nil, cl_int, cl_bl, cl_non, cl_str, cl_tup, fit, mfit, rt_pairs, sh_pairs, rt_bl, rt_non, rt_str, rt_tup, sh_non, sh_str, sh_tup, rt_ints, rt_oi, rt_ois, rt_row, rt_rows, rt_drow, rt_drows, rt_ref, rt_int, rt_cell, rt_cons, rt_nil, rt_lst, rt_app, p_gF, List.all_cons, List.all_nil, sh_ints, sh_oi, sh_ois, sh_row, sh_rows, sh_drow, sh_drows, sh_ref, sh_int, sh_bl, sh_cell, sh_cons, sh_nil, sh_lst, Nat.zero_add, Nat.add_zero, rgi_get]
      refine ⟨_, w1, ?_⟩
      simp (disch := decide) only [ev_00, fr_pair, fr_pairs, py_pair, py_pairs, ev_pair, ev_pairs, ev_pairs0, anyPr, p_minR, p_maxR, p_sumR, p_allR, p_anyR, p_sortedR, o_nil, o_cons, o_ret, o_expr, o_set, o_asg, o_ife, o_setIx, o_aug, o_augIx, o_kill, o_pass, o_retN, seqP_nx, seqP_rt, o_var, o_int, o_bl, o_non, o_str, o_cst, o_bin, o_neg, o_cmp, o_chain, o_isN, o_notN, o_and, o_or, o_and1, o_or1, o_and2, o_or2, o_not, o_lst, o_tup, o_ix, o_slice, o_part0, o_part1, o_call, o_bi, o_isi, o_frz, o_isB, o_lrg, p_isB, p_lrg1, p_lrg2, o_rev, o_par, p_revL, p_revS, p_revR, ← List.map_reverse, o_mth0, o_mth, o_evs0, o_evs1, o_slst, o_stup, o_rng, o_enum, o_zip, o_enumT, o_lset, o_srtP, p_enumT, p_lset, p_srtP, p_listT, p_tupL, p_sliceT, p_divmod, p_var, v_0, v_s, p_add, p_addL, p_addT, p_sub, p_mul, p_mulL, p_div, p_mod, p_pow, p_neg, p_alF, p_alT, p_lst, p_tup, p_not, p_cmp, c_eq, c_ne, c_lt, c_gt, c_le, c_ge, c_in, c_nin, anyI, ev_ints0, ev_row0, ev_0ints, ev_ois0, p_isN, p_notN, p_ix, p_ixT, p_ixS, p_ixR, at_m, p_len, p_lenT, p_lenS, p_lenR, p_list, p_listS, p_listR, p_slice, p_allM, p_anyM, p_sumM, p_all, p_any, p_sum, p_max2, p_min2, p_remove, p_sorted, ints_snoc, ints_map, p_index, isl_l, py_drow, py_drows, ev_drow, ev_drows, fr_drow, fr_drows, p_sliceS, p_sliceR, p_src, p_srcS, p_srcT, p_srcR, src_l, src_f, p_rng1, p_rng2, p_enum, p_zip, p_app, p_pop, p_clear, p_rev, p_ext, p_ins, p_popAt, p_set, p_isi, p_frz, a_add, a_sub, a_mul, ixL, ixLR, cell_l, live_l, isl, py_int, py_bl, py_non, py_str, py_oi, py_lst, py_tup, py_scr, py_ints, py_bls, py_ois, py_row, py_rows, py_ref, ev_int, ev_bl, ev_str, ev_oi, ev_oI, ev_Io, ev_oN, ev_No, ev_ints, ev_row, ev_ois, ev_rows, non_oi, cut_map, ← List.map_take, ← List.map_drop, List.getElem?_cons_zero, List.getElem?_cons_succ, List.set_cons_zero, List.set_cons_succ, List.foldl_cons, List.foldl_nil, List.map_cons, List.map_nil, List.length_cons, List.length_nil, List.replicate, List.cons_append, List.nil_append, exists_eq_left, exists_eq_left', D.bl.injEq, D.int.injEq, D.tup.injEq, decide_eq_true_eq, decide_eq_false_iff_not, true_and, and_true, true_implies, List.length_map, fr_ref, fr_ints, fr_ois, fr_rows, fr_int, fr_lst, fr_row, fr_oi, fr_bl, fr_non, fr_cons, fr_nil, fr_tup, Fl.rt.injEq, Fl.nx.injEq, ex_neg, ex_neg', Bool.not_eq_true', Bool.not_eq_false', Bool.not_not, wipeE, omap_cons, omap_nil, at_0, at_1, at_2, oi_some, oi_none, oP_some, oP_none, Option.some.injEq, end_get, end_set, beq_self_eq_true, bne_self_eq_false, tn, tn0, tn1, fitL, mL, mR, nc, nc0, nc1, c_ltT, c_gtT, c_leT, ev_tup, ev_listc, ev_cons, ev_nil, ev_list0, ev_0list, c_inT, c_ninT, LIM, Int.zero_add, gc_id, Nat.le_refl, Option.map_some, Option.bind_some, isi_s, ty_int, ty_bl, ty_non, ty_lst, ty_tup, ty_str, ty_ref, ty_cl, ty_oi, isTy, Int.reduceLE, Int.reduceLT, Int.reducePow, Int.reduceAdd, Int.reduceSub, Int.reduceMul, Int.reduceNeg, Int.reduceEq, Int.reduceGT, Int.reduceGE, Int.reduceNe, Nat.reduceAdd, Nat.reduceSub, Nat.reduceLT, Nat.reduceLeDiff, Nat.reduceMul, Nat.reducePow, Nat.reduceBEq, Nat.reduceEqDiff, Int.reduceToNat, Bool.not_eq_true, Bool.not_true, Bool.not_false, Bool.not_eq_false, Bool.not_eq_eq_eq_not, reduceCtorEq, if_true, if_false, false_implies, Bool.false_eq_true, Bool.true_eq_false, and_self, not_true, not_false_iff, implies_true, forall_const, true_or, or_true, and_false, false_and, ge_iff_le, gt_iff_lt, cl_pairs, g_s, p_gT, p_gF, Bool.and_true, Bool.true_and, Bool.and_self, cl_ints, cl_bls, cl_oi, cl_ois, cl_row, cl_rows, cl_drow, cl_drows, cl_app, cl_lst, cl_cons, cl_nil, cl_int, cl_bl, cl_non, cl_str, cl_tup, fit, mfit, rt_pairs, sh_pairs, rt_bl, rt_non, rt_str, rt_tup, sh_non, sh_str, sh_tup, rt_ints, rt_oi, rt_ois, rt_row, rt_rows, rt_drow, rt_drows, rt_ref, rt_int, rt_cell, rt_cons, rt_nil, rt_lst, rt_app, p_gF, List.all_cons, List.all_nil, sh_ints, sh_oi, sh_ois, sh_row, sh_rows, sh_drow, sh_drows, sh_ref, sh_int, sh_bl, sh_cell, sh_cons, sh_nil, sh_lst, Nat.zero_add, Nat.add_zero, row]
      exact ⟨_, pick_at (by omega) (by omega), rfl⟩
  rw [← heap_rgi, hs]
  simp (disch := decide) only [ev_00, fr_pair, fr_pairs, py_pair, py_pairs, ev_pair, ev_pairs, ev_pairs0, anyPr, p_minR, p_maxR, p_sumR, p_allR, p_anyR, p_sortedR, o_nil, o_cons, o_ret, o_expr, o_set, o_asg, o_ife, o_setIx, o_aug, o_augIx, o_kill, o_pass, o_retN, seqP_nx, seqP_rt, o_var, o_int, o_bl, o_non, o_str, o_cst, o_bin, o_neg, o_cmp, o_chain, o_isN, o_notN, o_and, o_or, o_and1, o_or1, o_and2, o_or2, o_not, o_lst, o_tup, o_ix, o_slice, o_part0, o_part1, o_call, o_bi, o_isi, o_frz, o_isB, o_lrg, p_isB, p_lrg1, p_lrg2, o_rev, o_par, p_revL, p_revS, p_revR, ← List.map_reverse, o_mth0, o_mth, o_evs0, o_evs1, o_slst, o_stup, o_rng, o_enum, o_zip, o_enumT, o_lset, o_srtP, p_enumT, p_lset, p_srtP, p_listT, p_tupL, p_sliceT, p_divmod, p_var, v_0, v_s, p_add, p_addL, p_addT, p_sub, p_mul, p_mulL, p_div, p_mod, p_pow, p_neg, p_alF, p_alT, p_lst, p_tup, p_not, p_cmp, c_eq, c_ne, c_lt, c_gt, c_le, c_ge, c_in, c_nin, anyI, ev_ints0, ev_row0, ev_0ints, ev_ois0, p_isN, p_notN, p_ix, p_ixT, p_ixS, p_ixR, at_m, p_len, p_lenT, p_lenS, p_lenR, p_list, p_listS, p_listR, p_slice, p_allM, p_anyM, p_sumM, p_all, p_any, p_sum, p_max2, p_min2, p_remove, p_sorted, ints_snoc, ints_map, p_index, isl_l, py_drow, py_drows, ev_drow, ev_drows, fr_drow, fr_drows, p_sliceS, p_sliceR, p_src, p_srcS, p_srcT, p_srcR, src_l, src_f, p_rng1, p_rng2, p_enum, p_zip, p_app, p_pop, p_clear, p_rev, p_ext, p_ins, p_popAt, p_set, p_isi, p_frz, a_add, a_sub, a_mul, ixL, ixLR, cell_l, live_l, isl, py_int, py_bl, py_non, py_str, py_oi, py_lst, py_tup, py_scr, py_ints, py_bls, py_ois, py_row, py_rows, py_ref, ev_int, ev_bl, ev_str, ev_oi, ev_oI, ev_Io, ev_oN, ev_No, ev_ints, ev_row, ev_ois, ev_rows, non_oi, cut_map, ← List.map_take, ← List.map_drop, List.getElem?_cons_zero, List.getElem?_cons_succ, List.set_cons_zero, List.set_cons_succ, List.foldl_cons, List.foldl_nil, List.map_cons, List.map_nil, List.length_cons, List.length_nil, List.replicate, List.cons_append, List.nil_append, exists_eq_left, exists_eq_left', D.bl.injEq, D.int.injEq, D.tup.injEq, decide_eq_true_eq, decide_eq_false_iff_not, true_and, and_true, true_implies, List.length_map, fr_ref, fr_ints, fr_ois, fr_rows, fr_int, fr_lst, fr_row, fr_oi, fr_bl, fr_non, fr_cons, fr_nil, fr_tup, Fl.rt.injEq, Fl.nx.injEq, ex_neg, ex_neg', Bool.not_eq_true', Bool.not_eq_false', Bool.not_not, wipeE, omap_cons, omap_nil, at_0, at_1, at_2, oi_some, oi_none, oP_some, oP_none, Option.some.injEq, end_get, end_set, beq_self_eq_true, bne_self_eq_false, tn, tn0, tn1, fitL, mL, mR, nc, nc0, nc1, c_ltT, c_gtT, c_leT, ev_tup, ev_listc, ev_cons, ev_nil, ev_list0, ev_0list, c_inT, c_ninT, LIM, Int.zero_add, gc_id, Nat.le_refl, Option.map_some, Option.bind_some, isi_s, ty_int, ty_bl, ty_non, ty_lst, ty_tup, ty_str, ty_ref, ty_cl, ty_oi, isTy, Int.reduceLE, Int.reduceLT, Int.reducePow, Int.reduceAdd, Int.reduceSub, Int.reduceMul, Int.reduceNeg, Int.reduceEq, Int.reduceGT, Int.reduceGE, Int.reduceNe, Nat.reduceAdd, Nat.reduceSub, Nat.reduceLT, Nat.reduceLeDiff, Nat.reduceMul, Nat.reducePow, Nat.reduceBEq, Nat.reduceEqDiff, Int.reduceToNat, Bool.not_eq_true, Bool.not_true, Bool.not_false, Bool.not_eq_false, Bool.not_eq_eq_eq_not, reduceCtorEq, if_true, if_false, false_implies, Bool.false_eq_true, Bool.true_eq_false, and_self, not_true, not_false_iff, implies_true, forall_const, true_or, or_true, and_false, false_and, ge_iff_le, gt_iff_lt, cl_pairs, g_s, p_gT, p_gF, Bool.and_true, Bool.true_and, Bool.and_self, cl_ints, cl_bls, cl_oi, cl_ois, cl_row, cl_rows, cl_drow, cl_drows, cl_app, cl_lst, cl_cons, cl_nil, cl_int, cl_bl, cl_non, cl_str, cl_tup, fit, mfit, rt_pairs, sh_pairs, rt_bl, rt_non, rt_str, rt_tup, sh_non, sh_str, sh_tup, rt_ints, rt_oi, rt_ois, rt_row, rt_rows, rt_drow, rt_drows, rt_ref, rt_int, rt_cell, rt_cons, rt_nil, rt_lst, rt_app, p_gF, List.all_cons, List.all_nil, sh_ints, sh_oi, sh_ois, sh_row, sh_rows, sh_drow, sh_drows, sh_ref, sh_int, sh_bl, sh_cell, sh_cons, sh_nil, sh_lst, Nat.zero_add, Nat.add_zero]
  rfl
theorem lfirst (ps : List (Int × Int)) (b : Int) (hl : ps.length ≤ 1000) : F__law_first.run [.lst true (ps.map pairD), .int b] = some (.ok (.ref 0, [(Cell.lst .live (List.map D.int ((firstOf ps b).toList)))])) := by
  have hfl := List.length_filter_le (fun p : Int × Int => decide (p.1 = b)) ps
  rw [R__law_first]
  refine run_ok ?_
  simp only [b__law_first, N__law_first, List.map_cons, List.map_nil, List.length_cons, List.length_nil, Nat.reduceAdd, Nat.reduceSub, List.replicate, List.cons_append, List.nil_append]
  rw [o_cons]
  simp (disch := decide) only [ev_00, fr_pair, fr_pairs, py_pair, py_pairs, ev_pair, ev_pairs, ev_pairs0, anyPr, p_minR, p_maxR, p_sumR, p_allR, p_anyR, p_sortedR, o_nil, o_ret, o_expr, o_set, o_asg, o_ife, o_setIx, o_aug, o_augIx, o_kill, o_pass, o_retN, seqP_nx, seqP_rt, o_var, o_int, o_bl, o_non, o_str, o_cst, o_bin, o_neg, o_cmp, o_chain, o_isN, o_notN, o_and, o_or, o_and1, o_or1, o_and2, o_or2, o_not, o_lst, o_tup, o_ix, o_slice, o_part0, o_part1, o_call, o_bi, o_isi, o_frz, o_isB, o_lrg, p_isB, p_lrg1, p_lrg2, o_rev, o_par, p_revL, p_revS, p_revR, ← List.map_reverse, o_mth0, o_mth, o_evs0, o_evs1, o_slst, o_stup, o_rng, o_enum, o_zip, o_enumT, o_lset, o_srtP, p_enumT, p_lset, p_srtP, p_listT, p_tupL, p_sliceT, p_divmod, p_var, v_0, v_s, p_add, p_addL, p_addT, p_sub, p_mul, p_mulL, p_div, p_mod, p_pow, p_neg, p_alF, p_alT, p_lst, p_tup, p_not, p_cmp, c_eq, c_ne, c_lt, c_gt, c_le, c_ge, c_in, c_nin, anyI, ev_ints0, ev_row0, ev_0ints, ev_ois0, p_isN, p_notN, p_ix, p_ixT, p_ixS, p_ixR, at_m, p_len, p_lenT, p_lenS, p_lenR, p_list, p_listS, p_listR, p_slice, p_allM, p_anyM, p_sumM, p_all, p_any, p_sum, p_max2, p_min2, p_remove, p_sorted, ints_snoc, ints_map, p_index, isl_l, py_drow, py_drows, ev_drow, ev_drows, fr_drow, fr_drows, p_sliceS, p_sliceR, p_src, p_srcS, p_srcT, p_srcR, src_l, src_f, p_rng1, p_rng2, p_enum, p_zip, p_app, p_pop, p_clear, p_rev, p_ext, p_ins, p_popAt, p_set, p_isi, p_frz, a_add, a_sub, a_mul, ixL, ixLR, cell_l, live_l, isl, py_int, py_bl, py_non, py_str, py_oi, py_lst, py_tup, py_scr, py_ints, py_bls, py_ois, py_row, py_rows, py_ref, ev_int, ev_bl, ev_str, ev_oi, ev_oI, ev_Io, ev_oN, ev_No, ev_ints, ev_row, ev_ois, ev_rows, non_oi, cut_map, ← List.map_take, ← List.map_drop, List.getElem?_cons_zero, List.getElem?_cons_succ, List.set_cons_zero, List.set_cons_succ, List.foldl_cons, List.foldl_nil, List.map_cons, List.map_nil, List.length_cons, List.length_nil, List.replicate, List.cons_append, List.nil_append, exists_eq_left, exists_eq_left', D.bl.injEq, D.int.injEq, D.tup.injEq, decide_eq_true_eq, decide_eq_false_iff_not, true_and, and_true, true_implies, List.length_map, fr_ref, fr_ints, fr_ois, fr_rows, fr_int, fr_lst, fr_row, fr_oi, fr_bl, fr_non, fr_cons, fr_nil, fr_tup, Fl.rt.injEq, Fl.nx.injEq, ex_neg, ex_neg', Bool.not_eq_true', Bool.not_eq_false', Bool.not_not, wipeE, omap_cons, omap_nil, at_0, at_1, at_2, oi_some, oi_none, oP_some, oP_none, Option.some.injEq, end_get, end_set, beq_self_eq_true, bne_self_eq_false, tn, tn0, tn1, fitL, mL, mR, nc, nc0, nc1, c_ltT, c_gtT, c_leT, ev_tup, ev_listc, ev_cons, ev_nil, ev_list0, ev_0list, c_inT, c_ninT, LIM, Int.zero_add, gc_id, Nat.le_refl, Option.map_some, Option.bind_some, isi_s, ty_int, ty_bl, ty_non, ty_lst, ty_tup, ty_str, ty_ref, ty_cl, ty_oi, isTy, Int.reduceLE, Int.reduceLT, Int.reducePow, Int.reduceAdd, Int.reduceSub, Int.reduceMul, Int.reduceNeg, Int.reduceEq, Int.reduceGT, Int.reduceGE, Int.reduceNe, Nat.reduceAdd, Nat.reduceSub, Nat.reduceLT, Nat.reduceLeDiff, Nat.reduceMul, Nat.reducePow, Nat.reduceBEq, Nat.reduceEqDiff, Int.reduceToNat, Bool.not_eq_true, Bool.not_true, Bool.not_false, Bool.not_eq_false, Bool.not_eq_eq_eq_not, reduceCtorEq, if_true, if_false, false_implies, Bool.false_eq_true, Bool.true_eq_false, and_self, not_true, not_false_iff, implies_true, forall_const, true_or, or_true, and_false, false_and, ge_iff_le, gt_iff_lt, cl_pairs, g_s, p_gT, p_gF, Bool.and_true, Bool.true_and, Bool.and_self, cl_ints, cl_bls, cl_oi, cl_ois, cl_row, cl_rows, cl_drow, cl_drows, cl_app, cl_lst, cl_cons, cl_nil, cl_int, cl_bl, cl_non, cl_str, cl_tup, fit, mfit, rt_pairs, sh_pairs, rt_bl, rt_non, rt_str, rt_tup, sh_non, sh_str, sh_tup, rt_ints, rt_oi, rt_ois, rt_row, rt_rows, rt_drow, rt_drows, rt_ref, rt_int, rt_cell, rt_cons, rt_nil, rt_lst, rt_app, p_gF, List.all_cons, List.all_nil, sh_ints, sh_oi, sh_ois, sh_row, sh_rows, sh_drow, sh_drows, sh_ref, sh_int, sh_bl, sh_cell, sh_cons, sh_nil, sh_lst, Nat.zero_add, Nat.add_zero]
  refine o_comp (xs := ps) (f := pairD) (fun p => decide (p.1 = b)) (fun p => .int p.2) ?_ ?_ ?_
  · simp (disch := decide) only [ev_00, fr_pair, fr_pairs, py_pair, py_pairs, ev_pair, ev_pairs, ev_pairs0, anyPr, p_minR, p_maxR, p_sumR, p_allR, p_anyR, p_sortedR, o_nil, o_cons, o_ret, o_expr, o_set, o_asg, o_ife, o_setIx, o_aug, o_augIx, o_kill, o_pass, o_retN, seqP_nx, seqP_rt, o_var, o_int, o_bl, o_non, o_str, o_cst, o_bin, o_neg, o_cmp, o_chain, o_isN, o_notN, o_and, o_or, o_and1, o_or1, o_and2, o_or2, o_not, o_lst, o_tup, o_ix, o_slice, o_part0, o_part1, o_call, o_bi, o_isi, o_frz, o_isB, o_lrg, p_isB, p_lrg1, p_lrg2, o_rev, o_par, p_revL, p_revS, p_revR, ← List.map_reverse, o_mth0, o_mth, o_evs0, o_evs1, o_slst, o_stup, o_rng, o_enum, o_zip, o_enumT, o_lset, o_srtP, p_enumT, p_lset, p_srtP, p_listT, p_tupL, p_sliceT, p_divmod, p_var, v_0, v_s, p_add, p_addL, p_addT, p_sub, p_mul, p_mulL, p_div, p_mod, p_pow, p_neg, p_alF, p_alT, p_lst, p_tup, p_not, p_cmp, c_eq, c_ne, c_lt, c_gt, c_le, c_ge, c_in, c_nin, anyI, ev_ints0, ev_row0, ev_0ints, ev_ois0, p_isN, p_notN, p_ix, p_ixT, p_ixS, p_ixR, at_m, p_len, p_lenT, p_lenS, p_lenR, p_list, p_listS, p_listR, p_slice, p_allM, p_anyM, p_sumM, p_all, p_any, p_sum, p_max2, p_min2, p_remove, p_sorted, ints_snoc, ints_map, p_index, isl_l, py_drow, py_drows, ev_drow, ev_drows, fr_drow, fr_drows, p_sliceS, p_sliceR, p_src, p_srcS, p_srcT, p_srcR, src_l, src_f, p_rng1, p_rng2, p_enum, p_zip, p_app, p_pop, p_clear, p_rev, p_ext, p_ins, p_popAt, p_set, p_isi, p_frz, a_add, a_sub, a_mul, ixL, ixLR, cell_l, live_l, isl, py_int, py_bl, py_non, py_str, py_oi, py_lst, py_tup, py_scr, py_ints, py_bls, py_ois, py_row, py_rows, py_ref, ev_int, ev_bl, ev_str, ev_oi, ev_oI, ev_Io, ev_oN, ev_No, ev_ints, ev_row, ev_ois, ev_rows, non_oi, cut_map, ← List.map_take, ← List.map_drop, List.getElem?_cons_zero, List.getElem?_cons_succ, List.set_cons_zero, List.set_cons_succ, List.foldl_cons, List.foldl_nil, List.map_cons, List.map_nil, List.length_cons, List.length_nil, List.replicate, List.cons_append, List.nil_append, exists_eq_left, exists_eq_left', D.bl.injEq, D.int.injEq, D.tup.injEq, decide_eq_true_eq, decide_eq_false_iff_not, true_and, and_true, true_implies, List.length_map, fr_ref, fr_ints, fr_ois, fr_rows, fr_int, fr_lst, fr_row, fr_oi, fr_bl, fr_non, fr_cons, fr_nil, fr_tup, Fl.rt.injEq, Fl.nx.injEq, ex_neg, ex_neg', Bool.not_eq_true', Bool.not_eq_false', Bool.not_not, wipeE, omap_cons, omap_nil, at_0, at_1, at_2, oi_some, oi_none, oP_some, oP_none, Option.some.injEq, end_get, end_set, beq_self_eq_true, bne_self_eq_false, tn, tn0, tn1, fitL, mL, mR, nc, nc0, nc1, c_ltT, c_gtT, c_leT, ev_tup, ev_listc, ev_cons, ev_nil, ev_list0, ev_0list, c_inT, c_ninT, LIM, Int.zero_add, gc_id, Nat.le_refl, Option.map_some, Option.bind_some, isi_s, ty_int, ty_bl, ty_non, ty_lst, ty_tup, ty_str, ty_ref, ty_cl, ty_oi, isTy, Int.reduceLE, Int.reduceLT, Int.reducePow, Int.reduceAdd, Int.reduceSub, Int.reduceMul, Int.reduceNeg, Int.reduceEq, Int.reduceGT, Int.reduceGE, Int.reduceNe, Nat.reduceAdd, Nat.reduceSub, Nat.reduceLT, Nat.reduceLeDiff, Nat.reduceMul, Nat.reducePow, Nat.reduceBEq, Nat.reduceEqDiff, Int.reduceToNat, Bool.not_eq_true, Bool.not_true, Bool.not_false, Bool.not_eq_false, Bool.not_eq_eq_eq_not, reduceCtorEq, if_true, if_false, false_implies, Bool.false_eq_true, Bool.true_eq_false, and_self, not_true, not_false_iff, implies_true, forall_const, true_or, or_true, and_false, false_and, ge_iff_le, gt_iff_lt, cl_pairs, g_s, p_gT, p_gF, Bool.and_true, Bool.true_and, Bool.and_self, cl_ints, cl_bls, cl_oi, cl_ois, cl_row, cl_rows, cl_drow, cl_drows, cl_app, cl_lst, cl_cons, cl_nil, cl_int, cl_bl, cl_non, cl_str, cl_tup, fit, mfit, rt_pairs, sh_pairs, rt_bl, rt_non, rt_str, rt_tup, sh_non, sh_str, sh_tup, rt_ints, rt_oi, rt_ois, rt_row, rt_rows, rt_drow, rt_drows, rt_ref, rt_int, rt_cell, rt_cons, rt_nil, rt_lst, rt_app, p_gF, List.all_cons, List.all_nil, sh_ints, sh_oi, sh_ois, sh_row, sh_rows, sh_drow, sh_drows, sh_ref, sh_int, sh_bl, sh_cell, sh_cons, sh_nil, sh_lst, Nat.zero_add, Nat.add_zero]
    omega
  · intro k hk
    generalize ps[k] = p
    refine ⟨_, rfl, ?_, fun _ => ?_⟩
    · simp only [sets]
      simp (disch := decide) only [ev_00, fr_pair, fr_pairs, py_pair, py_pairs, ev_pair, ev_pairs, ev_pairs0, anyPr, p_minR, p_maxR, p_sumR, p_allR, p_anyR, p_sortedR, o_nil, o_cons, o_ret, o_expr, o_set, o_asg, o_ife, o_setIx, o_aug, o_augIx, o_kill, o_pass, o_retN, seqP_nx, seqP_rt, o_var, o_int, o_bl, o_non, o_str, o_cst, o_bin, o_neg, o_cmp, o_chain, o_isN, o_notN, o_and, o_or, o_and1, o_or1, o_and2, o_or2, o_not, o_lst, o_tup, o_ix, o_slice, o_part0, o_part1, o_call, o_bi, o_isi, o_frz, o_isB, o_lrg, p_isB, p_lrg1, p_lrg2, o_rev, o_par, p_revL, p_revS, p_revR, ← List.map_reverse, o_mth0, o_mth, o_evs0, o_evs1, o_slst, o_stup, o_rng, o_enum, o_zip, o_enumT, o_lset, o_srtP, p_enumT, p_lset, p_srtP, p_listT, p_tupL, p_sliceT, p_divmod, p_var, v_0, v_s, p_add, p_addL, p_addT, p_sub, p_mul, p_mulL, p_div, p_mod, p_pow, p_neg, p_alF, p_alT, p_lst, p_tup, p_not, p_cmp, c_eq, c_ne, c_lt, c_gt, c_le, c_ge, c_in, c_nin, anyI, ev_ints0, ev_row0, ev_0ints, ev_ois0, p_isN, p_notN, p_ix, p_ixT, p_ixS, p_ixR, at_m, p_len, p_lenT, p_lenS, p_lenR, p_list, p_listS, p_listR, p_slice, p_allM, p_anyM, p_sumM, p_all, p_any, p_sum, p_max2, p_min2, p_remove, p_sorted, ints_snoc, ints_map, p_index, isl_l, py_drow, py_drows, ev_drow, ev_drows, fr_drow, fr_drows, p_sliceS, p_sliceR, p_src, p_srcS, p_srcT, p_srcR, src_l, src_f, p_rng1, p_rng2, p_enum, p_zip, p_app, p_pop, p_clear, p_rev, p_ext, p_ins, p_popAt, p_set, p_isi, p_frz, a_add, a_sub, a_mul, ixL, ixLR, cell_l, live_l, isl, py_int, py_bl, py_non, py_str, py_oi, py_lst, py_tup, py_scr, py_ints, py_bls, py_ois, py_row, py_rows, py_ref, ev_int, ev_bl, ev_str, ev_oi, ev_oI, ev_Io, ev_oN, ev_No, ev_ints, ev_row, ev_ois, ev_rows, non_oi, cut_map, ← List.map_take, ← List.map_drop, List.getElem?_cons_zero, List.getElem?_cons_succ, List.set_cons_zero, List.set_cons_succ, List.foldl_cons, List.foldl_nil, List.map_cons, List.map_nil, List.length_cons, List.length_nil, List.replicate, List.cons_append, List.nil_append, exists_eq_left, exists_eq_left', D.bl.injEq, D.int.injEq, D.tup.injEq, decide_eq_true_eq, decide_eq_false_iff_not, true_and, and_true, true_implies, List.length_map, fr_ref, fr_ints, fr_ois, fr_rows, fr_int, fr_lst, fr_row, fr_oi, fr_bl, fr_non, fr_cons, fr_nil, fr_tup, Fl.rt.injEq, Fl.nx.injEq, ex_neg, ex_neg', Bool.not_eq_true', Bool.not_eq_false', Bool.not_not, wipeE, omap_cons, omap_nil, at_0, at_1, at_2, oi_some, oi_none, oP_some, oP_none, Option.some.injEq, end_get, end_set, beq_self_eq_true, bne_self_eq_false, tn, tn0, tn1, fitL, mL, mR, nc, nc0, nc1, c_ltT, c_gtT, c_leT, ev_tup, ev_listc, ev_cons, ev_nil, ev_list0, ev_0list, c_inT, c_ninT, LIM, Int.zero_add, gc_id, Nat.le_refl, Option.map_some, Option.bind_some, isi_s, ty_int, ty_bl, ty_non, ty_lst, ty_tup, ty_str, ty_ref, ty_cl, ty_oi, isTy, Int.reduceLE, Int.reduceLT, Int.reducePow, Int.reduceAdd, Int.reduceSub, Int.reduceMul, Int.reduceNeg, Int.reduceEq, Int.reduceGT, Int.reduceGE, Int.reduceNe, Nat.reduceAdd, Nat.reduceSub, Nat.reduceLT, Nat.reduceLeDiff, Nat.reduceMul, Nat.reducePow, Nat.reduceBEq, Nat.reduceEqDiff, Int.reduceToNat, Bool.not_eq_true, Bool.not_true, Bool.not_false, Bool.not_eq_false, Bool.not_eq_eq_eq_not, reduceCtorEq, if_true, if_false, false_implies, Bool.false_eq_true, Bool.true_eq_false, and_self, not_true, not_false_iff, implies_true, forall_const, true_or, or_true, and_false, false_and, ge_iff_le, gt_iff_lt, cl_pairs, g_s, p_gT, p_gF, Bool.and_true, Bool.true_and, Bool.and_self, cl_ints, cl_bls, cl_oi, cl_ois, cl_row, cl_rows, cl_drow, cl_drows, cl_app, cl_lst, cl_cons, cl_nil, cl_int, cl_bl, cl_non, cl_str, cl_tup, fit, mfit, rt_pairs, sh_pairs, rt_bl, rt_non, rt_str, rt_tup, sh_non, sh_str, sh_tup, rt_ints, rt_oi, rt_ois, rt_row, rt_rows, rt_drow, rt_drows, rt_ref, rt_int, rt_cell, rt_cons, rt_nil, rt_lst, rt_app, p_gF, List.all_cons, List.all_nil, sh_ints, sh_oi, sh_ois, sh_row, sh_rows, sh_drow, sh_drows, sh_ref, sh_int, sh_bl, sh_cell, sh_cons, sh_nil, sh_lst, Nat.zero_add, Nat.add_zero]
    · simp only [sets]
      simp (disch := decide) only [ev_00, fr_pair, fr_pairs, py_pair, py_pairs, ev_pair, ev_pairs, ev_pairs0, anyPr, p_minR, p_maxR, p_sumR, p_allR, p_anyR, p_sortedR, o_nil, o_cons, o_ret, o_expr, o_set, o_asg, o_ife, o_setIx, o_aug, o_augIx, o_kill, o_pass, o_retN, seqP_nx, seqP_rt, o_var, o_int, o_bl, o_non, o_str, o_cst, o_bin, o_neg, o_cmp, o_chain, o_isN, o_notN, o_and, o_or, o_and1, o_or1, o_and2, o_or2, o_not, o_lst, o_tup, o_ix, o_slice, o_part0, o_part1, o_call, o_bi, o_isi, o_frz, o_isB, o_lrg, p_isB, p_lrg1, p_lrg2, o_rev, o_par, p_revL, p_revS, p_revR, ← List.map_reverse, o_mth0, o_mth, o_evs0, o_evs1, o_slst, o_stup, o_rng, o_enum, o_zip, o_enumT, o_lset, o_srtP, p_enumT, p_lset, p_srtP, p_listT, p_tupL, p_sliceT, p_divmod, p_var, v_0, v_s, p_add, p_addL, p_addT, p_sub, p_mul, p_mulL, p_div, p_mod, p_pow, p_neg, p_alF, p_alT, p_lst, p_tup, p_not, p_cmp, c_eq, c_ne, c_lt, c_gt, c_le, c_ge, c_in, c_nin, anyI, ev_ints0, ev_row0, ev_0ints, ev_ois0, p_isN, p_notN, p_ix, p_ixT, p_ixS, p_ixR, at_m, p_len, p_lenT, p_lenS, p_lenR, p_list, p_listS, p_listR, p_slice, p_allM, p_anyM, p_sumM, p_all, p_any, p_sum, p_max2, p_min2, p_remove, p_sorted, ints_snoc, ints_map, p_index, isl_l, py_drow, py_drows, ev_drow, ev_drows, fr_drow, fr_drows, p_sliceS, p_sliceR, p_src, p_srcS, p_srcT, p_srcR, src_l, src_f, p_rng1, p_rng2, p_enum, p_zip, p_app, p_pop, p_clear, p_rev, p_ext, p_ins, p_popAt, p_set, p_isi, p_frz, a_add, a_sub, a_mul, ixL, ixLR, cell_l, live_l, isl, py_int, py_bl, py_non, py_str, py_oi, py_lst, py_tup, py_scr, py_ints, py_bls, py_ois, py_row, py_rows, py_ref, ev_int, ev_bl, ev_str, ev_oi, ev_oI, ev_Io, ev_oN, ev_No, ev_ints, ev_row, ev_ois, ev_rows, non_oi, cut_map, ← List.map_take, ← List.map_drop, List.getElem?_cons_zero, List.getElem?_cons_succ, List.set_cons_zero, List.set_cons_succ, List.foldl_cons, List.foldl_nil, List.map_cons, List.map_nil, List.length_cons, List.length_nil, List.replicate, List.cons_append, List.nil_append, exists_eq_left, exists_eq_left', D.bl.injEq, D.int.injEq, D.tup.injEq, decide_eq_true_eq, decide_eq_false_iff_not, true_and, and_true, true_implies, List.length_map, fr_ref, fr_ints, fr_ois, fr_rows, fr_int, fr_lst, fr_row, fr_oi, fr_bl, fr_non, fr_cons, fr_nil, fr_tup, Fl.rt.injEq, Fl.nx.injEq, ex_neg, ex_neg', Bool.not_eq_true', Bool.not_eq_false', Bool.not_not, wipeE, omap_cons, omap_nil, at_0, at_1, at_2, oi_some, oi_none, oP_some, oP_none, Option.some.injEq, end_get, end_set, beq_self_eq_true, bne_self_eq_false, tn, tn0, tn1, fitL, mL, mR, nc, nc0, nc1, c_ltT, c_gtT, c_leT, ev_tup, ev_listc, ev_cons, ev_nil, ev_list0, ev_0list, c_inT, c_ninT, LIM, Int.zero_add, gc_id, Nat.le_refl, Option.map_some, Option.bind_some, isi_s, ty_int, ty_bl, ty_non, ty_lst, ty_tup, ty_str, ty_ref, ty_cl, ty_oi, isTy, Int.reduceLE, Int.reduceLT, Int.reducePow, Int.reduceAdd, Int.reduceSub, Int.reduceMul, Int.reduceNeg, Int.reduceEq, Int.reduceGT, Int.reduceGE, Int.reduceNe, Nat.reduceAdd, Nat.reduceSub, Nat.reduceLT, Nat.reduceLeDiff, Nat.reduceMul, Nat.reducePow, Nat.reduceBEq, Nat.reduceEqDiff, Int.reduceToNat, Bool.not_eq_true, Bool.not_true, Bool.not_false, Bool.not_eq_false, Bool.not_eq_eq_eq_not, reduceCtorEq, if_true, if_false, false_implies, Bool.false_eq_true, Bool.true_eq_false, and_self, not_true, not_false_iff, implies_true, forall_const, true_or, or_true, and_false, false_and, ge_iff_le, gt_iff_lt, cl_pairs, g_s, p_gT, p_gF, Bool.and_true, Bool.true_and, Bool.and_self, cl_ints, cl_bls, cl_oi, cl_ois, cl_row, cl_rows, cl_drow, cl_drows, cl_app, cl_lst, cl_cons, cl_nil, cl_int, cl_bl, cl_non, cl_str, cl_tup, fit, mfit, rt_pairs, sh_pairs, rt_bl, rt_non, rt_str, rt_tup, sh_non, sh_str, sh_tup, rt_ints, rt_oi, rt_ois, rt_row, rt_rows, rt_drow, rt_drows, rt_ref, rt_int, rt_cell, rt_cons, rt_nil, rt_lst, rt_app, p_gF, List.all_cons, List.all_nil, sh_ints, sh_oi, sh_ois, sh_row, sh_rows, sh_drow, sh_drows, sh_ref, sh_int, sh_bl, sh_cell, sh_cons, sh_nil, sh_lst, Nat.zero_add, Nat.add_zero]
  rw [show (ps.filter fun p => decide (p.1 = b)).map (fun p => D.int p.2) = ((ps.filter fun p => decide (p.1 = b)).map (·.2)).map D.int by rw [List.map_map]; rfl]
  simp (disch := decide) only [ev_00, fr_pair, fr_pairs, py_pair, py_pairs, ev_pair, ev_pairs, ev_pairs0, anyPr, p_minR, p_maxR, p_sumR, p_allR, p_anyR, p_sortedR, o_nil, o_cons, o_ret, o_expr, o_set, o_asg, o_ife, o_setIx, o_aug, o_augIx, o_kill, o_pass, o_retN, seqP_nx, seqP_rt, o_var, o_int, o_bl, o_non, o_str, o_cst, o_bin, o_neg, o_cmp, o_chain, o_isN, o_notN, o_and, o_or, o_and1, o_or1, o_and2, o_or2, o_not, o_lst, o_tup, o_ix, o_slice, o_part0, o_part1, o_call, o_bi, o_isi, o_frz, o_isB, o_lrg, p_isB, p_lrg1, p_lrg2, o_rev, o_par, p_revL, p_revS, p_revR, ← List.map_reverse, o_mth0, o_mth, o_evs0, o_evs1, o_slst, o_stup, o_rng, o_enum, o_zip, o_enumT, o_lset, o_srtP, p_enumT, p_lset, p_srtP, p_listT, p_tupL, p_sliceT, p_divmod, p_var, v_0, v_s, p_add, p_addL, p_addT, p_sub, p_mul, p_mulL, p_div, p_mod, p_pow, p_neg, p_alF, p_alT, p_lst, p_tup, p_not, p_cmp, c_eq, c_ne, c_lt, c_gt, c_le, c_ge, c_in, c_nin, anyI, ev_ints0, ev_row0, ev_0ints, ev_ois0, p_isN, p_notN, p_ix, p_ixT, p_ixS, p_ixR, at_m, p_len, p_lenT, p_lenS, p_lenR, p_list, p_listS, p_listR, p_slice, p_allM, p_anyM, p_sumM, p_all, p_any, p_sum, p_max2, p_min2, p_remove, p_sorted, ints_snoc, ints_map, p_index, isl_l, py_drow, py_drows, ev_drow, ev_drows, fr_drow, fr_drows, p_sliceS, p_sliceR, p_src, p_srcS, p_srcT, p_srcR, src_l, src_f, p_rng1, p_rng2, p_enum, p_zip, p_app, p_pop, p_clear, p_rev, p_ext, p_ins, p_popAt, p_set, p_isi, p_frz, a_add, a_sub, a_mul, ixL, ixLR, cell_l, live_l, isl, py_int, py_bl, py_non, py_str, py_oi, py_lst, py_tup, py_scr, py_ints, py_bls, py_ois, py_row, py_rows, py_ref, ev_int, ev_bl, ev_str, ev_oi, ev_oI, ev_Io, ev_oN, ev_No, ev_ints, ev_row, ev_ois, ev_rows, non_oi, cut_map, ← List.map_take, ← List.map_drop, List.getElem?_cons_zero, List.getElem?_cons_succ, List.set_cons_zero, List.set_cons_succ, List.foldl_cons, List.foldl_nil, List.map_cons, List.map_nil, List.length_cons, List.length_nil, List.replicate, List.cons_append, List.nil_append, exists_eq_left, exists_eq_left', D.bl.injEq, D.int.injEq, D.tup.injEq, decide_eq_true_eq, decide_eq_false_iff_not, true_and, and_true, true_implies, List.length_map, fr_ref, fr_ints, fr_ois, fr_rows, fr_int, fr_lst, fr_row, fr_oi, fr_bl, fr_non, fr_cons, fr_nil, fr_tup, Fl.rt.injEq, Fl.nx.injEq, ex_neg, ex_neg', Bool.not_eq_true', Bool.not_eq_false', Bool.not_not, wipeE, omap_cons, omap_nil, at_0, at_1, at_2, oi_some, oi_none, oP_some, oP_none, Option.some.injEq, end_get, end_set, beq_self_eq_true, bne_self_eq_false, tn, tn0, tn1, fitL, mL, mR, nc, nc0, nc1, c_ltT, c_gtT, c_leT, ev_tup, ev_listc, ev_cons, ev_nil, ev_list0, ev_0list, c_inT, c_ninT, LIM, Int.zero_add, gc_id, Nat.le_refl, Option.map_some, Option.bind_some, isi_s, ty_int, ty_bl, ty_non, ty_lst, ty_tup, ty_str, ty_ref, ty_cl, ty_oi, isTy, Int.reduceLE, Int.reduceLT, Int.reducePow, Int.reduceAdd, Int.reduceSub, Int.reduceMul, Int.reduceNeg, Int.reduceEq, Int.reduceGT, Int.reduceGE, Int.reduceNe, Nat.reduceAdd, Nat.reduceSub, Nat.reduceLT, Nat.reduceLeDiff, Nat.reduceMul, Nat.reducePow, Nat.reduceBEq, Nat.reduceEqDiff, Int.reduceToNat, Bool.not_eq_true, Bool.not_true, Bool.not_false, Bool.not_eq_false, Bool.not_eq_eq_eq_not, reduceCtorEq, if_true, if_false, false_implies, Bool.false_eq_true, Bool.true_eq_false, and_self, not_true, not_false_iff, implies_true, forall_const, true_or, or_true, and_false, false_and, ge_iff_le, gt_iff_lt, cl_pairs, g_s, p_gT, p_gF, Bool.and_true, Bool.true_and, Bool.and_self, cl_ints, cl_bls, cl_oi, cl_ois, cl_row, cl_rows, cl_drow, cl_drows, cl_app, cl_lst, cl_cons, cl_nil, cl_int, cl_bl, cl_non, cl_str, cl_tup, fit, mfit, rt_pairs, sh_pairs, rt_bl, rt_non, rt_str, rt_tup, sh_non, sh_str, sh_tup, rt_ints, rt_oi, rt_ois, rt_row, rt_rows, rt_drow, rt_drows, rt_ref, rt_int, rt_cell, rt_cons, rt_nil, rt_lst, rt_app, p_gF, List.all_cons, List.all_nil, sh_ints, sh_oi, sh_ois, sh_row, sh_rows, sh_drow, sh_drows, sh_ref, sh_int, sh_bl, sh_cell, sh_cons, sh_nil, sh_lst, Nat.zero_add, Nat.add_zero, cut_take]
  refine .inr ⟨rfl, ?_⟩
  unfold firstOf
  rw [List.map_take]
  cases (ps.filter fun p => decide (p.1 = b)).map (·.2) <;> rfl
theorem behind {m : Nat} (t : List (List Int)) (d : List (Option Int)) (o : List Int) (T : TabM m t) (hd : d.length = m) (ho : o.Perm (rgi 0 t.length)) (h : ∀ i j : Nat, i < j → j < t.length → seen t d (pick o i) (pick o j) ≤ seen t d (pick o i) (pick o i)) : F__law_no_envy_behind.run [(D.lst true (List.map (row true) t)), (D.lst true (List.map oi d)), (D.lst true (List.map D.int o))] = some (.ok (.bl true, [])) := by
  have few := T.few
  have ol : o.length = t.length := by rw [ho.length_eq, rgi_len]
  have hrng : ∀ z : Nat, z < t.length → 0 ≤ pick o z ∧ pick o z < t.length := fun z hz => by
    have := rgi_mem.mp (ho.mem_iff.mp (pick_mem (r := o) (i := z) (by omega) (by omega)))
    omega
  have ks := fun (a b : Int) (h0 : 0 ≤ a) (h1 : a < t.length) μ Q => call_eq (Γ := G__law_no_envy_behind) (f := 99) (dn := 0) (fz := true) (ds := [(D.lst true (List.map (row true) t)), (D.lst true (List.map oi d)), .int a, .int b]) (μ := μ) (Q := Q) rfl (by simp only [B__law_seen, le_pair, le_pairs, la_nil, la_t, la_f, Option.bind_some, Option.map_some, List.append_nil, List.replicate, le_int, le_bl, le_non, le_str, le_scr, le_oi, le_lst, le_tup, le_ints, le_bls, le_ois, le_row, le_rows, le_drow, le_drows, le_ref, cl_pairs, g_s, p_gT, p_gF, Bool.and_true, Bool.true_and, Bool.and_self, cl_ints, cl_bls, cl_oi, cl_ois, cl_row, cl_rows, cl_drow, cl_drows, cl_app, cl_lst, cl_cons, cl_nil, cl_int, cl_bl, cl_non, cl_str, cl_tup] <;> rfl) rfl (lseen t d a b T hd h0 h1)
  rw [R__law_no_envy_behind]
  refine run_ok ?_
  simp only [b__law_no_envy_behind, N__law_no_envy_behind, List.map_cons, List.map_nil, List.length_cons, List.length_nil, Nat.reduceAdd, Nat.reduceSub, List.replicate, List.cons_append, List.nil_append]
  rw [o_cons]
  refine o_for (xs := rgi 0 t.length) (f := D.int) 0 (fun i e m' => e = [some ((D.lst true (List.map (row true) t))), some ((D.lst true (List.map oi d))), some ((D.lst true (List.map D.int o))), none, none] ∧ m' = []) ?_ ?_ ?_
  · simp (disch := decide) only [ev_00, fr_pair, fr_pairs, py_pair, py_pairs, ev_pair, ev_pairs, ev_pairs0, anyPr, p_minR, p_maxR, p_sumR, p_allR, p_anyR, p_sortedR, o_nil, o_cons, o_ret, o_expr, o_set, o_asg, o_ife, o_setIx, o_aug, o_augIx, o_kill, o_pass, o_retN, seqP_nx, seqP_rt, o_var, o_int, o_bl, o_non, o_str, o_cst, o_bin, o_neg, o_cmp, o_chain, o_isN, o_notN, o_and, o_or, o_and1, o_or1, o_and2, o_or2, o_not, o_lst, o_tup, o_ix, o_slice, o_part0, o_part1, o_call, o_bi, o_isi, o_frz, o_isB, o_lrg, p_isB, p_lrg1, p_lrg2, o_rev, o_par, p_revL, p_revS, p_revR, ← List.map_reverse, o_mth0, o_mth, o_evs0, o_evs1, o_slst, o_stup, o_rng, o_enum, o_zip, o_enumT, o_lset, o_srtP, p_enumT, p_lset, p_srtP, p_listT, p_tupL, p_sliceT, p_divmod, p_var, v_0, v_s, p_add, p_addL, p_addT, p_sub, p_mul, p_mulL, p_div, p_mod, p_pow, p_neg, p_alF, p_alT, p_lst, p_tup, p_not, p_cmp, c_eq, c_ne, c_lt, c_gt, c_le, c_ge, c_in, c_nin, anyI, ev_ints0, ev_row0, ev_0ints, ev_ois0, p_isN, p_notN, p_ix, p_ixT, p_ixS, p_ixR, at_m, p_len, p_lenT, p_lenS, p_lenR, p_list, p_listS, p_listR, p_slice, p_allM, p_anyM, p_sumM, p_all, p_any, p_sum, p_max2, p_min2, p_remove, p_sorted, ints_snoc, ints_map, p_index, isl_l, py_drow, py_drows, ev_drow, ev_drows, fr_drow, fr_drows, p_sliceS, p_sliceR, p_src, p_srcS, p_srcT, p_srcR, src_l, src_f, p_rng1, p_rng2, p_enum, p_zip, p_app, p_pop, p_clear, p_rev, p_ext, p_ins, p_popAt, p_set, p_isi, p_frz, a_add, a_sub, a_mul, ixL, ixLR, cell_l, live_l, isl, py_int, py_bl, py_non, py_str, py_oi, py_lst, py_tup, py_scr, py_ints, py_bls, py_ois, py_row, py_rows, py_ref, ev_int, ev_bl, ev_str, ev_oi, ev_oI, ev_Io, ev_oN, ev_No, ev_ints, ev_row, ev_ois, ev_rows, non_oi, cut_map, ← List.map_take, ← List.map_drop, List.getElem?_cons_zero, List.getElem?_cons_succ, List.set_cons_zero, List.set_cons_succ, List.foldl_cons, List.foldl_nil, List.map_cons, List.map_nil, List.length_cons, List.length_nil, List.replicate, List.cons_append, List.nil_append, exists_eq_left, exists_eq_left', D.bl.injEq, D.int.injEq, D.tup.injEq, decide_eq_true_eq, decide_eq_false_iff_not, true_and, and_true, true_implies, List.length_map, fr_ref, fr_ints, fr_ois, fr_rows, fr_int, fr_lst, fr_row, fr_oi, fr_bl, fr_non, fr_cons, fr_nil, fr_tup, Fl.rt.injEq, Fl.nx.injEq, ex_neg, ex_neg', Bool.not_eq_true', Bool.not_eq_false', Bool.not_not, wipeE, omap_cons, omap_nil, at_0, at_1, at_2, oi_some, oi_none, oP_some, oP_none, Option.some.injEq, end_get, end_set, beq_self_eq_true, bne_self_eq_false, tn, tn0, tn1, fitL, mL, mR, nc, nc0, nc1, c_ltT, c_gtT, c_leT, ev_tup, ev_listc, ev_cons, ev_nil, ev_list0, ev_0list, c_inT, c_ninT, LIM, Int.zero_add, gc_id, Nat.le_refl, Option.map_some, Option.bind_some, isi_s, ty_int, ty_bl, ty_non, ty_lst, ty_tup, ty_str, ty_ref, ty_cl, ty_oi, isTy, Int.reduceLE, Int.reduceLT, Int.reducePow, Int.reduceAdd, Int.reduceSub, Int.reduceMul, Int.reduceNeg, Int.reduceEq, Int.reduceGT, Int.reduceGE, Int.reduceNe, Nat.reduceAdd, Nat.reduceSub, Nat.reduceLT, Nat.reduceLeDiff, Nat.reduceMul, Nat.reducePow, Nat.reduceBEq, Nat.reduceEqDiff, Int.reduceToNat, Bool.not_eq_true, Bool.not_true, Bool.not_false, Bool.not_eq_false, Bool.not_eq_eq_eq_not, reduceCtorEq, if_true, if_false, false_implies, Bool.false_eq_true, Bool.true_eq_false, and_self, not_true, not_false_iff, implies_true, forall_const, true_or, or_true, and_false, false_and, ge_iff_le, gt_iff_lt, cl_pairs, g_s, p_gT, p_gF, Bool.and_true, Bool.true_and, Bool.and_self, cl_ints, cl_bls, cl_oi, cl_ois, cl_row, cl_rows, cl_drow, cl_drows, cl_app, cl_lst, cl_cons, cl_nil, cl_int, cl_bl, cl_non, cl_str, cl_tup, fit, mfit, rt_pairs, sh_pairs, rt_bl, rt_non, rt_str, rt_tup, sh_non, sh_str, sh_tup, rt_ints, rt_oi, rt_ois, rt_row, rt_rows, rt_drow, rt_drows, rt_ref, rt_int, rt_cell, rt_cons, rt_nil, rt_lst, rt_app, p_gF, List.all_cons, List.all_nil, sh_ints, sh_oi, sh_ois, sh_row, sh_rows, sh_drow, sh_drows, sh_ref, sh_int, sh_bl, sh_cell, sh_cons, sh_nil, sh_lst, Nat.zero_add, Nat.add_zero, ol]
    exact ⟨⟨by omega, by omega⟩, by simp⟩
  · rintro i hi e m' ⟨rfl, rfl⟩
    rw [rgi_len] at hi
    refine ⟨_, rfl, ?_⟩
    rw [o_cons]
    refine o_for (xs := o.drop (i + 1)) (f := D.int) 0 (fun j e m' => e = [some ((D.lst true (List.map (row true) t))), some ((D.lst true (List.map oi d))), some ((D.lst true (List.map D.int o))), some (.int i), none] ∧ m' = []) ?_ ?_ ?_
    · simp (disch := decide) only [ev_00, fr_pair, fr_pairs, py_pair, py_pairs, ev_pair, ev_pairs, ev_pairs0, anyPr, p_minR, p_maxR, p_sumR, p_allR, p_anyR, p_sortedR, o_nil, o_cons, o_ret, o_expr, o_set, o_asg, o_ife, o_setIx, o_aug, o_augIx, o_kill, o_pass, o_retN, seqP_nx, seqP_rt, o_var, o_int, o_bl, o_non, o_str, o_cst, o_bin, o_neg, o_cmp, o_chain, o_isN, o_notN, o_and, o_or, o_and1, o_or1, o_and2, o_or2, o_not, o_lst, o_tup, o_ix, o_slice, o_part0, o_part1, o_call, o_bi, o_isi, o_frz, o_isB, o_lrg, p_isB, p_lrg1, p_lrg2, o_rev, o_par, p_revL, p_revS, p_revR, ← List.map_reverse, o_mth0, o_mth, o_evs0, o_evs1, o_slst, o_stup, o_rng, o_enum, o_zip, o_enumT, o_lset, o_srtP, p_enumT, p_lset, p_srtP, p_listT, p_tupL, p_sliceT, p_divmod, p_var, v_0, v_s, p_add, p_addL, p_addT, p_sub, p_mul, p_mulL, p_div, p_mod, p_pow, p_neg, p_alF, p_alT, p_lst, p_tup, p_not, p_cmp, c_eq, c_ne, c_lt, c_gt, c_le, c_ge, c_in, c_nin, anyI, ev_ints0, ev_row0, ev_0ints, ev_ois0, p_isN, p_notN, p_ix, p_ixT, p_ixS, p_ixR, at_m, p_len, p_lenT, p_lenS, p_lenR, p_list, p_listS, p_listR, p_slice, p_allM, p_anyM, p_sumM, p_all, p_any, p_sum, p_max2, p_min2, p_remove, p_sorted, ints_snoc, ints_map, p_index, isl_l, py_drow, py_drows, ev_drow, ev_drows, fr_drow, fr_drows, p_sliceS, p_sliceR, p_src, p_srcS, p_srcT, p_srcR, src_l, src_f, p_rng1, p_rng2, p_enum, p_zip, p_app, p_pop, p_clear, p_rev, p_ext, p_ins, p_popAt, p_set, p_isi, p_frz, a_add, a_sub, a_mul, ixL, ixLR, cell_l, live_l, isl, py_int, py_bl, py_non, py_str, py_oi, py_lst, py_tup, py_scr, py_ints, py_bls, py_ois, py_row, py_rows, py_ref, ev_int, ev_bl, ev_str, ev_oi, ev_oI, ev_Io, ev_oN, ev_No, ev_ints, ev_row, ev_ois, ev_rows, non_oi, cut_map, ← List.map_take, ← List.map_drop, List.getElem?_cons_zero, List.getElem?_cons_succ, List.set_cons_zero, List.set_cons_succ, List.foldl_cons, List.foldl_nil, List.map_cons, List.map_nil, List.length_cons, List.length_nil, List.replicate, List.cons_append, List.nil_append, exists_eq_left, exists_eq_left', D.bl.injEq, D.int.injEq, D.tup.injEq, decide_eq_true_eq, decide_eq_false_iff_not, true_and, and_true, true_implies, List.length_map, fr_ref, fr_ints, fr_ois, fr_rows, fr_int, fr_lst, fr_row, fr_oi, fr_bl, fr_non, fr_cons, fr_nil, fr_tup, Fl.rt.injEq, Fl.nx.injEq, ex_neg, ex_neg', Bool.not_eq_true', Bool.not_eq_false', Bool.not_not, wipeE, omap_cons, omap_nil, at_0, at_1, at_2, oi_some, oi_none, oP_some, oP_none, Option.some.injEq, end_get, end_set, beq_self_eq_true, bne_self_eq_false, tn, tn0, tn1, fitL, mL, mR, nc, nc0, nc1, c_ltT, c_gtT, c_leT, ev_tup, ev_listc, ev_cons, ev_nil, ev_list0, ev_0list, c_inT, c_ninT, LIM, Int.zero_add, gc_id, Nat.le_refl, Option.map_some, Option.bind_some, isi_s, ty_int, ty_bl, ty_non, ty_lst, ty_tup, ty_str, ty_ref, ty_cl, ty_oi, isTy, Int.reduceLE, Int.reduceLT, Int.reducePow, Int.reduceAdd, Int.reduceSub, Int.reduceMul, Int.reduceNeg, Int.reduceEq, Int.reduceGT, Int.reduceGE, Int.reduceNe, Nat.reduceAdd, Nat.reduceSub, Nat.reduceLT, Nat.reduceLeDiff, Nat.reduceMul, Nat.reducePow, Nat.reduceBEq, Nat.reduceEqDiff, Int.reduceToNat, Bool.not_eq_true, Bool.not_true, Bool.not_false, Bool.not_eq_false, Bool.not_eq_eq_eq_not, reduceCtorEq, if_true, if_false, false_implies, Bool.false_eq_true, Bool.true_eq_false, and_self, not_true, not_false_iff, implies_true, forall_const, true_or, or_true, and_false, false_and, ge_iff_le, gt_iff_lt, cl_pairs, g_s, p_gT, p_gF, Bool.and_true, Bool.true_and, Bool.and_self, cl_ints, cl_bls, cl_oi, cl_ois, cl_row, cl_rows, cl_drow, cl_drows, cl_app, cl_lst, cl_cons, cl_nil, cl_int, cl_bl, cl_non, cl_str, cl_tup, fit, mfit, rt_pairs, sh_pairs, rt_bl, rt_non, rt_str, rt_tup, sh_non, sh_str, sh_tup, rt_ints, rt_oi, rt_ois, rt_row, rt_rows, rt_drow, rt_drows, rt_ref, rt_int, rt_cell, rt_cons, rt_nil, rt_lst, rt_app, p_gF, List.all_cons, List.all_nil, sh_ints, sh_oi, sh_ois, sh_row, sh_rows, sh_drow, sh_drows, sh_ref, sh_int, sh_bl, sh_cell, sh_cons, sh_nil, sh_lst, Nat.zero_add, Nat.add_zero, rgi_get, cut_drop]
      rw [cut_drop _ (by omega), show ((i : Int) + 1).toNat = i + 1 by omega]
    · rintro j hj e m' ⟨rfl, rfl⟩
      rw [List.length_drop] at hj
      have e2 : (o.drop (i + 1))[j]'(by rw [List.length_drop]; omega) = pick o ((i + 1 + j : Nat) : Int) := by
        rw [List.getElem_drop]
        unfold pick
        rw [List.getD_eq_getElem?_getD, Int.toNat_natCast, List.getElem?_eq_getElem (by omega)]
        rfl
      rw [e2]
      refine ⟨_, rfl, ?_⟩
      have hi' := hrng i hi
      have pi : L2.atI o (i : Int) = some (pick o i) := pick_at (by omega) (by omega)
      have hh := h i (i + 1 + j) (by omega) (by omega)
      simp (disch := decide) only [ev_00, fr_pair, fr_pairs, py_pair, py_pairs, ev_pair, ev_pairs, ev_pairs0, anyPr, p_minR, p_maxR, p_sumR, p_allR, p_anyR, p_sortedR, o_nil, o_cons, o_ret, o_expr, o_set, o_asg, o_ife, o_setIx, o_aug, o_augIx, o_kill, o_pass, o_retN, seqP_nx, seqP_rt, o_var, o_int, o_bl, o_non, o_str, o_cst, o_bin, o_neg, o_cmp, o_chain, o_isN, o_notN, o_and, o_or, o_and1, o_or1, o_and2, o_or2, o_not, o_lst, o_tup, o_ix, o_slice, o_part0, o_part1, o_call, o_bi, o_isi, o_frz, o_isB, o_lrg, p_isB, p_lrg1, p_lrg2, o_rev, o_par, p_revL, p_revS, p_revR, ← List.map_reverse, o_mth0, o_mth, o_evs0, o_evs1, o_slst, o_stup, o_rng, o_enum, o_zip, o_enumT, o_lset, o_srtP, p_enumT, p_lset, p_srtP, p_listT, p_tupL, p_sliceT, p_divmod, p_var, v_0, v_s, p_add, p_addL, p_addT, p_sub, p_mul, p_mulL, p_div, p_mod, p_pow, p_neg, p_alF, p_alT, p_lst, p_tup, p_not, p_cmp, c_eq, c_ne, c_lt, c_gt, c_le, c_ge, c_in, c_nin, anyI, ev_ints0, ev_row0, ev_0ints, ev_ois0, p_isN, p_notN, p_ix, p_ixT, p_ixS, p_ixR, at_m, p_len, p_lenT, p_lenS, p_lenR, p_list, p_listS, p_listR, p_slice, p_allM, p_anyM, p_sumM, p_all, p_any, p_sum, p_max2, p_min2, p_remove, p_sorted, ints_snoc, ints_map, p_index, isl_l, py_drow, py_drows, ev_drow, ev_drows, fr_drow, fr_drows, p_sliceS, p_sliceR, p_src, p_srcS, p_srcT, p_srcR, src_l, src_f, p_rng1, p_rng2, p_enum, p_zip, p_app, p_pop, p_clear, p_rev, p_ext, p_ins, p_popAt, p_set, p_isi, p_frz, a_add, a_sub, a_mul, ixL, ixLR, cell_l, live_l, isl, py_int, py_bl, py_non, py_str, py_oi, py_lst, py_tup, py_scr, py_ints, py_bls, py_ois, py_row, py_rows, py_ref, ev_int, ev_bl, ev_str, ev_oi, ev_oI, ev_Io, ev_oN, ev_No, ev_ints, ev_row, ev_ois, ev_rows, non_oi, cut_map, ← List.map_take, ← List.map_drop, List.getElem?_cons_zero, List.getElem?_cons_succ, List.set_cons_zero, List.set_cons_succ, List.foldl_cons, List.foldl_nil, List.map_cons, List.map_nil, List.length_cons, List.length_nil, List.replicate, List.cons_append, List.nil_append, exists_eq_left, exists_eq_left', D.bl.injEq, D.int.injEq, D.tup.injEq, decide_eq_true_eq, decide_eq_false_iff_not, true_and, and_true, true_implies, List.length_map, fr_ref, fr_ints, fr_ois, fr_rows, fr_int, fr_lst, fr_row, fr_oi, fr_bl, fr_non, fr_cons, fr_nil, fr_tup, Fl.rt.injEq, Fl.nx.injEq, ex_neg, ex_neg', Bool.not_eq_true', Bool.not_eq_false', Bool.not_not, wipeE, omap_cons, omap_nil, at_0, at_1, at_2, oi_some, oi_none, oP_some, oP_none, Option.some.injEq, end_get, end_set, beq_self_eq_true, bne_self_eq_false, tn, tn0, tn1, fitL, mL, mR, nc, nc0, nc1, c_ltT, c_gtT, c_leT, ev_tup, ev_listc, ev_cons, ev_nil, ev_list0, ev_0list, c_inT, c_ninT, LIM, Int.zero_add, gc_id, Nat.le_refl, Option.map_some, Option.bind_some, isi_s, ty_int, ty_bl, ty_non, ty_lst, ty_tup, ty_str, ty_ref, ty_cl, ty_oi, isTy, Int.reduceLE, Int.reduceLT, Int.reducePow, Int.reduceAdd, Int.reduceSub, Int.reduceMul, Int.reduceNeg, Int.reduceEq, Int.reduceGT, Int.reduceGE, Int.reduceNe, Nat.reduceAdd, Nat.reduceSub, Nat.reduceLT, Nat.reduceLeDiff, Nat.reduceMul, Nat.reducePow, Nat.reduceBEq, Nat.reduceEqDiff, Int.reduceToNat, Bool.not_eq_true, Bool.not_true, Bool.not_false, Bool.not_eq_false, Bool.not_eq_eq_eq_not, reduceCtorEq, if_true, if_false, false_implies, Bool.false_eq_true, Bool.true_eq_false, and_self, not_true, not_false_iff, implies_true, forall_const, true_or, or_true, and_false, false_and, ge_iff_le, gt_iff_lt, cl_pairs, g_s, p_gT, p_gF, Bool.and_true, Bool.true_and, Bool.and_self, cl_ints, cl_bls, cl_oi, cl_ois, cl_row, cl_rows, cl_drow, cl_drows, cl_app, cl_lst, cl_cons, cl_nil, cl_int, cl_bl, cl_non, cl_str, cl_tup, fit, mfit, rt_pairs, sh_pairs, rt_bl, rt_non, rt_str, rt_tup, sh_non, sh_str, sh_tup, rt_ints, rt_oi, rt_ois, rt_row, rt_rows, rt_drow, rt_drows, rt_ref, rt_int, rt_cell, rt_cons, rt_nil, rt_lst, rt_app, p_gF, List.all_cons, List.all_nil, sh_ints, sh_oi, sh_ois, sh_row, sh_rows, sh_drow, sh_drows, sh_ref, sh_int, sh_bl, sh_cell, sh_cons, sh_nil, sh_lst, Nat.zero_add, Nat.add_zero, rgi_get, pi, ks _ _ hi'.1 hi'.2]
      exact fun q => absurd q (by omega)
    · rintro e m' ⟨rfl, rfl⟩
      simp (disch := decide) only [ev_00, fr_pair, fr_pairs, py_pair, py_pairs, ev_pair, ev_pairs, ev_pairs0, anyPr, p_minR, p_maxR, p_sumR, p_allR, p_anyR, p_sortedR, o_nil, o_cons, o_ret, o_expr, o_set, o_asg, o_ife, o_setIx, o_aug, o_augIx, o_kill, o_pass, o_retN, seqP_nx, seqP_rt, o_var, o_int, o_bl, o_non, o_str, o_cst, o_bin, o_neg, o_cmp, o_chain, o_isN, o_notN, o_and, o_or, o_and1, o_or1, o_and2, o_or2, o_not, o_lst, o_tup, o_ix, o_slice, o_part0, o_part1, o_call, o_bi, o_isi, o_frz, o_isB, o_lrg, p_isB, p_lrg1, p_lrg2, o_rev, o_par, p_revL, p_revS, p_revR, ← List.map_reverse, o_mth0, o_mth, o_evs0, o_evs1, o_slst, o_stup, o_rng, o_enum, o_zip, o_enumT, o_lset, o_srtP, p_enumT, p_lset, p_srtP, p_listT, p_tupL, p_sliceT, p_divmod, p_var, v_0, v_s, p_add, p_addL, p_addT, p_sub, p_mul, p_mulL, p_div, p_mod, p_pow, p_neg, p_alF, p_alT, p_lst, p_tup, p_not, p_cmp, c_eq, c_ne, c_lt, c_gt, c_le, c_ge, c_in, c_nin, anyI, ev_ints0, ev_row0, ev_0ints, ev_ois0, p_isN, p_notN, p_ix, p_ixT, p_ixS, p_ixR, at_m, p_len, p_lenT, p_lenS, p_lenR, p_list, p_listS, p_listR, p_slice, p_allM, p_anyM, p_sumM, p_all, p_any, p_sum, p_max2, p_min2, p_remove, p_sorted, ints_snoc, ints_map, p_index, isl_l, py_drow, py_drows, ev_drow, ev_drows, fr_drow, fr_drows, p_sliceS, p_sliceR, p_src, p_srcS, p_srcT, p_srcR, src_l, src_f, p_rng1, p_rng2, p_enum, p_zip, p_app, p_pop, p_clear, p_rev, p_ext, p_ins, p_popAt, p_set, p_isi, p_frz, a_add, a_sub, a_mul, ixL, ixLR, cell_l, live_l, isl, py_int, py_bl, py_non, py_str, py_oi, py_lst, py_tup, py_scr, py_ints, py_bls, py_ois, py_row, py_rows, py_ref, ev_int, ev_bl, ev_str, ev_oi, ev_oI, ev_Io, ev_oN, ev_No, ev_ints, ev_row, ev_ois, ev_rows, non_oi, cut_map, ← List.map_take, ← List.map_drop, List.getElem?_cons_zero, List.getElem?_cons_succ, List.set_cons_zero, List.set_cons_succ, List.foldl_cons, List.foldl_nil, List.map_cons, List.map_nil, List.length_cons, List.length_nil, List.replicate, List.cons_append, List.nil_append, exists_eq_left, exists_eq_left', D.bl.injEq, D.int.injEq, D.tup.injEq, decide_eq_true_eq, decide_eq_false_iff_not, true_and, and_true, true_implies, List.length_map, fr_ref, fr_ints, fr_ois, fr_rows, fr_int, fr_lst, fr_row, fr_oi, fr_bl, fr_non, fr_cons, fr_nil, fr_tup, Fl.rt.injEq, Fl.nx.injEq, ex_neg, ex_neg', Bool.not_eq_true', Bool.not_eq_false', Bool.not_not, wipeE, omap_cons, omap_nil, at_0, at_1, at_2, oi_some, oi_none, oP_some, oP_none, Option.some.injEq, end_get, end_set, beq_self_eq_true, bne_self_eq_false, tn, tn0, tn1, fitL, mL, mR, nc, nc0, nc1, c_ltT, c_gtT, c_leT, ev_tup, ev_listc, ev_cons, ev_nil, ev_list0, ev_0list, c_inT, c_ninT, LIM, Int.zero_add, gc_id, Nat.le_refl, Option.map_some, Option.bind_some, isi_s, ty_int, ty_bl, ty_non, ty_lst, ty_tup, ty_str, ty_ref, ty_cl, ty_oi, isTy, Int.reduceLE, Int.reduceLT, Int.reducePow, Int.reduceAdd, Int.reduceSub, Int.reduceMul, Int.reduceNeg, Int.reduceEq, Int.reduceGT, Int.reduceGE, Int.reduceNe, Nat.reduceAdd, Nat.reduceSub, Nat.reduceLT, Nat.reduceLeDiff, Nat.reduceMul, Nat.reducePow, Nat.reduceBEq, Nat.reduceEqDiff, Int.reduceToNat, Bool.not_eq_true, Bool.not_true, Bool.not_false, Bool.not_eq_false, Bool.not_eq_eq_eq_not, reduceCtorEq, if_true, if_false, false_implies, Bool.false_eq_true, Bool.true_eq_false, and_self, not_true, not_false_iff, implies_true, forall_const, true_or, or_true, and_false, false_and, ge_iff_le, gt_iff_lt, cl_pairs, g_s, p_gT, p_gF, Bool.and_true, Bool.true_and, Bool.and_self, cl_ints, cl_bls, cl_oi, cl_ois, cl_row, cl_rows, cl_drow, cl_drows, cl_app, cl_lst, cl_cons, cl_nil, cl_int, cl_bl, cl_non, cl_str, cl_tup, fit, mfit, rt_pairs, sh_pairs, rt_bl, rt_non, rt_str, rt_tup, sh_non, sh_str, sh_tup, rt_ints, rt_oi, rt_ois, rt_row, rt_rows, rt_drow, rt_drows, rt_ref, rt_int, rt_cell, rt_cons, rt_nil, rt_lst, rt_app, p_gF, List.all_cons, List.all_nil, sh_ints, sh_oi, sh_ois, sh_row, sh_rows, sh_drow, sh_drows, sh_ref, sh_int, sh_bl, sh_cell, sh_cons, sh_nil, sh_lst, Nat.zero_add, Nat.add_zero]
  · rintro e m' ⟨rfl, rfl⟩
    simp (disch := decide) only [ev_00, fr_pair, fr_pairs, py_pair, py_pairs, ev_pair, ev_pairs, ev_pairs0, anyPr, p_minR, p_maxR, p_sumR, p_allR, p_anyR, p_sortedR, o_nil, o_cons, o_ret, o_expr, o_set, o_asg, o_ife, o_setIx, o_aug, o_augIx, o_kill, o_pass, o_retN, seqP_nx, seqP_rt, o_var, o_int, o_bl, o_non, o_str, o_cst, o_bin, o_neg, o_cmp, o_chain, o_isN, o_notN, o_and, o_or, o_and1, o_or1, o_and2, o_or2, o_not, o_lst, o_tup, o_ix, o_slice, o_part0, o_part1, o_call, o_bi, o_isi, o_frz, o_isB, o_lrg, p_isB, p_lrg1, p_lrg2, o_rev, o_par, p_revL, p_revS, p_revR, ← List.map_reverse, o_mth0, o_mth, o_evs0, o_evs1, o_slst, o_stup, o_rng, o_enum, o_zip, o_enumT, o_lset, o_srtP, p_enumT, p_lset, p_srtP, p_listT, p_tupL, p_sliceT, p_divmod, p_var, v_0, v_s, p_add, p_addL, p_addT, p_sub, p_mul, p_mulL, p_div, p_mod, p_pow, p_neg, p_alF, p_alT, p_lst, p_tup, p_not, p_cmp, c_eq, c_ne, c_lt, c_gt, c_le, c_ge, c_in, c_nin, anyI, ev_ints0, ev_row0, ev_0ints, ev_ois0, p_isN, p_notN, p_ix, p_ixT, p_ixS, p_ixR, at_m, p_len, p_lenT, p_lenS, p_lenR, p_list, p_listS, p_listR, p_slice, p_allM, p_anyM, p_sumM, p_all, p_any, p_sum, p_max2, p_min2, p_remove, p_sorted, ints_snoc, ints_map, p_index, isl_l, py_drow, py_drows, ev_drow, ev_drows, fr_drow, fr_drows, p_sliceS, p_sliceR, p_src, p_srcS, p_srcT, p_srcR, src_l, src_f, p_rng1, p_rng2, p_enum, p_zip, p_app, p_pop, p_clear, p_rev, p_ext, p_ins, p_popAt, p_set, p_isi, p_frz, a_add, a_sub, a_mul, ixL, ixLR, cell_l, live_l, isl, py_int, py_bl, py_non, py_str, py_oi, py_lst, py_tup, py_scr, py_ints, py_bls, py_ois, py_row, py_rows, py_ref, ev_int, ev_bl, ev_str, ev_oi, ev_oI, ev_Io, ev_oN, ev_No, ev_ints, ev_row, ev_ois, ev_rows, non_oi, cut_map, ← List.map_take, ← List.map_drop, List.getElem?_cons_zero, List.getElem?_cons_succ, List.set_cons_zero, List.set_cons_succ, List.foldl_cons, List.foldl_nil, List.map_cons, List.map_nil, List.length_cons, List.length_nil, List.replicate, List.cons_append, List.nil_append, exists_eq_left, exists_eq_left', D.bl.injEq, D.int.injEq, D.tup.injEq, decide_eq_true_eq, decide_eq_false_iff_not, true_and, and_true, true_implies, List.length_map, fr_ref, fr_ints, fr_ois, fr_rows, fr_int, fr_lst, fr_row, fr_oi, fr_bl, fr_non, fr_cons, fr_nil, fr_tup, Fl.rt.injEq, Fl.nx.injEq, ex_neg, ex_neg', Bool.not_eq_true', Bool.not_eq_false', Bool.not_not, wipeE, omap_cons, omap_nil, at_0, at_1, at_2, oi_some, oi_none, oP_some, oP_none, Option.some.injEq, end_get, end_set, beq_self_eq_true, bne_self_eq_false, tn, tn0, tn1, fitL, mL, mR, nc, nc0, nc1, c_ltT, c_gtT, c_leT, ev_tup, ev_listc, ev_cons, ev_nil, ev_list0, ev_0list, c_inT, c_ninT, LIM, Int.zero_add, gc_id, Nat.le_refl, Option.map_some, Option.bind_some, isi_s, ty_int, ty_bl, ty_non, ty_lst, ty_tup, ty_str, ty_ref, ty_cl, ty_oi, isTy, Int.reduceLE, Int.reduceLT, Int.reducePow, Int.reduceAdd, Int.reduceSub, Int.reduceMul, Int.reduceNeg, Int.reduceEq, Int.reduceGT, Int.reduceGE, Int.reduceNe, Nat.reduceAdd, Nat.reduceSub, Nat.reduceLT, Nat.reduceLeDiff, Nat.reduceMul, Nat.reducePow, Nat.reduceBEq, Nat.reduceEqDiff, Int.reduceToNat, Bool.not_eq_true, Bool.not_true, Bool.not_false, Bool.not_eq_false, Bool.not_eq_eq_eq_not, reduceCtorEq, if_true, if_false, false_implies, Bool.false_eq_true, Bool.true_eq_false, and_self, not_true, not_false_iff, implies_true, forall_const, true_or, or_true, and_false, false_and, ge_iff_le, gt_iff_lt, cl_pairs, g_s, p_gT, p_gF, Bool.and_true, Bool.true_and, Bool.and_self, cl_ints, cl_bls, cl_oi, cl_ois, cl_row, cl_rows, cl_drow, cl_drows, cl_app, cl_lst, cl_cons, cl_nil, cl_int, cl_bl, cl_non, cl_str, cl_tup, fit, mfit, rt_pairs, sh_pairs, rt_bl, rt_non, rt_str, rt_tup, sh_non, sh_str, sh_tup, rt_ints, rt_oi, rt_ois, rt_row, rt_rows, rt_drow, rt_drows, rt_ref, rt_int, rt_cell, rt_cons, rt_nil, rt_lst, rt_app, p_gF, List.all_cons, List.all_nil, sh_ints, sh_oi, sh_ois, sh_row, sh_rows, sh_drow, sh_drows, sh_ref, sh_int, sh_bl, sh_cell, sh_cons, sh_nil, sh_lst, Nat.zero_add, Nat.add_zero]
theorem run_law : ∀ ns : List Int, ns.length ≤ 63 → F_law.run [.scr ns] = some (.ok (.bl true, [])) := by
  intro ns hl
  obtain ⟨t, ht, ⟨l1, l2⟩, m, hm, hr⟩ := table ns 14 (by omega) (by omega)
  have T : TabM m t := ⟨by omega, by omega, by omega, fun r h => (hr r h).1⟩
  have w0 : ∀ r ∈ t, ∀ w ∈ r, 0 ≤ w := fun r h w hw => ((hr r h).2 w hw).1
  have hord : ∀ c : Int, ∃ os : List Int, F__law_order.run [.int c, .int t.length] = some (.ok (.ref 1, [.lst .live [], (Cell.lst .live (List.map D.int os))])) ∧ os.Perm (rgi 0 t.length) := fun c => order c t.length (by omega)
  let ord : Int → List Int := fun c => (hord c).choose
  have ord1 : ∀ c, F__law_order.run [.int c, .int t.length] = some (.ok (.ref 1, [.lst .live [], (Cell.lst .live (List.map D.int (ord c)))])) := fun c => (hord c).choose_spec.1
  have ord2 : ∀ c, (ord c).Perm (rgi 0 t.length) := fun c => (hord c).choose_spec.2
  clear_value ord
  have ez : L2.atI t 0 = some (rowAt t 0) := (T.at (by omega) (by omega)).1
  have lz : (rowAt t 0).length = m := (T.at (by omega) (by omega)).2.2
  have kc := fun (k : Int) (h : 0 ≤ k) μ Q => call_eq (Γ := G_law) (f := 16) (dn := 0) (fz := true) (ds := [.scr ns, .int k]) (μ := μ) (Q := Q) rfl (by simp only [B__law_cell_at, le_pair, le_pairs, la_nil, la_t, la_f, Option.bind_some, Option.map_some, List.append_nil, List.replicate, le_int, le_bl, le_non, le_str, le_scr, le_oi, le_lst, le_tup, le_ints, le_bls, le_ois, le_row, le_rows, le_drow, le_drows, le_ref, cl_pairs, g_s, p_gT, p_gF, Bool.and_true, Bool.true_and, Bool.and_self, cl_ints, cl_bls, cl_oi, cl_ois, cl_row, cl_rows, cl_drow, cl_drows, cl_app, cl_lst, cl_cons, cl_nil, cl_int, cl_bl, cl_non, cl_str, cl_tup] <;> rfl) rfl (cell_at ns k h)
  have k0 := fun  μ Q => call_eq (Γ := G_law) (f := 107) (dn := 0) (fz := true) (ds := [.scr ns, .int 14]) (μ := μ) (Q := Q) rfl (by simp only [B__law_table, le_pair, le_pairs, la_nil, la_t, la_f, Option.bind_some, Option.map_some, List.append_nil, List.replicate, le_int, le_bl, le_non, le_str, le_scr, le_oi, le_lst, le_tup, le_ints, le_bls, le_ois, le_row, le_rows, le_drow, le_drows, le_ref, cl_pairs, g_s, p_gT, p_gF, Bool.and_true, Bool.true_and, Bool.and_self, cl_ints, cl_bls, cl_oi, cl_ois, cl_row, cl_rows, cl_drow, cl_drows, cl_app, cl_lst, cl_cons, cl_nil, cl_int, cl_bl, cl_non, cl_str, cl_tup] <;> rfl) rfl (ht)
  have ko := fun (c : Int) μ Q => call_eq (Γ := G_law) (f := 76) (dn := 0) (fz := true) (ds := [.int c, .int t.length]) (μ := μ) (Q := Q) rfl (by simp only [B__law_order, le_pair, le_pairs, la_nil, la_t, la_f, Option.bind_some, Option.map_some, List.append_nil, List.replicate, le_int, le_bl, le_non, le_str, le_scr, le_oi, le_lst, le_tup, le_ints, le_bls, le_ois, le_row, le_rows, le_drow, le_drows, le_ref, cl_pairs, g_s, p_gT, p_gF, Bool.and_true, Bool.true_and, Bool.and_self, cl_ints, cl_bls, cl_oi, cl_ois, cl_row, cl_rows, cl_drow, cl_drows, cl_app, cl_lst, cl_cons, cl_nil, cl_int, cl_bl, cl_non, cl_str, cl_tup] <;> rfl) rfl (ord1 c)
  rw [R_law]
  refine run_ok ?_
  simp only [b_law, N_law, List.map_cons, List.map_nil, List.length_cons, List.length_nil, Nat.reduceAdd, Nat.reduceSub, List.replicate, List.cons_append, List.nil_append]
  rw [o_cons]
  simp (disch := decide) only [ev_00, fr_pair, fr_pairs, py_pair, py_pairs, ev_pair, ev_pairs, ev_pairs0, anyPr, p_minR, p_maxR, p_sumR, p_allR, p_anyR, p_sortedR, o_nil, o_ret, o_expr, o_set, o_asg, o_ife, o_setIx, o_aug, o_augIx, o_kill, o_pass, o_retN, seqP_nx, seqP_rt, o_var, o_int, o_bl, o_non, o_str, o_cst, o_bin, o_neg, o_cmp, o_chain, o_isN, o_notN, o_and, o_or, o_and1, o_or1, o_and2, o_or2, o_not, o_lst, o_tup, o_ix, o_slice, o_part0, o_part1, o_call, o_bi, o_isi, o_frz, o_isB, o_lrg, p_isB, p_lrg1, p_lrg2, o_rev, o_par, p_revL, p_revS, p_revR, ← List.map_reverse, o_mth0, o_mth, o_evs0, o_evs1, o_slst, o_stup, o_rng, o_enum, o_zip, o_enumT, o_lset, o_srtP, p_enumT, p_lset, p_srtP, p_listT, p_tupL, p_sliceT, p_divmod, p_var, v_0, v_s, p_add, p_addL, p_addT, p_sub, p_mul, p_mulL, p_div, p_mod, p_pow, p_neg, p_alF, p_alT, p_lst, p_tup, p_not, p_cmp, c_eq, c_ne, c_lt, c_gt, c_le, c_ge, c_in, c_nin, anyI, ev_ints0, ev_row0, ev_0ints, ev_ois0, p_isN, p_notN, p_ix, p_ixT, p_ixS, p_ixR, at_m, p_len, p_lenT, p_lenS, p_lenR, p_list, p_listS, p_listR, p_slice, p_allM, p_anyM, p_sumM, p_all, p_any, p_sum, p_max2, p_min2, p_remove, p_sorted, ints_snoc, ints_map, p_index, isl_l, py_drow, py_drows, ev_drow, ev_drows, fr_drow, fr_drows, p_sliceS, p_sliceR, p_src, p_srcS, p_srcT, p_srcR, src_l, src_f, p_rng1, p_rng2, p_enum, p_zip, p_app, p_pop, p_clear, p_rev, p_ext, p_ins, p_popAt, p_set, p_isi, p_frz, a_add, a_sub, a_mul, ixL, ixLR, cell_l, live_l, isl, py_int, py_bl, py_non, py_str, py_oi, py_lst, py_tup, py_scr, py_ints, py_bls, py_ois, py_row, py_rows, py_ref, ev_int, ev_bl, ev_str, ev_oi, ev_oI, ev_Io, ev_oN, ev_No, ev_ints, ev_row, ev_ois, ev_rows, non_oi, cut_map, ← List.map_take, ← List.map_drop, List.getElem?_cons_zero, List.getElem?_cons_succ, List.set_cons_zero, List.set_cons_succ, List.foldl_cons, List.foldl_nil, List.map_cons, List.map_nil, List.length_cons, List.length_nil, List.replicate, List.cons_append, List.nil_append, exists_eq_left, exists_eq_left', D.bl.injEq, D.int.injEq, D.tup.injEq, decide_eq_true_eq, decide_eq_false_iff_not, true_and, and_true, true_implies, List.length_map, fr_ref, fr_ints, fr_ois, fr_rows, fr_int, fr_lst, fr_row, fr_oi, fr_bl, fr_non, fr_cons, fr_nil, fr_tup, Fl.rt.injEq, Fl.nx.injEq, ex_neg, ex_neg', Bool.not_eq_true', Bool.not_eq_false', Bool.not_not, wipeE, omap_cons, omap_nil, at_0, at_1, at_2, oi_some, oi_none, oP_some, oP_none, Option.some.injEq, end_get, end_set, beq_self_eq_true, bne_self_eq_false, tn, tn0, tn1, fitL, mL, mR, nc, nc0, nc1, c_ltT, c_gtT, c_leT, ev_tup, ev_listc, ev_cons, ev_nil, ev_list0, ev_0list, c_inT, c_ninT, LIM, Int.zero_add, gc_id, Nat.le_refl, Option.map_some, Option.bind_some, isi_s, ty_int, ty_bl, ty_non, ty_lst, ty_tup, ty_str, ty_ref, ty_cl, ty_oi, isTy, Int.reduceLE, Int.reduceLT, Int.reducePow, Int.reduceAdd, Int.reduceSub, Int.reduceMul, Int.reduceNeg, Int.reduceEq, Int.reduceGT, Int.reduceGE, Int.reduceNe, Nat.reduceAdd, Nat.reduceSub, Nat.reduceLT, Nat.reduceLeDiff, Nat.reduceMul, Nat.reducePow, Nat.reduceBEq, Nat.reduceEqDiff, Int.reduceToNat, Bool.not_eq_true, Bool.not_true, Bool.not_false, Bool.not_eq_false, Bool.not_eq_eq_eq_not, reduceCtorEq, if_true, if_false, false_implies, Bool.false_eq_true, Bool.true_eq_false, and_self, not_true, not_false_iff, implies_true, forall_const, true_or, or_true, and_false, false_and, ge_iff_le, gt_iff_lt, cl_pairs, g_s, p_gT, p_gF, Bool.and_true, Bool.true_and, Bool.and_self, cl_ints, cl_bls, cl_oi, cl_ois, cl_row, cl_rows, cl_drow, cl_drows, cl_app, cl_lst, cl_cons, cl_nil, cl_int, cl_bl, cl_non, cl_str, cl_tup, fit, mfit, rt_pairs, sh_pairs, rt_bl, rt_non, rt_str, rt_tup, sh_non, sh_str, sh_tup, rt_ints, rt_oi, rt_ois, rt_row, rt_rows, rt_drow, rt_drows, rt_ref, rt_int, rt_cell, rt_cons, rt_nil, rt_lst, rt_app, p_gF, List.all_cons, List.all_nil, sh_ints, sh_oi, sh_ois, sh_row, sh_rows, sh_drow, sh_drows, sh_ref, sh_int, sh_bl, sh_cell, sh_cons, sh_nil, sh_lst, Nat.zero_add, Nat.add_zero, k0]
  rw [o_cons]
  simp (disch := decide) only [ev_00, fr_pair, fr_pairs, py_pair, py_pairs, ev_pair, ev_pairs, ev_pairs0, anyPr, p_minR, p_maxR, p_sumR, p_allR, p_anyR, p_sortedR, o_nil, o_ret, o_expr, o_set, o_asg, o_ife, o_setIx, o_aug, o_augIx, o_kill, o_pass, o_retN, seqP_nx, seqP_rt, o_var, o_int, o_bl, o_non, o_str, o_cst, o_bin, o_neg, o_cmp, o_chain, o_isN, o_notN, o_and, o_or, o_and1, o_or1, o_and2, o_or2, o_not, o_lst, o_tup, o_ix, o_slice, o_part0, o_part1, o_call, o_bi, o_isi, o_frz, o_isB, o_lrg, p_isB, p_lrg1, p_lrg2, o_rev, o_par, p_revL, p_revS, p_revR, ← List.map_reverse, o_mth0, o_mth, o_evs0, o_evs1, o_slst, o_stup, o_rng, o_enum, o_zip, o_enumT, o_lset, o_srtP, p_enumT, p_lset, p_srtP, p_listT, p_tupL, p_sliceT, p_divmod, p_var, v_0, v_s, p_add, p_addL, p_addT, p_sub, p_mul, p_mulL, p_div, p_mod, p_pow, p_neg, p_alF, p_alT, p_lst, p_tup, p_not, p_cmp, c_eq, c_ne, c_lt, c_gt, c_le, c_ge, c_in, c_nin, anyI, ev_ints0, ev_row0, ev_0ints, ev_ois0, p_isN, p_notN, p_ix, p_ixT, p_ixS, p_ixR, at_m, p_len, p_lenT, p_lenS, p_lenR, p_list, p_listS, p_listR, p_slice, p_allM, p_anyM, p_sumM, p_all, p_any, p_sum, p_max2, p_min2, p_remove, p_sorted, ints_snoc, ints_map, p_index, isl_l, py_drow, py_drows, ev_drow, ev_drows, fr_drow, fr_drows, p_sliceS, p_sliceR, p_src, p_srcS, p_srcT, p_srcR, src_l, src_f, p_rng1, p_rng2, p_enum, p_zip, p_app, p_pop, p_clear, p_rev, p_ext, p_ins, p_popAt, p_set, p_isi, p_frz, a_add, a_sub, a_mul, ixL, ixLR, cell_l, live_l, isl, py_int, py_bl, py_non, py_str, py_oi, py_lst, py_tup, py_scr, py_ints, py_bls, py_ois, py_row, py_rows, py_ref, ev_int, ev_bl, ev_str, ev_oi, ev_oI, ev_Io, ev_oN, ev_No, ev_ints, ev_row, ev_ois, ev_rows, non_oi, cut_map, ← List.map_take, ← List.map_drop, List.getElem?_cons_zero, List.getElem?_cons_succ, List.set_cons_zero, List.set_cons_succ, List.foldl_cons, List.foldl_nil, List.map_cons, List.map_nil, List.length_cons, List.length_nil, List.replicate, List.cons_append, List.nil_append, exists_eq_left, exists_eq_left', D.bl.injEq, D.int.injEq, D.tup.injEq, decide_eq_true_eq, decide_eq_false_iff_not, true_and, and_true, true_implies, List.length_map, fr_ref, fr_ints, fr_ois, fr_rows, fr_int, fr_lst, fr_row, fr_oi, fr_bl, fr_non, fr_cons, fr_nil, fr_tup, Fl.rt.injEq, Fl.nx.injEq, ex_neg, ex_neg', Bool.not_eq_true', Bool.not_eq_false', Bool.not_not, wipeE, omap_cons, omap_nil, at_0, at_1, at_2, oi_some, oi_none, oP_some, oP_none, Option.some.injEq, end_get, end_set, beq_self_eq_true, bne_self_eq_false, tn, tn0, tn1, fitL, mL, mR, nc, nc0, nc1, c_ltT, c_gtT, c_leT, ev_tup, ev_listc, ev_cons, ev_nil, ev_list0, ev_0list, c_inT, c_ninT, LIM, Int.zero_add, gc_id, Nat.le_refl, Option.map_some, Option.bind_some, isi_s, ty_int, ty_bl, ty_non, ty_lst, ty_tup, ty_str, ty_ref, ty_cl, ty_oi, isTy, Int.reduceLE, Int.reduceLT, Int.reducePow, Int.reduceAdd, Int.reduceSub, Int.reduceMul, Int.reduceNeg, Int.reduceEq, Int.reduceGT, Int.reduceGE, Int.reduceNe, Nat.reduceAdd, Nat.reduceSub, Nat.reduceLT, Nat.reduceLeDiff, Nat.reduceMul, Nat.reducePow, Nat.reduceBEq, Nat.reduceEqDiff, Int.reduceToNat, Bool.not_eq_true, Bool.not_true, Bool.not_false, Bool.not_eq_false, Bool.not_eq_eq_eq_not, reduceCtorEq, if_true, if_false, false_implies, Bool.false_eq_true, Bool.true_eq_false, and_self, not_true, not_false_iff, implies_true, forall_const, true_or, or_true, and_false, false_and, ge_iff_le, gt_iff_lt, cl_pairs, g_s, p_gT, p_gF, Bool.and_true, Bool.true_and, Bool.and_self, cl_ints, cl_bls, cl_oi, cl_ois, cl_row, cl_rows, cl_drow, cl_drows, cl_app, cl_lst, cl_cons, cl_nil, cl_int, cl_bl, cl_non, cl_str, cl_tup, fit, mfit, rt_pairs, sh_pairs, rt_bl, rt_non, rt_str, rt_tup, sh_non, sh_str, sh_tup, rt_ints, rt_oi, rt_ois, rt_row, rt_rows, rt_drow, rt_drows, rt_ref, rt_int, rt_cell, rt_cons, rt_nil, rt_lst, rt_app, p_gF, List.all_cons, List.all_nil, sh_ints, sh_oi, sh_ois, sh_row, sh_rows, sh_drow, sh_drows, sh_ref, sh_int, sh_bl, sh_cell, sh_cons, sh_nil, sh_lst, Nat.zero_add, Nat.add_zero]
  refine ⟨⟨by omega, by omega⟩, ?_⟩
  obtain ⟨K, hK, K1, K2⟩ : ∃ K : Nat, 1 + cellF ns 3 % 4 = (K : Int) ∧ 1 ≤ K ∧ K ≤ 4 := ⟨(1 + cellF ns 3 % 4).toNat, by omega, by omega, by omega⟩
  rw [o_cons]
  simp (disch := decide) only [ev_00, fr_pair, fr_pairs, py_pair, py_pairs, ev_pair, ev_pairs, ev_pairs0, anyPr, p_minR, p_maxR, p_sumR, p_allR, p_anyR, p_sortedR, o_nil, o_ret, o_expr, o_set, o_asg, o_ife, o_setIx, o_aug, o_augIx, o_kill, o_pass, o_retN, seqP_nx, seqP_rt, o_var, o_int, o_bl, o_non, o_str, o_cst, o_bin, o_neg, o_cmp, o_chain, o_isN, o_notN, o_and, o_or, o_and1, o_or1, o_and2, o_or2, o_not, o_lst, o_tup, o_ix, o_slice, o_part0, o_part1, o_call, o_bi, o_isi, o_frz, o_isB, o_lrg, p_isB, p_lrg1, p_lrg2, o_rev, o_par, p_revL, p_revS, p_revR, ← List.map_reverse, o_mth0, o_mth, o_evs0, o_evs1, o_slst, o_stup, o_rng, o_enum, o_zip, o_enumT, o_lset, o_srtP, p_enumT, p_lset, p_srtP, p_listT, p_tupL, p_sliceT, p_divmod, p_var, v_0, v_s, p_add, p_addL, p_addT, p_sub, p_mul, p_mulL, p_div, p_mod, p_pow, p_neg, p_alF, p_alT, p_lst, p_tup, p_not, p_cmp, c_eq, c_ne, c_lt, c_gt, c_le, c_ge, c_in, c_nin, anyI, ev_ints0, ev_row0, ev_0ints, ev_ois0, p_isN, p_notN, p_ix, p_ixT, p_ixS, p_ixR, at_m, p_len, p_lenT, p_lenS, p_lenR, p_list, p_listS, p_listR, p_slice, p_allM, p_anyM, p_sumM, p_all, p_any, p_sum, p_max2, p_min2, p_remove, p_sorted, ints_snoc, ints_map, p_index, isl_l, py_drow, py_drows, ev_drow, ev_drows, fr_drow, fr_drows, p_sliceS, p_sliceR, p_src, p_srcS, p_srcT, p_srcR, src_l, src_f, p_rng1, p_rng2, p_enum, p_zip, p_app, p_pop, p_clear, p_rev, p_ext, p_ins, p_popAt, p_set, p_isi, p_frz, a_add, a_sub, a_mul, ixL, ixLR, cell_l, live_l, isl, py_int, py_bl, py_non, py_str, py_oi, py_lst, py_tup, py_scr, py_ints, py_bls, py_ois, py_row, py_rows, py_ref, ev_int, ev_bl, ev_str, ev_oi, ev_oI, ev_Io, ev_oN, ev_No, ev_ints, ev_row, ev_ois, ev_rows, non_oi, cut_map, ← List.map_take, ← List.map_drop, List.getElem?_cons_zero, List.getElem?_cons_succ, List.set_cons_zero, List.set_cons_succ, List.foldl_cons, List.foldl_nil, List.map_cons, List.map_nil, List.length_cons, List.length_nil, List.replicate, List.cons_append, List.nil_append, exists_eq_left, exists_eq_left', D.bl.injEq, D.int.injEq, D.tup.injEq, decide_eq_true_eq, decide_eq_false_iff_not, true_and, and_true, true_implies, List.length_map, fr_ref, fr_ints, fr_ois, fr_rows, fr_int, fr_lst, fr_row, fr_oi, fr_bl, fr_non, fr_cons, fr_nil, fr_tup, Fl.rt.injEq, Fl.nx.injEq, ex_neg, ex_neg', Bool.not_eq_true', Bool.not_eq_false', Bool.not_not, wipeE, omap_cons, omap_nil, at_0, at_1, at_2, oi_some, oi_none, oP_some, oP_none, Option.some.injEq, end_get, end_set, beq_self_eq_true, bne_self_eq_false, tn, tn0, tn1, fitL, mL, mR, nc, nc0, nc1, c_ltT, c_gtT, c_leT, ev_tup, ev_listc, ev_cons, ev_nil, ev_list0, ev_0list, c_inT, c_ninT, LIM, Int.zero_add, gc_id, Nat.le_refl, Option.map_some, Option.bind_some, isi_s, ty_int, ty_bl, ty_non, ty_lst, ty_tup, ty_str, ty_ref, ty_cl, ty_oi, isTy, Int.reduceLE, Int.reduceLT, Int.reducePow, Int.reduceAdd, Int.reduceSub, Int.reduceMul, Int.reduceNeg, Int.reduceEq, Int.reduceGT, Int.reduceGE, Int.reduceNe, Nat.reduceAdd, Nat.reduceSub, Nat.reduceLT, Nat.reduceLeDiff, Nat.reduceMul, Nat.reducePow, Nat.reduceBEq, Nat.reduceEqDiff, Int.reduceToNat, Bool.not_eq_true, Bool.not_true, Bool.not_false, Bool.not_eq_false, Bool.not_eq_eq_eq_not, reduceCtorEq, if_true, if_false, false_implies, Bool.false_eq_true, Bool.true_eq_false, and_self, not_true, not_false_iff, implies_true, forall_const, true_or, or_true, and_false, false_and, ge_iff_le, gt_iff_lt, cl_pairs, g_s, p_gT, p_gF, Bool.and_true, Bool.true_and, Bool.and_self, cl_ints, cl_bls, cl_oi, cl_ois, cl_row, cl_rows, cl_drow, cl_drows, cl_app, cl_lst, cl_cons, cl_nil, cl_int, cl_bl, cl_non, cl_str, cl_tup, fit, mfit, rt_pairs, sh_pairs, rt_bl, rt_non, rt_str, rt_tup, sh_non, sh_str, sh_tup, rt_ints, rt_oi, rt_ois, rt_row, rt_rows, rt_drow, rt_drows, rt_ref, rt_int, rt_cell, rt_cons, rt_nil, rt_lst, rt_app, p_gF, List.all_cons, List.all_nil, sh_ints, sh_oi, sh_ois, sh_row, sh_rows, sh_drow, sh_drows, sh_ref, sh_int, sh_bl, sh_cell, sh_cons, sh_nil, sh_lst, Nat.zero_add, Nat.add_zero]
  refine o_map (xs := rgi 0 K) (f := D.int) (fun k => row false (ord (cellF ns (4 + k)))) ?_ ?_ ?_
  · simp (disch := decide) only [ev_00, fr_pair, fr_pairs, py_pair, py_pairs, ev_pair, ev_pairs, ev_pairs0, anyPr, p_minR, p_maxR, p_sumR, p_allR, p_anyR, p_sortedR, o_nil, o_cons, o_ret, o_expr, o_set, o_asg, o_ife, o_setIx, o_aug, o_augIx, o_kill, o_pass, o_retN, seqP_nx, seqP_rt, o_var, o_int, o_bl, o_non, o_str, o_cst, o_bin, o_neg, o_cmp, o_chain, o_isN, o_notN, o_and, o_or, o_and1, o_or1, o_and2, o_or2, o_not, o_lst, o_tup, o_ix, o_slice, o_part0, o_part1, o_call, o_bi, o_isi, o_frz, o_isB, o_lrg, p_isB, p_lrg1, p_lrg2, o_rev, o_par, p_revL, p_revS, p_revR, ← List.map_reverse, o_mth0, o_mth, o_evs0, o_evs1, o_slst, o_stup, o_rng, o_enum, o_zip, o_enumT, o_lset, o_srtP, p_enumT, p_lset, p_srtP, p_listT, p_tupL, p_sliceT, p_divmod, p_var, v_0, v_s, p_add, p_addL, p_addT, p_sub, p_mul, p_mulL, p_div, p_mod, p_pow, p_neg, p_alF, p_alT, p_lst, p_tup, p_not, p_cmp, c_eq, c_ne, c_lt, c_gt, c_le, c_ge, c_in, c_nin, anyI, ev_ints0, ev_row0, ev_0ints, ev_ois0, p_isN, p_notN, p_ix, p_ixT, p_ixS, p_ixR, at_m, p_len, p_lenT, p_lenS, p_lenR, p_list, p_listS, p_listR, p_slice, p_allM, p_anyM, p_sumM, p_all, p_any, p_sum, p_max2, p_min2, p_remove, p_sorted, ints_snoc, ints_map, p_index, isl_l, py_drow, py_drows, ev_drow, ev_drows, fr_drow, fr_drows, p_sliceS, p_sliceR, p_src, p_srcS, p_srcT, p_srcR, src_l, src_f, p_rng1, p_rng2, p_enum, p_zip, p_app, p_pop, p_clear, p_rev, p_ext, p_ins, p_popAt, p_set, p_isi, p_frz, a_add, a_sub, a_mul, ixL, ixLR, cell_l, live_l, isl, py_int, py_bl, py_non, py_str, py_oi, py_lst, py_tup, py_scr, py_ints, py_bls, py_ois, py_row, py_rows, py_ref, ev_int, ev_bl, ev_str, ev_oi, ev_oI, ev_Io, ev_oN, ev_No, ev_ints, ev_row, ev_ois, ev_rows, non_oi, cut_map, ← List.map_take, ← List.map_drop, List.getElem?_cons_zero, List.getElem?_cons_succ, List.set_cons_zero, List.set_cons_succ, List.foldl_cons, List.foldl_nil, List.map_cons, List.map_nil, List.length_cons, List.length_nil, List.replicate, List.cons_append, List.nil_append, exists_eq_left, exists_eq_left', D.bl.injEq, D.int.injEq, D.tup.injEq, decide_eq_true_eq, decide_eq_false_iff_not, true_and, and_true, true_implies, List.length_map, fr_ref, fr_ints, fr_ois, fr_rows, fr_int, fr_lst, fr_row, fr_oi, fr_bl, fr_non, fr_cons, fr_nil, fr_tup, Fl.rt.injEq, Fl.nx.injEq, ex_neg, ex_neg', Bool.not_eq_true', Bool.not_eq_false', Bool.not_not, wipeE, omap_cons, omap_nil, at_0, at_1, at_2, oi_some, oi_none, oP_some, oP_none, Option.some.injEq, end_get, end_set, beq_self_eq_true, bne_self_eq_false, tn, tn0, tn1, fitL, mL, mR, nc, nc0, nc1, c_ltT, c_gtT, c_leT, ev_tup, ev_listc, ev_cons, ev_nil, ev_list0, ev_0list, c_inT, c_ninT, LIM, Int.zero_add, gc_id, Nat.le_refl, Option.map_some, Option.bind_some, isi_s, ty_int, ty_bl, ty_non, ty_lst, ty_tup, ty_str, ty_ref, ty_cl, ty_oi, isTy, Int.reduceLE, Int.reduceLT, Int.reducePow, Int.reduceAdd, Int.reduceSub, Int.reduceMul, Int.reduceNeg, Int.reduceEq, Int.reduceGT, Int.reduceGE, Int.reduceNe, Nat.reduceAdd, Nat.reduceSub, Nat.reduceLT, Nat.reduceLeDiff, Nat.reduceMul, Nat.reducePow, Nat.reduceBEq, Nat.reduceEqDiff, Int.reduceToNat, Bool.not_eq_true, Bool.not_true, Bool.not_false, Bool.not_eq_false, Bool.not_eq_eq_eq_not, reduceCtorEq, if_true, if_false, false_implies, Bool.false_eq_true, Bool.true_eq_false, and_self, not_true, not_false_iff, implies_true, forall_const, true_or, or_true, and_false, false_and, ge_iff_le, gt_iff_lt, cl_pairs, g_s, p_gT, p_gF, Bool.and_true, Bool.true_and, Bool.and_self, cl_ints, cl_bls, cl_oi, cl_ois, cl_row, cl_rows, cl_drow, cl_drows, cl_app, cl_lst, cl_cons, cl_nil, cl_int, cl_bl, cl_non, cl_str, cl_tup, fit, mfit, rt_pairs, sh_pairs, rt_bl, rt_non, rt_str, rt_tup, sh_non, sh_str, sh_tup, rt_ints, rt_oi, rt_ois, rt_row, rt_rows, rt_drow, rt_drows, rt_ref, rt_int, rt_cell, rt_cons, rt_nil, rt_lst, rt_app, p_gF, List.all_cons, List.all_nil, sh_ints, sh_oi, sh_ois, sh_row, sh_rows, sh_drow, sh_drows, sh_ref, sh_int, sh_bl, sh_cell, sh_cons, sh_nil, sh_lst, Nat.zero_add, Nat.add_zero, rgi_len, kc 3 (by omega), hK]
    exact ⟨⟨by omega, by omega⟩, by simp, by omega⟩
  · intro i hi
    rw [rgi_len] at hi
    refine ⟨_, rfl, ?_⟩
    simp (disch := decide) only [ev_00, fr_pair, fr_pairs, py_pair, py_pairs, ev_pair, ev_pairs, ev_pairs0, anyPr, p_minR, p_maxR, p_sumR, p_allR, p_anyR, p_sortedR, o_nil, o_cons, o_ret, o_expr, o_set, o_asg, o_ife, o_setIx, o_aug, o_augIx, o_kill, o_pass, o_retN, seqP_nx, seqP_rt, o_var, o_int, o_bl, o_non, o_str, o_cst, o_bin, o_neg, o_cmp, o_chain, o_isN, o_notN, o_and, o_or, o_and1, o_or1, o_and2, o_or2, o_not, o_lst, o_tup, o_ix, o_slice, o_part0, o_part1, o_call, o_bi, o_isi, o_frz, o_isB, o_lrg, p_isB, p_lrg1, p_lrg2, o_rev, o_par, p_revL, p_revS, p_revR, ← List.map_reverse, o_mth0, o_mth, o_evs0, o_evs1, o_slst, o_stup, o_rng, o_enum, o_zip, o_enumT, o_lset, o_srtP, p_enumT, p_lset, p_srtP, p_listT, p_tupL, p_sliceT, p_divmod, p_var, v_0, v_s, p_add, p_addL, p_addT, p_sub, p_mul, p_mulL, p_div, p_mod, p_pow, p_neg, p_alF, p_alT, p_lst, p_tup, p_not, p_cmp, c_eq, c_ne, c_lt, c_gt, c_le, c_ge, c_in, c_nin, anyI, ev_ints0, ev_row0, ev_0ints, ev_ois0, p_isN, p_notN, p_ix, p_ixT, p_ixS, p_ixR, at_m, p_len, p_lenT, p_lenS, p_lenR, p_list, p_listS, p_listR, p_slice, p_allM, p_anyM, p_sumM, p_all, p_any, p_sum, p_max2, p_min2, p_remove, p_sorted, ints_snoc, ints_map, p_index, isl_l, py_drow, py_drows, ev_drow, ev_drows, fr_drow, fr_drows, p_sliceS, p_sliceR, p_src, p_srcS, p_srcT, p_srcR, src_l, src_f, p_rng1, p_rng2, p_enum, p_zip, p_app, p_pop, p_clear, p_rev, p_ext, p_ins, p_popAt, p_set, p_isi, p_frz, a_add, a_sub, a_mul, ixL, ixLR, cell_l, live_l, isl, py_int, py_bl, py_non, py_str, py_oi, py_lst, py_tup, py_scr, py_ints, py_bls, py_ois, py_row, py_rows, py_ref, ev_int, ev_bl, ev_str, ev_oi, ev_oI, ev_Io, ev_oN, ev_No, ev_ints, ev_row, ev_ois, ev_rows, non_oi, cut_map, ← List.map_take, ← List.map_drop, List.getElem?_cons_zero, List.getElem?_cons_succ, List.set_cons_zero, List.set_cons_succ, List.foldl_cons, List.foldl_nil, List.map_cons, List.map_nil, List.length_cons, List.length_nil, List.replicate, List.cons_append, List.nil_append, exists_eq_left, exists_eq_left', D.bl.injEq, D.int.injEq, D.tup.injEq, decide_eq_true_eq, decide_eq_false_iff_not, true_and, and_true, true_implies, List.length_map, fr_ref, fr_ints, fr_ois, fr_rows, fr_int, fr_lst, fr_row, fr_oi, fr_bl, fr_non, fr_cons, fr_nil, fr_tup, Fl.rt.injEq, Fl.nx.injEq, ex_neg, ex_neg', Bool.not_eq_true', Bool.not_eq_false', Bool.not_not, wipeE, omap_cons, omap_nil, at_0, at_1, at_2, oi_some, oi_none, oP_some, oP_none, Option.some.injEq, end_get, end_set, beq_self_eq_true, bne_self_eq_false, tn, tn0, tn1, fitL, mL, mR, nc, nc0, nc1, c_ltT, c_gtT, c_leT, ev_tup, ev_listc, ev_cons, ev_nil, ev_list0, ev_0list, c_inT, c_ninT, LIM, Int.zero_add, gc_id, Nat.le_refl, Option.map_some, Option.bind_some, isi_s, ty_int, ty_bl, ty_non, ty_lst, ty_tup, ty_str, ty_ref, ty_cl, ty_oi, isTy, Int.reduceLE, Int.reduceLT, Int.reducePow, Int.reduceAdd, Int.reduceSub, Int.reduceMul, Int.reduceNeg, Int.reduceEq, Int.reduceGT, Int.reduceGE, Int.reduceNe, Nat.reduceAdd, Nat.reduceSub, Nat.reduceLT, Nat.reduceLeDiff, Nat.reduceMul, Nat.reducePow, Nat.reduceBEq, Nat.reduceEqDiff, Int.reduceToNat, Bool.not_eq_true, Bool.not_true, Bool.not_false, Bool.not_eq_false, Bool.not_eq_eq_eq_not, reduceCtorEq, if_true, if_false, false_implies, Bool.false_eq_true, Bool.true_eq_false, and_self, not_true, not_false_iff, implies_true, forall_const, true_or, or_true, and_false, false_and, ge_iff_le, gt_iff_lt, cl_pairs, g_s, p_gT, p_gF, Bool.and_true, Bool.true_and, Bool.and_self, cl_ints, cl_bls, cl_oi, cl_ois, cl_row, cl_rows, cl_drow, cl_drows, cl_app, cl_lst, cl_cons, cl_nil, cl_int, cl_bl, cl_non, cl_str, cl_tup, fit, mfit, rt_pairs, sh_pairs, rt_bl, rt_non, rt_str, rt_tup, sh_non, sh_str, sh_tup, rt_ints, rt_oi, rt_ois, rt_row, rt_rows, rt_drow, rt_drows, rt_ref, rt_int, rt_cell, rt_cons, rt_nil, rt_lst, rt_app, p_gF, List.all_cons, List.all_nil, sh_ints, sh_oi, sh_ois, sh_row, sh_rows, sh_drow, sh_drows, sh_ref, sh_int, sh_bl, sh_cell, sh_cons, sh_nil, sh_lst, Nat.zero_add, Nat.add_zero, rgi_get, kc (4 + (i : Int)) (by omega), ko]
    rfl
  rw [show (rgi 0 K).map (fun k => row false (ord (cellF ns (4 + k)))) = ((rgi 0 K).map fun k => ord (cellF ns (4 + k))).map (row false) by rw [List.map_map]; rfl]
  have hos : ∀ o ∈ (rgi 0 K).map (fun k => ord (cellF ns (4 + k))), o.Perm (rgi 0 t.length) := fun o ho => by
    obtain ⟨k, _, rfl⟩ := List.mem_map.mp ho
    exact ord2 _
  have los : ((rgi 0 K).map (fun k => ord (cellF ns (4 + k)))).length = K := by rw [List.length_map, rgi_len]
  generalize (rgi 0 K).map (fun k => ord (cellF ns (4 + k))) = os at hos los ⊢
  have hne : os ≠ [] := fun e => by
    rw [e] at los
    simp at los
    omega
  have kb := fun  μ Q => call_eq (Γ := G_law) (f := 139) (dn := 0) (fz := true) (ds := [(D.lst false (List.map (row false) t)), (D.lst false (List.map (row false) os))]) (μ := μ) (Q := Q) rfl (by simp only [B_by_turns, le_pair, le_pairs, la_nil, la_t, la_f, Option.bind_some, Option.map_some, List.append_nil, List.replicate, le_int, le_bl, le_non, le_str, le_scr, le_oi, le_lst, le_tup, le_ints, le_bls, le_ois, le_row, le_rows, le_drow, le_drows, le_ref, cl_pairs, g_s, p_gT, p_gF, Bool.and_true, Bool.true_and, Bool.and_self, cl_ints, cl_bls, cl_oi, cl_ois, cl_row, cl_rows, cl_drow, cl_drows, cl_app, cl_lst, cl_cons, cl_nil, cl_int, cl_bl, cl_non, cl_str, cl_tup] <;> rfl) rfl (by_turns t os T rfl hne hos (by omega))
  simp (disch := decide) only [ev_00, fr_pair, fr_pairs, py_pair, py_pairs, ev_pair, ev_pairs, ev_pairs0, anyPr, p_minR, p_maxR, p_sumR, p_allR, p_anyR, p_sortedR, o_nil, o_ret, o_expr, o_set, o_asg, o_ife, o_setIx, o_aug, o_augIx, o_kill, o_pass, o_retN, seqP_nx, seqP_rt, o_var, o_int, o_bl, o_non, o_str, o_cst, o_bin, o_neg, o_cmp, o_chain, o_isN, o_notN, o_and, o_or, o_and1, o_or1, o_and2, o_or2, o_not, o_lst, o_tup, o_ix, o_slice, o_part0, o_part1, o_call, o_bi, o_isi, o_frz, o_isB, o_lrg, p_isB, p_lrg1, p_lrg2, o_rev, o_par, p_revL, p_revS, p_revR, ← List.map_reverse, o_mth0, o_mth, o_evs0, o_evs1, o_slst, o_stup, o_rng, o_enum, o_zip, o_enumT, o_lset, o_srtP, p_enumT, p_lset, p_srtP, p_listT, p_tupL, p_sliceT, p_divmod, p_var, v_0, v_s, p_add, p_addL, p_addT, p_sub, p_mul, p_mulL, p_div, p_mod, p_pow, p_neg, p_alF, p_alT, p_lst, p_tup, p_not, p_cmp, c_eq, c_ne, c_lt, c_gt, c_le, c_ge, c_in, c_nin, anyI, ev_ints0, ev_row0, ev_0ints, ev_ois0, p_isN, p_notN, p_ix, p_ixT, p_ixS, p_ixR, at_m, p_len, p_lenT, p_lenS, p_lenR, p_list, p_listS, p_listR, p_slice, p_allM, p_anyM, p_sumM, p_all, p_any, p_sum, p_max2, p_min2, p_remove, p_sorted, ints_snoc, ints_map, p_index, isl_l, py_drow, py_drows, ev_drow, ev_drows, fr_drow, fr_drows, p_sliceS, p_sliceR, p_src, p_srcS, p_srcT, p_srcR, src_l, src_f, p_rng1, p_rng2, p_enum, p_zip, p_app, p_pop, p_clear, p_rev, p_ext, p_ins, p_popAt, p_set, p_isi, p_frz, a_add, a_sub, a_mul, ixL, ixLR, cell_l, live_l, isl, py_int, py_bl, py_non, py_str, py_oi, py_lst, py_tup, py_scr, py_ints, py_bls, py_ois, py_row, py_rows, py_ref, ev_int, ev_bl, ev_str, ev_oi, ev_oI, ev_Io, ev_oN, ev_No, ev_ints, ev_row, ev_ois, ev_rows, non_oi, cut_map, ← List.map_take, ← List.map_drop, List.getElem?_cons_zero, List.getElem?_cons_succ, List.set_cons_zero, List.set_cons_succ, List.foldl_cons, List.foldl_nil, List.map_cons, List.map_nil, List.length_cons, List.length_nil, List.replicate, List.cons_append, List.nil_append, exists_eq_left, exists_eq_left', D.bl.injEq, D.int.injEq, D.tup.injEq, decide_eq_true_eq, decide_eq_false_iff_not, true_and, and_true, true_implies, List.length_map, fr_ref, fr_ints, fr_ois, fr_rows, fr_int, fr_lst, fr_row, fr_oi, fr_bl, fr_non, fr_cons, fr_nil, fr_tup, Fl.rt.injEq, Fl.nx.injEq, ex_neg, ex_neg', Bool.not_eq_true', Bool.not_eq_false', Bool.not_not, wipeE, omap_cons, omap_nil, at_0, at_1, at_2, oi_some, oi_none, oP_some, oP_none, Option.some.injEq, end_get, end_set, beq_self_eq_true, bne_self_eq_false, tn, tn0, tn1, fitL, mL, mR, nc, nc0, nc1, c_ltT, c_gtT, c_leT, ev_tup, ev_listc, ev_cons, ev_nil, ev_list0, ev_0list, c_inT, c_ninT, LIM, Int.zero_add, gc_id, Nat.le_refl, Option.map_some, Option.bind_some, isi_s, ty_int, ty_bl, ty_non, ty_lst, ty_tup, ty_str, ty_ref, ty_cl, ty_oi, isTy, Int.reduceLE, Int.reduceLT, Int.reducePow, Int.reduceAdd, Int.reduceSub, Int.reduceMul, Int.reduceNeg, Int.reduceEq, Int.reduceGT, Int.reduceGE, Int.reduceNe, Nat.reduceAdd, Nat.reduceSub, Nat.reduceLT, Nat.reduceLeDiff, Nat.reduceMul, Nat.reducePow, Nat.reduceBEq, Nat.reduceEqDiff, Int.reduceToNat, Bool.not_eq_true, Bool.not_true, Bool.not_false, Bool.not_eq_false, Bool.not_eq_eq_eq_not, reduceCtorEq, if_true, if_false, false_implies, Bool.false_eq_true, Bool.true_eq_false, and_self, not_true, not_false_iff, implies_true, forall_const, true_or, or_true, and_false, false_and, ge_iff_le, gt_iff_lt, cl_pairs, g_s, p_gT, p_gF, Bool.and_true, Bool.true_and, Bool.and_self, cl_ints, cl_bls, cl_oi, cl_ois, cl_row, cl_rows, cl_drow, cl_drows, cl_app, cl_lst, cl_cons, cl_nil, cl_int, cl_bl, cl_non, cl_str, cl_tup, fit, mfit, rt_pairs, sh_pairs, rt_bl, rt_non, rt_str, rt_tup, sh_non, sh_str, sh_tup, rt_ints, rt_oi, rt_ois, rt_row, rt_rows, rt_drow, rt_drows, rt_ref, rt_int, rt_cell, rt_cons, rt_nil, rt_lst, rt_app, p_gF, List.all_cons, List.all_nil, sh_ints, sh_oi, sh_ois, sh_row, sh_rows, sh_drow, sh_drows, sh_ref, sh_int, sh_bl, sh_cell, sh_cons, sh_nil, sh_lst, Nat.zero_add, Nat.add_zero]
  rw [o_cons]
  simp (disch := decide) only [ev_00, fr_pair, fr_pairs, py_pair, py_pairs, ev_pair, ev_pairs, ev_pairs0, anyPr, p_minR, p_maxR, p_sumR, p_allR, p_anyR, p_sortedR, o_nil, o_ret, o_expr, o_set, o_asg, o_ife, o_setIx, o_aug, o_augIx, o_kill, o_pass, o_retN, seqP_nx, seqP_rt, o_var, o_int, o_bl, o_non, o_str, o_cst, o_bin, o_neg, o_cmp, o_chain, o_isN, o_notN, o_and, o_or, o_and1, o_or1, o_and2, o_or2, o_not, o_lst, o_tup, o_ix, o_slice, o_part0, o_part1, o_call, o_bi, o_isi, o_frz, o_isB, o_lrg, p_isB, p_lrg1, p_lrg2, o_rev, o_par, p_revL, p_revS, p_revR, ← List.map_reverse, o_mth0, o_mth, o_evs0, o_evs1, o_slst, o_stup, o_rng, o_enum, o_zip, o_enumT, o_lset, o_srtP, p_enumT, p_lset, p_srtP, p_listT, p_tupL, p_sliceT, p_divmod, p_var, v_0, v_s, p_add, p_addL, p_addT, p_sub, p_mul, p_mulL, p_div, p_mod, p_pow, p_neg, p_alF, p_alT, p_lst, p_tup, p_not, p_cmp, c_eq, c_ne, c_lt, c_gt, c_le, c_ge, c_in, c_nin, anyI, ev_ints0, ev_row0, ev_0ints, ev_ois0, p_isN, p_notN, p_ix, p_ixT, p_ixS, p_ixR, at_m, p_len, p_lenT, p_lenS, p_lenR, p_list, p_listS, p_listR, p_slice, p_allM, p_anyM, p_sumM, p_all, p_any, p_sum, p_max2, p_min2, p_remove, p_sorted, ints_snoc, ints_map, p_index, isl_l, py_drow, py_drows, ev_drow, ev_drows, fr_drow, fr_drows, p_sliceS, p_sliceR, p_src, p_srcS, p_srcT, p_srcR, src_l, src_f, p_rng1, p_rng2, p_enum, p_zip, p_app, p_pop, p_clear, p_rev, p_ext, p_ins, p_popAt, p_set, p_isi, p_frz, a_add, a_sub, a_mul, ixL, ixLR, cell_l, live_l, isl, py_int, py_bl, py_non, py_str, py_oi, py_lst, py_tup, py_scr, py_ints, py_bls, py_ois, py_row, py_rows, py_ref, ev_int, ev_bl, ev_str, ev_oi, ev_oI, ev_Io, ev_oN, ev_No, ev_ints, ev_row, ev_ois, ev_rows, non_oi, cut_map, ← List.map_take, ← List.map_drop, List.getElem?_cons_zero, List.getElem?_cons_succ, List.set_cons_zero, List.set_cons_succ, List.foldl_cons, List.foldl_nil, List.map_cons, List.map_nil, List.length_cons, List.length_nil, List.replicate, List.cons_append, List.nil_append, exists_eq_left, exists_eq_left', D.bl.injEq, D.int.injEq, D.tup.injEq, decide_eq_true_eq, decide_eq_false_iff_not, true_and, and_true, true_implies, List.length_map, fr_ref, fr_ints, fr_ois, fr_rows, fr_int, fr_lst, fr_row, fr_oi, fr_bl, fr_non, fr_cons, fr_nil, fr_tup, Fl.rt.injEq, Fl.nx.injEq, ex_neg, ex_neg', Bool.not_eq_true', Bool.not_eq_false', Bool.not_not, wipeE, omap_cons, omap_nil, at_0, at_1, at_2, oi_some, oi_none, oP_some, oP_none, Option.some.injEq, end_get, end_set, beq_self_eq_true, bne_self_eq_false, tn, tn0, tn1, fitL, mL, mR, nc, nc0, nc1, c_ltT, c_gtT, c_leT, ev_tup, ev_listc, ev_cons, ev_nil, ev_list0, ev_0list, c_inT, c_ninT, LIM, Int.zero_add, gc_id, Nat.le_refl, Option.map_some, Option.bind_some, isi_s, ty_int, ty_bl, ty_non, ty_lst, ty_tup, ty_str, ty_ref, ty_cl, ty_oi, isTy, Int.reduceLE, Int.reduceLT, Int.reducePow, Int.reduceAdd, Int.reduceSub, Int.reduceMul, Int.reduceNeg, Int.reduceEq, Int.reduceGT, Int.reduceGE, Int.reduceNe, Nat.reduceAdd, Nat.reduceSub, Nat.reduceLT, Nat.reduceLeDiff, Nat.reduceMul, Nat.reducePow, Nat.reduceBEq, Nat.reduceEqDiff, Int.reduceToNat, Bool.not_eq_true, Bool.not_true, Bool.not_false, Bool.not_eq_false, Bool.not_eq_eq_eq_not, reduceCtorEq, if_true, if_false, false_implies, Bool.false_eq_true, Bool.true_eq_false, and_self, not_true, not_false_iff, implies_true, forall_const, true_or, or_true, and_false, false_and, ge_iff_le, gt_iff_lt, cl_pairs, g_s, p_gT, p_gF, Bool.and_true, Bool.true_and, Bool.and_self, cl_ints, cl_bls, cl_oi, cl_ois, cl_row, cl_rows, cl_drow, cl_drows, cl_app, cl_lst, cl_cons, cl_nil, cl_int, cl_bl, cl_non, cl_str, cl_tup, fit, mfit, rt_pairs, sh_pairs, rt_bl, rt_non, rt_str, rt_tup, sh_non, sh_str, sh_tup, rt_ints, rt_oi, rt_ois, rt_row, rt_rows, rt_drow, rt_drows, rt_ref, rt_int, rt_cell, rt_cons, rt_nil, rt_lst, rt_app, p_gF, List.all_cons, List.all_nil, sh_ints, sh_oi, sh_ois, sh_row, sh_rows, sh_drow, sh_drows, sh_ref, sh_int, sh_bl, sh_cell, sh_cons, sh_nil, sh_lst, Nat.zero_add, Nat.add_zero]
  refine o_map (xs := os) (f := row false) (row false) ?_ ?_ ?_
  · simp (disch := decide) only [ev_00, fr_pair, fr_pairs, py_pair, py_pairs, ev_pair, ev_pairs, ev_pairs0, anyPr, p_minR, p_maxR, p_sumR, p_allR, p_anyR, p_sortedR, o_nil, o_cons, o_ret, o_expr, o_set, o_asg, o_ife, o_setIx, o_aug, o_augIx, o_kill, o_pass, o_retN, seqP_nx, seqP_rt, o_var, o_int, o_bl, o_non, o_str, o_cst, o_bin, o_neg, o_cmp, o_chain, o_isN, o_notN, o_and, o_or, o_and1, o_or1, o_and2, o_or2, o_not, o_lst, o_tup, o_ix, o_slice, o_part0, o_part1, o_call, o_bi, o_isi, o_frz, o_isB, o_lrg, p_isB, p_lrg1, p_lrg2, o_rev, o_par, p_revL, p_revS, p_revR, ← List.map_reverse, o_mth0, o_mth, o_evs0, o_evs1, o_slst, o_stup, o_rng, o_enum, o_zip, o_enumT, o_lset, o_srtP, p_enumT, p_lset, p_srtP, p_listT, p_tupL, p_sliceT, p_divmod, p_var, v_0, v_s, p_add, p_addL, p_addT, p_sub, p_mul, p_mulL, p_div, p_mod, p_pow, p_neg, p_alF, p_alT, p_lst, p_tup, p_not, p_cmp, c_eq, c_ne, c_lt, c_gt, c_le, c_ge, c_in, c_nin, anyI, ev_ints0, ev_row0, ev_0ints, ev_ois0, p_isN, p_notN, p_ix, p_ixT, p_ixS, p_ixR, at_m, p_len, p_lenT, p_lenS, p_lenR, p_list, p_listS, p_listR, p_slice, p_allM, p_anyM, p_sumM, p_all, p_any, p_sum, p_max2, p_min2, p_remove, p_sorted, ints_snoc, ints_map, p_index, isl_l, py_drow, py_drows, ev_drow, ev_drows, fr_drow, fr_drows, p_sliceS, p_sliceR, p_src, p_srcS, p_srcT, p_srcR, src_l, src_f, p_rng1, p_rng2, p_enum, p_zip, p_app, p_pop, p_clear, p_rev, p_ext, p_ins, p_popAt, p_set, p_isi, p_frz, a_add, a_sub, a_mul, ixL, ixLR, cell_l, live_l, isl, py_int, py_bl, py_non, py_str, py_oi, py_lst, py_tup, py_scr, py_ints, py_bls, py_ois, py_row, py_rows, py_ref, ev_int, ev_bl, ev_str, ev_oi, ev_oI, ev_Io, ev_oN, ev_No, ev_ints, ev_row, ev_ois, ev_rows, non_oi, cut_map, ← List.map_take, ← List.map_drop, List.getElem?_cons_zero, List.getElem?_cons_succ, List.set_cons_zero, List.set_cons_succ, List.foldl_cons, List.foldl_nil, List.map_cons, List.map_nil, List.length_cons, List.length_nil, List.replicate, List.cons_append, List.nil_append, exists_eq_left, exists_eq_left', D.bl.injEq, D.int.injEq, D.tup.injEq, decide_eq_true_eq, decide_eq_false_iff_not, true_and, and_true, true_implies, List.length_map, fr_ref, fr_ints, fr_ois, fr_rows, fr_int, fr_lst, fr_row, fr_oi, fr_bl, fr_non, fr_cons, fr_nil, fr_tup, Fl.rt.injEq, Fl.nx.injEq, ex_neg, ex_neg', Bool.not_eq_true', Bool.not_eq_false', Bool.not_not, wipeE, omap_cons, omap_nil, at_0, at_1, at_2, oi_some, oi_none, oP_some, oP_none, Option.some.injEq, end_get, end_set, beq_self_eq_true, bne_self_eq_false, tn, tn0, tn1, fitL, mL, mR, nc, nc0, nc1, c_ltT, c_gtT, c_leT, ev_tup, ev_listc, ev_cons, ev_nil, ev_list0, ev_0list, c_inT, c_ninT, LIM, Int.zero_add, gc_id, Nat.le_refl, Option.map_some, Option.bind_some, isi_s, ty_int, ty_bl, ty_non, ty_lst, ty_tup, ty_str, ty_ref, ty_cl, ty_oi, isTy, Int.reduceLE, Int.reduceLT, Int.reducePow, Int.reduceAdd, Int.reduceSub, Int.reduceMul, Int.reduceNeg, Int.reduceEq, Int.reduceGT, Int.reduceGE, Int.reduceNe, Nat.reduceAdd, Nat.reduceSub, Nat.reduceLT, Nat.reduceLeDiff, Nat.reduceMul, Nat.reducePow, Nat.reduceBEq, Nat.reduceEqDiff, Int.reduceToNat, Bool.not_eq_true, Bool.not_true, Bool.not_false, Bool.not_eq_false, Bool.not_eq_eq_eq_not, reduceCtorEq, if_true, if_false, false_implies, Bool.false_eq_true, Bool.true_eq_false, and_self, not_true, not_false_iff, implies_true, forall_const, true_or, or_true, and_false, false_and, ge_iff_le, gt_iff_lt, cl_pairs, g_s, p_gT, p_gF, Bool.and_true, Bool.true_and, Bool.and_self, cl_ints, cl_bls, cl_oi, cl_ois, cl_row, cl_rows, cl_drow, cl_drows, cl_app, cl_lst, cl_cons, cl_nil, cl_int, cl_bl, cl_non, cl_str, cl_tup, fit, mfit, rt_pairs, sh_pairs, rt_bl, rt_non, rt_str, rt_tup, sh_non, sh_str, sh_tup, rt_ints, rt_oi, rt_ois, rt_row, rt_rows, rt_drow, rt_drows, rt_ref, rt_int, rt_cell, rt_cons, rt_nil, rt_lst, rt_app, p_gF, List.all_cons, List.all_nil, sh_ints, sh_oi, sh_ois, sh_row, sh_rows, sh_drow, sh_drows, sh_ref, sh_int, sh_bl, sh_cell, sh_cons, sh_nil, sh_lst, Nat.zero_add, Nat.add_zero]
    omega
  · intro i hi
    refine ⟨_, rfl, ?_⟩
    simp (disch := decide) only [ev_00, fr_pair, fr_pairs, py_pair, py_pairs, ev_pair, ev_pairs, ev_pairs0, anyPr, p_minR, p_maxR, p_sumR, p_allR, p_anyR, p_sortedR, o_nil, o_cons, o_ret, o_expr, o_set, o_asg, o_ife, o_setIx, o_aug, o_augIx, o_kill, o_pass, o_retN, seqP_nx, seqP_rt, o_var, o_int, o_bl, o_non, o_str, o_cst, o_bin, o_neg, o_cmp, o_chain, o_isN, o_notN, o_and, o_or, o_and1, o_or1, o_and2, o_or2, o_not, o_lst, o_tup, o_ix, o_slice, o_part0, o_part1, o_call, o_bi, o_isi, o_frz, o_isB, o_lrg, p_isB, p_lrg1, p_lrg2, o_rev, o_par, p_revL, p_revS, p_revR, ← List.map_reverse, o_mth0, o_mth, o_evs0, o_evs1, o_slst, o_stup, o_rng, o_enum, o_zip, o_enumT, o_lset, o_srtP, p_enumT, p_lset, p_srtP, p_listT, p_tupL, p_sliceT, p_divmod, p_var, v_0, v_s, p_add, p_addL, p_addT, p_sub, p_mul, p_mulL, p_div, p_mod, p_pow, p_neg, p_alF, p_alT, p_lst, p_tup, p_not, p_cmp, c_eq, c_ne, c_lt, c_gt, c_le, c_ge, c_in, c_nin, anyI, ev_ints0, ev_row0, ev_0ints, ev_ois0, p_isN, p_notN, p_ix, p_ixT, p_ixS, p_ixR, at_m, p_len, p_lenT, p_lenS, p_lenR, p_list, p_listS, p_listR, p_slice, p_allM, p_anyM, p_sumM, p_all, p_any, p_sum, p_max2, p_min2, p_remove, p_sorted, ints_snoc, ints_map, p_index, isl_l, py_drow, py_drows, ev_drow, ev_drows, fr_drow, fr_drows, p_sliceS, p_sliceR, p_src, p_srcS, p_srcT, p_srcR, src_l, src_f, p_rng1, p_rng2, p_enum, p_zip, p_app, p_pop, p_clear, p_rev, p_ext, p_ins, p_popAt, p_set, p_isi, p_frz, a_add, a_sub, a_mul, ixL, ixLR, cell_l, live_l, isl, py_int, py_bl, py_non, py_str, py_oi, py_lst, py_tup, py_scr, py_ints, py_bls, py_ois, py_row, py_rows, py_ref, ev_int, ev_bl, ev_str, ev_oi, ev_oI, ev_Io, ev_oN, ev_No, ev_ints, ev_row, ev_ois, ev_rows, non_oi, cut_map, ← List.map_take, ← List.map_drop, List.getElem?_cons_zero, List.getElem?_cons_succ, List.set_cons_zero, List.set_cons_succ, List.foldl_cons, List.foldl_nil, List.map_cons, List.map_nil, List.length_cons, List.length_nil, List.replicate, List.cons_append, List.nil_append, exists_eq_left, exists_eq_left', D.bl.injEq, D.int.injEq, D.tup.injEq, decide_eq_true_eq, decide_eq_false_iff_not, true_and, and_true, true_implies, List.length_map, fr_ref, fr_ints, fr_ois, fr_rows, fr_int, fr_lst, fr_row, fr_oi, fr_bl, fr_non, fr_cons, fr_nil, fr_tup, Fl.rt.injEq, Fl.nx.injEq, ex_neg, ex_neg', Bool.not_eq_true', Bool.not_eq_false', Bool.not_not, wipeE, omap_cons, omap_nil, at_0, at_1, at_2, oi_some, oi_none, oP_some, oP_none, Option.some.injEq, end_get, end_set, beq_self_eq_true, bne_self_eq_false, tn, tn0, tn1, fitL, mL, mR, nc, nc0, nc1, c_ltT, c_gtT, c_leT, ev_tup, ev_listc, ev_cons, ev_nil, ev_list0, ev_0list, c_inT, c_ninT, LIM, Int.zero_add, gc_id, Nat.le_refl, Option.map_some, Option.bind_some, isi_s, ty_int, ty_bl, ty_non, ty_lst, ty_tup, ty_str, ty_ref, ty_cl, ty_oi, isTy, Int.reduceLE, Int.reduceLT, Int.reducePow, Int.reduceAdd, Int.reduceSub, Int.reduceMul, Int.reduceNeg, Int.reduceEq, Int.reduceGT, Int.reduceGE, Int.reduceNe, Nat.reduceAdd, Nat.reduceSub, Nat.reduceLT, Nat.reduceLeDiff, Nat.reduceMul, Nat.reducePow, Nat.reduceBEq, Nat.reduceEqDiff, Int.reduceToNat, Bool.not_eq_true, Bool.not_true, Bool.not_false, Bool.not_eq_false, Bool.not_eq_eq_eq_not, reduceCtorEq, if_true, if_false, false_implies, Bool.false_eq_true, Bool.true_eq_false, and_self, not_true, not_false_iff, implies_true, forall_const, true_or, or_true, and_false, false_and, ge_iff_le, gt_iff_lt, cl_pairs, g_s, p_gT, p_gF, Bool.and_true, Bool.true_and, Bool.and_self, cl_ints, cl_bls, cl_oi, cl_ois, cl_row, cl_rows, cl_drow, cl_drows, cl_app, cl_lst, cl_cons, cl_nil, cl_int, cl_bl, cl_non, cl_str, cl_tup, fit, mfit, rt_pairs, sh_pairs, rt_bl, rt_non, rt_str, rt_tup, sh_non, sh_str, sh_tup, rt_ints, rt_oi, rt_ois, rt_row, rt_rows, rt_drow, rt_drows, rt_ref, rt_int, rt_cell, rt_cons, rt_nil, rt_lst, rt_app, p_gF, List.all_cons, List.all_nil, sh_ints, sh_oi, sh_ois, sh_row, sh_rows, sh_drow, sh_drows, sh_ref, sh_int, sh_bl, sh_cell, sh_cons, sh_nil, sh_lst, Nat.zero_add, Nat.add_zero, row]
  simp (disch := decide) only [ev_00, fr_pair, fr_pairs, py_pair, py_pairs, ev_pair, ev_pairs, ev_pairs0, anyPr, p_minR, p_maxR, p_sumR, p_allR, p_anyR, p_sortedR, o_nil, o_ret, o_expr, o_set, o_asg, o_ife, o_setIx, o_aug, o_augIx, o_kill, o_pass, o_retN, seqP_nx, seqP_rt, o_var, o_int, o_bl, o_non, o_str, o_cst, o_bin, o_neg, o_cmp, o_chain, o_isN, o_notN, o_and, o_or, o_and1, o_or1, o_and2, o_or2, o_not, o_lst, o_tup, o_ix, o_slice, o_part0, o_part1, o_call, o_bi, o_isi, o_frz, o_isB, o_lrg, p_isB, p_lrg1, p_lrg2, o_rev, o_par, p_revL, p_revS, p_revR, ← List.map_reverse, o_mth0, o_mth, o_evs0, o_evs1, o_slst, o_stup, o_rng, o_enum, o_zip, o_enumT, o_lset, o_srtP, p_enumT, p_lset, p_srtP, p_listT, p_tupL, p_sliceT, p_divmod, p_var, v_0, v_s, p_add, p_addL, p_addT, p_sub, p_mul, p_mulL, p_div, p_mod, p_pow, p_neg, p_alF, p_alT, p_lst, p_tup, p_not, p_cmp, c_eq, c_ne, c_lt, c_gt, c_le, c_ge, c_in, c_nin, anyI, ev_ints0, ev_row0, ev_0ints, ev_ois0, p_isN, p_notN, p_ix, p_ixT, p_ixS, p_ixR, at_m, p_len, p_lenT, p_lenS, p_lenR, p_list, p_listS, p_listR, p_slice, p_allM, p_anyM, p_sumM, p_all, p_any, p_sum, p_max2, p_min2, p_remove, p_sorted, ints_snoc, ints_map, p_index, isl_l, py_drow, py_drows, ev_drow, ev_drows, fr_drow, fr_drows, p_sliceS, p_sliceR, p_src, p_srcS, p_srcT, p_srcR, src_l, src_f, p_rng1, p_rng2, p_enum, p_zip, p_app, p_pop, p_clear, p_rev, p_ext, p_ins, p_popAt, p_set, p_isi, p_frz, a_add, a_sub, a_mul, ixL, ixLR, cell_l, live_l, isl, py_int, py_bl, py_non, py_str, py_oi, py_lst, py_tup, py_scr, py_ints, py_bls, py_ois, py_row, py_rows, py_ref, ev_int, ev_bl, ev_str, ev_oi, ev_oI, ev_Io, ev_oN, ev_No, ev_ints, ev_row, ev_ois, ev_rows, non_oi, cut_map, ← List.map_take, ← List.map_drop, List.getElem?_cons_zero, List.getElem?_cons_succ, List.set_cons_zero, List.set_cons_succ, List.foldl_cons, List.foldl_nil, List.map_cons, List.map_nil, List.length_cons, List.length_nil, List.replicate, List.cons_append, List.nil_append, exists_eq_left, exists_eq_left', D.bl.injEq, D.int.injEq, D.tup.injEq, decide_eq_true_eq, decide_eq_false_iff_not, true_and, and_true, true_implies, List.length_map, fr_ref, fr_ints, fr_ois, fr_rows, fr_int, fr_lst, fr_row, fr_oi, fr_bl, fr_non, fr_cons, fr_nil, fr_tup, Fl.rt.injEq, Fl.nx.injEq, ex_neg, ex_neg', Bool.not_eq_true', Bool.not_eq_false', Bool.not_not, wipeE, omap_cons, omap_nil, at_0, at_1, at_2, oi_some, oi_none, oP_some, oP_none, Option.some.injEq, end_get, end_set, beq_self_eq_true, bne_self_eq_false, tn, tn0, tn1, fitL, mL, mR, nc, nc0, nc1, c_ltT, c_gtT, c_leT, ev_tup, ev_listc, ev_cons, ev_nil, ev_list0, ev_0list, c_inT, c_ninT, LIM, Int.zero_add, gc_id, Nat.le_refl, Option.map_some, Option.bind_some, isi_s, ty_int, ty_bl, ty_non, ty_lst, ty_tup, ty_str, ty_ref, ty_cl, ty_oi, isTy, Int.reduceLE, Int.reduceLT, Int.reducePow, Int.reduceAdd, Int.reduceSub, Int.reduceMul, Int.reduceNeg, Int.reduceEq, Int.reduceGT, Int.reduceGE, Int.reduceNe, Nat.reduceAdd, Nat.reduceSub, Nat.reduceLT, Nat.reduceLeDiff, Nat.reduceMul, Nat.reducePow, Nat.reduceBEq, Nat.reduceEqDiff, Int.reduceToNat, Bool.not_eq_true, Bool.not_true, Bool.not_false, Bool.not_eq_false, Bool.not_eq_eq_eq_not, reduceCtorEq, if_true, if_false, false_implies, Bool.false_eq_true, Bool.true_eq_false, and_self, not_true, not_false_iff, implies_true, forall_const, true_or, or_true, and_false, false_and, ge_iff_le, gt_iff_lt, cl_pairs, g_s, p_gT, p_gF, Bool.and_true, Bool.true_and, Bool.and_self, cl_ints, cl_bls, cl_oi, cl_ois, cl_row, cl_rows, cl_drow, cl_drows, cl_app, cl_lst, cl_cons, cl_nil, cl_int, cl_bl, cl_non, cl_str, cl_tup, fit, mfit, rt_pairs, sh_pairs, rt_bl, rt_non, rt_str, rt_tup, sh_non, sh_str, sh_tup, rt_ints, rt_oi, rt_ois, rt_row, rt_rows, rt_drow, rt_drows, rt_ref, rt_int, rt_cell, rt_cons, rt_nil, rt_lst, rt_app, p_gF, List.all_cons, List.all_nil, sh_ints, sh_oi, sh_ois, sh_row, sh_rows, sh_drow, sh_drows, sh_ref, sh_int, sh_bl, sh_cell, sh_cons, sh_nil, sh_lst, Nat.zero_add, Nat.add_zero, kb]
  unfold turnsR
  simp (disch := decide) only [ev_00, fr_pair, fr_pairs, py_pair, py_pairs, ev_pair, ev_pairs, ev_pairs0, anyPr, p_minR, p_maxR, p_sumR, p_allR, p_anyR, p_sortedR, o_nil, o_ret, o_expr, o_set, o_asg, o_ife, o_setIx, o_aug, o_augIx, o_kill, o_pass, o_retN, seqP_nx, seqP_rt, o_var, o_int, o_bl, o_non, o_str, o_cst, o_bin, o_neg, o_cmp, o_chain, o_isN, o_notN, o_and, o_or, o_and1, o_or1, o_and2, o_or2, o_not, o_lst, o_tup, o_ix, o_slice, o_part0, o_part1, o_call, o_bi, o_isi, o_frz, o_isB, o_lrg, p_isB, p_lrg1, p_lrg2, o_rev, o_par, p_revL, p_revS, p_revR, ← List.map_reverse, o_mth0, o_mth, o_evs0, o_evs1, o_slst, o_stup, o_rng, o_enum, o_zip, o_enumT, o_lset, o_srtP, p_enumT, p_lset, p_srtP, p_listT, p_tupL, p_sliceT, p_divmod, p_var, v_0, v_s, p_add, p_addL, p_addT, p_sub, p_mul, p_mulL, p_div, p_mod, p_pow, p_neg, p_alF, p_alT, p_lst, p_tup, p_not, p_cmp, c_eq, c_ne, c_lt, c_gt, c_le, c_ge, c_in, c_nin, anyI, ev_ints0, ev_row0, ev_0ints, ev_ois0, p_isN, p_notN, p_ix, p_ixT, p_ixS, p_ixR, at_m, p_len, p_lenT, p_lenS, p_lenR, p_list, p_listS, p_listR, p_slice, p_allM, p_anyM, p_sumM, p_all, p_any, p_sum, p_max2, p_min2, p_remove, p_sorted, ints_snoc, ints_map, p_index, isl_l, py_drow, py_drows, ev_drow, ev_drows, fr_drow, fr_drows, p_sliceS, p_sliceR, p_src, p_srcS, p_srcT, p_srcR, src_l, src_f, p_rng1, p_rng2, p_enum, p_zip, p_app, p_pop, p_clear, p_rev, p_ext, p_ins, p_popAt, p_set, p_isi, p_frz, a_add, a_sub, a_mul, ixL, ixLR, cell_l, live_l, isl, py_int, py_bl, py_non, py_str, py_oi, py_lst, py_tup, py_scr, py_ints, py_bls, py_ois, py_row, py_rows, py_ref, ev_int, ev_bl, ev_str, ev_oi, ev_oI, ev_Io, ev_oN, ev_No, ev_ints, ev_row, ev_ois, ev_rows, non_oi, cut_map, ← List.map_take, ← List.map_drop, List.getElem?_cons_zero, List.getElem?_cons_succ, List.set_cons_zero, List.set_cons_succ, List.foldl_cons, List.foldl_nil, List.map_cons, List.map_nil, List.length_cons, List.length_nil, List.replicate, List.cons_append, List.nil_append, exists_eq_left, exists_eq_left', D.bl.injEq, D.int.injEq, D.tup.injEq, decide_eq_true_eq, decide_eq_false_iff_not, true_and, and_true, true_implies, List.length_map, fr_ref, fr_ints, fr_ois, fr_rows, fr_int, fr_lst, fr_row, fr_oi, fr_bl, fr_non, fr_cons, fr_nil, fr_tup, Fl.rt.injEq, Fl.nx.injEq, ex_neg, ex_neg', Bool.not_eq_true', Bool.not_eq_false', Bool.not_not, wipeE, omap_cons, omap_nil, at_0, at_1, at_2, oi_some, oi_none, oP_some, oP_none, Option.some.injEq, end_get, end_set, beq_self_eq_true, bne_self_eq_false, tn, tn0, tn1, fitL, mL, mR, nc, nc0, nc1, c_ltT, c_gtT, c_leT, ev_tup, ev_listc, ev_cons, ev_nil, ev_list0, ev_0list, c_inT, c_ninT, LIM, Int.zero_add, gc_id, Nat.le_refl, Option.map_some, Option.bind_some, isi_s, ty_int, ty_bl, ty_non, ty_lst, ty_tup, ty_str, ty_ref, ty_cl, ty_oi, isTy, Int.reduceLE, Int.reduceLT, Int.reducePow, Int.reduceAdd, Int.reduceSub, Int.reduceMul, Int.reduceNeg, Int.reduceEq, Int.reduceGT, Int.reduceGE, Int.reduceNe, Nat.reduceAdd, Nat.reduceSub, Nat.reduceLT, Nat.reduceLeDiff, Nat.reduceMul, Nat.reducePow, Nat.reduceBEq, Nat.reduceEqDiff, Int.reduceToNat, Bool.not_eq_true, Bool.not_true, Bool.not_false, Bool.not_eq_false, Bool.not_eq_eq_eq_not, reduceCtorEq, if_true, if_false, false_implies, Bool.false_eq_true, Bool.true_eq_false, and_self, not_true, not_false_iff, implies_true, forall_const, true_or, or_true, and_false, false_and, ge_iff_le, gt_iff_lt, cl_pairs, g_s, p_gT, p_gF, Bool.and_true, Bool.true_and, Bool.and_self, cl_ints, cl_bls, cl_oi, cl_ois, cl_row, cl_rows, cl_drow, cl_drows, cl_app, cl_lst, cl_cons, cl_nil, cl_int, cl_bl, cl_non, cl_str, cl_tup, fit, mfit, rt_pairs, sh_pairs, rt_bl, rt_non, rt_str, rt_tup, sh_non, sh_str, sh_tup, rt_ints, rt_oi, rt_ois, rt_row, rt_rows, rt_drow, rt_drows, rt_ref, rt_int, rt_cell, rt_cons, rt_nil, rt_lst, rt_app, p_gF, List.all_cons, List.all_nil, sh_ints, sh_oi, sh_ois, sh_row, sh_rows, sh_drow, sh_drows, sh_ref, sh_int, sh_bl, sh_cell, sh_cons, sh_nil, sh_lst, Nat.zero_add, Nat.add_zero]
  simp only [sets, Int.toNat_natCast]
  simp (disch := decide) only [ev_00, fr_pair, fr_pairs, py_pair, py_pairs, ev_pair, ev_pairs, ev_pairs0, anyPr, p_minR, p_maxR, p_sumR, p_allR, p_anyR, p_sortedR, o_nil, o_ret, o_expr, o_set, o_asg, o_ife, o_setIx, o_aug, o_augIx, o_kill, o_pass, o_retN, seqP_nx, seqP_rt, o_var, o_int, o_bl, o_non, o_str, o_cst, o_bin, o_neg, o_cmp, o_chain, o_isN, o_notN, o_and, o_or, o_and1, o_or1, o_and2, o_or2, o_not, o_lst, o_tup, o_ix, o_slice, o_part0, o_part1, o_call, o_bi, o_isi, o_frz, o_isB, o_lrg, p_isB, p_lrg1, p_lrg2, o_rev, o_par, p_revL, p_revS, p_revR, ← List.map_reverse, o_mth0, o_mth, o_evs0, o_evs1, o_slst, o_stup, o_rng, o_enum, o_zip, o_enumT, o_lset, o_srtP, p_enumT, p_lset, p_srtP, p_listT, p_tupL, p_sliceT, p_divmod, p_var, v_0, v_s, p_add, p_addL, p_addT, p_sub, p_mul, p_mulL, p_div, p_mod, p_pow, p_neg, p_alF, p_alT, p_lst, p_tup, p_not, p_cmp, c_eq, c_ne, c_lt, c_gt, c_le, c_ge, c_in, c_nin, anyI, ev_ints0, ev_row0, ev_0ints, ev_ois0, p_isN, p_notN, p_ix, p_ixT, p_ixS, p_ixR, at_m, p_len, p_lenT, p_lenS, p_lenR, p_list, p_listS, p_listR, p_slice, p_allM, p_anyM, p_sumM, p_all, p_any, p_sum, p_max2, p_min2, p_remove, p_sorted, ints_snoc, ints_map, p_index, isl_l, py_drow, py_drows, ev_drow, ev_drows, fr_drow, fr_drows, p_sliceS, p_sliceR, p_src, p_srcS, p_srcT, p_srcR, src_l, src_f, p_rng1, p_rng2, p_enum, p_zip, p_app, p_pop, p_clear, p_rev, p_ext, p_ins, p_popAt, p_set, p_isi, p_frz, a_add, a_sub, a_mul, ixL, ixLR, cell_l, live_l, isl, py_int, py_bl, py_non, py_str, py_oi, py_lst, py_tup, py_scr, py_ints, py_bls, py_ois, py_row, py_rows, py_ref, ev_int, ev_bl, ev_str, ev_oi, ev_oI, ev_Io, ev_oN, ev_No, ev_ints, ev_row, ev_ois, ev_rows, non_oi, cut_map, ← List.map_take, ← List.map_drop, List.getElem?_cons_zero, List.getElem?_cons_succ, List.set_cons_zero, List.set_cons_succ, List.foldl_cons, List.foldl_nil, List.map_cons, List.map_nil, List.length_cons, List.length_nil, List.replicate, List.cons_append, List.nil_append, exists_eq_left, exists_eq_left', D.bl.injEq, D.int.injEq, D.tup.injEq, decide_eq_true_eq, decide_eq_false_iff_not, true_and, and_true, true_implies, List.length_map, fr_ref, fr_ints, fr_ois, fr_rows, fr_int, fr_lst, fr_row, fr_oi, fr_bl, fr_non, fr_cons, fr_nil, fr_tup, Fl.rt.injEq, Fl.nx.injEq, ex_neg, ex_neg', Bool.not_eq_true', Bool.not_eq_false', Bool.not_not, wipeE, omap_cons, omap_nil, at_0, at_1, at_2, oi_some, oi_none, oP_some, oP_none, Option.some.injEq, end_get, end_set, beq_self_eq_true, bne_self_eq_false, tn, tn0, tn1, fitL, mL, mR, nc, nc0, nc1, c_ltT, c_gtT, c_leT, ev_tup, ev_listc, ev_cons, ev_nil, ev_list0, ev_0list, c_inT, c_ninT, LIM, Int.zero_add, gc_id, Nat.le_refl, Option.map_some, Option.bind_some, isi_s, ty_int, ty_bl, ty_non, ty_lst, ty_tup, ty_str, ty_ref, ty_cl, ty_oi, isTy, Int.reduceLE, Int.reduceLT, Int.reducePow, Int.reduceAdd, Int.reduceSub, Int.reduceMul, Int.reduceNeg, Int.reduceEq, Int.reduceGT, Int.reduceGE, Int.reduceNe, Nat.reduceAdd, Nat.reduceSub, Nat.reduceLT, Nat.reduceLeDiff, Nat.reduceMul, Nat.reducePow, Nat.reduceBEq, Nat.reduceEqDiff, Int.reduceToNat, Bool.not_eq_true, Bool.not_true, Bool.not_false, Bool.not_eq_false, Bool.not_eq_eq_eq_not, reduceCtorEq, if_true, if_false, false_implies, Bool.false_eq_true, Bool.true_eq_false, and_self, not_true, not_false_iff, implies_true, forall_const, true_or, or_true, and_false, false_and, ge_iff_le, gt_iff_lt]
  have seqIn : ∀ (os : List (List Int)), os ≠ [] → (∀ o ∈ os, o.Perm (rgi 0 t.length)) → ∀ a ∈ hsSeq os t.length m, 0 ≤ a ∧ a < (t.length : Nat) := fun os hne ho a ha => by
    obtain ⟨k, _, rfl⟩ := List.mem_map.mp ha
    exact (hsAt_ok ho (List.length_pos_iff.mpr hne) k (by omega)).1
  have facts : ∀ (os : List (List Int)), os ≠ [] → (∀ o ∈ os, o.Perm (rgi 0 t.length)) → (turnSt t m (hsSeq os t.length m)).1.length = m ∧ heap (turnSt t m (hsSeq os t.length m)).1 none = [] ∧ dealOk t.length (turnSt t m (hsSeq os t.length m)).1 := fun os hne ho => by
    obtain ⟨q1, q2⟩ := turnSt_left t m (hsSeq os t.length m) (by rw [hsSeq_len]; exact Nat.le_refl _)
    rw [hsSeq_len] at q2
    exact ⟨q1, List.eq_nil_of_length_eq_zero (by omega), turnSt_own t m _ _ (seqIn os hne ho)⟩
  have pl : ∀ hs : List Int, (turnSt t m hs).2.length = hs.length := fun hs => by
    induction hs using snoc_ind with
    | nil => rfl
    | snoc hs h ih =>
      rw [turnSt_snoc]
      unfold pickSt
      simp [ih]
  obtain ⟨f1, f2, f3⟩ := facts os hne hos
  have H := turnSt_turn T w0 rfl hos (List.length_pos_iff.mpr hne) m (Nat.le_refl _)
  have plm := pl (hsSeq os t.length m)
  rw [hsSeq_len] at plm
  generalize turnSt t m (hsSeq os t.length m) = s at *
  obtain ⟨d, ps⟩ := s
  simp only at f1 f2 f3 plm H ⊢
  have ks := fun (d : List (Option Int)) (hd : d.length = m) (a b : Int) (h0 : 0 ≤ a) (h1 : a < t.length) μ Q => call_eq (Γ := G_law) (f := 99) (dn := 0) (fz := true) (ds := [(D.lst false (List.map (row false) t)), (D.lst false (List.map oi d)), .int a, .int b]) (μ := μ) (Q := Q) rfl (by simp only [B__law_seen, le_pair, le_pairs, la_nil, la_t, la_f, Option.bind_some, Option.map_some, List.append_nil, List.replicate, le_int, le_bl, le_non, le_str, le_scr, le_oi, le_lst, le_tup, le_ints, le_bls, le_ois, le_row, le_rows, le_drow, le_drows, le_ref, cl_pairs, g_s, p_gT, p_gF, Bool.and_true, Bool.true_and, Bool.and_self, cl_ints, cl_bls, cl_oi, cl_ois, cl_row, cl_rows, cl_drow, cl_drows, cl_app, cl_lst, cl_cons, cl_nil, cl_int, cl_bl, cl_non, cl_str, cl_tup] <;> rfl) rfl (lseen t d a b T hd h0 h1)
  have kf := fun (b : Int) μ Q => call_eq (Γ := G_law) (f := 35) (dn := 0) (fz := true) (ds := [.lst false (ps.map pairD), .int b]) (μ := μ) (Q := Q) rfl (by simp only [B__law_first, le_pair, le_pairs, la_nil, la_t, la_f, Option.bind_some, Option.map_some, List.append_nil, List.replicate, le_int, le_bl, le_non, le_str, le_scr, le_oi, le_lst, le_tup, le_ints, le_bls, le_ois, le_row, le_rows, le_drow, le_drows, le_ref, cl_pairs, g_s, p_gT, p_gF, Bool.and_true, Bool.true_and, Bool.and_self, cl_ints, cl_bls, cl_oi, cl_ois, cl_row, cl_rows, cl_drow, cl_drows, cl_app, cl_lst, cl_cons, cl_nil, cl_int, cl_bl, cl_non, cl_str, cl_tup] <;> rfl) rfl (lfirst ps b (by omega))
  have kbe := fun (d : List (Option Int)) (o : List Int) (hd : d.length = m) (ho : o.Perm (rgi 0 t.length)) (h : ∀ i j : Nat, i < j → j < t.length → seen t d (pick o i) (pick o j) ≤ seen t d (pick o i) (pick o i)) (fz : Bool) μ Q => call_eq (Γ := G_law) (f := 67) (dn := 0) (fz := fz) (ds := [(D.lst false (List.map (row false) t)), (D.lst false (List.map oi d)), (D.lst false (List.map D.int o))]) (μ := μ) (Q := Q) rfl (by simp only [B__law_no_envy_behind, le_pair, le_pairs, la_nil, la_t, la_f, Option.bind_some, Option.map_some, List.append_nil, List.replicate, le_int, le_bl, le_non, le_str, le_scr, le_oi, le_lst, le_tup, le_ints, le_bls, le_ois, le_row, le_rows, le_drow, le_drows, le_ref, cl_pairs, g_s, p_gT, p_gF, Bool.and_true, Bool.true_and, Bool.and_self, cl_ints, cl_bls, cl_oi, cl_ois, cl_row, cl_rows, cl_drow, cl_drows, cl_app, cl_lst, cl_cons, cl_nil, cl_int, cl_bl, cl_non, cl_str, cl_tup] <;> rfl) rfl (behind t d o T hd ho h)
  rw [o_cons]
  simp (disch := decide) only [ev_00, fr_pair, fr_pairs, py_pair, py_pairs, ev_pair, ev_pairs, ev_pairs0, anyPr, p_minR, p_maxR, p_sumR, p_allR, p_anyR, p_sortedR, o_nil, o_ret, o_expr, o_set, o_asg, o_ife, o_setIx, o_aug, o_augIx, o_kill, o_pass, o_retN, seqP_nx, seqP_rt, o_var, o_int, o_bl, o_non, o_str, o_cst, o_bin, o_neg, o_cmp, o_chain, o_isN, o_notN, o_and, o_or, o_and1, o_or1, o_and2, o_or2, o_not, o_lst, o_tup, o_ix, o_slice, o_part0, o_part1, o_call, o_bi, o_isi, o_frz, o_isB, o_lrg, p_isB, p_lrg1, p_lrg2, o_rev, o_par, p_revL, p_revS, p_revR, ← List.map_reverse, o_mth0, o_mth, o_evs0, o_evs1, o_slst, o_stup, o_rng, o_enum, o_zip, o_enumT, o_lset, o_srtP, p_enumT, p_lset, p_srtP, p_listT, p_tupL, p_sliceT, p_divmod, p_var, v_0, v_s, p_add, p_addL, p_addT, p_sub, p_mul, p_mulL, p_div, p_mod, p_pow, p_neg, p_alF, p_alT, p_lst, p_tup, p_not, p_cmp, c_eq, c_ne, c_lt, c_gt, c_le, c_ge, c_in, c_nin, anyI, ev_ints0, ev_row0, ev_0ints, ev_ois0, p_isN, p_notN, p_ix, p_ixT, p_ixS, p_ixR, at_m, p_len, p_lenT, p_lenS, p_lenR, p_list, p_listS, p_listR, p_slice, p_allM, p_anyM, p_sumM, p_all, p_any, p_sum, p_max2, p_min2, p_remove, p_sorted, ints_snoc, ints_map, p_index, isl_l, py_drow, py_drows, ev_drow, ev_drows, fr_drow, fr_drows, p_sliceS, p_sliceR, p_src, p_srcS, p_srcT, p_srcR, src_l, src_f, p_rng1, p_rng2, p_enum, p_zip, p_app, p_pop, p_clear, p_rev, p_ext, p_ins, p_popAt, p_set, p_isi, p_frz, a_add, a_sub, a_mul, ixL, ixLR, cell_l, live_l, isl, py_int, py_bl, py_non, py_str, py_oi, py_lst, py_tup, py_scr, py_ints, py_bls, py_ois, py_row, py_rows, py_ref, ev_int, ev_bl, ev_str, ev_oi, ev_oI, ev_Io, ev_oN, ev_No, ev_ints, ev_row, ev_ois, ev_rows, non_oi, cut_map, ← List.map_take, ← List.map_drop, List.getElem?_cons_zero, List.getElem?_cons_succ, List.set_cons_zero, List.set_cons_succ, List.foldl_cons, List.foldl_nil, List.map_cons, List.map_nil, List.length_cons, List.length_nil, List.replicate, List.cons_append, List.nil_append, exists_eq_left, exists_eq_left', D.bl.injEq, D.int.injEq, D.tup.injEq, decide_eq_true_eq, decide_eq_false_iff_not, true_and, and_true, true_implies, List.length_map, fr_ref, fr_ints, fr_ois, fr_rows, fr_int, fr_lst, fr_row, fr_oi, fr_bl, fr_non, fr_cons, fr_nil, fr_tup, Fl.rt.injEq, Fl.nx.injEq, ex_neg, ex_neg', Bool.not_eq_true', Bool.not_eq_false', Bool.not_not, wipeE, omap_cons, omap_nil, at_0, at_1, at_2, oi_some, oi_none, oP_some, oP_none, Option.some.injEq, end_get, end_set, beq_self_eq_true, bne_self_eq_false, tn, tn0, tn1, fitL, mL, mR, nc, nc0, nc1, c_ltT, c_gtT, c_leT, ev_tup, ev_listc, ev_cons, ev_nil, ev_list0, ev_0list, c_inT, c_ninT, LIM, Int.zero_add, gc_id, Nat.le_refl, Option.map_some, Option.bind_some, isi_s, ty_int, ty_bl, ty_non, ty_lst, ty_tup, ty_str, ty_ref, ty_cl, ty_oi, isTy, Int.reduceLE, Int.reduceLT, Int.reducePow, Int.reduceAdd, Int.reduceSub, Int.reduceMul, Int.reduceNeg, Int.reduceEq, Int.reduceGT, Int.reduceGE, Int.reduceNe, Nat.reduceAdd, Nat.reduceSub, Nat.reduceLT, Nat.reduceLeDiff, Nat.reduceMul, Nat.reducePow, Nat.reduceBEq, Nat.reduceEqDiff, Int.reduceToNat, Bool.not_eq_true, Bool.not_true, Bool.not_false, Bool.not_eq_false, Bool.not_eq_eq_eq_not, reduceCtorEq, if_true, if_false, false_implies, Bool.false_eq_true, Bool.true_eq_false, and_self, not_true, not_false_iff, implies_true, forall_const, true_or, or_true, and_false, false_and, ge_iff_le, gt_iff_lt, cl_pairs, g_s, p_gT, p_gF, Bool.and_true, Bool.true_and, Bool.and_self, cl_ints, cl_bls, cl_oi, cl_ois, cl_row, cl_rows, cl_drow, cl_drows, cl_app, cl_lst, cl_cons, cl_nil, cl_int, cl_bl, cl_non, cl_str, cl_tup, fit, mfit, rt_pairs, sh_pairs, rt_bl, rt_non, rt_str, rt_tup, sh_non, sh_str, sh_tup, rt_ints, rt_oi, rt_ois, rt_row, rt_rows, rt_drow, rt_drows, rt_ref, rt_int, rt_cell, rt_cons, rt_nil, rt_lst, rt_app, p_gF, List.all_cons, List.all_nil, sh_ints, sh_oi, sh_ois, sh_row, sh_rows, sh_drow, sh_drows, sh_ref, sh_int, sh_bl, sh_cell, sh_cons, sh_nil, sh_lst, Nat.zero_add, Nat.add_zero, ez, row, lz, f1]
  refine o_comp (xs := d) (f := oi) (fun o => !decide (o ∈ (rgi 0 t.length).map some)) oi ?_ ?_ ?_
  · simp (disch := decide) only [ev_00, fr_pair, fr_pairs, py_pair, py_pairs, ev_pair, ev_pairs, ev_pairs0, anyPr, p_minR, p_maxR, p_sumR, p_allR, p_anyR, p_sortedR, o_nil, o_cons, o_ret, o_expr, o_set, o_asg, o_ife, o_setIx, o_aug, o_augIx, o_kill, o_pass, o_retN, seqP_nx, seqP_rt, o_var, o_int, o_bl, o_non, o_str, o_cst, o_bin, o_neg, o_cmp, o_chain, o_isN, o_notN, o_and, o_or, o_and1, o_or1, o_and2, o_or2, o_not, o_lst, o_tup, o_ix, o_slice, o_part0, o_part1, o_call, o_bi, o_isi, o_frz, o_isB, o_lrg, p_isB, p_lrg1, p_lrg2, o_rev, o_par, p_revL, p_revS, p_revR, ← List.map_reverse, o_mth0, o_mth, o_evs0, o_evs1, o_slst, o_stup, o_rng, o_enum, o_zip, o_enumT, o_lset, o_srtP, p_enumT, p_lset, p_srtP, p_listT, p_tupL, p_sliceT, p_divmod, p_var, v_0, v_s, p_add, p_addL, p_addT, p_sub, p_mul, p_mulL, p_div, p_mod, p_pow, p_neg, p_alF, p_alT, p_lst, p_tup, p_not, p_cmp, c_eq, c_ne, c_lt, c_gt, c_le, c_ge, c_in, c_nin, anyI, ev_ints0, ev_row0, ev_0ints, ev_ois0, p_isN, p_notN, p_ix, p_ixT, p_ixS, p_ixR, at_m, p_len, p_lenT, p_lenS, p_lenR, p_list, p_listS, p_listR, p_slice, p_allM, p_anyM, p_sumM, p_all, p_any, p_sum, p_max2, p_min2, p_remove, p_sorted, ints_snoc, ints_map, p_index, isl_l, py_drow, py_drows, ev_drow, ev_drows, fr_drow, fr_drows, p_sliceS, p_sliceR, p_src, p_srcS, p_srcT, p_srcR, src_l, src_f, p_rng1, p_rng2, p_enum, p_zip, p_app, p_pop, p_clear, p_rev, p_ext, p_ins, p_popAt, p_set, p_isi, p_frz, a_add, a_sub, a_mul, ixL, ixLR, cell_l, live_l, isl, py_int, py_bl, py_non, py_str, py_oi, py_lst, py_tup, py_scr, py_ints, py_bls, py_ois, py_row, py_rows, py_ref, ev_int, ev_bl, ev_str, ev_oi, ev_oI, ev_Io, ev_oN, ev_No, ev_ints, ev_row, ev_ois, ev_rows, non_oi, cut_map, ← List.map_take, ← List.map_drop, List.getElem?_cons_zero, List.getElem?_cons_succ, List.set_cons_zero, List.set_cons_succ, List.foldl_cons, List.foldl_nil, List.map_cons, List.map_nil, List.length_cons, List.length_nil, List.replicate, List.cons_append, List.nil_append, exists_eq_left, exists_eq_left', D.bl.injEq, D.int.injEq, D.tup.injEq, decide_eq_true_eq, decide_eq_false_iff_not, true_and, and_true, true_implies, List.length_map, fr_ref, fr_ints, fr_ois, fr_rows, fr_int, fr_lst, fr_row, fr_oi, fr_bl, fr_non, fr_cons, fr_nil, fr_tup, Fl.rt.injEq, Fl.nx.injEq, ex_neg, ex_neg', Bool.not_eq_true', Bool.not_eq_false', Bool.not_not, wipeE, omap_cons, omap_nil, at_0, at_1, at_2, oi_some, oi_none, oP_some, oP_none, Option.some.injEq, end_get, end_set, beq_self_eq_true, bne_self_eq_false, tn, tn0, tn1, fitL, mL, mR, nc, nc0, nc1, c_ltT, c_gtT, c_leT, ev_tup, ev_listc, ev_cons, ev_nil, ev_list0, ev_0list, c_inT, c_ninT, LIM, Int.zero_add, gc_id, Nat.le_refl, Option.map_some, Option.bind_some, isi_s, ty_int, ty_bl, ty_non, ty_lst, ty_tup, ty_str, ty_ref, ty_cl, ty_oi, isTy, Int.reduceLE, Int.reduceLT, Int.reducePow, Int.reduceAdd, Int.reduceSub, Int.reduceMul, Int.reduceNeg, Int.reduceEq, Int.reduceGT, Int.reduceGE, Int.reduceNe, Nat.reduceAdd, Nat.reduceSub, Nat.reduceLT, Nat.reduceLeDiff, Nat.reduceMul, Nat.reducePow, Nat.reduceBEq, Nat.reduceEqDiff, Int.reduceToNat, Bool.not_eq_true, Bool.not_true, Bool.not_false, Bool.not_eq_false, Bool.not_eq_eq_eq_not, reduceCtorEq, if_true, if_false, false_implies, Bool.false_eq_true, Bool.true_eq_false, and_self, not_true, not_false_iff, implies_true, forall_const, true_or, or_true, and_false, false_and, ge_iff_le, gt_iff_lt, cl_pairs, g_s, p_gT, p_gF, Bool.and_true, Bool.true_and, Bool.and_self, cl_ints, cl_bls, cl_oi, cl_ois, cl_row, cl_rows, cl_drow, cl_drows, cl_app, cl_lst, cl_cons, cl_nil, cl_int, cl_bl, cl_non, cl_str, cl_tup, fit, mfit, rt_pairs, sh_pairs, rt_bl, rt_non, rt_str, rt_tup, sh_non, sh_str, sh_tup, rt_ints, rt_oi, rt_ois, rt_row, rt_rows, rt_drow, rt_drows, rt_ref, rt_int, rt_cell, rt_cons, rt_nil, rt_lst, rt_app, p_gF, List.all_cons, List.all_nil, sh_ints, sh_oi, sh_ois, sh_row, sh_rows, sh_drow, sh_drows, sh_ref, sh_int, sh_bl, sh_cell, sh_cons, sh_nil, sh_lst, Nat.zero_add, Nat.add_zero]
    omega
  · intro i hi
    refine ⟨_, rfl, ?_, fun _ => ?_⟩
    · have e1 : List.map PyData.int (rgi 0 t.length) = List.map oP ((rgi 0 t.length).map some) := by
        rw [List.map_map]
        rfl
      simp (disch := decide) only [ev_00, fr_pair, fr_pairs, py_pair, py_pairs, ev_pair, ev_pairs, ev_pairs0, anyPr, p_minR, p_maxR, p_sumR, p_allR, p_anyR, p_sortedR, o_nil, o_cons, o_ret, o_expr, o_set, o_asg, o_ife, o_setIx, o_aug, o_augIx, o_kill, o_pass, o_retN, seqP_nx, seqP_rt, o_var, o_int, o_bl, o_non, o_str, o_cst, o_bin, o_neg, o_cmp, o_chain, o_isN, o_notN, o_and, o_or, o_and1, o_or1, o_and2, o_or2, o_not, o_lst, o_tup, o_ix, o_slice, o_part0, o_part1, o_call, o_bi, o_isi, o_frz, o_isB, o_lrg, p_isB, p_lrg1, p_lrg2, o_rev, o_par, p_revL, p_revS, p_revR, ← List.map_reverse, o_mth0, o_mth, o_evs0, o_evs1, o_slst, o_stup, o_rng, o_enum, o_zip, o_enumT, o_lset, o_srtP, p_enumT, p_lset, p_srtP, p_listT, p_tupL, p_sliceT, p_divmod, p_var, v_0, v_s, p_add, p_addL, p_addT, p_sub, p_mul, p_mulL, p_div, p_mod, p_pow, p_neg, p_alF, p_alT, p_lst, p_tup, p_not, p_cmp, c_eq, c_ne, c_lt, c_gt, c_le, c_ge, c_in, c_nin, anyI, ev_ints0, ev_row0, ev_0ints, ev_ois0, p_isN, p_notN, p_ix, p_ixT, p_ixS, p_ixR, at_m, p_len, p_lenT, p_lenS, p_lenR, p_list, p_listS, p_listR, p_slice, p_allM, p_anyM, p_sumM, p_all, p_any, p_sum, p_max2, p_min2, p_remove, p_sorted, ints_snoc, ints_map, p_index, isl_l, py_drow, py_drows, ev_drow, ev_drows, fr_drow, fr_drows, p_sliceS, p_sliceR, p_src, p_srcS, p_srcT, p_srcR, src_l, src_f, p_rng1, p_rng2, p_enum, p_zip, p_app, p_pop, p_clear, p_rev, p_ext, p_ins, p_popAt, p_set, p_isi, p_frz, a_add, a_sub, a_mul, ixL, ixLR, cell_l, live_l, isl, py_int, py_bl, py_non, py_str, py_oi, py_lst, py_tup, py_scr, py_ints, py_bls, py_ois, py_row, py_rows, py_ref, ev_int, ev_bl, ev_str, ev_oi, ev_oI, ev_Io, ev_oN, ev_No, ev_ints, ev_row, ev_ois, ev_rows, non_oi, cut_map, ← List.map_take, ← List.map_drop, List.getElem?_cons_zero, List.getElem?_cons_succ, List.set_cons_zero, List.set_cons_succ, List.foldl_cons, List.foldl_nil, List.map_cons, List.map_nil, List.length_cons, List.length_nil, List.replicate, List.cons_append, List.nil_append, exists_eq_left, exists_eq_left', D.bl.injEq, D.int.injEq, D.tup.injEq, decide_eq_true_eq, decide_eq_false_iff_not, true_and, and_true, true_implies, List.length_map, fr_ref, fr_ints, fr_ois, fr_rows, fr_int, fr_lst, fr_row, fr_oi, fr_bl, fr_non, fr_cons, fr_nil, fr_tup, Fl.rt.injEq, Fl.nx.injEq, ex_neg, ex_neg', Bool.not_eq_true', Bool.not_eq_false', Bool.not_not, wipeE, omap_cons, omap_nil, at_0, at_1, at_2, oi_some, oi_none, oP_some, oP_none, Option.some.injEq, end_get, end_set, beq_self_eq_true, bne_self_eq_false, tn, tn0, tn1, fitL, mL, mR, nc, nc0, nc1, c_ltT, c_gtT, c_leT, ev_tup, ev_listc, ev_cons, ev_nil, ev_list0, ev_0list, c_inT, c_ninT, LIM, Int.zero_add, gc_id, Nat.le_refl, Option.map_some, Option.bind_some, isi_s, ty_int, ty_bl, ty_non, ty_lst, ty_tup, ty_str, ty_ref, ty_cl, ty_oi, isTy, Int.reduceLE, Int.reduceLT, Int.reducePow, Int.reduceAdd, Int.reduceSub, Int.reduceMul, Int.reduceNeg, Int.reduceEq, Int.reduceGT, Int.reduceGE, Int.reduceNe, Nat.reduceAdd, Nat.reduceSub, Nat.reduceLT, Nat.reduceLeDiff, Nat.reduceMul, Nat.reducePow, Nat.reduceBEq, Nat.reduceEqDiff, Int.reduceToNat, Bool.not_eq_true, Bool.not_true, Bool.not_false, Bool.not_eq_false, Bool.not_eq_eq_eq_not, reduceCtorEq, if_true, if_false, false_implies, Bool.false_eq_true, Bool.true_eq_false, and_self, not_true, not_false_iff, implies_true, forall_const, true_or, or_true, and_false, false_and, ge_iff_le, gt_iff_lt, cl_pairs, g_s, p_gT, p_gF, Bool.and_true, Bool.true_and, Bool.and_self, cl_ints, cl_bls, cl_oi, cl_ois, cl_row, cl_rows, cl_drow, cl_drows, cl_app, cl_lst, cl_cons, cl_nil, cl_int, cl_bl, cl_non, cl_str, cl_tup, fit, mfit, rt_pairs, sh_pairs, rt_bl, rt_non, rt_str, rt_tup, sh_non, sh_str, sh_tup, rt_ints, rt_oi, rt_ois, rt_row, rt_rows, rt_drow, rt_drows, rt_ref, rt_int, rt_cell, rt_cons, rt_nil, rt_lst, rt_app, p_gF, List.all_cons, List.all_nil, sh_ints, sh_oi, sh_ois, sh_row, sh_rows, sh_drow, sh_drows, sh_ref, sh_int, sh_bl, sh_cell, sh_cons, sh_nil, sh_lst, Nat.zero_add, Nat.add_zero]
      rw [e1, anyO]
    · simp (disch := decide) only [ev_00, fr_pair, fr_pairs, py_pair, py_pairs, ev_pair, ev_pairs, ev_pairs0, anyPr, p_minR, p_maxR, p_sumR, p_allR, p_anyR, p_sortedR, o_nil, o_cons, o_ret, o_expr, o_set, o_asg, o_ife, o_setIx, o_aug, o_augIx, o_kill, o_pass, o_retN, seqP_nx, seqP_rt, o_var, o_int, o_bl, o_non, o_str, o_cst, o_bin, o_neg, o_cmp, o_chain, o_isN, o_notN, o_and, o_or, o_and1, o_or1, o_and2, o_or2, o_not, o_lst, o_tup, o_ix, o_slice, o_part0, o_part1, o_call, o_bi, o_isi, o_frz, o_isB, o_lrg, p_isB, p_lrg1, p_lrg2, o_rev, o_par, p_revL, p_revS, p_revR, ← List.map_reverse, o_mth0, o_mth, o_evs0, o_evs1, o_slst, o_stup, o_rng, o_enum, o_zip, o_enumT, o_lset, o_srtP, p_enumT, p_lset, p_srtP, p_listT, p_tupL, p_sliceT, p_divmod, p_var, v_0, v_s, p_add, p_addL, p_addT, p_sub, p_mul, p_mulL, p_div, p_mod, p_pow, p_neg, p_alF, p_alT, p_lst, p_tup, p_not, p_cmp, c_eq, c_ne, c_lt, c_gt, c_le, c_ge, c_in, c_nin, anyI, ev_ints0, ev_row0, ev_0ints, ev_ois0, p_isN, p_notN, p_ix, p_ixT, p_ixS, p_ixR, at_m, p_len, p_lenT, p_lenS, p_lenR, p_list, p_listS, p_listR, p_slice, p_allM, p_anyM, p_sumM, p_all, p_any, p_sum, p_max2, p_min2, p_remove, p_sorted, ints_snoc, ints_map, p_index, isl_l, py_drow, py_drows, ev_drow, ev_drows, fr_drow, fr_drows, p_sliceS, p_sliceR, p_src, p_srcS, p_srcT, p_srcR, src_l, src_f, p_rng1, p_rng2, p_enum, p_zip, p_app, p_pop, p_clear, p_rev, p_ext, p_ins, p_popAt, p_set, p_isi, p_frz, a_add, a_sub, a_mul, ixL, ixLR, cell_l, live_l, isl, py_int, py_bl, py_non, py_str, py_oi, py_lst, py_tup, py_scr, py_ints, py_bls, py_ois, py_row, py_rows, py_ref, ev_int, ev_bl, ev_str, ev_oi, ev_oI, ev_Io, ev_oN, ev_No, ev_ints, ev_row, ev_ois, ev_rows, non_oi, cut_map, ← List.map_take, ← List.map_drop, List.getElem?_cons_zero, List.getElem?_cons_succ, List.set_cons_zero, List.set_cons_succ, List.foldl_cons, List.foldl_nil, List.map_cons, List.map_nil, List.length_cons, List.length_nil, List.replicate, List.cons_append, List.nil_append, exists_eq_left, exists_eq_left', D.bl.injEq, D.int.injEq, D.tup.injEq, decide_eq_true_eq, decide_eq_false_iff_not, true_and, and_true, true_implies, List.length_map, fr_ref, fr_ints, fr_ois, fr_rows, fr_int, fr_lst, fr_row, fr_oi, fr_bl, fr_non, fr_cons, fr_nil, fr_tup, Fl.rt.injEq, Fl.nx.injEq, ex_neg, ex_neg', Bool.not_eq_true', Bool.not_eq_false', Bool.not_not, wipeE, omap_cons, omap_nil, at_0, at_1, at_2, oi_some, oi_none, oP_some, oP_none, Option.some.injEq, end_get, end_set, beq_self_eq_true, bne_self_eq_false, tn, tn0, tn1, fitL, mL, mR, nc, nc0, nc1, c_ltT, c_gtT, c_leT, ev_tup, ev_listc, ev_cons, ev_nil, ev_list0, ev_0list, c_inT, c_ninT, LIM, Int.zero_add, gc_id, Nat.le_refl, Option.map_some, Option.bind_some, isi_s, ty_int, ty_bl, ty_non, ty_lst, ty_tup, ty_str, ty_ref, ty_cl, ty_oi, isTy, Int.reduceLE, Int.reduceLT, Int.reducePow, Int.reduceAdd, Int.reduceSub, Int.reduceMul, Int.reduceNeg, Int.reduceEq, Int.reduceGT, Int.reduceGE, Int.reduceNe, Nat.reduceAdd, Nat.reduceSub, Nat.reduceLT, Nat.reduceLeDiff, Nat.reduceMul, Nat.reducePow, Nat.reduceBEq, Nat.reduceEqDiff, Int.reduceToNat, Bool.not_eq_true, Bool.not_true, Bool.not_false, Bool.not_eq_false, Bool.not_eq_eq_eq_not, reduceCtorEq, if_true, if_false, false_implies, Bool.false_eq_true, Bool.true_eq_false, and_self, not_true, not_false_iff, implies_true, forall_const, true_or, or_true, and_false, false_and, ge_iff_le, gt_iff_lt, cl_pairs, g_s, p_gT, p_gF, Bool.and_true, Bool.true_and, Bool.and_self, cl_ints, cl_bls, cl_oi, cl_ois, cl_row, cl_rows, cl_drow, cl_drows, cl_app, cl_lst, cl_cons, cl_nil, cl_int, cl_bl, cl_non, cl_str, cl_tup, fit, mfit, rt_pairs, sh_pairs, rt_bl, rt_non, rt_str, rt_tup, sh_non, sh_str, sh_tup, rt_ints, rt_oi, rt_ois, rt_row, rt_rows, rt_drow, rt_drows, rt_ref, rt_int, rt_cell, rt_cons, rt_nil, rt_lst, rt_app, p_gF, List.all_cons, List.all_nil, sh_ints, sh_oi, sh_ois, sh_row, sh_rows, sh_drow, sh_drows, sh_ref, sh_int, sh_bl, sh_cell, sh_cons, sh_nil, sh_lst, Nat.zero_add, Nat.add_zero]
  have e2 : d.filter (fun o => !decide (o ∈ (rgi 0 t.length).map some)) = [] := by
    rw [List.filter_eq_nil_iff]
    intro o ho
    have := heap_nil f2 o ho
    cases o with
    | none => exact absurd rfl this
    | some h =>
      have := f3 h ho
      simp [rgi_mem]
      omega
  rw [e2]
  simp (disch := decide) only [ev_00, fr_pair, fr_pairs, py_pair, py_pairs, ev_pair, ev_pairs, ev_pairs0, anyPr, p_minR, p_maxR, p_sumR, p_allR, p_anyR, p_sortedR, o_nil, o_ret, o_expr, o_set, o_asg, o_ife, o_setIx, o_aug, o_augIx, o_kill, o_pass, o_retN, seqP_nx, seqP_rt, o_var, o_int, o_bl, o_non, o_str, o_cst, o_bin, o_neg, o_cmp, o_chain, o_isN, o_notN, o_and, o_or, o_and1, o_or1, o_and2, o_or2, o_not, o_lst, o_tup, o_ix, o_slice, o_part0, o_part1, o_call, o_bi, o_isi, o_frz, o_isB, o_lrg, p_isB, p_lrg1, p_lrg2, o_rev, o_par, p_revL, p_revS, p_revR, ← List.map_reverse, o_mth0, o_mth, o_evs0, o_evs1, o_slst, o_stup, o_rng, o_enum, o_zip, o_enumT, o_lset, o_srtP, p_enumT, p_lset, p_srtP, p_listT, p_tupL, p_sliceT, p_divmod, p_var, v_0, v_s, p_add, p_addL, p_addT, p_sub, p_mul, p_mulL, p_div, p_mod, p_pow, p_neg, p_alF, p_alT, p_lst, p_tup, p_not, p_cmp, c_eq, c_ne, c_lt, c_gt, c_le, c_ge, c_in, c_nin, anyI, ev_ints0, ev_row0, ev_0ints, ev_ois0, p_isN, p_notN, p_ix, p_ixT, p_ixS, p_ixR, at_m, p_len, p_lenT, p_lenS, p_lenR, p_list, p_listS, p_listR, p_slice, p_allM, p_anyM, p_sumM, p_all, p_any, p_sum, p_max2, p_min2, p_remove, p_sorted, ints_snoc, ints_map, p_index, isl_l, py_drow, py_drows, ev_drow, ev_drows, fr_drow, fr_drows, p_sliceS, p_sliceR, p_src, p_srcS, p_srcT, p_srcR, src_l, src_f, p_rng1, p_rng2, p_enum, p_zip, p_app, p_pop, p_clear, p_rev, p_ext, p_ins, p_popAt, p_set, p_isi, p_frz, a_add, a_sub, a_mul, ixL, ixLR, cell_l, live_l, isl, py_int, py_bl, py_non, py_str, py_oi, py_lst, py_tup, py_scr, py_ints, py_bls, py_ois, py_row, py_rows, py_ref, ev_int, ev_bl, ev_str, ev_oi, ev_oI, ev_Io, ev_oN, ev_No, ev_ints, ev_row, ev_ois, ev_rows, non_oi, cut_map, ← List.map_take, ← List.map_drop, List.getElem?_cons_zero, List.getElem?_cons_succ, List.set_cons_zero, List.set_cons_succ, List.foldl_cons, List.foldl_nil, List.map_cons, List.map_nil, List.length_cons, List.length_nil, List.replicate, List.cons_append, List.nil_append, exists_eq_left, exists_eq_left', D.bl.injEq, D.int.injEq, D.tup.injEq, decide_eq_true_eq, decide_eq_false_iff_not, true_and, and_true, true_implies, List.length_map, fr_ref, fr_ints, fr_ois, fr_rows, fr_int, fr_lst, fr_row, fr_oi, fr_bl, fr_non, fr_cons, fr_nil, fr_tup, Fl.rt.injEq, Fl.nx.injEq, ex_neg, ex_neg', Bool.not_eq_true', Bool.not_eq_false', Bool.not_not, wipeE, omap_cons, omap_nil, at_0, at_1, at_2, oi_some, oi_none, oP_some, oP_none, Option.some.injEq, end_get, end_set, beq_self_eq_true, bne_self_eq_false, tn, tn0, tn1, fitL, mL, mR, nc, nc0, nc1, c_ltT, c_gtT, c_leT, ev_tup, ev_listc, ev_cons, ev_nil, ev_list0, ev_0list, c_inT, c_ninT, LIM, Int.zero_add, gc_id, Nat.le_refl, Option.map_some, Option.bind_some, isi_s, ty_int, ty_bl, ty_non, ty_lst, ty_tup, ty_str, ty_ref, ty_cl, ty_oi, isTy, Int.reduceLE, Int.reduceLT, Int.reducePow, Int.reduceAdd, Int.reduceSub, Int.reduceMul, Int.reduceNeg, Int.reduceEq, Int.reduceGT, Int.reduceGE, Int.reduceNe, Nat.reduceAdd, Nat.reduceSub, Nat.reduceLT, Nat.reduceLeDiff, Nat.reduceMul, Nat.reducePow, Nat.reduceBEq, Nat.reduceEqDiff, Int.reduceToNat, Bool.not_eq_true, Bool.not_true, Bool.not_false, Bool.not_eq_false, Bool.not_eq_eq_eq_not, reduceCtorEq, if_true, if_false, false_implies, Bool.false_eq_true, Bool.true_eq_false, and_self, not_true, not_false_iff, implies_true, forall_const, true_or, or_true, and_false, false_and, ge_iff_le, gt_iff_lt, cl_pairs, g_s, p_gT, p_gF, Bool.and_true, Bool.true_and, Bool.and_self, cl_ints, cl_bls, cl_oi, cl_ois, cl_row, cl_rows, cl_drow, cl_drows, cl_app, cl_lst, cl_cons, cl_nil, cl_int, cl_bl, cl_non, cl_str, cl_tup, fit, mfit, rt_pairs, sh_pairs, rt_bl, rt_non, rt_str, rt_tup, sh_non, sh_str, sh_tup, rt_ints, rt_oi, rt_ois, rt_row, rt_rows, rt_drow, rt_drows, rt_ref, rt_int, rt_cell, rt_cons, rt_nil, rt_lst, rt_app, p_gF, List.all_cons, List.all_nil, sh_ints, sh_oi, sh_ois, sh_row, sh_rows, sh_drow, sh_drows, sh_ref, sh_int, sh_bl, sh_cell, sh_cons, sh_nil, sh_lst, Nat.zero_add, Nat.add_zero]
  rw [o_cons]
  refine o_for (xs := rgi 0 t.length) (f := D.int) 0 (fun i e m' => e = [some (.scr ns), some ((D.lst false (List.map (row false) t))), some ((D.lst false (List.map D.int (rgi 0 t.length)))), some ((D.lst false (List.map (row false) os))), none, some ((D.lst false (List.map oi d))), some (.lst false (ps.map pairD)), none, none, none, none, none, none, none] ∧ m' = []) ?_ ?_ ?_
  · simp (disch := decide) only [ev_00, fr_pair, fr_pairs, py_pair, py_pairs, ev_pair, ev_pairs, ev_pairs0, anyPr, p_minR, p_maxR, p_sumR, p_allR, p_anyR, p_sortedR, o_nil, o_cons, o_ret, o_expr, o_set, o_asg, o_ife, o_setIx, o_aug, o_augIx, o_kill, o_pass, o_retN, seqP_nx, seqP_rt, o_var, o_int, o_bl, o_non, o_str, o_cst, o_bin, o_neg, o_cmp, o_chain, o_isN, o_notN, o_and, o_or, o_and1, o_or1, o_and2, o_or2, o_not, o_lst, o_tup, o_ix, o_slice, o_part0, o_part1, o_call, o_bi, o_isi, o_frz, o_isB, o_lrg, p_isB, p_lrg1, p_lrg2, o_rev, o_par, p_revL, p_revS, p_revR, ← List.map_reverse, o_mth0, o_mth, o_evs0, o_evs1, o_slst, o_stup, o_rng, o_enum, o_zip, o_enumT, o_lset, o_srtP, p_enumT, p_lset, p_srtP, p_listT, p_tupL, p_sliceT, p_divmod, p_var, v_0, v_s, p_add, p_addL, p_addT, p_sub, p_mul, p_mulL, p_div, p_mod, p_pow, p_neg, p_alF, p_alT, p_lst, p_tup, p_not, p_cmp, c_eq, c_ne, c_lt, c_gt, c_le, c_ge, c_in, c_nin, anyI, ev_ints0, ev_row0, ev_0ints, ev_ois0, p_isN, p_notN, p_ix, p_ixT, p_ixS, p_ixR, at_m, p_len, p_lenT, p_lenS, p_lenR, p_list, p_listS, p_listR, p_slice, p_allM, p_anyM, p_sumM, p_all, p_any, p_sum, p_max2, p_min2, p_remove, p_sorted, ints_snoc, ints_map, p_index, isl_l, py_drow, py_drows, ev_drow, ev_drows, fr_drow, fr_drows, p_sliceS, p_sliceR, p_src, p_srcS, p_srcT, p_srcR, src_l, src_f, p_rng1, p_rng2, p_enum, p_zip, p_app, p_pop, p_clear, p_rev, p_ext, p_ins, p_popAt, p_set, p_isi, p_frz, a_add, a_sub, a_mul, ixL, ixLR, cell_l, live_l, isl, py_int, py_bl, py_non, py_str, py_oi, py_lst, py_tup, py_scr, py_ints, py_bls, py_ois, py_row, py_rows, py_ref, ev_int, ev_bl, ev_str, ev_oi, ev_oI, ev_Io, ev_oN, ev_No, ev_ints, ev_row, ev_ois, ev_rows, non_oi, cut_map, ← List.map_take, ← List.map_drop, List.getElem?_cons_zero, List.getElem?_cons_succ, List.set_cons_zero, List.set_cons_succ, List.foldl_cons, List.foldl_nil, List.map_cons, List.map_nil, List.length_cons, List.length_nil, List.replicate, List.cons_append, List.nil_append, exists_eq_left, exists_eq_left', D.bl.injEq, D.int.injEq, D.tup.injEq, decide_eq_true_eq, decide_eq_false_iff_not, true_and, and_true, true_implies, List.length_map, fr_ref, fr_ints, fr_ois, fr_rows, fr_int, fr_lst, fr_row, fr_oi, fr_bl, fr_non, fr_cons, fr_nil, fr_tup, Fl.rt.injEq, Fl.nx.injEq, ex_neg, ex_neg', Bool.not_eq_true', Bool.not_eq_false', Bool.not_not, wipeE, omap_cons, omap_nil, at_0, at_1, at_2, oi_some, oi_none, oP_some, oP_none, Option.some.injEq, end_get, end_set, beq_self_eq_true, bne_self_eq_false, tn, tn0, tn1, fitL, mL, mR, nc, nc0, nc1, c_ltT, c_gtT, c_leT, ev_tup, ev_listc, ev_cons, ev_nil, ev_list0, ev_0list, c_inT, c_ninT, LIM, Int.zero_add, gc_id, Nat.le_refl, Option.map_some, Option.bind_some, isi_s, ty_int, ty_bl, ty_non, ty_lst, ty_tup, ty_str, ty_ref, ty_cl, ty_oi, isTy, Int.reduceLE, Int.reduceLT, Int.reducePow, Int.reduceAdd, Int.reduceSub, Int.reduceMul, Int.reduceNeg, Int.reduceEq, Int.reduceGT, Int.reduceGE, Int.reduceNe, Nat.reduceAdd, Nat.reduceSub, Nat.reduceLT, Nat.reduceLeDiff, Nat.reduceMul, Nat.reducePow, Nat.reduceBEq, Nat.reduceEqDiff, Int.reduceToNat, Bool.not_eq_true, Bool.not_true, Bool.not_false, Bool.not_eq_false, Bool.not_eq_eq_eq_not, reduceCtorEq, if_true, if_false, false_implies, Bool.false_eq_true, Bool.true_eq_false, and_self, not_true, not_false_iff, implies_true, forall_const, true_or, or_true, and_false, false_and, ge_iff_le, gt_iff_lt, cl_pairs, g_s, p_gT, p_gF, Bool.and_true, Bool.true_and, Bool.and_self, cl_ints, cl_bls, cl_oi, cl_ois, cl_row, cl_rows, cl_drow, cl_drows, cl_app, cl_lst, cl_cons, cl_nil, cl_int, cl_bl, cl_non, cl_str, cl_tup, fit, mfit, rt_pairs, sh_pairs, rt_bl, rt_non, rt_str, rt_tup, sh_non, sh_str, sh_tup, rt_ints, rt_oi, rt_ois, rt_row, rt_rows, rt_drow, rt_drows, rt_ref, rt_int, rt_cell, rt_cons, rt_nil, rt_lst, rt_app, p_gF, List.all_cons, List.all_nil, sh_ints, sh_oi, sh_ois, sh_row, sh_rows, sh_drow, sh_drows, sh_ref, sh_int, sh_bl, sh_cell, sh_cons, sh_nil, sh_lst, Nat.zero_add, Nat.add_zero]
  · rintro i hi e m' ⟨rfl, rfl⟩
    rw [rgi_len] at hi
    refine ⟨_, rfl, ?_⟩
    obtain ⟨w1, w2, w3⟩ := T.at (h := (i : Int)) (by omega) (by omega)
    rw [o_cons]
    simp (disch := decide) only [ev_00, fr_pair, fr_pairs, py_pair, py_pairs, ev_pair, ev_pairs, ev_pairs0, anyPr, p_minR, p_maxR, p_sumR, p_allR, p_anyR, p_sortedR, o_nil, o_ret, o_expr, o_set, o_asg, o_ife, o_setIx, o_aug, o_augIx, o_kill, o_pass, o_retN, seqP_nx, seqP_rt, o_var, o_int, o_bl, o_non, o_str, o_cst, o_bin, o_neg, o_cmp, o_chain, o_isN, o_notN, o_and, o_or, o_and1, o_or1, o_and2, o_or2, o_not, o_lst, o_tup, o_ix, o_slice, o_part0, o_part1, o_call, o_bi, o_isi, o_frz, o_isB, o_lrg, p_isB, p_lrg1, p_lrg2, o_rev, o_par, p_revL, p_revS, p_revR, ← List.map_reverse, o_mth0, o_mth, o_evs0, o_evs1, o_slst, o_stup, o_rng, o_enum, o_zip, o_enumT, o_lset, o_srtP, p_enumT, p_lset, p_srtP, p_listT, p_tupL, p_sliceT, p_divmod, p_var, v_0, v_s, p_add, p_addL, p_addT, p_sub, p_mul, p_mulL, p_div, p_mod, p_pow, p_neg, p_alF, p_alT, p_lst, p_tup, p_not, p_cmp, c_eq, c_ne, c_lt, c_gt, c_le, c_ge, c_in, c_nin, anyI, ev_ints0, ev_row0, ev_0ints, ev_ois0, p_isN, p_notN, p_ix, p_ixT, p_ixS, p_ixR, at_m, p_len, p_lenT, p_lenS, p_lenR, p_list, p_listS, p_listR, p_slice, p_allM, p_anyM, p_sumM, p_all, p_any, p_sum, p_max2, p_min2, p_remove, p_sorted, ints_snoc, ints_map, p_index, isl_l, py_drow, py_drows, ev_drow, ev_drows, fr_drow, fr_drows, p_sliceS, p_sliceR, p_src, p_srcS, p_srcT, p_srcR, src_l, src_f, p_rng1, p_rng2, p_enum, p_zip, p_app, p_pop, p_clear, p_rev, p_ext, p_ins, p_popAt, p_set, p_isi, p_frz, a_add, a_sub, a_mul, ixL, ixLR, cell_l, live_l, isl, py_int, py_bl, py_non, py_str, py_oi, py_lst, py_tup, py_scr, py_ints, py_bls, py_ois, py_row, py_rows, py_ref, ev_int, ev_bl, ev_str, ev_oi, ev_oI, ev_Io, ev_oN, ev_No, ev_ints, ev_row, ev_ois, ev_rows, non_oi, cut_map, ← List.map_take, ← List.map_drop, List.getElem?_cons_zero, List.getElem?_cons_succ, List.set_cons_zero, List.set_cons_succ, List.foldl_cons, List.foldl_nil, List.map_cons, List.map_nil, List.length_cons, List.length_nil, List.replicate, List.cons_append, List.nil_append, exists_eq_left, exists_eq_left', D.bl.injEq, D.int.injEq, D.tup.injEq, decide_eq_true_eq, decide_eq_false_iff_not, true_and, and_true, true_implies, List.length_map, fr_ref, fr_ints, fr_ois, fr_rows, fr_int, fr_lst, fr_row, fr_oi, fr_bl, fr_non, fr_cons, fr_nil, fr_tup, Fl.rt.injEq, Fl.nx.injEq, ex_neg, ex_neg', Bool.not_eq_true', Bool.not_eq_false', Bool.not_not, wipeE, omap_cons, omap_nil, at_0, at_1, at_2, oi_some, oi_none, oP_some, oP_none, Option.some.injEq, end_get, end_set, beq_self_eq_true, bne_self_eq_false, tn, tn0, tn1, fitL, mL, mR, nc, nc0, nc1, c_ltT, c_gtT, c_leT, ev_tup, ev_listc, ev_cons, ev_nil, ev_list0, ev_0list, c_inT, c_ninT, LIM, Int.zero_add, gc_id, Nat.le_refl, Option.map_some, Option.bind_some, isi_s, ty_int, ty_bl, ty_non, ty_lst, ty_tup, ty_str, ty_ref, ty_cl, ty_oi, isTy, Int.reduceLE, Int.reduceLT, Int.reducePow, Int.reduceAdd, Int.reduceSub, Int.reduceMul, Int.reduceNeg, Int.reduceEq, Int.reduceGT, Int.reduceGE, Int.reduceNe, Nat.reduceAdd, Nat.reduceSub, Nat.reduceLT, Nat.reduceLeDiff, Nat.reduceMul, Nat.reducePow, Nat.reduceBEq, Nat.reduceEqDiff, Int.reduceToNat, Bool.not_eq_true, Bool.not_true, Bool.not_false, Bool.not_eq_false, Bool.not_eq_eq_eq_not, reduceCtorEq, if_true, if_false, false_implies, Bool.false_eq_true, Bool.true_eq_false, and_self, not_true, not_false_iff, implies_true, forall_const, true_or, or_true, and_false, false_and, ge_iff_le, gt_iff_lt, cl_pairs, g_s, p_gT, p_gF, Bool.and_true, Bool.true_and, Bool.and_self, cl_ints, cl_bls, cl_oi, cl_ois, cl_row, cl_rows, cl_drow, cl_drows, cl_app, cl_lst, cl_cons, cl_nil, cl_int, cl_bl, cl_non, cl_str, cl_tup, fit, mfit, rt_pairs, sh_pairs, rt_bl, rt_non, rt_str, rt_tup, sh_non, sh_str, sh_tup, rt_ints, rt_oi, rt_ois, rt_row, rt_rows, rt_drow, rt_drows, rt_ref, rt_int, rt_cell, rt_cons, rt_nil, rt_lst, rt_app, p_gF, List.all_cons, List.all_nil, sh_ints, sh_oi, sh_ois, sh_row, sh_rows, sh_drow, sh_drows, sh_ref, sh_int, sh_bl, sh_cell, sh_cons, sh_nil, sh_lst, Nat.zero_add, Nat.add_zero, rgi_get, ks d f1 (i : Int) (i : Int) (by omega) (by omega)]
    rw [o_cons]
    refine o_for (xs := rgi 0 t.length) (f := D.int) 0 (fun j e m' => e = [some (.scr ns), some ((D.lst false (List.map (row false) t))), some ((D.lst false (List.map D.int (rgi 0 t.length)))), some ((D.lst false (List.map (row false) os))), none, some ((D.lst false (List.map oi d))), some (.lst false (ps.map pairD)), none, none, some (.int i), some (.int (seen t d i i)), none, none, none] ∧ m' = []) ?_ ?_ ?_
    · simp (disch := decide) only [ev_00, fr_pair, fr_pairs, py_pair, py_pairs, ev_pair, ev_pairs, ev_pairs0, anyPr, p_minR, p_maxR, p_sumR, p_allR, p_anyR, p_sortedR, o_nil, o_cons, o_ret, o_expr, o_set, o_asg, o_ife, o_setIx, o_aug, o_augIx, o_kill, o_pass, o_retN, seqP_nx, seqP_rt, o_var, o_int, o_bl, o_non, o_str, o_cst, o_bin, o_neg, o_cmp, o_chain, o_isN, o_notN, o_and, o_or, o_and1, o_or1, o_and2, o_or2, o_not, o_lst, o_tup, o_ix, o_slice, o_part0, o_part1, o_call, o_bi, o_isi, o_frz, o_isB, o_lrg, p_isB, p_lrg1, p_lrg2, o_rev, o_par, p_revL, p_revS, p_revR, ← List.map_reverse, o_mth0, o_mth, o_evs0, o_evs1, o_slst, o_stup, o_rng, o_enum, o_zip, o_enumT, o_lset, o_srtP, p_enumT, p_lset, p_srtP, p_listT, p_tupL, p_sliceT, p_divmod, p_var, v_0, v_s, p_add, p_addL, p_addT, p_sub, p_mul, p_mulL, p_div, p_mod, p_pow, p_neg, p_alF, p_alT, p_lst, p_tup, p_not, p_cmp, c_eq, c_ne, c_lt, c_gt, c_le, c_ge, c_in, c_nin, anyI, ev_ints0, ev_row0, ev_0ints, ev_ois0, p_isN, p_notN, p_ix, p_ixT, p_ixS, p_ixR, at_m, p_len, p_lenT, p_lenS, p_lenR, p_list, p_listS, p_listR, p_slice, p_allM, p_anyM, p_sumM, p_all, p_any, p_sum, p_max2, p_min2, p_remove, p_sorted, ints_snoc, ints_map, p_index, isl_l, py_drow, py_drows, ev_drow, ev_drows, fr_drow, fr_drows, p_sliceS, p_sliceR, p_src, p_srcS, p_srcT, p_srcR, src_l, src_f, p_rng1, p_rng2, p_enum, p_zip, p_app, p_pop, p_clear, p_rev, p_ext, p_ins, p_popAt, p_set, p_isi, p_frz, a_add, a_sub, a_mul, ixL, ixLR, cell_l, live_l, isl, py_int, py_bl, py_non, py_str, py_oi, py_lst, py_tup, py_scr, py_ints, py_bls, py_ois, py_row, py_rows, py_ref, ev_int, ev_bl, ev_str, ev_oi, ev_oI, ev_Io, ev_oN, ev_No, ev_ints, ev_row, ev_ois, ev_rows, non_oi, cut_map, ← List.map_take, ← List.map_drop, List.getElem?_cons_zero, List.getElem?_cons_succ, List.set_cons_zero, List.set_cons_succ, List.foldl_cons, List.foldl_nil, List.map_cons, List.map_nil, List.length_cons, List.length_nil, List.replicate, List.cons_append, List.nil_append, exists_eq_left, exists_eq_left', D.bl.injEq, D.int.injEq, D.tup.injEq, decide_eq_true_eq, decide_eq_false_iff_not, true_and, and_true, true_implies, List.length_map, fr_ref, fr_ints, fr_ois, fr_rows, fr_int, fr_lst, fr_row, fr_oi, fr_bl, fr_non, fr_cons, fr_nil, fr_tup, Fl.rt.injEq, Fl.nx.injEq, ex_neg, ex_neg', Bool.not_eq_true', Bool.not_eq_false', Bool.not_not, wipeE, omap_cons, omap_nil, at_0, at_1, at_2, oi_some, oi_none, oP_some, oP_none, Option.some.injEq, end_get, end_set, beq_self_eq_true, bne_self_eq_false, tn, tn0, tn1, fitL, mL, mR, nc, nc0, nc1, c_ltT, c_gtT, c_leT, ev_tup, ev_listc, ev_cons, ev_nil, ev_list0, ev_0list, c_inT, c_ninT, LIM, Int.zero_add, gc_id, Nat.le_refl, Option.map_some, Option.bind_some, isi_s, ty_int, ty_bl, ty_non, ty_lst, ty_tup, ty_str, ty_ref, ty_cl, ty_oi, isTy, Int.reduceLE, Int.reduceLT, Int.reducePow, Int.reduceAdd, Int.reduceSub, Int.reduceMul, Int.reduceNeg, Int.reduceEq, Int.reduceGT, Int.reduceGE, Int.reduceNe, Nat.reduceAdd, Nat.reduceSub, Nat.reduceLT, Nat.reduceLeDiff, Nat.reduceMul, Nat.reducePow, Nat.reduceBEq, Nat.reduceEqDiff, Int.reduceToNat, Bool.not_eq_true, Bool.not_true, Bool.not_false, Bool.not_eq_false, Bool.not_eq_eq_eq_not, reduceCtorEq, if_true, if_false, false_implies, Bool.false_eq_true, Bool.true_eq_false, and_self, not_true, not_false_iff, implies_true, forall_const, true_or, or_true, and_false, false_and, ge_iff_le, gt_iff_lt, cl_pairs, g_s, p_gT, p_gF, Bool.and_true, Bool.true_and, Bool.and_self, cl_ints, cl_bls, cl_oi, cl_ois, cl_row, cl_rows, cl_drow, cl_drows, cl_app, cl_lst, cl_cons, cl_nil, cl_int, cl_bl, cl_non, cl_str, cl_tup, fit, mfit, rt_pairs, sh_pairs, rt_bl, rt_non, rt_str, rt_tup, sh_non, sh_str, sh_tup, rt_ints, rt_oi, rt_ois, rt_row, rt_rows, rt_drow, rt_drows, rt_ref, rt_int, rt_cell, rt_cons, rt_nil, rt_lst, rt_app, p_gF, List.all_cons, List.all_nil, sh_ints, sh_oi, sh_ois, sh_row, sh_rows, sh_drow, sh_drows, sh_ref, sh_int, sh_bl, sh_cell, sh_cons, sh_nil, sh_lst, Nat.zero_add, Nat.add_zero]
    · rintro j hj e m' ⟨rfl, rfl⟩
      rw [rgi_len] at hj
      refine ⟨_, rfl, ?_⟩
      have own := fun h => (H.own i j (by omega) (by omega) h 0 (.inl rfl)).2
      rw [Int.mul_zero] at own
      rw [o_cons]
      simp (disch := decide) only [ev_00, fr_pair, fr_pairs, py_pair, py_pairs, ev_pair, ev_pairs, ev_pairs0, anyPr, p_minR, p_maxR, p_sumR, p_allR, p_anyR, p_sortedR, o_nil, o_ret, o_expr, o_set, o_asg, o_ife, o_setIx, o_aug, o_augIx, o_kill, o_pass, o_retN, seqP_nx, seqP_rt, o_var, o_int, o_bl, o_non, o_str, o_cst, o_bin, o_neg, o_cmp, o_chain, o_isN, o_notN, o_and, o_or, o_and1, o_or1, o_and2, o_or2, o_not, o_lst, o_tup, o_ix, o_slice, o_part0, o_part1, o_call, o_bi, o_isi, o_frz, o_isB, o_lrg, p_isB, p_lrg1, p_lrg2, o_rev, o_par, p_revL, p_revS, p_revR, ← List.map_reverse, o_mth0, o_mth, o_evs0, o_evs1, o_slst, o_stup, o_rng, o_enum, o_zip, o_enumT, o_lset, o_srtP, p_enumT, p_lset, p_srtP, p_listT, p_tupL, p_sliceT, p_divmod, p_var, v_0, v_s, p_add, p_addL, p_addT, p_sub, p_mul, p_mulL, p_div, p_mod, p_pow, p_neg, p_alF, p_alT, p_lst, p_tup, p_not, p_cmp, c_eq, c_ne, c_lt, c_gt, c_le, c_ge, c_in, c_nin, anyI, ev_ints0, ev_row0, ev_0ints, ev_ois0, p_isN, p_notN, p_ix, p_ixT, p_ixS, p_ixR, at_m, p_len, p_lenT, p_lenS, p_lenR, p_list, p_listS, p_listR, p_slice, p_allM, p_anyM, p_sumM, p_all, p_any, p_sum, p_max2, p_min2, p_remove, p_sorted, ints_snoc, ints_map, p_index, isl_l, py_drow, py_drows, ev_drow, ev_drows, fr_drow, fr_drows, p_sliceS, p_sliceR, p_src, p_srcS, p_srcT, p_srcR, src_l, src_f, p_rng1, p_rng2, p_enum, p_zip, p_app, p_pop, p_clear, p_rev, p_ext, p_ins, p_popAt, p_set, p_isi, p_frz, a_add, a_sub, a_mul, ixL, ixLR, cell_l, live_l, isl, py_int, py_bl, py_non, py_str, py_oi, py_lst, py_tup, py_scr, py_ints, py_bls, py_ois, py_row, py_rows, py_ref, ev_int, ev_bl, ev_str, ev_oi, ev_oI, ev_Io, ev_oN, ev_No, ev_ints, ev_row, ev_ois, ev_rows, non_oi, cut_map, ← List.map_take, ← List.map_drop, List.getElem?_cons_zero, List.getElem?_cons_succ, List.set_cons_zero, List.set_cons_succ, List.foldl_cons, List.foldl_nil, List.map_cons, List.map_nil, List.length_cons, List.length_nil, List.replicate, List.cons_append, List.nil_append, exists_eq_left, exists_eq_left', D.bl.injEq, D.int.injEq, D.tup.injEq, decide_eq_true_eq, decide_eq_false_iff_not, true_and, and_true, true_implies, List.length_map, fr_ref, fr_ints, fr_ois, fr_rows, fr_int, fr_lst, fr_row, fr_oi, fr_bl, fr_non, fr_cons, fr_nil, fr_tup, Fl.rt.injEq, Fl.nx.injEq, ex_neg, ex_neg', Bool.not_eq_true', Bool.not_eq_false', Bool.not_not, wipeE, omap_cons, omap_nil, at_0, at_1, at_2, oi_some, oi_none, oP_some, oP_none, Option.some.injEq, end_get, end_set, beq_self_eq_true, bne_self_eq_false, tn, tn0, tn1, fitL, mL, mR, nc, nc0, nc1, c_ltT, c_gtT, c_leT, ev_tup, ev_listc, ev_cons, ev_nil, ev_list0, ev_0list, c_inT, c_ninT, LIM, Int.zero_add, gc_id, Nat.le_refl, Option.map_some, Option.bind_some, isi_s, ty_int, ty_bl, ty_non, ty_lst, ty_tup, ty_str, ty_ref, ty_cl, ty_oi, isTy, Int.reduceLE, Int.reduceLT, Int.reducePow, Int.reduceAdd, Int.reduceSub, Int.reduceMul, Int.reduceNeg, Int.reduceEq, Int.reduceGT, Int.reduceGE, Int.reduceNe, Nat.reduceAdd, Nat.reduceSub, Nat.reduceLT, Nat.reduceLeDiff, Nat.reduceMul, Nat.reducePow, Nat.reduceBEq, Nat.reduceEqDiff, Int.reduceToNat, Bool.not_eq_true, Bool.not_true, Bool.not_false, Bool.not_eq_false, Bool.not_eq_eq_eq_not, reduceCtorEq, if_true, if_false, false_implies, Bool.false_eq_true, Bool.true_eq_false, and_self, not_true, not_false_iff, implies_true, forall_const, true_or, or_true, and_false, false_and, ge_iff_le, gt_iff_lt, cl_pairs, g_s, p_gT, p_gF, Bool.and_true, Bool.true_and, Bool.and_self, cl_ints, cl_bls, cl_oi, cl_ois, cl_row, cl_rows, cl_drow, cl_drows, cl_app, cl_lst, cl_cons, cl_nil, cl_int, cl_bl, cl_non, cl_str, cl_tup, fit, mfit, rt_pairs, sh_pairs, rt_bl, rt_non, rt_str, rt_tup, sh_non, sh_str, sh_tup, rt_ints, rt_oi, rt_ois, rt_row, rt_rows, rt_drow, rt_drows, rt_ref, rt_int, rt_cell, rt_cons, rt_nil, rt_lst, rt_app, p_gF, List.all_cons, List.all_nil, sh_ints, sh_oi, sh_ois, sh_row, sh_rows, sh_drow, sh_drows, sh_ref, sh_int, sh_bl, sh_cell, sh_cons, sh_nil, sh_lst, Nat.zero_add, Nat.add_zero, rgi_get, ks d f1 (i : Int) (j : Int) (by omega) (by omega)]
      refine o_map (xs := (firstOf ps j).toList) (f := D.int) (fun x => .int (pick (rowAt t i) x)) ?_ ?_ ?_
      · simp (disch := decide) only [ev_00, fr_pair, fr_pairs, py_pair, py_pairs, ev_pair, ev_pairs, ev_pairs0, anyPr, p_minR, p_maxR, p_sumR, p_allR, p_anyR, p_sortedR, o_nil, o_cons, o_ret, o_expr, o_set, o_asg, o_ife, o_setIx, o_aug, o_augIx, o_kill, o_pass, o_retN, seqP_nx, seqP_rt, o_var, o_int, o_bl, o_non, o_str, o_cst, o_bin, o_neg, o_cmp, o_chain, o_isN, o_notN, o_and, o_or, o_and1, o_or1, o_and2, o_or2, o_not, o_lst, o_tup, o_ix, o_slice, o_part0, o_part1, o_call, o_bi, o_isi, o_frz, o_isB, o_lrg, p_isB, p_lrg1, p_lrg2, o_rev, o_par, p_revL, p_revS, p_revR, ← List.map_reverse, o_mth0, o_mth, o_evs0, o_evs1, o_slst, o_stup, o_rng, o_enum, o_zip, o_enumT, o_lset, o_srtP, p_enumT, p_lset, p_srtP, p_listT, p_tupL, p_sliceT, p_divmod, p_var, v_0, v_s, p_add, p_addL, p_addT, p_sub, p_mul, p_mulL, p_div, p_mod, p_pow, p_neg, p_alF, p_alT, p_lst, p_tup, p_not, p_cmp, c_eq, c_ne, c_lt, c_gt, c_le, c_ge, c_in, c_nin, anyI, ev_ints0, ev_row0, ev_0ints, ev_ois0, p_isN, p_notN, p_ix, p_ixT, p_ixS, p_ixR, at_m, p_len, p_lenT, p_lenS, p_lenR, p_list, p_listS, p_listR, p_slice, p_allM, p_anyM, p_sumM, p_all, p_any, p_sum, p_max2, p_min2, p_remove, p_sorted, ints_snoc, ints_map, p_index, isl_l, py_drow, py_drows, ev_drow, ev_drows, fr_drow, fr_drows, p_sliceS, p_sliceR, p_src, p_srcS, p_srcT, p_srcR, src_l, src_f, p_rng1, p_rng2, p_enum, p_zip, p_app, p_pop, p_clear, p_rev, p_ext, p_ins, p_popAt, p_set, p_isi, p_frz, a_add, a_sub, a_mul, ixL, ixLR, cell_l, live_l, isl, py_int, py_bl, py_non, py_str, py_oi, py_lst, py_tup, py_scr, py_ints, py_bls, py_ois, py_row, py_rows, py_ref, ev_int, ev_bl, ev_str, ev_oi, ev_oI, ev_Io, ev_oN, ev_No, ev_ints, ev_row, ev_ois, ev_rows, non_oi, cut_map, ← List.map_take, ← List.map_drop, List.getElem?_cons_zero, List.getElem?_cons_succ, List.set_cons_zero, List.set_cons_succ, List.foldl_cons, List.foldl_nil, List.map_cons, List.map_nil, List.length_cons, List.length_nil, List.replicate, List.cons_append, List.nil_append, exists_eq_left, exists_eq_left', D.bl.injEq, D.int.injEq, D.tup.injEq, decide_eq_true_eq, decide_eq_false_iff_not, true_and, and_true, true_implies, List.length_map, fr_ref, fr_ints, fr_ois, fr_rows, fr_int, fr_lst, fr_row, fr_oi, fr_bl, fr_non, fr_cons, fr_nil, fr_tup, Fl.rt.injEq, Fl.nx.injEq, ex_neg, ex_neg', Bool.not_eq_true', Bool.not_eq_false', Bool.not_not, wipeE, omap_cons, omap_nil, at_0, at_1, at_2, oi_some, oi_none, oP_some, oP_none, Option.some.injEq, end_get, end_set, beq_self_eq_true, bne_self_eq_false, tn, tn0, tn1, fitL, mL, mR, nc, nc0, nc1, c_ltT, c_gtT, c_leT, ev_tup, ev_listc, ev_cons, ev_nil, ev_list0, ev_0list, c_inT, c_ninT, LIM, Int.zero_add, gc_id, Nat.le_refl, Option.map_some, Option.bind_some, isi_s, ty_int, ty_bl, ty_non, ty_lst, ty_tup, ty_str, ty_ref, ty_cl, ty_oi, isTy, Int.reduceLE, Int.reduceLT, Int.reducePow, Int.reduceAdd, Int.reduceSub, Int.reduceMul, Int.reduceNeg, Int.reduceEq, Int.reduceGT, Int.reduceGE, Int.reduceNe, Nat.reduceAdd, Nat.reduceSub, Nat.reduceLT, Nat.reduceLeDiff, Nat.reduceMul, Nat.reducePow, Nat.reduceBEq, Nat.reduceEqDiff, Int.reduceToNat, Bool.not_eq_true, Bool.not_true, Bool.not_false, Bool.not_eq_false, Bool.not_eq_eq_eq_not, reduceCtorEq, if_true, if_false, false_implies, Bool.false_eq_true, Bool.true_eq_false, and_self, not_true, not_false_iff, implies_true, forall_const, true_or, or_true, and_false, false_and, ge_iff_le, gt_iff_lt, cl_pairs, g_s, p_gT, p_gF, Bool.and_true, Bool.true_and, Bool.and_self, cl_ints, cl_bls, cl_oi, cl_ois, cl_row, cl_rows, cl_drow, cl_drows, cl_app, cl_lst, cl_cons, cl_nil, cl_int, cl_bl, cl_non, cl_str, cl_tup, fit, mfit, rt_pairs, sh_pairs, rt_bl, rt_non, rt_str, rt_tup, sh_non, sh_str, sh_tup, rt_ints, rt_oi, rt_ois, rt_row, rt_rows, rt_drow, rt_drows, rt_ref, rt_int, rt_cell, rt_cons, rt_nil, rt_lst, rt_app, p_gF, List.all_cons, List.all_nil, sh_ints, sh_oi, sh_ois, sh_row, sh_rows, sh_drow, sh_drows, sh_ref, sh_int, sh_bl, sh_cell, sh_cons, sh_nil, sh_lst, Nat.zero_add, Nat.add_zero, kf]
        cases firstOf ps j <;> simp
      · intro k hk
        have hx : (firstOf ps j).toList[k] ∈ (firstOf ps j).toList := List.getElem_mem hk
        generalize (firstOf ps j).toList[k] = x at hx ⊢
        have hx2 : firstOf ps j = some x := by
          cases e : firstOf ps j with
          | none =>
            rw [e] at hx
            cases hx
          | some y =>
            rw [e] at hx
            rw [List.mem_singleton.mp hx]
        have hx3 := heap_mem (H.one j x hx2).2
        refine ⟨_, rfl, ?_⟩
        simp (disch := decide) only [ev_00, fr_pair, fr_pairs, py_pair, py_pairs, ev_pair, ev_pairs, ev_pairs0, anyPr, p_minR, p_maxR, p_sumR, p_allR, p_anyR, p_sortedR, o_nil, o_cons, o_ret, o_expr, o_set, o_asg, o_ife, o_setIx, o_aug, o_augIx, o_kill, o_pass, o_retN, seqP_nx, seqP_rt, o_var, o_int, o_bl, o_non, o_str, o_cst, o_bin, o_neg, o_cmp, o_chain, o_isN, o_notN, o_and, o_or, o_and1, o_or1, o_and2, o_or2, o_not, o_lst, o_tup, o_ix, o_slice, o_part0, o_part1, o_call, o_bi, o_isi, o_frz, o_isB, o_lrg, p_isB, p_lrg1, p_lrg2, o_rev, o_par, p_revL, p_revS, p_revR, ← List.map_reverse, o_mth0, o_mth, o_evs0, o_evs1, o_slst, o_stup, o_rng, o_enum, o_zip, o_enumT, o_lset, o_srtP, p_enumT, p_lset, p_srtP, p_listT, p_tupL, p_sliceT, p_divmod, p_var, v_0, v_s, p_add, p_addL, p_addT, p_sub, p_mul, p_mulL, p_div, p_mod, p_pow, p_neg, p_alF, p_alT, p_lst, p_tup, p_not, p_cmp, c_eq, c_ne, c_lt, c_gt, c_le, c_ge, c_in, c_nin, anyI, ev_ints0, ev_row0, ev_0ints, ev_ois0, p_isN, p_notN, p_ix, p_ixT, p_ixS, p_ixR, at_m, p_len, p_lenT, p_lenS, p_lenR, p_list, p_listS, p_listR, p_slice, p_allM, p_anyM, p_sumM, p_all, p_any, p_sum, p_max2, p_min2, p_remove, p_sorted, ints_snoc, ints_map, p_index, isl_l, py_drow, py_drows, ev_drow, ev_drows, fr_drow, fr_drows, p_sliceS, p_sliceR, p_src, p_srcS, p_srcT, p_srcR, src_l, src_f, p_rng1, p_rng2, p_enum, p_zip, p_app, p_pop, p_clear, p_rev, p_ext, p_ins, p_popAt, p_set, p_isi, p_frz, a_add, a_sub, a_mul, ixL, ixLR, cell_l, live_l, isl, py_int, py_bl, py_non, py_str, py_oi, py_lst, py_tup, py_scr, py_ints, py_bls, py_ois, py_row, py_rows, py_ref, ev_int, ev_bl, ev_str, ev_oi, ev_oI, ev_Io, ev_oN, ev_No, ev_ints, ev_row, ev_ois, ev_rows, non_oi, cut_map, ← List.map_take, ← List.map_drop, List.getElem?_cons_zero, List.getElem?_cons_succ, List.set_cons_zero, List.set_cons_succ, List.foldl_cons, List.foldl_nil, List.map_cons, List.map_nil, List.length_cons, List.length_nil, List.replicate, List.cons_append, List.nil_append, exists_eq_left, exists_eq_left', D.bl.injEq, D.int.injEq, D.tup.injEq, decide_eq_true_eq, decide_eq_false_iff_not, true_and, and_true, true_implies, List.length_map, fr_ref, fr_ints, fr_ois, fr_rows, fr_int, fr_lst, fr_row, fr_oi, fr_bl, fr_non, fr_cons, fr_nil, fr_tup, Fl.rt.injEq, Fl.nx.injEq, ex_neg, ex_neg', Bool.not_eq_true', Bool.not_eq_false', Bool.not_not, wipeE, omap_cons, omap_nil, at_0, at_1, at_2, oi_some, oi_none, oP_some, oP_none, Option.some.injEq, end_get, end_set, beq_self_eq_true, bne_self_eq_false, tn, tn0, tn1, fitL, mL, mR, nc, nc0, nc1, c_ltT, c_gtT, c_leT, ev_tup, ev_listc, ev_cons, ev_nil, ev_list0, ev_0list, c_inT, c_ninT, LIM, Int.zero_add, gc_id, Nat.le_refl, Option.map_some, Option.bind_some, isi_s, ty_int, ty_bl, ty_non, ty_lst, ty_tup, ty_str, ty_ref, ty_cl, ty_oi, isTy, Int.reduceLE, Int.reduceLT, Int.reducePow, Int.reduceAdd, Int.reduceSub, Int.reduceMul, Int.reduceNeg, Int.reduceEq, Int.reduceGT, Int.reduceGE, Int.reduceNe, Nat.reduceAdd, Nat.reduceSub, Nat.reduceLT, Nat.reduceLeDiff, Nat.reduceMul, Nat.reducePow, Nat.reduceBEq, Nat.reduceEqDiff, Int.reduceToNat, Bool.not_eq_true, Bool.not_true, Bool.not_false, Bool.not_eq_false, Bool.not_eq_eq_eq_not, reduceCtorEq, if_true, if_false, false_implies, Bool.false_eq_true, Bool.true_eq_false, and_self, not_true, not_false_iff, implies_true, forall_const, true_or, or_true, and_false, false_and, ge_iff_le, gt_iff_lt, cl_pairs, g_s, p_gT, p_gF, Bool.and_true, Bool.true_and, Bool.and_self, cl_ints, cl_bls, cl_oi, cl_ois, cl_row, cl_rows, cl_drow, cl_drows, cl_app, cl_lst, cl_cons, cl_nil, cl_int, cl_bl, cl_non, cl_str, cl_tup, fit, mfit, rt_pairs, sh_pairs, rt_bl, rt_non, rt_str, rt_tup, sh_non, sh_str, sh_tup, rt_ints, rt_oi, rt_ois, rt_row, rt_rows, rt_drow, rt_drows, rt_ref, rt_int, rt_cell, rt_cons, rt_nil, rt_lst, rt_app, p_gF, List.all_cons, List.all_nil, sh_ints, sh_oi, sh_ois, sh_row, sh_rows, sh_drow, sh_drows, sh_ref, sh_int, sh_bl, sh_cell, sh_cons, sh_nil, sh_lst, Nat.zero_add, Nat.add_zero, w1]
        simp (disch := decide) only [ev_00, fr_pair, fr_pairs, py_pair, py_pairs, ev_pair, ev_pairs, ev_pairs0, anyPr, p_minR, p_maxR, p_sumR, p_allR, p_anyR, p_sortedR, o_nil, o_cons, o_ret, o_expr, o_set, o_asg, o_ife, o_setIx, o_aug, o_augIx, o_kill, o_pass, o_retN, seqP_nx, seqP_rt, o_var, o_int, o_bl, o_non, o_str, o_cst, o_bin, o_neg, o_cmp, o_chain, o_isN, o_notN, o_and, o_or, o_and1, o_or1, o_and2, o_or2, o_not, o_lst, o_tup, o_ix, o_slice, o_part0, o_part1, o_call, o_bi, o_isi, o_frz, o_isB, o_lrg, p_isB, p_lrg1, p_lrg2, o_rev, o_par, p_revL, p_revS, p_revR, ← List.map_reverse, o_mth0, o_mth, o_evs0, o_evs1, o_slst, o_stup, o_rng, o_enum, o_zip, o_enumT, o_lset, o_srtP, p_enumT, p_lset, p_srtP, p_listT, p_tupL, p_sliceT, p_divmod, p_var, v_0, v_s, p_add, p_addL, p_addT, p_sub, p_mul, p_mulL, p_div, p_mod, p_pow, p_neg, p_alF, p_alT, p_lst, p_tup, p_not, p_cmp, c_eq, c_ne, c_lt, c_gt, c_le, c_ge, c_in, c_nin, anyI, ev_ints0, ev_row0, ev_0ints, ev_ois0, p_isN, p_notN, p_ix, p_ixT, p_ixS, p_ixR, at_m, p_len, p_lenT, p_lenS, p_lenR, p_list, p_listS, p_listR, p_slice, p_allM, p_anyM, p_sumM, p_all, p_any, p_sum, p_max2, p_min2, p_remove, p_sorted, ints_snoc, ints_map, p_index, isl_l, py_drow, py_drows, ev_drow, ev_drows, fr_drow, fr_drows, p_sliceS, p_sliceR, p_src, p_srcS, p_srcT, p_srcR, src_l, src_f, p_rng1, p_rng2, p_enum, p_zip, p_app, p_pop, p_clear, p_rev, p_ext, p_ins, p_popAt, p_set, p_isi, p_frz, a_add, a_sub, a_mul, ixL, ixLR, cell_l, live_l, isl, py_int, py_bl, py_non, py_str, py_oi, py_lst, py_tup, py_scr, py_ints, py_bls, py_ois, py_row, py_rows, py_ref, ev_int, ev_bl, ev_str, ev_oi, ev_oI, ev_Io, ev_oN, ev_No, ev_ints, ev_row, ev_ois, ev_rows, non_oi, cut_map, ← List.map_take, ← List.map_drop, List.getElem?_cons_zero, List.getElem?_cons_succ, List.set_cons_zero, List.set_cons_succ, List.foldl_cons, List.foldl_nil, List.map_cons, List.map_nil, List.length_cons, List.length_nil, List.replicate, List.cons_append, List.nil_append, exists_eq_left, exists_eq_left', D.bl.injEq, D.int.injEq, D.tup.injEq, decide_eq_true_eq, decide_eq_false_iff_not, true_and, and_true, true_implies, List.length_map, fr_ref, fr_ints, fr_ois, fr_rows, fr_int, fr_lst, fr_row, fr_oi, fr_bl, fr_non, fr_cons, fr_nil, fr_tup, Fl.rt.injEq, Fl.nx.injEq, ex_neg, ex_neg', Bool.not_eq_true', Bool.not_eq_false', Bool.not_not, wipeE, omap_cons, omap_nil, at_0, at_1, at_2, oi_some, oi_none, oP_some, oP_none, Option.some.injEq, end_get, end_set, beq_self_eq_true, bne_self_eq_false, tn, tn0, tn1, fitL, mL, mR, nc, nc0, nc1, c_ltT, c_gtT, c_leT, ev_tup, ev_listc, ev_cons, ev_nil, ev_list0, ev_0list, c_inT, c_ninT, LIM, Int.zero_add, gc_id, Nat.le_refl, Option.map_some, Option.bind_some, isi_s, ty_int, ty_bl, ty_non, ty_lst, ty_tup, ty_str, ty_ref, ty_cl, ty_oi, isTy, Int.reduceLE, Int.reduceLT, Int.reducePow, Int.reduceAdd, Int.reduceSub, Int.reduceMul, Int.reduceNeg, Int.reduceEq, Int.reduceGT, Int.reduceGE, Int.reduceNe, Nat.reduceAdd, Nat.reduceSub, Nat.reduceLT, Nat.reduceLeDiff, Nat.reduceMul, Nat.reducePow, Nat.reduceBEq, Nat.reduceEqDiff, Int.reduceToNat, Bool.not_eq_true, Bool.not_true, Bool.not_false, Bool.not_eq_false, Bool.not_eq_eq_eq_not, reduceCtorEq, if_true, if_false, false_implies, Bool.false_eq_true, Bool.true_eq_false, and_self, not_true, not_false_iff, implies_true, forall_const, true_or, or_true, and_false, false_and, ge_iff_le, gt_iff_lt, cl_pairs, g_s, p_gT, p_gF, Bool.and_true, Bool.true_and, Bool.and_self, cl_ints, cl_bls, cl_oi, cl_ois, cl_row, cl_rows, cl_drow, cl_drows, cl_app, cl_lst, cl_cons, cl_nil, cl_int, cl_bl, cl_non, cl_str, cl_tup, fit, mfit, rt_pairs, sh_pairs, rt_bl, rt_non, rt_str, rt_tup, sh_non, sh_str, sh_tup, rt_ints, rt_oi, rt_ois, rt_row, rt_rows, rt_drow, rt_drows, rt_ref, rt_int, rt_cell, rt_cons, rt_nil, rt_lst, rt_app, p_gF, List.all_cons, List.all_nil, sh_ints, sh_oi, sh_ois, sh_row, sh_rows, sh_drow, sh_drows, sh_ref, sh_int, sh_bl, sh_cell, sh_cons, sh_nil, sh_lst, Nat.zero_add, Nat.add_zero, row]
        exact ⟨_, pick_at (by omega) (by omega), rfl⟩
      have es : (((firstOf ps j).toList).map (pick (rowAt t i))).sum = fstV t i (firstOf ps j) := by
        cases firstOf ps j <;> simp [fstV]
      rw [show (firstOf ps j).toList.map (fun x => D.int (pick (rowAt t i) x)) = ((firstOf ps j).toList.map (pick (rowAt t i))).map D.int by rw [List.map_map]; rfl]
      simp (disch := decide) only [ev_00, fr_pair, fr_pairs, py_pair, py_pairs, ev_pair, ev_pairs, ev_pairs0, anyPr, p_minR, p_maxR, p_sumR, p_allR, p_anyR, p_sortedR, o_nil, o_cons, o_ret, o_expr, o_set, o_asg, o_ife, o_setIx, o_aug, o_augIx, o_kill, o_pass, o_retN, seqP_nx, seqP_rt, o_var, o_int, o_bl, o_non, o_str, o_cst, o_bin, o_neg, o_cmp, o_chain, o_isN, o_notN, o_and, o_or, o_and1, o_or1, o_and2, o_or2, o_not, o_lst, o_tup, o_ix, o_slice, o_part0, o_part1, o_call, o_bi, o_isi, o_frz, o_isB, o_lrg, p_isB, p_lrg1, p_lrg2, o_rev, o_par, p_revL, p_revS, p_revR, ← List.map_reverse, o_mth0, o_mth, o_evs0, o_evs1, o_slst, o_stup, o_rng, o_enum, o_zip, o_enumT, o_lset, o_srtP, p_enumT, p_lset, p_srtP, p_listT, p_tupL, p_sliceT, p_divmod, p_var, v_0, v_s, p_add, p_addL, p_addT, p_sub, p_mul, p_mulL, p_div, p_mod, p_pow, p_neg, p_alF, p_alT, p_lst, p_tup, p_not, p_cmp, c_eq, c_ne, c_lt, c_gt, c_le, c_ge, c_in, c_nin, anyI, ev_ints0, ev_row0, ev_0ints, ev_ois0, p_isN, p_notN, p_ix, p_ixT, p_ixS, p_ixR, at_m, p_len, p_lenT, p_lenS, p_lenR, p_list, p_listS, p_listR, p_slice, p_allM, p_anyM, p_sumM, p_all, p_any, p_sum, p_max2, p_min2, p_remove, p_sorted, ints_snoc, ints_map, p_index, isl_l, py_drow, py_drows, ev_drow, ev_drows, fr_drow, fr_drows, p_sliceS, p_sliceR, p_src, p_srcS, p_srcT, p_srcR, src_l, src_f, p_rng1, p_rng2, p_enum, p_zip, p_app, p_pop, p_clear, p_rev, p_ext, p_ins, p_popAt, p_set, p_isi, p_frz, a_add, a_sub, a_mul, ixL, ixLR, cell_l, live_l, isl, py_int, py_bl, py_non, py_str, py_oi, py_lst, py_tup, py_scr, py_ints, py_bls, py_ois, py_row, py_rows, py_ref, ev_int, ev_bl, ev_str, ev_oi, ev_oI, ev_Io, ev_oN, ev_No, ev_ints, ev_row, ev_ois, ev_rows, non_oi, cut_map, ← List.map_take, ← List.map_drop, List.getElem?_cons_zero, List.getElem?_cons_succ, List.set_cons_zero, List.set_cons_succ, List.foldl_cons, List.foldl_nil, List.map_cons, List.map_nil, List.length_cons, List.length_nil, List.replicate, List.cons_append, List.nil_append, exists_eq_left, exists_eq_left', D.bl.injEq, D.int.injEq, D.tup.injEq, decide_eq_true_eq, decide_eq_false_iff_not, true_and, and_true, true_implies, List.length_map, fr_ref, fr_ints, fr_ois, fr_rows, fr_int, fr_lst, fr_row, fr_oi, fr_bl, fr_non, fr_cons, fr_nil, fr_tup, Fl.rt.injEq, Fl.nx.injEq, ex_neg, ex_neg', Bool.not_eq_true', Bool.not_eq_false', Bool.not_not, wipeE, omap_cons, omap_nil, at_0, at_1, at_2, oi_some, oi_none, oP_some, oP_none, Option.some.injEq, end_get, end_set, beq_self_eq_true, bne_self_eq_false, tn, tn0, tn1, fitL, mL, mR, nc, nc0, nc1, c_ltT, c_gtT, c_leT, ev_tup, ev_listc, ev_cons, ev_nil, ev_list0, ev_0list, c_inT, c_ninT, LIM, Int.zero_add, gc_id, Nat.le_refl, Option.map_some, Option.bind_some, isi_s, ty_int, ty_bl, ty_non, ty_lst, ty_tup, ty_str, ty_ref, ty_cl, ty_oi, isTy, Int.reduceLE, Int.reduceLT, Int.reducePow, Int.reduceAdd, Int.reduceSub, Int.reduceMul, Int.reduceNeg, Int.reduceEq, Int.reduceGT, Int.reduceGE, Int.reduceNe, Nat.reduceAdd, Nat.reduceSub, Nat.reduceLT, Nat.reduceLeDiff, Nat.reduceMul, Nat.reducePow, Nat.reduceBEq, Nat.reduceEqDiff, Int.reduceToNat, Bool.not_eq_true, Bool.not_true, Bool.not_false, Bool.not_eq_false, Bool.not_eq_eq_eq_not, reduceCtorEq, if_true, if_false, false_implies, Bool.false_eq_true, Bool.true_eq_false, and_self, not_true, not_false_iff, implies_true, forall_const, true_or, or_true, and_false, false_and, ge_iff_le, gt_iff_lt, cl_pairs, g_s, p_gT, p_gF, Bool.and_true, Bool.true_and, Bool.and_self, cl_ints, cl_bls, cl_oi, cl_ois, cl_row, cl_rows, cl_drow, cl_drows, cl_app, cl_lst, cl_cons, cl_nil, cl_int, cl_bl, cl_non, cl_str, cl_tup, fit, mfit, rt_pairs, sh_pairs, rt_bl, rt_non, rt_str, rt_tup, sh_non, sh_str, sh_tup, rt_ints, rt_oi, rt_ois, rt_row, rt_rows, rt_drow, rt_drows, rt_ref, rt_int, rt_cell, rt_cons, rt_nil, rt_lst, rt_app, p_gF, List.all_cons, List.all_nil, sh_ints, sh_oi, sh_ois, sh_row, sh_rows, sh_drow, sh_drows, sh_ref, sh_int, sh_bl, sh_cell, sh_cons, sh_nil, sh_lst, Nat.zero_add, Nat.add_zero, es]
      intro h1 h2
      have := own (fun e => h1 e.symm)
      omega
    · rintro e m' ⟨rfl, rfl⟩
      simp (disch := decide) only [ev_00, fr_pair, fr_pairs, py_pair, py_pairs, ev_pair, ev_pairs, ev_pairs0, anyPr, p_minR, p_maxR, p_sumR, p_allR, p_anyR, p_sortedR, o_nil, o_cons, o_ret, o_expr, o_set, o_asg, o_ife, o_setIx, o_aug, o_augIx, o_kill, o_pass, o_retN, seqP_nx, seqP_rt, o_var, o_int, o_bl, o_non, o_str, o_cst, o_bin, o_neg, o_cmp, o_chain, o_isN, o_notN, o_and, o_or, o_and1, o_or1, o_and2, o_or2, o_not, o_lst, o_tup, o_ix, o_slice, o_part0, o_part1, o_call, o_bi, o_isi, o_frz, o_isB, o_lrg, p_isB, p_lrg1, p_lrg2, o_rev, o_par, p_revL, p_revS, p_revR, ← List.map_reverse, o_mth0, o_mth, o_evs0, o_evs1, o_slst, o_stup, o_rng, o_enum, o_zip, o_enumT, o_lset, o_srtP, p_enumT, p_lset, p_srtP, p_listT, p_tupL, p_sliceT, p_divmod, p_var, v_0, v_s, p_add, p_addL, p_addT, p_sub, p_mul, p_mulL, p_div, p_mod, p_pow, p_neg, p_alF, p_alT, p_lst, p_tup, p_not, p_cmp, c_eq, c_ne, c_lt, c_gt, c_le, c_ge, c_in, c_nin, anyI, ev_ints0, ev_row0, ev_0ints, ev_ois0, p_isN, p_notN, p_ix, p_ixT, p_ixS, p_ixR, at_m, p_len, p_lenT, p_lenS, p_lenR, p_list, p_listS, p_listR, p_slice, p_allM, p_anyM, p_sumM, p_all, p_any, p_sum, p_max2, p_min2, p_remove, p_sorted, ints_snoc, ints_map, p_index, isl_l, py_drow, py_drows, ev_drow, ev_drows, fr_drow, fr_drows, p_sliceS, p_sliceR, p_src, p_srcS, p_srcT, p_srcR, src_l, src_f, p_rng1, p_rng2, p_enum, p_zip, p_app, p_pop, p_clear, p_rev, p_ext, p_ins, p_popAt, p_set, p_isi, p_frz, a_add, a_sub, a_mul, ixL, ixLR, cell_l, live_l, isl, py_int, py_bl, py_non, py_str, py_oi, py_lst, py_tup, py_scr, py_ints, py_bls, py_ois, py_row, py_rows, py_ref, ev_int, ev_bl, ev_str, ev_oi, ev_oI, ev_Io, ev_oN, ev_No, ev_ints, ev_row, ev_ois, ev_rows, non_oi, cut_map, ← List.map_take, ← List.map_drop, List.getElem?_cons_zero, List.getElem?_cons_succ, List.set_cons_zero, List.set_cons_succ, List.foldl_cons, List.foldl_nil, List.map_cons, List.map_nil, List.length_cons, List.length_nil, List.replicate, List.cons_append, List.nil_append, exists_eq_left, exists_eq_left', D.bl.injEq, D.int.injEq, D.tup.injEq, decide_eq_true_eq, decide_eq_false_iff_not, true_and, and_true, true_implies, List.length_map, fr_ref, fr_ints, fr_ois, fr_rows, fr_int, fr_lst, fr_row, fr_oi, fr_bl, fr_non, fr_cons, fr_nil, fr_tup, Fl.rt.injEq, Fl.nx.injEq, ex_neg, ex_neg', Bool.not_eq_true', Bool.not_eq_false', Bool.not_not, wipeE, omap_cons, omap_nil, at_0, at_1, at_2, oi_some, oi_none, oP_some, oP_none, Option.some.injEq, end_get, end_set, beq_self_eq_true, bne_self_eq_false, tn, tn0, tn1, fitL, mL, mR, nc, nc0, nc1, c_ltT, c_gtT, c_leT, ev_tup, ev_listc, ev_cons, ev_nil, ev_list0, ev_0list, c_inT, c_ninT, LIM, Int.zero_add, gc_id, Nat.le_refl, Option.map_some, Option.bind_some, isi_s, ty_int, ty_bl, ty_non, ty_lst, ty_tup, ty_str, ty_ref, ty_cl, ty_oi, isTy, Int.reduceLE, Int.reduceLT, Int.reducePow, Int.reduceAdd, Int.reduceSub, Int.reduceMul, Int.reduceNeg, Int.reduceEq, Int.reduceGT, Int.reduceGE, Int.reduceNe, Nat.reduceAdd, Nat.reduceSub, Nat.reduceLT, Nat.reduceLeDiff, Nat.reduceMul, Nat.reducePow, Nat.reduceBEq, Nat.reduceEqDiff, Int.reduceToNat, Bool.not_eq_true, Bool.not_true, Bool.not_false, Bool.not_eq_false, Bool.not_eq_eq_eq_not, reduceCtorEq, if_true, if_false, false_implies, Bool.false_eq_true, Bool.true_eq_false, and_self, not_true, not_false_iff, implies_true, forall_const, true_or, or_true, and_false, false_and, ge_iff_le, gt_iff_lt, cl_pairs, g_s, p_gT, p_gF, Bool.and_true, Bool.true_and, Bool.and_self, cl_ints, cl_bls, cl_oi, cl_ois, cl_row, cl_rows, cl_drow, cl_drows, cl_app, cl_lst, cl_cons, cl_nil, cl_int, cl_bl, cl_non, cl_str, cl_tup, fit, mfit, rt_pairs, sh_pairs, rt_bl, rt_non, rt_str, rt_tup, sh_non, sh_str, sh_tup, rt_ints, rt_oi, rt_ois, rt_row, rt_rows, rt_drow, rt_drows, rt_ref, rt_int, rt_cell, rt_cons, rt_nil, rt_lst, rt_app, p_gF, List.all_cons, List.all_nil, sh_ints, sh_oi, sh_ois, sh_row, sh_rows, sh_drow, sh_drows, sh_ref, sh_int, sh_bl, sh_cell, sh_cons, sh_nil, sh_lst, Nat.zero_add, Nat.add_zero]
  · rintro e m' ⟨rfl, rfl⟩
    rw [seqP_nx]
    have am : ∀ o : List Int, o.Perm (rgi 0 t.length) → ∀ i j : Nat, i < j → j < t.length → seen t (turnSt t m (hsSeq [o] t.length m)).1 (pick o i) (pick o j) ≤ seen t (turnSt t m (hsSeq [o] t.length m)).1 (pick o i) (pick o i) := fun o ho i j hij hj => by
      have A := (turnSt_ahead T w0 rfl ho hij hj m (Nat.le_refl _)).own 0 (.inl rfl)
      rw [Int.mul_zero, Int.add_zero] at A
      exact A
    have hp1 : ∀ o : List Int, o.Perm (rgi 0 t.length) → ∀ x ∈ [o], x.Perm (rgi 0 t.length) := fun o ho x hx => by rw [List.mem_singleton.mp hx]; exact ho
    obtain ⟨o0, orest, rfl⟩ := List.exists_cons_of_ne_nil hne
    have ho0 := hos o0 List.mem_cons_self
    have kb1 := fun  μ Q => call_eq (Γ := G_law) (f := 139) (dn := 0) (fz := true) (ds := [(D.lst false (List.map (row false) t)), (D.lst false (List.map (row false) ([o0])))]) (μ := μ) (Q := Q) rfl (by simp only [B_by_turns, le_pair, le_pairs, la_nil, la_t, la_f, Option.bind_some, Option.map_some, List.append_nil, List.replicate, le_int, le_bl, le_non, le_str, le_scr, le_oi, le_lst, le_tup, le_ints, le_bls, le_ois, le_row, le_rows, le_drow, le_drows, le_ref, cl_pairs, g_s, p_gT, p_gF, Bool.and_true, Bool.true_and, Bool.and_self, cl_ints, cl_bls, cl_oi, cl_ois, cl_row, cl_rows, cl_drow, cl_drows, cl_app, cl_lst, cl_cons, cl_nil, cl_int, cl_bl, cl_non, cl_str, cl_tup] <;> rfl) rfl (by_turns t [o0] T rfl (by simp) (hp1 o0 ho0) (by simp))
    simp only [List.map_cons, List.map_nil, row] at kb1
    have kb2 := fun μ Q => call_eq (Γ := G_law) (f := 139) (dn := 1) (fz := true) (ds := [(D.lst false (List.map (row false) t))]) (μ := μ) (Q := Q) rfl (by simp only [B_by_turns, le_pair, le_pairs, la_nil, la_t, la_f, Option.bind_some, Option.map_some, List.append_nil, List.replicate, le_int, le_bl, le_non, le_str, le_scr, le_oi, le_lst, le_tup, le_ints, le_bls, le_ois, le_row, le_rows, le_drow, le_drows, le_ref, cl_pairs, g_s, p_gT, p_gF, Bool.and_true, Bool.true_and, Bool.and_self, cl_ints, cl_bls, cl_oi, cl_ois, cl_row, cl_rows, cl_drow, cl_drows, cl_app, cl_lst, cl_cons, cl_nil, cl_int, cl_bl, cl_non, cl_str, cl_tup, List.cons_append, List.nil_append] <;> rfl) rfl (by_turns_none t T rfl)
    obtain ⟨g1, g2, g3⟩ := facts [o0] (by simp) (hp1 o0 ho0)
    obtain ⟨h1, h2, h3⟩ := facts [rgi 0 t.length] (by simp) (hp1 _ (List.Perm.refl _))
    rw [o_cons]
    simp (disch := decide) only [ev_00, fr_pair, fr_pairs, py_pair, py_pairs, ev_pair, ev_pairs, ev_pairs0, anyPr, p_minR, p_maxR, p_sumR, p_allR, p_anyR, p_sortedR, o_nil, o_ret, o_expr, o_set, o_asg, o_ife, o_setIx, o_aug, o_augIx, o_kill, o_pass, o_retN, seqP_nx, seqP_rt, o_var, o_int, o_bl, o_non, o_str, o_cst, o_bin, o_neg, o_cmp, o_chain, o_isN, o_notN, o_and, o_or, o_and1, o_or1, o_and2, o_or2, o_not, o_lst, o_tup, o_ix, o_slice, o_part0, o_part1, o_call, o_bi, o_isi, o_frz, o_isB, o_lrg, p_isB, p_lrg1, p_lrg2, o_rev, o_par, p_revL, p_revS, p_revR, ← List.map_reverse, o_mth0, o_mth, o_evs0, o_evs1, o_slst, o_stup, o_rng, o_enum, o_zip, o_enumT, o_lset, o_srtP, p_enumT, p_lset, p_srtP, p_listT, p_tupL, p_sliceT, p_divmod, p_var, v_0, v_s, p_add, p_addL, p_addT, p_sub, p_mul, p_mulL, p_div, p_mod, p_pow, p_neg, p_alF, p_alT, p_lst, p_tup, p_not, p_cmp, c_eq, c_ne, c_lt, c_gt, c_le, c_ge, c_in, c_nin, anyI, ev_ints0, ev_row0, ev_0ints, ev_ois0, p_isN, p_notN, p_ix, p_ixT, p_ixS, p_ixR, at_m, p_len, p_lenT, p_lenS, p_lenR, p_list, p_listS, p_listR, p_slice, p_allM, p_anyM, p_sumM, p_all, p_any, p_sum, p_max2, p_min2, p_remove, p_sorted, ints_snoc, ints_map, p_index, isl_l, py_drow, py_drows, ev_drow, ev_drows, fr_drow, fr_drows, p_sliceS, p_sliceR, p_src, p_srcS, p_srcT, p_srcR, src_l, src_f, p_rng1, p_rng2, p_enum, p_zip, p_app, p_pop, p_clear, p_rev, p_ext, p_ins, p_popAt, p_set, p_isi, p_frz, a_add, a_sub, a_mul, ixL, ixLR, cell_l, live_l, isl, py_int, py_bl, py_non, py_str, py_oi, py_lst, py_tup, py_scr, py_ints, py_bls, py_ois, py_row, py_rows, py_ref, ev_int, ev_bl, ev_str, ev_oi, ev_oI, ev_Io, ev_oN, ev_No, ev_ints, ev_row, ev_ois, ev_rows, non_oi, cut_map, ← List.map_take, ← List.map_drop, List.getElem?_cons_zero, List.getElem?_cons_succ, List.set_cons_zero, List.set_cons_succ, List.foldl_cons, List.foldl_nil, List.map_cons, List.map_nil, List.length_cons, List.length_nil, List.replicate, List.cons_append, List.nil_append, exists_eq_left, exists_eq_left', D.bl.injEq, D.int.injEq, D.tup.injEq, decide_eq_true_eq, decide_eq_false_iff_not, true_and, and_true, true_implies, List.length_map, fr_ref, fr_ints, fr_ois, fr_rows, fr_int, fr_lst, fr_row, fr_oi, fr_bl, fr_non, fr_cons, fr_nil, fr_tup, Fl.rt.injEq, Fl.nx.injEq, ex_neg, ex_neg', Bool.not_eq_true', Bool.not_eq_false', Bool.not_not, wipeE, omap_cons, omap_nil, at_0, at_1, at_2, oi_some, oi_none, oP_some, oP_none, Option.some.injEq, end_get, end_set, beq_self_eq_true, bne_self_eq_false, tn, tn0, tn1, fitL, mL, mR, nc, nc0, nc1, c_ltT, c_gtT, c_leT, ev_tup, ev_listc, ev_cons, ev_nil, ev_list0, ev_0list, c_inT, c_ninT, LIM, Int.zero_add, gc_id, Nat.le_refl, Option.map_some, Option.bind_some, isi_s, ty_int, ty_bl, ty_non, ty_lst, ty_tup, ty_str, ty_ref, ty_cl, ty_oi, isTy, Int.reduceLE, Int.reduceLT, Int.reducePow, Int.reduceAdd, Int.reduceSub, Int.reduceMul, Int.reduceNeg, Int.reduceEq, Int.reduceGT, Int.reduceGE, Int.reduceNe, Nat.reduceAdd, Nat.reduceSub, Nat.reduceLT, Nat.reduceLeDiff, Nat.reduceMul, Nat.reducePow, Nat.reduceBEq, Nat.reduceEqDiff, Int.reduceToNat, Bool.not_eq_true, Bool.not_true, Bool.not_false, Bool.not_eq_false, Bool.not_eq_eq_eq_not, reduceCtorEq, if_true, if_false, false_implies, Bool.false_eq_true, Bool.true_eq_false, and_self, not_true, not_false_iff, implies_true, forall_const, true_or, or_true, and_false, false_and, ge_iff_le, gt_iff_lt, cl_pairs, g_s, p_gT, p_gF, Bool.and_true, Bool.true_and, Bool.and_self, cl_ints, cl_bls, cl_oi, cl_ois, cl_row, cl_rows, cl_drow, cl_drows, cl_app, cl_lst, cl_cons, cl_nil, cl_int, cl_bl, cl_non, cl_str, cl_tup, fit, mfit, rt_pairs, sh_pairs, rt_bl, rt_non, rt_str, rt_tup, sh_non, sh_str, sh_tup, rt_ints, rt_oi, rt_ois, rt_row, rt_rows, rt_drow, rt_drows, rt_ref, rt_int, rt_cell, rt_cons, rt_nil, rt_lst, rt_app, p_gF, List.all_cons, List.all_nil, sh_ints, sh_oi, sh_ois, sh_row, sh_rows, sh_drow, sh_drows, sh_ref, sh_int, sh_bl, sh_cell, sh_cons, sh_nil, sh_lst, Nat.zero_add, Nat.add_zero, at_0, row, kb1, turnsR, kbe _ o0 g1 ho0 (am o0 ho0)]
    rw [o_cons]
    simp (disch := decide) only [ev_00, fr_pair, fr_pairs, py_pair, py_pairs, ev_pair, ev_pairs, ev_pairs0, anyPr, p_minR, p_maxR, p_sumR, p_allR, p_anyR, p_sortedR, o_nil, o_ret, o_expr, o_set, o_asg, o_ife, o_setIx, o_aug, o_augIx, o_kill, o_pass, o_retN, seqP_nx, seqP_rt, o_var, o_int, o_bl, o_non, o_str, o_cst, o_bin, o_neg, o_cmp, o_chain, o_isN, o_notN, o_and, o_or, o_and1, o_or1, o_and2, o_or2, o_not, o_lst, o_tup, o_ix, o_slice, o_part0, o_part1, o_call, o_bi, o_isi, o_frz, o_isB, o_lrg, p_isB, p_lrg1, p_lrg2, o_rev, o_par, p_revL, p_revS, p_revR, ← List.map_reverse, o_mth0, o_mth, o_evs0, o_evs1, o_slst, o_stup, o_rng, o_enum, o_zip, o_enumT, o_lset, o_srtP, p_enumT, p_lset, p_srtP, p_listT, p_tupL, p_sliceT, p_divmod, p_var, v_0, v_s, p_add, p_addL, p_addT, p_sub, p_mul, p_mulL, p_div, p_mod, p_pow, p_neg, p_alF, p_alT, p_lst, p_tup, p_not, p_cmp, c_eq, c_ne, c_lt, c_gt, c_le, c_ge, c_in, c_nin, anyI, ev_ints0, ev_row0, ev_0ints, ev_ois0, p_isN, p_notN, p_ix, p_ixT, p_ixS, p_ixR, at_m, p_len, p_lenT, p_lenS, p_lenR, p_list, p_listS, p_listR, p_slice, p_allM, p_anyM, p_sumM, p_all, p_any, p_sum, p_max2, p_min2, p_remove, p_sorted, ints_snoc, ints_map, p_index, isl_l, py_drow, py_drows, ev_drow, ev_drows, fr_drow, fr_drows, p_sliceS, p_sliceR, p_src, p_srcS, p_srcT, p_srcR, src_l, src_f, p_rng1, p_rng2, p_enum, p_zip, p_app, p_pop, p_clear, p_rev, p_ext, p_ins, p_popAt, p_set, p_isi, p_frz, a_add, a_sub, a_mul, ixL, ixLR, cell_l, live_l, isl, py_int, py_bl, py_non, py_str, py_oi, py_lst, py_tup, py_scr, py_ints, py_bls, py_ois, py_row, py_rows, py_ref, ev_int, ev_bl, ev_str, ev_oi, ev_oI, ev_Io, ev_oN, ev_No, ev_ints, ev_row, ev_ois, ev_rows, non_oi, cut_map, ← List.map_take, ← List.map_drop, List.getElem?_cons_zero, List.getElem?_cons_succ, List.set_cons_zero, List.set_cons_succ, List.foldl_cons, List.foldl_nil, List.map_cons, List.map_nil, List.length_cons, List.length_nil, List.replicate, List.cons_append, List.nil_append, exists_eq_left, exists_eq_left', D.bl.injEq, D.int.injEq, D.tup.injEq, decide_eq_true_eq, decide_eq_false_iff_not, true_and, and_true, true_implies, List.length_map, fr_ref, fr_ints, fr_ois, fr_rows, fr_int, fr_lst, fr_row, fr_oi, fr_bl, fr_non, fr_cons, fr_nil, fr_tup, Fl.rt.injEq, Fl.nx.injEq, ex_neg, ex_neg', Bool.not_eq_true', Bool.not_eq_false', Bool.not_not, wipeE, omap_cons, omap_nil, at_0, at_1, at_2, oi_some, oi_none, oP_some, oP_none, Option.some.injEq, end_get, end_set, beq_self_eq_true, bne_self_eq_false, tn, tn0, tn1, fitL, mL, mR, nc, nc0, nc1, c_ltT, c_gtT, c_leT, ev_tup, ev_listc, ev_cons, ev_nil, ev_list0, ev_0list, c_inT, c_ninT, LIM, Int.zero_add, gc_id, Nat.le_refl, Option.map_some, Option.bind_some, isi_s, ty_int, ty_bl, ty_non, ty_lst, ty_tup, ty_str, ty_ref, ty_cl, ty_oi, isTy, Int.reduceLE, Int.reduceLT, Int.reducePow, Int.reduceAdd, Int.reduceSub, Int.reduceMul, Int.reduceNeg, Int.reduceEq, Int.reduceGT, Int.reduceGE, Int.reduceNe, Nat.reduceAdd, Nat.reduceSub, Nat.reduceLT, Nat.reduceLeDiff, Nat.reduceMul, Nat.reducePow, Nat.reduceBEq, Nat.reduceEqDiff, Int.reduceToNat, Bool.not_eq_true, Bool.not_true, Bool.not_false, Bool.not_eq_false, Bool.not_eq_eq_eq_not, reduceCtorEq, if_true, if_false, false_implies, Bool.false_eq_true, Bool.true_eq_false, and_self, not_true, not_false_iff, implies_true, forall_const, true_or, or_true, and_false, false_and, ge_iff_le, gt_iff_lt, cl_pairs, g_s, p_gT, p_gF, Bool.and_true, Bool.true_and, Bool.and_self, cl_ints, cl_bls, cl_oi, cl_ois, cl_row, cl_rows, cl_drow, cl_drows, cl_app, cl_lst, cl_cons, cl_nil, cl_int, cl_bl, cl_non, cl_str, cl_tup, fit, mfit, rt_pairs, sh_pairs, rt_bl, rt_non, rt_str, rt_tup, sh_non, sh_str, sh_tup, rt_ints, rt_oi, rt_ois, rt_row, rt_rows, rt_drow, rt_drows, rt_ref, rt_int, rt_cell, rt_cons, rt_nil, rt_lst, rt_app, p_gF, List.all_cons, List.all_nil, sh_ints, sh_oi, sh_ois, sh_row, sh_rows, sh_drow, sh_drows, sh_ref, sh_int, sh_bl, sh_cell, sh_cons, sh_nil, sh_lst, Nat.zero_add, Nat.add_zero, kb2, turnsR, at_0, kbe _ (rgi 0 t.length) h1 (List.Perm.refl _) (am _ (List.Perm.refl _))]
end Lk22

set_option Elab.async false
set_option linter.all false
set_option maxRecDepth 100000
set_option autoImplicit false
set_option maxHeartbeats 0
namespace Lk22
open PySem PySem.Spec PyProof.Rows L2 Lv
def top (i : Nat) : Stmt := PySem.Challenge.pw_leastenvy_k22_turns_without_envy.main.body.getD i (.Pass ⟨0, 0, 0, 0⟩)
def bs : List Str := ["all", "len", "list", "range", "sorted", "sum"]
def cs : List (Str × D) := []
theorem sc__law_cell_at : FnScope N__law_cell_at F__law_cell_at.ps (defScope (top 13)) := ⟨rfl, rfl, rfl, by decide +kernel, rfl, by decide +kernel, by decide +kernel⟩
theorem ck__law_cell_at : S.oks ⟨N__law_cell_at, G__law_cell_at, bs, cs⟩ (defScope (top 13)) (fun _ => true) b__law_cell_at (defBody (top 13)) = true := by decide +kernel
theorem sc__law_draw : FnScope N__law_draw F__law_draw.ps (defScope (top 14)) := ⟨rfl, rfl, rfl, by decide +kernel, rfl, by decide +kernel, by decide +kernel⟩
theorem ck__law_draw : S.oks ⟨N__law_draw, G__law_draw, bs, cs⟩ (defScope (top 14)) (fun _ => true) b__law_draw (defBody (top 14)) = true := by decide +kernel
theorem sc__law_table : FnScope N__law_table F__law_table.ps (defScope (top 15)) := ⟨rfl, rfl, rfl, by decide +kernel, rfl, by decide +kernel, by decide +kernel⟩
theorem ck__law_table : S.oks ⟨N__law_table, G__law_table, bs, cs⟩ (defScope (top 15)) (fun _ => true) b__law_table (defBody (top 15)) = true := by decide +kernel
theorem sc_things_of : FnScope N_things_of F_things_of.ps (defScope (top 5)) := ⟨rfl, rfl, rfl, by decide +kernel, rfl, by decide +kernel, by decide +kernel⟩
theorem ck_things_of : S.oks ⟨N_things_of, G_things_of, bs, cs⟩ (defScope (top 5)) (fun _ => true) b_things_of (defBody (top 5)) = true := by decide +kernel
theorem sc_nothing_dealt : FnScope N_nothing_dealt F_nothing_dealt.ps (defScope (top 7)) := ⟨rfl, rfl, rfl, by decide +kernel, rfl, by decide +kernel, by decide +kernel⟩
theorem ck_nothing_dealt : S.oks ⟨N_nothing_dealt, G_nothing_dealt, bs, cs⟩ (defScope (top 7)) (fun _ => true) b_nothing_dealt (defBody (top 7)) = true := by decide +kernel
theorem sc_dearest_of : FnScope N_dearest_of F_dearest_of.ps (defScope (top 10)) := ⟨rfl, rfl, rfl, by decide +kernel, rfl, by decide +kernel, by decide +kernel⟩
theorem ck_dearest_of : S.oks ⟨N_dearest_of, G_dearest_of, bs, cs⟩ (defScope (top 10)) (fun _ => true) b_dearest_of (defBody (top 10)) = true := by decide +kernel
theorem sc_hands_of : FnScope N_hands_of F_hands_of.ps (defScope (top 4)) := ⟨rfl, rfl, rfl, by decide +kernel, rfl, by decide +kernel, by decide +kernel⟩
theorem ck_hands_of : S.oks ⟨N_hands_of, G_hands_of, bs, cs⟩ (defScope (top 4)) (fun _ => true) b_hands_of (defBody (top 4)) = true := by decide +kernel
theorem sc_is_order : FnScope N_is_order F_is_order.ps (defScope (top 9)) := ⟨rfl, rfl, rfl, by decide +kernel, rfl, by decide +kernel, by decide +kernel⟩
theorem ck_is_order : S.oks ⟨N_is_order, G_is_order, bs, cs⟩ (defScope (top 9)) (fun _ => true) b_is_order (defBody (top 9)) = true := by decide +kernel
theorem sc_by_turns : FnScope N_by_turns F_by_turns.ps (defScope (top 11)) := ⟨rfl, rfl, rfl, by decide +kernel, rfl, by decide +kernel, by decide +kernel⟩
theorem ck_by_turns : S.oks ⟨N_by_turns, G_by_turns, bs, cs⟩ (defScope (top 11)) (fun _ => true) b_by_turns (defBody (top 11)) = true := by decide +kernel
theorem sc__law_seen : FnScope N__law_seen F__law_seen.ps (defScope (top 17)) := ⟨rfl, rfl, rfl, by decide +kernel, rfl, by decide +kernel, by decide +kernel⟩
theorem ck__law_seen : S.oks ⟨N__law_seen, G__law_seen, bs, cs⟩ (defScope (top 17)) (fun _ => true) b__law_seen (defBody (top 17)) = true := by decide +kernel
theorem sc__law_no_envy_behind : FnScope N__law_no_envy_behind F__law_no_envy_behind.ps (defScope (top 19)) := ⟨rfl, rfl, rfl, by decide +kernel, rfl, by decide +kernel, by decide +kernel⟩
theorem ck__law_no_envy_behind : S.oks ⟨N__law_no_envy_behind, G__law_no_envy_behind, bs, cs⟩ (defScope (top 19)) (fun _ => true) b__law_no_envy_behind (defBody (top 19)) = true := by decide +kernel
theorem sc__law_order : FnScope N__law_order F__law_order.ps (defScope (top 16)) := ⟨rfl, rfl, rfl, by decide +kernel, rfl, by decide +kernel, by decide +kernel⟩
theorem ck__law_order : S.oks ⟨N__law_order, G__law_order, bs, cs⟩ (defScope (top 16)) (fun _ => true) b__law_order (defBody (top 16)) = true := by decide +kernel
theorem sc__law_first : FnScope N__law_first F__law_first.ps (defScope (top 18)) := ⟨rfl, rfl, rfl, by decide +kernel, rfl, by decide +kernel, by decide +kernel⟩
theorem ck__law_first : S.oks ⟨N__law_first, G__law_first, bs, cs⟩ (defScope (top 18)) (fun _ => true) b__law_first (defBody (top 18)) = true := by decide +kernel
theorem sc_law : FnScope N_law F_law.ps (defScope (top 20)) := ⟨rfl, rfl, rfl, by decide +kernel, rfl, by decide +kernel, by decide +kernel⟩
theorem ck_law : S.oks ⟨N_law, G_law, bs, cs⟩ (defScope (top 20)) (fun _ => true) b_law (defBody (top 20)) = true := by decide +kernel
theorem all_mk {l : PySem.W.OpenLaw} {w : World} {K : PySem.W.Frag} {h : Heap} {mg : Str → Option Value} {fa : Addr} (X : K.In h) (G : h.Ns mainGlobals mg) (hfa : mg "law" = some (.ref fa)) {dt8 : Addr} {tc8 : Value} {td8 : Option Addr} {tn8 : Nat} {ts8 : Array (Option Value)} {f0 f1 f2 f3 f4 f5 f6 f7 f8 f9 f10 f11 f12 f13 : Addr} {od0 an0 od1 an1 od2 an2 od3 an3 od4 an4 od5 an5 od6 an6 od7 an7 od8 an8 od9 an9 od10 an10 od11 an11 od12 an12 od13 an13 : Option Addr} {sl0 sl1 sl2 sl3 sl4 sl5 sl6 sl7 sl8 sl9 sl10 sl11 sl12 sl13 : Array (Option Value)} {oc0 kV0 dc0 pm0 cd0 ct0 oc1 kV1 dc1 pm1 cd1 ct1 oc2 kV2 dc2 pm2 cd2 ct2 oc3 kV3 dc3 pm3 cd3 ct3 oc4 kV4 dc4 pm4 cd4 ct4 oc5 kV5 dc5 pm5 cd5 ct5 oc6 kV6 dc6 pm6 cd6 ct6 oc7 kV7 dc7 pm7 cd7 ct7 oc8 kV8 dc8 pm8 cd8 ct8 oc9 kV9 dc9 pm9 cd9 ct9 oc10 kV10 dc10 pm10 cd10 ct10 oc11 kV11 dc11 pm11 cd11 ct11 oc12 kV12 dc12 pm12 cd12 ct12 oc13 kV13 dc13 pm13 cd13 ct13 : Value}
    (a0 : PySem.W.nsIn K mainGlobals "_law_cell_at" = some (some (.ref f0))) (l0 : K.lookup f0 = some ⟨oc0, od0, .func (PySem.W.fnOf "_law_cell_at" "_law_cell_at" (defArgs (top 13)) (defBody (top 13)) (defScope (top 13)) .none kV0 dc0 pm0 an0 cd0 ct0), sl0⟩) (c0 : PySem.W.codeIn K cd0 "_law_cell_at" = true) (k0 : PySem.W.keepIn K (.ref f0) = true)
    (a1 : PySem.W.nsIn K mainGlobals "_law_draw" = some (some (.ref f1))) (l1 : K.lookup f1 = some ⟨oc1, od1, .func (PySem.W.fnOf "_law_draw" "_law_draw" (defArgs (top 14)) (defBody (top 14)) (defScope (top 14)) .none kV1 dc1 pm1 an1 cd1 ct1), sl1⟩) (c1 : PySem.W.codeIn K cd1 "_law_draw" = true) (k1 : PySem.W.keepIn K (.ref f1) = true)
    (a2 : PySem.W.nsIn K mainGlobals "_law_table" = some (some (.ref f2))) (l2 : K.lookup f2 = some ⟨oc2, od2, .func (PySem.W.fnOf "_law_table" "_law_table" (defArgs (top 15)) (defBody (top 15)) (defScope (top 15)) .none kV2 dc2 pm2 an2 cd2 ct2), sl2⟩) (c2 : PySem.W.codeIn K cd2 "_law_table" = true) (k2 : PySem.W.keepIn K (.ref f2) = true)
    (a3 : PySem.W.nsIn K mainGlobals "things_of" = some (some (.ref f3))) (l3 : K.lookup f3 = some ⟨oc3, od3, .func (PySem.W.fnOf "things_of" "things_of" (defArgs (top 5)) (defBody (top 5)) (defScope (top 5)) .none kV3 dc3 pm3 an3 cd3 ct3), sl3⟩) (c3 : PySem.W.codeIn K cd3 "things_of" = true) (k3 : PySem.W.keepIn K (.ref f3) = true)
    (a4 : PySem.W.nsIn K mainGlobals "nothing_dealt" = some (some (.ref f4))) (l4 : K.lookup f4 = some ⟨oc4, od4, .func (PySem.W.fnOf "nothing_dealt" "nothing_dealt" (defArgs (top 7)) (defBody (top 7)) (defScope (top 7)) .none kV4 dc4 pm4 an4 cd4 ct4), sl4⟩) (c4 : PySem.W.codeIn K cd4 "nothing_dealt" = true) (k4 : PySem.W.keepIn K (.ref f4) = true)
    (a5 : PySem.W.nsIn K mainGlobals "dearest_of" = some (some (.ref f5))) (l5 : K.lookup f5 = some ⟨oc5, od5, .func (PySem.W.fnOf "dearest_of" "dearest_of" (defArgs (top 10)) (defBody (top 10)) (defScope (top 10)) .none kV5 dc5 pm5 an5 cd5 ct5), sl5⟩) (c5 : PySem.W.codeIn K cd5 "dearest_of" = true) (k5 : PySem.W.keepIn K (.ref f5) = true)
    (a6 : PySem.W.nsIn K mainGlobals "hands_of" = some (some (.ref f6))) (l6 : K.lookup f6 = some ⟨oc6, od6, .func (PySem.W.fnOf "hands_of" "hands_of" (defArgs (top 4)) (defBody (top 4)) (defScope (top 4)) .none kV6 dc6 pm6 an6 cd6 ct6), sl6⟩) (c6 : PySem.W.codeIn K cd6 "hands_of" = true) (k6 : PySem.W.keepIn K (.ref f6) = true)
    (a7 : PySem.W.nsIn K mainGlobals "is_order" = some (some (.ref f7))) (l7 : K.lookup f7 = some ⟨oc7, od7, .func (PySem.W.fnOf "is_order" "is_order" (defArgs (top 9)) (defBody (top 9)) (defScope (top 9)) .none kV7 dc7 pm7 an7 cd7 ct7), sl7⟩) (c7 : PySem.W.codeIn K cd7 "is_order" = true) (k7 : PySem.W.keepIn K (.ref f7) = true)
    (a8 : PySem.W.nsIn K mainGlobals "by_turns" = some (some (.ref f8))) (l8 : K.lookup f8 = some ⟨oc8, od8, .func (PySem.W.fnOf "by_turns" "by_turns" (defArgs (top 11)) (defBody (top 11)) (defScope (top 11)) (.ref dt8) kV8 dc8 pm8 an8 cd8 ct8), sl8⟩) (c8 : PySem.W.codeIn K cd8 "by_turns" = true) (k8 : PySem.W.keepIn K (.ref f8) = true) (e8 : K.lookup dt8 = some ⟨tc8, td8, .seq #[Value.none] tn8, ts8⟩)
    (a9 : PySem.W.nsIn K mainGlobals "_law_seen" = some (some (.ref f9))) (l9 : K.lookup f9 = some ⟨oc9, od9, .func (PySem.W.fnOf "_law_seen" "_law_seen" (defArgs (top 17)) (defBody (top 17)) (defScope (top 17)) .none kV9 dc9 pm9 an9 cd9 ct9), sl9⟩) (c9 : PySem.W.codeIn K cd9 "_law_seen" = true) (k9 : PySem.W.keepIn K (.ref f9) = true)
    (a10 : PySem.W.nsIn K mainGlobals "_law_no_envy_behind" = some (some (.ref f10))) (l10 : K.lookup f10 = some ⟨oc10, od10, .func (PySem.W.fnOf "_law_no_envy_behind" "_law_no_envy_behind" (defArgs (top 19)) (defBody (top 19)) (defScope (top 19)) .none kV10 dc10 pm10 an10 cd10 ct10), sl10⟩) (c10 : PySem.W.codeIn K cd10 "_law_no_envy_behind" = true) (k10 : PySem.W.keepIn K (.ref f10) = true)
    (a11 : PySem.W.nsIn K mainGlobals "_law_order" = some (some (.ref f11))) (l11 : K.lookup f11 = some ⟨oc11, od11, .func (PySem.W.fnOf "_law_order" "_law_order" (defArgs (top 16)) (defBody (top 16)) (defScope (top 16)) .none kV11 dc11 pm11 an11 cd11 ct11), sl11⟩) (c11 : PySem.W.codeIn K cd11 "_law_order" = true) (k11 : PySem.W.keepIn K (.ref f11) = true)
    (a12 : PySem.W.nsIn K mainGlobals "_law_first" = some (some (.ref f12))) (l12 : K.lookup f12 = some ⟨oc12, od12, .func (PySem.W.fnOf "_law_first" "_law_first" (defArgs (top 18)) (defBody (top 18)) (defScope (top 18)) .none kV12 dc12 pm12 an12 cd12 ct12), sl12⟩) (c12 : PySem.W.codeIn K cd12 "_law_first" = true) (k12 : PySem.W.keepIn K (.ref f12) = true)
    (a13 : PySem.W.nsIn K mainGlobals "law" = some (some (.ref f13))) (l13 : K.lookup f13 = some ⟨oc13, od13, .func (PySem.W.fnOf "law" "law" (defArgs (top 20)) (defBody (top 20)) (defScope (top 20)) .none kV13 dc13 pm13 an13 cd13 ct13), sl13⟩) (c13 : PySem.W.codeIn K cd13 "law" = true) (k13 : PySem.W.keepIn K (.ref f13) = true)
    (z0 : PySem.W.nsIn K mainGlobals "all" = some none)
    (z1 : PySem.W.nsIn K mainGlobals "len" = some none)
    (z2 : PySem.W.nsIn K mainGlobals "list" = some none)
    (z3 : PySem.W.nsIn K mainGlobals "range" = some none)
    (z4 : PySem.W.nsIn K mainGlobals "sorted" = some none)
    (z5 : PySem.W.nsIn K mainGlobals "sum" = some none)
    : ∃ fd : FuncData, (∀ (s : Shared) (v : Value), BindsTo s fd ⟨[v], []⟩ [("_law_script", v)]) ∧ ∀ base : Heap, K.In base → base.Ns mainGlobals mg → FnOk l.prog w K mg base CX0 14 fa fd ["_law_script"] (F_law.sp K mg) := by
  have e := hfa.symm.trans (PySem.W.mg_of X G a13)
  cases e
  have hb : ∀ b ∈ bs, mg b = none := by
    intro b hb
    simp only [bs, List.mem_cons, List.not_mem_nil, or_false] at hb
    rcases hb with rfl | rfl | rfl | rfl | rfl | rfl
    · exact PySem.W.mg_none_of X G z0
    · exact PySem.W.mg_none_of X G z1
    · exact PySem.W.mg_none_of X G z2
    · exact PySem.W.mg_none_of X G z3
    · exact PySem.W.mg_none_of X G z4
    · exact PySem.W.mg_none_of X G z5
  have hc : ∀ x d, cs.lookup x = some d → ∃ u v, mg x = some u ∧ scv d = some v ∧ RelV v u := by
    intro x d hx
    cases hx
  refine ⟨PySem.W.fnOf "law" "law" (defArgs (top 20)) (defBody (top 20)) (defScope (top 20)) .none kV13 dc13 pm13 an13 cd13 ct13, fun s v => .of_eq rfl, fun base _ _ => ?_⟩
  have T0 : TxtOk l.prog w K mg base CX0 0 ⟨[], [], bs, cs⟩ := TxtOk.nil hb hc
  have B0 := (fun_mk (st := top 13) l0 c0 k0)
  have O0 : FnOk l.prog w K mg base CX0 1 f0 _ F__law_cell_at.ps (F__law_cell_at.sp K mg) := def_ok B0 sc__law_cell_at (T0.names N__law_cell_at) ck__law_cell_at
  have T1 : TxtOk l.prog w K mg base CX0 1 ⟨[], G__law_draw, bs, cs⟩ := T0.cons (F := F__law_cell_at) (i := 16) (PySem.W.mg_of X G a0) k0 (fun j hj => by
    have : j = 0 := Nat.le_zero.mp hj
    subst this
    exact B0.binds (ps := F__law_cell_at.ps) fun _ _ _ _ _ _ us hl => match us, hl with | [_, _], _ => rfl) O0
  have B1 := (fun_mk (st := top 14) l1 c1 k1)
  have O1 : FnOk l.prog w K mg base CX0 2 f1 _ F__law_draw.ps (F__law_draw.sp K mg) := def_ok B1 sc__law_draw (T1.names N__law_draw) ck__law_draw
  have T2 : TxtOk l.prog w K mg base CX0 2 ⟨[], G__law_table, bs, cs⟩ := T1.cons (F := F__law_draw) (i := 25) (PySem.W.mg_of X G a1) k1 (fun j hj => by
    have : j = 0 := Nat.le_zero.mp hj
    subst this
    exact B1.binds (ps := F__law_draw.ps) fun _ _ _ _ _ _ us hl => match us, hl with | [_, _], _ => rfl) O1
  have B2 := (fun_mk (st := top 15) l2 c2 k2)
  have O2 : FnOk l.prog w K mg base CX0 3 f2 _ F__law_table.ps (F__law_table.sp K mg) := def_ok B2 sc__law_table (T2.names N__law_table) ck__law_table
  have T3 : TxtOk l.prog w K mg base CX0 3 ⟨[], G_things_of, bs, cs⟩ := T2.cons (F := F__law_table) (i := 107) (PySem.W.mg_of X G a2) k2 (fun j hj => by
    have : j = 0 := Nat.le_zero.mp hj
    subst this
    exact B2.binds (ps := F__law_table.ps) fun _ _ _ _ _ _ us hl => match us, hl with | [_, _], _ => rfl) O2
  have B3 := (fun_mk (st := top 5) l3 c3 k3)
  have O3 : FnOk l.prog w K mg base CX0 4 f3 _ F_things_of.ps (F_things_of.sp K mg) := def_ok B3 sc_things_of (T3.names N_things_of) ck_things_of
  have T4 : TxtOk l.prog w K mg base CX0 4 ⟨[], G_nothing_dealt, bs, cs⟩ := T3.cons (F := F_things_of) (i := 199) (PySem.W.mg_of X G a3) k3 (fun j hj => by
    have : j = 0 := Nat.le_zero.mp hj
    subst this
    exact B3.binds (ps := F_things_of.ps) fun _ _ _ _ _ _ us hl => match us, hl with | [_], _ => rfl) O3
  have B4 := (fun_mk (st := top 7) l4 c4 k4)
  have O4 : FnOk l.prog w K mg base CX0 5 f4 _ F_nothing_dealt.ps (F_nothing_dealt.sp K mg) := def_ok B4 sc_nothing_dealt (T4.names N_nothing_dealt) ck_nothing_dealt
  have T5 : TxtOk l.prog w K mg base CX0 5 ⟨[], G_dearest_of, bs, cs⟩ := T4.cons (F := F_nothing_dealt) (i := 180) (PySem.W.mg_of X G a4) k4 (fun j hj => by
    have : j = 0 := Nat.le_zero.mp hj
    subst this
    exact B4.binds (ps := F_nothing_dealt.ps) fun _ _ _ _ _ _ us hl => match us, hl with | [_], _ => rfl) O4
  have B5 := (fun_mk (st := top 10) l5 c5 k5)
  have O5 : FnOk l.prog w K mg base CX0 6 f5 _ F_dearest_of.ps (F_dearest_of.sp K mg) := def_ok B5 sc_dearest_of (T5.names N_dearest_of) ck_dearest_of
  have T6 : TxtOk l.prog w K mg base CX0 6 ⟨[], G_hands_of, bs, cs⟩ := T5.cons (F := F_dearest_of) (i := 151) (PySem.W.mg_of X G a5) k5 (fun j hj => by
    have : j = 0 := Nat.le_zero.mp hj
    subst this
    exact B5.binds (ps := F_dearest_of.ps) fun _ _ _ _ _ _ us hl => match us, hl with | [_, _], _ => rfl) O5
  have B6 := (fun_mk (st := top 4) l6 c6 k6)
  have O6 : FnOk l.prog w K mg base CX0 7 f6 _ F_hands_of.ps (F_hands_of.sp K mg) := def_ok B6 sc_hands_of (T6.names N_hands_of) ck_hands_of
  have T7 : TxtOk l.prog w K mg base CX0 7 ⟨[], G_is_order, bs, cs⟩ := T6.cons (F := F_hands_of) (i := 163) (PySem.W.mg_of X G a6) k6 (fun j hj => by
    have : j = 0 := Nat.le_zero.mp hj
    subst this
    exact B6.binds (ps := F_hands_of.ps) fun _ _ _ _ _ _ us hl => match us, hl with | [_], _ => rfl) O6
  have B7 := (fun_mk (st := top 9) l7 c7 k7)
  have O7 : FnOk l.prog w K mg base CX0 8 f7 _ F_is_order.ps (F_is_order.sp K mg) := def_ok B7 sc_is_order (T7.names N_is_order) ck_is_order
  have T8 : TxtOk l.prog w K mg base CX0 8 ⟨[], G_by_turns, bs, cs⟩ := T7.cons (F := F_is_order) (i := 173) (PySem.W.mg_of X G a7) k7 (fun j hj => by
    have : j = 0 := Nat.le_zero.mp hj
    subst this
    exact B7.binds (ps := F_is_order.ps) fun _ _ _ _ _ _ us hl => match us, hl with | [_, _], _ => rfl) O7
  have B8 := funD_mk l8 c8 k8 e8
  have O8 : FnOk l.prog w K mg base CX0 9 f8 _ F_by_turns.ps (F_by_turns.sp K mg) := def_okD B8 sc_by_turns (T8.names N_by_turns) ck_by_turns
  have T9 : TxtOk l.prog w K mg base CX0 9 ⟨[], G__law_seen, bs, cs⟩ := T8.cons (F := F_by_turns) (i := 139) (PySem.W.mg_of X G a8) k8 (fun j hj => by
    exact dflt_binds (ps := F_by_turns.ps) B8 1 rfl (fun _ _ _ _ _ _ _ us its h1 h2 => match us, h1, its, h2 with | [_, _], _, [_], _ => ⟨_, rfl, rfl⟩) (fun _ _ _ _ _ _ _ us its h1 h2 => match us, h1, its, h2 with | [_], _, [_], _ => ⟨_, rfl, rfl⟩) j hj) O8
  have B9 := (fun_mk (st := top 17) l9 c9 k9)
  have O9 : FnOk l.prog w K mg base CX0 10 f9 _ F__law_seen.ps (F__law_seen.sp K mg) := def_ok B9 sc__law_seen (T9.names N__law_seen) ck__law_seen
  have T10 : TxtOk l.prog w K mg base CX0 10 ⟨[], G__law_no_envy_behind, bs, cs⟩ := T9.cons (F := F__law_seen) (i := 99) (PySem.W.mg_of X G a9) k9 (fun j hj => by
    have : j = 0 := Nat.le_zero.mp hj
    subst this
    exact B9.binds (ps := F__law_seen.ps) fun _ _ _ _ _ _ us hl => match us, hl with | [_, _, _, _], _ => rfl) O9
  have B10 := (fun_mk (st := top 19) l10 c10 k10)
  have O10 : FnOk l.prog w K mg base CX0 11 f10 _ F__law_no_envy_behind.ps (F__law_no_envy_behind.sp K mg) := def_ok B10 sc__law_no_envy_behind (T10.names N__law_no_envy_behind) ck__law_no_envy_behind
  have T11 : TxtOk l.prog w K mg base CX0 11 ⟨[], G__law_order, bs, cs⟩ := T10.cons (F := F__law_no_envy_behind) (i := 67) (PySem.W.mg_of X G a10) k10 (fun j hj => by
    have : j = 0 := Nat.le_zero.mp hj
    subst this
    exact B10.binds (ps := F__law_no_envy_behind.ps) fun _ _ _ _ _ _ us hl => match us, hl with | [_, _, _], _ => rfl) O10
  have B11 := (fun_mk (st := top 16) l11 c11 k11)
  have O11 : FnOk l.prog w K mg base CX0 12 f11 _ F__law_order.ps (F__law_order.sp K mg) := def_ok B11 sc__law_order (T11.names N__law_order) ck__law_order
  have T12 : TxtOk l.prog w K mg base CX0 12 ⟨[], G__law_first, bs, cs⟩ := T11.cons (F := F__law_order) (i := 76) (PySem.W.mg_of X G a11) k11 (fun j hj => by
    have : j = 0 := Nat.le_zero.mp hj
    subst this
    exact B11.binds (ps := F__law_order.ps) fun _ _ _ _ _ _ us hl => match us, hl with | [_, _], _ => rfl) O11
  have B12 := (fun_mk (st := top 18) l12 c12 k12)
  have O12 : FnOk l.prog w K mg base CX0 13 f12 _ F__law_first.ps (F__law_first.sp K mg) := def_ok B12 sc__law_first (T12.names N__law_first) ck__law_first
  have T13 : TxtOk l.prog w K mg base CX0 13 ⟨[], G_law, bs, cs⟩ := T12.cons (F := F__law_first) (i := 35) (PySem.W.mg_of X G a12) k12 (fun j hj => by
    have : j = 0 := Nat.le_zero.mp hj
    subst this
    exact B12.binds (ps := F__law_first.ps) fun _ _ _ _ _ _ us hl => match us, hl with | [_, _], _ => rfl) O12
  have B13 := (fun_mk (st := top 20) l13 c13 k13)
  have O13 : FnOk l.prog w K mg base CX0 14 fa _ F_law.ps (F_law.sp K mg) := def_ok B13 sc_law (T13.names N_law) ck_law
  exact O13
theorem walk {l : PySem.W.OpenLaw} {q : Program} {loose : List Str} {XP : (Str → Option Value) → Heap → Prop} {YP : World → Heap → Prop} {d : DefRec} {K : Params → PySem.W.Frag} (hn : l.most = some 63) (hdf : d.params.defaults = [])
    (hY : ∀ (w : World) (h : Heap), YP w h → (K w.params).In h)
    (F : ∀ (w : World) (mg : Str → Option Value) (fa : Addr) (h : Heap), (K w.params).In h → h.Ns mainGlobals mg → mg d.name = some (.ref fa) →
      ∃ fd : FuncData, (∀ (s : Shared) (u : Value), BindsTo s fd ⟨[u], []⟩ [("_law_script", u)]) ∧ ∀ base : Heap, (K w.params).In base → base.Ns mainGlobals mg → FnOk l.prog w (K w.params) mg base CX0 14 fa fd ["_law_script"] (F_law.sp (K w.params) mg)) :
    PySem.W.WalkO q loose XP YP l.row.toRowW d [] (fun f vs => PySem.call f vs) :=
  law_walk hn hdf ⟨rfl, by decide, by decide⟩ hY F rfl run_law
end Lk22
open PySem PySem.W PyProof.Rows in
set_option maxRecDepth 100000 in
set_option maxHeartbeats 0 in
theorem PySem.Challenge.cw_leastenvy_k22_turns_without_envy_holds : PySem.Challenge.rw_leastenvy_k22_turns_without_envy.Holds := by
  w_on; o_law; k_head; (case hw => w_witness2)
  k_fill
  refine Lk22.walk (l := PySem.Challenge.rw_leastenvy_k22_turns_without_envy) rfl rfl (fun w h Y => PySem.W.kIn_of Y) ?F
  case F =>
    intro w mg fa h KX G hmg
    refine' Lk22.all_mk KX G hmg ?a0 ?l0 ?c0 ?k0 ?a1 ?l1 ?c1 ?k1 ?a2 ?l2 ?c2 ?k2 ?a3 ?l3 ?c3 ?k3 ?a4 ?l4 ?c4 ?k4 ?a5 ?l5 ?c5 ?k5 ?a6 ?l6 ?c6 ?k6 ?a7 ?l7 ?c7 ?k7 ?a8 ?l8 ?c8 ?k8 ?e8 ?a9 ?l9 ?c9 ?k9 ?a10 ?l10 ?c10 ?k10 ?a11 ?l11 ?c11 ?k11 ?a12 ?l12 ?c12 ?k12 ?a13 ?l13 ?c13 ?k13 ?z0 ?z1 ?z2 ?z3 ?z4 ?z5
    (case a0 => k_is)
    (case l0 => k_is)
    (case c0 => k_is)
    (case k0 => k_is)
    (case a1 => k_is)
    (case l1 => k_is)
    (case c1 => k_is)
    (case k1 => k_is)
    (case a2 => k_is)
    (case l2 => k_is)
    (case c2 => k_is)
    (case k2 => k_is)
    (case a3 => k_is)
    (case l3 => k_is)
    (case c3 => k_is)
    (case k3 => k_is)
    (case a4 => k_is)
    (case l4 => k_is)
    (case c4 => k_is)
    (case k4 => k_is)
    (case a5 => k_is)
    (case l5 => k_is)
    (case c5 => k_is)
    (case k5 => k_is)
    (case a6 => k_is)
    (case l6 => k_is)
    (case c6 => k_is)
    (case k6 => k_is)
    (case a7 => k_is)
    (case l7 => k_is)
    (case c7 => k_is)
    (case k7 => k_is)
    (case a8 => k_is)
    (case l8 => k_is)
    (case c8 => k_is)
    (case k8 => k_is)
    (case e8 => k_is)
    (case a9 => k_is)
    (case l9 => k_is)
    (case c9 => k_is)
    (case k9 => k_is)
    (case a10 => k_is)
    (case l10 => k_is)
    (case c10 => k_is)
    (case k10 => k_is)
    (case a11 => k_is)
    (case l11 => k_is)
    (case c11 => k_is)
    (case k11 => k_is)
    (case a12 => k_is)
    (case l12 => k_is)
    (case c12 => k_is)
    (case k12 => k_is)
    (case a13 => k_is)
    (case l13 => k_is)
    (case c13 => k_is)
    (case k13 => k_is)
    (case z0 => k_is)
    (case z1 => k_is)
    (case z2 => k_is)
    (case z3 => k_is)
    (case z4 => k_is)
    (case z5 => k_is)
#print axioms PySem.Challenge.cw_leastenvy_k22_turns_without_envy_holds

