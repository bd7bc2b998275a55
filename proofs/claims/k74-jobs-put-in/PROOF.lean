import PyProof.Rows.All
import Wide.All
import OpenK.AllK
import Wide.FinOn
import HandS.ForMost
import HandS.Wide
import HandS.Evl
import HandS.Steps
import HandS.IsInst
import HandS.Star
import HandS.Property
import HandS.Style
import KE.GoesMore
import KE.GoesEnum
import HandS.Defaults
import PyProof.DictMoreH
import HandS.Dict
import HandS.Sort
import HandS.Flt
import KE.KStateDown
import Lean
import HandS.Base
import HandS.Call
import HandS.Ends
import HandS.More
import HandS.Words
import HandS.WordsExc
import HandS.Head0
import HandS.Head1
import HandS.Head2
import HandS.HeadEnd
import HandS.HeadHook1
import HandS.HeadHook2
import PySem.Challenge.RW_turnscover_k74_whole_jobs_put_in_one_by
set_option Elab.async false
set_option linter.all false
set_option maxRecDepth 100000
set_option maxHeartbeats 2000000
/-! The value layer: a def's body told by a function over plain data; what is read is data (D), what is written stands in a store (MO). -/
namespace VL
open PySem L2

/-- plain data, never written again -/
inductive D where
  | non | bl (b : Bool) | int (i : Int) | str (x : Str)
  | tup (ds : List D) | lst (ds : List D) | scr (ns : List Int)
  | dic (ks : List Key) (ds : List D)
  | ins (C : Addr) (ks : List Str) (ds : List D)
  | adr (a : Addr) | ty (n : String) | rng (lo hi : Int)
  deriving Inhabited

abbrev Ext (H H' : Hp) : Prop := ∀ a o, H a = some o → H' a = some o
theorem Ext.rfl {H : Hp} : Ext H H := fun _ _ h => h
theorem Ext.tr {H H1 H2 : Hp} (a : Ext H H1) (b : Ext H1 H2) : Ext H H2 := fun x o h => b x o (a x o h)

mutual
def Rep (K : PySem.W.Frag) (G : Hp) : D → V → Prop
  | .non, v => v = .non
  | .bl b, v => v = .bl b
  | .int i, v => v = .int i
  | .str x, v => v = .str x
  | .tup ds, v => ∃ a xs, v = .ref a ∧ G a = some (.tup xs) ∧ xs.length ≤ sizeLine ∧ Reps K G ds xs
  | .lst ds, v => ∃ a xs, v = .ref a ∧ G a = some (.lst xs) ∧ xs.length ≤ sizeLine ∧ Reps K G ds xs
  | .scr ns, v => ∃ a, v = .ref a ∧ SqL K G a (ns.map V.int)
  | .dic ks ds, v => ∃ a xs, v = .ref a ∧ G a = some (.dK (ks.zip xs)) ∧ ks.length = xs.length ∧ Reps K G ds xs
  | .ins C ks ds, v => ∃ a dx xs, v = .ref a ∧ G a = some (.ins C dx (ks.zip xs)) ∧ ks.length = xs.length ∧ Reps K G ds xs
  | .adr a, v => v = .ref a
  | .rng lo hi, v => ∃ a, v = .ref a ∧ G a = some (.rng lo hi)
  | .ty n, v => v = .ty n
def Reps (K : PySem.W.Frag) (G : Hp) : List D → List V → Prop
  | [], xs => xs = []
  | d :: ds, xs => ∃ x r, xs = x :: r ∧ Rep K G d x ∧ Reps K G ds r
end

theorem sqt_mono {K : PySem.W.Frag} {H H' : Hp} {a : Addr} {xs : List V} (e : Ext H H') (h : SqT K H a xs) : SqT K H' a xs := Evl.ex_t e h
theorem sql_mono {K : PySem.W.Frag} {H H' : Hp} {a : Addr} {xs : List V} (e : Ext H H') (h : SqL K H a xs) : SqL K H' a xs := Evl.ex_l e h

mutual
theorem Rep.mono {K : PySem.W.Frag} {G G' : Hp} (e : Ext G G') : ∀ (d : D) (v : V), Rep K G d v → Rep K G' d v
  | .non, v, h => h
  | .bl b, v, h => h
  | .int i, v, h => h
  | .str x, v, h => h
  | .tup ds, v, h => by
    unfold Rep at h ⊢
    obtain ⟨a, xs, h1, h2, h3, h4⟩ := h
    exact ⟨a, xs, h1, e _ _ h2, h3, Reps.mono e ds xs h4⟩
  | .lst ds, v, h => by
    unfold Rep at h ⊢
    obtain ⟨a, xs, h1, h2, h3, h4⟩ := h
    exact ⟨a, xs, h1, e _ _ h2, h3, Reps.mono e ds xs h4⟩
  | .scr ns, v, h => by
    unfold Rep at h ⊢
    obtain ⟨a, h1, h2⟩ := h
    exact ⟨a, h1, sql_mono e h2⟩
  | .dic ks ds, v, h => by
    unfold Rep at h ⊢
    obtain ⟨a, xs, h1, h2, h3, h4⟩ := h
    exact ⟨a, xs, h1, e _ _ h2, h3, Reps.mono e ds xs h4⟩
  | .ins C ks ds, v, h => by
    unfold Rep at h ⊢
    obtain ⟨a, dx, xs, h1, h2, h3, h4⟩ := h
    exact ⟨a, dx, xs, h1, e _ _ h2, h3, Reps.mono e ds xs h4⟩
  | .adr a, v, h => h
  | .rng lo hi, v, h => by
    unfold Rep at h ⊢
    obtain ⟨a, h1, h2⟩ := h
    exact ⟨a, h1, e _ _ h2⟩
  | .ty n, v, h => h
theorem Reps.mono {K : PySem.W.Frag} {G G' : Hp} (e : Ext G G') : ∀ (ds : List D) (xs : List V), Reps K G ds xs → Reps K G' ds xs
  | [], xs, h => h
  | d :: ds, xs, h => by
    unfold Reps at h ⊢
    obtain ⟨x, r, h1, h2, h3⟩ := h
    exact ⟨x, r, h1, Rep.mono e d x h2, Reps.mono e ds r h3⟩
end

section
variable {K : PySem.W.Frag} {G : Hp}
theorem reps_nil {xs : List V} : Reps K G [] xs ↔ xs = [] := by unfold Reps; exact Iff.rfl
theorem reps_cons {d : D} {ds : List D} {xs : List V} : Reps K G (d :: ds) xs ↔ ∃ x r, xs = x :: r ∧ Rep K G d x ∧ Reps K G ds r := by
  conv => lhs; unfold Reps
theorem Reps.length : ∀ {ds : List D} {xs : List V}, Reps K G ds xs → ds.length = xs.length
  | [], xs, h => by rw [reps_nil.mp h]; rfl
  | d :: ds, xs, h => by
    obtain ⟨x, r, rfl, _, h3⟩ := reps_cons.mp h
    simp [Reps.length h3]
theorem Reps.get : ∀ {ds : List D} {xs : List V} {i : Nat} {d : D}, Reps K G ds xs → ds[i]? = some d → ∃ x, xs[i]? = some x ∧ Rep K G d x
  | [], _, i, d, h, e => by simp at e
  | d0 :: ds, xs, 0, d, h, e => by
    obtain ⟨x, r, rfl, h2, _⟩ := reps_cons.mp h
    simp at e; subst e
    exact ⟨x, by simp, h2⟩
  | d0 :: ds, xs, i + 1, d, h, e => by
    obtain ⟨x, r, rfl, _, h3⟩ := reps_cons.mp h
    obtain ⟨y, e1, e2⟩ := Reps.get (i := i) h3 (by simpa using e)
    exact ⟨y, by simpa using e1, e2⟩
theorem Reps.append : ∀ {ds es : List D} {xs ys : List V}, Reps K G ds xs → Reps K G es ys → Reps K G (ds ++ es) (xs ++ ys)
  | [], es, xs, ys, h, k => by rw [reps_nil.mp h]; exact k
  | d :: ds, es, xs, ys, h, k => by
    obtain ⟨x, r, rfl, h2, h3⟩ := reps_cons.mp h
    exact reps_cons.mpr ⟨x, r ++ ys, rfl, h2, Reps.append h3 k⟩
theorem Reps.one {d : D} {x : V} (h : Rep K G d x) : Reps K G [d] [x] := reps_cons.mpr ⟨x, [], rfl, h, reps_nil.mpr rfl⟩
theorem Reps.set : ∀ {ds : List D} {xs : List V} {d : D} {x : V} (i : Nat), Reps K G ds xs → Rep K G d x → Reps K G (ds.set i d) (xs.set i x)
  | [], xs, d, x, i, h, k => by rw [reps_nil.mp h]; exact reps_nil.mpr rfl
  | d0 :: ds, xs, d, x, 0, h, k => by
    obtain ⟨y, r, rfl, h2, h3⟩ := reps_cons.mp h
    exact reps_cons.mpr ⟨x, r, rfl, k, h3⟩
  | d0 :: ds, xs, d, x, i + 1, h, k => by
    obtain ⟨y, r, rfl, h2, h3⟩ := reps_cons.mp h
    exact reps_cons.mpr ⟨y, r.set i x, rfl, h2, Reps.set i h3 k⟩
theorem Reps.take : ∀ {ds : List D} {xs : List V} (n : Nat), Reps K G ds xs → Reps K G (ds.take n) (xs.take n)
  | _, _, 0, _ => by simpa using reps_nil.mpr rfl
  | [], xs, n + 1, h => by rw [reps_nil.mp h]; exact reps_nil.mpr rfl
  | d :: ds, xs, n + 1, h => by
    obtain ⟨x, r, rfl, h2, h3⟩ := reps_cons.mp h
    exact reps_cons.mpr ⟨x, r.take n, rfl, h2, Reps.take n h3⟩
theorem Reps.drop : ∀ {ds : List D} {xs : List V} (n : Nat), Reps K G ds xs → Reps K G (ds.drop n) (xs.drop n)
  | _, _, 0, h => by simpa using h
  | [], xs, n + 1, h => by rw [reps_nil.mp h]; exact reps_nil.mpr rfl
  | d :: ds, xs, n + 1, h => by
    obtain ⟨x, r, rfl, h2, h3⟩ := reps_cons.mp h
    exact Reps.drop n h3
theorem Reps.dropLast {ds : List D} {xs : List V} (h : Reps K G ds xs) : Reps K G ds.dropLast xs.dropLast := by
  rw [List.dropLast_eq_take, List.dropLast_eq_take, h.length]
  exact h.take _
theorem Reps.erase : ∀ {ds : List D} {xs : List V} (n : Nat), Reps K G ds xs → Reps K G (ds.eraseIdx n) (xs.eraseIdx n)
  | [], xs, n, h => by rw [reps_nil.mp h]; exact reps_nil.mpr rfl
  | d :: ds, xs, 0, h => by
    obtain ⟨x, r, rfl, h2, h3⟩ := reps_cons.mp h
    exact h3
  | d :: ds, xs, n + 1, h => by
    obtain ⟨x, r, rfl, h2, h3⟩ := reps_cons.mp h
    exact reps_cons.mpr ⟨x, r.eraseIdx n, rfl, h2, Reps.erase n h3⟩
theorem Reps.reverse {ds : List D} {xs : List V} (h : Reps K G ds xs) : Reps K G ds.reverse xs.reverse := by
  induction ds generalizing xs with
  | nil => rw [reps_nil.mp h]; exact reps_nil.mpr rfl
  | cons d ds ih =>
    obtain ⟨x, r, rfl, h2, h3⟩ := reps_cons.mp h
    rw [List.reverse_cons, List.reverse_cons]
    exact (ih h3).append (.one h2)
theorem Reps.ints : ∀ {ns : List Int} {xs : List V}, Reps K G (ns.map D.int) xs → xs = ns.map V.int
  | [], xs, h => reps_nil.mp h
  | n :: ns, xs, h => by
    obtain ⟨x, r, rfl, h2, h3⟩ := reps_cons.mp h
    unfold Rep at h2
    rw [h2, Reps.ints h3]; rfl
theorem Reps.of_ints : ∀ (ns : List Int), Reps K G (ns.map D.int) (ns.map V.int)
  | [] => reps_nil.mpr rfl
  | n :: ns => reps_cons.mpr ⟨.int n, _, rfl, by unfold Rep; rfl, Reps.of_ints ns⟩
theorem Reps.bls : ∀ {ns : List Bool} {xs : List V}, Reps K G (ns.map D.bl) xs → xs = ns.map V.bl
  | [], xs, h => reps_nil.mp h
  | n :: ns, xs, h => by
    obtain ⟨x, r, rfl, h2, h3⟩ := reps_cons.mp h
    unfold Rep at h2
    rw [h2, Reps.bls h3]; rfl
end

/-- a value: data, or a thing of the store -/
inductive W where
  | d (d : D) | own (k : Nat)
  deriving Inhabited
/-- a thing of the store: a list of data, a dict, an instance; dead: given up -/
inductive MO where
  | dead | lst (ds : List D) | dict (kvs : List (Key × W)) | dicT (kvs : List (List Key × W)) | ins (C : Addr) (ks : List Str) (ds : List D)
  deriving Inhabited
abbrev Sto := List MO

def RepW (K : PySem.W.Frag) (G : Hp) (ρ : List Addr) : W → V → Prop
  | .d d, v => Rep K G d v
  | .own k, v => ∃ a, ρ[k]? = some a ∧ v = .ref a
def W.below (n : Nat) : W → Prop
  | .d _ => True
  | .own k => k < n
def MO.below (n : Nat) : MO → Prop
  | .dict kvs => ∀ p ∈ kvs, p.2.below n
  | .dicT kvs => ∀ p ∈ kvs, p.2.below n
  | _ => True
def MOk (K : PySem.W.Frag) (G : Hp) (ρ : List Addr) : MO → HO → Prop
  | .dead, _ => True
  | .lst ds, o => ∃ xs, o = .lst xs ∧ Reps K G ds xs ∧ xs.length ≤ sizeLine
  | .dict kvs, o => ∃ ys, o = .dK ys ∧ Paired (fun (p : Key × W) (q : Key × V) => p.1 = q.1 ∧ RepW K G ρ p.2 q.2) kvs ys
  | .dicT kvs, o => ∃ ys, o = .dT ys ∧ Paired (fun (p : List Key × W) (q : List Key × V) => p.1 = q.1 ∧ RepW K G ρ p.2 q.2) kvs ys
  | .ins C ks ds, o => ∃ dx xs, o = .ins C dx (ks.zip xs) ∧ ks.length = xs.length ∧ Reps K G ds xs

/-- where one stands: what is known for ever (G), the store's addresses (ρ), the store, what is hidden (F) -/
structure Cf where
  G : Hp
  ρ : List Addr
  O : Sto
  F : Hp
def Live (m : MO) : Prop := m ≠ .dead
structure Rel (K : PySem.W.Frag) (c : Cf) (H : Hp) : Prop where
  ex : Ext c.G H
  len : c.ρ.length = c.O.length
  live : ∀ (k : Nat) (m : MO) (a : Addr), c.O[k]? = some m → c.ρ[k]? = some a → m ≠ .dead → c.G a = none ∧ c.F a = none ∧ ∃ o, H a = some o ∧ MOk K c.G c.ρ m o
  inj : ∀ (j k : Nat) (mj mk : MO) (a : Addr), c.O[j]? = some mj → c.O[k]? = some mk → mj ≠ .dead → mk ≠ .dead → c.ρ[j]? = some a → c.ρ[k]? = some a → j = k
  fr : ∀ (a : Addr) (o : HO), c.F a = some o → H a = some o ∧ c.G a = none
  wf : ∀ (k : Nat) (m : MO), c.O[k]? = some m → m.below k
structure Le (c c' : Cf) : Prop where
  ex : Ext c.G c'.G
  pre : ∀ (k : Nat) (a : Addr), c.ρ[k]? = some a → c'.ρ[k]? = some a
  fr : c.F = c'.F
theorem Le.rfl {c : Cf} : Le c c := ⟨Ext.rfl, fun _ _ h => h, Eq.refl _⟩
theorem Le.tr {c c1 c2 : Cf} (a : Le c c1) (b : Le c1 c2) : Le c c2 := ⟨a.ex.tr b.ex, fun k x h => b.pre k x (a.pre k x h), a.fr.trans b.fr⟩

theorem RepW.mono {K : PySem.W.Frag} {G G' : Hp} {ρ ρ' : List Addr} (e : Ext G G') (p : ∀ (k : Nat) (a : Addr), ρ[k]? = some a → ρ'[k]? = some a) : ∀ {w : W} {v : V}, RepW K G ρ w v → RepW K G' ρ' w v
  | .d d, v, h => Rep.mono e d v h
  | .own k, v, h => by
    obtain ⟨a, h1, h2⟩ := h
    exact ⟨a, p _ _ h1, h2⟩
theorem RepW.le {K : PySem.W.Frag} {c c' : Cf} (l : Le c c') {w : W} {v : V} (h : RepW K c.G c.ρ w v) : RepW K c'.G c'.ρ w v := h.mono l.ex l.pre
theorem MOk.mono {K : PySem.W.Frag} {G G' : Hp} {ρ ρ' : List Addr} (e : Ext G G') (p : ∀ (k : Nat) (a : Addr), ρ[k]? = some a → ρ'[k]? = some a) : ∀ {m : MO} {o : HO}, MOk K G ρ m o → MOk K G' ρ' m o
  | .dead, o, h => trivial
  | .lst ds, o, h => by
    obtain ⟨xs, h1, h2, h3⟩ := h
    exact ⟨xs, h1, Reps.mono e _ _ h2, h3⟩
  | .dict kvs, o, h => by
    obtain ⟨ys, h1, h2⟩ := h
    exact ⟨ys, h1, h2.mono fun a b z => ⟨z.1, z.2.mono e p⟩⟩
  | .dicT kvs, o, h => by
    obtain ⟨ys, h1, h2⟩ := h
    exact ⟨ys, h1, h2.mono fun a b z => ⟨z.1, z.2.mono e p⟩⟩
  | .ins C ks ds, o, h => by
    obtain ⟨dx, xs, h1, h2, h3⟩ := h
    exact ⟨dx, xs, h1, h2, Reps.mono e _ _ h3⟩

section
variable {K : PySem.W.Frag} {c : Cf} {H : Hp} {p : Addr} {o : HO}
theorem Rel.gnone (r : Rel K c H) (h : H p = none) : c.G p = none := by
  cases e : c.G p with
  | none => rfl
  | some o => rw [r.ex p o e] at h; cases h
theorem Rel.fnone (r : Rel K c H) (h : H p = none) : c.F p = none := by
  cases e : c.F p with
  | none => rfl
  | some o => rw [(r.fr p o e).1] at h; cases h
theorem upd_ext {H : Hp} (h : H p = none) : Ext H (upd H p o) := fun a u e => by rw [upd_ne (ne_of_none e h)]; exact e
theorem upd_ext2 {G H : Hp} (h : Ext G H) (hp : H p = none) : Ext (upd G p o) (upd H p o) := fun a u e => by
  by_cases q : a = p
  · subst q; rw [upd_same] at e ⊢; exact e
  · rw [upd_ne q] at e ⊢; exact h a u e
/-- a new thing, known for ever -/
def Cf.know (c : Cf) (p : Addr) (o : HO) : Cf := { c with G := upd c.G p o }
theorem Rel.know (r : Rel K c H) (h : H p = none) : Rel K (c.know p o) (upd H p o) where
  ex := upd_ext2 r.ex h
  len := r.len
  live := fun k m a h1 h2 h3 => by
    obtain ⟨g, f, o', e, mk⟩ := r.live k m a h1 h2 h3
    have ne : a ≠ p := ne_of_none e h
    refine ⟨?_, f, o', ?_, mk.mono (upd_ext (r.gnone h)) fun _ _ z => z⟩
    · show upd c.G p o a = none
      rw [upd_ne ne]; exact g
    · rw [upd_ne ne]; exact e
  inj := r.inj
  fr := fun a o' e => by
    obtain ⟨e1, e2⟩ := r.fr a o' e
    have ne : a ≠ p := ne_of_none e1 h
    refine ⟨by rw [upd_ne ne]; exact e1, ?_⟩
    show upd c.G p o a = none
    rw [upd_ne ne]; exact e2
  wf := r.wf
theorem Rel.know_le (r : Rel K c H) (h : H p = none) : Le c (c.know p o) := ⟨upd_ext (r.gnone h), fun _ _ z => z, rfl⟩
/-- a new thing of the store -/
def Cf.push (c : Cf) (p : Addr) (m : MO) : Cf := { c with ρ := c.ρ ++ [p], O := c.O ++ [m] }
theorem pre_app {ρ : List Addr} (k : Nat) (a : Addr) (h : ρ[k]? = some a) : (ρ ++ [p])[k]? = some a := by
  rw [List.getElem?_append_left (List.getElem?_eq_some_iff.mp h).1]; exact h
theorem app_at {α : Type} {l : List α} {x y : α} {k : Nat} (h : (l ++ [x])[k]? = some y) : (k < l.length ∧ l[k]? = some y) ∨ (k = l.length ∧ x = y) := by
  by_cases q : k < l.length
  · exact .inl ⟨q, by rwa [List.getElem?_append_left q] at h⟩
  · rw [List.getElem?_append_right (by omega)] at h
    have q2 : k = l.length := by
      have := (List.getElem?_eq_some_iff.mp h).1
      simp at this; omega
    subst q2
    simp at h
    exact .inr ⟨rfl, h⟩
theorem Rel.push {m : MO} (r : Rel K c H) (h : H p = none) (hm : MOk K c.G c.ρ m o) (hb : m.below c.O.length) : Rel K (c.push p m) (upd H p o) where
  ex := r.ex.tr (upd_ext h)
  len := by show (c.ρ ++ [p]).length = (c.O ++ [m]).length; simp [r.len]
  live := fun k m' a h1 h2 h3 => by
    rcases app_at h1 with ⟨k1, e1⟩ | ⟨k1, e1⟩
    · rcases app_at h2 with ⟨k2, e2⟩ | ⟨k2, e2⟩
      · obtain ⟨g, f, o', e, mk⟩ := r.live k m' a e1 e2 h3
        exact ⟨g, f, o', by rw [upd_ne (ne_of_none e h)]; exact e, mk.mono Ext.rfl pre_app⟩
      · rw [r.len] at k2; omega
    · rcases app_at h2 with ⟨k2, e2⟩ | ⟨k2, e2⟩
      · rw [r.len] at k2; omega
      · subst e1 e2
        exact ⟨r.gnone h, r.fnone h, o, upd_same, hm.mono Ext.rfl pre_app⟩
  inj := fun j k mj mk a h1 h2 h3 h4 h5 h6 => by
    rcases app_at h1 with ⟨k1, e1⟩ | ⟨k1, e1⟩
    · rcases app_at h2 with ⟨k2, e2⟩ | ⟨k2, e2⟩
      · rcases app_at h5 with ⟨k5, e5⟩ | ⟨k5, e5⟩
        · rcases app_at h6 with ⟨k6, e6⟩ | ⟨k6, e6⟩
          · exact r.inj j k mj mk a e1 e2 h3 h4 e5 e6
          · rw [r.len] at k6; omega
        · rw [r.len] at k5; omega
      · rcases app_at h5 with ⟨k5, e5⟩ | ⟨k5, e5⟩
        · rcases app_at h6 with ⟨k6, e6⟩ | ⟨k6, e6⟩
          · rw [r.len] at k6; omega
          · subst e6
            obtain ⟨_, _, o', e, _⟩ := r.live j mj _ e1 e5 h3
            rw [h] at e; cases e
        · rw [r.len] at k5; omega
    · rcases app_at h2 with ⟨k2, e2⟩ | ⟨k2, e2⟩
      · rcases app_at h5 with ⟨k5, e5⟩ | ⟨k5, e5⟩
        · rw [r.len] at k5; omega
        · rcases app_at h6 with ⟨k6, e6⟩ | ⟨k6, e6⟩
          · subst e5
            obtain ⟨_, _, o', e, _⟩ := r.live k mk _ e2 e6 h4
            rw [h] at e; cases e
          · rw [r.len] at k6; omega
      · omega
  fr := fun a o' e => by
    obtain ⟨e1, e2⟩ := r.fr a o' e
    exact ⟨by rw [upd_ne (ne_of_none e1 h)]; exact e1, e2⟩
  wf := fun k m' h1 => by
    rcases app_at h1 with ⟨k1, e1⟩ | ⟨k1, e1⟩
    · exact r.wf k m' e1
    · subst e1; rw [k1]; exact hb
theorem Cf.push_le (c : Cf) (p : Addr) (m : MO) : Le c (c.push p m) := ⟨Ext.rfl, pre_app, rfl⟩
theorem Cf.push_own (r : Rel K c H) {m : MO} : (c.push p m).ρ[c.O.length]? = some p := by
  show (c.ρ ++ [p])[c.O.length]? = some p
  rw [← r.len]; simp
/-- a thing of the store, where it stands -/
theorem Rel.at_ (r : Rel K c H) {k : Nat} {m : MO} (h : c.O[k]? = some m) (hl : m ≠ .dead) : ∃ a o, c.ρ[k]? = some a ∧ H a = some o ∧ MOk K c.G c.ρ m o ∧ c.G a = none ∧ c.F a = none := by
  have hk : k < c.ρ.length := by rw [r.len]; exact (List.getElem?_eq_some_iff.mp h).1
  obtain ⟨g, f, o, e, mk⟩ := r.live k m c.ρ[k] h (List.getElem?_eq_getElem hk) hl
  exact ⟨_, o, List.getElem?_eq_getElem hk, e, mk, g, f⟩
/-- it is written -/
def Cf.put (c : Cf) (k : Nat) (m : MO) : Cf := { c with O := c.O.set k m }
theorem Cf.put_le (c : Cf) (k : Nat) (m : MO) : Le c (c.put k m) := ⟨Ext.rfl, fun _ _ z => z, rfl⟩
theorem set_at {α : Type} {l : List α} {x y : α} {i k : Nat} (h : (l.set i x)[k]? = some y) : (k = i ∧ x = y) ∨ (k ≠ i ∧ l[k]? = some y) := by
  by_cases q : i = k
  · subst q
    have hk : i < l.length := by have := (List.getElem?_eq_some_iff.mp h).1; simpa using this
    rw [List.getElem?_set_self hk] at h
    exact .inl ⟨rfl, by simpa using h⟩
  · rw [List.getElem?_set_ne q] at h
    exact .inr ⟨fun e => q e.symm, h⟩
theorem Rel.put (r : Rel K c H) {k : Nat} {m m' : MO} {a : Addr} (h : c.O[k]? = some m) (hl : m ≠ .dead) (ha : c.ρ[k]? = some a) (hm : MOk K c.G c.ρ m' o) (hb : m'.below k) : Rel K (c.put k m') (upd H a o) := by
  obtain ⟨ga, fa, o0, ea, _⟩ := r.live k m a h ha hl
  refine ⟨fun b u e => ?_, by show c.ρ.length = (c.O.set k m').length; simp [r.len], fun j mj b h1 h2 h3 => ?_, fun i j mi mj b h1 h2 h3 h4 h5 h6 => ?_, fun b u e => ?_, fun j mj h1 => ?_⟩
  · have e : c.G b = some u := e
    have ne : b ≠ a := fun q => by subst q; rw [ga] at e; cases e
    rw [upd_ne ne]; exact r.ex b u e
  · rcases set_at h1 with ⟨q, e1⟩ | ⟨q, e1⟩
    · subst q e1
      have h2 : c.ρ[j]? = some b := h2
      rw [ha] at h2; cases h2
      exact ⟨ga, fa, o, upd_same, hm⟩
    · obtain ⟨g, f, o', e, mk⟩ := r.live j mj b e1 h2 h3
      have ne : b ≠ a := fun z => by
        subst z
        exact q (r.inj j k mj m b e1 h h3 hl h2 ha)
      exact ⟨g, f, o', by rw [upd_ne ne]; exact e, mk⟩
  · have fnd : ∀ (i : Nat) (mi : MO), (c.O.set k m')[i]? = some mi → mi ≠ MO.dead → ∃ m0 : MO, c.O[i]? = some m0 ∧ m0 ≠ MO.dead := fun i mi z nd => by
      rcases set_at z with ⟨q, e1⟩ | ⟨q, e1⟩
      · subst q; exact ⟨m, h, hl⟩
      · exact ⟨mi, e1, nd⟩
    obtain ⟨m1, e1, n1⟩ := fnd i mi h1 h3
    obtain ⟨m2, e2, n2⟩ := fnd j mj h2 h4
    exact r.inj i j m1 m2 b e1 e2 n1 n2 h5 h6
  · obtain ⟨e1, e2⟩ := r.fr b u e
    have ne : b ≠ a := fun q => by
      subst q
      have e : c.F b = some u := e
      rw [fa] at e; cases e
    exact ⟨by rw [upd_ne ne]; exact e1, e2⟩
  · rcases set_at h1 with ⟨q, e1⟩ | ⟨q, e1⟩
    · subst q e1; exact hb
    · exact r.wf j mj e1
/-- a thing of the store is given up and known for ever as it is -/
def Cf.ice (c : Cf) (k : Nat) (a : Addr) (o : HO) : Cf := { c with G := upd c.G a o, O := c.O.set k .dead }
theorem Rel.ice (r : Rel K c H) {k : Nat} {m : MO} {a : Addr} (h : c.O[k]? = some m) (hl : m ≠ .dead) (ha : c.ρ[k]? = some a) (ho : H a = some o) : Rel K (c.ice k a o) H ∧ Le c (c.ice k a o) := by
  obtain ⟨ga, fa, o0, ea, _⟩ := r.live k m a h ha hl
  have ext : Ext c.G (upd c.G a o) := upd_ext ga
  refine ⟨⟨fun b u e => ?_, by show c.ρ.length = (c.O.set k .dead).length; simp [r.len], fun j mj b h1 h2 h3 => ?_, fun i j mi mj b h1 h2 h3 h4 h5 h6 => ?_, fun b u e => ?_, fun j mj h1 => ?_⟩, ext, fun _ _ z => z, rfl⟩
  · have e : upd c.G a o b = some u := e
    by_cases q : b = a
    · subst q; rw [upd_same] at e; cases e; exact ho
    · rw [upd_ne q] at e; exact r.ex b u e
  · rcases set_at h1 with ⟨q, e1⟩ | ⟨q, e1⟩
    · exact absurd e1.symm h3
    · obtain ⟨g, f, o', e, mk⟩ := r.live j mj b e1 h2 h3
      have ne : b ≠ a := fun z => by
        subst z
        exact q (r.inj j k mj m b e1 h h3 hl h2 ha)
      refine ⟨?_, f, o', e, mk.mono ext fun _ _ z => z⟩
      show upd c.G a o b = none
      rw [upd_ne ne]; exact g
  · rcases set_at h1 with ⟨q, e1⟩ | ⟨q, e1⟩
    · exact absurd e1.symm h3
    · rcases set_at h2 with ⟨q2, e2⟩ | ⟨q2, e2⟩
      · exact absurd e2.symm h4
      · exact r.inj i j mi mj b e1 e2 h3 h4 h5 h6
  · obtain ⟨e1, e2⟩ := r.fr b u e
    have ne : b ≠ a := fun q => by
      subst q
      have e : c.F b = some u := e
      rw [fa] at e; cases e
    refine ⟨e1, ?_⟩
    show upd c.G a o b = none
    rw [upd_ne ne]; exact e2
  · rcases set_at h1 with ⟨q, e1⟩ | ⟨q, e1⟩
    · subst e1; trivial
    · exact r.wf j mj e1
/-- the store's end is forgotten -/
def Cf.cut (c : Cf) (n : Nat) : Cf := { c with ρ := c.ρ.take n, O := c.O.take n }
theorem take_at {α : Type} {l : List α} {n k : Nat} {x : α} (h : (l.take n)[k]? = some x) : k < n ∧ l[k]? = some x := by
  rw [List.getElem?_take] at h
  split at h
  · exact ⟨by assumption, h⟩
  · cases h
theorem Rel.cut (r : Rel K c H) (n : Nat) : Rel K (c.cut n) H where
  ex := r.ex
  len := by show (c.ρ.take n).length = (c.O.take n).length; simp [r.len]
  live := fun k m a h1 h2 h3 => by
    obtain ⟨k1, e1⟩ := take_at h1
    obtain ⟨_, e2⟩ := take_at h2
    obtain ⟨g, f, o, e, mk⟩ := r.live k m a e1 e2 h3
    refine ⟨g, f, o, e, ?_⟩
    cases m with
    | dict kvs =>
      obtain ⟨ys, rfl, hp⟩ := mk
      refine ⟨ys, rfl, ?_⟩
      have wf : ∀ p ∈ kvs, p.2.below k := r.wf k _ e1
      clear e1 h1 h3 e
      induction hp with
      | nil => exact .nil
      | @cons p q l1 l2 hh ht ih =>
        refine .cons ⟨hh.1, ?_⟩ (ih fun z hz => wf z (List.mem_cons_of_mem _ hz))
        have wb := wf p List.mem_cons_self
        obtain ⟨pk, pw⟩ := p
        cases pw with
        | d d => exact hh.2
        | own j =>
          obtain ⟨b, hb, hv⟩ := hh.2
          have wb : j < k := wb
          refine ⟨b, ?_, hv⟩
          show (c.ρ.take n)[j]? = some b
          rw [List.getElem?_take_of_lt (by omega)]; exact hb
    | dicT kvs =>
      obtain ⟨ys, rfl, hp⟩ := mk
      refine ⟨ys, rfl, ?_⟩
      have wf : ∀ p ∈ kvs, p.2.below k := r.wf k _ e1
      clear e1 h1 h3 e
      induction hp with
      | nil => exact .nil
      | @cons p q l1 l2 hh ht ih =>
        refine .cons ⟨hh.1, ?_⟩ (ih fun z hz => wf z (List.mem_cons_of_mem _ hz))
        have wb := wf p List.mem_cons_self
        obtain ⟨pk, pw⟩ := p
        cases pw with
        | d d => exact hh.2
        | own j =>
          obtain ⟨b, hb, hv⟩ := hh.2
          have wb : j < k := wb
          refine ⟨b, ?_, hv⟩
          show (c.ρ.take n)[j]? = some b
          rw [List.getElem?_take_of_lt (by omega)]; exact hb
    | dead => exact mk
    | lst ds => exact mk
    | ins C ks ds => exact mk
  inj := fun j k mj mk a h1 h2 h3 h4 h5 h6 => r.inj j k mj mk a (take_at h1).2 (take_at h2).2 h3 h4 (take_at h5).2 (take_at h6).2
  fr := r.fr
  wf := fun k m h1 => r.wf k m (take_at h1).2
/-- a tracked thing of ours is hidden; shown again -/
def Cf.hide (c : Cf) (p : Addr) (o : HO) : Cf := { c with F := upd c.F p o }
theorem Rel.hide (r : Rel K c H) (h : H p = none) : Rel K (c.hide p o) (upd H p o) where
  ex := r.ex.tr (upd_ext h)
  len := r.len
  live := fun k m a h1 h2 h3 => by
    obtain ⟨g, f, o', e, mk⟩ := r.live k m a h1 h2 h3
    have ne : a ≠ p := ne_of_none e h
    refine ⟨g, ?_, o', by rw [upd_ne ne]; exact e, mk⟩
    show upd c.F p o a = none
    rw [upd_ne ne]; exact f
  inj := r.inj
  fr := fun a o' e => by
    have e : upd c.F p o a = some o' := e
    by_cases q : a = p
    · subst q; rw [upd_same] at e ⊢; exact ⟨e, r.gnone h⟩
    · rw [upd_ne q] at e
      obtain ⟨e1, e2⟩ := r.fr a o' e
      exact ⟨by rw [upd_ne q]; exact e1, e2⟩
  wf := r.wf
/-- what is hidden is written -/
theorem Rel.hid (r : Rel K c H) {o0 : HO} (h : c.F p = some o0) : Rel K (c.hide p o) (upd H p o) where
  ex := fun a u e => by
    have ne : a ≠ p := fun q => by
      subst q
      have e : c.G a = some u := e
      rw [(r.fr a o0 h).2] at e; cases e
    rw [upd_ne ne]; exact r.ex a u e
  len := r.len
  live := fun k m a h1 h2 h3 => by
    obtain ⟨g, f, o', e, mk⟩ := r.live k m a h1 h2 h3
    have ne : a ≠ p := fun q => by
      subst q; rw [f] at h; cases h
    refine ⟨g, ?_, o', by rw [upd_ne ne]; exact e, mk⟩
    show upd c.F p o a = none
    rw [upd_ne ne]; exact f
  inj := r.inj
  fr := fun a o' e => by
    have e : upd c.F p o a = some o' := e
    by_cases q : a = p
    · subst q; rw [upd_same] at e ⊢; exact ⟨e, (r.fr a o0 h).2⟩
    · rw [upd_ne q] at e
      obtain ⟨e1, e2⟩ := r.fr a o' e
      exact ⟨by rw [upd_ne q]; exact e1, e2⟩
  wf := r.wf
/-- shown again: known for ever -/
def Cf.show_ (c : Cf) (F : Hp) (p : Addr) (o : HO) : Cf := { c with G := upd c.G p o, F := F }
theorem Rel.show_ (r : Rel K c H) {F : Hp} (h : c.F p = some o) (hF : ∀ a u, F a = some u → a ≠ p ∧ c.F a = some u) : Rel K (c.show_ F p o) H where
  ex := fun a u e => by
    have e : upd c.G p o a = some u := e
    by_cases q : a = p
    · subst q; rw [upd_same] at e; cases e; exact (r.fr a o h).1
    · rw [upd_ne q] at e; exact r.ex a u e
  len := r.len
  live := fun k m a h1 h2 h3 => by
    obtain ⟨g, f, o', e, mk⟩ := r.live k m a h1 h2 h3
    have ne : a ≠ p := fun q => by
      subst q; rw [f] at h; cases h
    refine ⟨?_, ?_, o', e, mk.mono (upd_ext (r.fr p o h).2) fun _ _ z => z⟩
    · show upd c.G p o a = none
      rw [upd_ne ne]; exact g
    · show F a = none
      cases q : F a with
      | none => rfl
      | some u => rw [(hF a u q).2] at f; cases f
  inj := r.inj
  fr := fun a u e => by
    obtain ⟨ne, e1⟩ := hF a u e
    obtain ⟨e2, e3⟩ := r.fr a u e1
    refine ⟨e2, ?_⟩
    show upd c.G p o a = none
    rw [upd_ne ne]; exact e3
  wf := r.wf
/-- shown again: a thing of the store -/
def Cf.give (c : Cf) (F : Hp) (p : Addr) (m : MO) : Cf := { c with ρ := c.ρ ++ [p], O := c.O ++ [m], F := F }
theorem Rel.give (r : Rel K c H) {F : Hp} {m : MO} (h : c.F p = some o) (hF : ∀ a u, F a = some u → a ≠ p ∧ c.F a = some u) (hm : MOk K c.G c.ρ m o) (hb : m.below c.O.length) : Rel K (c.give F p m) H := by
  have fF : ∀ a, c.F a = none → F a = none := fun a f => by
    cases q : F a with
    | none => rfl
    | some u => rw [(hF a u q).2] at f; cases f
  have fp : F p = none := by
    cases q : F p with
    | none => rfl
    | some u => exact absurd rfl (hF p u q).1
  refine ⟨r.ex, by show (c.ρ ++ [p]).length = (c.O ++ [m]).length; simp [r.len], fun k m' a h1 h2 h3 => ?_, fun j k mj mk a h1 h2 h3 h4 h5 h6 => ?_, fun a u e => ⟨(r.fr a u (hF a u e).2).1, (r.fr a u (hF a u e).2).2⟩, fun k m' h1 => ?_⟩
  · rcases app_at h1 with ⟨k1, e1⟩ | ⟨k1, e1⟩
    · rcases app_at h2 with ⟨k2, e2⟩ | ⟨k2, e2⟩
      · obtain ⟨g, f, o', e, mk⟩ := r.live k m' a e1 e2 h3
        exact ⟨g, fF a f, o', e, mk.mono Ext.rfl pre_app⟩
      · rw [r.len] at k2; omega
    · rcases app_at h2 with ⟨k2, e2⟩ | ⟨k2, e2⟩
      · rw [r.len] at k2; omega
      · subst e1 e2
        exact ⟨(r.fr _ o h).2, fp, o, (r.fr _ o h).1, hm.mono Ext.rfl pre_app⟩
  · have nf : ∀ (k : Nat) (mk : MO), c.O[k]? = some mk → mk ≠ MO.dead → c.ρ[k]? = some p → False := fun k mk e1 n e2 => by
      obtain ⟨_, f, _⟩ := r.live k mk p e1 e2 n
      rw [f] at h; cases h
    rcases app_at h1 with ⟨k1, e1⟩ | ⟨k1, e1⟩
    · rcases app_at h5 with ⟨k5, e5⟩ | ⟨k5, e5⟩
      · rcases app_at h2 with ⟨k2, e2⟩ | ⟨k2, e2⟩
        · rcases app_at h6 with ⟨k6, e6⟩ | ⟨k6, e6⟩
          · exact r.inj j k mj mk a e1 e2 h3 h4 e5 e6
          · rw [r.len] at k6; omega
        · rcases app_at h6 with ⟨k6, e6⟩ | ⟨k6, e6⟩
          · rw [r.len] at k6; omega
          · subst e6; exact (nf j mj e1 h3 e5).elim
      · rw [r.len] at k5; omega
    · rcases app_at h5 with ⟨k5, e5⟩ | ⟨k5, e5⟩
      · rw [r.len] at k5; omega
      · rcases app_at h2 with ⟨k2, e2⟩ | ⟨k2, e2⟩
        · rcases app_at h6 with ⟨k6, e6⟩ | ⟨k6, e6⟩
          · subst e5; exact (nf k mk e2 h4 e6).elim
          · rw [r.len] at k6; omega
        · omega
  · rcases app_at h1 with ⟨k1, e1⟩ | ⟨k1, e1⟩
    · exact r.wf k m' e1
    · subst e1; rw [k1]; exact hb
end
end VL


set_option maxRecDepth 100000
set_option maxHeartbeats 2000000
/-! The value layer: what a piece of code computes, as a function over data and the store. -/
namespace VL
open PySem L2

/-- an exception: its class, its fields -/
structure Xn where
  C : Addr
  fs : Option (List Str × List D)
inductive Out (α : Type) where
  | ok (a : α) (O : Sto) | ex (x : Xn) (O : Sto) | no
def Out.bind {α β : Type} (m : Out α) (f : α → Sto → Out β) : Out β := match m with
  | .ok a O => f a O
  | .ex x O => .ex x O
  | .no => .no
def M (α : Type) := Sto → Out α
instance : Monad M where
  pure a := fun O => .ok a O
  bind m f := fun O => (m O).bind fun a O' => f a O'
def M.no {α : Type} : M α := fun _ => .no
def M.get : M Sto := fun O => .ok O O
def M.put (O : Sto) : M Unit := fun _ => .ok () O
def M.push (m : MO) : M W := fun O => .ok (.own O.length) (O ++ [m])
@[simp] theorem push_at (m : MO) (O : Sto) : M.push m O = .ok (.own O.length) (O ++ [m]) := rfl
@[simp] theorem pure_at {α : Type} (a : α) (O : Sto) : (pure a : M α) O = .ok a O := rfl
@[simp] theorem bind_at {α β : Type} (m : M α) (f : α → M β) (O : Sto) : (m >>= f) O = (m O).bind fun a O' => f a O' := rfl
@[simp] theorem no_at {α : Type} (O : Sto) : (M.no : M α) O = .no := rfl
@[simp] theorem get_at (O : Sto) : M.get O = .ok O O := rfl
@[simp] theorem put_at (O O' : Sto) : M.put O' O = .ok () O' := rfl
@[simp] theorem obind_ok {α β : Type} (a : α) (O : Sto) (f : α → Sto → Out β) : (Out.ok a O).bind f = f a O := rfl
@[simp] theorem obind_ex {α β : Type} (x : Xn) (O : Sto) (f : α → Sto → Out β) : (Out.ex x O : Out α).bind f = .ex x O := rfl
@[simp] theorem obind_no {α β : Type} (f : α → Sto → Out β) : (Out.no : Out α).bind f = .no := rfl

def XRep (K : PySem.W.Frag) (c : Cf) (x : Xn) (cls : Value) (d : Option Addr) (H : Hp) : Prop :=
  cls = .ref x.C ∧ match x.fs with
    | none => d = none
    | some (ks, ds) => ∃ dx xs, d = some dx ∧ H dx = some (.xd (ks.zip xs)) ∧ ks.length = xs.length ∧ Reps K c.G ds xs
/-- what must hold behind -/
def Post {α : Type} (K : PySem.W.Frag) (E : XK) (c : Cf) (R : α → Cf → Hp → Prop) : Out α → Prop
  | .ok a O' => ∀ c' H', Le c c' → c'.O = O' → Rel K c' H' → R a c' H'
  | .ex x O' => ∀ c' H' cls d, Le c c' → c'.O = O' → Rel K c' H' → XRep K c' x cls d H' → E cls d H'
  | .no => False
section
variable {K : PySem.W.Frag} {E : XK} {c c1 : Cf} {H H1 : Hp} {α β : Type}
theorem Post.mono {R R' : α → Cf → Hp → Prop} {o : Out α} (p : Post K E c R o) (h : ∀ a c' H', Le c c' → Rel K c' H' → R a c' H' → R' a c' H') : Post K E c R' o := by
  cases o with
  | ok a O => exact fun c' H' l e r => h a c' H' l r (p c' H' l e r)
  | ex x O => exact p
  | no => exact p
theorem Post.up {R : α → Cf → Hp → Prop} {o : Out α} (p : Post K E c R o) (l : Le c c1) : Post K E c1 R o := by
  cases o with
  | ok a O => exact fun c' H' l2 e r => p c' H' (l.tr l2) e r
  | ex x O => exact fun c' H' cls d l2 e r => p c' H' cls d (l.tr l2) e r
  | no => exact p
theorem Post.bind {R : β → Cf → Hp → Prop} {m : M α} {f : α → M β} {O : Sto} (p : Post K E c R ((m >>= f) O)) : Post K E c (fun a c1 H1 => Post K E c1 R (f a c1.O)) (m O) := by
  rw [bind_at] at p
  cases e : m O with
  | ok a O' =>
    rw [e] at p
    intro c' H' l eo r
    rw [eo]
    exact Post.up p l
  | ex x O' =>
    rw [e] at p
    exact p
  | no =>
    rw [e] at p
    exact p
theorem Post.here {R : α → Cf → Hp → Prop} {a : α} (p : Post K E c R (.ok a c.O)) (r : Rel K c H) : R a c H := p c H .rfl rfl r
theorem Post.no {R : α → Cf → Hp → Prop} {P : Prop} (p : Post K E c R (.no)) : P := False.elim p
end

abbrev Gam := List (Option W)
structure REnv (K : PySem.W.Frag) (G : Hp) (ρ : List Addr) (Γ : Gam) (σ : L2.St) : Prop where
  len : Γ.length = σ.length
  at_ : ∀ (i : Nat) (w : W), Γ[i]? = some (some w) → ∃ v, σ[i]? = some (some v) ∧ RepW K G ρ w v
theorem REnv.le {K : PySem.W.Frag} {c c' : Cf} {Γ : Gam} {σ : L2.St} (e : REnv K c.G c.ρ Γ σ) (l : Le c c') : REnv K c'.G c'.ρ Γ σ :=
  ⟨e.len, fun i w h => let ⟨v, h1, h2⟩ := e.at_ i w h; ⟨v, h1, h2.le l⟩⟩
theorem REnv.set {K : PySem.W.Frag} {G : Hp} {ρ : List Addr} {Γ : Gam} {σ : L2.St} (e : REnv K G ρ Γ σ) {w : W} {v : V} (i : Nat) (r : RepW K G ρ w v) : REnv K G ρ (Γ.set i (some w)) (σ.set i (some v)) := by
  refine ⟨by simp [e.len], fun j u h => ?_⟩
  rcases set_at h with ⟨q, e1⟩ | ⟨q, e1⟩
  · subst q
    have hj : j < σ.length := by
      have := (List.getElem?_eq_some_iff.mp h).1
      rw [List.length_set, e.len] at this; exact this
    cases e1
    exact ⟨v, by rw [List.getElem?_set_self hj], r⟩
  · obtain ⟨x, h1, h2⟩ := e.at_ j u e1
    exact ⟨x, by rw [List.getElem?_set_ne (Ne.symm q)]; exact h1, h2⟩
def wipeG (Γ : Gam) : List Nat → Gam
  | [] => Γ
  | v :: vs => (wipeG Γ vs).set v none
theorem REnv.wipe {K : PySem.W.Frag} {G : Hp} {ρ : List Addr} {Γ : Gam} {σ : L2.St} (e : REnv K G ρ Γ σ) : ∀ vs : List Nat, REnv K G ρ (wipeG Γ vs) (L2.wipe σ vs)
  | [] => e
  | v :: vs => by
    have ih := REnv.wipe e vs
    unfold wipeG L2.wipe
    refine ⟨by simp [ih.len], fun j u h => ?_⟩
    rcases set_at h with ⟨q, e1⟩ | ⟨q, e1⟩
    · cases e1
    · obtain ⟨x, h1, h2⟩ := ih.at_ j u e1
      exact ⟨x, by rw [List.getElem?_set_ne (Ne.symm q)]; exact h1, h2⟩

abbrev DE := Gam → M W
abbrev DT := Gam → M Bool
abbrev DA := Gam → M (List W)
inductive Fl where
  | nx | rt (w : W) | bk | ct
abbrev DS := Gam → M (Fl × Gam)
abbrev DG := W → Gam → M Gam

def RepsW (K : PySem.W.Frag) (G : Hp) (ρ : List Addr) : List W → List V → Prop := Paired (RepW K G ρ)
theorem RepsW.le {K : PySem.W.Frag} {c c' : Cf} (l : Le c c') {ws : List W} {vs : List V} (h : RepsW K c.G c.ρ ws vs) : RepsW K c'.G c'.ρ ws vs := h.mono fun _ _ z => z.le l

/-- the reading of an expression that computes d -/
def VT (K : PySem.W.Frag) (E : XK) (d : DE) : TE := fun σ H Q => ∃ c Γ, Rel K c H ∧ REnv K c.G c.ρ Γ σ ∧ Post K E c (fun w c' H' => ∀ v, RepW K c'.G c'.ρ w v → Q v H') (d Γ c.O)
def VB (K : PySem.W.Frag) (E : XK) (d : DT) : TT := fun σ H Q => ∃ c Γ, Rel K c H ∧ REnv K c.G c.ρ Γ σ ∧ Post K E c (fun b _ H' => Q b H') (d Γ c.O)
def VA (K : PySem.W.Frag) (E : XK) (d : DA) : TA := fun σ H Q => ∃ c Γ, Rel K c H ∧ REnv K c.G c.ρ Γ σ ∧ Post K E c (fun ws c' H' => ∀ vs, RepsW K c'.G c'.ρ ws vs → Q vs H') (d Γ c.O)
/-- what a statement comes to -/
def EndP (K : PySem.W.Frag) (D : Ends) (r : Fl × Gam) (c : Cf) (H : Hp) : Prop := match r.1 with
  | .nx => ∀ σ, REnv K c.G c.ρ r.2 σ → D.nx σ H
  | .rt w => ∀ v, RepW K c.G c.ρ w v → D.rt v H
  | .bk => ∀ σ, REnv K c.G c.ρ r.2 σ → D.bk σ H
  | .ct => ∀ σ, REnv K c.G c.ρ r.2 σ → D.ct σ H
def VS (K : PySem.W.Frag) (E : XK) (d : DS) : TS := fun D σ H => ∃ c Γ, Rel K c H ∧ REnv K c.G c.ρ Γ σ ∧ Post K E c (EndP K D) (d Γ c.O)
def VG (K : PySem.W.Frag) (E : XK) (g : DG) : TG := fun v σ H Q => ∃ c Γ w, Rel K c H ∧ REnv K c.G c.ρ Γ σ ∧ RepW K c.G c.ρ w v ∧ Post K E c (fun Γ' c' H' => ∀ σ', REnv K c'.G c'.ρ Γ' σ' → Q σ' H') (g w Γ c.O)

section
variable {X : Cx}
theorem _root_.L2.PE.imp {e : Expr} {t t' : TE} (h : PE X e t) (i : ∀ σ H Q, t' σ H Q → t σ H Q) : PE X e t' := ⟨fun pins s σ H Q I hw => h.run pins s σ H Q I (i σ H Q hw)⟩
theorem _root_.L2.PT.imp {e : Expr} {t t' : TT} (h : PT X e t) (i : ∀ σ H Q, t' σ H Q → t σ H Q) : PT X e t' := ⟨fun pins s σ H Q I hw => h.run pins s σ H Q I (i σ H Q hw)⟩
theorem _root_.L2.PW.imp {e : Expr} {t t' : TT} (h : PW X e t) (i : ∀ σ H Q, t' σ H Q → t σ H Q) : PW X e t' := ⟨fun wh pins s σ H Q I hw => h.run wh pins s σ H Q I (i σ H Q hw)⟩
theorem _root_.L2.PA.imp {e : List Expr} {t t' : TA} (h : PA X e t) (i : ∀ σ H Q, t' σ H Q → t σ H Q) : PA X e t' := ⟨fun pos pins s σ H Q I hw => h.run pos pins s σ H Q I (i σ H Q hw)⟩
theorem _root_.L2.PS.imp {e : Stmt} {t t' : TS} (h : PS X e t) (i : ∀ D σ H, t' D σ H → t D σ H) : PS X e t' := ⟨fun pins s σ H D I hw => h.run pins s σ H D I (i D σ H hw)⟩
theorem _root_.L2.PSs.imp {e : List Stmt} {t t' : TS} (h : PSs X e t) (i : ∀ D σ H, t' D σ H → t D σ H) : PSs X e t' := ⟨fun pins s σ H D I hw => h.run pins s σ H D I (i D σ H hw)⟩
theorem _root_.L2.PG.imp {e : Expr} {t t' : TG} (h : PG X e t) (i : ∀ v σ H Q, t' v σ H Q → t v σ H Q) : PG X e t' := ⟨fun pins s σ H v u Q I r hw => h.run pins s σ H v u Q I r (i v σ H Q hw)⟩

/-! ### names, constants -/
def dVar (i : Nat) : DE := fun Γ => match Γ[i]? with
  | some (some w) => pure w
  | _ => M.no
def dC (d : D) : DE := fun _ => pure (.d d)
variable {E : XK}
theorem v_var {i : Nat} {σ : L2.St} {H : Hp} {Q : VK} {K : PySem.W.Frag} (h : VT K E (dVar i) σ H Q) : tVar i σ H Q := by
  obtain ⟨c, Γ, r, e, p⟩ := h
  unfold dVar at p
  cases h1 : Γ[i]? with
  | none => simp only [h1] at p; exact p.no
  | some o =>
    cases o with
    | none => simp only [h1] at p; exact p.no
    | some w =>
      simp only [h1] at p
      obtain ⟨v, e1, e2⟩ := e.at_ i w h1
      exact ⟨v, e1, Post.here p r v e2⟩
theorem v_c {d : D} {v : V} (hv : ∀ K G, Rep K G d v) {σ : L2.St} {H : Hp} {Q : VK} {K : PySem.W.Frag} (h : VT K E (dC d) σ H Q) : tC v σ H Q := by
  obtain ⟨c, Γ, r, e, p⟩ := h
  exact Post.here p r v (hv _ _)
theorem cv (i : Nat) {x : Str} {pos : Pos} (hN : X.N[i]? = some x := by rfl) (hv : Vis X.env.scope x := by first | exact Or.inl rfl | exact Or.inr (Or.inl rfl) | exact Or.inr (Or.inr rfl)) (hd : (x == ("__debug__" : Str)) = false := by decide)
    (hcd : (x == ("__classdict__" : Str)) = false := by decide) : PE X (.Name x pos) (VT X.K E (dVar i)) := (pe_var hN hv hd hcd).imp fun _ _ _ => v_var
theorem ci {i : Int} {j pos} : PE X (.Constant (.int i) j pos) (VT X.K E (dC (.int i))) := pe_int.imp fun _ _ _ => v_c fun _ _ => by unfold Rep; rfl
theorem cb {b : Bool} {j pos} : PE X (.Constant (.bool b) j pos) (VT X.K E (dC (.bl b))) := pe_bl.imp fun _ _ _ => v_c fun _ _ => by unfold Rep; rfl
theorem cn {j pos} : PE X (.Constant .none j pos) (VT X.K E (dC .non)) := pe_non.imp fun _ _ _ => v_c fun _ _ => by unfold Rep; rfl
theorem cs {x : Str} {j pos} : PE X (.Constant (.str x) j pos) (VT X.K E (dC (.str x))) := pe_str.imp fun _ _ _ => v_c fun _ _ => by unfold Rep; rfl
/-- a global that is an int, a class, a function -/
theorem cgi {x : Str} {i : Int} {pos : Pos} (hg : Gl X x) (hm : ∃ t, X.mg x = some (.int i t)) (hd : (x == ("__debug__" : Str)) = false := by decide) : PE X (.Name x pos) (VT X.K E (dC (.int i))) := by
  obtain ⟨t, hm⟩ := hm
  exact (pe_glob (v := .int i) hg hm ⟨t, rfl⟩ hd).imp fun _ _ _ => v_c fun _ _ => by unfold Rep; rfl
theorem cga {x : Str} {a : Addr} {pos : Pos} (hg : Gl X x) (hm : X.mg x = some (.ref a)) (hd : (x == ("__debug__" : Str)) = false := by decide) : PE X (.Name x pos) (VT X.K E (dC (.adr a))) :=
  (pe_glob (v := .ref a) hg hm rfl hd).imp fun _ _ _ => v_c fun _ _ => by unfold Rep; rfl
theorem cty {x : Str} {n : String} {pos : Pos} (hg : Gl X x) (hm : X.mg x = none) (hv : bootBuiltins x = some (.type n)) (hn : x ≠ "__name__" := by decide) (hd : (x == ("__debug__" : Str)) = false := by decide) : PE X (.Name x pos) (VT X.K E (dC (.ty n))) :=
  (pe_bltn (v := .ty n) hg hm hv rfl hn hd).imp fun _ _ _ => v_c fun _ _ => by unfold Rep; rfl

/-! ### two-place operations -/
def Sem2 (K : PySem.W.Frag) (E : XK) (r : R2) (f : W → W → M W) : Prop := ∀ c H w1 w2 v1 v2 Q, Rel K c H → RepW K c.G c.ρ w1 v1 → RepW K c.G c.ρ w2 v2 →
  Post K E c (fun w c' H' => ∀ v, RepW K c'.G c'.ρ w v → Q v H') (f w1 w2 c.O) → r v1 v2 H Q
def dBin (f : W → W → M W) (a b : DE) : DE := fun Γ => do
  let x ← a Γ
  let y ← b Γ
  f x y
variable {a b : Expr} {da db : DE} {r r' : R2} {f : W → W → M W} {pos : Pos} {K : PySem.W.Frag}
theorem v_op (hs : Sem2 K E r f) {σ : L2.St} {H : Hp} {Q : VK} (h : VT K E (dBin f da db) σ H Q) : tOp r (VT K E da) (VT K E db) σ H Q := by
  obtain ⟨c, Γ, rel, env, p⟩ := h
  refine ⟨c, Γ, rel, env, (Post.bind p).mono fun w c1 H1 l1 rel1 p1 v rv => ?_⟩
  refine ⟨c1, Γ, rel1, env.le l1, (Post.bind p1).mono fun w2 c2 H2 l2 rel2 p2 v2 rv2 => ?_⟩
  exact hs c2 H2 w w2 v v2 Q rel2 (rv.le l2) rv2 p2
theorem c_op {op : Operator} (ho : OpR X (binaryOp op) r) (hs : Sem2 X.K E r f) (ha : PE X a (VT X.K E da)) (hb : PE X b (VT X.K E db)) : PE X (.BinOp a op b pos) (VT X.K E (dBin f da db)) :=
  (pe_op ho ha hb).imp fun _ _ _ => v_op hs
theorem c_cmp {op : CmpOp} (ho : OpR X (compareOp op) r) (hs : Sem2 X.K E r f) (ha : PE X a (VT X.K E da)) (hb : PE X b (VT X.K E db)) (hm : behindInMarks op b = false := by first | exact nobehind _ (by decide) (by decide) | rfl) : PE X (.Compare a [op] [b] pos) (VT X.K E (dBin f da db)) :=
  (pe_cmpR ho ha hb hm).imp fun _ _ _ => v_op hs
/-- a value that is True or False, as a test -/
def wB : W → M Bool
  | .d (.bl b) => pure b
  | _ => M.no
def dTest (d : DE) : DT := fun Γ => do
  let w ← d Γ
  wB w
theorem v_test {d : DE} {t : TE} (hi : ∀ σ H Q, VT K E d σ H Q → t σ H Q) {σ : L2.St} {H : Hp} {Q : Bool → Hp → Prop} (h : VB K E (dTest d) σ H Q) : (t σ H fun x H' => ∃ k, x = .bl k ∧ Q k H') := by
  obtain ⟨c, Γ, rel, env, p⟩ := h
  refine hi _ _ _ ⟨c, Γ, rel, env, (Post.bind p).mono fun w c1 H1 l1 rel1 p1 v rv => ?_⟩
  unfold wB at p1
  split at p1
  · rename_i b
    have rv : Rep K c1.G (.bl b) v := rv
    unfold Rep at rv
    exact ⟨b, rv, Post.here p1 rel1⟩
  · exact p1.no
theorem t_cmp {op : CmpOp} (ho : OpR X (compareOp op) r) (hs : Sem2 X.K E r f) (ha : PE X a (VT X.K E da)) (hb : PE X b (VT X.K E db)) (hm : behindInMarks op b = false := by first | exact nobehind _ (by decide) (by decide) | rfl) : PT X (.Compare a [op] [b] pos) (VB X.K E (dTest (dBin f da db))) :=
  (pt_cmpR ho ha hb hm).imp fun _ _ _ h => v_test (fun _ _ _ => v_op hs) h
theorem t_val {e : Expr} {d : DE} (he : PE X e (VT X.K E d)) (hw : ∀ whole, isTrue e X.env whole = (do let v ← whole; standAt e.pos; holding [v] (truthy v)) := by intro _; rfl) : PT X e (VB X.K E (dTest d)) :=
  (pt_val he hw).imp fun _ _ _ h => v_test (fun _ _ _ z => z) h
/-- a op b op' c -/
def dChain (f g : W → W → M W) (a b c : DE) : DE := fun Γ => do
  let x ← a Γ
  let y ← b Γ
  let z ← f x y
  let k ← wB z
  if k then do
    let w ← c Γ
    g y w
  else pure (.d (.bl false))
theorem v_chain {g : W → W → M W} {dc : DE} (hs : Sem2 K E r f) (hs' : Sem2 K E r' g) {σ : L2.St} {H : Hp} {Q : VK} (h : VT K E (dChain f g da db dc) σ H Q) : tChain r r' (VT K E da) (VT K E db) (VT K E dc) σ H Q := by
  obtain ⟨c, Γ, rel, env, p⟩ := h
  refine ⟨c, Γ, rel, env, (Post.bind p).mono fun w c1 H1 l1 rel1 p1 v rv => ?_⟩
  refine ⟨c1, Γ, rel1, env.le l1, (Post.bind p1).mono fun w2 c2 H2 l2 rel2 p2 v2 rv2 => ?_⟩
  refine hs c2 H2 w w2 v v2 _ rel2 (rv.le l2) rv2 ((Post.bind p2).mono fun z c3 H3 l3 rel3 p3 vz rz => ?_)
  have p4 := Post.bind p3
  unfold wB at p4
  split at p4
  · rename_i k
    have rz : Rep K c3.G (.bl k) vz := rz
    unfold Rep at rz
    refine ⟨k, rz, ?_⟩
    have p5 := Post.here p4 rel3
    cases k with
    | true =>
      rw [if_pos rfl]
      rw [if_pos rfl] at p5
      refine ⟨c3, Γ, rel3, ((env.le l1).le l2).le l3, (Post.bind p5).mono fun w4 c4 H4 l4 rel4 p6 v4 rv4 => ?_⟩
      exact hs' c4 H4 w2 w4 v2 v4 Q rel4 ((rv2.le l3).le l4) rv4 p6
    | false =>
      rw [if_neg (by decide)]
      rw [if_neg (by decide)] at p5
      exact Post.here p5 rel3 _ (by show Rep K c3.G (.bl false) _; unfold Rep; rfl)
  · exact p4.no
theorem c_chain {op op' : CmpOp} {g : W → W → M W} {c : Expr} {dc : DE} (ho : OpR X (compareOp op) r) (hs : Sem2 X.K E r f) (ho' : OpR X (compareOp op') r') (hs' : Sem2 X.K E r' g) (ha : PE X a (VT X.K E da)) (hb : PE X b (VT X.K E db)) (hc : PE X c (VT X.K E dc))
    (hm : lastMarks [op, op'] [b, c] = false := by with_unfolding_all rfl) : PE X (.Compare a [op, op'] [b, c] pos) (VT X.K E (dChain f g da db dc)) := (pe_chain ho ho' ha hb hc hm).imp fun _ _ _ => v_chain hs hs'
theorem t_chain {op op' : CmpOp} {g : W → W → M W} {c : Expr} {dc : DE} (ho : OpR X (compareOp op) r) (hs : Sem2 X.K E r f) (ho' : OpR X (compareOp op') r') (hs' : Sem2 X.K E r' g) (ha : PE X a (VT X.K E da)) (hb : PE X b (VT X.K E db)) (hc : PE X c (VT X.K E dc))
    (hm : lastMarks [op, op'] [b, c] = false := by with_unfolding_all rfl) : PT X (.Compare a [op, op'] [b, c] pos) (VB X.K E (dTest (dChain f g da db dc))) :=
  (pt_chain ho ho' ha hb hc hm).imp fun _ _ _ h => v_test (fun _ _ _ => v_chain hs hs') h

/-! ### and, or, not -/
def dAnd (a b : DT) : DT := fun Γ => do
  let k ← a Γ
  if k then b Γ else pure false
def dOr (a b : DT) : DT := fun Γ => do
  let k ← a Γ
  if k then pure true else b Γ
def dNot (a : DT) : DT := fun Γ => do
  let k ← a Γ
  pure (!k)
variable {ta tb : DT} {rest : List Expr}
theorem v_and {σ : L2.St} {H : Hp} {Q : Bool → Hp → Prop} (h : VB K E (dAnd ta tb) σ H Q) : tAnd (VB K E ta) (VB K E tb) σ H Q := by
  obtain ⟨c, Γ, rel, env, p⟩ := h
  refine ⟨c, Γ, rel, env, (Post.bind p).mono fun k c1 H1 l1 rel1 p1 => ?_⟩
  cases k with
  | true =>
    rw [if_pos rfl] at p1 ⊢
    exact ⟨c1, Γ, rel1, env.le l1, p1⟩
  | false =>
    rw [if_neg (by decide)] at p1 ⊢
    exact Post.here p1 rel1
theorem v_or {σ : L2.St} {H : Hp} {Q : Bool → Hp → Prop} (h : VB K E (dOr ta tb) σ H Q) : tOr (VB K E ta) (VB K E tb) σ H Q := by
  obtain ⟨c, Γ, rel, env, p⟩ := h
  refine ⟨c, Γ, rel, env, (Post.bind p).mono fun k c1 H1 l1 rel1 p1 => ?_⟩
  cases k with
  | true =>
    rw [if_pos rfl] at p1 ⊢
    exact Post.here p1 rel1
  | false =>
    rw [if_neg (by decide)] at p1 ⊢
    exact ⟨c1, Γ, rel1, env.le l1, p1⟩
theorem v_not {σ : L2.St} {H : Hp} {Q : Bool → Hp → Prop} (h : VB K E (dNot ta) σ H Q) : tNot (VB K E ta) σ H Q := by
  obtain ⟨c, Γ, rel, env, p⟩ := h
  exact ⟨c, Γ, rel, env, (Post.bind p).mono fun k c1 H1 l1 rel1 p1 => Post.here p1 rel1⟩
theorem w_and1 (ha : PT X a (VB X.K E ta)) : PW X (.BoolOp .And [a] pos) (VB X.K E ta) := pw_and1 ha
theorem w_or1 (ha : PT X a (VB X.K E ta)) : PW X (.BoolOp .Or [a] pos) (VB X.K E ta) := pw_or1 ha
theorem w_and (ha : PT X a (VB X.K E ta)) (hb : PW X (.BoolOp .And (b :: rest) pos) (VB X.K E tb)) : PW X (.BoolOp .And (a :: b :: rest) pos) (VB X.K E (dAnd ta tb)) := (pw_and ha hb).imp fun _ _ _ => v_and
theorem w_or (ha : PT X a (VB X.K E ta)) (hb : PW X (.BoolOp .Or (b :: rest) pos) (VB X.K E tb)) : PW X (.BoolOp .Or (a :: b :: rest) pos) (VB X.K E (dOr ta tb)) := (pw_or ha hb).imp fun _ _ _ => v_or
theorem t_not (ha : PT X a (VB X.K E ta)) : PT X (.UnaryOp .Not a pos) (VB X.K E (dNot ta)) := (pt_not ha).imp fun _ _ _ => v_not
/-- .. as values -/
def dAndV (a b : DE) : DE := fun Γ => do
  let x ← a Γ
  let k ← wB x
  if k then b Γ else pure (.d (.bl false))
def dOrV (a b : DE) : DE := fun Γ => do
  let x ← a Γ
  let k ← wB x
  if k then pure (.d (.bl true)) else b Γ
def dNotV (a : DE) : DE := fun Γ => do
  let x ← a Γ
  let k ← wB x
  pure (.d (.bl (!k)))
theorem wB_ok {R : Bool → Cf → Hp → Prop} {w : W} {v : V} {c : Cf} {H : Hp} (rel : Rel K c H) (rv : RepW K c.G c.ρ w v) (p : Post K E c R (wB w c.O)) : ∃ k, v = .bl k ∧ R k c H := by
  unfold wB at p
  split at p
  · rename_i b
    have rv : Rep K c.G (.bl b) v := rv
    unfold Rep at rv
    exact ⟨b, rv, Post.here p rel⟩
  · exact p.no
theorem rep_bl {K : PySem.W.Frag} {G : Hp} {ρ : List Addr} {b : Bool} : RepW K G ρ (.d (.bl b)) (.bl b) := by show Rep K G (.bl b) _; unfold Rep; rfl
theorem rep_int {K : PySem.W.Frag} {G : Hp} {ρ : List Addr} {b : Int} : RepW K G ρ (.d (.int b)) (.int b) := by show Rep K G (.int b) _; unfold Rep; rfl
theorem rep_non {K : PySem.W.Frag} {G : Hp} {ρ : List Addr} : RepW K G ρ (.d .non) .non := by show Rep K G .non _; unfold Rep; rfl
theorem rep_str {K : PySem.W.Frag} {G : Hp} {ρ : List Addr} {b : Str} : RepW K G ρ (.d (.str b)) (.str b) := by show Rep K G (.str b) _; unfold Rep; rfl
theorem v_andV {σ : L2.St} {H : Hp} {Q : VK} (h : VT K E (dAndV da db) σ H Q) : tAndV (VT K E da) (VT K E db) σ H Q := by
  obtain ⟨c, Γ, rel, env, p⟩ := h
  refine ⟨c, Γ, rel, env, (Post.bind p).mono fun w c1 H1 l1 rel1 p1 v rv => ?_⟩
  obtain ⟨k, e, p2⟩ := wB_ok rel1 rv (Post.bind p1)
  refine ⟨k, e, ?_⟩
  cases k with
  | true =>
    rw [if_pos rfl] at p2 ⊢
    exact ⟨c1, Γ, rel1, env.le l1, p2⟩
  | false =>
    rw [if_neg (by decide)] at p2 ⊢
    exact Post.here p2 rel1 _ rep_bl
theorem v_orV {σ : L2.St} {H : Hp} {Q : VK} (h : VT K E (dOrV da db) σ H Q) : tOrV (VT K E da) (VT K E db) σ H Q := by
  obtain ⟨c, Γ, rel, env, p⟩ := h
  refine ⟨c, Γ, rel, env, (Post.bind p).mono fun w c1 H1 l1 rel1 p1 v rv => ?_⟩
  obtain ⟨k, e, p2⟩ := wB_ok rel1 rv (Post.bind p1)
  refine ⟨k, e, ?_⟩
  cases k with
  | true =>
    rw [if_pos rfl] at p2 ⊢
    exact Post.here p2 rel1 _ rep_bl
  | false =>
    rw [if_neg (by decide)] at p2 ⊢
    exact ⟨c1, Γ, rel1, env.le l1, p2⟩
theorem v_notV {σ : L2.St} {H : Hp} {Q : VK} (h : VT K E (dNotV da) σ H Q) : tNotV (VT K E da) σ H Q := by
  obtain ⟨c, Γ, rel, env, p⟩ := h
  refine ⟨c, Γ, rel, env, (Post.bind p).mono fun w c1 H1 l1 rel1 p1 v rv => ?_⟩
  obtain ⟨k, e, p2⟩ := wB_ok rel1 rv (Post.bind p1)
  exact ⟨k, e, Post.here p2 rel1 _ rep_bl⟩
theorem c_one {op} (ha : PE X a (VT X.K E da)) : PE X (.BoolOp op [a] pos) (VT X.K E da) := pe_one ha
theorem c_and (ha : PE X a (VT X.K E da)) (hb : PE X (.BoolOp .And (b :: rest) pos) (VT X.K E db)) : PE X (.BoolOp .And (a :: b :: rest) pos) (VT X.K E (dAndV da db)) := (pe_and ha hb).imp fun _ _ _ => v_andV
theorem c_or (ha : PE X a (VT X.K E da)) (hb : PE X (.BoolOp .Or (b :: rest) pos) (VT X.K E db)) : PE X (.BoolOp .Or (a :: b :: rest) pos) (VT X.K E (dOrV da db)) := (pe_or ha hb).imp fun _ _ _ => v_orV
theorem c_not (ha : PE X a (VT X.K E da)) : PE X (.UnaryOp .Not a pos) (VT X.K E (dNotV da)) := (pe_not ha).imp fun _ _ _ => v_notV
/-- a if t else b -/
def dIf (t : DT) (a b : DE) : DE := fun Γ => do
  let k ← t Γ
  if k then a Γ else b Γ
theorem v_if {σ : L2.St} {H : Hp} {Q : VK} (h : VT K E (dIf ta da db) σ H Q) : tIf (VB K E ta) (VT K E da) (VT K E db) σ H Q := by
  obtain ⟨c, Γ, rel, env, p⟩ := h
  refine ⟨c, Γ, rel, env, (Post.bind p).mono fun k c1 H1 l1 rel1 p1 => ?_⟩
  cases k with
  | true =>
    rw [if_pos rfl] at p1 ⊢
    exact ⟨c1, Γ, rel1, env.le l1, p1⟩
  | false =>
    rw [if_neg (by decide)] at p1 ⊢
    exact ⟨c1, Γ, rel1, env.le l1, p1⟩
theorem c_if {t : Expr} (ht : PT X t (VB X.K E ta)) (ha : PE X a (VT X.K E da)) (hb : PE X b (VT X.K E db)) : PE X (.IfExp t a b pos) (VT X.K E (dIf ta da db)) := (pe_ifExp ht ha hb).imp fun _ _ _ => v_if

/-! ### arguments, displays, calls -/
def dNil : DA := fun _ => pure []
def dCons (a : DE) (r : DA) : DA := fun Γ => do
  let x ← a Γ
  let xs ← r Γ
  pure (x :: xs)
theorem v_nil {σ : L2.St} {H : Hp} {Q : List V → Hp → Prop} (h : VA K E dNil σ H Q) : tNil σ H Q := by
  obtain ⟨c, Γ, rel, env, p⟩ := h
  exact Post.here p rel _ .nil
theorem v_cons {dr : DA} {σ : L2.St} {H : Hp} {Q : List V → Hp → Prop} (h : VA K E (dCons da dr) σ H Q) : tCons (VT K E da) (VA K E dr) σ H Q := by
  obtain ⟨c, Γ, rel, env, p⟩ := h
  refine ⟨c, Γ, rel, env, (Post.bind p).mono fun w c1 H1 l1 rel1 p1 v rv => ?_⟩
  refine ⟨c1, Γ, rel1, env.le l1, (Post.bind p1).mono fun ws c2 H2 l2 rel2 p2 vs rvs => ?_⟩
  exact Post.here p2 rel2 _ (.cons (rv.le l2) rvs)
theorem a_nil : PA X [] (VA X.K E dNil) := pa_nil.imp fun _ _ _ => v_nil
theorem a_cons {es : List Expr} {dr : DA} (ha : PE X a (VT X.K E da)) (hr : PA X es (VA X.K E dr)) (hs : starEach (a :: es) X.env = (false, eval a X.env) :: starEach es X.env := by rfl) : PA X (a :: es) (VA X.K E (dCons da dr)) :=
  (pa_cons ha hr hs).imp fun _ _ _ => v_cons
/-- data, or nothing -/
def wD : W → Option D
  | .d d => some d
  | .own _ => none
def wDs : List W → Option (List D)
  | [] => some []
  | .d d :: r => (wDs r).map (d :: ·)
  | .own _ :: _ => none
theorem reps_of {G : Hp} {ρ : List Addr} : ∀ {ws : List W} {ds : List D} {vs : List V}, wDs ws = some ds → RepsW K G ρ ws vs → Reps K G ds vs
  | [], ds, vs, e, h => by
    cases e
    cases h
    exact reps_nil.mpr rfl
  | .d d :: r, ds, vs, e, h => by
    cases h with
    | cons h1 h2 =>
      unfold wDs at e
      cases q : wDs r with
      | none => rw [q] at e; cases e
      | some es =>
        rw [q] at e
        cases e
        exact reps_cons.mpr ⟨_, _, rfl, h1, reps_of q h2⟩
  | .own k :: r, ds, vs, e, h => by cases e
def mkTup (ws : List W) : M W := match wDs ws with
  | some ds => if ds.length ≤ sizeLine then pure (.d (.tup ds)) else M.no
  | none => M.no
def mkLst (ws : List W) : M W := match wDs ws with
  | some ds => if ds.length ≤ sizeLine then pure (.d (.lst ds)) else M.no
  | none => M.no
/-- a list that is to change -/
def mkOwn (ws : List W) : M W := match wDs ws with
  | some ds => if ds.length ≤ sizeLine then M.push (.lst ds) else M.no
  | none => M.no
theorem new_know {G' : Hp} {c : Cf} {H : Hp} {R : W → Cf → Hp → Prop} {d : D} {o : HO} {p : Addr} (rel : Rel K c H) (hp : H p = none) (P : Post K E c R (.ok (.d d) c.O)) : R (.d d) (c.know p o) (upd H p o) :=
  P _ _ (rel.know_le hp) rfl (rel.know hp)
theorem tup_ok {c : Cf} {H : Hp} {Q : VK} {ws : List W} {vs : List V} (rel : Rel K c H) (rv : RepsW K c.G c.ρ ws vs) (p : Post K E c (fun w c' H' => ∀ v, RepW K c'.G c'.ρ w v → Q v H') (mkTup ws c.O)) :
    vs.length ≤ sizeLine ∧ ∀ p, H p = none → Q (.ref p) (upd H p (.tup vs)) := by
  unfold mkTup at p
  cases e : wDs ws with
  | none => simp only [e] at p; exact p.no
  | some ds =>
    simp only [e] at p
    have rd := reps_of e rv
    by_cases hl : ds.length ≤ sizeLine
    · rw [if_pos hl] at p
      rw [rd.length] at hl
      refine ⟨hl, fun q hq => ?_⟩
      refine p _ _ (rel.know_le hq) rfl (rel.know (o := .tup vs) hq) _ ?_
      show Rep K (upd c.G q (.tup vs)) (.tup ds) _
      unfold Rep
      exact ⟨q, vs, rfl, upd_same, hl, Reps.mono (upd_ext (rel.gnone hq)) _ _ rd⟩
    · rw [if_neg hl] at p; exact p.no
theorem lst_ok {c : Cf} {H : Hp} {Q : VK} {ds : List D} {vs : List V} (rel : Rel K c H) (rd : Reps K c.G ds vs) (hl : ds.length ≤ sizeLine) (p : Post K E c (fun w c' H' => ∀ v, RepW K c'.G c'.ρ w v → Q v H') (.ok (.d (.lst ds)) c.O)) :
    ∀ p, H p = none → Q (.ref p) (upd H p (.lst vs)) := fun q hq => by
  refine p _ _ (rel.know_le hq) rfl (rel.know (o := .lst vs) hq) _ ?_
  show Rep K (upd c.G q (.lst vs)) (.lst ds) _
  unfold Rep
  exact ⟨q, vs, rfl, upd_same, by rw [← rd.length]; exact hl, Reps.mono (upd_ext (rel.gnone hq)) _ _ rd⟩
theorem tup2_ok {c : Cf} {H : Hp} {Q : VK} {ds : List D} {vs : List V} (rel : Rel K c H) (rd : Reps K c.G ds vs) (hl : ds.length ≤ sizeLine) (p : Post K E c (fun w c' H' => ∀ v, RepW K c'.G c'.ρ w v → Q v H') (.ok (.d (.tup ds)) c.O)) :
    ∀ p, H p = none → Q (.ref p) (upd H p (.tup vs)) := fun q hq => by
  refine p _ _ (rel.know_le hq) rfl (rel.know (o := .tup vs) hq) _ ?_
  show Rep K (upd c.G q (.tup vs)) (.tup ds) _
  unfold Rep
  exact ⟨q, vs, rfl, upd_same, by rw [← rd.length]; exact hl, Reps.mono (upd_ext (rel.gnone hq)) _ _ rd⟩
theorem own_ok {c : Cf} {H : Hp} {Q : VK} {ds : List D} {vs : List V} (rel : Rel K c H) (rd : Reps K c.G ds vs) (hl : ds.length ≤ sizeLine) (p : Post K E c (fun w c' H' => ∀ v, RepW K c'.G c'.ρ w v → Q v H') (.ok (.own c.O.length) (c.O ++ [.lst ds]))) :
    ∀ p, H p = none → Q (.ref p) (upd H p (.lst vs)) := fun q hq =>
  p _ _ (c.push_le q _) rfl (rel.push (o := .lst vs) (m := .lst ds) hq ⟨vs, rfl, rd, by rw [← rd.length]; exact hl⟩ trivial) _ ⟨q, Cf.push_own rel, rfl⟩
def dTup (a : DA) : DE := fun Γ => do
  let ws ← a Γ
  mkTup ws
def dLst (a : DA) : DE := fun Γ => do
  let ws ← a Γ
  mkLst ws
def dOwn (a : DA) : DE := fun Γ => do
  let ws ← a Γ
  mkOwn ws
variable {es : List Expr} {dr : DA}
theorem v_tup {σ : L2.St} {H : Hp} {Q : VK} (h : VT K E (dTup dr) σ H Q) : tTup (VA K E dr) σ H Q := by
  obtain ⟨c, Γ, rel, env, p⟩ := h
  exact ⟨c, Γ, rel, env, (Post.bind p).mono fun ws c1 H1 l1 rel1 p1 vs rvs => tup_ok rel1 rvs p1⟩
theorem v_lst {σ : L2.St} {H : Hp} {Q : VK} (h : VT K E (dLst dr) σ H Q) : tLst (VA K E dr) σ H Q := by
  obtain ⟨c, Γ, rel, env, p⟩ := h
  refine ⟨c, Γ, rel, env, (Post.bind p).mono fun ws c1 H1 l1 rel1 p1 vs rvs => ?_⟩
  unfold mkLst at p1
  cases e : wDs ws with
  | none => simp only [e] at p1; exact p1.no
  | some ds =>
    simp only [e] at p1
    have rd := reps_of e rvs
    by_cases hl : ds.length ≤ sizeLine
    · rw [if_pos hl] at p1
      exact ⟨by rw [← rd.length]; exact hl, lst_ok rel1 rd hl p1⟩
    · rw [if_neg hl] at p1; exact p1.no
theorem v_own {σ : L2.St} {H : Hp} {Q : VK} (h : VT K E (dOwn dr) σ H Q) : tLst (VA K E dr) σ H Q := by
  obtain ⟨c, Γ, rel, env, p⟩ := h
  refine ⟨c, Γ, rel, env, (Post.bind p).mono fun ws c1 H1 l1 rel1 p1 vs rvs => ?_⟩
  unfold mkOwn at p1
  cases e : wDs ws with
  | none => simp only [e] at p1; exact p1.no
  | some ds =>
    simp only [e] at p1
    have rd := reps_of e rvs
    by_cases hl : ds.length ≤ sizeLine
    · rw [if_pos hl] at p1
      exact ⟨by rw [← rd.length]; exact hl, own_ok rel1 rd hl p1⟩
    · rw [if_neg hl] at p1; exact p1.no
theorem c_tup {x1} (h : PA X es (VA X.K E dr)) : PE X (.Tuple es x1 pos) (VT X.K E (dTup dr)) := (pe_tup h).imp fun _ _ _ => v_tup
theorem c_lst (h : PA X es (VA X.K E dr)) : PE X (.List es pos) (VT X.K E (dLst dr)) := (pe_lst h).imp fun _ _ _ => v_lst
theorem c_own (h : PA X es (VA X.K E dr)) : PE X (.List es pos) (VT X.K E (dOwn dr)) := (pe_lst h).imp fun _ _ _ => v_own

/-! ### calls by values -/
def SemN (K : PySem.W.Frag) (E : XK) (r : List V → Hp → VK → Prop) (f : List W → M W) : Prop := ∀ c H ws vs Q, Rel K c H → RepsW K c.G c.ρ ws vs →
  Post K E c (fun w c' H' => ∀ v, RepW K c'.G c'.ρ w v → Q v H') (f ws c.O) → r vs H Q
def dCall (f : List W → M W) (a : DA) : DE := fun Γ => do
  let ws ← a Γ
  f ws
variable {rN : List V → Hp → VK → Prop} {fN : List W → M W}
theorem v_cb (hs : SemN K E rN fN) {σ : L2.St} {H : Hp} {Q : VK} (h : VT K E (dCall fN dr) σ H Q) : tCB rN (VA K E dr) σ H Q := by
  obtain ⟨c, Γ, rel, env, p⟩ := h
  exact ⟨c, Γ, rel, env, (Post.bind p).mono fun ws c1 H1 l1 rel1 p1 vs rvs => hs c1 H1 ws vs Q rel1 rvs p1⟩
theorem c_blt {id : String} {x : Str} {p : Pos} (hc : CallR X (.builtin id) rN) (hs : SemN X.K E rN fN) (hg : Gl X x) (hm : X.mg x = none) (hv : bootBuiltins x = some (.builtin id)) (ha : PA X (a :: es) (VA X.K E dr)) (hn : x ≠ "__name__" := by decide) (hdb : (x == ("__debug__" : Str)) = false := by decide)
    (he : starEach (a :: es) X.env = (false, eval a X.env) :: starEach es X.env := by rfl) (hpl : (backTo pos (starEach es X.env)).any (·.1) = false := by rfl) : PE X (.Call (.Name x p) (a :: es) [] pos) (VT X.K E (dCall fN dr)) :=
  (pe_callB hc hg hm hv ha hn hdb he hpl).imp fun _ _ _ => v_cb hs
theorem c_bty {T : String} {x : Str} {p : Pos} (hc : CallR X (.type T) rN) (hs : SemN X.K E rN fN) (hg : Gl X x) (hm : X.mg x = none) (hv : bootBuiltins x = some (.type T)) (ha : PA X (a :: es) (VA X.K E dr)) (hn : x ≠ "__name__" := by decide) (hdb : (x == ("__debug__" : Str)) = false := by decide)
    (he : starEach (a :: es) X.env = (false, eval a X.env) :: starEach es X.env := by rfl) (hpl : (backTo pos (starEach es X.env)).any (·.1) = false := by rfl) : PE X (.Call (.Name x p) (a :: es) [] pos) (VT X.K E (dCall fN dr)) :=
  (pe_callTy hc hg hm hv ha hn hdb he hpl).imp fun _ _ _ => v_cb hs
/-- a def's promise, by what it computes -/
def spV (K : PySem.W.Frag) (n : Nat) (f : List W → M W) : Sp := fun vs H Q E => ∃ c ws, Rel K c H ∧ RepsW K c.G c.ρ ws vs ∧ ws.length = n ∧ Post K E c (fun w c' H' => ∀ v, RepW K c'.G c'.ρ w v → Q v H') (f ws c.O)
/-- f of n arguments -/
def arity (n : Nat) (f : List W → M W) : List W → M W := fun ws => if ws.length = n then f ws else M.no
theorem v_call {n : Nat} {σ : L2.St} {H : Hp} {Q : VK} (h : VT K E (dCall (arity n fN) dr) σ H Q) : tCall (spV K n fN) [] E (VA K E dr) σ H Q := by
  obtain ⟨c, Γ, rel, env, p⟩ := h
  refine ⟨c, Γ, rel, env, (Post.bind p).mono fun ws c1 H1 l1 rel1 p1 vs rvs => ?_⟩
  unfold arity at p1
  split at p1
  · rename_i hn
    show spV K n fN (vs ++ []) H1 Q E
    rw [List.append_nil]
    exact ⟨c1, ws, rel1, rvs, hn, p1⟩
  · exact p1.no
theorem c_call {CX : CXT} {k n : Nat} {f : Addr} {fd : FuncData} {ps : List Str} {x : Str} {p : Pos} (F : FnOk X.prog X.w X.K X.mg X.base CX k f fd ps (spV X.K n fN)) (hr : Room k X.A) (hg : Gl X x) (hm : X.mg x = some (.ref f)) (hk : PySem.W.keepIn X.K (.ref f) = true) (hb : Binds X.K fd ps []) (hx : Passes CX X E)
    (ha : PA X (a :: es) (VA X.K E dr)) (hdb : (x == ("__debug__" : Str)) = false := by decide) (he : starEach (a :: es) X.env = (false, eval a X.env) :: starEach es X.env := by rfl) (hpl : (backTo pos (starEach es X.env)).any (·.1) = false := by rfl) :
    PE X (.Call (.Name x p) (a :: es) [] pos) (VT X.K E (dCall (arity n fN) dr)) :=
  (pe_call F hr hg hm hk hb .nil hx ha hdb he hpl).imp fun _ _ _ => v_call
end
end VL


set_option maxRecDepth 100000
set_option maxHeartbeats 2000000
/-! The value layer: operators, built-ins, subscripts, methods, dicts. -/
namespace VL
open PySem L2
section
variable {K : PySem.W.Frag} {E : XK} {c : Cf} {H : Hp} {v : V} {w : W}
abbrev PW_ (K : PySem.W.Frag) (E : XK) (c : Cf) (Q : VK) (o : Out W) : Prop := Post K E c (fun w c' H' => ∀ v, RepW K c'.G c'.ρ w v → Q v H') o
theorem PW_.fin {Q : VK} {a : W} (p : PW_ K E c Q (.ok a c.O)) (r : Rel K c H) {v : V} (h : RepW K c.G c.ρ a v) : Q v H := Post.here p r v h
theorem rw_int {i : Int} (h : RepW K c.G c.ρ (.d (.int i)) v) : v = .int i := by
  have h : Rep K c.G (.int i) v := h
  unfold Rep at h
  exact h
theorem rw_str {i : Str} (h : RepW K c.G c.ρ (.d (.str i)) v) : v = .str i := by
  have h : Rep K c.G (.str i) v := h
  unfold Rep at h
  exact h
theorem rw_non (h : RepW K c.G c.ρ (.d .non) v) : v = .non := by
  have h : Rep K c.G .non v := h
  unfold Rep at h
  exact h
theorem rw_bl {i : Bool} (h : RepW K c.G c.ρ (.d (.bl i)) v) : v = .bl i := by
  have h : Rep K c.G (.bl i) v := h
  unfold Rep at h
  exact h
/-- a list as it stands: known, or of the store -/
def wL (w : W) (O : Sto) : Option (List D) := match w with
  | .d (.lst ds) => some ds
  | .own k => match O[k]? with
    | some (.lst ds) => some ds
    | _ => none
  | _ => none
@[simp] theorem wL_lst (ds : List D) (O : Sto) : wL (.d (.lst ds)) O = some ds := rfl
theorem wL_own {k : Nat} {O : Sto} {ds : List D} (h : O[k]? = some (.lst ds)) : wL (.own k) O = some ds := by simp only [wL, h]
theorem wL_ok (rel : Rel K c H) (rv : RepW K c.G c.ρ w v) {ds : List D} (e : wL w c.O = some ds) : ∃ a xs, v = .ref a ∧ H a = some (.lst xs) ∧ xs.length ≤ sizeLine ∧ Reps K c.G ds xs := by
  cases w with
  | d d =>
    cases d with
    | lst es =>
      have e : some es = some ds := e
      cases e
      have rv : Rep K c.G (.lst ds) v := rv
      unfold Rep at rv
      obtain ⟨a, xs, h1, h2, h3, h4⟩ := rv
      exact ⟨a, xs, h1, rel.ex _ _ h2, h3, h4⟩
    | _ => cases e
  | own k =>
    obtain ⟨a, ha, hv⟩ := rv
    cases q : c.O[k]? with
    | none => simp only [wL, q] at e; cases e
    | some m =>
      cases m with
      | lst es =>
        simp only [wL, q] at e
        cases e
        obtain ⟨_, _, o, ho, xs, hx, h4, h3⟩ := rel.live k _ a q ha (by intro z; cases z)
        subst hx
        exact ⟨a, xs, hv, ho, h3, h4⟩
      | _ => simp only [wL, q] at e; cases e
/-- a tuple's items -/
theorem tup_of (rel : Rel K c H) {ds : List D} (rv : RepW K c.G c.ρ (.d (.tup ds)) v) : ∃ a xs, v = .ref a ∧ SqT K H a xs ∧ xs.length ≤ sizeLine ∧ Reps K c.G ds xs := by
  have rv : Rep K c.G (.tup ds) v := rv
  unfold Rep at rv
  obtain ⟨a, xs, h1, h2, h3, h4⟩ := rv
  exact ⟨a, xs, h1, .of (rel.ex _ _ h2), h3, h4⟩
/-- a list or a tuple, as it stands -/
def wS (w : W) (O : Sto) : Option (List D) := match w with
  | .d (.tup ds) => some ds
  | w => wL w O
@[simp] theorem wS_tup (ds : List D) (O : Sto) : wS (.d (.tup ds)) O = some ds := rfl
@[simp] theorem wS_lst (ds : List D) (O : Sto) : wS (.d (.lst ds)) O = some ds := rfl
theorem wS_own {k : Nat} {O : Sto} {ds : List D} (h : O[k]? = some (.lst ds)) : wS (.own k) O = some ds := wL_own h
theorem wS_ok (rel : Rel K c H) (rv : RepW K c.G c.ρ w v) {ds : List D} (e : wS w c.O = some ds) : ∃ a xs, v = .ref a ∧ (SqL K H a xs ∨ SqT K H a xs) ∧ xs.length ≤ sizeLine ∧ Reps K c.G ds xs := by
  have go : wL w c.O = some ds → ∃ a xs, v = .ref a ∧ (SqL K H a xs ∨ SqT K H a xs) ∧ xs.length ≤ sizeLine ∧ Reps K c.G ds xs := fun e => by
    obtain ⟨a, xs, h1, h2, h3, h4⟩ := wL_ok rel rv e
    exact ⟨a, xs, h1, .inl (.of h2), h3, h4⟩
  cases w with
  | d d =>
    cases d with
    | tup es =>
      have e : some es = some ds := e
      cases e
      obtain ⟨a, xs, h1, h2, h3, h4⟩ := tup_of rel rv
      exact ⟨a, xs, h1, .inr h2, h3, h4⟩
    | _ => exact go e
  | own k => exact go e

/-! ### + - * // % ** -/
def wAdd (x y : W) : M W := fun O => match x, y with
  | .d (.int i), .d (.int j) => .ok (.d (.int (i + j))) O
  | .d (.str a), .d (.str b) => if a.length + b.length ≤ sizeLine then .ok (.d (.str (a ++ b))) O else .no
  | .d (.tup a), .d (.tup b) => if a ≠ [] ∧ a.length + b.length ≤ sizeLine then .ok (.d (.tup (a ++ b))) O else .no
  | x, y => match wL x O, wL y O with
    | some a, some b => if a.length + b.length ≤ sizeLine then .ok (.d (.lst (a ++ b))) O else .no
    | _, _ => .no
def rAddV (K : PySem.W.Frag) : R2 := fun x y H Q => (∃ i j, x = .int i ∧ y = .int j ∧ Q (.int (i + j)) H) ∨ (rCatT K x y H Q ∨ ((∃ i j, x = .str i ∧ y = .str j ∧ i.length + j.length ≤ sizeLine ∧ Q (.str (i ++ j)) H) ∨ rCat x y H Q))
theorem op_addV {X : Cx} : OpR X (binaryOp .Add) (rAddV X.K) := op_add.or (op_catT.or (op_add_str.or op_cat))
theorem s_add : Sem2 K E (rAddV K) wAdd := fun c H w1 w2 v1 v2 Q rel r1 r2 p => by
  have cat : ∀ {a b : List D}, wL w1 c.O = some a → wL w2 c.O = some b → PW_ K E c Q (if a.length + b.length ≤ sizeLine then .ok (.d (.lst (a ++ b))) c.O else .no) → rAddV K v1 v2 H Q := fun {a b} e1 e2 p => by
    by_cases hl : a.length + b.length ≤ sizeLine
    · rw [if_pos hl] at p
      obtain ⟨a1, xs, rfl, h1, z1, q1⟩ := wL_ok rel r1 e1
      obtain ⟨b1, ys, rfl, h2, z2, q2⟩ := wL_ok rel r2 e2
      exact .inr (.inr (.inr ⟨a1, b1, xs, ys, rfl, rfl, h1, h2, by rw [← q1.length, ← q2.length]; exact hl, lst_ok rel (q1.append q2) (by simpa using hl) p⟩))
    · rw [if_neg hl] at p; exact p.no
  have other : (∀ O, wAdd w1 w2 O = match wL w1 O, wL w2 O with
    | some a, some b => if a.length + b.length ≤ sizeLine then .ok (.d (.lst (a ++ b))) O else .no
    | _, _ => .no) → rAddV K v1 v2 H Q := fun e => by
    rw [e] at p
    cases e1 : wL w1 c.O with
    | none => simp only [e1] at p; exact p.no
    | some a =>
      cases e2 : wL w2 c.O with
      | none => simp only [e1, e2] at p; exact p.no
      | some b => simp only [e1, e2] at p; exact cat e1 e2 p
  cases w1 with
  | own k => exact other fun O => by cases w2 with
    | own j => rfl
    | d e => cases e <;> rfl
  | d d =>
    cases d with
    | int i =>
      cases w2 with
      | d e =>
        cases e with
        | int j =>
          have p : PW_ K E c Q (.ok (.d (.int (i + j))) c.O) := p
          exact .inl ⟨i, j, rw_int r1, rw_int r2, p.fin rel rep_int⟩
        | _ => exact other fun O => rfl
      | own k => exact other fun O => rfl
    | str a =>
      cases w2 with
      | d e =>
        cases e with
        | str b =>
          have p : PW_ K E c Q (if a.length + b.length ≤ sizeLine then .ok (.d (.str (a ++ b))) c.O else .no) := p
          by_cases hl : a.length + b.length ≤ sizeLine
          · rw [if_pos hl] at p
            exact .inr (.inr (.inl ⟨a, b, rw_str r1, rw_str r2, hl, p.fin rel rep_str⟩))
          · rw [if_neg hl] at p; exact p.no
        | _ => exact other fun O => rfl
      | own k => exact other fun O => rfl
    | tup a =>
      cases w2 with
      | d e =>
        cases e with
        | tup b =>
          have p : PW_ K E c Q (if a ≠ [] ∧ a.length + b.length ≤ sizeLine then .ok (.d (.tup (a ++ b))) c.O else .no) := p
          by_cases hl : a ≠ [] ∧ a.length + b.length ≤ sizeLine
          · rw [if_pos hl] at p
            obtain ⟨a1, xs, rfl, h1, z1, q1⟩ := tup_of rel r1
            obtain ⟨b1, ys, rfl, h2, z2, q2⟩ := tup_of rel r2
            refine .inr (.inl ⟨a1, b1, xs, ys, rfl, rfl, h1, h2, fun e => ?_, by rw [← q1.length, ← q2.length]; exact hl.2, fun e => ?_, fun _ => ?_⟩)
            · have := q1.length
              rw [e] at this
              exact hl.1 (List.length_eq_zero_iff.mp this)
            · have hb : b = [] := by
                have := q2.length
                rw [e] at this
                exact List.length_eq_zero_iff.mp this
              subst hb
              rw [List.append_nil] at p
              exact p.fin rel r1
            · exact tup2_ok rel (q1.append q2) (by simpa using hl.2) p
          · rw [if_neg hl] at p; exact p.no
        | _ => exact other fun O => rfl
      | own k => exact other fun O => rfl
    | _ => exact other fun O => by cases w2 with
      | own j => rfl
      | d e => cases e <;> rfl
/-- two ints -/
def wI (f : Int → Int → M W) (x y : W) : M W := match x, y with
  | .d (.int i), .d (.int j) => f i j
  | _, _ => M.no
theorem s_int {r : R2} {f : Int → Int → M W} (h : ∀ c H i j Q, Rel K c H → PW_ K E c Q (f i j c.O) → r (.int i) (.int j) H Q) : Sem2 K E r (wI f) := fun c H w1 w2 v1 v2 Q rel r1 r2 p => by
  unfold wI at p
  split at p
  · rename_i i j
    rw [rw_int r1, rw_int r2]
    exact h c H i j Q rel p
  · exact p.no
theorem s_int0 (g : Int → Int → Int) : Sem2 K E (rI0 fun i j => .int (g i j)) (wI fun i j => pure (.d (.int (g i j)))) := s_int fun c H i j Q rel p => ⟨i, j, rfl, rfl, PW_.fin p rel rep_int⟩
theorem s_cmp0 (g : Int → Int → Bool) : Sem2 K E (rI0 fun i j => .bl (g i j)) (wI fun i j => pure (.d (.bl (g i j)))) := s_int fun c H i j Q rel p => ⟨i, j, rfl, rfl, PW_.fin p rel rep_bl⟩
theorem s_intC {C : Int → Int → Prop} [h : ∀ i j, Decidable (C i j)] {C' : Int → Int → Prop} (hc : ∀ i j, C i j → C' i j) (g : Int → Int → Int) : Sem2 K E (rI C' fun i j => .int (g i j)) (wI fun i j => if C i j then pure (.d (.int (g i j))) else M.no) := s_int fun c H i j Q rel p => by
  by_cases q : C i j
  · rw [if_pos q] at p
    exact ⟨i, j, rfl, rfl, hc i j q, PW_.fin p rel rep_int⟩
  · rw [if_neg q] at p; exact p.no
def wSub : W → W → M W := wI fun i j => pure (.d (.int (i - j)))
theorem s_sub : Sem2 K E (rI0 fun i j => .int (i - j)) wSub := s_int0 _
/-- a bound of numbers -/
def far : Int := 2 ^ 4000
def MulC (i j : Int) : Prop := (-(2 ^ 64) < i ∧ i < 2 ^ 64) ∨ (-(2 ^ 64) < j ∧ j < 2 ^ 64) ∨ ((-far < i ∧ i < far) ∧ (-far < j ∧ j < far))
noncomputable instance (i j : Int) : Decidable (MulC i j) := Classical.propDecidable _
theorem far_log {i : Int} (h : -far < i ∧ i < far) : i.natAbs < 2 ^ 4000 := by
  have e : far = ((2 ^ 4000 : Nat) : Int) := by unfold far; exact (Int.natCast_pow 2 4000).symm
  rw [e] at h
  generalize (2 ^ 4000 : Nat) = z at h ⊢
  omega
theorem far_pos : (0 : Int) < far := by
  unfold far
  exact Int.pow_pos (by decide)
def rMulV : R2 := fun x y H Q => rI CMul (fun i j => .int (i * j)) x y H Q ∨ rI CMulW (fun i j => .int (i * j)) x y H Q
theorem op_mulV {X : Cx} : OpR X (binaryOp .Mult) rMulV := op_mul.or op_mulW
noncomputable def wMul : W → W → M W := wI fun i j => if MulC i j then pure (.d (.int (i * j))) else M.no
theorem s_mul : Sem2 K E rMulV wMul := s_int fun c H i j Q rel p => by
  by_cases q : MulC i j
  · rw [if_pos q] at p
    rcases q with q | q | ⟨q1, q2⟩
    · exact .inl ⟨i, j, rfl, rfl, .inl q, PW_.fin p rel rep_int⟩
    · exact .inl ⟨i, j, rfl, rfl, .inr q, PW_.fin p rel rep_int⟩
    · exact .inr ⟨i, j, rfl, rfl, wide_mul (far_log q1) (far_log q2) (by decide) (by decide) (by decide), PW_.fin p rel rep_int⟩
  · rw [if_neg q] at p; exact p.no
def DivC (_ j : Int) : Prop := 0 < j ∧ j < far
noncomputable instance (i j : Int) : Decidable (DivC i j) := Classical.propDecidable _
noncomputable def wDiv : W → W → M W := wI fun i j => if DivC i j then pure (.d (.int (i / j))) else M.no
theorem s_div : Sem2 K E (rI CDivW fun i j => .int (i / j)) wDiv := s_intC (C := DivC) (fun i j h => wide_div h.1 (far_log ⟨Int.lt_trans (Int.neg_neg_of_pos far_pos) h.1, h.2⟩) (by decide) (by decide)) _
def wMod : W → W → M W := wI fun i j => if 0 < j then pure (.d (.int (i % j))) else M.no
theorem s_mod : Sem2 K E (rI (fun _ j => 0 < j) fun i j => .int (i % j)) wMod := s_intC (C := fun _ j => 0 < j) (fun _ _ h => h) _
def PowC (i j : Int) : Prop := (0 ≤ j ∧ j ≤ 1000000) ∧ (-(2 ^ 64) < i ∧ i < 2 ^ 64)
noncomputable instance (i j : Int) : Decidable (PowC i j) := Classical.propDecidable _
noncomputable def wPow : W → W → M W := wI fun i j => if PowC i j then pure (.d (.int (i ^ j.toNat))) else M.no
theorem s_pow : Sem2 K E (rI CPow fun i j => .int (i ^ j.toNat)) wPow := s_intC (C := PowC) (fun i j h => ⟨h.1.1, h.1.2, by have := h.2; omega⟩) _
/-- a list, as many times; it is to change -/
def RepC (n : Nat) (k : Int) : Prop := (-(2 ^ 63) ≤ k ∧ k < 2 ^ 63) ∧ n * k.toNat ≤ sizeLine
noncomputable instance (n : Nat) (k : Int) : Decidable (RepC n k) := Classical.propDecidable _
noncomputable def wRepO (x y : W) : M W := fun O => match wL x O, y with
  | some ds, .d (.int k) => if RepC ds.length k then .ok (.own O.length) (O ++ [.lst (List.replicate k.toNat ds).flatten]) else .no
  | _, _ => .no
theorem reps_rep {G : Hp} {ds : List D} {xs : List V} (h : Reps K G ds xs) : ∀ k : Nat, Reps K G (List.replicate k ds).flatten (List.replicate k xs).flatten
  | 0 => reps_nil.mpr rfl
  | k + 1 => by
    rw [List.replicate_succ, List.replicate_succ, List.flatten_cons, List.flatten_cons]
    exact h.append (reps_rep h k)
theorem len_rep {α : Type} (l : List α) (k : Nat) : (List.replicate k l).flatten.length = l.length * k := by
  rw [List.length_flatten, List.map_replicate, List.sum_replicate_nat, Nat.mul_comm]
theorem s_repO : Sem2 K E rRep wRepO := fun c H w1 w2 v1 v2 Q rel r1 r2 p => by
  unfold wRepO at p
  split at p
  · rename_i ds k e
    split at p
    · rename_i hk
      obtain ⟨a, xs, rfl, h1, z1, q1⟩ := wL_ok rel r1 e
      refine ⟨a, k, xs, rfl, rw_int r2, h1, hk.1.1, hk.1.2, by rw [← q1.length]; exact hk.2, own_ok rel (reps_rep q1 _) (by rw [len_rep]; exact hk.2) p⟩
    · exact p.no
  · exact p.no

/-! ### comparisons -/
def wLt : W → W → M W := wI fun i j => pure (.d (.bl (decide (i < j))))
def wLe : W → W → M W := wI fun i j => pure (.d (.bl (decide (i ≤ j))))
def wGt : W → W → M W := wI fun i j => pure (.d (.bl (decide (j < i))))
def wGe : W → W → M W := wI fun i j => pure (.d (.bl (decide (j ≤ i))))
theorem s_lt : Sem2 K E (rI0 fun i j => .bl (decide (i < j))) wLt := s_cmp0 _
theorem s_le : Sem2 K E (rI0 fun i j => .bl (decide (i ≤ j))) wLe := s_cmp0 _
theorem s_gt : Sem2 K E (rI0 fun i j => .bl (decide (j < i))) wGt := s_cmp0 _
theorem s_ge : Sem2 K E (rI0 fun i j => .bl (decide (j ≤ i))) wGe := s_cmp0 _
/-- data that == tells apart, n deep -/
def D.good : Nat → D → Bool
  | _, .non => true
  | _, .bl _ => true
  | _, .int _ => true
  | _, .str x => PyData.strOk x
  | n + 1, .tup ds => ds.all (D.good n)
  | n + 1, .lst ds => ds.all (D.good n)
  | _, _ => false
mutual
def D.py : D → PyData
  | .bl b => .bool b
  | .int i => .int i
  | .str x => .str x
  | .tup ds => .tuple (D.pys ds)
  | .lst ds => .list (D.pys ds)
  | _ => .none
def D.pys : List D → List PyData
  | [] => []
  | d :: ds => D.py d :: D.pys ds
end
def D.eqv (a b : D) : Bool := PyData.eqv a.py b.py
theorem dpAll_of {n : Nat} {G : Hp} (ih : ∀ (d : D) (v : V), D.good n d = true → Rep K G d v → Dp K G v d.py ∧ d.py.canLay0 = true ∧ d.py.depth ≤ n) : ∀ (ds : List D) (xs : List V), ds.all (D.good n) = true → Reps K G ds xs → DpAll K G xs (D.pys ds) ∧ PyData.canLayAll0 (D.pys ds) = true ∧ PyData.depthAll (D.pys ds) ≤ n
  | [], xs, h, r => by
    rw [reps_nil.mp r]
    refine ⟨?_, ?_, ?_⟩
    · unfold D.pys; exact .nil
    · unfold D.pys PyData.canLayAll0; rfl
    · unfold D.pys PyData.depthAll; omega
  | d :: ds, xs, h, r => by
    obtain ⟨x, t, rfl, h1, h2⟩ := reps_cons.mp r
    simp only [List.all_cons, Bool.and_eq_true] at h
    obtain ⟨a1, a2, a3⟩ := ih d x h.1 h1
    obtain ⟨b1, b2, b3⟩ := dpAll_of ih ds t h.2 h2
    refine ⟨?_, ?_, ?_⟩
    · unfold D.pys; exact .cons a1 b1
    · unfold D.pys PyData.canLayAll0; rw [a2, b2]; rfl
    · unfold D.pys PyData.depthAll; omega
theorem dp_of {G : Hp} : ∀ (n : Nat) (d : D) (v : V), D.good n d = true → Rep K G d v → Dp K G v d.py ∧ d.py.canLay0 = true ∧ d.py.depth ≤ n
  | n, .non, v, h, r => by
    unfold Rep at r; subst r
    exact ⟨by unfold D.py; exact .non, by unfold D.py PyData.canLay0; rfl, by unfold D.py PyData.depth; omega⟩
  | n, .bl b, v, h, r => by
    unfold Rep at r; subst r
    exact ⟨by unfold D.py; exact .bl b, by unfold D.py PyData.canLay0; rfl, by unfold D.py PyData.depth; omega⟩
  | n, .int b, v, h, r => by
    unfold Rep at r; subst r
    exact ⟨by unfold D.py; exact .int b, by unfold D.py PyData.canLay0; rfl, by unfold D.py PyData.depth; omega⟩
  | n, .str b, v, h, r => by
    unfold Rep at r; subst r
    have h : PyData.strOk b = true := by cases n <;> exact h
    exact ⟨by unfold D.py; exact .str b, by unfold D.py PyData.canLay0; exact h, by unfold D.py PyData.depth; omega⟩
  | n + 1, .tup ds, v, h, r => by
    unfold Rep at r
    obtain ⟨a, xs, rfl, h1, _, h2⟩ := r
    have h : ds.all (D.good n) = true := h
    obtain ⟨a1, a2, a3⟩ := dpAll_of (fun d v => dp_of n d v) ds xs h h2
    refine ⟨?_, ?_, ?_⟩
    · unfold D.py; exact .tup (.of h1) a1
    · unfold D.py PyData.canLay0; exact a2
    · unfold D.py PyData.depth; omega
  | n + 1, .lst ds, v, h, r => by
    unfold Rep at r
    obtain ⟨a, xs, rfl, h1, _, h2⟩ := r
    have h : ds.all (D.good n) = true := h
    obtain ⟨a1, a2, a3⟩ := dpAll_of (fun d v => dp_of n d v) ds xs h h2
    refine ⟨?_, ?_, ?_⟩
    · unfold D.py; exact .lst (.of h1) a1
    · unfold D.py PyData.canLay0; exact a2
    · unfold D.py PyData.depth; omega
  | 0, .tup ds, v, h, r => by cases h
  | 0, .lst ds, v, h, r => by cases h
  | n, .scr ns, v, h, r => by cases n <;> cases h
  | n, .dic ks ds, v, h, r => by cases n <;> cases h
  | n, .ins C ks ds, v, h, r => by cases n <;> cases h
  | n, .adr a, v, h, r => by cases n <;> cases h
  | n, .rng _ _, v, h, r => by cases n <;> cases h
  | n, .ty a, v, h, r => by cases n <;> cases h
mutual
theorem dp_mono {G G' : Hp} (e : Ext G G') : ∀ (d : PyData) (v : V), Dp K G v d → Dp K G' v d
  | .none, v, h => by cases h; exact .non
  | .bool b, v, h => by cases h; exact .bl b
  | .int b, v, h => by cases h; exact .int b
  | .str b, v, h => by cases h; exact .str b
  | .list ds, v, h => by
    cases h with
    | lst h1 h2 => exact .lst (sql_mono e h1) (dpAll_mono e _ _ h2)
  | .tuple ds, v, h => by
    cases h with
    | tup h1 h2 => exact .tup (sqt_mono e h1) (dpAll_mono e _ _ h2)
  | .dict _, v, h => by cases h
theorem dpAll_mono {G G' : Hp} (e : Ext G G') : ∀ (ds : List PyData) (xs : List V), DpAll K G xs ds → DpAll K G' xs ds
  | [], xs, h => by cases h; exact .nil
  | d :: ds, xs, h => by
    cases h with
    | cons h1 h2 => exact .cons (dp_mono e _ _ h1) (dpAll_mono e _ _ h2)
end
/-- what is compared, as it stands -/
def wQ (w : W) (O : Sto) : Option D := match w with
  | .d d => some d
  | .own k => match O[k]? with
    | some (.lst ds) => some (.lst ds)
    | _ => none
@[simp] theorem wQ_d (d : D) (O : Sto) : wQ (.d d) O = some d := rfl
theorem wQ_own {k : Nat} {O : Sto} {ds : List D} (h : O[k]? = some (.lst ds)) : wQ (.own k) O = some (.lst ds) := by simp only [wQ, h]
theorem wQ_ok (rel : Rel K c H) (rv : RepW K c.G c.ρ w v) {d : D} (e : wQ w c.O = some d) (g : D.good 60 d = true) : ∃ q, q = d.py ∧ Dp K H v q ∧ SeqAt.shaped q = true := by
  refine ⟨d.py, rfl, ?_⟩
  have sh : ∀ {d : D}, d.py.canLay0 = true → d.py.depth ≤ 60 → SeqAt.shaped d.py = true := fun a b => by
    unfold SeqAt.shaped
    rw [a, Bool.true_and]
    exact decide_eq_true (by omega)
  cases w with
  | d d0 =>
    cases e
    obtain ⟨a, b, f⟩ := dp_of 60 d v g rv
    exact ⟨dp_mono rel.ex _ _ a, sh b f⟩
  | own k =>
    cases q : c.O[k]? with
    | none => simp only [wQ, q] at e; cases e
    | some m =>
      cases m with
      | lst ds =>
        simp only [wQ, q] at e
        cases e
        obtain ⟨a, xs, h1, h2, h3, h4⟩ := wL_ok rel rv (wL_own q)
        have g : ds.all (D.good 59) = true := g
        obtain ⟨a1, a2, a3⟩ := dpAll_of (fun d v => dp_of 59 d v) ds xs g h4
        subst h1
        refine ⟨?_, sh (d := .lst ds) ?_ ?_⟩
        · unfold D.py; exact .lst (.of h2) (dpAll_mono rel.ex _ _ a1)
        · unfold D.py PyData.canLay0; exact a2
        · unfold D.py PyData.depth; omega
      | _ => simp only [wQ, q] at e; cases e
def wEq (x y : W) : M W := fun O => match wQ x O, wQ y O with
  | some a, some b => if D.good 60 a = true ∧ D.good 60 b = true then .ok (.d (.bl (D.eqv a b))) O else .no
  | _, _ => .no
def wNe (x y : W) : M W := fun O => match wQ x O, wQ y O with
  | some a, some b => if D.good 60 a = true ∧ D.good 60 b = true then .ok (.d (.bl (!D.eqv a b))) O else .no
  | _, _ => .no
theorem s_eq : Sem2 K E (rEqD K) wEq := fun c H w1 w2 v1 v2 Q rel r1 r2 p => by
  unfold wEq at p
  cases e1 : wQ w1 c.O with
  | none => simp only [e1] at p; exact p.no
  | some a =>
    cases e2 : wQ w2 c.O with
    | none => simp only [e1, e2] at p; exact p.no
    | some b =>
      simp only [e1, e2] at p
      by_cases g : D.good 60 a = true ∧ D.good 60 b = true
      · rw [if_pos g] at p
        obtain ⟨q1, z1, d1, s1⟩ := wQ_ok rel r1 e1 g.1
        obtain ⟨q2, z2, d2, s2⟩ := wQ_ok rel r2 e2 g.2
        subst z1 z2
        exact ⟨_, _, d1, d2, s1, s2, PW_.fin p rel rep_bl⟩
      · rw [if_neg g] at p; exact p.no
theorem s_ne : Sem2 K E (rNeD K) wNe := fun c H w1 w2 v1 v2 Q rel r1 r2 p => by
  unfold wNe at p
  cases e1 : wQ w1 c.O with
  | none => simp only [e1] at p; exact p.no
  | some a =>
    cases e2 : wQ w2 c.O with
    | none => simp only [e1, e2] at p; exact p.no
    | some b =>
      simp only [e1, e2] at p
      by_cases g : D.good 60 a = true ∧ D.good 60 b = true
      · rw [if_pos g] at p
        obtain ⟨q1, z1, d1, s1⟩ := wQ_ok rel r1 e1 g.1
        obtain ⟨q2, z2, d2, s2⟩ := wQ_ok rel r2 e2 g.2
        subst z1 z2
        exact ⟨_, _, d1, d2, s1, s2, PW_.fin p rel rep_bl⟩
      · rw [if_neg g] at p; exact p.no
def wIsN (x y : W) : M W := match x, y with
  | .d .non, .d .non => pure (.d (.bl true))
  | _, .d .non => pure (.d (.bl false))
  | _, _ => M.no
def wNotN (x y : W) : M W := match x, y with
  | .d .non, .d .non => pure (.d (.bl false))
  | _, .d .non => pure (.d (.bl true))
  | _, _ => M.no
theorem not_non {ρ : List Addr} {G : Hp} {w : W} {v : V} (h : RepW K G ρ w v) (n : w ≠ .d .non) : v ≠ .non := by
  intro e; subst e
  cases w with
  | own k => obtain ⟨a, _, z⟩ := h; cases z
  | d d =>
    have h : Rep K G d .non := h
    cases d with
    | non => exact n rfl
    | tup ds => unfold Rep at h; obtain ⟨_, _, z, _⟩ := h; cases z
    | lst ds => unfold Rep at h; obtain ⟨_, _, z, _⟩ := h; cases z
    | scr ds => unfold Rep at h; obtain ⟨_, z, _⟩ := h; cases z
    | rng _ _ => unfold Rep at h; obtain ⟨_, z, _⟩ := h; cases z
    | dic ks ds => unfold Rep at h; obtain ⟨_, _, z, _⟩ := h; cases z
    | ins C ks ds => unfold Rep at h; obtain ⟨_, _, _, z, _⟩ := h; cases z
    | _ => unfold Rep at h; cases h
theorem s_isN : Sem2 K E (fun x y H Q => y = .non ∧ Q (.bl (decide (x = .non))) H) wIsN := fun c H w1 w2 v1 v2 Q rel r1 r2 p => by
  unfold wIsN at p
  split at p
  · have e := rw_non r1
    refine ⟨rw_non r2, ?_⟩
    rw [decide_eq_true e]
    exact PW_.fin p rel rep_bl
  · rename_i n
    refine ⟨rw_non r2, ?_⟩
    rw [decide_eq_false (not_non r1 fun z => n z)]
    exact PW_.fin p rel rep_bl
  · exact p.no
theorem s_notN : Sem2 K E (fun x y H Q => y = .non ∧ Q (.bl (!decide (x = .non))) H) wNotN := fun c H w1 w2 v1 v2 Q rel r1 r2 p => by
  unfold wNotN at p
  split at p
  · have e := rw_non r1
    refine ⟨rw_non r2, ?_⟩
    rw [decide_eq_true e]
    exact PW_.fin p rel rep_bl
  · rename_i n
    refine ⟨rw_non r2, ?_⟩
    rw [decide_eq_false (not_non r1 fun z => n z)]
    exact PW_.fin p rel rep_bl
  · exact p.no
end
end VL


set_option maxRecDepth 100000
set_option maxHeartbeats 2000000
/-! The value layer: built-ins, subscripts, slices, methods. -/
namespace VL
open PySem L2
section
variable {K : PySem.W.Frag} {E : XK} {c : Cf} {H : Hp} {v : V} {w : W}
theorem repsW1 {G : Hp} {ρ : List Addr} {w : W} {vs : List V} (h : RepsW K G ρ [w] vs) : ∃ v, vs = [v] ∧ RepW K G ρ w v := by
  cases h with
  | cons h1 h2 => cases h2; exact ⟨_, rfl, h1⟩
theorem repsW2 {G : Hp} {ρ : List Addr} {w u : W} {vs : List V} (h : RepsW K G ρ [w, u] vs) : ∃ v z, vs = [v, z] ∧ RepW K G ρ w v ∧ RepW K G ρ u z := by
  cases h with
  | cons h1 h2 =>
    obtain ⟨z, rfl, h3⟩ := repsW1 h2
    exact ⟨_, z, rfl, h1, h3⟩
/-- one value -/
def w1 (f : W → M W) : List W → M W
  | [x] => f x
  | _ => M.no
def w2 (f : W → W → M W) : List W → M W
  | [x, y] => f x y
  | _ => M.no
theorem s_1 {r : List V → Hp → VK → Prop} {f : W → M W} (h : ∀ c H w v Q, Rel K c H → RepW K c.G c.ρ w v → PW_ K E c Q (f w c.O) → r [v] H Q) : SemN K E r (w1 f) := fun c H ws vs Q rel rs p => by
  match ws, rs, p with
  | [x], rs, p =>
    obtain ⟨v, rfl, r1⟩ := repsW1 rs
    exact h c H x v Q rel r1 p
  | [], _, p => exact p.no
  | _ :: _ :: _, _, p => exact p.no
theorem s_2 {r : List V → Hp → VK → Prop} {f : W → W → M W} (h : ∀ c H w u v z Q, Rel K c H → RepW K c.G c.ρ w v → RepW K c.G c.ρ u z → PW_ K E c Q (f w u c.O) → r [v, z] H Q) : SemN K E r (w2 f) := fun c H ws vs Q rel rs p => by
  match ws, rs, p with
  | [x, y], rs, p =>
    obtain ⟨v, z, rfl, r1, r2⟩ := repsW2 rs
    exact h c H x y v z Q rel r1 r2 p
  | [], _, p => exact p.no
  | [_], _, p => exact p.no
  | _ :: _ :: _ :: _, _, p => exact p.no
/-! ### len, int, abs, max, min, sum, tuple, all, any -/
def wLen (x : W) : M W := fun O => match wS x O with
  | some ds => .ok (.d (.int ds.length)) O
  | none => match x with
    | .d (.scr ns) => .ok (.d (.int ns.length)) O
    | _ => .no
theorem s_len : SemN K E (fun xs H Q => ∃ p ys, xs = [.ref p] ∧ (SqL K H p ys ∨ SqT K H p ys) ∧ Q (.int ys.length) H) (w1 wLen) := s_1 fun c H w v Q rel rv p => by
  unfold wLen at p
  cases e : wS w c.O with
  | some ds =>
    simp only [e] at p
    obtain ⟨a, xs, rfl, h1, h2, h3⟩ := wS_ok rel rv e
    refine ⟨a, xs, rfl, h1, ?_⟩
    rw [← h3.length]
    exact PW_.fin p rel rep_int
  | none =>
    simp only [e] at p
    cases w with
    | own k => exact p.no
    | d d =>
      cases d with
      | scr ns =>
        have rv : Rep K c.G (.scr ns) v := rv
        unfold Rep at rv
        obtain ⟨a, rfl, h1⟩ := rv
        refine ⟨a, _, rfl, .inl (sql_mono rel.ex h1), ?_⟩
        rw [List.length_map]
        exact PW_.fin p rel rep_int
      | _ => exact p.no
def wInt (x : W) : M W := match x with
  | .d (.int i) => pure (.d (.int i))
  | .d (.bl b) => pure (.d (.int (if b then 1 else 0)))
  | _ => M.no
theorem s_intN : SemN K E (fun xs H Q => (∃ i, xs = [.int i] ∧ Q (.int i) H) ∨ ∃ k, xs = [.bl k] ∧ Q (.int (if k then 1 else 0)) H) (w1 wInt) := s_1 fun c H w v Q rel rv p => by
  unfold wInt at p
  split at p
  · rename_i i
    rw [rw_int rv]
    exact .inl ⟨i, rfl, PW_.fin p rel rep_int⟩
  · rename_i b
    rw [rw_bl rv]
    exact .inr ⟨b, rfl, PW_.fin p rel rep_int⟩
  · exact p.no
def wAbs (x : W) : M W := match x with
  | .d (.int i) => pure (.d (.int (if i < 0 then -i else i)))
  | _ => M.no
theorem s_abs : SemN K E (fun xs H Q => ∃ i, xs = [.int i] ∧ Q (.int (if i < 0 then -i else i)) H) (w1 wAbs) := s_1 fun c H w v Q rel rv p => by
  unfold wAbs at p
  split at p
  · rename_i i
    rw [rw_int rv]
    exact ⟨i, rfl, PW_.fin p rel rep_int⟩
  · exact p.no
def wNeg (x : W) : M W := match x with
  | .d (.int i) => pure (.d (.int (-i)))
  | _ => M.no
def dUn (f : W → M W) (a : DE) : DE := fun Γ => do
  let x ← a Γ
  f x
theorem c_neg {X : Cx} {a : Expr} {da : DE} {pos : Pos} (ha : PE X a (VT X.K E da)) : PE X (.UnaryOp .USub a pos) (VT X.K E (dUn wNeg da)) := (pe_un un_neg ha).imp fun σ H Q h => by
  obtain ⟨c, Γ, rel, env, p⟩ := h
  refine ⟨c, Γ, rel, env, (Post.bind p).mono fun w c1 H1 l1 rel1 p1 v rv => ?_⟩
  unfold wNeg at p1
  split at p1
  · rename_i i
    rw [rw_int rv]
    exact ⟨i, rfl, PW_.fin p1 rel1 rep_int⟩
  · exact p1.no
def wMax2 : W → W → M W := wI fun i j => pure (.d (.int (if j > i then j else i)))
def wMin2 : W → W → M W := wI fun i j => pure (.d (.int (if j < i then j else i)))
theorem s_max2 : SemN K E (fun xs H Q => ∃ i j, xs = [.int i, .int j] ∧ Q (.int (if j > i then j else i)) H) (w2 wMax2) := s_2 fun c H w u v z Q rel r1 r2 p => by
  unfold wMax2 wI at p
  split at p
  · rename_i i j
    rw [rw_int r1, rw_int r2]
    exact ⟨i, j, rfl, PW_.fin p rel rep_int⟩
  · exact p.no
theorem s_min2 : SemN K E (fun xs H Q => ∃ i j, xs = [.int i, .int j] ∧ Q (.int (if j < i then j else i)) H) (w2 wMin2) := s_2 fun c H w u v z Q rel r1 r2 p => by
  unfold wMin2 wI at p
  split at p
  · rename_i i j
    rw [rw_int r1, rw_int r2]
    exact ⟨i, j, rfl, PW_.fin p rel rep_int⟩
  · exact p.no
/-- ints, bools in a list of data -/
def intsOf : List D → Option (List Int)
  | [] => some []
  | .int i :: r => (intsOf r).map (i :: ·)
  | _ :: _ => none
def blsOf : List D → Option (List Bool)
  | [] => some []
  | .bl i :: r => (blsOf r).map (i :: ·)
  | _ :: _ => none
@[simp] theorem intsOf_map : ∀ ns : List Int, intsOf (ns.map D.int) = some ns
  | [] => rfl
  | n :: ns => by show (intsOf (ns.map D.int)).map (n :: ·) = _; rw [intsOf_map ns]; rfl
@[simp] theorem blsOf_map : ∀ ns : List Bool, blsOf (ns.map D.bl) = some ns
  | [] => rfl
  | n :: ns => by show (blsOf (ns.map D.bl)).map (n :: ·) = _; rw [blsOf_map ns]; rfl
theorem intsOf_ok : ∀ {ds : List D} {ns : List Int}, intsOf ds = some ns → ds = ns.map D.int
  | [], ns, h => by cases h; rfl
  | .int i :: r, ns, h => by
    unfold intsOf at h
    cases q : intsOf r with
    | none => rw [q] at h; cases h
    | some m => rw [q] at h; cases h; rw [intsOf_ok q]; rfl
  | .non :: r, ns, h => by cases h
  | .bl _ :: r, ns, h => by cases h
  | .str _ :: r, ns, h => by cases h
  | .tup _ :: r, ns, h => by cases h
  | .lst _ :: r, ns, h => by cases h
  | .scr _ :: r, ns, h => by cases h
  | .dic _ _ :: r, ns, h => by cases h
  | .ins _ _ _ :: r, ns, h => by cases h
  | .adr _ :: r, ns, h => by cases h
  | .rng _ _ :: r, ns, h => by cases h
  | .ty _ :: r, ns, h => by cases h
theorem blsOf_ok : ∀ {ds : List D} {ns : List Bool}, blsOf ds = some ns → ds = ns.map D.bl
  | [], ns, h => by cases h; rfl
  | .bl i :: r, ns, h => by
    unfold blsOf at h
    cases q : blsOf r with
    | none => rw [q] at h; cases h
    | some m => rw [q] at h; cases h; rw [blsOf_ok q]; rfl
  | .non :: r, ns, h => by cases h
  | .int _ :: r, ns, h => by cases h
  | .str _ :: r, ns, h => by cases h
  | .tup _ :: r, ns, h => by cases h
  | .lst _ :: r, ns, h => by cases h
  | .scr _ :: r, ns, h => by cases h
  | .dic _ _ :: r, ns, h => by cases h
  | .ins _ _ _ :: r, ns, h => by cases h
  | .adr _ :: r, ns, h => by cases h
  | .rng _ _ :: r, ns, h => by cases h
  | .ty _ :: r, ns, h => by cases h
/-- a list of ints, by what is reckoned of it -/
def wInts (f : List Int → M W) (x : W) : M W := fun O => match wL x O with
  | some ds => match intsOf ds with
    | some ns => f ns O
    | none => .no
  | none => .no
theorem ints_ok {Q : VK} {f : List Int → M W} (rel : Rel K c H) (rv : RepW K c.G c.ρ w v) (p : PW_ K E c Q (wInts f w c.O)) : ∃ a ns, v = .ref a ∧ SqL K H a (ns.map V.int) ∧ PW_ K E c Q (f ns c.O) := by
  unfold wInts at p
  cases e : wL w c.O with
  | none => simp only [e] at p; exact p.no
  | some ds =>
    simp only [e] at p
    cases e2 : intsOf ds with
    | none => simp only [e2] at p; exact p.no
    | some ns =>
      simp only [e2] at p
      obtain ⟨a, xs, h1, h2, h3, h4⟩ := wL_ok rel rv e
      rw [intsOf_ok e2] at h4
      rw [h4.ints] at h2
      exact ⟨a, ns, h1, .of h2, p⟩
def wSum : W → M W := wInts fun ns => pure (.d (.int ns.sum))
theorem s_sum : SemN K E (rSum K) (w1 wSum) := s_1 fun c H w v Q rel rv p => by
  obtain ⟨a, ns, rfl, h1, p⟩ := ints_ok rel rv p
  exact ⟨a, ns, rfl, h1, PW_.fin p rel rep_int⟩
def maxI : List Int → Int
  | [] => 0
  | n :: ns => ns.foldl max n
def minI : List Int → Int
  | [] => 0
  | n :: ns => ns.foldl min n
theorem foldl_max_le : ∀ (ns : List Int) (n : Int), n ≤ ns.foldl max n ∧ (∀ y ∈ ns, y ≤ ns.foldl max n) ∧ (ns.foldl max n = n ∨ ns.foldl max n ∈ ns)
  | [], n => ⟨Int.le_refl _, fun _ h => (nomatch h), .inl rfl⟩
  | m :: ns, n => by
    obtain ⟨h1, h2, h3⟩ := foldl_max_le ns (max n m)
    rw [List.foldl_cons]
    refine ⟨by omega, fun y hy => ?_, ?_⟩
    · rcases List.mem_cons.mp hy with rfl | hy
      · omega
      · exact h2 y hy
    · rcases h3 with h3 | h3
      · by_cases q : n ≤ m
        · right; rw [h3, Int.max_eq_right q]; exact List.mem_cons_self
        · left; rw [h3]; omega
      · right; exact List.mem_cons_of_mem _ h3
theorem foldl_min_le : ∀ (ns : List Int) (n : Int), ns.foldl min n ≤ n ∧ (∀ y ∈ ns, ns.foldl min n ≤ y) ∧ (ns.foldl min n = n ∨ ns.foldl min n ∈ ns)
  | [], n => ⟨Int.le_refl _, fun _ h => (nomatch h), .inl rfl⟩
  | m :: ns, n => by
    obtain ⟨h1, h2, h3⟩ := foldl_min_le ns (min n m)
    rw [List.foldl_cons]
    refine ⟨by omega, fun y hy => ?_, ?_⟩
    · rcases List.mem_cons.mp hy with rfl | hy
      · omega
      · exact h2 y hy
    · rcases h3 with h3 | h3
      · by_cases q : m ≤ n
        · right; rw [h3, Int.min_eq_right q]; exact List.mem_cons_self
        · left; rw [h3]; omega
      · right; exact List.mem_cons_of_mem _ h3
theorem maxI_of {ns : List Int} {m : Int} (hm : m ∈ ns) (h : ∀ y ∈ ns, y ≤ m) : m = maxI ns := by
  cases ns with
  | nil => cases hm
  | cons n ns =>
    obtain ⟨h1, h2, h3⟩ := foldl_max_le ns n
    show m = ns.foldl max n
    have a : m ≤ ns.foldl max n := by
      rcases List.mem_cons.mp hm with rfl | hm
      · exact h1
      · exact h2 m hm
    have b : ns.foldl max n ≤ m := by
      rcases h3 with h3 | h3
      · rw [h3]; exact h n List.mem_cons_self
      · exact h _ (List.mem_cons_of_mem _ h3)
    omega
theorem minI_of {ns : List Int} {m : Int} (hm : m ∈ ns) (h : ∀ y ∈ ns, m ≤ y) : m = minI ns := by
  cases ns with
  | nil => cases hm
  | cons n ns =>
    obtain ⟨h1, h2, h3⟩ := foldl_min_le ns n
    show m = ns.foldl min n
    have a : ns.foldl min n ≤ m := by
      rcases List.mem_cons.mp hm with rfl | hm
      · exact h1
      · exact h2 m hm
    have b : m ≤ ns.foldl min n := by
      rcases h3 with h3 | h3
      · rw [h3]; exact h n List.mem_cons_self
      · exact h _ (List.mem_cons_of_mem _ h3)
    omega
def wMaxL : W → M W := wInts fun ns => if ns = [] then M.no else pure (.d (.int (maxI ns)))
def wMinL : W → M W := wInts fun ns => if ns = [] then M.no else pure (.d (.int (minI ns)))
theorem s_maxL : SemN K E (rMax K) (w1 wMaxL) := s_1 fun c H w v Q rel rv p => by
  obtain ⟨a, ns, rfl, h1, p⟩ := ints_ok rel rv p
  by_cases hn : ns = []
  · rw [if_pos hn] at p; exact p.no
  · rw [if_neg hn] at p
    exact ⟨a, ns, rfl, h1, List.length_pos_iff.mpr hn, fun m h2 h3 => by rw [maxI_of h2 h3]; exact PW_.fin p rel rep_int⟩
theorem s_minL : SemN K E (rMin K) (w1 wMinL) := s_1 fun c H w v Q rel rv p => by
  obtain ⟨a, ns, rfl, h1, p⟩ := ints_ok rel rv p
  by_cases hn : ns = []
  · rw [if_pos hn] at p; exact p.no
  · rw [if_neg hn] at p
    exact ⟨a, ns, rfl, h1, List.length_pos_iff.mpr hn, fun m h2 h3 => by rw [minI_of h2 h3]; exact PW_.fin p rel rep_int⟩
def wBls (f : List Bool → W) (x : W) : M W := fun O => match wL x O with
  | some ds => match blsOf ds with
    | some ns => .ok (f ns) O
    | none => .no
  | none => .no
theorem bls_ok {Q : VK} {f : List Bool → W} (rel : Rel K c H) (rv : RepW K c.G c.ρ w v) (p : PW_ K E c Q (wBls f w c.O)) : ∃ a ns, v = .ref a ∧ SqL K H a (ns.map V.bl) ∧ PW_ K E c Q (.ok (f ns) c.O) := by
  unfold wBls at p
  cases e : wL w c.O with
  | none => simp only [e] at p; exact p.no
  | some ds =>
    simp only [e] at p
    cases e2 : blsOf ds with
    | none => simp only [e2] at p; exact p.no
    | some ns =>
      simp only [e2] at p
      obtain ⟨a, xs, h1, h2, h3, h4⟩ := wL_ok rel rv e
      rw [blsOf_ok e2] at h4
      rw [h4.bls] at h2
      exact ⟨a, ns, h1, .of h2, p⟩
def wAll : W → M W := wBls fun bs => .d (.bl (bs.all id))
def wAny : W → M W := wBls fun bs => .d (.bl (bs.any id))
theorem s_all : SemN K E (rAll K) (w1 wAll) := s_1 fun c H w v Q rel rv p => by
  obtain ⟨a, ns, rfl, h1, p⟩ := bls_ok rel rv p
  exact ⟨a, ns, rfl, h1, PW_.fin p rel rep_bl⟩
theorem s_any : SemN K E (rAny K) (w1 wAny) := s_1 fun c H w v Q rel rv p => by
  obtain ⟨a, ns, rfl, h1, p⟩ := bls_ok rel rv p
  exact ⟨a, ns, rfl, h1, PW_.fin p rel rep_bl⟩
def wTuple (x : W) : M W := fun O => match wS x O with
  | some ds => .ok (.d (.tup ds)) O
  | none => .no
theorem s_tuple : SemN K E (fun xs H Q => ∃ p ys, xs = [.ref p] ∧ ((SqL K H p ys ∧ ∀ l, H l = none → Q (.ref l) (upd H l (.tup ys))) ∨ (SqT K H p ys ∧ Q (.ref p) H))) (w1 wTuple) := s_1 fun c H w v Q rel rv p => by
  unfold wTuple at p
  cases e : wS w c.O with
  | none => simp only [e] at p; exact p.no
  | some ds =>
    simp only [e] at p
    have go : wL w c.O = some ds → ∃ p ys, [v] = [V.ref p] ∧ ((SqL K H p ys ∧ ∀ l, H l = none → Q (.ref l) (upd H l (.tup ys))) ∨ (SqT K H p ys ∧ Q (.ref p) H)) := fun e => by
      obtain ⟨a, xs, h1, h2, h3, h4⟩ := wL_ok rel rv e
      subst h1
      exact ⟨a, xs, rfl, .inl ⟨.of h2, tup2_ok rel h4 (by rw [h4.length]; exact h3) p⟩⟩
    cases w with
    | own k => exact go e
    | d d =>
      cases d with
      | tup es =>
        have e : some es = some ds := e
        cases e
        obtain ⟨a, xs, rfl, h1, h2, h3⟩ := tup_of rel rv
        exact ⟨a, xs, rfl, .inr ⟨h1, PW_.fin p rel rv⟩⟩
      | _ => exact go e
/-- list(x): new, known for ever -/
def wList (x : W) : M W := fun O => match wS x O with
  | some ds => .ok (.d (.lst ds)) O
  | none => .no
theorem s_list : SemN K E (fun xs H Q => ∃ p ys, xs = [.ref p] ∧ (SqL K H p ys ∨ SqT K H p ys) ∧ ∀ l, H l = none → Q (.ref l) (upd H l (.lst ys))) (w1 wList) := s_1 fun c H w v Q rel rv p => by
  unfold wList at p
  cases e : wS w c.O with
  | none => simp only [e] at p; exact p.no
  | some ds =>
    simp only [e] at p
    obtain ⟨a, xs, rfl, h1, h2, h3⟩ := wS_ok rel rv e
    exact ⟨a, xs, rfl, h1, lst_ok rel h3 (by rw [h3.length]; exact h2) p⟩

/-! ### isinstance -/
def tyD : D → Option String
  | .non => some "NoneType"
  | .bl _ => some "bool"
  | .int _ => some "int"
  | .str _ => some "str"
  | .tup _ => some "tuple"
  | .lst _ => some "list"
  | .dic _ _ => some "dict"
  | _ => none
def wTy (w : W) (O : Sto) : Option String := match w with
  | .d d => tyD d
  | .own k => match O[k]? with
    | some (.lst _) => some "list"
    | some (.dict _) => some "dict"
    | _ => none
theorem wTy_ok (rel : Rel K c H) (rv : RepW K c.G c.ρ w v) {n : String} (e : wTy w c.O = some n) : TyX K H v (.type n) := by
  cases w with
  | d d =>
    have rv : Rep K c.G d v := rv
    have e : tyD d = some n := e
    cases d with
    | non => cases e; unfold Rep at rv; subst rv; exact .base .non
    | bl b => cases e; unfold Rep at rv; subst rv; exact .base (.bl b)
    | int b => cases e; unfold Rep at rv; subst rv; exact .base (.int b)
    | str b => cases e; unfold Rep at rv; subst rv; exact .base (.str b)
    | tup ds =>
      cases e
      obtain ⟨a, xs, rfl, h1, _⟩ := tup_of rel rv
      rcases h1 with (h1 | ⟨o, h1⟩) | ⟨o, its, n, h1, h2, _⟩
      · exact .base (.tup h1)
      · exact .fTuple h1
      · exact .kTuple h1 h2
    | lst ds =>
      cases e
      unfold Rep at rv
      obtain ⟨a, xs, rfl, h1, _⟩ := rv
      exact .base (.lst (rel.ex _ _ h1))
    | dic ks ds =>
      cases e
      unfold Rep at rv
      obtain ⟨a, xs, rfl, h1, _⟩ := rv
      exact .base (.dK (rel.ex _ _ h1))
    | scr _ => cases e
    | ins _ _ _ => cases e
    | adr _ => cases e
    | rng _ _ => cases e
    | ty _ => cases e
  | own k =>
    obtain ⟨a, ha, rfl⟩ := rv
    cases q : c.O[k]? with
    | none => simp only [wTy, q] at e; cases e
    | some m =>
      cases m with
      | lst ds =>
        simp only [wTy, q] at e
        cases e
        obtain ⟨_, _, o, ho, xs, hx, _⟩ := rel.live k _ a q ha (by intro z; cases z)
        subst hx
        exact .base (.lst ho)
      | dict kvs =>
        simp only [wTy, q] at e
        cases e
        obtain ⟨_, _, o, ho, xs, hx, _⟩ := rel.live k _ a q ha (by intro z; cases z)
        subst hx
        exact .base (.dK ho)
      | _ => simp only [wTy, q] at e; cases e
def wIsi (x y : W) : M W := fun O => match wTy x O, y with
  | some n, .d (.ty m) => match kitB n m with
    | some b => .ok (.d (.bl b)) O
    | none => .no
  | _, _ => .no
theorem s_isi : SemN K E (rIsi K) (w2 wIsi) := s_2 fun c H w u v z Q rel r1 r2 p => by
  unfold wIsi at p
  split at p
  · rename_i n m e
    split at p
    · rename_i b e2
      have r2 : Rep K c.G (.ty m) z := r2
      unfold Rep at r2
      subst r2
      exact ⟨v, .ty m, .type n, .type m, b, rfl, .ty m, wTy_ok rel r1 e, kit_ty e2, PW_.fin p rel rep_bl⟩
    · exact p.no
  · exact p.no
/-- isinstance(e, (S, T)), both built-in -/
def dIsi2 (d : DE) (n m : String) : DE := fun Γ => do
  let x ← d Γ
  fun O => match wTy x O with
    | some t => match kitB t n, kitB t m with
      | some a, some b => .ok (.d (.bl (a || b))) O
      | _, _ => .no
    | none => .no
theorem Rel.more (rel : Rel K c H) {p : Addr} {o : HO} (hp : H p = none) : Rel K c (upd H p o) where
  ex := rel.ex.tr (upd_ext hp)
  len := rel.len
  live := fun k m a h1 h2 h3 => by
    obtain ⟨g, f, o', e, mk⟩ := rel.live k m a h1 h2 h3
    exact ⟨g, f, o', by rw [upd_ne (ne_of_none e hp)]; exact e, mk⟩
  inj := rel.inj
  fr := fun a u e => by
    obtain ⟨e1, e2⟩ := rel.fr a u e
    exact ⟨by rw [upd_ne (ne_of_none e1 hp)]; exact e1, e2⟩
  wf := rel.wf
theorem c_isi2 {X : Cx} {e : Expr} {d : DE} {n m : String} {x y z : Str} {p p1 p2 p3 pos : Pos} {k : Nat} (he : PE X e (VT X.K E d)) (hg : Gl X "isinstance") (hm : X.mg "isinstance" = none) (hv : bootBuiltins "isinstance" = some (.builtin "isinstance"))
    (h1 : PE X (.Name x p1) (VT X.K E (dC (.ty n)))) (h2 : PE X (.Name y p2) (VT X.K E (dC (.ty m))))
    (hs : starEach [e, .Tuple [.Name x p1, .Name y p2] k p3] X.env = (false, eval e X.env) :: starEach [.Tuple [.Name x p1, .Name y p2] k p3] X.env := by rfl) : PE X (.Call (.Name "isinstance" p) [e, .Tuple [.Name x p1, .Name y p2] k p3] [] pos) (VT X.K E (dIsi2 d n m)) := by
  refine (pe_callB call_isiT hg hm hv (pa_cons he (pa_cons (pe_tup (pa_cons h1 (pa_cons h2 pa_nil))) pa_nil) hs) (he := hs)).imp fun σ H Q h => ?_
  obtain ⟨c, Γ, rel, env, p⟩ := h
  refine ⟨c, Γ, rel, env, (Post.bind p).mono fun w c1 H1 l1 rel1 p1 v rv => ?_⟩
  have ty : ∀ (s : String) (v : V) (G : Hp), Rep X.K G (.ty s) v → v = .ty s := fun s v G h => by unfold Rep at h; exact h
  refine ⟨c1, Γ, rel1, env.le l1, fun c2 H2 l2 e2 rel2 v1 rv1 => ?_⟩
  refine ⟨c2, Γ, rel2, (env.le l1).le l2, fun c3 H3 l3 e3 rel3 v2 rv2 => ?_⟩
  have z1 := ty n v1 c2.G rv1
  have z2 := ty m v2 c3.G rv2
  subst z1 z2
  show 2 ≤ sizeLine ∧ ∀ p, H3 p = none → rIsiT X.K [v, .ref p] (upd H3 p (.tup [.ty n, .ty m])) Q
  refine ⟨by decide, fun q hq => ?_⟩
  have rel4 := Rel.more (o := .tup [.ty n, .ty m]) rel3 hq
  have eo : c3.O = c1.O := e3.trans e2
  have p1 : PW_ X.K E c3 Q _ := Post.up p1 (l2.tr l3)
  cases e : wTy w c1.O with
  | none => simp only [e] at p1; exact p1.no
  | some t =>
    simp only [e] at p1
    cases ea : kitB t n with
    | none => simp only [ea] at p1; exact p1.no
    | some a =>
      cases eb : kitB t m with
      | none => simp only [ea, eb] at p1; exact p1.no
      | some b =>
        simp only [ea, eb] at p1
        rw [← eo] at p1 e
        refine ⟨v, q, [.ty n, .ty m], .type t, [.type n, .type m], a || b, rfl, upd_same, .cons (.ty n) (.cons (.ty m) .nil), wTy_ok rel4 ((rv.le l2).le l3) e, ?_, PW_.fin p1 rel4 rep_bl⟩
        refine kitAny_cons (kit_ty ea) (fun ha => ?_) (fun ha => by rw [ha, Bool.true_or])
        refine kitAny_cons (kit_ty eb) (fun hb => ?_) (fun hb => by rw [hb, Bool.or_true])
        rw [ha, hb]; exact kitAny_nil

/-! ### x[i], x[i:j] -/
theorem reps_atI {G : Hp} {ds : List D} {xs : List V} (h : Reps K G ds xs) {i : Int} {d : D} (e : atI ds i = some d) : ∃ x, atI xs i = some x ∧ Rep K G d x := by
  unfold atI at e ⊢
  rw [h.length] at e
  cases q : ixN xs.length i with
  | none => rw [q] at e; cases e
  | some j =>
    rw [q] at e
    exact h.get e
def wIx (x y : W) : M W := fun O => match wS x O, y with
  | some ds, .d (.int i) => match atI ds i with
    | some d => .ok (.d d) O
    | none => .no
  | _, _ => .no
def rIxV (K : PySem.W.Frag) : R2 := fun x y H Q => rIxL K x y H Q ∨ rIxT K x y H Q
theorem ix_V {X : Cx} : IxR X (rIxV X.K) := ix_list.or ix_tup
theorem s_ix : Sem2 K E (rIxV K) wIx := fun c H w1 w2 v1 v2 Q rel r1 r2 p => by
  unfold wIx at p
  split at p
  · rename_i ds i e
    split at p
    · rename_i d e2
      obtain ⟨a, xs, rfl, h1, h2, h3⟩ := wS_ok rel r1 e
      obtain ⟨x, e3, r3⟩ := reps_atI h3 e2
      have hq : Q x H := PW_.fin p rel r3
      rcases h1 with h1 | h1
      · exact .inl ⟨a, xs, i, x, rfl, rw_int r2, h1, e3, hq⟩
      · exact .inr ⟨a, xs, i, x, rfl, rw_int r2, h1, e3, hq⟩
    · exact p.no
  · exact p.no
theorem c_ix {X : Cx} {a b : Expr} {da db : DE} {pos : Pos} (ha : PE X a (VT X.K E da)) (hb : PE X b (VT X.K E db)) (hs : PlainIx b := by exact fun _ _ => rfl) : PE X (.Subscript a b pos) (VT X.K E (dBin wIx da db)) :=
  (pe_ix ix_V ha hb hs).imp fun _ _ _ => v_op s_ix
def cutD (xs : List D) (lo hi : Option Int) : List D := (xs.drop (HT.sIx xs.length 0 lo)).take (HT.sIx xs.length xs.length hi - HT.sIx xs.length 0 lo)
theorem reps_cut {G : Hp} {ds : List D} {xs : List V} (h : Reps K G ds xs) (lo hi : Option Int) : Reps K G (cutD ds lo hi) (cutV xs lo hi) := by
  unfold cutD cutV
  rw [h.length]
  exact (h.drop _).take _
theorem cutD_len (ds : List D) (lo hi : Option Int) : (cutD ds lo hi).length ≤ ds.length := by
  unfold cutD
  rw [List.length_take, List.length_drop]
  omega
abbrev DO := Gam → M (Option Int)
def VO (K : PySem.W.Frag) (E : XK) (d : DO) : TO := fun σ H Q => ∃ c Γ, Rel K c H ∧ REnv K c.G c.ρ Γ σ ∧ Post K E c (fun o _ H' => Q o H') (d Γ c.O)
theorem _root_.L2.PO.imp {X : Cx} {e : Option Expr} {t t' : TO} (h : PO X e t) (i : ∀ σ H Q, t' σ H Q → t σ H Q) : PO X e t' := ⟨fun pins s σ H Q I hw => h.run pins s σ H Q I (i σ H Q hw)⟩
def dNo : DO := fun _ => pure none
def dPart (d : DE) : DO := fun Γ => do
  let x ← d Γ
  match x with
  | .d (.int i) => pure (some i)
  | _ => M.no
theorem o_no {X : Cx} : PO X none (VO X.K E dNo) := po_none.imp fun σ H Q h => by
  obtain ⟨c, Γ, rel, env, p⟩ := h
  exact Post.here p rel
theorem o_some {X : Cx} {e : Expr} {d : DE} (he : PE X e (VT X.K E d)) : PO X (some e) (VO X.K E (dPart d)) := (po_some he).imp fun σ H Q h => by
  obtain ⟨c, Γ, rel, env, p⟩ := h
  refine ⟨c, Γ, rel, env, (Post.bind p).mono fun w c1 H1 l1 rel1 p1 v rv => ?_⟩
  match w, rv, p1 with
  | .d (.int i), rv, p1 => exact ⟨i, rw_int rv, Post.here p1 rel1⟩
  | .own _, _, p1 => exact p1.no
  | .d .non, _, p1 => exact p1.no
  | .d (.bl _), _, p1 => exact p1.no
  | .d (.str _), _, p1 => exact p1.no
  | .d (.tup _), _, p1 => exact p1.no
  | .d (.lst _), _, p1 => exact p1.no
  | .d (.scr _), _, p1 => exact p1.no
  | .d (.dic _ _), _, p1 => exact p1.no
  | .d (.ins _ _ _), _, p1 => exact p1.no
  | .d (.adr _), _, p1 => exact p1.no
  | .d (.rng _ _), _, p1 => exact p1.no
  | .d (.ty _), _, p1 => exact p1.no
def wSlL (x : W) (lo hi : Option Int) : M W := fun O => match wL x O with
  | some ds => .ok (.d (.lst (cutD ds lo hi))) O
  | none => .no
/-- of a tuple: not the whole -/
def wSlT (x : W) (lo hi : Option Int) : M W := match x with
  | .d (.tup ds) => if ¬ (HT.sIx ds.length 0 lo = 0 ∧ HT.sIx ds.length ds.length hi = ds.length) then pure (.d (.tup (cutD ds lo hi))) else M.no
  | _ => M.no
def dSl (f : W → Option Int → Option Int → M W) (d : DE) (l h : DO) : DE := fun Γ => do
  let x ← d Γ
  let a ← l Γ
  let b ← h Γ
  f x a b
theorem v_sl {r : V → Option Int → Option Int → Hp → VK → Prop} {f : W → Option Int → Option Int → M W} (hs : ∀ c H w v a b Q, Rel K c H → RepW K c.G c.ρ w v → PW_ K E c Q (f w a b c.O) → r v a b H Q) {d : DE} {l h : DO} {σ : L2.St} {H : Hp} {Q : VK} (hh : VT K E (dSl f d l h) σ H Q) :
    tSl r (VT K E d) (VO K E l) (VO K E h) σ H Q := by
  obtain ⟨c, Γ, rel, env, p⟩ := hh
  refine ⟨c, Γ, rel, env, (Post.bind p).mono fun w c1 H1 l1 rel1 p1 v rv => ?_⟩
  refine ⟨c1, Γ, rel1, env.le l1, (Post.bind p1).mono fun a c2 H2 l2 rel2 p2 => ?_⟩
  refine ⟨c2, Γ, rel2, (env.le l1).le l2, (Post.bind p2).mono fun b c3 H3 l3 rel3 p3 => ?_⟩
  exact hs c3 H3 w v a b Q rel3 ((rv.le l2).le l3) p3
theorem c_slL {X : Cx} {e : Expr} {lo hi : Option Expr} {d : DE} {l h : DO} {p2 pos : Pos} (he : PE X e (VT X.K E d)) (hl : PO X lo (VO X.K E l)) (hh : PO X hi (VO X.K E h)) : PE X (.Subscript e (.Slice lo hi none p2) pos) (VT X.K E (dSl wSlL d l h)) :=
  (pe_slice sl_list he hl hh).imp fun σ H Q => v_sl fun c H w v a b Q rel rv p => by
    unfold wSlL at p
    cases e : wL w c.O with
    | none => simp only [e] at p; exact p.no
    | some ds =>
      simp only [e] at p
      obtain ⟨q, xs, rfl, h1, h2, h3⟩ := wL_ok rel rv e
      refine ⟨q, xs, rfl, .of h1, lst_ok rel (reps_cut h3 a b) ?_ p⟩
      have := cutD_len ds a b
      rw [h3.length] at this
      omega
theorem c_slT {X : Cx} {e : Expr} {lo hi : Option Expr} {d : DE} {l h : DO} {p2 pos : Pos} (he : PE X e (VT X.K E d)) (hl : PO X lo (VO X.K E l)) (hh : PO X hi (VO X.K E h)) : PE X (.Subscript e (.Slice lo hi none p2) pos) (VT X.K E (dSl wSlT d l h)) :=
  (pe_slice sl_tup he hl hh).imp fun σ H Q => v_sl fun c H w v a b Q rel rv p => by
    unfold wSlT at p
    split at p
    · rename_i ds
      split at p
      · rename_i hw
        obtain ⟨q, xs, rfl, h1, h2, h3⟩ := tup_of rel rv
        refine ⟨q, xs, rfl, h1, by rw [← h3.length]; exact hw, tup2_ok rel (reps_cut h3 a b) ?_ p⟩
        have := cutD_len ds a b
        rw [h3.length] at this
        omega
      · exact p.no
    · exact p.no
/-- xs[::-1] -/
def wRev (x : W) : M W := fun O => match wL x O with
  | some ds => .ok (.d (.lst ds.reverse)) O
  | none => .no
theorem c_rev {X : Cx} {e : Expr} {d : DE} {k : Nat} {p1 p2 p3 pos : Pos} (he : PE X e (VT X.K E d)) : PE X (.Subscript e (.Slice none none (some (.UnaryOp .USub (.Constant (.int 1) k p1) p2)) p3) pos) (VT X.K E (dUn wRev d)) := (pe_revL he).imp fun σ H Q h => by
  obtain ⟨c, Γ, rel, env, p⟩ := h
  refine ⟨c, Γ, rel, env, (Post.bind p).mono fun w c1 H1 l1 rel1 p1 v rv => ?_⟩
  unfold wRev at p1
  cases e : wL w c1.O with
  | none => simp only [e] at p1; exact p1.no
  | some ds =>
    simp only [e] at p1
    obtain ⟨q, xs, rfl, h1, h2, h3⟩ := wL_ok rel1 rv e
    exact ⟨q, xs, rfl, .of h1, lst_ok rel1 h3.reverse (by rw [List.length_reverse, h3.length]; exact h2) p1⟩

/-! ### (a, *b) -/
def dStar (d : DE) (r : DA) : DA := fun Γ => do
  let x ← d Γ
  let ys ← fun O => match wS x O with
    | some ds => .ok (ds.map W.d) O
    | none => .no
  let rs ← r Γ
  pure (ys ++ rs)
theorem repsW_map {G : Hp} {ρ : List Addr} : ∀ {ds : List D} {xs : List V}, Reps K G ds xs → RepsW K G ρ (ds.map W.d) xs
  | [], xs, h => by rw [reps_nil.mp h]; exact .nil
  | d :: ds, xs, h => by
    obtain ⟨x, r, rfl, h1, h2⟩ := reps_cons.mp h
    exact .cons h1 (repsW_map h2)
theorem paired_app {α β : Type} {R : α → β → Prop} : ∀ {a b : List α} {x y : List β}, Paired R a x → Paired R b y → Paired R (a ++ b) (x ++ y)
  | _, _, _, _, .nil, h => h
  | _, _, _, _, .cons h t, k => .cons h (paired_app t k)
theorem a_star {X : Cx} {e : Expr} {es : List Expr} {d : DE} {r : DA} {p : Pos} (he : PE X e (VT X.K E d)) (hr : PA X es (VA X.K E r)) (hs : starEach (.Starred e p :: es) X.env = (true, eval e X.env) :: starEach es X.env := by rfl) : PA X (.Starred e p :: es) (VA X.K E (dStar d r)) :=
  (StX.pa_star he hr hs).imp fun σ H Q h => by
    obtain ⟨c, Γ, rel, env, p⟩ := h
    refine ⟨c, Γ, rel, env, (Post.bind p).mono fun w c1 H1 l1 rel1 p1 v rv => ?_⟩
    have p2 := Post.bind p1
    cases e : wS w c1.O with
    | none => simp only [e] at p2; exact p2.no
    | some ds =>
      simp only [e] at p2
      obtain ⟨a, xs, rfl, h1, h2, h3⟩ := wS_ok rel1 rv e
      have p3 := Post.here p2 rel1
      refine ⟨a, xs, rfl, h1.symm, c1, Γ, rel1, env.le l1, (Post.bind p3).mono fun ys c2 H2 l2 rel2 p4 vs rvs => ?_⟩
      exact Post.here p4 rel2 _ (paired_app (repsW_map (Reps.mono l2.ex _ _ h3)) rvs)

/-! ### methods of lists -/
def isL (x : W) : M Unit := fun O => match wL x O with
  | some _ => .ok () O
  | none => .no
def dMeth (f : W → List W → M W) (o : DE) (a : DA) : DE := fun Γ => do
  let x ← o Γ
  let _ ← isL x
  let ws ← a Γ
  f x ws
def dMeth0 (f : W → List W → M W) (o : DE) : DE := fun Γ => do
  let x ← o Γ
  let _ ← isL x
  f x []
def SemM (K : PySem.W.Frag) (E : XK) (r : V → List V → Hp → VK → Prop) (f : W → List W → M W) : Prop := ∀ c H w ws v vs Q, Rel K c H → RepW K c.G c.ρ w v → RepsW K c.G c.ρ ws vs → PW_ K E c Q (f w ws c.O) → r v vs H Q
theorem isL_ok {R : Unit → Cf → Hp → Prop} (rel : Rel K c H) (rv : RepW K c.G c.ρ w v) (p : Post K E c R (isL w c.O)) : tyV K "list" v H ∧ R () c H := by
  unfold isL at p
  cases e : wL w c.O with
  | none => simp only [e] at p; exact p.no
  | some ds =>
    simp only [e] at p
    obtain ⟨a, xs, rfl, h1, h2, h3⟩ := wL_ok rel rv e
    exact ⟨.inl ⟨rfl, xs, .of h1⟩, Post.here p rel⟩
theorem v_meth {r : V → List V → Hp → VK → Prop} {f : W → List W → M W} (hs : SemM K E r f) {o : DE} {a : DA} {σ : L2.St} {H : Hp} {Q : VK} (h : VT K E (dMeth f o a) σ H Q) : tBM K "list" r (VT K E o) (VA K E a) σ H Q := by
  obtain ⟨c, Γ, rel, env, p⟩ := h
  refine ⟨c, Γ, rel, env, (Post.bind p).mono fun w c1 H1 l1 rel1 p1 v rv => ?_⟩
  obtain ⟨t, p2⟩ := isL_ok rel1 rv (Post.bind p1)
  refine ⟨t, c1, Γ, rel1, env.le l1, (Post.bind p2).mono fun ws c2 H2 l2 rel2 p3 vs rvs => ?_⟩
  exact hs c2 H2 w ws v vs Q rel2 (rv.le l2) rvs p3
theorem v_meth0 {r : V → List V → Hp → VK → Prop} {f : W → List W → M W} (hs : SemM K E r f) {o : DE} {σ : L2.St} {H : Hp} {Q : VK} (h : VT K E (dMeth0 f o) σ H Q) : tBM0 K "list" r (VT K E o) σ H Q := by
  obtain ⟨c, Γ, rel, env, p⟩ := h
  refine ⟨c, Γ, rel, env, (Post.bind p).mono fun w c1 H1 l1 rel1 p1 v rv => ?_⟩
  obtain ⟨t, p2⟩ := isL_ok rel1 rv (Post.bind p1)
  exact ⟨t, hs c1 H1 w [] v [] Q rel1 rv .nil p2⟩
/-- a list of the store, by what it becomes -/
def wMut (f : List D → Option (D × List D)) (x : W) : M W := match x with
  | .own k => fun O => match O[k]? with
    | some (.lst ds) => match f ds with
      | some (d, es) => .ok (.d d) (O.set k (.lst es))
      | none => .no
    | _ => .no
  | _ => M.no
theorem mut_ok {Q : VK} {f : List D → Option (D × List D)} (rel : Rel K c H) (rv : RepW K c.G c.ρ w v) (p : PW_ K E c Q (wMut f w c.O)) : ∃ a xs ds d es, v = .ref a ∧ H a = some (.lst xs) ∧ xs.length ≤ sizeLine ∧ Reps K c.G ds xs ∧ f ds = some (d, es) ∧
    ∀ x ys, Rep K c.G d x → Reps K c.G es ys → ys.length ≤ sizeLine → Q x (upd H a (.lst ys)) := by
  unfold wMut at p
  cases w with
  | d d => exact p.no
  | own k =>
    have p : PW_ K E c Q (match c.O[k]? with
      | some (.lst ds) => match f ds with
        | some (d, es) => .ok (.d d) (c.O.set k (.lst es))
        | none => .no
      | _ => .no) := p
    obtain ⟨a, ha, rfl⟩ := rv
    cases q : c.O[k]? with
    | none => simp only [q] at p; exact p.no
    | some m =>
      cases m with
      | lst ds =>
        simp only [q] at p
        cases e : f ds with
        | none => simp only [e] at p; exact p.no
        | some r =>
          obtain ⟨d, es⟩ := r
          simp only [e] at p
          obtain ⟨_, _, o, ho, xs, hx, h4, h3⟩ := rel.live k _ a q ha (by intro z; cases z)
          subst hx
          refine ⟨a, xs, ds, d, es, rfl, ho, h3, h4, e, fun x ys r1 r2 hl => ?_⟩
          exact p (c.put k (.lst es)) _ (c.put_le k _) rfl (rel.put q (by intro z; cases z) ha ⟨ys, rfl, r2, hl⟩ trivial) x r1
      | _ => simp only [q] at p; exact p.no
def wAppend (x : W) (ws : List W) : M W := match ws with
  | [.d d] => wMut (fun ds => if ds.length < sizeLine then some (.non, ds ++ [d]) else none) x
  | _ => M.no
theorem s_append : SemM K E rAppend wAppend := fun c H w ws v vs Q rel rv rvs p => by
  unfold wAppend at p
  split at p
  · rename_i d
    obtain ⟨y, rfl, ry⟩ := repsW1 rvs
    obtain ⟨a, xs, ds, d', es, rfl, h1, h2, h3, e, k⟩ := mut_ok rel rv p
    by_cases hl : ds.length < sizeLine
    · rw [if_pos hl] at e
      cases e
      rw [h3.length] at hl
      exact ⟨a, xs, y, rfl, rfl, h1, hl, k .non _ (by unfold Rep; rfl) (h3.append (.one ry)) (by rw [List.length_append]; exact hl)⟩
    · rw [if_neg hl] at e; cases e
  · exact p.no
def wExtend (x : W) (ws : List W) : M W := match ws with
  | [y] => fun O => match wL y O with
    | some zs => wMut (fun ds => if ds.length + zs.length ≤ sizeLine then some (.non, ds ++ zs) else none) x O
    | none => .no
  | _ => M.no
theorem s_extend : SemM K E rExtend wExtend := fun c H w ws v vs Q rel rv rvs p => by
  unfold wExtend at p
  match ws, rvs, p with
  | [y], rvs, p =>
    obtain ⟨z, rfl, rz⟩ := repsW1 rvs
    have p : PW_ K E c Q (match wL y c.O with
      | some zs => wMut (fun ds => if ds.length + zs.length ≤ sizeLine then some (.non, ds ++ zs) else none) w c.O
      | none => .no) := p
    cases e0 : wL y c.O with
    | none => simp only [e0] at p; exact p.no
    | some zs =>
      simp only [e0] at p
      obtain ⟨b, zs', rfl, g1, g2, g3⟩ := wL_ok rel rz e0
      obtain ⟨a, xs, ds, d', es, rfl, h1, h2, h3, e, k⟩ := mut_ok rel rv p
      by_cases hl : ds.length + zs.length ≤ sizeLine
      · rw [if_pos hl] at e
        cases e
        rw [h3.length, g3.length] at hl
        exact ⟨a, b, xs, zs', rfl, rfl, h1, g1, hl, k .non _ (by unfold Rep; rfl) (h3.append g3) (by rw [List.length_append]; exact hl)⟩
      · rw [if_neg hl] at e; cases e
  | [], _, p => exact p.no
  | _ :: _ :: _, _, p => exact p.no
def wPop (x : W) (ws : List W) : M W := match ws with
  | [] => wMut (fun ds => (ds[ds.length - 1]?).map fun d => (d, ds.dropLast)) x
  | _ => M.no
theorem s_pop : SemM K E rPop wPop := fun c H w ws v vs Q rel rv rvs p => by
  unfold wPop at p
  split at p
  · cases rvs
    obtain ⟨a, xs, ds, d', es, rfl, h1, h2, h3, e, k⟩ := mut_ok rel rv p
    cases q : ds[ds.length - 1]? with
    | none => rw [q] at e; cases e
    | some d =>
      rw [q] at e
      cases e
      obtain ⟨y, e1, r1⟩ := h3.get q
      rw [h3.length] at e1
      exact ⟨a, xs, y, rfl, rfl, h1, e1, k y _ r1 h3.dropLast (by rw [List.length_dropLast]; omega)⟩
  · exact p.no
def wPopAt (x : W) (ws : List W) : M W := match ws with
  | [.d (.int i)] => if i = 0 then wMut (fun ds => (ds[0]?).map fun d => (d, ds.eraseIdx 0)) x else M.no
  | _ => M.no
theorem s_popAt : SemM K E rPopAt wPopAt := fun c H w ws v vs Q rel rv rvs p => by
  unfold wPopAt at p
  split at p
  · rename_i i
    obtain ⟨z, rfl, rz⟩ := repsW1 rvs
    split at p
    · rename_i hi
      subst hi
      obtain ⟨a, xs, ds, d', es, rfl, h1, h2, h3, e, k⟩ := mut_ok rel rv p
      cases q : ds[0]? with
      | none => rw [q] at e; cases e
      | some d =>
        rw [q] at e
        cases e
        obtain ⟨y, e1, r1⟩ := h3.get q
        have hl := (List.getElem?_eq_some_iff.mp e1).1
        refine ⟨a, xs, 0, 0, y, rfl, by rw [rw_int rz], h1, by decide, by decide, ?_, e1, k y _ r1 (h3.erase 0) (by rw [List.length_eraseIdx]; split <;> omega)⟩
        exact (ixN_seq (n := xs.length) (i := 0) (j := 0) (by unfold ixN; rw [if_pos (by decide), if_pos (by omega)]; rfl)).1
    · exact p.no
  · exact p.no
/-- xs.index(n), ints -/
def wIndex (x : W) (ws : List W) : M W := match ws with
  | [.d (.int m)] => wInts (fun ns => if m ∈ ns then pure (.d (.int (ns.idxOf m : Nat))) else M.no) x
  | _ => M.no
theorem s_index : SemM K E (rIndex K) wIndex := fun c H w ws v vs Q rel rv rvs p => by
  unfold wIndex at p
  split at p
  · rename_i m
    obtain ⟨z, rfl, rz⟩ := repsW1 rvs
    obtain ⟨a, ns, rfl, h1, p⟩ := ints_ok rel rv p
    by_cases hm : m ∈ ns
    · rw [if_pos hm] at p
      have hi : ns.idxOf m < ns.length := List.idxOf_lt_length_iff.mpr hm
      refine ⟨a, ns.map V.int, .int m, ns.idxOf m, .int m, rfl, by rw [rw_int rz], h1, rfl, ?_, ?_, ?_, fun j z' hj hz => ?_, PW_.fin p rel rep_int⟩
      · exact List.all_eq_true.mpr fun x hx => by
          obtain ⟨n, _, rfl⟩ := List.mem_map.mp hx
          rfl
      · rw [List.getElem?_map, List.getElem?_eq_getElem hi, List.getElem_idxOf hi]; rfl
      · simp [eqV]
      · rw [List.getElem?_map] at hz
        obtain ⟨n, e1, e2⟩ := Option.map_eq_some_iff.mp hz
        subst e2
        have hne : n ≠ m := fun q => by
          subst q
          obtain ⟨hl, e3⟩ := List.getElem?_eq_some_iff.mp e1
          have := List.not_of_lt_findIdx (p := (· == n)) (xs := ns) (i := j) hj
          rw [e3] at this
          simp at this
        simp [eqV, hne]
    · rw [if_neg hm] at p; exact p.no
  · exact p.no
end
end VL


set_option maxRecDepth 100000
set_option maxHeartbeats 2000000
/-! The value layer: dicts, small statements. -/
namespace VL
open PySem L2
section
variable {K : PySem.W.Frag} {E : XK} {c c' : Cf} {H : Hp} {v : V} {w : W} {F : Hp} {α : Type}
/-! ### what is hidden -/
def Cf.un (c : Cf) (F : Hp) : Cf := { c with F := F }
theorem Rel.un (r : Rel K c H) (h : ∀ a u, F a = some u → c.F a = some u) : Rel K (c.un F) H where
  ex := r.ex
  len := r.len
  live := fun k m a h1 h2 h3 => by
    obtain ⟨g, f, o', e, mk⟩ := r.live k m a h1 h2 h3
    refine ⟨g, ?_, o', e, mk⟩
    show F a = none
    cases q : F a with
    | none => rfl
    | some u => rw [h a u q] at f; cases f
  inj := r.inj
  fr := fun a u e => r.fr a u (h a u e)
  wf := r.wf
theorem Le.un (l : Le c c') : Le (c.un F) (c'.un F) := ⟨l.ex, l.pre, Eq.refl _⟩
theorem Post.hid {R : α → Cf → Hp → Prop} {o : Out α} (h : ∀ a u, F a = some u → c.F a = some u) (p : Post K E (c.un F) R o) : Post K E c (fun a c' H' => R a (c'.un F) H') o := by
  cases o with
  | ok a O => exact fun c' H' l e r => p (c'.un F) H' l.un e (r.un fun b u z => by rw [← l.fr]; exact h b u z)
  | ex x O => exact fun c' H' cls d l e r z => p (c'.un F) H' cls d l.un e (r.un fun b u z => by rw [← l.fr]; exact h b u z) z
  | no => exact p

/-! ### dicts -/
def keyD : D → Option Key
  | .int i => some (.inl i)
  | .str x => some (.inr x)
  | _ => none
theorem keyD_ok {G : Hp} {d : D} {k : Key} (e : keyD d = some k) (h : Rep K G d v) : v = kV k := by
  cases d with
  | int i => cases e; unfold Rep at h; exact h
  | str i => cases e; unfold Rep at h; exact h
  | _ => cases e
def lookW : Key → List (Key × W) → Option W
  | _, [] => none
  | k, (j, w) :: r => if j = k then some w else lookW k r
def putW : Key → W → List (Key × W) → List (Key × W)
  | k, w, [] => [(k, w)]
  | k, w, (j, u) :: r => if j = k then (j, w) :: r else (j, u) :: putW k w r
abbrev KvR (K : PySem.W.Frag) (G : Hp) (ρ : List Addr) : List (Key × W) → List (Key × V) → Prop := Paired (fun (p : Key × W) (q : Key × V) => p.1 = q.1 ∧ RepW K G ρ p.2 q.2)
theorem look_ok {G : Hp} {ρ : List Addr} {k : Key} : ∀ {kvs : List (Key × W)} {ys : List (Key × V)}, KvR K G ρ kvs ys → ∀ w, lookW k kvs = some w → ∃ x, valV ys k = some x ∧ RepW K G ρ w x
  | _, _, .nil, w, e => by cases e
  | _, _, .cons (a := p) (b := q) h t, w, e => by
    obtain ⟨pj, pw⟩ := p
    obtain ⟨qj, qv⟩ := q
    obtain ⟨h1, h2⟩ := h
    have h1 : pj = qj := h1
    subst h1
    unfold lookW at e
    by_cases z : pj = k
    · rw [if_pos z] at e
      cases e
      exact ⟨qv, valV_pos (p := (pj, qv)) z, h2⟩
    · rw [if_neg z] at e
      obtain ⟨x, e1, e2⟩ := look_ok t w e
      exact ⟨x, by rw [valV_neg (p := (pj, qv)) z]; exact e1, e2⟩
/-- keys each once -/
def KN (kvs : List (Key × W)) : Prop := (kvs.map (·.1)).Nodup
theorem putK_cons_ne {j k : Key} {u x : V} {r : List (Key × V)} (z : ¬ j = k) : putK ((j, u) :: r) k x = (j, u) :: putK r k x := by
  unfold putK
  simp only [List.any_cons, decide_eq_false z, Bool.false_or, List.map_cons, if_neg z]
  split <;> simp
theorem put_ok {G : Hp} {ρ : List Addr} {k : Key} {w : W} {x : V} (hx : RepW K G ρ w x) : ∀ {kvs : List (Key × W)} {ys : List (Key × V)}, KvR K G ρ kvs ys → KN kvs → KvR K G ρ (putW k w kvs) (putK ys k x)
  | _, _, .nil, _ => .cons ⟨rfl, hx⟩ .nil
  | _, _, .cons (a := p) (b := q) (l₁ := l1) (l₂ := l2) h t, nd => by
    obtain ⟨pj, pw⟩ := p
    obtain ⟨qj, qv⟩ := q
    obtain ⟨h1, h2⟩ := h
    have h1 : pj = qj := h1
    subst h1
    have nd : (pj :: l1.map (·.1)).Nodup := nd
    unfold putW
    by_cases z : pj = k
    · subst z
      rw [if_pos rfl]
      have e : putK ((pj, qv) :: l2) pj x = (pj, x) :: l2 := by
        unfold putK
        simp only [List.any_cons, decide_true, Bool.true_or, if_true, List.map_cons]
        have no : ∀ y ∈ l2, y.1 ≠ pj := fun y hy q => by
          have keys : ∀ {a : List (Key × W)} {b : List (Key × V)}, KvR K G ρ a b → a.map (·.1) = b.map (·.1) := fun r => by
            induction r with
            | nil => rfl
            | cons h _ ih => rw [List.map_cons, List.map_cons, h.1, ih]
          have := (List.nodup_cons.mp nd).1
          rw [keys t] at this
          exact this (q ▸ List.mem_map_of_mem hy)
        congr 1
        conv => rhs; rw [← List.map_id l2]
        exact List.map_congr_left fun y hy => by rw [if_neg (no y hy)]; rfl
      rw [e]
      exact .cons ⟨rfl, hx⟩ t
    · rw [if_neg z, putK_cons_ne z]
      exact .cons ⟨rfl, h2⟩ (put_ok hx t (List.nodup_cons.mp nd).2)
def W.lt (n : Nat) : W → Bool
  | .d _ => true
  | .own k => decide (k < n)
theorem W.lt_ok {n : Nat} {w : W} (h : w.lt n = true) : w.below n := by
  cases w with
  | d d => trivial
  | own k =>
    have h : decide (k < n) = true := h
    exact (of_decide_eq_true h : k < n)
theorem below_put {n : Nat} {k : Key} {w : W} (h : w.below n) : ∀ {kvs : List (Key × W)}, (∀ p ∈ kvs, p.2.below n) → ∀ p ∈ putW k w kvs, p.2.below n
  | [], _, p, hp => by
    have e : p = (k, w) := by simpa [putW] using hp
    rw [e]; exact h
  | (j, u) :: r, hk, p, hp => by
    unfold putW at hp
    split at hp
    · rcases List.mem_cons.mp hp with rfl | hp
      · exact h
      · exact hk p (List.mem_cons_of_mem _ hp)
    · rcases List.mem_cons.mp hp with rfl | hp
      · exact hk _ List.mem_cons_self
      · exact below_put h (fun z hz => hk z (List.mem_cons_of_mem _ hz)) p hp
/-- d[k] -/
def wGet (x y : W) : M W := fun O => match x, y with
  | .own k, .d d => match O[k]?, keyD d with
    | some (.dict kvs), some j => match lookW j kvs with
      | some w => .ok w O
      | none => .no
    | _, _ => .no
  | _, _ => .no
theorem wGet_at {O : Sto} {k : Nat} {d : D} {kvs : List (Key × W)} {j : Key} {w : W} (h1 : O[k]? = some (.dict kvs)) (h2 : keyD d = some j) (h3 : lookW j kvs = some w) : wGet (.own k) (.d d) O = .ok w O := by
  unfold wGet; simp only [h1, h2, h3]
theorem c_get {X : Cx} {a b : Expr} {da db : DE} {pos : Pos} (hu : X.A.units + 1 < cLine) (ha : PE X a (VT X.K E da)) (hb : PE X b (VT X.K E db)) (hs : NoSl b := by exact fun _ _ => rfl) : PE X (.Subscript a b pos) (VT X.K E (dBin wGet da db)) :=
  (pe_dget hu ha hb hs).imp fun σ H Q h => by
    obtain ⟨c, Γ, rel, env, p⟩ := h
    refine ⟨c, Γ, rel, env, (Post.bind p).mono fun x c1 H1 l1 rel1 p1 v rv => ?_⟩
    refine ⟨c1, Γ, rel1, env.le l1, (Post.bind p1).mono fun y c2 H2 l2 rel2 p2 u ru => ?_⟩
    have rv := rv.le l2
    unfold wGet at p2
    cases x with
    | d _ => exact p2.no
    | own k =>
      cases y with
      | own _ => exact p2.no
      | d d =>
        cases q : c2.O[k]? with
        | none => simp only [q] at p2; exact p2.no
        | some m =>
          cases m with
          | dict kvs =>
            cases q2 : keyD d with
            | none => simp only [q, q2] at p2; exact p2.no
            | some j =>
              cases q3 : lookW j kvs with
              | none => simp only [q, q2, q3] at p2; exact p2.no
              | some w =>
                simp only [q, q2, q3] at p2
                obtain ⟨a, ha, rfl⟩ := rv
                obtain ⟨_, _, o, ho, ys, hy, hp⟩ := rel2.live k _ a q ha (by intro z; cases z)
                subst hy
                obtain ⟨z, e1, e2⟩ := look_ok hp w q3
                rw [keyD_ok q2 ru]
                exact ⟨a, z, rfl, by rw [← e1]; exact DGet.k ho, PW_.fin p2 rel2 e2⟩
          | _ => simp only [q] at p2; exact p2.no
/-- d[k] = w -/
def wPut (x y z : W) : M Unit := fun O => match x, y with
  | .own k, .d d => match O[k]?, keyD d with
    | some (.dict kvs), some j => if (kvs.map (·.1)).Nodup ∧ kvs.length < sizeLine ∧ z.lt k = true then .ok () (O.set k (.dict (putW j z kvs))) else .no
    | _, _ => .no
  | _, _ => .no
def dPut (a b e : DE) : DS := fun Γ => do
  let z ← e Γ
  let x ← a Γ
  let y ← b Γ
  let _ ← wPut x y z
  pure (.nx, Γ)
theorem c_put {X : Cx} {a b e : Expr} {da db de : DE} {pos pos' : Pos} (hu : X.A.units + 1 < cLine) (ha : PE X a (VT X.K E da)) (hb : PE X b (VT X.K E db)) (he : PE X e (VT X.K E de)) (hs : swapsWith e (some (.Subscript a b pos')) pos.line X.env = pure false := by rfl) :
    PS X (.Assign [.Subscript a b pos'] e pos) (VS X.K E (dPut da db de)) :=
  (ps_dput hu ha hb he hs).imp fun D σ H h => by
    obtain ⟨c, Γ, rel, env, p⟩ := h
    refine ⟨c, Γ, rel, env, (Post.bind p).mono fun z c1 H1 l1 rel1 p1 v rv => ?_⟩
    refine ⟨c1, Γ, rel1, env.le l1, (Post.bind p1).mono fun x c2 H2 l2 rel2 p2 vx rx => ?_⟩
    refine ⟨c2, Γ, rel2, (env.le l1).le l2, (Post.bind p2).mono fun y c3 H3 l3 rel3 p3 vy ry => ?_⟩
    have p4 := Post.bind p3
    have rv := (rv.le l2).le l3
    have rx := rx.le l3
    have env := ((env.le l1).le l2).le l3
    unfold wPut at p4
    cases x with
    | d _ => exact p4.no
    | own k =>
      cases y with
      | own _ => exact p4.no
      | d d =>
        cases q : c3.O[k]? with
        | none => simp only [q] at p4; exact p4.no
        | some m =>
          cases m with
          | dict kvs =>
            cases q2 : keyD d with
            | none => simp only [q, q2] at p4; exact p4.no
            | some j =>
              simp only [q, q2] at p4
              by_cases hc : (kvs.map (·.1)).Nodup ∧ kvs.length < sizeLine ∧ z.lt k = true
              · rw [if_pos hc] at p4
                obtain ⟨a, ha, rfl⟩ := rx
                obtain ⟨_, _, o, ho, ys, hy, hp⟩ := rel3.live k _ a q ha (by intro z; cases z)
                subst hy
                rw [keyD_ok q2 ry]
                refine ⟨a, _, rfl, DPut.k ho (by rw [← hp.length]; exact hc.2.1), ?_⟩
                have wf : ∀ p ∈ kvs, p.2.below k := rel3.wf k _ q
                have rel4 := rel3.put q (by intro z; cases z) ha (m' := .dict (putW j z kvs)) (o := .dK (putK ys j v)) ⟨_, rfl, put_ok rv hp hc.1⟩ (below_put (W.lt_ok hc.2.2) wf)
                have p5 := p4 (c3.put k (.dict (putW j z kvs))) _ (c3.put_le k _) rfl rel4
                exact Post.here p5 rel4 σ (env.le (c3.put_le k _))
              · rw [if_neg hc] at p4; exact p4.no
          | _ => simp only [q] at p4; exact p4.no
/-- {k: e, ..}, the keys written texts; the dict is to change -/
def dVals : List (Str × DE) → DA
  | [] => dNil
  | p :: r => dCons p.2 (dVals r)
def trsOf (K : PySem.W.Frag) (E : XK) (prs : List (Str × DE)) : List (TE × TE) := prs.map fun p => (tC (.str p.1), VT K E p.2)
def mkDict (ks : List Str) (ws : List W) : M W := fun O =>
  if ks.Nodup ∧ ks.length = ws.length ∧ ks.length ≤ 15 ∧ ws.all (W.lt O.length) = true then .ok (.own O.length) (O ++ [.dict ((ks.map Sum.inr).zip ws)]) else .no
def dDict (prs : List (Str × DE)) : DE := fun Γ => do
  let ws ← dVals prs Γ
  mkDict (prs.map Prod.fst) ws
theorem pairs_ok {Γ : Gam} {σ : L2.St} {F0 : Hp} : ∀ (prs : List (Str × DE)) (c : Cf) (H : Hp) (Qp : List (V × V) → Hp → Prop), Rel K c H → REnv K c.G c.ρ Γ σ → (∀ a u, F0 a = some u → c.F a = some u) →
    Post K E (c.un F0) (fun ws c' H' => ∀ c2, c' = c2.un F0 → Le c c2 → Rel K c2 H' → ∀ vs, RepsW K c2.G c2.ρ ws vs → Qp (((prs.map Prod.fst).map V.str).zip vs) H') (dVals prs Γ c.O) → tPairs (trsOf K E prs) σ H Qp
  | [], c, H, Qp, rel, env, hF, p => by
    have rel' : Rel K (c.un F0) H := rel.un hF
    exact Post.here (c := c.un F0) p rel' c rfl .rfl rel [] .nil
  | (k, d) :: r, c, H, Qp, rel, env, hF, p => by
    show VT K E d σ H _
    have p0 : Post K E (c.un F0) _ ((d Γ >>= fun x => dVals r Γ >>= fun xs => pure (x :: xs)) (c.un F0).O) := p
    refine ⟨c, Γ, rel, env, (Post.hid hF (Post.bind p0)).mono fun w c1 H1 l1 rel1 p1 v rv => ?_⟩
    have hF1 : ∀ a u, F0 a = some u → c1.F a = some u := fun a u z => by rw [← l1.fr]; exact hF a u z
    refine pairs_ok r c1 H1 _ rel1 (env.le l1) hF1 ((Post.bind p1).mono fun ws c' H' l' rel' p2 c2 e2 l2 rel2 vs rvs => ?_)
    exact Post.here p2 rel' c2 e2 (l1.tr l2) rel2 (v :: vs) (.cons (rv.le l2) rvs)
theorem nodup_inr : ∀ {ks : List Str}, ks.Nodup → (ks.map Sum.inr : List Key).Nodup
  | [], _ => .nil
  | k :: ks, h => by
    obtain ⟨h1, h2⟩ := List.nodup_cons.mp h
    rw [List.map_cons]
    refine List.nodup_cons.mpr ⟨fun hm => ?_, nodup_inr h2⟩
    obtain ⟨j, hj, e⟩ := List.mem_map.mp hm
    cases e
    exact h1 hj
theorem merge_nodup : ∀ (ks : List Str) (vs : List V) (kvs : List (Key × V)), (kvs.map (fun p : Key × V => p.1) ++ (ks.map Sum.inr : List Key)).Nodup → ks.length = vs.length → mergeK kvs ((ks.map Sum.inr).zip vs) = kvs ++ (ks.map Sum.inr).zip vs
  | [], vs, kvs, _, _ => by simp [mergeK]
  | k :: ks, [], kvs, _, h => by simp at h
  | k :: ks, v :: vs, kvs, nd, h => by
    have nd2 : ((kvs ++ [((Sum.inr k : Key), v)]).map (fun p : Key × V => p.1) ++ ks.map Sum.inr).Nodup := by
      simpa using nd
    have e : putK kvs (Sum.inr k) v = kvs ++ [(Sum.inr k, v)] := by
      refine putK_new v ?_
      cases q : valV kvs (Sum.inr k) with
      | none => rfl
      | some x =>
        have h1 := valV_any (Sum.inr k : Key) kvs
        rw [q] at h1
        obtain ⟨y, hy, hk⟩ := List.any_eq_true.mp (show (kvs.any fun kv => decide (kv.1 = Sum.inr k)) = true from h1)
        have hk := of_decide_eq_true hk
        have := (List.nodup_append.mp nd).2.2 y.1 (List.mem_map_of_mem hy) (Sum.inr k) (by simp)
        exact absurd hk this
    have ih := merge_nodup ks vs (kvs ++ [(Sum.inr k, v)]) nd2 (by simpa using h)
    show mergeK (putK kvs (Sum.inr k) v) ((ks.map Sum.inr).zip vs) = _
    rw [e, ih]
    simp
theorem kvr_zip {G : Hp} {ρ : List Addr} : ∀ {ks : List Str} {ws : List W} {vs : List V}, RepsW K G ρ ws vs → KvR K G ρ ((ks.map Sum.inr).zip ws) ((ks.map Sum.inr).zip vs)
  | [], _, _, _ => .nil
  | k :: ks, _, _, .nil => by simp; exact .nil
  | k :: ks, _, _, .cons h t => .cons ⟨rfl, h⟩ (kvr_zip t)
theorem c_dict {X : Cx} {pos : Pos} {keys : List (Option Expr)} {values : List Expr} {prs : List (Str × DE)} (h : PPs X pos keys values (trsOf X.K E prs)) (hall : keys.all (·.isSome) = true := by rfl) (hl : keys.length = values.length := by rfl) (h0 : keys ≠ [] := by exact fun z => by cases z) (h15 : keys.length ≤ 15 := by decide) :
    PE X (.Dict keys values pos) (VT X.K E (dDict prs)) := (pe_disp h hall hl h0 h15).imp fun σ H Q hq => by
  obtain ⟨c, Γ, rel, env, p⟩ := hq
  intro q hn
  have fn : c.F q = none := rel.fnone hn
  have rel1 : Rel X.K (c.hide q (.dK [])) (upd H q (.dK [])) := rel.hide hn
  have hF : ∀ a u, c.F a = some u → (c.hide q (.dK [])).F a = some u := fun a u z => by
    show upd c.F q (.dK []) a = some u
    rw [upd_ne (ne_of_none z fn)]; exact z
  refine pairs_ok (F0 := c.F) prs (c.hide q (.dK [])) _ _ rel1 env hF ((Post.bind (c := c) p).mono fun ws c' H' l' rel' p2 c2 e2 l2 rel2 vs rvs => ?_)
  have f2 : c2.F q = some (.dK []) := by
    rw [← l2.fr]; exact upd_same
  refine ⟨(rel2.fr q _ f2).1, ?_⟩
  unfold mkDict at p2
  by_cases hc : (prs.map Prod.fst).Nodup ∧ (prs.map Prod.fst).length = ws.length ∧ (prs.map Prod.fst).length ≤ 15 ∧ ws.all (W.lt c'.O.length) = true
  · rw [if_pos hc] at p2
    obtain ⟨nd, ln, l15, bl⟩ := hc
    have lv : (prs.map Prod.fst).length = vs.length := ln.trans rvs.length
    refine ⟨((prs.map Prod.fst).map Sum.inr).zip vs, ?_, ?_, ?_⟩
    · have : ∀ (ks : List Str) (vs : List V), (ks.map V.str).zip vs = ((ks.map Sum.inr).zip vs).map fun kv : Key × V => (kV kv.1, kv.2) := by
        intro ks
        induction ks with
        | nil => intro vs; rfl
        | cons k ks ih =>
          intro vs
          cases vs with
          | nil => rfl
          | cons v vs => simp only [List.map_cons, List.zip_cons_cons, ih vs, kV]
      exact this _ vs
    · rw [List.length_zip, List.length_map, List.length_map]
      rw [List.length_map] at l15
      omega
    · have nd2 : (([] : List (Key × V)).map (fun p : Key × V => p.1) ++ (prs.map Prod.fst).map Sum.inr : List Key).Nodup := by
        rw [List.map_nil, List.nil_append]
        exact nodup_inr nd
      have em := merge_nodup (prs.map Prod.fst) vs [] nd2 lv
      rw [em, List.nil_append]
      have eO : c'.O = c2.O := by rw [e2]; rfl
      have rel3 := rel2.hid (o := .dK (((prs.map Prod.fst).map Sum.inr).zip vs)) f2
      have rel4 := rel3.give (F := c.F) (m := .dict (((prs.map Prod.fst).map Sum.inr).zip ws)) (p := q) (o := .dK (((prs.map Prod.fst).map Sum.inr).zip vs)) (by show upd _ _ _ _ = _; exact upd_same)
        (fun a u z => by
          have ne : a ≠ q := ne_of_none z fn
          refine ⟨ne, ?_⟩
          show upd c2.F q _ a = some u
          rw [upd_ne ne, ← l2.fr]; exact hF a u z)
        ⟨_, rfl, kvr_zip rvs⟩ (fun p hp => by
          have hm : p.2 ∈ ws := (List.of_mem_zip hp).2
          have := List.all_eq_true.mp bl p.2 hm
          rw [eO] at this
          exact W.lt_ok this)
      rw [eO] at p2
      refine p2 _ _ ?_ rfl rel4 _ ?_
      · rw [e2]
        exact ⟨Ext.rfl, pre_app, rfl⟩
      · refine ⟨q, ?_, rfl⟩
        show (c2.ρ ++ [q])[c2.O.length]? = some q
        rw [← rel2.len]; simp
  · rw [if_neg hc] at p2; exact p2.no

/-! ### small statements -/
def dSet (i : Nat) (d : DE) : DS := fun Γ => do
  let w ← d Γ
  pure (.nx, Γ.set i (some w))
theorem v_set {i : Nat} {d : DE} {D : Ends} {σ : L2.St} {H : Hp} (h : VS K E (dSet i d) D σ H) : tAsg (VT K E d) (gName i) D σ H := by
  obtain ⟨c, Γ, rel, env, p⟩ := h
  exact ⟨c, Γ, rel, env, (Post.bind p).mono fun w c1 H1 l1 rel1 p1 v rv => Post.here p1 rel1 _ ((env.le l1).set i rv)⟩
theorem c_set {X : Cx} {i : Nat} {x : Str} {e : Expr} {d : DE} {pos pos' : Pos} (hN : X.N.Nodup) (hi : X.N[i]? = some x) (hx : Loc X.env.scope x) (he : PE X e (VT X.K E d)) (hs : swapsWith e (some (.Name x pos')) pos.line X.env = pure false := by rfl) (hf : X.fn x = true ∨ X.env.scope.names.lookup x = some .local := by first | exact .inl rfl | exact .inr rfl | assumption) :
    PS X (.Assign [.Name x pos'] e pos) (VS X.K E (dSet i d)) := (ps_set hN hi hx he hs hf).imp fun _ _ _ => v_set
def dPar (i j : Nat) (a : DA) : DS := fun Γ => do
  let ws ← a Γ
  match ws with
  | [w, u] => pure (.nx, (Γ.set i (some w)).set j (some u))
  | _ => M.no
theorem c_par {X : Cx} {i j : Nat} {x y : Str} {a b : Expr} {d : DA} {px py pt : Pos} {kt k2 pt2} {pos : Pos} (hc : X.calm = true) (hN : X.N.Nodup) (hi : X.N[i]? = some x) (hj : X.N[j]? = some y) (hij : i ≠ j) (hx : X.env.scope.names.lookup x = some .local) (hy : X.env.scope.names.lookup y = some .local) (ha : PA X [a, b] (VA X.K E d))
    (hw : swappedStores [.Tuple [.Name x px, .Name y py] kt pt] (.Tuple [a, b] k2 pt2) X.env = pure (some [x, y])) (hs : swapsWithSole [.Tuple [.Name x px, .Name y py] kt pt] (.Tuple [a, b] k2 pt2) pos.line X.env = pure false := by rfl) :
    PS X (.Assign [.Tuple [.Name x px, .Name y py] kt pt] (.Tuple [a, b] k2 pt2) pos) (VS X.K E (dPar i j d)) := (ps_par hc hN hi hj hij hx hy ha hw hs).imp fun D σ H h => by
  obtain ⟨c, Γ, rel, env, p⟩ := h
  refine ⟨c, Γ, rel, env, (Post.bind p).mono fun ws c1 H1 l1 rel1 p1 vs rvs => ?_⟩
  match ws, rvs, p1 with
  | [w, u], rvs, p1 =>
    obtain ⟨v, z, rfl, r1, r2⟩ := repsW2 rvs
    exact ⟨v, z, rfl, Post.here p1 rel1 _ (((env.le l1).set i r1).set j r2)⟩
  | [], _, p1 => exact p1.no
  | [_], _, p1 => exact p1.no
  | _ :: _ :: _ :: _, _, p1 => exact p1.no
def dAug (i : Nat) (f : W → W → M W) (d : DE) : DS := fun Γ => do
  let x ← dVar i Γ
  let y ← d Γ
  let z ← f x y
  pure (.nx, Γ.set i (some z))
theorem c_aug {X : Cx} {i : Nat} {x : Str} {e : Expr} {d : DE} {op : Operator} {r : TIp} {f : W → W → M W} {pos pos' : Pos} (hN : X.N.Nodup) (hi : X.N[i]? = some x) (hx : Loc X.env.scope x) (he : PE X e (VT X.K E d)) (ho : PIp X op r) (hs : Sem2 X.K E r f)
    (hf : X.fn x = true ∨ X.env.scope.names.lookup x = some .local := by first | exact .inl rfl | exact .inr rfl | assumption) : PS X (.AugAssign (.Name x pos') op e pos) (VS X.K E (dAug i f d)) := (ps_aug hN hi hx he ho hf).imp fun D σ H h => by
  obtain ⟨c, Γ, rel, env, p⟩ := h
  have p0 := Post.bind p
  unfold dVar at p0
  cases h1 : Γ[i]? with
  | none => simp only [h1] at p0; exact p0.no
  | some o =>
    cases o with
    | none => simp only [h1] at p0; exact p0.no
    | some w =>
      simp only [h1] at p0
      obtain ⟨v, e1, e2⟩ := env.at_ i w h1
      have p1 := Post.here p0 rel
      refine ⟨v, e1, c, Γ, rel, env, (Post.bind p1).mono fun u c1 H1 l1 rel1 p2 y ry => ?_⟩
      refine hs c1 H1 w u v y _ rel1 (e2.le l1) ry ((Post.bind p2).mono fun z c2 H2 l2 rel2 p3 x rx => ?_)
      exact Post.here p3 rel2 _ (((env.le l1).le l2).set i rx)
def dSeq (a b : DS) : DS := fun Γ => do
  let r ← a Γ
  match r.1 with
  | .nx => b r.2
  | _ => pure r
theorem v_seq {a b : DS} {D : Ends} {σ : L2.St} {H : Hp} (h : VS K E (dSeq a b) D σ H) : tSeq (VS K E a) (VS K E b) D σ H := by
  obtain ⟨c, Γ, rel, env, p⟩ := h
  refine ⟨c, Γ, rel, env, (Post.bind p).mono fun r c1 H1 l1 rel1 p1 => ?_⟩
  obtain ⟨fl, Γ1⟩ := r
  cases fl with
  | nx => exact fun σ1 e1 => ⟨c1, Γ1, rel1, e1, p1⟩
  | rt w =>
    have z : EndP K D (.rt w, Γ1) c1 H1 := Post.here p1 rel1
    exact z
  | bk =>
    have z : EndP K D (.bk, Γ1) c1 H1 := Post.here p1 rel1
    exact z
  | ct =>
    have z : EndP K D (.ct, Γ1) c1 H1 := Post.here p1 rel1
    exact z
section
variable {X : Cx} {st : Stmt} {rest : List Stmt} {a b : DS} {e : Expr} {d : DE} {pos : Pos}
theorem b_cons (h1 : PS X st (VS X.K E a)) (h2 : PSs X rest (VS X.K E b)) : PSs X (st :: rest) (VS X.K E (dSeq a b)) := (pss_cons h1 h2).imp fun _ _ _ => v_seq
theorem b_one (h1 : PS X st (VS X.K E a)) : PSs X [st] (VS X.K E a) := pss_one h1
def dNext : DS := fun Γ => pure (.nx, Γ)
theorem b_nil : PSs X [] (VS X.K E dNext) := pss_nil.imp fun D σ H h => by
  obtain ⟨c, Γ, rel, env, p⟩ := h
  exact Post.here p rel σ env
theorem c_pass : PS X (.Pass pos) (VS X.K E dNext) := ps_pass.imp fun D σ H h => by
  obtain ⟨c, Γ, rel, env, p⟩ := h
  exact Post.here p rel σ env
def dBrk : DS := fun Γ => pure (.bk, Γ)
def dCnt : DS := fun Γ => pure (.ct, Γ)
theorem c_brk : PS X (.Break pos) (VS X.K E dBrk) := ps_break.imp fun D σ H h => by
  obtain ⟨c, Γ, rel, env, p⟩ := h
  exact Post.here p rel σ env
theorem c_cnt : PS X (.Continue pos) (VS X.K E dCnt) := ps_continue.imp fun D σ H h => by
  obtain ⟨c, Γ, rel, env, p⟩ := h
  exact Post.here p rel σ env
def dDrop (d : DE) : DS := fun Γ => do
  let _ ← d Γ
  pure (.nx, Γ)
theorem c_expr (he : PE X e (VT X.K E d)) (hs : swapsWith e none pos.line X.env = pure false := by rfl) : PS X (.Expr e pos) (VS X.K E (dDrop d)) := (ps_expr he hs).imp fun D σ H h => by
  obtain ⟨c, Γ, rel, env, p⟩ := h
  exact ⟨c, Γ, rel, env, (Post.bind p).mono fun w c1 H1 l1 rel1 p1 v rv => Post.here p1 rel1 σ (env.le l1)⟩
def dRet (d : DE) : DS := fun Γ => do
  let w ← d Γ
  pure (.rt w, Γ)
theorem c_ret (he : PE X e (VT X.K E d)) : PS X (.Return (some e) pos) (VS X.K E (dRet d)) := (ps_ret he).imp fun D σ H h => by
  obtain ⟨c, Γ, rel, env, p⟩ := h
  exact ⟨c, Γ, rel, env, (Post.bind p).mono fun w c1 H1 l1 rel1 p1 v rv => Post.here p1 rel1 v rv⟩
def dRetN : DS := fun Γ => pure (.rt (.d .non), Γ)
theorem c_retN : PS X (.Return none pos) (VS X.K E dRetN) := ps_retN.imp fun D σ H h => by
  obtain ⟨c, Γ, rel, env, p⟩ := h
  exact Post.here p rel .non rep_non
def dIfS (t : DT) (a b : DS) : DS := fun Γ => do
  let k ← t Γ
  if k then a Γ else b Γ
theorem c_ifS {t : Expr} {sa sb : List Stmt} {dt : DT} (ht : PT X t (VB X.K E dt)) (ha : PSs X sa (VS X.K E a)) (hb : PSs X sb (VS X.K E b)) : PS X (.If t sa sb pos) (VS X.K E (dIfS dt a b)) := (ps_if ht ha hb).imp fun D σ H h => by
  obtain ⟨c, Γ, rel, env, p⟩ := h
  refine ⟨c, Γ, rel, env, (Post.bind p).mono fun k c1 H1 l1 rel1 p1 => ?_⟩
  cases k with
  | true =>
    rw [if_pos rfl] at p1 ⊢
    exact ⟨c1, Γ, rel1, env.le l1, p1⟩
  | false =>
    rw [if_neg (by decide)] at p1 ⊢
    exact ⟨c1, Γ, rel1, env.le l1, p1⟩
def dStop : DS := fun _ => M.no
theorem c_never : PS X st (VS X.K E dStop) := ps_never.imp fun D σ H h => by
  obtain ⟨c, Γ, rel, env, p⟩ := h
  exact p.no
/-- a list of the store is given up: from now on it is data -/
def ice (x : W) : M W := match x with
  | .d d => pure (.d d)
  | .own k => fun O => match O[k]? with
    | some (.lst ds) => .ok (.d (.lst ds)) (O.set k .dead)
    | _ => .no
theorem ice_at {O : Sto} {k : Nat} {ds : List D} (h : O[k]? = some (.lst ds)) : ice (.own k) O = .ok (.d (.lst ds)) (O.set k .dead) := by
  unfold ice; simp only [h]
def dIce (d : DE) : DE := fun Γ => do
  let x ← d Γ
  ice x
theorem c_ice (he : PE X e (VT X.K E d)) : PE X e (VT X.K E (dIce d)) := he.imp fun σ H Q h => by
  obtain ⟨c, Γ, rel, env, p⟩ := h
  refine ⟨c, Γ, rel, env, (Post.bind p).mono fun w c1 H1 l1 rel1 p1 v rv => ?_⟩
  cases w with
  | d d => exact Post.here p1 rel1 v rv
  | own k =>
    unfold ice at p1
    cases q : c1.O[k]? with
    | none => simp only [q] at p1; exact p1.no
    | some m =>
      cases m with
      | lst ds =>
        simp only [q] at p1
        obtain ⟨a, ha, rfl⟩ := rv
        obtain ⟨ga, _, o, ho, xs, hx, h4, h3⟩ := rel1.live k _ a q ha (by intro z; cases z)
        subst hx
        obtain ⟨r2, l2⟩ := rel1.ice q (by intro z; cases z) ha ho
        refine p1 _ _ l2 rfl r2 _ ?_
        show Rep X.K (upd c1.G a (.lst xs)) (.lst ds) _
        unfold Rep
        exact ⟨a, xs, rfl, upd_same, h3, Reps.mono (upd_ext ga) _ _ h4⟩
      | _ => simp only [q] at p1; exact p1.no
end
end
end VL


set_option maxRecDepth 100000
set_option maxHeartbeats 2000000
/-! The value layer: enumerate of a tuple; a list or a tuple walked. -/
namespace VL
open PySem PySem.Spec PyProof.Rows L2
set_option maxHeartbeats 1000000 in
theorem meets_enum_B {v : Value} {o : Obj} {H : Heap → Prop} (B : Begins v o H) :
    Meets (Builtin.«enumerate.__new__» ⟨[.type "enumerate", v], []⟩) (fun _ R s => H s.heap ∧
      R (.ok (.ret (.ref (s.heap.push o).objs.size))) { s with heap := (s.heap.push o).push { cls := .type "enumerate", data := .fields #[.none, .bool false, .ref s.heap.objs.size, rawInt 0, .none, .none] } }) :=
  .of_wp fun prog w A R s h => by
    obtain ⟨hp, g, d, tk, os⟩ := s; obtain ⟨h1, h⟩ := h
    have hsub := sub_enumerate
    have q1 : ∀ {A' : Around} {E : Value → Shared → Prop} {Q : Value → Shared → Prop}, Q (.ref hp.objs.size) ⟨hp.push o, g, d, tk, os⟩ → wpAny (model prog w) A' (pyIter v) Q E ⟨hp, g, d, tk, os⟩ :=
      fun q => B.iter prog w _ _ ⟨hp, g, d, tk, os⟩ _ h1 q
    wp_walk
    refine wpAny_stack_any fun st => wpAny_pure ?_
    split
    · rename_i c _ _ _ _ _
      cases (c == Value.type "enumerate")
      · wp_walk using q1
        exact ⟨_, rfl, h⟩
      · wp_walk using q1
        exact ⟨_, rfl, h⟩
    · wp_walk using q1
      exact ⟨_, rfl, h⟩
section
variable {prog : Program} {w : World} {A : Around} {E : Value → Shared → Prop} {s : Shared}
theorem call_enumerate_tuple {l : Addr} {items : Array Value} {Q : Value → Shared → Prop} (hL : s.heap.IsTuple l items)
    (h : ∀ h', IsEnum h' (s.heap.objs.size + 1) s.heap.objs.size 0 .none → h'.IsTupleIter s.heap.objs.size l 0 → h'.objs.size = s.heap.objs.size + 2 →
      (∀ b o, s.heap.get? b = some o → h'.get? b = some o) → Q (.ref (s.heap.objs.size + 1)) { s with heap := h' }) :
    wpAny (model prog w) A (call (.type "enumerate") [.ref l]) Q E s := by
  refine callType_new F.called_enumerate (by decide) (F.typeCall_enumerate_1 _) (F.newCall_enumerate_1 _) (fun obj => F.args_object_init_2 obj _) F.entry_enumerate_new
    (meets_enum_B (begins_tuple l items)) ⟨hL, ?_⟩
  have hz : (s.heap.push { cls := .type "tuple_iterator", data := .fields #[.ref l, .int 0 0] }).objs.size = s.heap.objs.size + 1 := Heap.size_push ..
  show _ ∧ _
  rw [hz]
  have he : IsEnum ((s.heap.push { cls := .type "tuple_iterator", data := .fields #[.ref l, .int 0 0] }).push
      { cls := .type "enumerate", data := .fields #[.none, .bool false, .ref s.heap.objs.size, rawInt 0, .none, .none] }) (s.heap.objs.size + 1) s.heap.objs.size 0 .none := by
    have := Heap.get?_push_size (s.heap.push { cls := .type "tuple_iterator", data := .fields #[.ref l, .int 0 0] })
      (o := { cls := .type "enumerate", data := .fields #[.none, .bool false, .ref s.heap.objs.size, rawInt 0, .none, .none] }) rfl
    rw [hz] at this; exact this
  refine ⟨⟨_, he, rfl⟩, h _ he ⟨_, Heap.get?_push_of_some _ (Heap.get?_push_size _ rfl), rfl, rfl⟩ (by rw [Heap.size_push, hz]) fun b o x => Heap.get?_push_of_some _ (Heap.get?_push_of_some _ x)⟩
end
section
variable {prog : Program} {w : World} {A : Around} {E : Value → Shared → Prop} {s : Shared}
theorem enumT_end {e it l : Addr} {i : Nat} {items : Array Value} {old : Value} {Q : Option Value → Shared → Prop} (hh : A.handled = none)
    (he : IsEnum s.heap e it i old) (hit : s.heap.IsTupleIter it l i) (hl : s.heap.IsTuple l items) (hx : items[i]? = none)
    (hQ : ∀ h', Heap.ExtBut it s.heap h' → Q none { s with heap := h' }) : wpAny (model prog w) A (pyNext (.ref e)) Q E s := by
  have hT : s.TypeIs (.ref e) "enumerate" := ⟨_, he, rfl⟩
  unfold pyNext
  refine wpAny_bind (wpAny_attempt (wpAny_callSpecial?_slot (name := Str.ofString "__next__") hT F.slot_enumerate_next
    (wpAny_call_entry F.slot_enumerate_next hT F.entry_enumerate_next ?_ (F.args_enumerate_next_1 _))))
  show wpAny _ _ (field (.ref e) 2 >>= _) _ _ _
  refine wpAny_bind (wpAny_field he rfl (x := .ref it) rfl ?_)
  refine wpAny_bind (wpAny_nextOf_tuple_end hh hit hl hx fun h' x he' hx' => ?_)
  obtain ⟨o, ho, hc⟩ := hx'
  refine wpAny_bind (wpAny_isInstance (T := "StopIteration") (b := true) ⟨o, ho, hc⟩ isSubtype_stop ?_)
  exact wpAny_pure (hQ _ he')
end
def IteT (K : PySem.W.Frag) (a : Addr) : It :=
  ⟨fun i H => ∃ (xs : List V) (x : V), SqT K H a xs ∧ xs[i]? = some x, fun i H v H' => ∃ T x, v = .ref T ∧ H T = none ∧ H' = upd H T (.tup [.int (i : Nat), x]) ∧ ∀ xs, SqT K H a xs → xs[i]? = some x, fun i H => ∃ xs : List V, SqT K H a xs ∧ xs.length ≤ i⟩
theorem turn_enumT {P : Program} {w : World} {K : PySem.W.Frag} {elts : List Expr} {kk : Nat} {tpos : Pos} (a e it : Addr) :
    Turn P w K (.Tuple elts kk tpos) (IteT K a) [e, it] e (fun i h => (∃ old, IsEnum h e it ((i : Nat) : Int) old) ∧ h.IsTupleIter it a i ∧ e ≠ it) where
  mem := by simp
  obj := fun i h st b hb => by
    obtain ⟨⟨old, he⟩, ⟨o, ho, hc, hd⟩, _⟩ := st
    have e' : b = e ∨ b = it := by simpa using hb
    rcases e' with z | z
    · rw [z]; exact ⟨_, he, fun v q => nomatch q⟩
    · rw [z]; exact ⟨o, ho, fun v q => by rw [hd] at q; cases q⟩
  keep := fun i h h' st k => let ⟨⟨old, he⟩, hi, hne⟩ := st; ⟨⟨old, k e (by simp) _ he⟩, hi.at fun o q => k it (by simp) o q, hne⟩
  item := by
    intro X hP hw hK hc i pins s σ H E I hf st hg
    subst hP hw hK
    obtain ⟨⟨old, he⟩, hit, hne⟩ := st
    obtain ⟨xs, x, hq, hx⟩ := hg
    obtain ⟨its, rv, p, hz⟩ := I.tuple hq
    obtain ⟨u, hu, ru⟩ := rv.get hx
    have hel : e < s.heap.objs.size := Heap.lt_size he
    have hil : it < s.heap.objs.size := by obtain ⟨_, q, _⟩ := hit; exact Heap.lt_size q
    have hIT : s.heap.IsTuple a its.toArray := p
    have nai : a ≠ it := fun z => by
      obtain ⟨o1, q1, c1, _⟩ := hit
      obtain ⟨o2, q2, c2, _⟩ := hIT
      rw [z, q1] at q2; cases q2; rw [c1] at c2; injection c2 with c3; exact absurd c3 (by decide)
    have nae : a ≠ e := fun z => by
      obtain ⟨o2, q2, c2, _⟩ := hIT
      have q1 : s.heap.get? e = some _ := he
      rw [z, q1] at q2; cases q2; injection c2 with c3; exact absurd c3 (by decide)
    have hil2 : i < its.toArray.size := by rw [List.size_toArray]; exact (List.getElem?_eq_some_iff.mp hu).1
    refine wpAny_pyNext_enum_itemD (Draws.tuple (A := X.A.in1) (I.ok.hd hc) it a nai its.toArray) he ⟨hit, hIT⟩ hil2 hne (by simp only [List.mem_cons, List.not_mem_nil, or_false, not_or]; exact ⟨hne, fun z => nae z.symm⟩) fun u' h' tk hP ho hst' hT hsz hk => ?_
    have eu : u' = u := by
      have hP : its.toArray[i]? = some u' := hP
      rw [List.getElem?_toArray, hu] at hP
      exact (Option.some.inj hP).symm
    subst eu
    refine ⟨_, rfl, wpAny_letOwnedTupleGo_enum (s := { s with heap := h', toks := tk + 1 }) ho fun h'' he' sb => ?_⟩
    have hT2 : h''.get? s.heap.objs.size = some { cls := .type "tuple", data := .seq #[.int i tk, u'] } := (sb.2 _ (Nat.ne_of_gt hel)).trans hT
    have new : ObjOk X.prog X.w (upd H s.heap.objs.size (.tup [.int (i : Nat), x])) h'' s.heap.objs.size (.tup [.int (i : Nat), x]) :=
      ⟨by show 2 ≤ sizeLine; decide, [.int i tk, u'], .cons ⟨_, rfl⟩ (.cons ru .nil), ⟨_, hT2, rfl, _, rfl⟩⟩
    have I1 : Inv X pins σ (upd H s.heap.objs.size (.tup [.int (i : Nat), x])) { s with heap := h'', toks := tk + 1 } :=
      I.turnedNew (ch := [e, it]) (fun b ob hb q => (sb.2 b (fun z => hb (by simp [z]))).trans (hk b ob (fun z => hb (by simp [z])) (fun z => hb (by simp [z])) q)) hf (Nat.le_refl _) new
    refine ⟨.ref s.heap.objs.size, _, I1, rfl, ⟨_, x, rfl, I.hok.fresh (Nat.le_refl _), rfl, fun ys hy => by rw [I.tuple_inj hy hq]; exact hx⟩, ⟨⟨u', ?_⟩, hst'.1.at fun o q => (sb.2 it (Ne.symm hne)).trans q, hne⟩, fun b hb => ?_⟩
    · have e1 : ((i + 1 : Nat) : Int) = (i : Int) + 1 := by omega
      rw [e1]; exact he'
    · have hb' : b < s.heap.objs.size := by
        have e' : b = e ∨ b = it := by simpa using hb
        rcases e' with z | z
        · rw [z]; exact hel
        · rw [z]; exact hil
      rw [upd_ne (Nat.ne_of_lt hb')]
      exact (hf b hb).1
  done := by
    intro X hP hw hK hc i pins s σ H E I hf st hg
    subst hP hw hK
    obtain ⟨⟨old, he⟩, hit, hne⟩ := st
    obtain ⟨xs, hq, hx⟩ := hg
    obtain ⟨its, rv, p, hz⟩ := I.tuple hq
    obtain ⟨f0, f1, f2, f3, f4, f5⟩ := hf it (by simp)
    have hl := rv.length
    have hIT : s.heap.IsTuple a its.toArray := p
    have nai : a ≠ it := fun z => by
      obtain ⟨o1, q1, c1, _⟩ := hit
      obtain ⟨o2, q2, c2, _⟩ := hIT
      rw [z, q1] at q2; cases q2; rw [c1] at c2; injection c2 with c3; exact absurd c3 (by decide)
    exact enumT_end (I.ok.hd hc) he hit hIT (by simp; omega) fun h' eb => ⟨rfl, I.turned (t' := s.toks) (fun b o hb q => eb b o hb q) f0 f1 f3 f4 f5⟩
  self := fun A i s Q E st h => let ⟨⟨_, he⟩, _⟩ := st; wpAny_pyIter_enum he h
/-! ### walked: a list or a tuple, as it is -/
section
variable {X : Cx} {tg : Expr}
def iSeq (K : PySem.W.Frag) (tl : TE) : TI := fun σ H R => tl σ H fun x H1 => ∃ a, x = .ref a ∧ (((∃ xs, SqL K H1 a xs) ∧ R (Itl K a) H1) ∨ ((∃ xs, SqT K H1 a xs) ∧ R (Itt K a) H1))
theorem pi_seq {l : Expr} {tl : TE} (hl : PE X l tl) : PI X tg l (iSeq X.K tl) := by
  refine ⟨fun pins s σ H R I h => ?_⟩
  refine thn (hl.run pins s σ H _ I h) fun v s1 ⟨x, H1, I1, r1, q1⟩ => ?_
  obtain ⟨a, e, q1⟩ := q1
  subst e
  cases r1
  rcases q1 with ⟨⟨xs, hq⟩, q⟩ | ⟨⟨xs, hq⟩, q⟩
  · obtain ⟨its, rv, p, hz⟩ := I1.list hq
    refine wpAny_pyIter_list p.isList ?_
    exact pi_one (tk := s1.toks) I1 _ (turn_list a _) ⟨_, Heap.get?_push_size _ rfl, rfl, rfl⟩ q
  · obtain ⟨its, rv, p, hz⟩ := I1.tuple hq
    refine wpAny_pyIter_tuple (show s1.heap.IsTuple a its.toArray from p) ?_
    exact pi_one (tk := s1.toks) I1 _ (turn_tuple a _) ⟨_, Heap.get?_push_size _ rfl, rfl, rfl⟩ q
def iEnumS (K : PySem.W.Frag) (ta : TA) : TI := fun σ H R => ta σ H fun vs H1 => ∃ a, vs = [.ref a] ∧ (((∃ xs, SqL K H1 a xs) ∧ R (Ite K a) H1) ∨ ((∃ xs, SqT K H1 a xs) ∧ R (IteT K a) H1))
theorem pi_enumS {e : Expr} {ta : TA} {p pos tpos : Pos} {elts : List Expr} {kk : Nat} (hg : Gl X "enumerate") (hm : X.mg "enumerate" = none) (ha : PA X [e] ta) (hs : starEach [e] X.env = [(false, eval e X.env)] := by rfl) :
    PI X (.Tuple elts kk tpos) (.Call (.Name "enumerate" p) [e] [] pos) (iEnumS X.K ta) := by
  refine ⟨fun pins s σ H R I h => ?_⟩
  refine Call_ (ld_blt I hg hm boot_enumerate (PyProof.Rows.callWith_type1 (thn (ha.run pos pins s σ H _ I h) fun us s1 ⟨vs, H1, I1, r1, q1⟩ => ?_) hs rfl))
  obtain ⟨a, ex, q1⟩ := q1
  subst ex
  have fin : ∀ {h' : Heap} {J : It} {tn : Nat → Heap → Prop}, (∀ b o, s1.heap.get? b = some o → h'.get? b = some o) → R J H1 → Turn X.prog X.w X.K (.Tuple elts kk tpos) J [s1.heap.objs.size + 1, s1.heap.objs.size] (s1.heap.objs.size + 1) tn → tn 0 h' →
      PIE X pins σ (.Tuple elts kk tpos) R (.ref (s1.heap.objs.size + 1)) { s1 with heap := h' } := fun {h' J tn} hk q T st => by
    have I2 : Inv X pins σ H1 { s1 with heap := h' } := I1.kept (t' := s1.toks) hk
    refine ⟨s1.heap.objs.size + 1, [s1.heap.objs.size + 1, s1.heap.objs.size], tn, J, H1, rfl, I2, T, st, fun b hb => ?_, q⟩
    have e' : b = s1.heap.objs.size + 1 ∨ b = s1.heap.objs.size := by simpa using hb
    have hle : s1.heap.objs.size ≤ b := by
      rcases e' with z | z
      · rw [z]; exact Nat.le_add_right _ _
      · rw [z]; exact Nat.le_refl _
    exact I1.fpOk hle (I1.hok.fresh hle)
  cases r1 with
  | cons r rr =>
    cases rr
    cases r
    rcases q1 with ⟨⟨xs, hq⟩, q⟩ | ⟨⟨xs, hq⟩, q⟩
    · obtain ⟨its, rv, p', hz⟩ := I1.list hq
      refine call_enumerate_list p'.isList fun h' he hit hsz hk => wpAny_pyIter_enum he ?_
      exact fin hk q (turn_enum a (s1.heap.objs.size + 1) s1.heap.objs.size) ⟨⟨.none, he⟩, hit, Nat.succ_ne_self _⟩
    · obtain ⟨its, rv, p', hz⟩ := I1.tuple hq
      refine call_enumerate_tuple (show s1.heap.IsTuple a its.toArray from p') fun h' he hit hsz hk => wpAny_pyIter_enum he ?_
      exact fin hk q (turn_enumT a (s1.heap.objs.size + 1) s1.heap.objs.size) ⟨⟨.none, he⟩, hit, Nat.succ_ne_self _⟩
end
end VL


set_option maxRecDepth 100000
set_option maxHeartbeats 2000000
/-! The value layer: loops, comprehensions. -/
namespace VL
open PySem L2
/-! ### targets -/
inductive Pt where
  | nm (i : Nat) | tp (ps : List Pt)
mutual
def Pt.ixs : Pt → List Nat
  | .nm i => [i]
  | .tp ps => Pt.ixsL ps
def Pt.ixsL : List Pt → List Nat
  | [] => []
  | p :: r => p.ixs ++ Pt.ixsL r
end
mutual
def gP (K : PySem.W.Frag) : Pt → TG
  | .nm i => gName i
  | .tp ps => gTup K ps.length (gPs K ps)
def gPs (K : PySem.W.Frag) : List Pt → TGs
  | [] => gNil
  | p :: r => gCons (gP K p) (gPs K r)
end
mutual
def bindP : Pt → D → Gam → Option Gam
  | .nm i, d, Γ => some (Γ.set i (some (.d d)))
  | .tp ps, .tup ds, Γ => bindPs ps ds Γ
  | .tp _, _, _ => none
def bindPs : List Pt → List D → Gam → Option Gam
  | [], [], Γ => some Γ
  | p :: r, d :: ds, Γ => (bindP p d Γ).bind fun Γ' => bindPs r ds Γ'
  | _, _, _ => none
end
def bindW : Pt → W → Gam → Option Gam
  | .nm i, w, Γ => some (Γ.set i (some w))
  | p, .d d, Γ => bindP p d Γ
  | _, _, _ => none
theorem wipe_set2 {i : Nat} {x : Option V} : ∀ (vs : List Nat) (σ : L2.St), (L2.wipe (σ.set i x) vs).set i none = (L2.wipe σ vs).set i none
  | [], σ => by unfold L2.wipe; rw [List.set_set]
  | v :: vs, σ => by
    unfold L2.wipe
    by_cases h : v = i
    · subst h; rw [List.set_set, List.set_set]; exact wipe_set2 vs σ
    · rw [List.set_comm _ _ h, wipe_set2 vs σ, List.set_comm _ _ (Ne.symm h)]
theorem wipe_set {i : Nat} {x : Option V} : ∀ (vs : List Nat) (σ : L2.St), i ∈ vs → L2.wipe (σ.set i x) vs = L2.wipe σ vs
  | [], σ, h => by cases h
  | v :: vs, σ, h => by
    unfold L2.wipe
    by_cases e : v = i
    · subst e; exact wipe_set2 vs σ
    · rw [wipe_set vs σ (by rcases List.mem_cons.mp h with q | q; exact absurd q.symm e; exact q)]
theorem wipe_wipe : ∀ (us vs : List Nat) (σ : L2.St), (∀ i ∈ us, i ∈ vs) → L2.wipe (L2.wipe σ us) vs = L2.wipe σ vs
  | [], vs, σ, h => rfl
  | u :: us, vs, σ, h => by
    show L2.wipe ((L2.wipe σ us).set u none) vs = _
    rw [wipe_set vs _ (h u List.mem_cons_self)]
    exact wipe_wipe us vs σ fun i hi => h i (List.mem_cons_of_mem _ hi)
section
variable {K : PySem.W.Frag} {E : XK} {c c' : Cf} {H : Hp} {v : V} {w : W} {F : Hp} {α : Type}
mutual
theorem gP_ok : ∀ (p : Pt) (d : D) (x : V) (σ : L2.St) (Γ Γ' : Gam) (Q : L2.St → Hp → Prop), Rel K c H → REnv K c.G c.ρ Γ σ → Rep K c.G d x → bindP p d Γ = some Γ' →
    (∀ σ', REnv K c.G c.ρ Γ' σ' → (∀ vs, (∀ i ∈ p.ixs, i ∈ vs) → L2.wipe σ' vs = L2.wipe σ vs) → Q σ' H) → gP K p x σ H Q
  | .nm i, d, x, σ, Γ, Γ', Q, rel, env, rp, e, k => by
    unfold bindP at e
    cases e
    unfold gP
    exact k _ (env.set (w := .d d) i rp) fun vs h => wipe_set vs σ (h i (by unfold Pt.ixs; simp))
  | .tp ps, .tup ds, x, σ, Γ, Γ', Q, rel, env, rp, e, k => by
    unfold bindP at e
    obtain ⟨a, xs, rfl, h1, h2, h3⟩ := tup_of rel (v := x) (ds := ds) rp
    unfold gP
    have hl : ds.length = ps.length := bindPs_len ps ds Γ Γ' e
    exact ⟨a, xs, rfl, h1, by rw [← h3.length]; exact hl, gPs_ok ps ds xs σ Γ Γ' Q rel env h3 e (by unfold Pt.ixs at k; exact k)⟩
  | .tp ps, .non, x, σ, Γ, Γ', Q, rel, env, rp, e, k => by unfold bindP at e; cases e
  | .tp ps, .bl _, x, σ, Γ, Γ', Q, rel, env, rp, e, k => by unfold bindP at e; cases e
  | .tp ps, .int _, x, σ, Γ, Γ', Q, rel, env, rp, e, k => by unfold bindP at e; cases e
  | .tp ps, .str _, x, σ, Γ, Γ', Q, rel, env, rp, e, k => by unfold bindP at e; cases e
  | .tp ps, .lst _, x, σ, Γ, Γ', Q, rel, env, rp, e, k => by unfold bindP at e; cases e
  | .tp ps, .scr _, x, σ, Γ, Γ', Q, rel, env, rp, e, k => by unfold bindP at e; cases e
  | .tp ps, .dic _ _, x, σ, Γ, Γ', Q, rel, env, rp, e, k => by unfold bindP at e; cases e
  | .tp ps, .ins _ _ _, x, σ, Γ, Γ', Q, rel, env, rp, e, k => by unfold bindP at e; cases e
  | .tp ps, .adr _, x, σ, Γ, Γ', Q, rel, env, rp, e, k => by unfold bindP at e; cases e
  | .tp ps, .rng _ _, x, σ, Γ, Γ', Q, rel, env, rp, e, k => by unfold bindP at e; cases e
  | .tp ps, .ty _, x, σ, Γ, Γ', Q, rel, env, rp, e, k => by unfold bindP at e; cases e
theorem gPs_ok : ∀ (ps : List Pt) (ds : List D) (xs : List V) (σ : L2.St) (Γ Γ' : Gam) (Q : L2.St → Hp → Prop), Rel K c H → REnv K c.G c.ρ Γ σ → Reps K c.G ds xs → bindPs ps ds Γ = some Γ' →
    (∀ σ', REnv K c.G c.ρ Γ' σ' → (∀ vs, (∀ i ∈ Pt.ixsL ps, i ∈ vs) → L2.wipe σ' vs = L2.wipe σ vs) → Q σ' H) → gPs K ps xs σ H Q
  | [], [], xs, σ, Γ, Γ', Q, rel, env, rp, e, k => by
    unfold bindPs at e
    cases e
    unfold gPs
    exact ⟨reps_nil.mp rp, k σ env fun _ _ => rfl⟩
  | p :: r, d :: ds, xs, σ, Γ, Γ', Q, rel, env, rp, e, k => by
    unfold bindPs at e
    obtain ⟨Γ1, e1, e2⟩ := Option.bind_eq_some_iff.mp e
    obtain ⟨x, t, rfl, h1, h2⟩ := reps_cons.mp rp
    unfold gPs
    refine ⟨x, t, rfl, gP_ok p d x σ Γ Γ1 _ rel env h1 e1 fun σ1 env1 w1 => ?_⟩
    refine gPs_ok r ds t σ1 Γ1 Γ' Q rel env1 h2 e2 fun σ2 env2 w2 => k σ2 env2 fun vs h => ?_
    have hx : ∀ i ∈ p.ixs ++ Pt.ixsL r, i ∈ vs := by
      have h' := h
      unfold Pt.ixsL at h'
      exact h'
    rw [w2 vs fun i hi => hx i (List.mem_append_right _ hi)]
    exact w1 vs fun i hi => hx i (List.mem_append_left _ hi)
  | [], _ :: _, xs, σ, Γ, Γ', Q, rel, env, rp, e, k => by unfold bindPs at e; cases e
  | _ :: _, [], xs, σ, Γ, Γ', Q, rel, env, rp, e, k => by unfold bindPs at e; cases e
theorem bindPs_len : ∀ (ps : List Pt) (ds : List D) (Γ Γ' : Gam), bindPs ps ds Γ = some Γ' → ds.length = ps.length
  | [], [], _, _, _ => rfl
  | p :: r, d :: ds, Γ, Γ', e => by
    unfold bindPs at e
    obtain ⟨Γ1, e1, e2⟩ := Option.bind_eq_some_iff.mp e
    rw [List.length_cons, List.length_cons, bindPs_len r ds Γ1 Γ' e2]
  | [], _ :: _, _, _, e => by unfold bindPs at e; cases e
  | _ :: _, [], _, _, e => by unfold bindPs at e; cases e
end
theorem gW_ok {p : Pt} {x : V} {σ : L2.St} {Γ Γ' : Gam} {Q : L2.St → Hp → Prop} (rel : Rel K c H) (env : REnv K c.G c.ρ Γ σ) (rp : RepW K c.G c.ρ w x) (e : bindW p w Γ = some Γ')
    (k : ∀ σ', REnv K c.G c.ρ Γ' σ' → (∀ vs, (∀ i ∈ p.ixs, i ∈ vs) → L2.wipe σ' vs = L2.wipe σ vs) → Q σ' H) : gP K p x σ H Q := by
  cases p with
  | nm i =>
    have e : some (Γ.set i (some w)) = some Γ' := by cases w <;> exact e
    cases e
    unfold gP
    exact k _ (env.set i rp) fun vs h => wipe_set vs σ (h i (by unfold Pt.ixs; simp))
  | tp ps =>
    cases w with
    | own _ => cases e
    | d d => exact gP_ok (.tp ps) d x σ Γ Γ' Q rel env rp e k
section
variable {X : Cx} {pos : Pos}
theorem g_nm {i : Nat} {x : Str} (hN : X.N.Nodup) (hi : X.N[i]? = some x) (hx : Loc X.env.scope x) (hf : X.fn x = true ∨ X.env.scope.names.lookup x = some .local := by first | exact .inl rfl | exact .inr rfl | assumption) : PG X (.Name x pos) (gP X.K (.nm i)) := by
  unfold gP
  exact pg_name hN hi hx hf
theorem gs_nil : PGs X [] (gPs X.K []) := by
  unfold gPs
  exact pgs_nil
theorem gs_cons {e : Expr} {es : List Expr} {p : Pt} {ps : List Pt} (h1 : PG X e (gP X.K p)) (h2 : PGs X es (gPs X.K ps)) (hs : (assignEach (e :: es) X.env).map (·.2) = assign e X.env :: (assignEach es X.env).map (·.2) := by rfl) : PGs X (e :: es) (gPs X.K (p :: ps)) := by
  conv => arg 3; unfold gPs
  exact pgs_cons h1 h2 hs
theorem g_tp {es : List Expr} {k : Nat} {ps : List Pt} (hc : X.calm = true) (h : PGs X es (gPs X.K ps)) (hn : (assignEach es X.env).length = ps.length := by rfl) (hst : (assignEach es X.env).findIdx? (·.1) = none := by rfl) : PG X (.Tuple es k pos) (gP X.K (.tp ps)) := by
  conv => arg 3; unfold gP
  exact pg_tup hc h hn hst
/-- target = value, any target -/
def dAsg (p : Pt) (d : DE) : DS := fun Γ => do
  let w ← d Γ
  match bindW p w Γ with
  | some Γ' => pure (.nx, Γ')
  | none => M.no
theorem c_asg {tg e : Expr} {p : Pt} {d : DE} (he : PE X e (VT X.K E d)) (hg : PG X tg (gP X.K p)) (hs : swapsWithSole [tg] e pos.line X.env = pure false := by rfl) (hw : swappedStores [tg] e X.env = pure none := by rfl)
    (h1 : (assignEach [tg] X.env).map (·.2) = [assign tg X.env] := by rfl) : PS X (.Assign [tg] e pos) (VS X.K E (dAsg p d)) := (ps_asg he hg hs hw h1).imp fun D σ H h => by
  obtain ⟨c, Γ, rel, env, q⟩ := h
  refine ⟨c, Γ, rel, env, (Post.bind q).mono fun w c1 H1 l1 rel1 p1 v rv => ?_⟩
  cases e1 : bindW p w Γ with
  | none => simp only [e1] at p1; exact p1.no
  | some Γ' =>
    simp only [e1] at p1
    exact gW_ok rel1 (env.le l1) rv e1 fun σ' env' _ => Post.here p1 rel1 σ' env'
end

/-! ### what is walked -/
/-- the items; the list of the store that must stand -/
structure Wk where
  ws : List W
  own : Option (Nat × List D)
def Wk.ok (k : Wk) (O : Sto) : Prop := match k.own with
  | none => True
  | some (j, ds) => O[j]? = some (.lst ds)
noncomputable instance (k : Wk) (O : Sto) : Decidable (k.ok O) := Classical.propDecidable _
structure Lx (c c' : Cf) : Prop where
  ex : Ext c.G c'.G
  pre : ∀ (k : Nat) (a : Addr), c.ρ[k]? = some a → c'.ρ[k]? = some a
theorem Le.x (l : Le c c') : Lx c c' := ⟨l.ex, l.pre⟩
theorem Lx.tr {c2 : Cf} (a : Lx c c') (b : Lx c' c2) : Lx c c2 := ⟨a.ex.tr b.ex, fun k x h => b.pre k x (a.pre k x h)⟩
def IsIt (K : PySem.W.Frag) (c : Cf) (J : It) (k : Wk) : Prop := ∀ c1 H1, Lx c c1 → Rel K c1 H1 → k.ok c1.O → ∀ i, (∀ w, k.ws[i]? = some w → J.go i H1 ∧ ∀ x H2, J.yld i H1 x H2 → ∃ c2, Le c1 c2 ∧ c2.O = c1.O ∧ Rel K c2 H2 ∧ RepW K c2.G c2.ρ w x) ∧ (k.ws.length ≤ i → J.stop i H1)
abbrev DI := Gam → M Wk
def VI (K : PySem.W.Frag) (E : XK) (d : DI) : TI := fun σ H R => ∃ c Γ, Rel K c H ∧ REnv K c.G c.ρ Γ σ ∧ Post K E c (fun k c' H' => ∀ J, IsIt K c' J k → R J H') (d Γ c.O)
theorem _root_.L2.PI.imp {X : Cx} {tg iter : Expr} {t t' : TI} (h : PI X tg iter t) (i : ∀ σ H R, t' σ H R → t σ H R) : PI X tg iter t' := ⟨fun pins s σ H R I hw => h.run pins s σ H R I (i σ H R hw)⟩
/-- a list, a tuple -/
def wWk (x : W) : M Wk := fun O => match x with
  | .d (.tup ds) => .ok ⟨ds.map W.d, none⟩ O
  | .d (.lst ds) => .ok ⟨ds.map W.d, none⟩ O
  | .d (.scr ns) => .ok ⟨ns.map fun n => .d (.int n), none⟩ O
  | .own k => match O[k]? with
    | some (.lst ds) => .ok ⟨ds.map W.d, some (k, ds)⟩ O
    | _ => .no
  | _ => .no
def dIt (d : DE) : DI := fun Γ => do
  let x ← d Γ
  wWk x
theorem sql_uniq {a : Addr} {xs ys : List V} (h : H a = some (.lst xs)) (q : SqL K H a ys) (hk : K.lookup a = none) : xs = ys := by
  rcases q with (q | ⟨o, q⟩) | ⟨o, _, _, e, _⟩
  · rw [h] at q; cases q; rfl
  · rw [h] at q; cases q
  · rw [hk] at e; cases e
/-- what a list's walk yields, whatever else is said of it -/
theorem isIt_list {a : Addr} {k : Wk} (h : ∀ c1 H1, Lx c c1 → Rel K c1 H1 → k.ok c1.O → ∃ xs, SqL K H1 a xs ∧ Paired (RepW K c1.G c1.ρ) k.ws xs) : IsIt K c (Itl K a) k := fun c1 H1 l r o i => by
  obtain ⟨xs, h1, h2⟩ := h c1 H1 l r o
  refine ⟨fun w hw => ?_, fun hl => ⟨xs, h1, by rw [← h2.length]; exact hl⟩⟩
  have get : ∀ {l1 : List W} {l2 : List V} {i : Nat} {w : W}, Paired (RepW K c1.G c1.ρ) l1 l2 → l1[i]? = some w → ∃ x, l2[i]? = some x ∧ RepW K c1.G c1.ρ w x := fun p => by
    intro hi
    rename_i l1 l2 i w
    induction p generalizing i with
    | nil => simp at hi
    | cons hh _ ih =>
      cases i with
      | zero => simp at hi; subst hi; exact ⟨_, by simp, hh⟩
      | succ i => obtain ⟨x, e1, e2⟩ := ih (by simpa using hi); exact ⟨x, by simpa using e1, e2⟩
  obtain ⟨x, e1, e2⟩ := get h2 hw
  refine ⟨⟨xs, x, h1, e1⟩, fun y H2 hy => ?_⟩
  obtain ⟨rfl, hy⟩ := hy
  have := hy xs h1
  rw [e1] at this
  cases this
  exact ⟨c1, .rfl, rfl, r, e2⟩
theorem isIt_tup {a : Addr} {k : Wk} (h : ∀ c1 H1, Lx c c1 → Rel K c1 H1 → k.ok c1.O → ∃ xs, SqT K H1 a xs ∧ Paired (RepW K c1.G c1.ρ) k.ws xs) : IsIt K c (Itt K a) k := fun c1 H1 l r o i => by
  obtain ⟨xs, h1, h2⟩ := h c1 H1 l r o
  refine ⟨fun w hw => ?_, fun hl => ⟨xs, h1, by rw [← h2.length]; exact hl⟩⟩
  have get : ∀ {l1 : List W} {l2 : List V} {i : Nat} {w : W}, Paired (RepW K c1.G c1.ρ) l1 l2 → l1[i]? = some w → ∃ x, l2[i]? = some x ∧ RepW K c1.G c1.ρ w x := fun p => by
    intro hi
    rename_i l1 l2 i w
    induction p generalizing i with
    | nil => simp at hi
    | cons hh _ ih =>
      cases i with
      | zero => simp at hi; subst hi; exact ⟨_, by simp, hh⟩
      | succ i => obtain ⟨x, e1, e2⟩ := ih (by simpa using hi); exact ⟨x, by simpa using e1, e2⟩
  obtain ⟨x, e1, e2⟩ := get h2 hw
  refine ⟨⟨xs, x, h1, e1⟩, fun y H2 hy => ?_⟩
  obtain ⟨rfl, hy⟩ := hy
  have := hy xs h1
  rw [e1] at this
  cases this
  exact ⟨c1, .rfl, rfl, r, e2⟩
theorem pair_at {R : W → V → Prop} {l1 : List W} {l2 : List V} {i : Nat} {w : W} (p : Paired R l1 l2) (hi : l1[i]? = some w) : ∃ x, l2[i]? = some x ∧ R w x := by
  induction p generalizing i with
  | nil => simp at hi
  | cons hh _ ih =>
    cases i with
    | zero => simp at hi; subst hi; exact ⟨_, by simp, hh⟩
    | succ i => obtain ⟨x, e1, e2⟩ := ih (by simpa using hi); exact ⟨x, by simpa using e1, e2⟩
/-- with its number: a new pair each -/
def numW (i : Nat) : W → W
  | .d d => .d (.tup [.int i, d])
  | .own k => .own k
def isDat : List W → Bool
  | [] => true
  | .d _ :: r => isDat r
  | .own _ :: _ => false
theorem isDat_at : ∀ {ws : List W} {i : Nat} {w : W}, isDat ws = true → ws[i]? = some w → ∃ d, w = .d d
  | .d d :: r, 0, w, _, e => by simp at e; exact ⟨d, e.symm⟩
  | .d d :: r, i + 1, w, h, e => isDat_at (ws := r) (i := i) h (by simpa using e)
  | [], i, w, _, e => by simp at e
theorem isDat_map (ds : List D) : isDat (ds.map W.d) = true := by
  induction ds with
  | nil => rfl
  | cons d ds ih => exact ih
theorem numPair {x : V} {i : Nat} {d : D} {T : Addr} (r : Rel K c H) (hT : H T = none) (rp : Rep K c.G d x) : Le c (c.know T (.tup [.int (i : Nat), x])) ∧ Rel K (c.know T (.tup [.int (i : Nat), x])) (upd H T (.tup [.int (i : Nat), x])) ∧ Rep K (c.know T (.tup [.int (i : Nat), x])).G (.tup [.int i, d]) (.ref T) := by
  refine ⟨r.know_le hT, r.know hT, ?_⟩
  show Rep K (upd c.G T _) _ _
  unfold Rep
  refine ⟨T, _, rfl, upd_same, by show 2 ≤ sizeLine; decide, reps_cons.mpr ⟨_, _, rfl, by unfold Rep; rfl, .one (Rep.mono (upd_ext (r.gnone hT)) _ _ rp)⟩⟩
theorem isIt_enumL {a : Addr} {ws : List W} (hd : isDat ws = true) (h : ∀ c1 H1, Lx c c1 → Rel K c1 H1 → ∃ xs, SqL K H1 a xs ∧ Paired (RepW K c1.G c1.ρ) ws xs) : IsIt K c (Ite K a) ⟨ws.mapIdx numW, none⟩ := fun c1 H1 l r o i => by
  obtain ⟨xs, h1, h2⟩ := h c1 H1 l r
  refine ⟨fun w hw => ?_, fun hl => ⟨xs, h1, by rw [← h2.length]; simpa using hl⟩⟩
  have hw : (ws.mapIdx numW)[i]? = some w := hw
  rw [List.getElem?_mapIdx] at hw
  obtain ⟨u, hu, rfl⟩ := Option.map_eq_some_iff.mp hw
  obtain ⟨d, rfl⟩ := isDat_at hd hu
  obtain ⟨x, e1, e2⟩ := pair_at h2 hu
  refine ⟨⟨xs, x, h1, e1⟩, fun y H2 hy => ?_⟩
  obtain ⟨T, z, rfl, hT, rfl, hz⟩ := hy
  have := hz xs h1
  rw [e1] at this
  cases this
  obtain ⟨l2, r2, p2⟩ := numPair (i := i) r hT e2
  exact ⟨_, l2, rfl, r2, p2⟩
theorem isIt_enumT {a : Addr} {ws : List W} (hd : isDat ws = true) (h : ∀ c1 H1, Lx c c1 → Rel K c1 H1 → ∃ xs, SqT K H1 a xs ∧ Paired (RepW K c1.G c1.ρ) ws xs) : IsIt K c (IteT K a) ⟨ws.mapIdx numW, none⟩ := fun c1 H1 l r o i => by
  obtain ⟨xs, h1, h2⟩ := h c1 H1 l r
  refine ⟨fun w hw => ?_, fun hl => ⟨xs, h1, by rw [← h2.length]; simpa using hl⟩⟩
  have hw : (ws.mapIdx numW)[i]? = some w := hw
  rw [List.getElem?_mapIdx] at hw
  obtain ⟨u, hu, rfl⟩ := Option.map_eq_some_iff.mp hw
  obtain ⟨d, rfl⟩ := isDat_at hd hu
  obtain ⟨x, e1, e2⟩ := pair_at h2 hu
  refine ⟨⟨xs, x, h1, e1⟩, fun y H2 hy => ?_⟩
  obtain ⟨T, z, rfl, hT, rfl, hz⟩ := hy
  have := hz xs h1
  rw [e1] at this
  cases this
  obtain ⟨l2, r2, p2⟩ := numPair (i := i) r hT e2
  exact ⟨_, l2, rfl, r2, p2⟩
/-- where the items stand -/
theorem wWk_ok {R : Wk → Cf → Hp → Prop} (rel : Rel K c H) (rv : RepW K c.G c.ρ w v) (p : Post K E c R (wWk w c.O)) : ∃ a k, v = .ref a ∧ R k c H ∧
    ((∀ c1 H1, Lx c c1 → Rel K c1 H1 → k.ok c1.O → ∃ xs, SqL K H1 a xs ∧ Paired (RepW K c1.G c1.ρ) k.ws xs) ∨ (k.own = none ∧ ∀ c1 H1, Lx c c1 → Rel K c1 H1 → ∃ xs, SqT K H1 a xs ∧ Paired (RepW K c1.G c1.ρ) k.ws xs)) ∧ k.ok c.O ∧ isDat k.ws = true := by
  unfold wWk at p
  cases w with
  | d d =>
    cases d with
    | tup ds =>
      have rv' : Rep K c.G (.tup ds) v := rv
      unfold Rep at rv'
      obtain ⟨a, xs, rfl, h1, h2, h3⟩ := rv'
      exact ⟨a, _, rfl, Post.here p rel, .inr ⟨rfl, fun c1 H1 l r => ⟨xs, .of ((l.ex.tr r.ex) _ _ h1), repsW_map (Reps.mono l.ex _ _ h3)⟩⟩, trivial, isDat_map _⟩
    | lst ds =>
      have rv' : Rep K c.G (.lst ds) v := rv
      unfold Rep at rv'
      obtain ⟨a, xs, rfl, h1, h2, h3⟩ := rv'
      exact ⟨a, _, rfl, Post.here p rel, .inl fun c1 H1 l r _ => ⟨xs, .of ((l.ex.tr r.ex) _ _ h1), repsW_map (Reps.mono l.ex _ _ h3)⟩, trivial, isDat_map _⟩
    | scr ns =>
      have rv' : Rep K c.G (.scr ns) v := rv
      unfold Rep at rv'
      obtain ⟨a, rfl, h1⟩ := rv'
      refine ⟨a, _, rfl, Post.here p rel, .inl fun c1 H1 l r _ => ⟨_, sql_mono (l.ex.tr r.ex) h1, ?_⟩, trivial, ?_⟩
      · have : (ns.map fun n => W.d (.int n)) = (ns.map D.int).map W.d := by rw [List.map_map]; rfl
        show Paired _ (ns.map fun n => W.d (.int n)) _
        rw [this]
        exact repsW_map (Reps.of_ints ns)
      · have : (ns.map fun n => W.d (.int n)) = (ns.map D.int).map W.d := by rw [List.map_map]; rfl
        show isDat (ns.map fun n => W.d (.int n)) = true
        rw [this]; exact isDat_map _
    | _ => exact p.no
  | own k =>
    cases q : c.O[k]? with
    | none => simp only [q] at p; exact p.no
    | some m =>
      cases m with
      | lst ds =>
        simp only [q] at p
        obtain ⟨a, ha, rfl⟩ := rv
        refine ⟨a, _, rfl, Post.here p rel, .inl fun c1 H1 l r o => ?_, q, isDat_map _⟩
        have o : c1.O[k]? = some (.lst ds) := o
        obtain ⟨_, _, o', ho, xs, hx, h4, h3⟩ := r.live k _ a o (l.pre _ _ ha) (by intro z; cases z)
        subst hx
        exact ⟨xs, .of ho, repsW_map h4⟩
      | _ => simp only [q] at p; exact p.no
section
variable {X : Cx} {tg e : Expr} {d : DE}
theorem lx_rfl : Lx c c := ⟨Ext.rfl, fun _ _ h => h⟩
theorem i_seq (he : PE X e (VT X.K E d)) : PI X tg e (VI X.K E (dIt d)) := (pi_seq he).imp fun σ H R h => by
  obtain ⟨c, Γ, rel, env, p⟩ := h
  refine ⟨c, Γ, rel, env, (Post.bind p).mono fun w c1 H1 l1 rel1 p1 v rv => ?_⟩
  obtain ⟨a, k, rfl, p2, hs, hk, _⟩ := wWk_ok rel1 rv p1
  refine ⟨a, rfl, ?_⟩
  rcases hs with hs | ⟨ho, hs⟩
  · obtain ⟨xs, h1, _⟩ := hs c1 H1 lx_rfl rel1 hk
    exact .inl ⟨⟨xs, h1⟩, p2 _ (isIt_list hs)⟩
  · obtain ⟨xs, h1, _⟩ := hs c1 H1 lx_rfl rel1
    exact .inr ⟨⟨xs, h1⟩, p2 _ (isIt_tup fun c2 H2 l r _ => hs c2 H2 l r)⟩
/-- enumerate(e) of data -/
def dEnum (d : DE) : DI := fun Γ => do
  let x ← d Γ
  let k ← wWk x
  match k.own with
  | none => pure ⟨k.ws.mapIdx numW, none⟩
  | some _ => M.no
theorem i_enum {p pos tpos : Pos} {elts : List Expr} {kk : Nat} (hg : Gl X "enumerate") (hm : X.mg "enumerate" = none) (he : PE X e (VT X.K E d)) (hs : starEach [e] X.env = [(false, eval e X.env)] := by rfl) :
    PI X (.Tuple elts kk tpos) (.Call (.Name "enumerate" p) [e] [] pos) (VI X.K E (dEnum d)) := (pi_enumS hg hm (pa_cons he pa_nil (by rw [hs]; rfl)) hs).imp fun σ H R h => by
  obtain ⟨c, Γ, rel, env, p⟩ := h
  refine ⟨c, Γ, rel, env, (Post.bind p).mono fun w c1 H1 l1 rel1 p1 v rv => ?_⟩
  obtain ⟨a, k, rfl, p2, hs, hk, hd⟩ := wWk_ok rel1 rv (Post.bind p1)
  refine ⟨a, rfl, ?_⟩
  cases eo : k.own with
  | some z => simp only [eo] at p2; exact p2.no
  | none =>
    simp only [eo] at p2
    have p3 := Post.here p2 rel1
    rcases hs with hs | ⟨ho, hs⟩
    · obtain ⟨xs, h1, _⟩ := hs c1 H1 lx_rfl rel1 hk
      refine .inl ⟨⟨xs, h1⟩, p3 _ (isIt_enumL hd fun c2 H2 l r => hs c2 H2 l r ?_)⟩
      unfold Wk.ok
      rw [eo]; trivial
    · obtain ⟨xs, h1, _⟩ := hs c1 H1 lx_rfl rel1
      exact .inr ⟨⟨xs, h1⟩, p3 _ (isIt_enumT hd hs)⟩
/-! ranges -/
def small62 (i : Int) : Prop := -(2 ^ 62) ≤ i ∧ i < 2 ^ 62
noncomputable instance (i : Int) : Decidable (small62 i) := Classical.propDecidable _
def rng (lo c : Int) (n : Nat) : Wk := ⟨(List.range n).map fun i => .d (.int (lo + (i : Nat) * c)), none⟩
noncomputable def dRange1 (a : DA) : DI := fun Γ => do
  let ws ← a Γ
  match ws with
  | [.d (.int j)] => if small62 j then pure (rng 0 1 j.toNat) else M.no
  | _ => M.no
noncomputable def dRange2 (a : DA) : DI := fun Γ => do
  let ws ← a Γ
  match ws with
  | [.d (.int i), .d (.int j)] => if small62 i ∧ small62 j then pure (rng i 1 (j - i).toNat) else M.no
  | _ => M.no
def StepC (i j c : Int) : Prop := (0 < c ∧ c < 1073741824) ∧ (0 ≤ i ∧ i < 2 ^ 62) ∧ (0 ≤ j ∧ j < 2 ^ 62)
noncomputable instance (i j c : Int) : Decidable (StepC i j c) := Classical.propDecidable _
/-- how many turns -/
def stepN (i j c : Int) : Nat := if i < j then ((j - i - 1) / c + 1).toNat else 0
noncomputable def dRange3 (a : DA) : DI := fun Γ => do
  let ws ← a Γ
  match ws with
  | [.d (.int i), .d (.int j), .d (.int c)] => if StepC i j c then pure (rng i c (stepN i j c)) else M.no
  | _ => M.no
theorem stepC_ok {i j c : Int} (h : StepC i j c) : RgC i j c (stepN i j c) := by
  obtain ⟨⟨h1, h2⟩, ⟨h3, h4⟩, h5, h6⟩ := h
  have e : Builtin.Range.rangeSize i j c = (stepN i j c : Int) := by
    unfold Builtin.Range.rangeSize stepN
    rw [if_pos h1]
    by_cases q : i < j
    · rw [if_pos q, if_pos q]
      have : 0 ≤ (j - i - 1) / c := Int.ediv_nonneg (by omega) (by omega)
      omega
    · rw [if_neg q, if_neg q]; rfl
  have b : Builtin.Range.rangeSize i j c ≤ 2 ^ 62 := by
    unfold Builtin.Range.rangeSize
    rw [if_pos h1]
    by_cases q : i < j
    · rw [if_pos q]
      have : (j - i - 1) / c ≤ j - i - 1 := Int.ediv_le_self _ (by omega)
      omega
    · rw [if_neg q]; decide
  refine ⟨by omega, by omega, ?_, e⟩
  unfold Builtin.Range.small
  have h0 : 0 ≤ Builtin.Range.rangeSize i j c := by rw [e]; exact Int.natCast_nonneg _
  rw [if_pos h1]
  simp only [Builtin.Range.rangeFitsLong, Bool.and_eq_true, Bool.or_eq_true, decide_eq_true_eq, beq_iff_eq]
  clear e
  generalize Builtin.Range.rangeSize i j c = z at b h0 ⊢
  refine ⟨⟨⟨⟨?_, ?_⟩, ?_⟩, ?_⟩, .inr ?_⟩ <;> omega
theorem rng_at {lo c' : Int} {n i : Nat} {w : W} (h : (rng lo c' n).ws[i]? = some w) : i < n ∧ w = .d (.int (lo + (i : Nat) * c')) := by
  have h : ((List.range n).map fun i => W.d (.int (lo + (i : Nat) * c')))[i]? = some w := h
  rw [List.getElem?_map] at h
  obtain ⟨j, h1, h2⟩ := Option.map_eq_some_iff.mp h
  obtain ⟨h3, h4⟩ := List.getElem?_eq_some_iff.mp h1
  simp at h3 h4
  subst h4
  exact ⟨h3, h2.symm⟩
theorem isIt_rng {lo : Int} {n : Nat} : IsIt K c (Itr lo n) (rng lo 1 n) := fun c1 H1 l r o i => by
  refine ⟨fun w hw => ?_, fun hl => (by simpa [rng] using hl : n ≤ i)⟩
  obtain ⟨h1, rfl⟩ := rng_at hw
  refine ⟨h1, fun x H2 hy => ?_⟩
  obtain ⟨rfl, rfl⟩ := hy
  refine ⟨c1, .rfl, rfl, r, ?_⟩
  rw [Int.mul_one]
  exact rep_int
theorem isIt_rngC {lo c' : Int} {n : Nat} : IsIt K c (Itc lo c' n) (rng lo c' n) := fun c1 H1 l r o i => by
  refine ⟨fun w hw => ?_, fun hl => (by simpa [rng] using hl : n ≤ i)⟩
  obtain ⟨h1, rfl⟩ := rng_at hw
  refine ⟨h1, fun x H2 hy => ?_⟩
  obtain ⟨rfl, rfl⟩ := hy
  exact ⟨c1, .rfl, rfl, r, rep_int⟩
theorem i_range1 {a : Expr} {da : DA} {p pos : Pos} (hg : Gl X "range") (hm : X.mg "range" = none) (ha : PA X [a] (VA X.K E da)) (hs : starEach [a] X.env = [(false, eval a X.env)] := by rfl) : PI X tg (.Call (.Name "range" p) [a] [] pos) (VI X.K E (dRange1 da)) :=
  (pi_range1 hg hm ha hs).imp fun σ H R h => by
    obtain ⟨c, Γ, rel, env, p⟩ := h
    refine ⟨c, Γ, rel, env, (Post.bind p).mono fun ws c1 H1 l1 rel1 p1 vs rvs => ?_⟩
    split at p1
    · rename_i j
      obtain ⟨v, rfl, rv⟩ := repsW1 rvs
      rw [rw_int rv]
      by_cases hj : small62 j
      · rw [if_pos hj] at p1
        exact ⟨j, rfl, hj.1, hj.2, Post.here p1 rel1 _ isIt_rng⟩
      · rw [if_neg hj] at p1; exact p1.no
    · exact p1.no
theorem i_range2 {a b : Expr} {da : DA} {p pos : Pos} (hg : Gl X "range") (hm : X.mg "range" = none) (ha : PA X [a, b] (VA X.K E da)) (hs : starEach [a, b] X.env = [(false, eval a X.env), (false, eval b X.env)] := by rfl) (hs2 : starEach [b] X.env = [(false, eval b X.env)] := by rfl) :
    PI X tg (.Call (.Name "range" p) [a, b] [] pos) (VI X.K E (dRange2 da)) :=
  (pi_range2 hg hm ha hs hs2).imp fun σ H R h => by
    obtain ⟨c, Γ, rel, env, p⟩ := h
    refine ⟨c, Γ, rel, env, (Post.bind p).mono fun ws c1 H1 l1 rel1 p1 vs rvs => ?_⟩
    split at p1
    · rename_i i j
      obtain ⟨v, z, rfl, rv, rz⟩ := repsW2 rvs
      rw [rw_int rv, rw_int rz]
      by_cases hj : small62 i ∧ small62 j
      · rw [if_pos hj] at p1
        exact ⟨i, j, rfl, ⟨hj.1.1, hj.1.2, hj.2.1, hj.2.2⟩, Post.here p1 rel1 _ isIt_rng⟩
      · rw [if_neg hj] at p1; exact p1.no
    · exact p1.no
theorem i_range3 {a b c : Expr} {da : DA} {p pos : Pos} (hg : Gl X "range") (hm : X.mg "range" = none) (ha : PA X [a, b, c] (VA X.K E da)) (hs : starEach [a, b, c] X.env = (false, eval a X.env) :: starEach [b, c] X.env := by rfl) (hpl : (backTo pos (starEach [b, c] X.env)).any (·.1) = false := by rfl) :
    PI X tg (.Call (.Name "range" p) [a, b, c] [] pos) (VI X.K E (dRange3 da)) :=
  (pi_range3 hg hm ha hs hpl).imp fun σ H R h => by
    obtain ⟨c, Γ, rel, env, p⟩ := h
    refine ⟨c, Γ, rel, env, (Post.bind p).mono fun ws c1 H1 l1 rel1 p1 vs rvs => ?_⟩
    split at p1
    · rename_i i j k
      cases rvs with
      | cons r1 t =>
        obtain ⟨v, z, rfl, rv, rz⟩ := repsW2 t
        rw [rw_int r1, rw_int rv, rw_int rz]
        by_cases hj : StepC i j k
        · rw [if_pos hj] at p1
          exact ⟨i, j, k, _, rfl, stepC_ok hj, Post.here p1 rel1 _ isIt_rngC⟩
        · rw [if_neg hj] at p1; exact p1.no
    · exact p1.no
end

/-! ### for, while -/
noncomputable def loopW (k : Wk) (p : Pt) (b : DS) : List W → DS
  | [], Γ => fun O => if k.ok O then .ok (.nx, Γ) O else .no
  | w :: ws, Γ => fun O => if k.ok O then (match bindW p w Γ with
      | none => .no
      | some Γ1 => ((b Γ1 >>= fun r => match r.1 with
        | .nx => loopW k p b ws r.2
        | .ct => loopW k p b ws r.2
        | .bk => pure (.nx, r.2)
        | .rt v => pure (.rt v, r.2)) : M (Fl × Gam)) O) else .no
noncomputable def dFor (i : DI) (p : Pt) (b : DS) : DS := fun Γ => do
  let k ← i Γ
  loopW k p b k.ws Γ
section
variable {X : Cx} {tg iter : Expr} {body : List Stmt} {pos : Pos}
theorem v_for {di : DI} {p : Pt} {b : DS} {D : Ends} {σ : L2.St} {H : Hp} (h : VS K E (dFor di p b) D σ H) : tFor (VI K E di) (gP K p) (VS K E b) D σ H := by
  obtain ⟨c, Γ, rel, env, q⟩ := h
  refine ⟨c, Γ, rel, env, (Post.bind q).mono fun k c1 H1 l1 rel1 p1 J hJ => ?_⟩
  refine ⟨fun i m σ' H' => m = k.ws.length - i ∧ i ≤ k.ws.length ∧ ∃ c2 Γ2, Le c1 c2 ∧ Rel K c2 H' ∧ REnv K c2.G c2.ρ Γ2 σ' ∧ Post K E c2 (EndP K D) (loopW k p b (k.ws.drop i) Γ2 c2.O), ⟨_, rfl, Nat.zero_le _, c1, Γ, .rfl, rel1, env.le l1, by simpa using p1⟩, ?_⟩
  rintro i m σ' H' ⟨rfl, hi, c2, Γ2, l2, rel2, env2, q2⟩
  by_cases hlt : i < k.ws.length
  · have hd : k.ws.drop i = k.ws[i] :: k.ws.drop (i + 1) := List.drop_eq_getElem_cons hlt
    rw [hd] at q2
    have q2 : Post K E c2 (EndP K D) (if k.ok c2.O then _ else .no) := q2
    by_cases ho : k.ok c2.O
    · rw [if_pos ho] at q2
      obtain ⟨go, yl⟩ := (hJ c2 H' l2.x rel2 ho i).1 k.ws[i] (List.getElem?_eq_getElem hlt)
      refine .inr ⟨go, fun σ3 H3 => ∃ c4 Γ4, Le c1 c4 ∧ Rel K c4 H3 ∧ REnv K c4.G c4.ρ Γ4 σ3 ∧ Post K E c4 (EndP K D) (loopW k p b (k.ws.drop (i + 1)) Γ4 c4.O), fun σ3 H3 z => ⟨k.ws.length - (i + 1), by omega, rfl, hlt, z⟩, fun x H3 hy => ?_⟩
      obtain ⟨c3, l3, e3, rel3, rp⟩ := yl x H3 hy
      cases eb : bindW p k.ws[i] Γ2 with
      | none => simp only [eb] at q2; exact q2.no
      | some Γ3 =>
        simp only [eb] at q2
        refine gW_ok rel3 (env2.le l3) rp eb fun σ4 env4 _ => ?_
        have q3 := (Post.bind q2).up l3
        rw [← e3] at q3
        refine ⟨c3, Γ3, rel3, env4, q3.mono fun r c4 H4 l4 rel4 q4 => ?_⟩
        obtain ⟨fl, Γ4⟩ := r
        cases fl with
        | nx => exact fun σ5 env5 => ⟨c4, Γ4, (l2.tr l3).tr l4, rel4, env5, q4⟩
        | ct => exact fun σ5 env5 => ⟨c4, Γ4, (l2.tr l3).tr l4, rel4, env5, q4⟩
        | bk =>
          have z : EndP K D (.nx, Γ4) c4 H4 := Post.here q4 rel4
          exact z
        | rt v =>
          have z : EndP K D (.rt v, Γ4) c4 H4 := Post.here q4 rel4
          exact z
    · rw [if_neg ho] at q2; exact q2.no
  · have e : i = k.ws.length := by omega
    subst e
    rw [List.drop_length] at q2
    have q2 : Post K E c2 (EndP K D) (if k.ok c2.O then .ok (.nx, Γ2) c2.O else .no) := q2
    by_cases ho : k.ok c2.O
    · rw [if_pos ho] at q2
      have z : EndP K D (.nx, Γ2) c2 H' := Post.here q2 rel2
      exact .inl ⟨(hJ c2 H' l2.x rel2 ho _).2 (Nat.le_refl _), z σ' env2⟩
    · rw [if_neg ho] at q2; exact q2.no
theorem c_for {di : DI} {p : Pt} {b : DS} (hp : PassesOwn (model X.prog X.w) X.A X.env X.xe) (hc : X.calm = true) (hi : PI X tg iter (VI X.K E di)) (hg : PG X tg (gP X.K p)) (hb : PSs X body (VS X.K E b)) (hs : ∀ x, foldedSetIterable iter X.env x = pure x := by intro _; rfl) :
    PS X (.For tg iter body [] pos) (VS X.K E (dFor di p b)) := (ps_for hp hc hi hg hb hs).imp fun _ _ _ => v_for
/-- so many turns at most -/
def whileN (t : DT) (b : DS) : Nat → DS
  | 0, _ => M.no
  | n + 1, Γ => do
    let k ← t Γ
    if k then do
      let r ← b Γ
      match r.1 with
      | .nx => whileN t b n r.2
      | .ct => whileN t b n r.2
      | .bk => pure (.nx, r.2)
      | .rt v => pure (.rt v, r.2)
    else pure (.nx, Γ)
/-- a while, the number of turns by the state at its start -/
def dWhile (f : Gam → Sto → Nat) (t : DT) (b : DS) : DS := fun Γ O => whileN t b (f Γ O) Γ O
theorem v_while {f : Gam → Sto → Nat} {t : DT} {b : DS} {D : Ends} {σ : L2.St} {H : Hp} (h : VS K E (dWhile f t b) D σ H) : tWhile (VB K E t) (VS K E b) D σ H := by
  obtain ⟨c, Γ, rel, env, q⟩ := h
  refine ⟨fun m σ' H' => ∃ c2 Γ2, Rel K c2 H' ∧ REnv K c2.G c2.ρ Γ2 σ' ∧ Post K E c2 (EndP K D) (whileN t b m Γ2 c2.O), ⟨_, c, Γ, rel, env, q⟩, ?_⟩
  rintro m σ' H' ⟨c2, Γ2, rel2, env2, q2⟩
  cases m with
  | zero => exact False.elim q2
  | succ m =>
    refine ⟨c2, Γ2, rel2, env2, (Post.bind q2).mono fun k c3 H3 l3 rel3 q3 => ?_⟩
    cases k with
    | false =>
      rw [if_neg (by decide)] at q3 ⊢
      have z : EndP K D (.nx, Γ2) c3 H3 := Post.here q3 rel3
      exact z σ' (env2.le l3)
    | true =>
      rw [if_pos rfl] at q3 ⊢
      refine ⟨fun σ4 H4 => ∃ c5 Γ5, Rel K c5 H4 ∧ REnv K c5.G c5.ρ Γ5 σ4 ∧ Post K E c5 (EndP K D) (whileN t b m Γ5 c5.O), fun σ4 H4 z => ⟨m, Nat.lt_succ_self m, z⟩, ?_⟩
      refine ⟨c3, Γ2, rel3, env2.le l3, (Post.bind q3).mono fun r c4 H4 l4 rel4 q4 => ?_⟩
      obtain ⟨fl, Γ4⟩ := r
      cases fl with
      | nx => exact fun σ5 env5 => ⟨c4, Γ4, rel4, env5, q4⟩
      | ct => exact fun σ5 env5 => ⟨c4, Γ4, rel4, env5, q4⟩
      | bk =>
        have z : EndP K D (.nx, Γ4) c4 H4 := Post.here q4 rel4
        exact z
      | rt v =>
        have z : EndP K D (.rt v, Γ4) c4 H4 := Post.here q4 rel4
        exact z
theorem c_while {t : Expr} {dt : DT} {f : Gam → Sto → Nat} {b : DS} (hp : PassesOwn (model X.prog X.w) X.A X.env X.xe) (hc : PT X t (VB X.K E dt)) (hb : PSs X body (VS X.K E b)) : PS X (.While t body [] pos) (VS X.K E (dWhile f dt b)) := (ps_while hp hc hb).imp fun _ _ _ => v_while
end

/-! ### comprehensions -/
abbrev EF : XK := fun _ _ _ => False
/-- nothing is raised in it -/
def calm {α : Type} (m : M α) : M α := fun O => match m O with
  | .ex _ _ => .no
  | o => o
@[simp] theorem calm_at {α : Type} (m : M α) (O : Sto) : calm m O = match m O with
  | .ex _ _ => .no
  | o => o := rfl
theorem Post.calm {R : α → Cf → Hp → Prop} {m : M α} {O : Sto} (p : Post K E c R (calm m O)) : Post K EF c R (m O) := by
  unfold VL.calm at p
  cases e : m O with
  | ok a O' => rw [e] at p; exact p
  | ex x O' => rw [e] at p; exact p.no
  | no => rw [e] at p; exact p
noncomputable def lcW (k : Wk) (p : Pt) (t : DT) (e : DE) (Γ : Gam) : List W → List D → M (List D)
  | [], ds => fun O => if k.ok O then .ok ds O else .no
  | w :: ws, ds => fun O => if k.ok O then (match bindW p w Γ with
      | none => .no
      | some Γ1 => ((calm (t Γ1) >>= fun b => if b then (calm (e Γ1) >>= fun x => match x with
          | .d d => if ds.length < sizeLine then lcW k p t e Γ ws (ds ++ [d]) else M.no
          | .own _ => M.no) else lcW k p t e Γ ws ds) : M (List D)) O) else .no
noncomputable def dLc (i : DI) (p : Pt) (t : DT) (e : DE) (vs : List Nat) : Gam → M (List D) := fun Γ => do
  let k ← i Γ
  lcW k p t e (wipeG Γ vs) k.ws []
/-- the list is known for ever; is to change -/
noncomputable def dLcD (i : DI) (p : Pt) (t : DT) (e : DE) (vs : List Nat) : DE := fun Γ => do
  let ds ← dLc i p t e vs Γ
  pure (.d (.lst ds))
noncomputable def dLcO (i : DI) (p : Pt) (t : DT) (e : DE) (vs : List Nat) : DE := fun Γ => do
  let ds ← dLc i p t e vs Γ
  M.push (.lst ds)
def dYes : DT := fun _ => pure true
theorem v_lc {di : DI} {p : Pt} {t : DT} {e : DE} {vs : List Nat} {σ : L2.St} {H : Hp} {Q : VK} (hp : ∀ i ∈ p.ixs, i ∈ vs) {Γ : Gam} (rel : Rel K c H) (env : REnv K c.G c.ρ Γ σ) {R : List D → Cf → Hp → Prop} (q : Post K E c R (dLc di p t e vs Γ c.O))
    (fin : ∀ (ds : List D) (c1 : Cf) (c2 : Cf) (H2 : Hp) (D : Addr) (xs : List V), Le c c1 → c2.F = upd c.F D (.lst xs) → c.F D = none → Lx c1 c2 → Rel K c2 H2 → Reps K c2.G ds xs → xs.length ≤ sizeLine → R ds (c2.un c.F) H2 → Q (.ref D) H2) :
    tLc (VI K E di) (gP K p) (VB K EF t) (VT K EF e) vs σ H Q := by
  refine ⟨c, Γ, rel, env, (Post.bind q).mono fun k c1 H1 l1 rel1 q1 J hJ D hD => ?_⟩
  have fD : c1.F D = none := rel1.fnone hD
  have fF : c1.F = c.F := l1.fr.symm
  have hF : ∀ {c2 : Cf} {xs : List V}, c2.F = upd c1.F D (.lst xs) → ∀ a u, c.F a = some u → c2.F a = some u := fun {c2 xs} e a u z => by
    rw [← fF] at z
    rw [e, upd_ne (ne_of_none z fD)]; exact z
  refine ⟨fun i m H' => m = k.ws.length - i ∧ i ≤ k.ws.length ∧ ∃ c2 ds xs, Lx c1 c2 ∧ c2.F = upd c1.F D (.lst xs) ∧ Rel K c2 H' ∧ Reps K c2.G ds xs ∧ xs.length ≤ sizeLine ∧ Post K E (c2.un c.F) R (lcW k p t e (wipeG Γ vs) (k.ws.drop i) ds c2.O),
    ⟨_, rfl, Nat.zero_le _, c1.hide D (.lst []), [], [], ⟨Ext.rfl, fun _ _ h => h⟩, rfl, rel1.hide hD, reps_nil.mpr rfl, Nat.zero_le _, ?_⟩, ?_⟩
  · have eu : (c1.hide D (.lst [])).un c.F = c1 := by rw [← fF]; rfl
    rw [eu]
    show Post K E c1 R (lcW k p t e (wipeG Γ vs) (k.ws.drop 0) [] c1.O)
    simpa using q1
  rintro i m H' ⟨rfl, hi, c2, ds, xs, l2, ef, rel2, rd, hz, q2⟩
  by_cases hlt : i < k.ws.length
  · have hd : k.ws.drop i = k.ws[i] :: k.ws.drop (i + 1) := List.drop_eq_getElem_cons hlt
    rw [hd] at q2
    have q2 : Post K E (c2.un c.F) R (if k.ok c2.O then _ else .no) := q2
    by_cases ho : k.ok c2.O
    · rw [if_pos ho] at q2
      obtain ⟨go, yl⟩ := (hJ c2 H' l2 rel2 ho i).1 k.ws[i] (List.getElem?_eq_getElem hlt)
      refine .inr ⟨go, fun H3 => ∃ c2 ds xs, Lx c1 c2 ∧ c2.F = upd c1.F D (.lst xs) ∧ Rel K c2 H3 ∧ Reps K c2.G ds xs ∧ xs.length ≤ sizeLine ∧ Post K E (c2.un c.F) R (lcW k p t e (wipeG Γ vs) (k.ws.drop (i + 1)) ds c2.O), fun H3 z => ⟨k.ws.length - (i + 1), by omega, rfl, hlt, z⟩, fun x H3 hy => ?_⟩
      obtain ⟨c3, l3, e3, rel3, rp⟩ := yl x H3 hy
      have ef3 : c3.F = upd c1.F D (.lst xs) := by rw [← l3.fr]; exact ef
      cases eb : bindW p k.ws[i] (wipeG Γ vs) with
      | none => simp only [eb] at q2; exact q2.no
      | some Γ3 =>
        simp only [eb] at q2
        have envw : REnv K c3.G c3.ρ (wipeG Γ vs) (L2.wipe σ vs) := by
          have e0 := (env.le l1)
          have e1 : REnv K c3.G c3.ρ Γ σ := ⟨e0.len, fun j u hj => let ⟨v, a1, a2⟩ := e0.at_ j u hj; ⟨v, a1, a2.mono (l2.ex.tr l3.ex) fun n a z => l3.pre n a (l2.pre n a z)⟩⟩
          exact e1.wipe vs
        refine gW_ok rel3 envw rp eb fun σ4 env4 w4 => ?_
        refine ⟨by rw [w4 vs hp]; exact wipe_wipe vs vs σ fun _ h => h, ?_⟩
        have lu : Le (c2.un c.F) (c3.un c.F) := l3.un
        have q3 := (Post.bind q2).up lu
        have eO : c2.O = c3.O := e3.symm
        rw [eO] at q3
        refine ⟨c3, Γ3, rel3, env4, (Post.hid (hF ef3) (Post.calm q3)).mono fun b c4 H4 l4 rel4 q4 => ?_⟩
        have ef4 : c4.F = upd c1.F D (.lst xs) := by rw [← l4.fr]; exact ef3
        cases b with
        | false =>
          rw [if_neg (by decide)] at q4
          refine iteF ?_
          exact ⟨c4, ds, xs, (l2.tr l3.x).tr l4.x, ef4, rel4, Reps.mono (l3.ex.tr l4.ex) _ _ rd, hz, q4⟩
        | true =>
          rw [if_pos rfl] at q4
          refine iteT ?_
          refine ⟨c4, Γ3, rel4, env4.le l4, (Post.hid (hF ef4) (Post.calm (Post.bind q4))).mono fun y c5 H5 l5 rel5 q5 v rv => ?_⟩
          have ef5 : c5.F = upd c1.F D (.lst xs) := by rw [← l5.fr]; exact ef4
          have f5 : c5.F D = some (.lst xs) := by rw [ef5]; exact upd_same
          cases y with
          | own _ => exact q5.no
          | d d =>
            have q5 : Post K E (c5.un c.F) R ((if ds.length < sizeLine then lcW k p t e (wipeG Γ vs) (k.ws.drop (i + 1)) (ds ++ [d]) else M.no) c5.O) := q5
            by_cases hl : ds.length < sizeLine
            · rw [if_pos hl] at q5
              have rd5 := Reps.mono ((l3.ex.tr l4.ex).tr l5.ex) _ _ rd
              rw [rd.length] at hl
              refine ⟨xs, (rel5.fr D _ f5).1, hl, c5.hide D (.lst (xs ++ [v])), ds ++ [d], xs ++ [v], ?_, ?_, rel5.hid f5, rd5.append (.one rv), by rw [List.length_append]; exact hl, ?_⟩
              · exact ((l2.tr l3.x).tr l4.x).tr ⟨l5.ex, l5.pre⟩
              · show upd c5.F D _ = _
                rw [ef5, upd_upd]
              · exact q5
            · rw [if_neg hl] at q5; exact q5.no
    · rw [if_neg ho] at q2; exact q2.no
  · have en : i = k.ws.length := by omega
    subst en
    rw [List.drop_length] at q2
    have q2 : Post K E (c2.un c.F) R (if k.ok c2.O then .ok ds c2.O else .no) := q2
    by_cases ho : k.ok c2.O
    · rw [if_pos ho] at q2
      refine .inl ⟨(hJ c2 H' l2 rel2 ho _).2 (Nat.le_refl _), ?_⟩
      have relu : Rel K (c2.un c.F) H' := rel2.un (hF ef)
      exact fin ds c1 c2 H' D xs l1 (by rw [ef, fF]) (by rw [← fF]; exact fD) l2 rel2 rd hz (Post.here (c := c2.un c.F) q2 relu)
    · rw [if_neg ho] at q2; exact q2.no
theorem v_lcD {di : DI} {p : Pt} {t : DT} {e : DE} {vs : List Nat} {σ : L2.St} {H : Hp} {Q : VK} (hp : ∀ i ∈ p.ixs, i ∈ vs) (h : VT K E (dLcD di p t e vs) σ H Q) : tLc (VI K E di) (gP K p) (VB K EF t) (VT K EF e) vs σ H Q := by
  obtain ⟨c, Γ, rel, env, q⟩ := h
  refine v_lc hp rel env (Post.bind q) fun ds c1 c2 H2 D xs l1 ef fD l2 rel2 rd hz q2 => ?_
  have f2 : c2.F D = some (.lst xs) := by rw [ef]; exact upd_same
  have rel3 := rel2.show_ (F := c.F) (p := D) (o := .lst xs) f2 fun a u z => by
    have ne : a ≠ D := ne_of_none z fD
    exact ⟨ne, by rw [ef, upd_ne ne]; exact z⟩
  refine q2 (c2.show_ c.F D (.lst xs)) H2 ⟨upd_ext (rel2.fr D _ f2).2, fun _ _ h => h, rfl⟩ rfl rel3 _ ?_
  show Rep K (upd c2.G D (.lst xs)) (.lst ds) _
  unfold Rep
  exact ⟨D, xs, rfl, upd_same, hz, Reps.mono (upd_ext (rel2.fr D _ f2).2) _ _ rd⟩
theorem v_lcO {di : DI} {p : Pt} {t : DT} {e : DE} {vs : List Nat} {σ : L2.St} {H : Hp} {Q : VK} (hp : ∀ i ∈ p.ixs, i ∈ vs) (h : VT K E (dLcO di p t e vs) σ H Q) : tLc (VI K E di) (gP K p) (VB K EF t) (VT K EF e) vs σ H Q := by
  obtain ⟨c, Γ, rel, env, q⟩ := h
  refine v_lc hp rel env (Post.bind q) fun ds c1 c2 H2 D xs l1 ef fD l2 rel2 rd hz q2 => ?_
  have f2 : c2.F D = some (.lst xs) := by rw [ef]; exact upd_same
  have rel3 := rel2.give (F := c.F) (p := D) (o := .lst xs) (m := .lst ds) f2 (fun a u z => by
    have ne : a ≠ D := ne_of_none z fD
    exact ⟨ne, by rw [ef, upd_ne ne]; exact z⟩) ⟨xs, rfl, rd, hz⟩ trivial
  refine q2 (c2.give c.F D (.lst ds)) H2 ⟨Ext.rfl, pre_app, rfl⟩ rfl rel3 _ ⟨D, ?_, rfl⟩
  show (c2.ρ ++ [D])[c2.O.length]? = some D
  rw [← rel2.len]; simp
section
variable {X : Cx} {elt tg iter : Expr} {ifs : List Expr} {scope : Scope} {own : List (Str × Nat)} {pos : Pos} {di : DI} {p : Pt} {t : DT} {e : DE}
theorem ts_nil : PTs X [] (VB X.K EF dYes) := ⟨fun pins s σ H Q I h => pts_nil.run pins s σ H Q I (by
  obtain ⟨c, Γ, rel, env, q⟩ := h
  exact Post.here q rel)⟩
theorem ts_one {c : Expr} (h : PT X c (VB X.K EF t)) : PTs X [c] (VB X.K EF t) := pts_one h
theorem c_lc (hc : X.calm = true) (hN : X.N.Nodup) (hi : PI X tg iter (VI X.K E di)) (ok : BlkOk X.N X.env.scope scope own)
    (hg : ∀ (s : Shared) (H : Hp) (C : Addr) (cl : List (Str × Addr)) (fp : List Addr), PG (X.blk s H scope (compEnvC scope cl C X.env) fp) tg (gP X.K p)) (ht : ∀ (s : Shared) (H : Hp) (C : Addr) (cl : List (Str × Addr)) (fp : List Addr), PTs (X.blk s H scope (compEnvC scope cl C X.env) fp) ifs (VB X.K EF t))
    (he : ∀ (s : Shared) (H : Hp) (C : Addr) (cl : List (Str × Addr)) (fp : List Addr), PE (X.blk s H scope (compEnvC scope cl C X.env) fp) elt (VT X.K EF e)) (hp : ∀ i ∈ p.ixs, i ∈ own.map (·.2) := by decide) (hs : ∀ x, foldedSetIterable iter X.env x = pure x := by intro _; rfl) :
    PE X (.ListComp elt [⟨tg, iter, ifs, 0⟩] scope pos) (VT X.K E (dLcD di p t e (own.map (·.2)))) := (pe_lc hc hN hi ok hg ht he hs).imp fun _ _ _ => v_lcD hp
theorem c_lcO (hc : X.calm = true) (hN : X.N.Nodup) (hi : PI X tg iter (VI X.K E di)) (ok : BlkOk X.N X.env.scope scope own)
    (hg : ∀ (s : Shared) (H : Hp) (C : Addr) (cl : List (Str × Addr)) (fp : List Addr), PG (X.blk s H scope (compEnvC scope cl C X.env) fp) tg (gP X.K p)) (ht : ∀ (s : Shared) (H : Hp) (C : Addr) (cl : List (Str × Addr)) (fp : List Addr), PTs (X.blk s H scope (compEnvC scope cl C X.env) fp) ifs (VB X.K EF t))
    (he : ∀ (s : Shared) (H : Hp) (C : Addr) (cl : List (Str × Addr)) (fp : List Addr), PE (X.blk s H scope (compEnvC scope cl C X.env) fp) elt (VT X.K EF e)) (hp : ∀ i ∈ p.ixs, i ∈ own.map (·.2) := by decide) (hs : ∀ x, foldedSetIterable iter X.env x = pure x := by intro _; rfl) :
    PE X (.ListComp elt [⟨tg, iter, ifs, 0⟩] scope pos) (VT X.K E (dLcO di p t e (own.map (·.2)))) := (pe_lc hc hN hi ok hg ht he hs).imp fun _ _ _ => v_lcO hp
theorem c_setLc {i : Nat} {y : Str} {py spos : Pos} (hc : X.calm = true) (hN : X.N.Nodup) (hy : X.N[i]? = some y) (hyl : X.env.scope.names.lookup y = some .local)
    (hsw : swapsWith (.ListComp elt [⟨tg, iter, ifs, 0⟩] scope pos) (some (.Name y py)) spos.line X.env = pure true) (hi : PI X tg iter (VI X.K E di)) (ok : BlkOk X.N X.env.scope scope own)
    (hg : ∀ (s : Shared) (H : Hp) (C : Addr) (cl : List (Str × Addr)) (fp : List Addr), PG (X.blk s H scope (compEnvC scope cl C X.env) fp) tg (gP X.K p)) (ht : ∀ (s : Shared) (H : Hp) (C : Addr) (cl : List (Str × Addr)) (fp : List Addr), PTs (X.blk s H scope (compEnvC scope cl C X.env) fp) ifs (VB X.K EF t))
    (he : ∀ (s : Shared) (H : Hp) (C : Addr) (cl : List (Str × Addr)) (fp : List Addr), PE (X.blk s H scope (compEnvC scope cl C X.env) fp) elt (VT X.K EF e)) (hp : ∀ i ∈ p.ixs, i ∈ own.map (·.2) := by decide) (hs : ∀ x, foldedSetIterable iter X.env x = pure x := by intro _; rfl) :
    PS X (.Assign [.Name y py] (.ListComp elt [⟨tg, iter, ifs, 0⟩] scope pos) spos) (VS X.K E (dSet i (dLcD di p t e (own.map (·.2))))) := (ps_setLc hc hN hy hyl hsw hi ok hg ht he hs).imp fun D σ H h => by
  have h2 := v_set h
  exact v_lcD hp h2
theorem c_setLcO {i : Nat} {y : Str} {py spos : Pos} (hc : X.calm = true) (hN : X.N.Nodup) (hy : X.N[i]? = some y) (hyl : X.env.scope.names.lookup y = some .local)
    (hsw : swapsWith (.ListComp elt [⟨tg, iter, ifs, 0⟩] scope pos) (some (.Name y py)) spos.line X.env = pure true) (hi : PI X tg iter (VI X.K E di)) (ok : BlkOk X.N X.env.scope scope own)
    (hg : ∀ (s : Shared) (H : Hp) (C : Addr) (cl : List (Str × Addr)) (fp : List Addr), PG (X.blk s H scope (compEnvC scope cl C X.env) fp) tg (gP X.K p)) (ht : ∀ (s : Shared) (H : Hp) (C : Addr) (cl : List (Str × Addr)) (fp : List Addr), PTs (X.blk s H scope (compEnvC scope cl C X.env) fp) ifs (VB X.K EF t))
    (he : ∀ (s : Shared) (H : Hp) (C : Addr) (cl : List (Str × Addr)) (fp : List Addr), PE (X.blk s H scope (compEnvC scope cl C X.env) fp) elt (VT X.K EF e)) (hp : ∀ i ∈ p.ixs, i ∈ own.map (·.2) := by decide) (hs : ∀ x, foldedSetIterable iter X.env x = pure x := by intro _; rfl) :
    PS X (.Assign [.Name y py] (.ListComp elt [⟨tg, iter, ifs, 0⟩] scope pos) spos) (VS X.K E (dSet i (dLcO di p t e (own.map (·.2))))) := (ps_setLc hc hN hy hyl hsw hi ok hg ht he hs).imp fun D σ H h => by
  have h2 := v_set h
  exact v_lcO hp h2
end
end
end VL


set_option maxRecDepth 100000
set_option maxHeartbeats 2000000
/-! The value layer: defs by what they compute, instances, items written. -/
namespace VL
open PySem L2 PyProof.Rows
section
variable {K : PySem.W.Frag} {E : XK} {c c' : Cf} {H : Hp} {v : V} {w : W} {α : Type}
theorem le_cut (l : Le c c') (r : Rel K c H) : Le c (c'.cut c.O.length) := ⟨l.ex, fun k a h => by
  have hk : k < c.O.length := by rw [← r.len]; exact (List.getElem?_eq_some_iff.mp h).1
  show (c'.ρ.take c.O.length)[k]? = some a
  rw [List.getElem?_take_of_lt hk]; exact l.pre k a h, l.fr⟩
/-- a def's body, run over its arguments: m more slots -/
def runB (m : Nat) (b : DS) (ws : List W) : M W := fun O => match b (ws.map some ++ List.replicate m none) O with
  | .ok (.nx, _) O' => .ok (.d .non) O'
  | .ok (.rt w, _) O' => .ok w O'
  | .ok _ _ => .no
  | .ex x O' => .ex x O'
  | .no => .no
/-- the store is as long as before; the value is data or stood before -/
def cutM (f : M W) : M W := fun O => match f O with
  | .ok (.d d) O' => .ok (.d d) (O'.take O.length)
  | .ok (.own k) O' => if k < O.length then .ok (.own k) (O'.take O.length) else .no
  | .ex x O' => .ex x (O'.take O.length)
  | .no => .no
def fnC (m : Nat) (b : DS) (ws : List W) : M W := cutM (runB m b ws)
theorem cut_post {f : M W} {R : W → Cf → Hp → Prop} (rel : Rel K c H) (hR : ∀ w c1 H1, R w (c1.cut c.O.length) H1 → (match w with | .d _ => True | .own k => k < c.O.length) → R w c1 H1) (p : Post K EF c R (cutM f c.O)) : Post K EF c R (f c.O) := by
  unfold cutM at p
  cases e : f c.O with
  | no => rw [e] at p; exact p.no
  | ex x O' =>
    rw [e] at p
    intro c' H' cls d l eo r xr
    refine p (c'.cut c.O.length) H' cls d (le_cut l rel) (by show c'.O.take _ = _; rw [eo]) (r.cut _) ?_
    obtain ⟨h1, h2⟩ := xr
    refine ⟨h1, ?_⟩
    cases q : x.fs with
    | none => rw [q] at h2; exact h2
    | some z => rw [q] at h2; exact h2
  | ok w O' =>
    rw [e] at p
    cases w with
    | d d => exact fun c' H' l eo r => hR _ c' H' (p (c'.cut c.O.length) H' (le_cut l rel) (by show c'.O.take _ = _; rw [eo]) (r.cut _)) trivial
    | own k =>
      have p : Post K EF c R (if k < c.O.length then .ok (.own k) (O'.take c.O.length) else .no) := p
      by_cases hk : k < c.O.length
      · rw [if_pos hk] at p
        exact fun c' H' l eo r => hR _ c' H' (p (c'.cut c.O.length) H' (le_cut l rel) (by show c'.O.take _ = _; rw [eo]) (r.cut _)) hk
      · rw [if_neg hk] at p; exact p.no
theorem run_post {b : DS} {m : Nat} {ws : List W} {Q : VK} (p : PW_ K EF c Q (runB m b ws c.O)) : Post K EF c (EndP K { nx := fun _ H' => Q .non H', rt := Q }) (b (ws.map some ++ List.replicate m none) c.O) := by
  unfold runB at p
  cases e : b (ws.map some ++ List.replicate m none) c.O with
  | no => rw [e] at p; exact p.no
  | ex x O' => rw [e] at p; exact p
  | ok r O' =>
    rw [e] at p
    obtain ⟨fl, Γ⟩ := r
    cases fl with
    | nx => exact fun c' H' l eo r σ env => p c' H' l eo r _ rep_non
    | rt w => exact fun c' H' l eo r v rv => p c' H' l eo r v rv
    | bk => exact p.no
    | ct => exact p.no
/-- a def's promise: f of n values, no exception -/
def sp0 (K : PySem.W.Frag) (n : Nat) (f : List W → M W) : Sp := fun vs H Q _ => ∃ c ws, Rel K c H ∧ RepsW K c.G c.ρ ws vs ∧ ws.length = n ∧ PW_ K EF c Q (f ws c.O)
theorem renv_start {ws : List W} {vs : List V} (r : RepsW K c.G c.ρ ws vs) (N : List Str) {m : Nat} (h : N.length - vs.length = m) : REnv K c.G c.ρ (ws.map some ++ List.replicate m none) (L2.start N vs) := by
  subst h
  have hl := r.length
  refine ⟨by unfold L2.start; simp [hl], fun i w h => ?_⟩
  unfold L2.start
  by_cases hi : i < ws.length
  · rw [List.getElem?_append_left (by simpa using hi), List.getElem?_map] at h
    cases e : ws[i]? with
    | none => rw [e] at h; cases h
    | some u =>
      rw [e] at h
      cases h
      obtain ⟨x, e1, e2⟩ := pair_at r e
      refine ⟨x, ?_, e2⟩
      rw [List.getElem?_append_left (by simpa [← hl] using hi), List.getElem?_map, e1]; rfl
  · rw [List.getElem?_append_right (by simpa using hi), List.getElem?_replicate] at h
    split at h <;> cases h
section
variable {P : Program} {wd : World} {mg : Str → Option Value} {base : Heap}
theorem body_C {b : DS} {m : Nat} {ws : List W} {Q : VK} (rel : Rel K c H) (p : PW_ K EF c Q (fnC m b ws c.O)) : PW_ K EF c Q (runB m b ws c.O) :=
  cut_post rel (fun w c1 H1 h hk v rv => h v (by
    cases w with
    | d d => exact rv
    | own k =>
      obtain ⟨a, h1, h2⟩ := rv
      refine ⟨a, ?_, h2⟩
      show (c1.ρ.take c.O.length)[k]? = some a
      rw [List.getElem?_take_of_lt hk]; exact h1)) p
/-- a def as it stands: how it binds (dws fills up), what it computes -/
structure Def0 (P : Program) (wd : World) (K : PySem.W.Frag) (mg : Str → Option Value) (base : Heap) (k : Nat) (a : Addr) (n : Nat) (dws : List D) (f : List W → M W) : Prop where
  ex : ∃ fd ps dvs ds, FnOk P wd K mg base CX0 k a fd ps (sp0 K n f) ∧ Binds K fd ps ds ∧ Vals dvs ds ∧ (∀ G ρ, RepsW K G ρ (dws.map W.d) dvs) ∧ PySem.W.keepIn K (.ref a) = true
theorem Def0.mono {j k : Nat} {a : Addr} {n : Nat} {dws : List D} {f : List W → M W} (d : Def0 P wd K mg base j a n dws f) (h : j ≤ k) : Def0 P wd K mg base k a n dws f := by
  obtain ⟨fd, ps, dvs, ds, F, r⟩ := d.ex
  exact ⟨fd, ps, dvs, ds, F.mono h, r⟩
theorem def0 {x qual : Str} {params : Arguments} {body : List Stmt} {scope : Scope} {dvs : List V} {a : Addr} {fd : FuncData} {N ps : List Str} {k n m : Nat} {b : DS} {dws : List D} {ds : List Value} {f : List W → M W}
    (F : FunD K x qual params body scope dvs [] a fd) (S : FnScope N ps scope) (hn : ps.length = n) (hm : N.length - n = m) (hb : Binds K fd ps ds) (hv : Vals dvs ds) (hd : ∀ G ρ, RepsW K G ρ (dws.map W.d) dvs)
    (hf : ∀ (c : Cf) (H : Hp) (ws : List W) (Q : VK), Rel K c H → PW_ K EF c Q (f ws c.O) → PW_ K EF c Q (runB m b ws c.O))
    (hbody : ∀ (cdv : Value) (A : Around) (outer : List Env) (s : Shared) (H : Hp) (E : XK), Room k (A.deeper (envOfC qual scope s.heap.objs.size a cdv)) → PSs (cxOf CX0 P wd K mg base N qual scope a cdv A outer s H E).nox body (VS K EF b)) :
    Def0 P wd K mg base (k + 1) a n dws f := by
  refine ⟨fd, ps, dvs, ds, F.ok S (fun vs H Q E h => ?_) (fun cdv A outer s H vs Q E hr h => ?_), hb, hv, hd, F.kp⟩
  · obtain ⟨c, ws, _, r, e, _⟩ := h
    rw [← r.length, e, hn]
  · obtain ⟨c, ws, rel, r, e, p⟩ := h
    refine ⟨VS K EF b, PSs.nox (hbody cdv A outer s H E hr), c, _, rel, renv_start r N (m := m) (by rw [← r.length, e, hm]), run_post (hf c H ws Q rel p)⟩
theorem reps0 : ∀ G ρ, RepsW K G ρ ((([] : List D)).map W.d) [] := fun _ _ => .nil
theorem repsN : ∀ G ρ, RepsW K G ρ ([D.non].map W.d) [V.non] := fun _ _ => .cons rep_non .nil
end
theorem u1 {k : Nat} {A : Around} (r : Room k A) : A.units + 1 < cLine := by have := r.units; omega
/-! ### calls -/
def calmN (f : List W → M W) : List W → M W := fun ws => calm (f ws)
/-- f of n values, dws behind those written -/
def dFn (n : Nat) (dws : List D) (f : List W → M W) : List W → M W := fun ws => calm (arity n f (ws ++ dws.map W.d))
theorem _root_.PySem.Paired.app {α β : Type} {R : α → β → Prop} : ∀ {a b : List α} {c d : List β}, Paired R a c → Paired R b d → Paired R (a ++ b) (c ++ d)
  | _, _, _, _, .nil, h => h
  | _, _, _, _, .cons x y, h => .cons x (y.app h)
variable {X : Cx} {es : List Expr} {e : Expr} {dr : DA} {pos p : Pos} {x : Str}
theorem c_fn {j k n : Nat} {a : Addr} {dws : List D} {f : List W → M W} (D : Def0 X.prog X.w X.K X.mg X.base j a n dws f) (hr : Room k X.A) (hm : X.mg x = some (.ref a)) (ha : PA X (e :: es) (VA X.K E dr)) (hj : j ≤ k := by decide) (hg : Gl X x := by rfl)
    (hdb : (x == ("__debug__" : Str)) = false := by decide) (he : starEach (e :: es) X.env = (false, eval e X.env) :: starEach es X.env := by rfl) (hpl : (backTo pos (starEach (e :: es) X.env |>.tail)).any (·.1) = false := by rfl) :
    PE X (.Call (.Name x p) (e :: es) [] pos) (VT X.K E (dCall (dFn n dws f) dr)) := by
  obtain ⟨fd, ps, dvs, ds, F, hb, hv, hd, kp⟩ := (D.mono hj).ex
  rw [he] at hpl
  refine (pe_call (E := E0) F hr hg hm kp hb hv pass0 ha hdb he hpl).imp fun σ H Q h => ?_
  obtain ⟨c, Γ, rel, env, p⟩ := h
  refine ⟨c, Γ, rel, env, (Post.bind p).mono fun ws c1 H1 l1 rel1 p1 vs rvs => ?_⟩
  have p2 := Post.calm p1
  unfold arity at p2
  split at p2
  · rename_i hn
    exact ⟨c1, ws ++ dws.map W.d, rel1, rvs.app (hd _ _), hn, p2⟩
  · exact p2.no
/-! ### instances -/
/-- C(..) -/
def mkIns (C : Addr) (n : Nat) (f : List W → M W) : List W → M W := fun ws O => match calm (arity n f (.own O.length :: ws)) (O ++ [.ins C [] []]) with
  | .ok (.d .non) O' => match O'[O.length]? with
    | some (.ins C' ks ds) => .ok (.d (.ins C' ks ds)) (O'.take O.length)
    | _ => .no
  | _ => .no
theorem c_make {j k n : Nat} {C a : Addr} {f : List W → M W} (M : Mk X.K C a) (D : Def0 X.prog X.w X.K X.mg X.base j a n [] f) (hr : Room k X.A) (hm : X.mg x = some (.ref C)) (ha : PA X (e :: es) (VA X.K E dr)) (hj : j + 1 ≤ k := by decide) (hg : Gl X x := by rfl)
    (hdb : (x == ("__debug__" : Str)) = false := by decide) (he : starEach (e :: es) X.env = (false, eval e X.env) :: starEach es X.env := by rfl) (hpl : (backTo pos (starEach (e :: es) X.env |>.tail)).any (·.1) = false := by rfl) :
    PE X (.Call (.Name x p) (e :: es) [] pos) (VT X.K E (dCall (mkIns C n f) dr)) := by
  obtain ⟨fd, ps, dvs, ds, F, hb, hv, hd, kp⟩ := D.ex
  rw [he] at hpl
  refine (pe_make (E := E0) M F (hr.mono hj) hg hm hb hv pass0 ha hdb he hpl).imp fun σ H Q h => ?_
  obtain ⟨c, Γ, rel, env, p⟩ := h
  refine ⟨c, Γ, rel, env, (Post.bind p).mono fun ws c1 H1 l1 rel1 p1 vs rvs => ?_⟩
  intro x dx hx hdx ne
  have edv : dvs = [] := by
    have := hd (fun _ => none) []
    cases this; rfl
  subst edv
  have rel2 : Rel X.K c1 (upd H1 dx (.own x)) := rel1.more hdx
  have hx2 : upd H1 dx (.own x) x = none := by rw [upd_ne (Ne.symm ne)]; exact hx
  have rel3 : Rel X.K (c1.push x (.ins C [] [])) (upd (upd H1 dx (.own x)) x (.ins C dx [])) := rel2.push hx2 ⟨dx, [], rfl, rfl, reps_nil.mpr rfl⟩ trivial
  have l3 : Le c1 (c1.push x (.ins C [] [])) := c1.push_le _ _
  unfold mkIns at p1
  have rvs3 : RepsW X.K (c1.push x (.ins C [] [])).G (c1.push x (.ins C [] [])).ρ (.own c1.O.length :: ws) (.ref x :: (vs ++ [])) := by
    rw [List.append_nil]
    exact .cons ⟨x, Cf.push_own rel1, rfl⟩ (rvs.le l3)
  have main : (arity n f (.own c1.O.length :: ws)) = f (.own c1.O.length :: ws) ∧ (.own c1.O.length :: ws : List W).length = n ∧ PW_ X.K EF (c1.push x (.ins C [] [])) (fun v H2 => v = .non ∧ Q (.ref x) H2) (f (.own c1.O.length :: ws) (c1.push x (.ins C [] [])).O) := by
    by_cases hn : (.own c1.O.length :: ws : List W).length = n
    · have e1 : arity n f (.own c1.O.length :: ws) = f (.own c1.O.length :: ws) := by unfold arity; rw [if_pos hn]
      refine ⟨e1, hn, ?_⟩
      rw [e1] at p1
      show PW_ X.K EF _ _ (f (.own c1.O.length :: ws) (c1.O ++ [.ins C [] []]))
      unfold calm at p1
      cases q : f (.own c1.O.length :: ws) (c1.O ++ [.ins C [] []]) with
      | no => rw [q] at p1; exact p1.no
      | ex z O' => rw [q] at p1; exact p1.no
      | ok z O' =>
        rw [q] at p1
        cases z with
        | own _ => exact p1.no
        | d d =>
          cases d with
          | non =>
            dsimp only at p1
            cases q2 : O'[c1.O.length]? with
            | none => simp only [q2] at p1; exact p1.no
            | some m =>
              cases m with
              | ins C' ks ds =>
                simp only [q2] at p1
                intro c' H' l eo r v rv
                refine ⟨rw_non rv, ?_⟩
                have hρ : c'.ρ[c1.O.length]? = some x := l.pre _ _ (Cf.push_own rel1)
                have hO : c'.O[c1.O.length]? = some (.ins C' ks ds) := by rw [eo]; exact q2
                obtain ⟨g, _, o, ho, mo⟩ := r.live _ _ _ hO hρ (by intro z; cases z)
                obtain ⟨dx', xs, rfl, hl, hr⟩ := mo
                obtain ⟨r4, l4⟩ := r.ice hO (by intro z; cases z) hρ ho
                refine p1 ((c'.ice c1.O.length x _).cut c1.O.length) H' (le_cut (l3.tr (l.tr l4)) rel1) ?_ (r4.cut _) _ ?_
                · show (c'.O.set c1.O.length .dead).take c1.O.length = _
                  rw [List.take_set_of_le (Nat.le_refl _), eo]
                · show Rep X.K (upd c'.G x _) (.ins C' ks ds) (.ref x)
                  unfold Rep
                  exact ⟨x, dx', xs, rfl, upd_same, hl, Reps.mono (upd_ext g) _ _ hr⟩
              | _ => simp only [q2] at p1; exact p1.no
          | _ => exact p1.no
    · unfold arity calm at p1
      rw [if_neg hn] at p1
      exact p1.no
  exact ⟨_, _, rel3, rvs3, main.2.1, main.2.2⟩
/-- o.f = e in __init__ -/
def wFld (C : Addr) (f : Str) (x z : W) : M Unit := fun O => match x, z with
  | .own k, .d d => match O[k]? with
    | some (.ins C' ks ds) => if C' = C ∧ f ∉ ks ∧ ks.length = ds.length ∧ ks.length < 1000 then .ok () (O.set k (.ins C (ks ++ [f]) (ds ++ [d]))) else .no
    | _ => .no
  | _, _ => .no
def dFldS (C : Addr) (f : Str) (o e : DE) : DS := fun Γ => do
  let z ← e Γ
  let x ← o Γ
  let _ ← wFld C f x z
  pure (.nx, Γ)
theorem putF_new {f : Str} {y : V} : ∀ {ks : List Str} {xs : List V}, f ∉ ks → ks.length = xs.length → putF f y (ks.zip xs) = (ks ++ [f]).zip (xs ++ [y])
  | [], [], _, _ => rfl
  | k :: ks, x :: xs, h, hl => by
    have ne : k ≠ f := fun z => h (by rw [z]; exact List.mem_cons_self)
    show putF f y ((k, x) :: ks.zip xs) = (k, x) :: (ks ++ [f]).zip (xs ++ [y])
    unfold putF
    rw [if_neg ne, putF_new (fun z => h (List.mem_cons_of_mem _ z)) (by simpa using hl)]
theorem c_fldS {o : Expr} {f : Str} {C : Addr} {dO de : DE} {pos pos' : Pos} (cl : Cls X.K C) (na : NoAttr X.K C f) (ho : PE X o (VT X.K E dO)) (he : PE X e (VT X.K E de)) (hs : swapsWith e (some (.Attribute o f pos')) pos.line X.env = pure false := by rfl) :
    PS X (.Assign [.Attribute o f pos'] e pos) (VS X.K E (dFldS C f dO de)) := (ps_fld ho he hs).imp fun D σ H h => by
  obtain ⟨c, Γ, rel, env, p⟩ := h
  refine ⟨c, Γ, rel, env, (Post.bind p).mono fun z c1 H1 l1 rel1 p1 y ry => ?_⟩
  refine ⟨c1, Γ, rel1, env.le l1, (Post.bind p1).mono fun x c2 H2 l2 rel2 p2 vx rx => ?_⟩
  have p3 := Post.bind p2
  have ry := ry.le l2
  have env := (env.le l1).le l2
  unfold wFld at p3
  cases x with
  | d _ => exact p3.no
  | own k =>
    cases z with
    | own _ => exact p3.no
    | d d =>
      cases q : c2.O[k]? with
      | none => simp only [q] at p3; exact p3.no
      | some m =>
        cases m with
        | ins C' ks ds =>
          simp only [q] at p3
          by_cases hc : C' = C ∧ f ∉ ks ∧ ks.length = ds.length ∧ ks.length < 1000
          · rw [if_pos hc] at p3
            obtain ⟨rfl, hf, hk, hl⟩ := hc
            obtain ⟨a, ha, rfl⟩ := rx
            obtain ⟨_, _, ho, hH, dx, xs, rfl, hx, hr⟩ := rel2.live k _ a q ha (by intro z; cases z)
            refine ⟨a, C', dx, _, rfl, hH, cl, na, by rw [List.length_zip, hx, Nat.min_self, ← hx]; exact hl, ?_⟩
            rw [putF_new hf hx]
            have rel4 := rel2.put q (by intro z; cases z) ha (m' := .ins C' (ks ++ [f]) (ds ++ [d])) (o := .ins C' dx ((ks ++ [f]).zip (xs ++ [y]))) ⟨dx, xs ++ [y], rfl, by simp [hx], hr.append (.one ry)⟩ trivial
            have p5 := p3 (c2.put k (.ins C' (ks ++ [f]) (ds ++ [d]))) _ (c2.put_le k _) rfl rel4
            exact Post.here p5 rel4 σ (env.le (c2.put_le k _))
          · rw [if_neg hc] at p3; exact p3.no
        | _ => simp only [q] at p3; exact p3.no
/-- o.f of data -/
def getF (f : Str) : List Str → List D → Option D
  | k :: ks, d :: ds => if k = f then some d else getF f ks ds
  | _, _ => none
theorem getF_ok {G : Hp} {f : Str} {d : D} : ∀ {ks : List Str} {ds : List D} {xs : List V}, Reps K G ds xs → getF f ks ds = some d → ∃ x, (ks.zip xs).lookup f = some x ∧ Rep K G d x
  | [], _, _, _, e => by unfold getF at e; cases e
  | k :: ks, [], _, _, e => by unfold getF at e; cases e
  | k :: ks, d0 :: ds, xs, h, e => by
    obtain ⟨x, r, rfl, h2, h3⟩ := reps_cons.mp h
    unfold getF at e
    show ∃ y, List.lookup f ((k, x) :: ks.zip r) = some y ∧ _
    by_cases q : k = f
    · rw [if_pos q] at e
      cases e
      refine ⟨x, ?_, h2⟩
      have hb : (f == k) = true := beq_iff_eq.mpr q.symm
      simp only [List.lookup, hb]
    · rw [if_neg q] at e
      obtain ⟨y, e1, e2⟩ := getF_ok h3 e
      refine ⟨y, ?_, e2⟩
      have hb : (f == k) = false := beq_eq_false_iff_ne.mpr (Ne.symm q)
      simp only [List.lookup, hb]
      exact e1
def wField (C : Addr) (f : Str) (x : W) : M W := match x with
  | .d (.ins C' ks ds) => if C' = C then (match getF f ks ds with
    | some d => pure (.d d)
    | none => M.no) else M.no
  | _ => M.no
theorem c_fld {f : Str} {C : Addr} {d : DE} {pos : Pos} (cl : Cls X.K C) (na : NoAttr X.K C f) (he : PE X e (VT X.K E d)) (hb : attributeBase e f X.env (eval e X.env) = eval e X.env := by rfl) : PE X (.Attribute e f pos) (VT X.K E (dUn (wField C f) d)) := (pe_fld he hb).imp fun σ H Q h => by
  obtain ⟨c, Γ, rel, env, p⟩ := h
  refine ⟨c, Γ, rel, env, (Post.bind p).mono fun x c1 H1 l1 rel1 p1 v rv => ?_⟩
  unfold wField at p1
  split at p1
  · rename_i C' ks ds
    split at p1
    · rename_i hC
      subst hC
      cases q : getF f ks ds with
      | none => rw [q] at p1; exact p1.no
      | some d =>
        rw [q] at p1
        have rv : Rep X.K c1.G (.ins C' ks ds) v := rv
        unfold Rep at rv
        obtain ⟨a, dx, xs, rfl, h1, h2, h3⟩ := rv
        obtain ⟨y, e1, e2⟩ := getF_ok h3 q
        exact ⟨a, C', dx, _, y, rfl, rel1.ex _ _ h1, cl, na, e1, Post.here p1 rel1 y e2⟩
    · exact p1.no
  · exact p1.no
/-- o.f, a property -/
def wProp (C : Addr) (n : Nat) (f : List W → M W) (x : W) : M W := match x with
  | .d (.ins C' ks ds) => if C' = C then calm (arity n f [x]) else M.no
  | _ => M.no
theorem c_prop {j k n : Nat} {f : Str} {C pp g : Addr} {h : List W → M W} {d : DE} {pos : Pos} (cl : Cls X.K C) (hp : PropOf X.K C f pp g) (D : Def0 X.prog X.w X.K X.mg X.base j g n [] h) (hr : Room k X.A) (he : PE X e (VT X.K E d)) (hj : j + 1 ≤ k := by decide)
    (hb : attributeBase e f X.env (eval e X.env) = eval e X.env := by rfl) : PE X (.Attribute e f pos) (VT X.K E (dUn (wProp C n h) d)) := by
  obtain ⟨fd, ps, dvs, ds, F, hbi, hv, hd, kp⟩ := D.ex
  refine (pe_prop (E := E0) he cl hp F (hr.mono hj) hbi hv pass0 hb).imp fun σ H Q hq => ?_
  obtain ⟨c, Γ, rel, env, p⟩ := hq
  refine ⟨c, Γ, rel, env, (Post.bind p).mono fun x c1 H1 l1 rel1 p1 v rv => ?_⟩
  have edv : dvs = [] := by
    have := hd (fun _ => none) []
    cases this; rfl
  subst edv
  unfold wProp at p1
  split at p1
  · rename_i C' ks ds
    split at p1
    · rename_i hC
      subst hC
      have p2 := Post.calm p1
      unfold arity at p2
      split at p2
      · rename_i hn
        have rv0 := rv
        have rv : Rep X.K c1.G (.ins C' ks ds) v := rv
        unfold Rep at rv
        obtain ⟨a, dx, xs, rfl, h1, h2, h3⟩ := rv
        exact ⟨a, dx, _, rfl, rel1.ex _ _ h1, c1, _, rel1, .cons rv0 .nil, hn, p2⟩
      · exact p2.no
    · exact p1.no
  · exact p1.no
/-- isinstance(x, C), an own class, x of it -/
def wIsC (C : Addr) (x y : W) : M W := match x, y with
  | .d (.ins C' _ _), .d (.adr a) => if C' = C ∧ a = C then pure (.d (.bl true)) else M.no
  | _, _ => M.no
theorem c_isC {C : Addr} {a b : Expr} {p pos : Pos} {dr : DA} (cl : Cls X.K C) (ha : PySem.W.findIn X.K (.ref C) "__class__" = some (some (.builtin "object.__class__")))
    (hn : PySem.W.specialIn X.K (.builtin "object.__class__") "__get__" = some (some (.builtin "getset_descriptor.__get__"))) (htk : PySem.W.takesIn X.K (.builtin "object.__class__") = some true) (hmr : PySem.W.mroIn X.K C (.type "object") = some true)
    (hg : Gl X "isinstance") (hm : X.mg "isinstance" = none) (hv : bootBuiltins "isinstance" = some (.builtin "isinstance")) (h : PA X [a, b] (VA X.K E dr)) (he : starEach [a, b] X.env = (false, eval a X.env) :: starEach [b] X.env := by rfl) (hpl : (backTo pos (starEach [b] X.env)).any (·.1) = false := by rfl) :
    PE X (.Call (.Name "isinstance" p) [a, b] [] pos) (VT X.K E (dCall (w2 (wIsC C)) dr)) := by
  refine c_blt call_isi ?_ hg hm hv h (by decide) (by decide) he hpl
  refine s_2 fun c H w u v z Q rel r1 r2 p => ?_
  unfold wIsC at p
  cases w with
  | own _ => exact p.no
  | d dw =>
    cases u with
    | own _ => cases dw <;> exact p.no
    | d du =>
      cases dw with
      | ins C' ks ds =>
        cases du with
        | adr a0 =>
          dsimp only at p
          by_cases hC : C' = C ∧ a0 = C
          · rw [if_pos hC] at p
            obtain ⟨rfl, rfl⟩ := hC
            have r1 : Rep X.K c.G (.ins a0 ks ds) v := r1
            unfold Rep at r1
            obtain ⟨a, dx, xs, rfl, h1, h2, h3⟩ := r1
            have r2 : Rep X.K c.G (.adr a0) z := r2
            unfold Rep at r2
            subst r2
            refine ⟨.ref a, .ref a0, .ref a0, .ref a0, true, rfl, .own a0, .base (.ins (rel.ex _ _ h1) cl ha hn htk hmr), ?_, PW_.fin p rel rep_bl⟩
            unfold PySem.W.kitOne
            rw [if_pos (by simp)]
          · rw [if_neg hC] at p; exact p.no
        | _ => exact p.no
      | _ => cases du <;> exact p.no
/-! ### items of lists, written -/
theorem get_list : PGet X (rIxL X.K) := by
  intro pins s σ H x y v u Q I rx ry h
  obtain ⟨p, xs, i, z, rfl, rfl, hq, he, q⟩ := h
  cases rx
  obtain ⟨t, rfl⟩ := ry
  obtain ⟨its, r, pl, hz⟩ := I.list hq
  obtain ⟨j, h1, h2, h3, h4, h5⟩ := atI_get he
  obtain ⟨w, ew, rw'⟩ := r.get h2
  have hl := r.length
  have hn := line63
  have fin : EP X pins σ Q w s := ⟨z, H, I, rw', q⟩
  by_cases h0 : 0 ≤ i
  · have hj : i.toNat = j := by
      rw [seqIndex_of h0 h5] at h1
      exact Option.some.inj h1
    exact wpAny_getItem_list pl.isList h0 (by omega) (by rw [hj]; simpa using ew) fin
  · have hj : (i + (its.toArray.size : Int)).toNat = j := by
      rw [seqIndex_neg (by omega) h4] at h1
      rw [List.size_toArray, ← hl]
      exact Option.some.inj h1
    exact wpAny_getItem_list_neg pl.isList (by omega) (by rw [List.size_toArray] <;> omega) (by omega) (by rw [hj]; simpa using ew) fin
def wSetI (x y z : W) : M Unit := fun O => match x, y, z with
  | .own k, .d (.int i), .d d => match O[k]? with
    | some (.lst ds) => match ixN ds.length i with
      | some j => .ok () (O.set k (.lst (ds.set j d)))
      | none => .no
    | _ => .no
  | _, _, _ => .no
theorem setI_ok {c : Cf} {H : Hp} {x y z : W} {vx vy vz : V} {R : Unit → Cf → Hp → Prop} {Q : Hp → Prop} (rel : Rel K c H) (rx : RepW K c.G c.ρ x vx) (ry : RepW K c.G c.ρ y vy) (rz : RepW K c.G c.ρ z vz) (p : Post K E c R (wSetI x y z c.O))
    (h : ∀ c' H', Le c c' → Rel K c' H' → R () c' H' → Q H') : rSetL vx vy vz H Q := by
  unfold wSetI at p
  split at p
  · rename_i k i d
    cases q : c.O[k]? with
    | none => simp only [q] at p; exact p.no
    | some m =>
      cases m with
      | lst ds =>
        simp only [q] at p
        cases q2 : ixN ds.length i with
        | none => simp only [q2] at p; exact p.no
        | some j =>
          simp only [q2] at p
          obtain ⟨a, ha, rfl⟩ := rx
          have ry := rw_int ry
          subst ry
          obtain ⟨_, _, ho, hH, xs, rfl, hr, hl⟩ := rel.live k _ a q ha (by intro z; cases z)
          refine ⟨a, xs, i, j, rfl, rfl, hH, by rw [← hr.length]; exact q2, ?_⟩
          have rel4 := rel.put q (by intro z; cases z) ha (m' := .lst (ds.set j d)) (o := .lst (xs.set j vz)) ⟨_, rfl, hr.set j rz, by rw [List.length_set]; exact hl⟩ trivial
          exact h _ _ (c.put_le k _) rel4 (p _ _ (c.put_le k _) rfl rel4)
      | _ => simp only [q] at p; exact p.no
  · exact p.no
def dSetI (o i e : DE) : DS := fun Γ => do
  let z ← e Γ
  let x ← o Γ
  let y ← i Γ
  let _ ← wSetI x y z
  pure (.nx, Γ)
theorem c_setI {o i : Expr} {dO di de : DE} {pos pos' : Pos} (ho : PE X o (VT X.K E dO)) (hi : PE X i (VT X.K E di)) (he : PE X e (VT X.K E de)) (hs : swapsWithSole [.Subscript o i pos'] e pos.line X.env = pure false := by rfl) (hw : swappedStores [.Subscript o i pos'] e X.env = pure none := by rfl)
    (ha : ∀ v, assign (.Subscript o i pos') X.env v = (do
      let ov ← holding [v] (eval o X.env)
      let iv ← holding [v, ov] (eval i X.env)
      standAt pos'
      holding [v, ov, iv] (setItem ov iv v)
      release [v, ov, iv] []) := by intro _; rfl) :
    PS X (.Assign [.Subscript o i pos'] e pos) (VS X.K E (dSetI dO di de)) := (ps_asg he (pg_sub ho hi set_list ha) hs hw).imp fun D σ H h => by
  obtain ⟨c, Γ, rel, env, p⟩ := h
  refine ⟨c, Γ, rel, env, (Post.bind p).mono fun z c1 H1 l1 rel1 p1 v rv => ?_⟩
  refine ⟨c1, Γ, rel1, env.le l1, (Post.bind p1).mono fun x c2 H2 l2 rel2 p2 vx rx => ?_⟩
  refine ⟨c2, Γ, rel2, (env.le l1).le l2, (Post.bind p2).mono fun y c3 H3 l3 rel3 p3 vy ry => ?_⟩
  exact setI_ok rel3 (rx.le l3) ry ((rv.le l2).le l3) (Post.bind p3) fun c' H' l' r' p' => Post.here p' r' σ ((((env.le l1).le l2).le l3).le l')
/-- o[i] op= e -/
def wItem (x y : W) : M W := fun O => match x, y with
  | .own k, .d (.int i) => match O[k]? with
    | some (.lst ds) => match atI ds i with
      | some d => .ok (.d d) O
      | none => .no
    | _ => .no
  | _, _ => .no
def dAugI (f : W → W → M W) (o i e : DE) : DS := fun Γ => do
  let x ← o Γ
  let y ← i Γ
  let u ← wItem x y
  let z ← e Γ
  let r ← f u z
  let _ ← wSetI x y r
  pure (.nx, Γ)
theorem c_augI {o i : Expr} {dO di de : DE} {op : Operator} {r : TIp} {f : W → W → M W} {pos pos' : Pos} (ho : PE X o (VT X.K E dO)) (hi : PE X i (VT X.K E di)) (he : PE X e (VT X.K E de)) (hp : PIp X op r) (hs : Sem2 X.K E r f)
    (ha : ∀ ov iv new, augStore i ov iv new = (do holding [new, ov, iv] (setItem ov iv new); release [new, ov, iv] []; pure .next) := by intros; rfl) :
    PS X (.AugAssign (.Subscript o i pos') op e pos) (VS X.K E (dAugI f dO di de)) := (ps_augS ho hi get_list he hp set_list ha).imp fun D σ H h => by
  obtain ⟨c, Γ, rel, env, p⟩ := h
  refine ⟨c, Γ, rel, env, (Post.bind p).mono fun x c1 H1 l1 rel1 p1 vx rx => ?_⟩
  refine ⟨c1, Γ, rel1, env.le l1, (Post.bind p1).mono fun y c2 H2 l2 rel2 p2 vy ry => ?_⟩
  have p3 := Post.bind p2
  have env2 := (env.le l1).le l2
  have rx := rx.le l2
  unfold wItem at p3
  have key : ∃ k i, x = .own k ∧ y = .d (.int i) := by
    cases x with
    | d _ => exact p3.no
    | own k =>
      cases y with
      | own _ => exact p3.no
      | d d => cases d <;> first | exact ⟨_, _, rfl, rfl⟩ | exact p3.no
  obtain ⟨k, i, rfl, rfl⟩ := key
  · cases q : c2.O[k]? with
    | none => simp only [q] at p3; exact p3.no
    | some m =>
      cases m with
      | lst ds =>
        simp only [q] at p3
        cases q2 : atI ds i with
        | none => simp only [q2] at p3; exact p3.no
        | some d =>
          simp only [q2] at p3
          have p4 := Post.here p3 rel2
          have rx0 := rx
          have ry0 := ry
          obtain ⟨a, ha, rfl⟩ := rx
          have ry := rw_int ry
          subst ry
          obtain ⟨_, _, oo, hH, xs, rfl, hr, hl⟩ := rel2.live k _ a q ha (by intro z; cases z)
          obtain ⟨x, e1, r1⟩ := reps_atI hr q2
          refine ⟨a, xs, i, x, rfl, rfl, .of hH, e1, ?_⟩
          refine ⟨c2, Γ, rel2, env2, (Post.bind p4).mono fun z c4 H4 l4 rel4 p5 vz rz => ?_⟩
          have r1w : RepW X.K c2.G c2.ρ (.d d) x := r1
          refine hs c4 H4 (.d d) z x vz _ rel4 (r1w.le l4) rz ((Post.bind p5).mono fun u c5 H5 l5 rel5 p6 vu ru => ?_)
          exact setI_ok rel5 ((rx0.le l4).le l5) ((ry0.le l4).le l5) ru (Post.bind p6) fun c' H' l' r' p' => Post.here p' r' σ (((env2.le l4).le l5).le l')
      | _ => simp only [q] at p3; exact p3.no
end
end VL


set_option maxRecDepth 100000
set_option maxHeartbeats 2000000
/-! The value layer: ranges as values, a name's list given up, dicts with tuples as keys, min of three. -/
namespace VL
open PySem L2 PyProof.Rows
section
variable {K : PySem.W.Frag} {E : XK} {c c' : Cf} {H : Hp} {v : V} {w : W} {X : Cx}
theorem s_iadd : Sem2 K E (ipI fun i j => i + j) (wI fun i j => pure (.d (.int (i + j)))) := s_int0 fun i j => i + j
theorem s_isub : Sem2 K E (ipI fun i j => i - j) (wI fun i j => pure (.d (.int (i - j)))) := s_int0 fun i j => i - j
abbrev wIAdd : W → W → M W := wI fun i j => pure (.d (.int (i + j)))
abbrev wISub : W → W → M W := wI fun i j => pure (.d (.int (i - j)))
/-- min(a, b, c) -/
def wMin3 : List W → M W
  | [.d (.int i), .d (.int j), .d (.int k)] => pure (.d (.int (min (min i j) k)))
  | _ => M.no
theorem repsW3 {G : Hp} {ρ : List Addr} {w u z : W} {vs : List V} (h : RepsW K G ρ [w, u, z] vs) : ∃ a b d, vs = [a, b, d] ∧ RepW K G ρ w a ∧ RepW K G ρ u b ∧ RepW K G ρ z d := by
  cases h with
  | cons h1 h2 =>
    obtain ⟨b, d, rfl, h3, h4⟩ := repsW2 h2
    exact ⟨_, b, d, rfl, h1, h3, h4⟩
theorem nuMin2_int (i j : Int) : nuMin2 (.int i) (.int j) = some (.int (min i j)) := by
  show some (if decide (j < i) = true then V.int j else V.int i) = _
  by_cases h : j < i
  · rw [if_pos (decide_eq_true h)]; congr 2; omega
  · rw [if_neg (by simpa using h)]; congr 2; omega
theorem s_min3 : SemN K E (rNuC3 nuMin3) wMin3 := fun c H ws vs Q rel rs p => by
  unfold wMin3 at p
  split at p
  · rename_i i j k
    obtain ⟨a, b, d, rfl, h1, h2, h3⟩ := repsW3 rs
    rw [rw_int h1, rw_int h2, rw_int h3]
    refine ⟨_, _, _, .int (min (min i j) k), rfl, ?_, PW_.fin p rel rep_int⟩
    unfold nuMin3
    rw [nuMin2_int]
    exact nuMin2_int _ _
  · exact p.no
/-! ### ranges as values -/
noncomputable def wRng : W → W → M W := wI fun i j => if small62 i ∧ small62 j then pure (.d (.rng i j)) else M.no
theorem s_rng2 : SemN K E (fun vs H Q => ∃ i j, vs = [V.int i, V.int j] ∧ ∀ p, H p = none → Q (.ref p) (upd H p (.rng i j))) (w2 wRng) := s_2 fun c H w u v z Q rel r1 r2 p => by
  unfold wRng wI at p
  split at p
  · rename_i i j
    dsimp only at p
    split at p
    · rw [rw_int r1, rw_int r2]
      refine ⟨i, j, rfl, fun q hq => ?_⟩
      refine p _ _ (rel.know_le hq) rfl (rel.know (o := .rng i j) hq) _ ?_
      show Rep K (upd c.G q (.rng i j)) (.rng i j) _
      unfold Rep
      exact ⟨q, rfl, upd_same⟩
    · exact p.no
  · exact p.no
def iRngV (tl : TE) : TI := fun σ H R => tl σ H fun x H1 => ∃ a lo hi, x = .ref a ∧ H1 a = some (.rng lo hi) ∧ -(2 ^ 62) ≤ lo ∧ lo < 2 ^ 62 ∧ -(2 ^ 62) ≤ hi ∧ hi < 2 ^ 62 ∧ R (Itr lo (hi - lo).toNat) H1
theorem pi_rngV {tg l : Expr} {tl : TE} (hl : PE X l tl) : PI X tg l (iRngV tl) := by
  refine ⟨fun pins s σ H R I h => ?_⟩
  refine thn (hl.run pins s σ H _ I h) fun v s1 ⟨x, H1, I1, r1, a, lo, hi, ex, ea, h1, h2, h3, h4, q⟩ => ?_
  subst ex
  cases r1
  obtain ⟨t, u, v, hr⟩ := (show ObjOk X.prog X.w H1 s1.heap a (.rng lo hi) from I1.hok a _ ea)
  refine wpAny_pyIter_range hr (small_one h1 h2 h3 h4) ?_
  refine pi_one (tk := s1.toks) I1 _ (turn_range _ lo (hi - lo).toNat) ?_ q
  have e1 : lo + ((0 : Nat) : Int) * 1 = lo := by simp
  have e2 : (((hi - lo).toNat : Nat) : Int) - ((0 : Nat) : Int) = Builtin.Range.rangeSize lo hi 1 := by rw [rangeSize_one]; split <;> omega
  show IsRangeIter _ _ (lo + ((0 : Nat) : Int) * 1) ((((hi - lo).toNat : Nat) : Int) - ((0 : Nat) : Int)) 1
  rw [e1, e2]
  exact Heap.get?_push_size _ rfl
noncomputable def dRngV (d : DE) : DI := fun Γ => do
  let x ← d Γ
  match x with
  | .d (.rng i j) => if small62 i ∧ small62 j then pure (rng i 1 (j - i).toNat) else M.no
  | _ => M.no
theorem i_rngV {tg e : Expr} {d : DE} (he : PE X e (VT X.K E d)) : PI X tg e (VI X.K E (dRngV d)) := (pi_rngV he).imp fun σ H R h => by
  obtain ⟨c, Γ, rel, env, p⟩ := h
  refine ⟨c, Γ, rel, env, (Post.bind p).mono fun w c1 H1 l1 rel1 p1 v rv => ?_⟩
  split at p1
  · rename_i i j
    split at p1
    · rename_i hs
      have rv : Rep X.K c1.G (.rng i j) v := rv
      unfold Rep at rv
      obtain ⟨a, rfl, h1⟩ := rv
      obtain ⟨⟨s1, s2⟩, s3, s4⟩ := hs
      exact ⟨a, i, j, rfl, rel1.ex _ _ h1, s1, s2, s3, s4, Post.here p1 rel1 _ isIt_rng⟩
    · exact p1.no
  · exact p1.no
/-! ### a name's list is given up -/
def dFrz (i : Nat) (b : DS) : DS := fun Γ => do
  let x ← dVar i Γ
  let y ← ice x
  b (Γ.set i (some y))
theorem REnv.same {G : Hp} {ρ : List Addr} {Γ : Gam} {σ : L2.St} (e : REnv K G ρ Γ σ) {w : W} {v : V} (i : Nat) (h : σ[i]? = some (some v)) (r : RepW K G ρ w v) : REnv K G ρ (Γ.set i (some w)) σ := by
  have z := e.set i r
  have e2 : σ.set i (some v) = σ := by
    obtain ⟨hi, h2⟩ := List.getElem?_eq_some_iff.mp h
    rw [← h2, List.set_getElem_self]
  rwa [e2] at z
theorem v_frz {i : Nat} {b : DS} {D : Ends} {σ : L2.St} {H : Hp} (h : VS K E (dFrz i b) D σ H) : VS K E b D σ H := by
  obtain ⟨c, Γ, rel, env, p⟩ := h
  have p0 := Post.bind p
  unfold dVar at p0
  cases h1 : Γ[i]? with
  | none => simp only [h1] at p0; exact p0.no
  | some o =>
    cases o with
    | none => simp only [h1] at p0; exact p0.no
    | some w =>
      simp only [h1] at p0
      obtain ⟨v, e1, e2⟩ := env.at_ i w h1
      have p1 := Post.bind (Post.here p0 rel)
      cases w with
      | d d => exact ⟨c, _, rel, env.same i e1 e2, Post.here p1 rel⟩
      | own k =>
        unfold ice at p1
        cases q : c.O[k]? with
        | none => simp only [q] at p1; exact p1.no
        | some m =>
          cases m with
          | lst ds =>
            simp only [q] at p1
            obtain ⟨a, ha, rfl⟩ := e2
            obtain ⟨ga, _, o, ho, xs, hx, h4, h3⟩ := rel.live k _ a q ha (by intro z; cases z)
            subst hx
            obtain ⟨r2, l2⟩ := rel.ice q (by intro z; cases z) ha ho
            have rv : RepW K (c.ice k a (.lst xs)).G (c.ice k a (.lst xs)).ρ (.d (.lst ds)) (.ref a) := by
              show Rep K (upd c.G a (.lst xs)) (.lst ds) _
              unfold Rep
              exact ⟨a, xs, rfl, upd_same, h3, Reps.mono (upd_ext ga) _ _ h4⟩
            exact ⟨c.ice k a (.lst xs), _, r2, (env.le l2).same i e1 rv, p1 _ _ l2 rfl r2⟩
          | _ => simp only [q] at p1; exact p1.no
theorem b_frz {i : Nat} {b : DS} {ss : List Stmt} (h : PSs X ss (VS X.K E b)) : PSs X ss (VS X.K E (dFrz i b)) := h.imp fun _ _ _ => v_frz
/-! ### dicts with tuples of ints and texts as keys -/
def keysD : List D → Option (List Key)
  | [] => some []
  | d :: ds => match keyD d, keysD ds with
    | some k, some ks => some (k :: ks)
    | _, _ => none
def keyT : D → Option (List Key)
  | .tup ds => keysD ds
  | _ => none
theorem keysD_ok {G : Hp} : ∀ {ds : List D} {ks : List Key} {xs : List V}, keysD ds = some ks → Reps K G ds xs → xs = ks.map kV
  | [], ks, xs, e, h => by cases e; rw [reps_nil.mp h]; rfl
  | d :: ds, ks, xs, e, h => by
    obtain ⟨x, r, rfl, h1, h2⟩ := reps_cons.mp h
    unfold keysD at e
    split at e
    · rename_i k ks' e1 e2
      cases e
      rw [keyD_ok e1 h1, keysD_ok e2 h2]; rfl
    · cases e
theorem keyT_ok {d : D} {ks : List Key} (rel : Rel K c H) (e : keyT d = some ks) (h : Rep K c.G d v) : ∃ b, v = .ref b ∧ c.G b = some (.tup (ks.map kV)) := by
  unfold keyT at e
  split at e
  · rename_i ds
    unfold Rep at h
    obtain ⟨a, xs, rfl, h1, _, h3⟩ := h
    have := keysD_ok e h3
    subst this
    exact ⟨a, rfl, h1⟩
  · cases e
def lookT : List Key → List (List Key × W) → Option W
  | _, [] => none
  | k, (j, w) :: r => if j = k then some w else lookT k r
abbrev KtR (K : PySem.W.Frag) (G : Hp) (ρ : List Addr) : List (List Key × W) → List (List Key × V) → Prop := Paired (fun (p : List Key × W) (q : List Key × V) => p.1 = q.1 ∧ RepW K G ρ p.2 q.2)
theorem lookT_ok {G : Hp} {ρ : List Addr} {k : List Key} : ∀ {kvs : List (List Key × W)} {ys : List (List Key × V)}, KtR K G ρ kvs ys → match lookT k kvs with
    | some w => ∃ x, valV ys k = some x ∧ RepW K G ρ w x
    | none => valV ys k = none
  | _, _, .nil => rfl
  | _, _, .cons (a := p) (b := q) h t => by
    obtain ⟨pj, pw⟩ := p
    obtain ⟨qj, qv⟩ := q
    obtain ⟨h1, h2⟩ := h
    have h1 : pj = qj := h1
    subst h1
    unfold lookT
    by_cases z : pj = k
    · rw [if_pos z]
      exact ⟨qv, valV_pos (p := (pj, qv)) z, h2⟩
    · rw [if_neg z, valV_neg (p := (pj, qv)) z]
      exact lookT_ok t
def dNewT : DE := fun _ => M.push (.dicT [])
theorem c_newT {pos : Pos} : PE X (.Dict [] [] pos) (VT X.K E dNewT) := pe_dnewT.imp fun σ H Q h => by
  obtain ⟨c, Γ, rel, env, p⟩ := h
  exact fun q hq => p _ _ (c.push_le q _) rfl (rel.push (o := .dT []) (m := .dicT []) hq ⟨[], rfl, .nil⟩ fun _ z => by cases z) _ ⟨q, Cf.push_own rel, rfl⟩
/-- d[k] -/
def wGetT (x y : W) : M W := fun O => match x, y with
  | .own k, .d d => match O[k]?, keyT d with
    | some (.dicT kvs), some j => match lookT j kvs with
      | some w => .ok w O
      | none => .no
    | _, _ => .no
  | _, _ => .no
theorem c_getT {a b : Expr} {da db : DE} {pos : Pos} (hu : X.A.units + 1 < cLine) (ha : PE X a (VT X.K E da)) (hb : PE X b (VT X.K E db)) (hs : NoSl b := by exact fun _ _ => rfl) : PE X (.Subscript a b pos) (VT X.K E (dBin wGetT da db)) :=
  (pe_dget hu ha hb hs).imp fun σ H Q h => by
    obtain ⟨c, Γ, rel, env, p⟩ := h
    refine ⟨c, Γ, rel, env, (Post.bind p).mono fun x c1 H1 l1 rel1 p1 v rv => ?_⟩
    refine ⟨c1, Γ, rel1, env.le l1, (Post.bind p1).mono fun y c2 H2 l2 rel2 p2 u ru => ?_⟩
    have rv := rv.le l2
    unfold wGetT at p2
    cases x with
    | d _ => exact p2.no
    | own k =>
      cases y with
      | own _ => exact p2.no
      | d d =>
        cases q : c2.O[k]? with
        | none => simp only [q] at p2; exact p2.no
        | some m =>
          cases m with
          | dicT kvs =>
            cases q2 : keyT d with
            | none => simp only [q, q2] at p2; exact p2.no
            | some j =>
              cases q3 : lookT j kvs with
              | none => simp only [q, q2, q3] at p2; exact p2.no
              | some w =>
                simp only [q, q2, q3] at p2
                obtain ⟨a, ha, rfl⟩ := rv
                obtain ⟨_, _, o, ho, ys, hy, hp⟩ := rel2.live k _ a q ha (by intro z; cases z)
                subst hy
                have lk := lookT_ok (k := j) hp
                rw [q3] at lk
                obtain ⟨z, e1, e2⟩ := lk
                obtain ⟨b, rfl, hb⟩ := keyT_ok rel2 q2 ru
                exact ⟨a, z, rfl, by rw [← e1]; exact DGet.t ho (rel2.ex _ _ hb), PW_.fin p2 rel2 e2⟩
          | _ => simp only [q] at p2; exact p2.no
/-- d.get(k, x) -/
def wIsT (x : W) : M Unit := fun O => match x with
  | .own k => match O[k]? with
    | some (.dicT _) => .ok () O
    | _ => .no
  | _ => .no
def wGetT2 (x y z : W) : M W := fun O => match x, y with
  | .own k, .d d => match O[k]?, keyT d with
    | some (.dicT kvs), some j => match lookT j kvs with
      | some w => .ok w O
      | none => .ok z O
    | _, _ => .no
  | _, _ => .no
def dGetT2 (a b e : DE) : DE := fun Γ => do
  let x ← a Γ
  let _ ← wIsT x
  let y ← b Γ
  let z ← e Γ
  wGetT2 x y z
theorem isT_ok {x : W} {R : Unit → Cf → Hp → Prop} (rel : Rel K c H) (rv : RepW K c.G c.ρ x v) (p : Post K E c R (wIsT x c.O)) : ∃ a, v = .ref a ∧ IsD H a ∧ R () c H := by
  unfold wIsT at p
  cases x with
  | d _ => exact p.no
  | own k =>
    cases q : c.O[k]? with
    | none => simp only [q] at p; exact p.no
    | some m =>
      cases m with
      | dicT kvs =>
        simp only [q] at p
        obtain ⟨a, ha, rfl⟩ := rv
        obtain ⟨_, _, o, ho, ys, hy, hp⟩ := rel.live k _ a q ha (by intro z; cases z)
        subst hy
        exact ⟨a, rfl, .inr ⟨_, .inl ho⟩, Post.here p rel⟩
      | _ => simp only [q] at p; exact p.no
theorem c_getT2 {o e f : Expr} {dO de df : DE} {apos cpos : Pos} (hu : X.A.units + 1 < cLine) (ho : PE X o (VT X.K E dO)) (he : PE X e (VT X.K E de)) (hf : PE X f (VT X.K E df)) (m : M2 X o "get" apos e f cpos) :
    PE X (.Call (.Attribute o "get" apos) [e, f] [] cpos) (VT X.K E (dGetT2 dO de df)) := (pe_dget2 hu ho he hf m).imp fun σ H Q h => by
  obtain ⟨c, Γ, rel, env, p⟩ := h
  refine ⟨c, Γ, rel, env, (Post.bind p).mono fun x c1 H1 l1 rel1 p1 v rv => ?_⟩
  obtain ⟨a0, rfl, hD, p2⟩ := isT_ok rel1 rv (Post.bind p1)
  refine ⟨a0, rfl, hD, c1, Γ, rel1, env.le l1, (Post.bind p2).mono fun y c2 H2 l2 rel2 p3 u ru => ?_⟩
  refine ⟨c2, Γ, rel2, (env.le l1).le l2, (Post.bind p3).mono fun z c3 H3 l3 rel3 p4 vz rz => ?_⟩
  have rv := (rv.le l2).le l3
  have ru := ru.le l3
  unfold wGetT2 at p4
  cases x with
  | d _ => exact p4.no
  | own k =>
    cases y with
    | own _ => exact p4.no
    | d d =>
      cases q : c3.O[k]? with
      | none => simp only [q] at p4; exact p4.no
      | some m =>
        cases m with
        | dicT kvs =>
          cases q2 : keyT d with
          | none => simp only [q, q2] at p4; exact p4.no
          | some j =>
            obtain ⟨a, ha, ea⟩ := rv
            cases ea
            obtain ⟨_, _, o, ho, ys, hy, hp⟩ := rel3.live k _ a0 q ha (by intro z; cases z)
            subst hy
            obtain ⟨b, rfl, hb⟩ := keyT_ok rel3 q2 ru
            have lk := lookT_ok (k := j) hp
            refine ⟨valV ys j, DGet.t ho (rel3.ex _ _ hb), ?_⟩
            cases q3 : lookT j kvs with
            | none =>
              simp only [q, q2, q3] at p4
              rw [q3] at lk
              rw [show valV ys j = none from lk]
              exact PW_.fin p4 rel3 rz
            | some w =>
              simp only [q, q2, q3] at p4
              rw [q3] at lk
              obtain ⟨x, e1, e2⟩ := lk
              rw [e1]
              exact PW_.fin p4 rel3 e2
        | _ => simp only [q] at p4; exact p4.no
/-- x.setdefault(k, []).append(e), x a name -/
def tDSetT (td ty tx : TE) : TE := fun σ H Q => td σ H fun x H1 => ∃ a, x = .ref a ∧ IsD H1 a ∧ ty σ H1 fun y H2 => tx σ H2 fun z H3 => ∃ (kvs : List (List Key × V)) (k : List Key) (b : Addr), H3 a = some (.dT kvs) ∧ y = .ref b ∧ H3 b = some (.tup (k.map kV)) ∧ kvs.length < sizeLine ∧
  (∀ v, valV kvs k = some v → Q v H3) ∧ (valV kvs k = none → Q z (upd H3 a (.dT (putK kvs k z))))
theorem pe_dsetT {o e f : Expr} {td ty tx : TE} {apos cpos : Pos} (hu : X.A.units + 1 < cLine) (ho : PE X o td) (he : PE X e ty) (hf : PE X f tx) (m : M2 X o "setdefault" apos e f cpos) : PE X (.Call (.Attribute o "setdefault" apos) [e, f] [] cpos) (tDSetT td ty tx) := by
  refine ⟨fun pins s σ H Q I h => ?_⟩
  refine wpAny_Call_method m.base m.few m.line PySem.F.plainAttrs_dict PySem.F.slot_dict_setdefault PySem.F.type_dict_setdefault (thn (ho.run pins s σ H _ I h) fun u s1 ⟨x, H1, I1, rx, a, ex, d, q1⟩ => ?_)
  subst ex
  obtain rfl : u = Value.ref a := rx
  obtain ⟨t1, t2, _⟩ := isD_at I1 d
  refine ⟨t1, t2, ?_⟩
  rw [m.trees]
  refine Calls.callWith_builtin rfl (Calls.evalArgs_plain (Calls.spliced_cons (thn (he.run pins s1 σ H1 _ I1 q1) fun iv s2 ⟨y, H2, I2, ry, q2⟩ =>
    Calls.spliced_cons (thn (hf.run pins s2 σ H2 _ I2 q2) fun fv s3 ⟨z, H3, I3, rz, kvs, k, b, ea, ey, eb, hl, q3, q4⟩ => Calls.spliced_nil ?_))))
  subst ey
  cases (show iv = Value.ref b from ry)
  obtain ⟨zz, hd, xs, rel, dd⟩ := dt_of I3.hok ea
  have hz : xs.length ≤ sizeLine := by rw [← Paired.length rel]; exact zz
  have hl2 : (putK kvs k z).length ≤ sizeLine := by have := length_putK kvs k z; omega
  refine call_setdefault_heap (hsz := hz) (tupleKind_room_in1 hu) (key_of I3.hok eb) hd dd (fun p hp => ?_) fun hn h' dd' hs => ?_
  · have rr := rel.val k
    rw [hp] at rr
    cases hv : valV kvs k with
    | none => rw [hv] at rr; exact False.elim rr
    | some x =>
      rw [hv] at rr
      exact ⟨x, H3, I3.tok _, rr, q3 x hv⟩
  · have rr := rel.val k
    rw [hn] at rr
    cases hv : valV kvs k with
    | some x => rw [hv] at rr; exact False.elim rr
    | none =>
      obtain ⟨q, es, ep, hq, h2, h3, h4, _, h5⟩ := dd'
      refine ⟨z, _, d_write (ob := .dT (putK kvs k z)) (t' := s3.toks + _) I3 (by rw [ea]; exact True.intro) hs ⟨q, hq⟩ ⟨hl2, hd, _, (rel.put k eb rz).keeps fun c ys ec => ?_, q, es, ep, hq, h2, h3, h4, h5⟩, rz, q4 hv⟩
      rw [upd_ne (ne_of ec ea (fun z => nomatch z))]
      exact ec
/-- a thing of the store moves to the store's end -/
def Cf.move (c : Cf) (k : Nat) (a : Addr) (m : MO) : Cf := { c with ρ := c.ρ ++ [a], O := c.O.set k .dead ++ [m] }
theorem Rel.move {k : Nat} {m m' : MO} {a : Addr} {o : HO} (r : Rel K c H) (h : c.O[k]? = some m) (hl : m ≠ .dead) (ha : c.ρ[k]? = some a) (hm : MOk K c.G (c.ρ ++ [a]) m' o) (hb : m'.below c.O.length) : Rel K (c.move k a m') (upd H a o) := by
  obtain ⟨ga, fa, o0, ea, _⟩ := r.live k m a h ha hl
  have old : ∀ (j : Nat) (mj : MO) (b : Addr), (c.O.set k .dead ++ [m'])[j]? = some mj → (c.ρ ++ [a])[j]? = some b → mj ≠ .dead → (c.O[j]? = some mj ∧ c.ρ[j]? = some b ∧ j ≠ k ∧ b ≠ a) ∨ (j = c.O.length ∧ mj = m' ∧ b = a) := fun j mj b h1 h2 h3 => by
    rcases app_at h1 with ⟨k1, e1⟩ | ⟨k1, e1⟩
    · rcases app_at h2 with ⟨k2, e2⟩ | ⟨k2, e2⟩
      · rcases set_at e1 with ⟨q, e3⟩ | ⟨q, e3⟩
        · exact absurd e3.symm h3
        · exact .inl ⟨e3, e2, q, fun z => by subst z; exact q (r.inj j k mj m b e3 h h3 hl e2 ha)⟩
      · rw [r.len] at k2; rw [List.length_set] at k1; omega
    · rcases app_at h2 with ⟨k2, e2⟩ | ⟨k2, e2⟩
      · rw [r.len] at k2; rw [List.length_set] at k1; omega
      · rw [List.length_set] at k1; exact .inr ⟨k1, e1.symm, e2.symm⟩
  refine ⟨fun b u e => ?_, by show (c.ρ ++ [a]).length = (c.O.set k .dead ++ [m']).length; simp [r.len], fun j mj b h1 h2 h3 => ?_, fun i j mi mj b h1 h2 h3 h4 h5 h6 => ?_, fun b u e => ?_, fun j mj h1 => ?_⟩
  · have e' : c.G b = some u := e
    have ne : b ≠ a := fun q => by rw [q, ga] at e'; cases e'
    rw [upd_ne ne]; exact r.ex b u e'
  · rcases old j mj b h1 h2 h3 with ⟨e1, e2, _, ne⟩ | ⟨_, e1, e2⟩
    · obtain ⟨g, f, o', e, mk⟩ := r.live j mj b e1 e2 h3
      exact ⟨g, f, o', by rw [upd_ne ne]; exact e, mk.mono Ext.rfl pre_app⟩
    · subst e1 e2
      exact ⟨ga, fa, o, upd_same, hm⟩
  · rcases old i mi b h1 h5 h3 with ⟨e1, e2, _, ne⟩ | ⟨e0, e1, e2⟩
    · rcases old j mj b h2 h6 h4 with ⟨e3, e4, _, _⟩ | ⟨_, _, e4⟩
      · exact r.inj i j mi mj b e1 e3 h3 h4 e2 e4
      · exact absurd e4 ne
    · rcases old j mj b h2 h6 h4 with ⟨_, _, _, ne⟩ | ⟨e3, _, e4⟩
      · exact absurd e2 ne
      · omega
  · obtain ⟨e1, e2⟩ := r.fr b u e
    have ne : b ≠ a := fun q => by
      subst q
      have e : c.F b = some u := e
      rw [fa] at e; cases e
    exact ⟨by rw [upd_ne ne]; exact e1, e2⟩
  · rcases app_at h1 with ⟨k1, e1⟩ | ⟨k1, e1⟩
    · rcases set_at e1 with ⟨q, e3⟩ | ⟨q, e3⟩
      · subst e3; trivial
      · exact r.wf j mj e3
    · subst e1; rw [k1, List.length_set]; exact hb
theorem Cf.move_le (c : Cf) (k : Nat) (a : Addr) (m : MO) : Le c (c.move k a m) := ⟨Ext.rfl, pre_app, rfl⟩
def setdT (x y : W) : M (Nat × Nat) := fun O => match x, y with
  | .own k, .d d => match O[k]?, keyT d with
    | some (.dicT kvs), some j => if kvs.length < sizeLine then (match lookT j kvs with
      | some (.own i) => .ok (i, k) (O ++ [.lst []])
      | some (.d _) => .no
      | none => .ok (O.length, O.length + 1) (O.set k .dead ++ [.lst [], .dicT (kvs ++ [(j, .own O.length)])])) else .no
    | _, _ => .no
  | _, _ => .no
def dSetApp (i : Nat) (dk de : DE) : DS := fun Γ => do
  let x ← dVar i Γ
  let _ ← wIsT x
  let y ← dk Γ
  let r ← setdT x y
  let _ ← isL (.own r.1)
  let z ← de Γ
  let _ ← wAppend (.own r.1) [z]
  pure (.nx, Γ.set i (some (.own r.2)))
theorem below_lt {n m : Nat} {w : W} (h : w.below n) (hn : n ≤ m) : w.below m := by
  cases w with
  | d _ => trivial
  | own k => exact Nat.lt_of_lt_of_le h hn
theorem c_setApp {i : Nat} {x : Str} {e g : Expr} {dk de : DE} {p1 a1 c1 a2 c2 pos p0 : Pos} (hu : X.A.units + 1 < cLine) (hN : X.N[i]? = some x) (hv : Vis X.env.scope x) (he : PE X e (VT X.K E dk)) (hg : PE X g (VT X.K E de))
    (hd : (x == ("__debug__" : Str)) = false := by decide) (hcd : (x == ("__classdict__" : Str)) = false := by decide)
    (m : M2 X (.Name x p1) "setdefault" a1 e (.List [] p0) c1)
    (hbase : attributeBase (.Call (.Attribute (.Name x p1) "setdefault" a1) [e, .List [] p0] [] c1) "append" X.env (eval (.Call (.Attribute (.Name x p1) "setdefault" a1) [e, .List [] p0] [] c1) X.env) = eval (.Call (.Attribute (.Name x p1) "setdefault" a1) [e, .List [] p0] [] c1) X.env := by rfl)
    (hfew : ((backTo c2 (starEach [g] X.env)).all (fun x => !x.1) && (backToKw c2 (keywordEach [] X.env)).all (fun x => x.1.isSome)
      && decide (([g] : List Expr).length + ([] : List Keyword).length + (if ([] : List Keyword).isEmpty then 0 else 1) < 30)) = true := by rfl)
    (hline : (a2.endLine == c2.line) = true := by rfl) (hs : starEach [g] X.env = (false, eval g X.env) :: starEach [] X.env := by rfl)
    (hsw : swapsWith (.Call (.Attribute (.Call (.Attribute (.Name x p1) "setdefault" a1) [e, .List [] p0] [] c1) "append" a2) [g] [] c2) none pos.line X.env = pure false := by rfl) :
    PS X (.Expr (.Call (.Attribute (.Call (.Attribute (.Name x p1) "setdefault" a1) [e, .List [] p0] [] c1) "append" a2) [g] [] c2) pos) (VS X.K E (dSetApp i dk de)) := by
  refine (ps_expr (pe_bm PySem.F.plainAttrs_list PySem.F.slot_list_append PySem.F.type_list_append mt_append (pe_dsetT hu (pe_var hN hv hd hcd) he (pe_lst pa_nil) m) (pa_cons hg pa_nil hs) hbase hfew hline hs) hsw).imp fun D σ H h => ?_
  obtain ⟨c, Γ, rel, env, p⟩ := h
  have p0 := Post.bind p
  unfold dVar at p0
  cases h1 : Γ[i]? with
  | none => simp only [h1] at p0; exact p0.no
  | some ow =>
    cases ow with
    | none => simp only [h1] at p0; exact p0.no
    | some x =>
      simp only [h1] at p0
      obtain ⟨v, e1, e2⟩ := env.at_ i x h1
      have p1 := Post.here p0 rel
      obtain ⟨a, rfl, hD, p2⟩ := isT_ok rel e2 (Post.bind p1)
      refine ⟨.ref a, e1, a, rfl, hD, c, Γ, rel, env, (Post.bind p2).mono fun y c2 H2 l2 rel2 p3 u ru => ?_⟩
      have e2 := e2.le l2
      have env2 := env.le l2
      show ([] : List V).length ≤ sizeLine ∧ ∀ p, H2 p = none → _
      refine ⟨Nat.zero_le _, fun q hq => ?_⟩
      have p4 := Post.bind p3
      unfold setdT at p4
      cases x with
      | d _ => exact p4.no
      | own k =>
        cases y with
        | own _ => exact p4.no
        | d d =>
          cases q1 : c2.O[k]? with
          | none => simp only [q1] at p4; exact p4.no
          | some m =>
            cases m with
            | dicT kvs =>
              cases q2 : keyT d with
              | none => simp only [q1, q2] at p4; exact p4.no
              | some j =>
                simp only [q1, q2] at p4
                by_cases hl : kvs.length < sizeLine
                · rw [if_pos hl] at p4
                  obtain ⟨a', ha, ea⟩ := e2
                  cases ea
                  obtain ⟨ga, _, o, ho, ys, hy, hp⟩ := rel2.live k _ a q1 ha (by intro z; cases z)
                  subst hy
                  obtain ⟨b, rfl, hb⟩ := keyT_ok rel2 q2 ru
                  have lk := lookT_ok (k := j) hp
                  have naq : a ≠ q := ne_of_none ho hq
                  have nbq : b ≠ q := ne_of_none (rel2.ex _ _ hb) hq
                  -- the new list
                  have rel3 : Rel X.K (c2.push q (.lst [])) (upd H2 q (.lst [])) := rel2.push (o := .lst []) (m := .lst []) hq ⟨[], rfl, reps_nil.mpr rfl, Nat.zero_le _⟩ trivial
                  have l3 : Le c2 (c2.push q (.lst [])) := c2.push_le q _
                  have go : ∀ (c4 : Cf) (H4 : Hp) (i1 k1 : Nat) (av : Addr), Le c2 c4 → Rel X.K c4 H4 → c4.ρ[i1]? = some av → c4.ρ[k1]? = some a → Post X.K E c4 (EndP X.K D) ((isL (.own i1) >>= fun _ => de Γ >>= fun z => wAppend (.own i1) [z] >>= fun _ => (pure (.nx, Γ.set i (some (.own k1))) : M (Fl × Gam))) c4.O) →
                      tyV X.K "list" (.ref av) H4 ∧ (VT X.K E de σ H4 fun x H5 => tNil σ H5 fun xs H6 => rAppend (.ref av) (x :: xs) H6 fun _ H7 => D.nx σ H7) := fun c4 H4 i1 k1 av l4 rel4 hi1 hk1 p5 => by
                    obtain ⟨ty, p6⟩ := isL_ok (w := .own i1) rel4 (v := .ref av) ⟨av, hi1, rfl⟩ (Post.bind p5)
                    refine ⟨ty, c4, Γ, rel4, env2.le l4, (Post.bind p6).mono fun z c5 H5 l5 rel5 p7 vz rz => ?_⟩
                    show rAppend (.ref av) [vz] H5 fun _ H7 => D.nx σ H7
                    refine s_append (E := E) c5 H5 (.own i1) [z] (.ref av) [vz] (fun _ H7 => D.nx σ H7) rel5 ⟨av, l5.pre _ _ hi1, rfl⟩ (.cons rz .nil) ((Post.bind p7).mono fun _ c6 H6 l6 rel6 p8 _ _ => ?_)
                    exact Post.here p8 rel6 σ (((env2.le l4).le l5).le l6 |>.same i e1 ⟨a, l6.pre _ _ (l5.pre _ _ hk1), rfl⟩)
                  refine ⟨ys, j, b, by rw [upd_ne naq]; exact ho, rfl, by rw [upd_ne nbq]; exact rel2.ex _ _ hb, by rw [← hp.length]; exact hl, fun x hx => ?_, fun hn => ?_⟩
                  · cases q3 : lookT j kvs with
                    | none => rw [q3] at lk; rw [show valV ys j = none from lk] at hx; cases hx
                    | some w =>
                      rw [q3] at lk
                      obtain ⟨x', e3, e4⟩ := lk
                      rw [e3] at hx
                      cases hx
                      cases w with
                      | d _ => simp only [q3] at p4; exact p4.no
                      | own i1 =>
                        simp only [q3] at p4
                        obtain ⟨av, h5, rfl⟩ := e4
                        exact go _ _ i1 k av l3 rel3 (l3.pre _ _ h5) (l3.pre _ _ ha) (p4 _ _ l3 rfl rel3)
                  · cases q3 : lookT j kvs with
                    | some w =>
                      rw [q3] at lk
                      obtain ⟨x', e3, _⟩ := lk
                      rw [e3] at hn; cases hn
                    | none =>
                      simp only [q3] at p4
                      have hk : k < c2.O.length := (List.getElem?_eq_some_iff.mp q1).1
                      have hq1 : (c2.push q (.lst [])).O[k]? = some (.dicT kvs) := by
                        show (c2.O ++ [_])[k]? = _
                        rw [List.getElem?_append_left hk]; exact q1
                      have eput : putK ys j (V.ref q) = ys ++ [(j, V.ref q)] := putK_new _ hn
                      have rel4 := rel3.move (m' := .dicT (kvs ++ [(j, .own c2.O.length)])) (o := .dT (putK ys j (V.ref q))) hq1 (by intro z; cases z) (l3.pre _ _ ha) ⟨_, rfl, by
                        rw [eput]
                        refine Paired.snoc (hp.mono fun _ _ z => ⟨z.1, z.2.mono Ext.rfl fun k b h => pre_app _ _ (pre_app _ _ h)⟩) ⟨rfl, q, ?_, rfl⟩
                        exact pre_app _ _ (Cf.push_own rel2)⟩ (fun z hz => by
                          rcases List.mem_append.mp hz with hz | hz
                          · exact below_lt ((rel2.wf k _ q1 : ∀ p ∈ kvs, p.2.below k) z hz) (by show k ≤ (c2.O ++ [MO.lst []]).length; rw [List.length_append]; omega)
                          · rw [List.mem_singleton.mp hz]; show c2.O.length < (c2.O ++ [MO.lst []]).length; simp)
                      have l4 := l3.tr ((c2.push q (.lst [])).move_le k a (.dicT (kvs ++ [(j, .own c2.O.length)])))
                      have eO : ((c2.push q (.lst [])).move k a (.dicT (kvs ++ [(j, .own c2.O.length)]))).O = c2.O.set k .dead ++ [.lst [], .dicT (kvs ++ [(j, .own c2.O.length)])] := by
                        show (c2.O ++ [MO.lst []]).set k .dead ++ [_] = _
                        rw [List.set_append_left _ _ hk, List.append_assoc]; rfl
                      refine go _ _ c2.O.length (c2.O.length + 1) q l4 rel4 ?_ ?_ (p4 _ _ l4 eO rel4)
                      · exact pre_app _ _ (Cf.push_own rel2)
                      · show (c2.ρ ++ [q] ++ [a])[c2.O.length + 1]? = some a
                        rw [← rel2.len]
                        rw [List.getElem?_append_right (by simp)]
                        simp
                · rw [if_neg hl] at p4; exact p4.no
            | _ => simp only [q1] at p4; exact p4.no
end
end VL


set_option maxRecDepth 100000
set_option maxHeartbeats 2000000
/-! The head: a def at any address that a function of the written part tells (a property's getter, too). -/
namespace VH
open PySem PySem.Spec PyProof.Rows L2 He
structure DefG where
  ad : PySem.W.Frag → Addr
  name : Str
  qual : Str
  params : Arguments
  body : List Stmt
  scope : Scope
  dfl : List Dv := []
def fnG (K : PySem.W.Frag) (a : Addr) : FnW := match K.lookup a with
  | some ⟨_, _, .func fd, _⟩ => some (fd.name, fd.qualname, fd.params, fd.body, fd.scope, fd.globals, fd.closure, fd.builtins)
  | _ => none
def DefG.val (d : DefG) : FnW := some (d.name, d.qual, d.params, .stmts d.body, d.scope, mainGlobals, [], builtinsNs)
def DefG.dvs (K : PySem.W.Frag) (d : DefG) : List V := d.dfl.map (Dv.v K)
def DefG.ok (K : PySem.W.Frag) (d : DefG) : Bool := PySem.W.keepIn K (.ref (d.ad K)) && (match K.lookup (d.ad K) with
  | some ⟨_, _, .func fd, _⟩ => PySem.W.codeIn K fd.code d.qual && (dflB K fd.defaults (d.dvs K) && kwdB K fd.kwdefaults [])
  | _ => false)
theorem DefG.funD {K : PySem.W.Frag} {d : DefG} (e : fnG K (d.ad K) = d.val) (c : d.ok K = true) : ∃ fd, FunD K d.name d.qual d.params d.body d.scope (d.dvs K) [] (d.ad K) fd := by
  obtain ⟨kp, c2⟩ := ba c
  unfold fnG at e
  cases q : K.lookup (d.ad K) with
  | none =>
    rw [q] at c2
    cases c2
  | some o =>
    obtain ⟨oc, od, dt, osl⟩ := o
    rw [q] at c2 e
    cases dt with
    | func fd =>
      obtain ⟨n1, n2, n3, n4, n5, n6, n7, n8, n9, n10, n11, n12, n13, n14, n15⟩ := fd
      have e2 : (some (n1, n2, n3, n4, n5, n6, n7, n15) : FnW) = some (d.name, d.qual, d.params, .stmts d.body, d.scope, mainGlobals, [], builtinsNs) := e
      simp only [Option.some.injEq, Prod.mk.injEq] at e2
      obtain ⟨h1, h2, h3, h4, h5, h6, h7, h8⟩ := e2
      subst h1 h2 h3 h4 h5 h6 h7 h8
      have c3 : (PySem.W.codeIn K n13 d.qual && (dflB K n8 (d.dvs K) && kwdB K n9 [])) = true := c2
      obtain ⟨k1, k2⟩ := ba c3
      obtain ⟨k3, k4⟩ := ba k2
      exact ⟨_, ⟨oc, od, n8, n9, n10, n11, n12, n13, n14, osl, rfl, q, k1, dflB_ok k3, kwdB_ok k4⟩, kp⟩
    | _ => cases c2
/-! ### properties, instances' types -/
def pA (K : PySem.W.Frag) (C f : Str) : Addr := match PySem.W.findIn K (.ref (ga K C)) f with
  | some (some (.ref p)) => p
  | _ => 0
def pG (K : PySem.W.Frag) (C f : Str) : Addr := match PySem.W.recIn K (pA K C f) "property" with
  | some (.ref g :: _) => g
  | _ => 0
def propB (C f : Str) (K : PySem.W.Frag) : Bool := eqO (PySem.W.findIn K (.ref (ga K C)) f) (some (some (.ref (pA K C f)))) &&
  (eqO (PySem.W.specialIn K (.ref (pA K C f)) "__get__") (some (some (.builtin "property.__get__"))) && (decide (PySem.W.takesIn K (.ref (pA K C f)) = some true) && (match PySem.W.recIn K (pA K C f) "property" with
    | some (.ref _ :: _) => true
    | _ => false)))
theorem propB_ok {C f : Str} {K : PySem.W.Frag} (h : propB C f K = true) : PropOf K (ga K C) f (pA K C f) (pG K C f) := by
  obtain ⟨h1, h2⟩ := ba h
  obtain ⟨h3, h4⟩ := ba h2
  obtain ⟨h5, h6⟩ := ba h4
  refine ⟨eqO_ok h1, eqO_ok h3, of_decide_eq_true h5, ?_⟩
  unfold pG
  cases q : PySem.W.recIn K (pA K C f) "property" with
  | none => rw [q] at h6; cases h6
  | some l =>
    rw [q] at h6
    cases l with
    | nil => cases h6
    | cons x r =>
      cases x with
      | ref g => exact ⟨r, rfl⟩
      | _ => cases h6
/-- what isinstance asks of an own class -/
def insB (C : Str) (K : PySem.W.Frag) : Bool := eqO (PySem.W.findIn K (.ref (ga K C)) "__class__") (some (some (.builtin "object.__class__"))) &&
  (eqO (PySem.W.specialIn K (.builtin "object.__class__") "__get__") (some (some (.builtin "getset_descriptor.__get__"))) && (decide (PySem.W.takesIn K (.builtin "object.__class__") = some true) && decide (PySem.W.mroIn K (ga K C) (.type "object") = some true)))
structure InsOf (K : PySem.W.Frag) (C : Addr) : Prop where
  ha : PySem.W.findIn K (.ref C) "__class__" = some (some (.builtin "object.__class__"))
  hn : PySem.W.specialIn K (.builtin "object.__class__") "__get__" = some (some (.builtin "getset_descriptor.__get__"))
  htk : PySem.W.takesIn K (.builtin "object.__class__") = some true
  hm : PySem.W.mroIn K C (.type "object") = some true
theorem insB_ok {C : Str} {K : PySem.W.Frag} (h : insB C K = true) : InsOf K (ga K C) := by
  obtain ⟨h1, h2⟩ := ba h
  obtain ⟨h3, h4⟩ := ba h2
  obtain ⟨h5, h6⟩ := ba h4
  exact ⟨eqO_ok h1, eqO_ok h3, of_decide_eq_true h5, of_decide_eq_true h6⟩
/-! ### the Hook -/
abbrev AlG : Type := Bool × List FnW
def obsG (fa : List (PySem.W.Frag → Bool)) (fn : List DefG) (K : PySem.W.Frag) : AlG := ((fa.all fun f => f K) && fn.all fun d => d.ok K, fn.map fun d => fnG K (d.ad K))
def valG (fn : List DefG) : AlG := (true, fn.map DefG.val)
def SaysG (fa : List (PySem.W.Frag → Bool)) (fn : List DefG) (K : PySem.W.Frag) : Prop := obsG fa fn K = valG fn
def obsGG (n : Nat) (fa : List (PySem.W.Frag → Bool)) (fn : List DefG) (g : Addr → Option Obj) : AlG := obsG fa fn (frG g (asD g n))
def hookG (n : Nat) (fa : List (PySem.W.Frag → Bool)) (fn : List DefG) : PySem.W.Hook where
  α := AlG
  obs := fun s => obsGG n fa fn s.heap.get?
  val := fun _ => valG fn
  says := fun _ h => ∃ K : PySem.W.Frag, K.In h ∧ SaysG fa fn K
  of := fun _ _ e => ⟨_, frG_in, e⟩
  keeps := fun _ _ _ ⟨K, hK, c⟩ k => ⟨K, PySem.W.Frag.In.keeps hK k, c⟩
theorem obsGG_eq {n : Nat} {fa : List (PySem.W.Frag → Bool)} {fn : List DefG} {g : Addr → Option Obj} {s : Shared} (h : ∀ a, g a = s.heap.get? a) : obsGG n fa fn g = (hookG n fa fn).obs s := by
  have e : g = s.heap.get? := funext h
  rw [e] <;> rfl
section
variable {fa : List (PySem.W.Frag → Bool)} {fn : List DefG} {K : PySem.W.Frag}
theorem SaysG.fact (c : SaysG fa fn K) (i : Nat) {f : PySem.W.Frag → Bool} (h : fa[i]? = some f := by rfl) : f K = true := by
  have c1 := (ba (show ((fa.all fun f => f K) && fn.all fun d => d.ok K) = true from congrArg (fun z : AlG => z.1) c)).1
  exact List.all_eq_true.mp c1 f (List.mem_of_getElem? h)
theorem SaysG.def_ (c : SaysG fa fn K) (i : Nat) {d : DefG} (h : fn[i]? = some d := by rfl) : ∃ fd, FunD K d.name d.qual d.params d.body d.scope (d.dvs K) [] (d.ad K) fd := by
  have c2 := (ba (show ((fa.all fun f => f K) && fn.all fun d => d.ok K) = true from congrArg (fun z : AlG => z.1) c)).2
  have e : fn.map (fun d => fnG K (d.ad K)) = fn.map DefG.val := congrArg (fun z : AlG => z.2) c
  have e2 : (fn.map fun d => fnG K (d.ad K))[i]? = (fn.map DefG.val)[i]? := by rw [e]
  rw [List.getElem?_map, List.getElem?_map, h] at e2
  exact DefG.funD (Option.some.inj e2) (List.all_eq_true.mp c2 d (List.mem_of_getElem? h))
end
end VH


set_option maxRecDepth 100000
set_option maxHeartbeats 4000000
/-! what the defs of 74 compute: printed by gen.py -/
namespace L74
open PySem L2 VL
def mInt (i : Nat) : Gam → Sto → Nat := fun Γ _ => match Γ[i]? with
  | some (some (.d (.int n))) => n.natAbs + 1
  | _ => 0
def mLen (i : Nat) : Gam → Sto → Nat := fun Γ O => match Γ[i]? with
  | some (some (.own k)) => match O[k]? with
    | some (.lst ds) => ds.length + 1
    | _ => 0
  | _ => 0
noncomputable def d_is_number (A : Str → Addr) : DS := (dRet (dAndV (dCall (w2 wIsi) (dCons (dVar 0) (dCons (dC (.ty "int")) dNil))) (dNotV (dCall (w2 wIsi) (dCons (dVar 0) (dCons (dC (.ty "bool")) dNil))))))
noncomputable def F_is_number (A : Str → Addr) : List W → M W := fnC 0 (d_is_number A)
noncomputable def d_is_list (A : Str → Addr) : DS := (dRet (dIsi2 (dVar 0) "list" "tuple"))
noncomputable def F_is_list (A : Str → Addr) : List W → M W := fnC 0 (d_is_list A)
noncomputable def B0_divisor_of (A : Str → Addr) : DS := (dPar 0 1 (dCons (dVar 1) (dCons (dBin wMod (dVar 0) (dVar 1)) dNil)))
noncomputable def T1_divisor_of (A : Str → Addr) : DT := (dTest (dBin wNe (dVar 1) (dC (.int 0))))
noncomputable def d_divisor_of (A : Str → Addr) : DS := (dSeq (dWhile (mInt 1) (T1_divisor_of A) (B0_divisor_of A))
  (dRet (dVar 0)))
noncomputable def F_divisor_of (A : Str → Addr) : List W → M W := fnC 0 (d_divisor_of A)
noncomputable def d_Table_jobs (A : Str → Addr) : DS := (dRet (dUn (wField (A "Table") "own_jobs") (dVar 0)))
noncomputable def F_Table_jobs (A : Str → Addr) : List W → M W := fnC 0 (d_Table_jobs A)
noncomputable def d_need_table (A : Str → Addr) : DS := (dIfS (dNot (dTest (dCall (w2 (wIsC (A "Table"))) (dCons (dVar 0) (dCons (dC (.adr (A "Table"))) dNil))))) dStop dNext)
noncomputable def F_need_table (A : Str → Addr) : List W → M W := fnC 0 (d_need_table A)
noncomputable def d_running (A : Str → Addr) : DS := (dRet (dLcD (dEnum (dVar 0)) (.tp [(.nm 2), (.tp [(.nm 3), (.nm 4)])]) (dTest (dBin wEq (dBin wMod (dVar 1) (dVar 4)) (dVar 3))) (dVar 2) [2, 3, 4]))
noncomputable def F_running (A : Str → Addr) : List W → M W := fnC 3 (d_running A)
noncomputable def d_running_long (A : Str → Addr) : DS := (dRet (dBin wLt (dBin wMod (dBin wSub (dVar 1) (dBin wIx (dVar 0) (dC (.int 0)))) (dBin wIx (dVar 0) (dC (.int 1)))) (dBin wIx (dVar 0) (dC (.int 2)))))
noncomputable def F_running_long (A : Str → Addr) : List W → M W := fnC 0 (d_running_long A)
noncomputable def d_moments_before (A : Str → Addr) : DS := (dRet (dBin wAdd (dBin wMul (dBin wDiv (dVar 1) (dBin wIx (dVar 0) (dC (.int 1)))) (dBin wIx (dVar 0) (dC (.int 2)))) (dCall (w2 wMin2) (dCons (dBin wMod (dVar 1) (dBin wIx (dVar 0) (dC (.int 1)))) (dCons (dBin wIx (dVar 0) (dC (.int 2))) dNil)))))
noncomputable def F_moments_before (A : Str → Addr) : List W → M W := fnC 0 (d_moments_before A)
noncomputable def d_times_by (A : Str → Addr) : DS := (dSeq (dIfS (dTest (dBin wLt (dVar 2) (dVar 1))) (dRet (dC (.int 0))) dNext)
  (dRet (dBin wSub (dBin wDiv (dBin wSub (dVar 2) (dBin wIx (dVar 0) (dC (.int 0)))) (dBin wIx (dVar 0) (dC (.int 1)))) (dBin wDiv (dBin wSub (dBin wSub (dVar 1) (dC (.int 1))) (dBin wIx (dVar 0) (dC (.int 0)))) (dBin wIx (dVar 0) (dC (.int 1)))))))
noncomputable def F_times_by (A : Str → Addr) : List W → M W := fnC 0 (d_times_by A)
noncomputable def d_z_begun (A : Str → Addr) : DS := (dSeq (dSet 1 (dLcO (dIt (dVar 0)) (.nm 2) (dTest (dBin wGe (dCall (w1 wAbs) (dCons (dVar 2) dNil)) (dBin wPow (dC (.int 10)) (dC (.int 18))))) (dBin wSub (dCall (w1 wAbs) (dCons (dVar 2) dNil)) (dBin wPow (dC (.int 10)) (dC (.int 18)))) [2]))
  (dRet (dDict [("large", (dVar 1)), ("rest", (dC (.int 0))), ("cells", (dLcD (dIt (dVar 0)) (.nm 2) dYes (dCall (w1 wAbs) (dCons (dVar 2) dNil)) [2])), ("turn", (dC (.int 0)))])))
noncomputable def F_z_begun (A : Str → Addr) : List W → M W := runB 2 (d_z_begun A)
noncomputable def B0_z_blend (A : Str → Addr) : DS := (dSet 4 (dBin wMod (dBin wAdd (dBin wMul (dVar 4) (dC (.int 48271))) (dCall (w1 wInt) (dCons (dVar 5) dNil))) (dVar 3)))
noncomputable def B1_z_blend (A : Str → Addr) : DS := (dSeq (dSet 4 (dBin wMod (dBin wAdd (dBin wMul (dVar 1) (dC (.int 69621))) (dBin wDiv (dVar 3) (dC (.int 7)))) (dVar 3)))
  (dSeq (dFor (dIt (dBin wGet (dVar 0) (dC (.str "cells")))) (.nm 5) (B0_z_blend A))
  (dSet 2 (dBin wAdd (dBin wMul (dVar 2) (dC (.int 2147483647))) (dBin wMod (dBin wPow (dVar 4) (dC (.int 5))) (dVar 3))))))
noncomputable def d_z_blend (A : Str → Addr) : DS := (dSeq (dPut (dVar 0) (dC (.str "turn")) (dBin wAdd (dBin wGet (dVar 0) (dC (.str "turn"))) (dC (.int 1))))
  (dSeq (dPar 1 2 (dCons (dCall (w1 wInt) (dCons (dBin wGet (dVar 0) (dC (.str "turn"))) dNil)) (dCons (dC (.int 0)) dNil)))
  (dSeq (dFor (dIt (dLst (dCons (dC (.int 2147483629)) (dCons (dC (.int 2147483587)) (dCons (dC (.int 2147483579)) dNil))))) (.nm 3) (B1_z_blend A))
  (dRet (dVar 2)))))
noncomputable def F_z_blend (A : Str → Addr) : List W → M W := fnC 5 (d_z_blend A)
noncomputable def B0_z_common (A : Str → Addr) : DS := (dPar 0 1 (dCons (dVar 1) (dCons (dBin wMod (dVar 0) (dVar 1)) dNil)))
noncomputable def T1_z_common (A : Str → Addr) : DT := (dTest (dBin wNe (dVar 1) (dC (.int 0))))
noncomputable def d_z_common (A : Str → Addr) : DS := (dSeq (dPar 0 1 (dCons (dCall (w1 wAbs) (dCons (dVar 0) dNil)) (dCons (dCall (w1 wAbs) (dCons (dVar 1) dNil)) dNil)))
  (dSeq (dWhile (mInt 1) (T1_z_common A) (B0_z_common A))
  (dRet (dVar 0))))
noncomputable def F_z_common (A : Str → Addr) : List W → M W := fnC 0 (d_z_common A)
noncomputable def d_z_busy (A : Str → Addr) : DS := (dRet (dBin wLt (dBin wMod (dBin wSub (dVar 1) (dBin wIx (dVar 0) (dC (.int 0)))) (dBin wIx (dVar 0) (dC (.int 1)))) (dBin wIx (dVar 0) (dC (.int 2)))))
noncomputable def F_z_busy (A : Str → Addr) : List W → M W := fnC 0 (d_z_busy A)
noncomputable def d_z_held (A : Str → Addr) : DS := (dRet (dCall (w2 wMax2) (dCons (dVar 1) (dCons (dCall (w2 wMin2) (dCons (dVar 2) (dCons (dVar 0) dNil))) dNil))))
noncomputable def F_z_held (A : Str → Addr) : List W → M W := fnC 0 (d_z_held A)
noncomputable def B0_z_singles (A : Str → Addr) : DS := (dDrop (dMeth wExtend (dVar 1) (dCons (dLcD (dRange1 (dCons (dVar 4) dNil)) (.nm 5) dYes (dTup (dCons (dBin wMod (dBin wAdd (dVar 2) (dVar 5)) (dVar 3)) (dCons (dVar 3) dNil))) [5]) dNil)))
noncomputable def d_z_singles (A : Str → Addr) : DS := (dSeq (dSet 1 (dOwn dNil))
  (dSeq (dFor (dIt (dVar 0)) (.tp [(.nm 2), (.nm 3), (.nm 4)]) (B0_z_singles A))
  (dRet (dIce (dVar 1)))))
noncomputable def F_z_singles (A : Str → Addr) : List W → M W := fnC 5 (d_z_singles A)
noncomputable def d_is_between (A : Str → Addr) : DS := (dRet (dAndV (dCall (dFn 1 [] (F_is_number A)) (dCons (dVar 0) dNil)) (dChain wLe wLe (dVar 1) (dVar 0) (dVar 2))))
noncomputable def F_is_between (A : Str → Addr) : List W → M W := fnC 0 (d_is_between A)
noncomputable def d_multiple_of (A : Str → Addr) : DS := (dRet (dBin wMul (dBin wDiv (dVar 0) (dCall (dFn 2 [] (F_divisor_of A)) (dCons (dVar 0) (dCons (dVar 1) dNil)))) (dVar 1)))
noncomputable def F_multiple_of (A : Str → Addr) : List W → M W := fnC 0 (d_multiple_of A)
noncomputable def d_gap_of (A : Str → Addr) : DS := (dSeq (dSet 2 (dCall (dFn 2 [] (F_divisor_of A)) (dCons (dBin wIx (dVar 0) (dC (.int 1))) (dCons (dBin wIx (dVar 1) (dC (.int 1))) dNil))))
  (dRet (dTup (dCons (dVar 2) (dCons (dBin wMod (dBin wSub (dBin wIx (dVar 1) (dC (.int 0))) (dBin wIx (dVar 0) (dC (.int 0)))) (dVar 2)) dNil)))))
noncomputable def F_gap_of (A : Str → Addr) : List W → M W := fnC 1 (d_gap_of A)
noncomputable def d_total_by (A : Str → Addr) : DS := (dRet (dCall (w1 wSum) (dCons (dLcD (dIt (dVar 0)) (.nm 3) dYes (dCall (dFn 3 [] (F_times_by A)) (dCons (dVar 3) (dCons (dVar 1) (dCons (dVar 2) dNil)))) [3]) dNil)))
noncomputable def F_total_by (A : Str → Addr) : List W → M W := fnC 1 (d_total_by A)
noncomputable def d_z_draw (A : Str → Addr) : DS := (dSeq (dIfS (dTest (dBin wEq (dBin wGet (dVar 0) (dC (.str "rest"))) (dC (.int 0)))) (dPut (dVar 0) (dC (.str "rest")) (dIf (dTest (dBin wNe (dBin wGet (dVar 0) (dC (.str "large"))) (dLst dNil))) (dMeth wPopAt (dBin wGet (dVar 0) (dC (.str "large"))) (dCons (dC (.int 0)) dNil)) (dCall (dFn 1 [] (F_z_blend A)) (dCons (dVar 0) dNil)))) dNext)
  (dSeq (dSet 2 (dBin wMod (dCall (w1 wInt) (dCons (dBin wGet (dVar 0) (dC (.str "rest"))) dNil)) (dVar 1)))
  (dSeq (dPut (dVar 0) (dC (.str "rest")) (dBin wDiv (dCall (w1 wInt) (dCons (dBin wGet (dVar 0) (dC (.str "rest"))) dNil)) (dVar 1)))
  (dRet (dVar 2)))))
noncomputable def F_z_draw (A : Str → Addr) : List W → M W := fnC 1 (d_z_draw A)
noncomputable def d_z_multiple (A : Str → Addr) : DS := (dRet (dBin wMul (dBin wDiv (dVar 0) (dCall (dFn 2 [] (F_z_common A)) (dCons (dVar 0) (dCons (dVar 1) dNil)))) (dVar 1)))
noncomputable def F_z_multiple (A : Str → Addr) : List W → M W := fnC 0 (d_z_multiple A)
noncomputable def d_z_part_gap (A : Str → Addr) : DS := (dSeq (dSet 2 (dCall (dFn 2 [] (F_z_common A)) (dCons (dBin wIx (dVar 0) (dC (.int 1))) (dCons (dBin wIx (dVar 1) (dC (.int 1))) dNil))))
  (dRet (dTup (dCons (dVar 2) (dCons (dBin wMod (dBin wSub (dBin wIx (dVar 1) (dC (.int 0))) (dBin wIx (dVar 0) (dC (.int 0)))) (dVar 2)) dNil)))))
noncomputable def F_z_part_gap (A : Str → Addr) : List W → M W := fnC 1 (d_z_part_gap A)
noncomputable def d_moment_right (A : Str → Addr) : DS := (dRet (dCall (dFn 3 [] (F_is_between A)) (dCons (dVar 0) (dCons (dUn wNeg (dC (.int 1000000000000000000000000000000000000000000000000000000000000000000000000000000000000000000000000000000000000000000000000000000000000000000000000000000000000000000000000000000000000000000000000000000000000000000000000000000000000000000000000000000000000000000000000000000000000000000000000000000000000))) (dCons (dC (.int 1000000000000000000000000000000000000000000000000000000000000000000000000000000000000000000000000000000000000000000000000000000000000000000000000000000000000000000000000000000000000000000000000000000000000000000000000000000000000000000000000000000000000000000000000000000000000000000000000000000000000)) dNil)))))
noncomputable def F_moment_right (A : Str → Addr) : List W → M W := fnC 0 (d_moment_right A)
noncomputable def d_job_right (A : Str → Addr) : DS := (dSeq (dIfS (dOr (dNot (dTest (dCall (w2 wIsi) (dCons (dVar 0) (dCons (dC (.ty "tuple")) dNil))))) (dOr (dTest (dBin wNe (dCall (w1 wLen) (dCons (dVar 0) dNil)) (dC (.int 2)))) (dNot (dTest (dCall (dFn 3 [] (F_is_between A)) (dCons (dBin wIx (dVar 0) (dC (.int 1))) (dCons (dC (.int 1)) (dCons (dC (.int 1000000000000)) dNil)))))))) (dRet (dC (.bl false))) dNext)
  (dRet (dCall (dFn 3 [] (F_is_between A)) (dCons (dBin wIx (dVar 0) (dC (.int 0))) (dCons (dC (.int 0)) (dCons (dBin wSub (dBin wIx (dVar 0) (dC (.int 1))) (dC (.int 1))) dNil))))))
noncomputable def F_job_right (A : Str → Addr) : List W → M W := fnC 0 (d_job_right A)
noncomputable def d_long_right (A : Str → Addr) : DS := (dSeq (dIfS (dOr (dNot (dTest (dCall (w2 wIsi) (dCons (dVar 0) (dCons (dC (.ty "tuple")) dNil))))) (dOr (dTest (dBin wNe (dCall (w1 wLen) (dCons (dVar 0) dNil)) (dC (.int 3)))) (dNot (dTest (dCall (dFn 3 [] (F_is_between A)) (dCons (dBin wIx (dVar 0) (dC (.int 1))) (dCons (dC (.int 1)) (dCons (dC (.int 1000000000000)) dNil)))))))) (dRet (dC (.bl false))) dNext)
  (dRet (dAndV (dCall (dFn 3 [] (F_is_between A)) (dCons (dBin wIx (dVar 0) (dC (.int 0))) (dCons (dC (.int 0)) (dCons (dBin wSub (dBin wIx (dVar 0) (dC (.int 1))) (dC (.int 1))) dNil)))) (dCall (dFn 3 [] (F_is_between A)) (dCons (dBin wIx (dVar 0) (dC (.int 2))) (dCons (dC (.int 1)) (dCons (dBin wIx (dVar 0) (dC (.int 1))) dNil)))))))
noncomputable def F_long_right (A : Str → Addr) : List W → M W := fnC 0 (d_long_right A)
noncomputable def d_keeps_apart (A : Str → Addr) : DS := (dSeq (dAsg (.tp [(.nm 2), (.nm 3)]) (dCall (dFn 2 [] (F_gap_of A)) (dCons (dVar 0) (dCons (dVar 1) dNil))))
  (dRet (dChain wLe wLe (dBin wIx (dVar 0) (dC (.int 2))) (dVar 3) (dBin wSub (dVar 2) (dBin wIx (dVar 1) (dC (.int 2)))))))
noncomputable def F_keeps_apart (A : Str → Addr) : List W → M W := fnC 2 (d_keeps_apart A)
noncomputable def B0_round_by_longs (A : Str → Addr) : DS := (dSet 1 (dCall (dFn 2 [] (F_multiple_of A)) (dCons (dVar 1) (dCons (dVar 3) dNil))))
noncomputable def d_round_by_longs (A : Str → Addr) : DS := (dSeq (dSet 1 (dC (.int 1)))
  (dSeq (dFor (dIt (dVar 0)) (.tp [(.nm 2), (.nm 3), (.nm 4)]) (B0_round_by_longs A))
  (dRet (dVar 1))))
noncomputable def F_round_by_longs (A : Str → Addr) : List W → M W := fnC 4 (d_round_by_longs A)
noncomputable def d_size_right (A : Str → Addr) : DS := (dSeq (dIfS (dOr (dNot (dTest (dCall (w2 wIsi) (dCons (dVar 0) (dCons (dC (.ty "tuple")) dNil))))) (dOr (dTest (dBin wNe (dCall (w1 wLen) (dCons (dVar 0) dNil)) (dC (.int 2)))) (dNot (dTest (dCall (dFn 3 [] (F_is_between A)) (dCons (dBin wIx (dVar 0) (dC (.int 0))) (dCons (dC (.int 1)) (dCons (dC (.int 1000000000000)) dNil)))))))) (dRet (dC (.bl false))) dNext)
  (dRet (dCall (dFn 3 [] (F_is_between A)) (dCons (dBin wIx (dVar 0) (dC (.int 1))) (dCons (dC (.int 1)) (dCons (dBin wIx (dVar 0) (dC (.int 0))) dNil))))))
noncomputable def F_size_right (A : Str → Addr) : List W → M W := fnC 0 (d_size_right A)
noncomputable def B0_rooms_by (A : Str → Addr) : DS := (dIfS (dTest (dBin wNe (dVar 6) (dVar 2))) (dSet 5 (dCall (dFn 2 [] (F_multiple_of A)) (dCons (dVar 5) (dCons (dCall (dFn 2 [] (F_divisor_of A)) (dCons (dVar 3) (dCons (dBin wIx (dVar 7) (dC (.int 0))) dNil))) dNil)))) dNext)
noncomputable def B1_rooms_by (A : Str → Addr) : DS := (dSeq (dSet 5 (dC (.int 1)))
  (dSeq (dFor (dEnum (dVar 0)) (.tp [(.nm 6), (.nm 7)]) (B0_rooms_by A))
  (dDrop (dMeth wAppend (dVar 1) (dCons (dVar 5) dNil)))))
noncomputable def d_rooms_by (A : Str → Addr) : DS := (dSeq (dSet 1 (dOwn dNil))
  (dSeq (dFor (dEnum (dVar 0)) (.tp [(.nm 2), (.tp [(.nm 3), (.nm 4)])]) (B1_rooms_by A))
  (dRet (dIce (dVar 1)))))
noncomputable def F_rooms_by (A : Str → Addr) : List W → M W := fnC 7 (d_rooms_by A)
noncomputable def d_z_pick (A : Str → Addr) : DS := (dRet (dBin wIx (dVar 1) (dCall (dFn 2 [] (F_z_draw A)) (dCons (dVar 0) (dCons (dCall (w1 wLen) (dCons (dVar 1) dNil)) dNil)))))
noncomputable def F_z_pick (A : Str → Addr) : List W → M W := fnC 0 (d_z_pick A)
noncomputable def d_z_apart (A : Str → Addr) : DS := (dSeq (dAsg (.tp [(.nm 2), (.nm 3)]) (dCall (dFn 2 [] (F_z_part_gap A)) (dCons (dVar 0) (dCons (dVar 1) dNil))))
  (dRet (dAndV (dBin wLe (dBin wIx (dVar 0) (dC (.int 2))) (dVar 3)) (dBin wLe (dBin wAdd (dVar 3) (dBin wIx (dVar 1) (dC (.int 2)))) (dVar 2)))))
noncomputable def F_z_apart (A : Str → Addr) : List W → M W := fnC 2 (d_z_apart A)
noncomputable def B0_z_rooms (A : Str → Addr) : DS := (dIfS (dTest (dBin wNe (dVar 5) (dVar 2))) (dSet 4 (dCall (dFn 2 [] (F_z_multiple A)) (dCons (dVar 4) (dCons (dCall (dFn 2 [] (F_z_common A)) (dCons (dBin wIx (dVar 3) (dC (.int 0))) (dCons (dBin wIx (dVar 6) (dC (.int 0))) dNil))) dNil)))) dNext)
noncomputable def B1_z_rooms (A : Str → Addr) : DS := (dSeq (dSet 4 (dC (.int 1)))
  (dSeq (dFor (dEnum (dVar 0)) (.tp [(.nm 5), (.nm 6)]) (B0_z_rooms A))
  (dDrop (dMeth wAppend (dVar 1) (dCons (dVar 4) dNil)))))
noncomputable def d_z_rooms (A : Str → Addr) : DS := (dSeq (dSet 1 (dOwn dNil))
  (dSeq (dFor (dEnum (dVar 0)) (.tp [(.nm 2), (.nm 3)]) (B1_z_rooms A))
  (dRet (dIce (dVar 1)))))
noncomputable def F_z_rooms (A : Str → Addr) : List W → M W := fnC 6 (d_z_rooms A)
noncomputable def B0_z_round (A : Str → Addr) : DS := (dSet 1 (dCall (dFn 2 [] (F_z_multiple A)) (dCons (dVar 1) (dCons (dBin wIx (dVar 2) (dC (.int 1))) dNil))))
noncomputable def d_z_round (A : Str → Addr) : DS := (dSeq (dSet 1 (dC (.int 1)))
  (dSeq (dFor (dIt (dVar 0)) (.nm 2) (B0_z_round A))
  (dRet (dVar 1))))
noncomputable def F_z_round (A : Str → Addr) : List W → M W := fnC 2 (d_z_round A)
noncomputable def d_need_moment (A : Str → Addr) : DS := (dIfS (dNot (dTest (dCall (dFn 1 [] (F_moment_right A)) (dCons (dVar 0) dNil)))) dStop dNext)
noncomputable def F_need_moment (A : Str → Addr) : List W → M W := fnC 0 (d_need_moment A)
noncomputable def B0_Table_init (A : Str → Addr) : DS := (dIfS (dNot (dTest (dCall (dFn 1 [] (F_job_right A)) (dCons (dVar 3) dNil)))) dStop dNext)
noncomputable def d_Table_init (A : Str → Addr) : DS := (dSeq (dIfS (dOr (dNot (dTest (dCall (dFn 1 [] (F_is_list A)) (dCons (dVar 1) dNil)))) (dTest (dBin wGt (dCall (w1 wLen) (dCons (dVar 1) dNil)) (dC (.int 20))))) dStop dNext)
  (dSeq (dFor (dEnum (dVar 1)) (.tp [(.nm 2), (.nm 3)]) (B0_Table_init A))
  (dFldS (A "Table") "own_jobs" (dVar 0) (dCall (w1 wTuple) (dCons (dVar 1) dNil)))))
noncomputable def F_Table_init (A : Str → Addr) : List W → M W := fnC 2 (d_Table_init A)
noncomputable def d_need_long (A : Str → Addr) : DS := (dIfS (dNot (dTest (dCall (dFn 1 [] (F_long_right A)) (dCons (dVar 0) dNil)))) dStop dNext)
noncomputable def F_need_long (A : Str → Addr) : List W → M W := fnC 0 (d_need_long A)
noncomputable def B0_need_longs (A : Str → Addr) : DS := (dIfS (dNot (dTest (dCall (dFn 1 [] (F_long_right A)) (dCons (dVar 2) dNil)))) dStop dNext)
noncomputable def d_need_longs (A : Str → Addr) : DS := (dSeq (dIfS (dOr (dNot (dTest (dCall (dFn 1 [] (F_is_list A)) (dCons (dVar 0) dNil)))) (dNot (dTest (dChain wLe wLe (dC (.int 1)) (dCall (w1 wLen) (dCons (dVar 0) dNil)) (dC (.int 12)))))) dStop dNext)
  (dFor (dEnum (dVar 0)) (.tp [(.nm 1), (.nm 2)]) (B0_need_longs A)))
noncomputable def F_need_longs (A : Str → Addr) : List W → M W := fnC 2 (d_need_longs A)
noncomputable def B0_numbers_of (A : Str → Addr) : DS := (dSeq (dSet 9 (dBin wAdd (dVar 9) (dVar 10)))
  (dDrop (dMeth wAppend (dVar 8) (dCons (dVar 9) dNil))))
noncomputable def B1_numbers_of (A : Str → Addr) : DS := (dSeq (dSet 7 (dBin wAdd (dVar 6) (dVar 5)))
  (dSeq (dAugI wIAdd (dVar 2) (dVar 6) (dC (.int 1)))
  (dIfS (dTest (dBin wLe (dVar 7) (dVar 1))) (dAugI wISub (dVar 2) (dVar 7) (dC (.int 1))) (dSeq (dAugI wIAdd (dVar 2) (dC (.int 0)) (dC (.int 1)))
  (dAugI wISub (dVar 2) (dBin wSub (dVar 7) (dVar 1)) (dC (.int 1)))))))
noncomputable def B2_numbers_of (A : Str → Addr) : DS := (dFor (dRange3 (dCons (dVar 3) (dCons (dVar 1) (dCons (dVar 4) dNil)))) (.nm 6) (B1_numbers_of A))
noncomputable def d_numbers_of (A : Str → Addr) : DS := (dSeq (dSet 1 (dCall (dFn 1 [] (F_round_by_longs A)) (dCons (dVar 0) dNil)))
  (dSeq (dSet 2 (dBin wRepO (dLst (dCons (dC (.int 0)) dNil)) (dBin wAdd (dVar 1) (dC (.int 1)))))
  (dSeq (dFor (dIt (dVar 0)) (.tp [(.nm 3), (.nm 4), (.nm 5)]) (B2_numbers_of A))
  (dSeq (dPar 8 9 (dCons (dOwn dNil) (dCons (dC (.int 0)) dNil)))
  (dSeq (dFor (dIt (dSl wSlL (dVar 2) dNo (dPart (dVar 1)))) (.nm 10) (B0_numbers_of A))
  (dRet (dIce (dVar 8))))))))
noncomputable def F_numbers_of (A : Str → Addr) : List W → M W := fnC 10 (d_numbers_of A)
noncomputable def B0_need_sizes (A : Str → Addr) : DS := (dIfS (dNot (dTest (dCall (dFn 1 [] (F_size_right A)) (dCons (dVar 2) dNil)))) dStop dNext)
noncomputable def d_need_sizes (A : Str → Addr) : DS := (dSeq (dIfS (dOr (dNot (dTest (dCall (dFn 1 [] (F_is_list A)) (dCons (dVar 0) dNil)))) (dNot (dTest (dChain wLe wLe (dC (.int 1)) (dCall (w1 wLen) (dCons (dVar 0) dNil)) (dC (.int 6)))))) dStop dNext)
  (dFor (dEnum (dVar 0)) (.tp [(.nm 1), (.nm 2)]) (B0_need_sizes A)))
noncomputable def F_need_sizes (A : Str → Addr) : List W → M W := fnC 2 (d_need_sizes A)
noncomputable def B0_clash_in (A : Str → Addr) : DS := (dIfS (dNot (dTest (dCall (dFn 2 [] (F_keeps_apart A)) (dCons (dTup (dCons (dBin wIx (dVar 1) (dVar 4)) (dStar (dBin wIx (dVar 0) (dVar 4)) dNil))) (dCons (dVar 3) dNil))))) (dRet (dTup (dCons (dVar 4) (dCons (dVar 2) dNil)))) dNext)
noncomputable def d_clash_in (A : Str → Addr) : DS := (dSeq (dSet 2 (dBin wSub (dCall (w1 wLen) (dCons (dVar 1) dNil)) (dC (.int 1))))
  (dSeq (dSet 3 (dTup (dCons (dBin wIx (dVar 1) (dVar 2)) (dStar (dBin wIx (dVar 0) (dVar 2)) dNil))))
  (dSeq (dFor (dRange1 (dCons (dVar 2) dNil)) (.nm 4) (B0_clash_in A))
  (dRet (dC .non)))))
noncomputable def F_clash_in (A : Str → Addr) : List W → M W := fnC 3 (d_clash_in A)
noncomputable def d_z_some_long (A : Str → Addr) : DS := (dSeq (dSet 1 (dBin wAdd (dC (.int 1)) (dCall (dFn 2 [] (F_z_draw A)) (dCons (dVar 0) (dCons (dCall (dFn 2 [] (F_z_pick A)) (dCons (dVar 0) (dCons (dLst (dCons (dC (.int 1)) (dCons (dC (.int 4)) (dCons (dC (.int 12)) (dCons (dC (.int 12)) (dCons (dC (.int 40)) (dCons (dBin wPow (dC (.int 10)) (dC (.int 6))) (dCons (dBin wPow (dC (.int 10)) (dC (.int 12))) dNil)))))))) dNil))) dNil)))))
  (dSeq (dSet 2 (dCall (dFn 2 [] (F_z_pick A)) (dCons (dVar 0) (dCons (dLst (dCons (dC (.int 1)) (dCons (dC (.int 1)) (dCons (dVar 1) (dCons (dBin wAdd (dC (.int 1)) (dCall (dFn 2 [] (F_z_draw A)) (dCons (dVar 0) (dCons (dVar 1) dNil)))) (dCons (dBin wAdd (dC (.int 1)) (dCall (dFn 2 [] (F_z_draw A)) (dCons (dVar 0) (dCons (dBin wAdd (dC (.int 1)) (dBin wDiv (dVar 1) (dC (.int 2)))) dNil)))) dNil)))))) dNil))))
  (dRet (dTup (dCons (dCall (dFn 2 [] (F_z_draw A)) (dCons (dVar 0) (dCons (dVar 1) dNil))) (dCons (dVar 1) (dCons (dCall (w2 wMin2) (dCons (dVar 2) (dCons (dVar 1) dNil))) dNil)))))))
noncomputable def F_z_some_long (A : Str → Addr) : List W → M W := fnC 2 (d_z_some_long A)
noncomputable def B0_z_ways (A : Str → Addr) : DS := (dSet 1 (dBin wMul (dVar 1) (dVar 2)))
noncomputable def d_z_ways (A : Str → Addr) : DS := (dSeq (dSet 1 (dC (.int 1)))
  (dSeq (dFor (dIt (dSl wSlL (dCall (dFn 1 [] (F_z_rooms A)) (dCons (dVar 0) dNil)) (dPart (dC (.int 1))) dNo)) (.nm 2) (B0_z_ways A))
  (dRet (dVar 1))))
noncomputable def F_z_ways (A : Str → Addr) : List W → M W := fnC 2 (d_z_ways A)
noncomputable def B0_z_first_clash (A : Str → Addr) : DS := (dIfS (dNot (dTest (dCall (dFn 2 [] (F_z_apart A)) (dCons (dBin wAdd (dTup (dCons (dBin wIx (dVar 1) (dVar 3)) dNil)) (dBin wIx (dVar 0) (dVar 3))) (dCons (dBin wAdd (dTup (dCons (dBin wIx (dVar 1) (dVar 2)) dNil)) (dBin wIx (dVar 0) (dVar 2))) dNil))))) (dRet (dTup (dCons (dVar 3) (dCons (dVar 2) dNil)))) dNext)
noncomputable def B1_z_first_clash (A : Str → Addr) : DS := (dFor (dRange1 (dCons (dVar 2) dNil)) (.nm 3) (B0_z_first_clash A))
noncomputable def d_z_first_clash (A : Str → Addr) : DS := (dSeq (dFor (dRange1 (dCons (dCall (w1 wLen) (dCons (dVar 1) dNil)) dNil)) (.nm 2) (B1_z_first_clash A))
  (dRet (dC .non)))
noncomputable def F_z_first_clash (A : Str → Addr) : List W → M W := fnC 2 (d_z_first_clash A)
noncomputable def d_count_at (A : Str → Addr) : DS := (dSeq (dDrop (dCall (dFn 2 [D.non] (F_need_table A)) (dCons (dVar 0) dNil)))
  (dSeq (dDrop (dCall (dFn 1 [] (F_need_moment A)) (dCons (dVar 1) dNil)))
  (dRet (dCall (w1 wLen) (dCons (dCall (dFn 2 [] (F_running A)) (dCons (dUn (wProp (A "Table") 1 (F_Table_jobs A)) (dVar 0)) (dCons (dVar 1) dNil))) dNil)))))
noncomputable def F_count_at (A : Str → Addr) : List W → M W := fnC 0 (d_count_at A)
noncomputable def d_runs_then (A : Str → Addr) : DS := (dSeq (dDrop (dCall (dFn 2 [D.non] (F_need_long A)) (dCons (dVar 0) dNil)))
  (dSeq (dDrop (dCall (dFn 1 [] (F_need_moment A)) (dCons (dVar 1) dNil)))
  (dRet (dCall (dFn 2 [] (F_running_long A)) (dCons (dVar 0) (dCons (dVar 1) dNil))))))
noncomputable def F_runs_then (A : Str → Addr) : List W → M W := fnC 0 (d_runs_then A)
noncomputable def d_moments_in (A : Str → Addr) : DS := (dSeq (dDrop (dCall (dFn 2 [D.non] (F_need_long A)) (dCons (dVar 0) dNil)))
  (dSeq (dDrop (dCall (dFn 1 [] (F_need_moment A)) (dCons (dVar 1) dNil)))
  (dSeq (dDrop (dCall (dFn 1 [] (F_need_moment A)) (dCons (dVar 2) dNil)))
  (dSeq (dIfS (dTest (dBin wLt (dVar 2) (dVar 1))) (dRet (dC (.int 0))) dNext)
  (dRet (dBin wSub (dCall (dFn 2 [] (F_moments_before A)) (dCons (dVar 0) (dCons (dBin wSub (dBin wAdd (dVar 2) (dC (.int 1))) (dBin wIx (dVar 0) (dC (.int 0)))) dNil))) (dCall (dFn 2 [] (F_moments_before A)) (dCons (dVar 0) (dCons (dBin wSub (dVar 1) (dBin wIx (dVar 0) (dC (.int 0)))) dNil)))))))))
noncomputable def F_moments_in (A : Str → Addr) : List W → M W := fnC 0 (d_moments_in A)
noncomputable def B0_clashing (A : Str → Addr) : DS := (dSeq (dSet 4 (dCall (w2 wRng) (dCons (dBin wAdd (dVar 2) (dC (.int 1))) (dCons (dCall (w1 wLen) (dCons (dVar 0) dNil)) dNil))))
  (dDrop (dMeth wExtend (dVar 1) (dCons (dLcD (dRngV (dVar 4)) (.nm 5) (dNot (dTest (dCall (dFn 2 [] (F_keeps_apart A)) (dCons (dVar 3) (dCons (dBin wIx (dVar 0) (dVar 5)) dNil))))) (dTup (dCons (dVar 2) (dCons (dVar 5) dNil))) [5]) dNil))))
noncomputable def d_clashing (A : Str → Addr) : DS := (dSeq (dDrop (dCall (dFn 1 [] (F_need_longs A)) (dCons (dVar 0) dNil)))
  (dSeq (dSet 1 (dOwn dNil))
  (dSeq (dFor (dEnum (dVar 0)) (.tp [(.nm 2), (.nm 3)]) (B0_clashing A))
  (dRet (dIce (dVar 1))))))
noncomputable def F_clashing (A : Str → Addr) : List W → M W := fnC 5 (d_clashing A)
noncomputable def d_need_short_round (A : Str → Addr) : DS := (dSeq (dDrop (dCall (dFn 1 [] (F_need_longs A)) (dCons (dVar 0) dNil)))
  (dIfS (dTest (dBin wGt (dCall (dFn 1 [] (F_round_by_longs A)) (dCons (dVar 0) dNil)) (dC (.int 1000000)))) dStop dNext))
noncomputable def F_need_short_round (A : Str → Addr) : List W → M W := fnC 0 (d_need_short_round A)
noncomputable def B0_free_rests (A : Str → Addr) : DS := (dSet 3 (dCall (dFn 2 [] (F_multiple_of A)) (dCons (dVar 3) (dCons (dCall (dFn 2 [] (F_divisor_of A)) (dCons (dVar 1) (dCons (dBin wIx (dVar 4) (dC (.int 1))) dNil))) dNil))))
noncomputable def d_free_rests (A : Str → Addr) : DS := (dSeq (dDrop (dCall (dFn 1 [] (F_need_longs A)) (dCons (dVar 0) dNil)))
  (dSeq (dIfS (dNot (dTest (dCall (dFn 3 [] (F_is_between A)) (dCons (dVar 1) (dCons (dC (.int 1)) (dCons (dC (.int 1000000000000)) dNil)))))) dStop dNext)
  (dSeq (dIfS (dNot (dTest (dCall (dFn 3 [] (F_is_between A)) (dCons (dVar 2) (dCons (dC (.int 1)) (dCons (dVar 1) dNil)))))) dStop dNext)
  (dSeq (dSet 3 (dC (.int 1)))
  (dSeq (dFor (dIt (dVar 0)) (.nm 4) (B0_free_rests A))
  (dSeq (dIfS (dTest (dBin wGt (dVar 3) (dC (.int 1000000)))) dStop dNext)
  (dSeq (dSet 5 (dLcD (dRange1 (dCons (dVar 3) dNil)) (.nm 6) (dTest (dCall (w1 wAll) (dCons (dLcD (dIt (dVar 0)) (.nm 4) dYes (dCall (dFn 2 [] (F_keeps_apart A)) (dCons (dVar 4) (dCons (dTup (dCons (dVar 6) (dCons (dVar 1) (dCons (dVar 2) dNil)))) dNil))) [4]) dNil))) (dVar 6) [6]))
  (dRet (dTup (dCons (dVar 3) (dCons (dCall (w1 wTuple) (dCons (dVar 5) dNil)) dNil)))))))))))
noncomputable def F_free_rests (A : Str → Addr) : List W → M W := fnC 4 (d_free_rests A)
noncomputable def d_total_in (A : Str → Addr) : DS := (dSeq (dDrop (dCall (dFn 2 [D.non] (F_need_table A)) (dCons (dVar 0) dNil)))
  (dSeq (dDrop (dCall (dFn 1 [] (F_need_moment A)) (dCons (dVar 1) dNil)))
  (dSeq (dDrop (dCall (dFn 1 [] (F_need_moment A)) (dCons (dVar 2) dNil)))
  (dRet (dCall (dFn 3 [] (F_total_by A)) (dCons (dUn (wProp (A "Table") 1 (F_Table_jobs A)) (dVar 0)) (dCons (dVar 1) (dCons (dVar 2) dNil))))))))
noncomputable def F_total_in (A : Str → Addr) : List W → M W := fnC 0 (d_total_in A)
noncomputable def B0_levels_of (A : Str → Addr) : DS := (dIfS (dTest (dBin wIsN (dCall (dFn 2 [] (F_clash_in A)) (dCons (dVar 0) (dCons (dVar 5) dNil))) (dC .non))) (dDrop (dMeth wExtend (dVar 4) (dCons (dLcD (dRange1 (dCons (dVar 3) dNil)) (.nm 6) dYes (dTup (dStar (dVar 5) (dCons (dVar 6) dNil))) [6]) dNil))) dNext)
noncomputable def B1_levels_of (A : Str → Addr) : DS := (dSeq (dSet 4 (dOwn dNil))
  (dSeq (dFor (dIt (dBin wIx (dVar 2) (dUn wNeg (dC (.int 1))))) (.nm 5) (B0_levels_of A))
  (dDrop (dMeth wAppend (dVar 2) (dCons (dIce (dVar 4)) dNil)))))
noncomputable def d_levels_of (A : Str → Addr) : DS := (dSeq (dSet 2 (dOwn (dCons (dLst (dCons (dTup (dCons (dC (.int 0)) dNil)) dNil)) dNil)))
  (dSeq (dFor (dIt (dSl wSlL (dVar 1) (dPart (dC (.int 1))) dNo)) (.nm 3) (B1_levels_of A))
  (dSeq (dSet 7 (dLcD (dIt (dBin wIx (dVar 2) (dUn wNeg (dC (.int 1))))) (.nm 5) (dAnd (dTest (dBin wEq (dCall (w1 wLen) (dCons (dVar 5) dNil)) (dCall (w1 wLen) (dCons (dVar 0) dNil)))) (dTest (dBin wIsN (dCall (dFn 2 [] (F_clash_in A)) (dCons (dVar 0) (dCons (dVar 5) dNil))) (dC .non)))) (dVar 5) [5]))
  (dRet (dTup (dCons (dIce (dVar 2)) (dCons (dVar 7) dNil)))))))
noncomputable def F_levels_of (A : Str → Addr) : List W → M W := fnC 6 (d_levels_of A)
noncomputable def B0_tree_of (A : Str → Addr) : DS := (dSeq (dSet 6 (dCall (dFn 2 [] (F_clash_in A)) (dCons (dVar 0) (dCons (dVar 5) dNil))))
  (dSeq (dIfS (dTest (dBin wNotN (dVar 6) (dC .non))) (dSet 7 (dTup (dCons (dC (.str "clash")) (dStar (dVar 6) dNil)))) (dSet 7 (dTup (dCons (dC (.str "try")) (dCons (dCall (w1 wTuple) (dCons (dGetT2 (dVar 2) (dVar 5) (dTup dNil)) dNil)) dNil)))))
  (dSetApp 4 (dSl wSlT (dVar 5) dNo (dPart (dUn wNeg (dC (.int 1))))) (dVar 7))))
noncomputable def B1_tree_of (A : Str → Addr) : DS := (dSeq (dSet 4 dNewT)
  (dSeq (dFor (dIt (dVar 3)) (.nm 5) (B0_tree_of A))
  (dSet 2 (dVar 4))))
noncomputable def d_tree_of (A : Str → Addr) : DS := (dSeq (dSet 2 dNewT)
  (dSeq (dFor (dIt (dUn wRev (dVar 1))) (.nm 3) (B1_tree_of A))
  (dRet (dBin wIx (dBin wGetT (dVar 2) (dTup dNil)) (dC (.int 0))))))
noncomputable def F_tree_of (A : Str → Addr) : List W → M W := fnC 6 (d_tree_of A)
noncomputable def B0_z_found_rests (A : Str → Addr) : DS := (dDrop (dMeth wExtend (dVar 4) (dCons (dLcD (dRange1 (dCons (dVar 3) dNil)) (.nm 6) dYes (dBin wAdd (dVar 5) (dTup (dCons (dVar 6) dNil))) [6]) dNil)))
noncomputable def B1_z_found_rests (A : Str → Addr) : DS := (dSeq (dSet 4 (dOwn dNil))
  (dSeq (dFor (dIt (dVar 2)) (.nm 5) (B0_z_found_rests A))
  (dSet 2 (dLcD (dIt (dVar 4)) (.nm 5) (dTest (dBin wIsN (dCall (dFn 2 [] (F_z_first_clash A)) (dCons (dVar 0) (dCons (dVar 5) dNil))) (dC .non))) (dVar 5) [5]))))
noncomputable def d_z_found_rests (A : Str → Addr) : DS := (dSeq (dPar 1 2 (dCons (dCall (dFn 1 [] (F_z_rooms A)) (dCons (dVar 0) dNil)) (dCons (dLst (dCons (dTup (dCons (dC (.int 0)) dNil)) dNil)) dNil)))
  (dSeq (dFor (dIt (dSl wSlL (dVar 1) (dPart (dC (.int 1))) dNo)) (.nm 3) (B1_z_found_rests A))
  (dRet (dIf (dTest (dBin wNe (dVar 2) (dLst dNil))) (dBin wIx (dVar 2) (dC (.int 0))) (dC .non)))))
noncomputable def F_z_found_rests (A : Str → Addr) : List W → M W := fnC 6 (d_z_found_rests A)
noncomputable def B0_z_some_sizes (A : Str → Addr) : DS := (dSeq (dSet 6 (dCall (dFn 2 [] (F_z_pick A)) (dCons (dVar 0) (dCons (dLst (dCons (dVar 3) (dCons (dBin wMul (dC (.int 2)) (dVar 3)) (dCons (dBin wMul (dC (.int 3)) (dVar 3)) (dCons (dBin wMul (dVar 3) (dBin wAdd (dC (.int 1)) (dCall (dFn 2 [] (F_z_draw A)) (dCons (dVar 0) (dCons (dC (.int 9)) dNil))))) (dCons (dBin wAdd (dC (.int 1)) (dCall (dFn 2 [] (F_z_draw A)) (dCons (dVar 0) (dCons (dC (.int 12)) dNil)))) (dCons (dBin wMul (dVar 3) (dC (.int 999983))) dNil))))))) dNil))))
  (dSeq (dSet 7 (dTup (dCons (dVar 6) (dCons (dCall (dFn 3 [] (F_z_held A)) (dCons (dCall (dFn 2 [] (F_z_pick A)) (dCons (dVar 0) (dCons (dLst (dCons (dC (.int 1)) (dCons (dC (.int 1)) (dCons (dBin wAdd (dC (.int 1)) (dBin wDiv (dVar 3) (dC (.int 2)))) (dCons (dBin wDiv (dVar 3) (dBin wAdd (dC (.int 1)) (dCall (dFn 2 [] (F_z_draw A)) (dCons (dVar 0) (dCons (dC (.int 4)) dNil))))) (dCons (dBin wAdd (dC (.int 1)) (dCall (dFn 2 [] (F_z_draw A)) (dCons (dVar 0) (dCons (dVar 6) dNil)))) dNil)))))) dNil))) (dCons (dC (.int 1)) (dCons (dVar 6) dNil)))) dNil))))
  (dIfS (dTest (dBin wLe (dCall (dFn 1 [] (F_z_ways A)) (dCons (dBin wAdd (dVar 4) (dLst (dCons (dVar 7) dNil))) dNil)) (dVar 2))) (dDrop (dMeth wAppend (dVar 4) (dCons (dVar 7) dNil))) dNext)))
noncomputable def d_z_some_sizes (A : Str → Addr) : DS := (dSeq (dSet 3 (dBin wAdd (dC (.int 1)) (dCall (dFn 2 [] (F_z_draw A)) (dCons (dVar 0) (dCons (dCall (dFn 2 [] (F_z_pick A)) (dCons (dVar 0) (dCons (dLst (dCons (dC (.int 3)) (dCons (dC (.int 6)) (dCons (dC (.int 12)) dNil)))) dNil))) dNil)))))
  (dSeq (dSet 4 (dOwn dNil))
  (dSeq (dFor (dRange1 (dCons (dVar 1) dNil)) (.nm 5) (B0_z_some_sizes A))
  (dRet (dIf (dTest (dBin wNe (dVar 4) (dLst dNil))) (dIce (dVar 4)) (dLst (dCons (dTup (dCons (dVar 3) (dCons (dC (.int 1)) dNil))) dNil)))))))
noncomputable def F_z_some_sizes (A : Str → Addr) : List W → M W := fnC 5 (d_z_some_sizes A)
noncomputable def d_most_long (A : Str → Addr) : DS := (dSeq (dDrop (dCall (dFn 1 [] (F_need_short_round A)) (dCons (dVar 0) dNil)))
  (dSeq (dSet 1 (dCall (dFn 1 [] (F_numbers_of A)) (dCons (dVar 0) dNil)))
  (dSeq (dSet 2 (dCall (w1 wMaxL) (dCons (dVar 1) dNil)))
  (dRet (dTup (dCons (dVar 2) (dCons (dMeth wIndex (dVar 1) (dCons (dVar 2) dNil)) dNil)))))))
noncomputable def F_most_long (A : Str → Addr) : List W → M W := fnC 2 (d_most_long A)
noncomputable def B0_rests_paper (A : Str → Addr) : DS := (dSet 2 (dBin wMul (dVar 2) (dVar 3)))
noncomputable def d_rests_paper (A : Str → Addr) : DS := (dSeq (dDrop (dCall (dFn 1 [] (F_need_sizes A)) (dCons (dVar 0) dNil)))
  (dSeq (dPar 1 2 (dCons (dCall (dFn 1 [] (F_rooms_by A)) (dCons (dVar 0) dNil)) (dCons (dC (.int 1)) dNil)))
  (dSeq (dFor (dIt (dSl wSlL (dVar 1) (dPart (dC (.int 1))) dNo)) (.nm 3) (B0_rests_paper A))
  (dSeq (dIfS (dTest (dBin wGt (dVar 2) (dC (.int 20000)))) dStop dNext)
  (dSeq (dAsg (.tp [(.nm 4), (.nm 5)]) (dCall (dFn 2 [] (F_levels_of A)) (dCons (dVar 0) (dCons (dVar 1) dNil))))
  (dSeq (dIfS (dTest (dBin wNe (dVar 5) (dLst dNil))) (dRet (dTup (dCons (dC (.str "rests")) (dCons (dBin wIx (dVar 5) (dC (.int 0))) dNil)))) dNext)
  (dRet (dTup (dCons (dC (.str "tree")) (dCons (dCall (dFn 2 [] (F_tree_of A)) (dCons (dVar 0) (dCons (dVar 4) dNil))) dNil))))))))))
noncomputable def F_rests_paper (A : Str → Addr) : List W → M W := fnC 5 (d_rests_paper A)
noncomputable def B0_z_put_in (A : Str → Addr) : DS := (dSeq (dAsg (.tp [(.nm 6), (.nm 7)]) (dCall (dFn 3 [] (F_free_rests A)) (dCons (dVar 5) (dCons (dVar 2) (dCons (dVar 3) dNil)))))
  (dDrop (dMeth wExtend (dVar 4) (dCons (dLcD (dIt (dVar 7)) (.nm 8) dYes (dBin wAdd (dVar 5) (dLst (dCons (dTup (dCons (dVar 8) (dCons (dVar 2) (dCons (dVar 3) dNil)))) dNil))) [8]) dNil))))
noncomputable def B1_z_put_in (A : Str → Addr) : DS := (dSeq (dSet 4 (dOwn dNil))
  (dSeq (dFor (dIt (dVar 1)) (.nm 5) (B0_z_put_in A))
  (dSet 1 (dIce (dVar 4)))))
noncomputable def d_z_put_in (A : Str → Addr) : DS := (dSeq (dSet 1 (dLst (dCons (dLst (dCons (dBin wAdd (dTup (dCons (dC (.int 0)) dNil)) (dBin wIx (dVar 0) (dC (.int 0)))) dNil)) dNil)))
  (dSeq (dFor (dIt (dSl wSlL (dVar 0) (dPart (dC (.int 1))) dNo)) (.tp [(.nm 2), (.nm 3)]) (B1_z_put_in A))
  (dRet (dVar 1))))
noncomputable def F_z_put_in (A : Str → Addr) : List W → M W := fnC 8 (d_z_put_in A)
noncomputable def B0_law (A : Str → Addr) : DS := (dSeq (dSet 11 (dCall (w1 wLen) (dCons (dLcD (dIt (dVar 6)) (.nm 8) (dTest (dCall (dFn 2 [] (F_runs_then A)) (dCons (dVar 8) (dCons (dVar 10) dNil)))) (dC (.int 1)) [8]) dNil)))
  (dSeq (dIfS (dOr (dTest (dBin wNe (dVar 11) (dCall (w1 wLen) (dCons (dLcD (dIt (dVar 6)) (.nm 8) (dTest (dCall (dFn 2 [] (F_z_busy A)) (dCons (dVar 8) (dCons (dVar 10) dNil)))) (dC (.int 1)) [8]) dNil)))) (dTest (dBin wNe (dCall (dFn 2 [] (F_count_at A)) (dCons (dVar 9) (dCons (dVar 10) dNil))) (dVar 11)))) (dRet (dC (.bl false))) dNext)
  (dSeq (dSet 12 (dBin wAdd (dVar 10) (dCall (dFn 2 [] (F_z_draw A)) (dCons (dVar 1) (dCons (dBin wPow (dC (.int 10)) (dC (.int 13))) dNil)))))
  (dIfS (dTest (dBin wNe (dCall (dFn 3 [] (F_total_in A)) (dCons (dVar 9) (dCons (dVar 10) (dCons (dVar 12) dNil)))) (dCall (w1 wSum) (dCons (dLcD (dIt (dVar 6)) (.nm 8) dYes (dCall (dFn 3 [] (F_moments_in A)) (dCons (dVar 8) (dCons (dVar 10) (dCons (dVar 12) dNil)))) [8]) dNil)))) (dRet (dC (.bl false))) dNext))))
noncomputable def B1_law (A : Str → Addr) : DS := (dDrop (dMeth0 wPop (dVar 6)))
noncomputable def T2_law (A : Str → Addr) : DT := (dTest (dBin wGt (dCall (w1 wSum) (dCons (dLcD (dIt (dVar 6)) (.nm 8) dYes (dBin wIx (dVar 8) (dC (.int 2))) [8]) dNil)) (dC (.int 20))))
noncomputable def B3_law (A : Str → Addr) : DS := (dSeq (dSet 8 (dCall (dFn 1 [] (F_z_some_long A)) (dCons (dVar 1) dNil)))
  (dDrop (dMeth wAppend (dVar 6) (dCons (dTup (dCons (dBin wIx (dVar 8) (dC (.int 0))) (dCons (dBin wIx (dVar 8) (dC (.int 1))) (dCons (dCall wMin3 (dCons (dBin wIx (dVar 8) (dC (.int 2))) (dCons (dBin wAdd (dC (.int 1)) (dCall (dFn 2 [] (F_z_draw A)) (dCons (dVar 1) (dCons (dC (.int 8)) dNil)))) (dCons (dBin wIx (dVar 8) (dC (.int 1))) dNil)))) dNil)))) dNil))))
noncomputable def B4_law (A : Str → Addr) : DS := (dIfS (dOr (dTest (dBin wNe (dCall (dFn 1 [] (F_clashing A)) (dCons (dVar 5) dNil)) (dLst dNil))) (dAnd (dTest (dBin wLe (dCall (dFn 1 [] (F_z_round A)) (dCons (dVar 5) dNil)) (dC (.int 2000)))) (dTest (dBin wNe (dBin wIx (dCall (dFn 1 [] (F_most_long A)) (dCons (dVar 5) dNil)) (dC (.int 0))) (dC (.int 1)))))) (dRet (dC (.bl false))) dNext)
noncomputable def B5_law (A : Str → Addr) : DS := (dSeq (dSet 3 (dCall (dFn 3 [] (F_z_some_sizes A)) (dCons (dVar 1) (dCons (dBin wAdd (dC (.int 1)) (dCall (dFn 2 [] (F_z_draw A)) (dCons (dVar 1) (dCons (dC (.int 4)) dNil)))) (dCons (dC (.int 120)) dNil)))))
  (dSeq (dSet 4 (dCall (dFn 1 [] (F_z_put_in A)) (dCons (dVar 3) dNil)))
  (dSeq (dIfS (dOr (dTest (dBin wNe (dBin wIx (dCall (dFn 1 [] (F_rests_paper A)) (dCons (dVar 3) dNil)) (dC (.int 0))) (dIf (dTest (dBin wNe (dVar 4) (dLst dNil))) (dC (.str "rests")) (dC (.str "tree"))))) (dTest (dBin wNe (dBin wNe (dVar 4) (dLst dNil)) (dBin wNotN (dCall (dFn 1 [] (F_z_found_rests A)) (dCons (dVar 3) dNil)) (dC .non))))) (dRet (dC (.bl false))) dNext)
  (dSeq (dFor (dIt (dBin wAdd (dSl wSlL (dVar 4) dNo (dPart (dC (.int 1)))) (dSl wSlL (dVar 4) (dPart (dUn wNeg (dC (.int 1)))) dNo))) (.nm 5) (B4_law A))
  (dSeq (dSet 6 (dOwn dNil))
  (dSeq (dFor (dRange1 (dCons (dBin wAdd (dC (.int 1)) (dCall (dFn 2 [] (F_z_draw A)) (dCons (dVar 1) (dCons (dC (.int 6)) dNil)))) dNil)) (.nm 7) (B3_law A))
  (dSeq (dWhile (mLen 6) (T2_law A) (B1_law A))
  (dSeq (dIfS (dTest (dBin wEq (dVar 6) (dLst dNil))) (dSet 6 (dOwn (dCons (dTup (dCons (dC (.int 0)) (dCons (dC (.int 2)) (dCons (dC (.int 1)) dNil)))) dNil))) dNext)
  (dFrz 6 (dSeq (dSet 9 (dCall (mkIns (A "Table") 2 (F_Table_init A)) (dCons (dCall (dFn 1 [] (F_z_singles A)) (dCons (dIce (dVar 6)) dNil)) dNil)))
  (dFor (dIt (dLst (dCons (dBin wSub (dCall (dFn 2 [] (F_z_draw A)) (dCons (dVar 1) (dCons (dBin wPow (dC (.int 10)) (dC (.int 30))) dNil))) (dBin wPow (dC (.int 10)) (dC (.int 29)))) (dCons (dBin wIx (dBin wIx (dVar 6) (dC (.int 0))) (dC (.int 0))) (dCons (dBin wAdd (dBin wIx (dBin wIx (dVar 6) (dUn wNeg (dC (.int 1)))) (dC (.int 0))) (dBin wIx (dBin wIx (dVar 6) (dUn wNeg (dC (.int 1)))) (dC (.int 2)))) (dCons (dC (.int 0)) dNil)))))) (.nm 10) (B0_law A))))))))))))
noncomputable def d_law (A : Str → Addr) : DS := (dSeq (dSet 1 (dCall (dFn 1 [] (F_z_begun A)) (dCons (dVar 0) dNil)))
  (dSeq (dFor (dRange1 (dCons (dBin wAdd (dC (.int 3)) (dCall (w2 wMin2) (dCons (dCall (w1 wLen) (dCons (dVar 0) dNil)) (dCons (dC (.int 5)) dNil)))) dNil)) (.nm 2) (B5_law A))
  (dRet (dC (.bl true)))))
noncomputable def F_law (A : Str → Addr) : List W → M W := fnC 12 (d_law A)
end L74


set_option maxRecDepth 100000
set_option maxHeartbeats 4000000
/-! what the top of 74 leaves: printed by gen.py -/
namespace L74
open PySem PySem.Spec PyProof.Rows L2
abbrev prog_ := PySem.Challenge.pw_turnscover_k74_whole_jobs_put_in_one_by
def top (i : Nat) : Stmt := prog_.main.body.getD i (.Pass ⟨0, 0, 0, 0⟩)
abbrev s_is_number : Stmt := top 13
abbrev s_is_list : Stmt := top 15
abbrev s_divisor_of : Stmt := top 23
abbrev s_Table_jobs : Stmt := inClass (top 27) 1
abbrev s_need_table : Stmt := top 28
abbrev s_running : Stmt := top 29
abbrev s_running_long : Stmt := top 36
abbrev s_moments_before : Stmt := top 38
abbrev s_times_by : Stmt := top 53
abbrev s_z_begun : Stmt := top 67
abbrev s_z_blend : Stmt := top 68
abbrev s_z_common : Stmt := top 71
abbrev s_z_busy : Stmt := top 73
abbrev s_z_held : Stmt := top 77
abbrev s_z_singles : Stmt := top 85
abbrev s_is_between : Stmt := top 14
abbrev s_multiple_of : Stmt := top 24
abbrev s_gap_of : Stmt := top 41
abbrev s_total_by : Stmt := top 54
abbrev s_z_draw : Stmt := top 69
abbrev s_z_multiple : Stmt := top 72
abbrev s_z_part_gap : Stmt := top 74
abbrev s_moment_right : Stmt := top 20
abbrev s_job_right : Stmt := top 22
abbrev s_long_right : Stmt := top 33
abbrev s_keeps_apart : Stmt := top 42
abbrev s_round_by_longs : Stmt := top 46
abbrev s_size_right : Stmt := top 59
abbrev s_rooms_by : Stmt := top 61
abbrev s_z_pick : Stmt := top 70
abbrev s_z_apart : Stmt := top 75
abbrev s_z_rooms : Stmt := top 78
abbrev s_z_round : Stmt := top 83
abbrev s_need_moment : Stmt := top 21
abbrev s_Table_init : Stmt := inClass (top 27) 0
abbrev s_need_long : Stmt := top 34
abbrev s_need_longs : Stmt := top 35
abbrev s_numbers_of : Stmt := top 48
abbrev s_need_sizes : Stmt := top 60
abbrev s_clash_in : Stmt := top 62
abbrev s_z_some_long : Stmt := top 76
abbrev s_z_ways : Stmt := top 79
abbrev s_z_first_clash : Stmt := top 80
abbrev s_count_at : Stmt := top 30
abbrev s_runs_then : Stmt := top 37
abbrev s_moments_in : Stmt := top 39
abbrev s_clashing : Stmt := top 43
abbrev s_need_short_round : Stmt := top 47
abbrev s_free_rests : Stmt := top 51
abbrev s_total_in : Stmt := top 55
abbrev s_levels_of : Stmt := top 63
abbrev s_tree_of : Stmt := top 64
abbrev s_z_found_rests : Stmt := top 81
abbrev s_z_some_sizes : Stmt := top 82
abbrev s_most_long : Stmt := top 49
abbrev s_rests_paper : Stmt := top 65
abbrev s_z_put_in : Stmt := top 84
abbrev s_law : Stmt := top 86
def g_is_number : VH.DefG := ⟨fun K => He.ga K "is_number", "is_number", "is_number", defArgs s_is_number, defBody s_is_number, defScope s_is_number, []⟩
def g_is_list : VH.DefG := ⟨fun K => He.ga K "is_list", "is_list", "is_list", defArgs s_is_list, defBody s_is_list, defScope s_is_list, []⟩
def g_divisor_of : VH.DefG := ⟨fun K => He.ga K "divisor_of", "divisor_of", "divisor_of", defArgs s_divisor_of, defBody s_divisor_of, defScope s_divisor_of, []⟩
def g_Table_jobs : VH.DefG := ⟨fun K => VH.pG K "Table" "jobs", "jobs", "Table.jobs", defArgs s_Table_jobs, defBody s_Table_jobs, defScope s_Table_jobs, []⟩
def g_need_table : VH.DefG := ⟨fun K => He.ga K "need_table", "need_table", "need_table", defArgs s_need_table, defBody s_need_table, defScope s_need_table, [.non]⟩
def g_running : VH.DefG := ⟨fun K => He.ga K "running", "running", "running", defArgs s_running, defBody s_running, defScope s_running, []⟩
def g_running_long : VH.DefG := ⟨fun K => He.ga K "running_long", "running_long", "running_long", defArgs s_running_long, defBody s_running_long, defScope s_running_long, []⟩
def g_moments_before : VH.DefG := ⟨fun K => He.ga K "moments_before", "moments_before", "moments_before", defArgs s_moments_before, defBody s_moments_before, defScope s_moments_before, []⟩
def g_times_by : VH.DefG := ⟨fun K => He.ga K "times_by", "times_by", "times_by", defArgs s_times_by, defBody s_times_by, defScope s_times_by, []⟩
def g_z_begun : VH.DefG := ⟨fun K => He.ga K "_law_begun", "_law_begun", "_law_begun", defArgs s_z_begun, defBody s_z_begun, defScope s_z_begun, []⟩
def g_z_blend : VH.DefG := ⟨fun K => He.ga K "_law_blend", "_law_blend", "_law_blend", defArgs s_z_blend, defBody s_z_blend, defScope s_z_blend, []⟩
def g_z_common : VH.DefG := ⟨fun K => He.ga K "_law_common", "_law_common", "_law_common", defArgs s_z_common, defBody s_z_common, defScope s_z_common, []⟩
def g_z_busy : VH.DefG := ⟨fun K => He.ga K "_law_busy", "_law_busy", "_law_busy", defArgs s_z_busy, defBody s_z_busy, defScope s_z_busy, []⟩
def g_z_held : VH.DefG := ⟨fun K => He.ga K "_law_held", "_law_held", "_law_held", defArgs s_z_held, defBody s_z_held, defScope s_z_held, []⟩
def g_z_singles : VH.DefG := ⟨fun K => He.ga K "_law_singles", "_law_singles", "_law_singles", defArgs s_z_singles, defBody s_z_singles, defScope s_z_singles, []⟩
def g_is_between : VH.DefG := ⟨fun K => He.ga K "is_between", "is_between", "is_between", defArgs s_is_between, defBody s_is_between, defScope s_is_between, []⟩
def g_multiple_of : VH.DefG := ⟨fun K => He.ga K "multiple_of", "multiple_of", "multiple_of", defArgs s_multiple_of, defBody s_multiple_of, defScope s_multiple_of, []⟩
def g_gap_of : VH.DefG := ⟨fun K => He.ga K "gap_of", "gap_of", "gap_of", defArgs s_gap_of, defBody s_gap_of, defScope s_gap_of, []⟩
def g_total_by : VH.DefG := ⟨fun K => He.ga K "total_by", "total_by", "total_by", defArgs s_total_by, defBody s_total_by, defScope s_total_by, []⟩
def g_z_draw : VH.DefG := ⟨fun K => He.ga K "_law_draw", "_law_draw", "_law_draw", defArgs s_z_draw, defBody s_z_draw, defScope s_z_draw, []⟩
def g_z_multiple : VH.DefG := ⟨fun K => He.ga K "_law_multiple", "_law_multiple", "_law_multiple", defArgs s_z_multiple, defBody s_z_multiple, defScope s_z_multiple, []⟩
def g_z_part_gap : VH.DefG := ⟨fun K => He.ga K "_law_part_gap", "_law_part_gap", "_law_part_gap", defArgs s_z_part_gap, defBody s_z_part_gap, defScope s_z_part_gap, []⟩
def g_moment_right : VH.DefG := ⟨fun K => He.ga K "moment_right", "moment_right", "moment_right", defArgs s_moment_right, defBody s_moment_right, defScope s_moment_right, []⟩
def g_job_right : VH.DefG := ⟨fun K => He.ga K "job_right", "job_right", "job_right", defArgs s_job_right, defBody s_job_right, defScope s_job_right, []⟩
def g_long_right : VH.DefG := ⟨fun K => He.ga K "long_right", "long_right", "long_right", defArgs s_long_right, defBody s_long_right, defScope s_long_right, []⟩
def g_keeps_apart : VH.DefG := ⟨fun K => He.ga K "keeps_apart", "keeps_apart", "keeps_apart", defArgs s_keeps_apart, defBody s_keeps_apart, defScope s_keeps_apart, []⟩
def g_round_by_longs : VH.DefG := ⟨fun K => He.ga K "round_by_longs", "round_by_longs", "round_by_longs", defArgs s_round_by_longs, defBody s_round_by_longs, defScope s_round_by_longs, []⟩
def g_size_right : VH.DefG := ⟨fun K => He.ga K "size_right", "size_right", "size_right", defArgs s_size_right, defBody s_size_right, defScope s_size_right, []⟩
def g_rooms_by : VH.DefG := ⟨fun K => He.ga K "rooms_by", "rooms_by", "rooms_by", defArgs s_rooms_by, defBody s_rooms_by, defScope s_rooms_by, []⟩
def g_z_pick : VH.DefG := ⟨fun K => He.ga K "_law_pick", "_law_pick", "_law_pick", defArgs s_z_pick, defBody s_z_pick, defScope s_z_pick, []⟩
def g_z_apart : VH.DefG := ⟨fun K => He.ga K "_law_apart", "_law_apart", "_law_apart", defArgs s_z_apart, defBody s_z_apart, defScope s_z_apart, []⟩
def g_z_rooms : VH.DefG := ⟨fun K => He.ga K "_law_rooms", "_law_rooms", "_law_rooms", defArgs s_z_rooms, defBody s_z_rooms, defScope s_z_rooms, []⟩
def g_z_round : VH.DefG := ⟨fun K => He.ga K "_law_round", "_law_round", "_law_round", defArgs s_z_round, defBody s_z_round, defScope s_z_round, []⟩
def g_need_moment : VH.DefG := ⟨fun K => He.ga K "need_moment", "need_moment", "need_moment", defArgs s_need_moment, defBody s_need_moment, defScope s_need_moment, []⟩
def g_Table_init : VH.DefG := ⟨fun K => He.ma K (He.ga K "Table") "__init__", "__init__", "Table.__init__", defArgs s_Table_init, defBody s_Table_init, defScope s_Table_init, []⟩
def g_need_long : VH.DefG := ⟨fun K => He.ga K "need_long", "need_long", "need_long", defArgs s_need_long, defBody s_need_long, defScope s_need_long, [.non]⟩
def g_need_longs : VH.DefG := ⟨fun K => He.ga K "need_longs", "need_longs", "need_longs", defArgs s_need_longs, defBody s_need_longs, defScope s_need_longs, []⟩
def g_numbers_of : VH.DefG := ⟨fun K => He.ga K "numbers_of", "numbers_of", "numbers_of", defArgs s_numbers_of, defBody s_numbers_of, defScope s_numbers_of, []⟩
def g_need_sizes : VH.DefG := ⟨fun K => He.ga K "need_sizes", "need_sizes", "need_sizes", defArgs s_need_sizes, defBody s_need_sizes, defScope s_need_sizes, []⟩
def g_clash_in : VH.DefG := ⟨fun K => He.ga K "clash_in", "clash_in", "clash_in", defArgs s_clash_in, defBody s_clash_in, defScope s_clash_in, []⟩
def g_z_some_long : VH.DefG := ⟨fun K => He.ga K "_law_some_long", "_law_some_long", "_law_some_long", defArgs s_z_some_long, defBody s_z_some_long, defScope s_z_some_long, []⟩
def g_z_ways : VH.DefG := ⟨fun K => He.ga K "_law_ways", "_law_ways", "_law_ways", defArgs s_z_ways, defBody s_z_ways, defScope s_z_ways, []⟩
def g_z_first_clash : VH.DefG := ⟨fun K => He.ga K "_law_first_clash", "_law_first_clash", "_law_first_clash", defArgs s_z_first_clash, defBody s_z_first_clash, defScope s_z_first_clash, []⟩
def g_count_at : VH.DefG := ⟨fun K => He.ga K "count_at", "count_at", "count_at", defArgs s_count_at, defBody s_count_at, defScope s_count_at, []⟩
def g_runs_then : VH.DefG := ⟨fun K => He.ga K "runs_then", "runs_then", "runs_then", defArgs s_runs_then, defBody s_runs_then, defScope s_runs_then, []⟩
def g_moments_in : VH.DefG := ⟨fun K => He.ga K "moments_in", "moments_in", "moments_in", defArgs s_moments_in, defBody s_moments_in, defScope s_moments_in, []⟩
def g_clashing : VH.DefG := ⟨fun K => He.ga K "clashing", "clashing", "clashing", defArgs s_clashing, defBody s_clashing, defScope s_clashing, []⟩
def g_need_short_round : VH.DefG := ⟨fun K => He.ga K "need_short_round", "need_short_round", "need_short_round", defArgs s_need_short_round, defBody s_need_short_round, defScope s_need_short_round, []⟩
def g_free_rests : VH.DefG := ⟨fun K => He.ga K "free_rests", "free_rests", "free_rests", defArgs s_free_rests, defBody s_free_rests, defScope s_free_rests, []⟩
def g_total_in : VH.DefG := ⟨fun K => He.ga K "total_in", "total_in", "total_in", defArgs s_total_in, defBody s_total_in, defScope s_total_in, []⟩
def g_levels_of : VH.DefG := ⟨fun K => He.ga K "levels_of", "levels_of", "levels_of", defArgs s_levels_of, defBody s_levels_of, defScope s_levels_of, []⟩
def g_tree_of : VH.DefG := ⟨fun K => He.ga K "tree_of", "tree_of", "tree_of", defArgs s_tree_of, defBody s_tree_of, defScope s_tree_of, []⟩
def g_z_found_rests : VH.DefG := ⟨fun K => He.ga K "_law_found_rests", "_law_found_rests", "_law_found_rests", defArgs s_z_found_rests, defBody s_z_found_rests, defScope s_z_found_rests, []⟩
def g_z_some_sizes : VH.DefG := ⟨fun K => He.ga K "_law_some_sizes", "_law_some_sizes", "_law_some_sizes", defArgs s_z_some_sizes, defBody s_z_some_sizes, defScope s_z_some_sizes, []⟩
def g_most_long : VH.DefG := ⟨fun K => He.ga K "most_long", "most_long", "most_long", defArgs s_most_long, defBody s_most_long, defScope s_most_long, []⟩
def g_rests_paper : VH.DefG := ⟨fun K => He.ga K "rests_paper", "rests_paper", "rests_paper", defArgs s_rests_paper, defBody s_rests_paper, defScope s_rests_paper, []⟩
def g_z_put_in : VH.DefG := ⟨fun K => He.ga K "_law_put_in", "_law_put_in", "_law_put_in", defArgs s_z_put_in, defBody s_z_put_in, defScope s_z_put_in, []⟩
def g_law : VH.DefG := ⟨fun K => He.ga K "law", "law", "law", defArgs s_law, defBody s_law, defScope s_law, []⟩
def fn : List VH.DefG := [g_is_number, g_is_list, g_divisor_of, g_Table_jobs, g_need_table, g_running, g_running_long, g_moments_before, g_times_by, g_z_begun, g_z_blend, g_z_common, g_z_busy, g_z_held, g_z_singles, g_is_between, g_multiple_of, g_gap_of, g_total_by, g_z_draw, g_z_multiple, g_z_part_gap, g_moment_right, g_job_right, g_long_right, g_keeps_apart, g_round_by_longs, g_size_right, g_rooms_by, g_z_pick, g_z_apart, g_z_rooms, g_z_round, g_need_moment, g_Table_init, g_need_long, g_need_longs, g_numbers_of, g_need_sizes, g_clash_in, g_z_some_long, g_z_ways, g_z_first_clash, g_count_at, g_runs_then, g_moments_in, g_clashing, g_need_short_round, g_free_rests, g_total_in, g_levels_of, g_tree_of, g_z_found_rests, g_z_some_sizes, g_most_long, g_rests_paper, g_z_put_in, g_law]
def fa : List (PySem.W.Frag → Bool) := [fun K => (He.Fa.glo "_law_draw").ok K,
  fun K => (He.Fa.glo "total_in").ok K,
  fun K => (He.Fa.glo "moments_in").ok K,
  fun K => (He.Fa.glo "_law_busy").ok K,
  fun K => (He.Fa.glo "count_at").ok K,
  fun K => (He.Fa.glo "runs_then").ok K,
  fun K => (He.Fa.glo "_law_singles").ok K,
  fun K => (He.Fa.glo "Table").ok K,
  fun K => (He.Fa.glo "_law_some_long").ok K,
  fun K => (He.Fa.glo "clashing").ok K,
  fun K => (He.Fa.glo "_law_round").ok K,
  fun K => (He.Fa.glo "most_long").ok K,
  fun K => (He.Fa.glo "rests_paper").ok K,
  fun K => (He.Fa.glo "_law_found_rests").ok K,
  fun K => (He.Fa.glo "_law_put_in").ok K,
  fun K => (He.Fa.glo "_law_some_sizes").ok K,
  fun K => (He.Fa.glo "_law_begun").ok K,
  fun K => (He.Fa.glo "job_right").ok K,
  fun K => (He.Fa.glo "is_list").ok K,
  fun K => (He.Fa.glo "is_between").ok K,
  fun K => (He.Fa.glo "is_number").ok K,
  fun K => (He.Fa.glo "_law_blend").ok K,
  fun K => (He.Fa.glo "_law_first_clash").ok K,
  fun K => (He.Fa.glo "_law_rooms").ok K,
  fun K => (He.Fa.glo "_law_apart").ok K,
  fun K => (He.Fa.glo "_law_part_gap").ok K,
  fun K => (He.Fa.glo "_law_common").ok K,
  fun K => (He.Fa.glo "_law_multiple").ok K,
  fun K => (He.Fa.glo "free_rests").ok K,
  fun K => (He.Fa.glo "keeps_apart").ok K,
  fun K => (He.Fa.glo "divisor_of").ok K,
  fun K => (He.Fa.glo "multiple_of").ok K,
  fun K => (He.Fa.glo "need_longs").ok K,
  fun K => (He.Fa.glo "gap_of").ok K,
  fun K => (He.Fa.glo "long_right").ok K,
  fun K => (He.Fa.glo "_law_pick").ok K,
  fun K => (He.Fa.glo "_law_ways").ok K,
  fun K => (He.Fa.glo "_law_held").ok K,
  fun K => (He.Fa.glo "running").ok K,
  fun K => (He.Fa.glo "need_moment").ok K,
  fun K => (He.Fa.glo "need_table").ok K,
  fun K => (He.Fa.glo "moment_right").ok K,
  fun K => (He.Fa.glo "moments_before").ok K,
  fun K => (He.Fa.glo "need_long").ok K,
  fun K => (He.Fa.glo "numbers_of").ok K,
  fun K => (He.Fa.glo "need_short_round").ok K,
  fun K => (He.Fa.glo "round_by_longs").ok K,
  fun K => (He.Fa.glo "tree_of").ok K,
  fun K => (He.Fa.glo "levels_of").ok K,
  fun K => (He.Fa.glo "rooms_by").ok K,
  fun K => (He.Fa.glo "need_sizes").ok K,
  fun K => (He.Fa.glo "clash_in").ok K,
  fun K => (He.Fa.glo "size_right").ok K,
  fun K => (He.Fa.glo "running_long").ok K,
  fun K => (He.Fa.glo "total_by").ok K,
  fun K => (He.Fa.glo "times_by").ok K,
  fun K => (He.Fa.free "len").ok K,
  fun K => (He.Fa.free "min").ok K,
  fun K => (He.Fa.free "range").ok K,
  fun K => (He.Fa.free "sum").ok K,
  fun K => (He.Fa.free "tuple").ok K,
  fun K => (He.Fa.free "enumerate").ok K,
  fun K => (He.Fa.free "isinstance").ok K,
  fun K => (He.Fa.free "list").ok K,
  fun K => (He.Fa.free "int").ok K,
  fun K => (He.Fa.free "bool").ok K,
  fun K => (He.Fa.free "abs").ok K,
  fun K => (He.Fa.free "all").ok K,
  fun K => (He.Fa.free "max").ok K,
  fun K => (He.Fa.int "MOST_JOBS" 20).ok K,
  fun K => (He.Fa.int "MOST_PERIOD" 1000000000000).ok K,
  fun K => (He.Fa.int "MOST_ROUND" 1000000).ok K,
  fun K => (He.Fa.int "MOST_LONGS" 12).ok K,
  fun K => (He.Fa.int "FARTHEST" 1000000000000000000000000000000000000000000000000000000000000000000000000000000000000000000000000000000000000000000000000000000000000000000000000000000000000000000000000000000000000000000000000000000000000000000000000000000000000000000000000000000000000000000000000000000000000000000000000000000000000).ok K,
  fun K => (He.Fa.int "MOST_WAYS" 20000).ok K,
  fun K => (He.Fa.int "MOST_SIZES" 6).ok K,
  fun K => (He.Fa.cls "Table").ok K,
  fun K => (He.Fa.noat "Table" "own_jobs").ok K,
  fun K => (He.Fa.mkr "Table").ok K,
  VH.propB "Table" "jobs",
  VH.insB "Table",
  fun K => (He.Fa.glo "law").ok K]
structure Fx (K : PySem.W.Frag) (mg : Str → Option Value) : Prop where
  g_z_draw : mg "_law_draw" = some (.ref (He.ga K "_law_draw"))
  g_total_in : mg "total_in" = some (.ref (He.ga K "total_in"))
  g_moments_in : mg "moments_in" = some (.ref (He.ga K "moments_in"))
  g_z_busy : mg "_law_busy" = some (.ref (He.ga K "_law_busy"))
  g_count_at : mg "count_at" = some (.ref (He.ga K "count_at"))
  g_runs_then : mg "runs_then" = some (.ref (He.ga K "runs_then"))
  g_z_singles : mg "_law_singles" = some (.ref (He.ga K "_law_singles"))
  g_Table : mg "Table" = some (.ref (He.ga K "Table"))
  g_z_some_long : mg "_law_some_long" = some (.ref (He.ga K "_law_some_long"))
  g_clashing : mg "clashing" = some (.ref (He.ga K "clashing"))
  g_z_round : mg "_law_round" = some (.ref (He.ga K "_law_round"))
  g_most_long : mg "most_long" = some (.ref (He.ga K "most_long"))
  g_rests_paper : mg "rests_paper" = some (.ref (He.ga K "rests_paper"))
  g_z_found_rests : mg "_law_found_rests" = some (.ref (He.ga K "_law_found_rests"))
  g_z_put_in : mg "_law_put_in" = some (.ref (He.ga K "_law_put_in"))
  g_z_some_sizes : mg "_law_some_sizes" = some (.ref (He.ga K "_law_some_sizes"))
  g_z_begun : mg "_law_begun" = some (.ref (He.ga K "_law_begun"))
  g_job_right : mg "job_right" = some (.ref (He.ga K "job_right"))
  g_is_list : mg "is_list" = some (.ref (He.ga K "is_list"))
  g_is_between : mg "is_between" = some (.ref (He.ga K "is_between"))
  g_is_number : mg "is_number" = some (.ref (He.ga K "is_number"))
  g_z_blend : mg "_law_blend" = some (.ref (He.ga K "_law_blend"))
  g_z_first_clash : mg "_law_first_clash" = some (.ref (He.ga K "_law_first_clash"))
  g_z_rooms : mg "_law_rooms" = some (.ref (He.ga K "_law_rooms"))
  g_z_apart : mg "_law_apart" = some (.ref (He.ga K "_law_apart"))
  g_z_part_gap : mg "_law_part_gap" = some (.ref (He.ga K "_law_part_gap"))
  g_z_common : mg "_law_common" = some (.ref (He.ga K "_law_common"))
  g_z_multiple : mg "_law_multiple" = some (.ref (He.ga K "_law_multiple"))
  g_free_rests : mg "free_rests" = some (.ref (He.ga K "free_rests"))
  g_keeps_apart : mg "keeps_apart" = some (.ref (He.ga K "keeps_apart"))
  g_divisor_of : mg "divisor_of" = some (.ref (He.ga K "divisor_of"))
  g_multiple_of : mg "multiple_of" = some (.ref (He.ga K "multiple_of"))
  g_need_longs : mg "need_longs" = some (.ref (He.ga K "need_longs"))
  g_gap_of : mg "gap_of" = some (.ref (He.ga K "gap_of"))
  g_long_right : mg "long_right" = some (.ref (He.ga K "long_right"))
  g_z_pick : mg "_law_pick" = some (.ref (He.ga K "_law_pick"))
  g_z_ways : mg "_law_ways" = some (.ref (He.ga K "_law_ways"))
  g_z_held : mg "_law_held" = some (.ref (He.ga K "_law_held"))
  g_running : mg "running" = some (.ref (He.ga K "running"))
  g_need_moment : mg "need_moment" = some (.ref (He.ga K "need_moment"))
  g_need_table : mg "need_table" = some (.ref (He.ga K "need_table"))
  g_moment_right : mg "moment_right" = some (.ref (He.ga K "moment_right"))
  g_moments_before : mg "moments_before" = some (.ref (He.ga K "moments_before"))
  g_need_long : mg "need_long" = some (.ref (He.ga K "need_long"))
  g_numbers_of : mg "numbers_of" = some (.ref (He.ga K "numbers_of"))
  g_need_short_round : mg "need_short_round" = some (.ref (He.ga K "need_short_round"))
  g_round_by_longs : mg "round_by_longs" = some (.ref (He.ga K "round_by_longs"))
  g_tree_of : mg "tree_of" = some (.ref (He.ga K "tree_of"))
  g_levels_of : mg "levels_of" = some (.ref (He.ga K "levels_of"))
  g_rooms_by : mg "rooms_by" = some (.ref (He.ga K "rooms_by"))
  g_need_sizes : mg "need_sizes" = some (.ref (He.ga K "need_sizes"))
  g_clash_in : mg "clash_in" = some (.ref (He.ga K "clash_in"))
  g_size_right : mg "size_right" = some (.ref (He.ga K "size_right"))
  g_running_long : mg "running_long" = some (.ref (He.ga K "running_long"))
  g_total_by : mg "total_by" = some (.ref (He.ga K "total_by"))
  g_times_by : mg "times_by" = some (.ref (He.ga K "times_by"))
  b_len : mg "len" = none
  b_min : mg "min" = none
  b_range : mg "range" = none
  b_sum : mg "sum" = none
  b_tuple : mg "tuple" = none
  b_enumerate : mg "enumerate" = none
  b_isinstance : mg "isinstance" = none
  b_list : mg "list" = none
  b_int : mg "int" = none
  b_bool : mg "bool" = none
  b_abs : mg "abs" = none
  b_all : mg "all" = none
  b_max : mg "max" = none
  n_MOST_JOBS : ∃ t, mg "MOST_JOBS" = some (.int 20 t)
  n_MOST_PERIOD : ∃ t, mg "MOST_PERIOD" = some (.int 1000000000000 t)
  n_MOST_ROUND : ∃ t, mg "MOST_ROUND" = some (.int 1000000 t)
  n_MOST_LONGS : ∃ t, mg "MOST_LONGS" = some (.int 12 t)
  n_FARTHEST : ∃ t, mg "FARTHEST" = some (.int 1000000000000000000000000000000000000000000000000000000000000000000000000000000000000000000000000000000000000000000000000000000000000000000000000000000000000000000000000000000000000000000000000000000000000000000000000000000000000000000000000000000000000000000000000000000000000000000000000000000000000 t)
  n_MOST_WAYS : ∃ t, mg "MOST_WAYS" = some (.int 20000 t)
  n_MOST_SIZES : ∃ t, mg "MOST_SIZES" = some (.int 6 t)
  c_Table : Cls K (He.ga K "Table")
  a_Table_own_jobs : NoAttr K (He.ga K "Table") "own_jobs"
  m_Table : Mk K (He.ga K "Table") (He.ma K (He.ga K "Table") "__init__")
  p_Table_jobs : PropOf K (He.ga K "Table") "jobs" (VH.pA K "Table" "jobs") (VH.pG K "Table" "jobs")
  i_Table : VH.InsOf K (He.ga K "Table")
  d_is_number : ∃ fd, FunD K "is_number" "is_number" (defArgs s_is_number) (defBody s_is_number) (defScope s_is_number) [] [] (He.ga K "is_number") fd
  d_is_list : ∃ fd, FunD K "is_list" "is_list" (defArgs s_is_list) (defBody s_is_list) (defScope s_is_list) [] [] (He.ga K "is_list") fd
  d_divisor_of : ∃ fd, FunD K "divisor_of" "divisor_of" (defArgs s_divisor_of) (defBody s_divisor_of) (defScope s_divisor_of) [] [] (He.ga K "divisor_of") fd
  d_Table_jobs : ∃ fd, FunD K "jobs" "Table.jobs" (defArgs s_Table_jobs) (defBody s_Table_jobs) (defScope s_Table_jobs) [] [] (VH.pG K "Table" "jobs") fd
  d_need_table : ∃ fd, FunD K "need_table" "need_table" (defArgs s_need_table) (defBody s_need_table) (defScope s_need_table) [V.non] [] (He.ga K "need_table") fd
  d_running : ∃ fd, FunD K "running" "running" (defArgs s_running) (defBody s_running) (defScope s_running) [] [] (He.ga K "running") fd
  d_running_long : ∃ fd, FunD K "running_long" "running_long" (defArgs s_running_long) (defBody s_running_long) (defScope s_running_long) [] [] (He.ga K "running_long") fd
  d_moments_before : ∃ fd, FunD K "moments_before" "moments_before" (defArgs s_moments_before) (defBody s_moments_before) (defScope s_moments_before) [] [] (He.ga K "moments_before") fd
  d_times_by : ∃ fd, FunD K "times_by" "times_by" (defArgs s_times_by) (defBody s_times_by) (defScope s_times_by) [] [] (He.ga K "times_by") fd
  d_z_begun : ∃ fd, FunD K "_law_begun" "_law_begun" (defArgs s_z_begun) (defBody s_z_begun) (defScope s_z_begun) [] [] (He.ga K "_law_begun") fd
  d_z_blend : ∃ fd, FunD K "_law_blend" "_law_blend" (defArgs s_z_blend) (defBody s_z_blend) (defScope s_z_blend) [] [] (He.ga K "_law_blend") fd
  d_z_common : ∃ fd, FunD K "_law_common" "_law_common" (defArgs s_z_common) (defBody s_z_common) (defScope s_z_common) [] [] (He.ga K "_law_common") fd
  d_z_busy : ∃ fd, FunD K "_law_busy" "_law_busy" (defArgs s_z_busy) (defBody s_z_busy) (defScope s_z_busy) [] [] (He.ga K "_law_busy") fd
  d_z_held : ∃ fd, FunD K "_law_held" "_law_held" (defArgs s_z_held) (defBody s_z_held) (defScope s_z_held) [] [] (He.ga K "_law_held") fd
  d_z_singles : ∃ fd, FunD K "_law_singles" "_law_singles" (defArgs s_z_singles) (defBody s_z_singles) (defScope s_z_singles) [] [] (He.ga K "_law_singles") fd
  d_is_between : ∃ fd, FunD K "is_between" "is_between" (defArgs s_is_between) (defBody s_is_between) (defScope s_is_between) [] [] (He.ga K "is_between") fd
  d_multiple_of : ∃ fd, FunD K "multiple_of" "multiple_of" (defArgs s_multiple_of) (defBody s_multiple_of) (defScope s_multiple_of) [] [] (He.ga K "multiple_of") fd
  d_gap_of : ∃ fd, FunD K "gap_of" "gap_of" (defArgs s_gap_of) (defBody s_gap_of) (defScope s_gap_of) [] [] (He.ga K "gap_of") fd
  d_total_by : ∃ fd, FunD K "total_by" "total_by" (defArgs s_total_by) (defBody s_total_by) (defScope s_total_by) [] [] (He.ga K "total_by") fd
  d_z_draw : ∃ fd, FunD K "_law_draw" "_law_draw" (defArgs s_z_draw) (defBody s_z_draw) (defScope s_z_draw) [] [] (He.ga K "_law_draw") fd
  d_z_multiple : ∃ fd, FunD K "_law_multiple" "_law_multiple" (defArgs s_z_multiple) (defBody s_z_multiple) (defScope s_z_multiple) [] [] (He.ga K "_law_multiple") fd
  d_z_part_gap : ∃ fd, FunD K "_law_part_gap" "_law_part_gap" (defArgs s_z_part_gap) (defBody s_z_part_gap) (defScope s_z_part_gap) [] [] (He.ga K "_law_part_gap") fd
  d_moment_right : ∃ fd, FunD K "moment_right" "moment_right" (defArgs s_moment_right) (defBody s_moment_right) (defScope s_moment_right) [] [] (He.ga K "moment_right") fd
  d_job_right : ∃ fd, FunD K "job_right" "job_right" (defArgs s_job_right) (defBody s_job_right) (defScope s_job_right) [] [] (He.ga K "job_right") fd
  d_long_right : ∃ fd, FunD K "long_right" "long_right" (defArgs s_long_right) (defBody s_long_right) (defScope s_long_right) [] [] (He.ga K "long_right") fd
  d_keeps_apart : ∃ fd, FunD K "keeps_apart" "keeps_apart" (defArgs s_keeps_apart) (defBody s_keeps_apart) (defScope s_keeps_apart) [] [] (He.ga K "keeps_apart") fd
  d_round_by_longs : ∃ fd, FunD K "round_by_longs" "round_by_longs" (defArgs s_round_by_longs) (defBody s_round_by_longs) (defScope s_round_by_longs) [] [] (He.ga K "round_by_longs") fd
  d_size_right : ∃ fd, FunD K "size_right" "size_right" (defArgs s_size_right) (defBody s_size_right) (defScope s_size_right) [] [] (He.ga K "size_right") fd
  d_rooms_by : ∃ fd, FunD K "rooms_by" "rooms_by" (defArgs s_rooms_by) (defBody s_rooms_by) (defScope s_rooms_by) [] [] (He.ga K "rooms_by") fd
  d_z_pick : ∃ fd, FunD K "_law_pick" "_law_pick" (defArgs s_z_pick) (defBody s_z_pick) (defScope s_z_pick) [] [] (He.ga K "_law_pick") fd
  d_z_apart : ∃ fd, FunD K "_law_apart" "_law_apart" (defArgs s_z_apart) (defBody s_z_apart) (defScope s_z_apart) [] [] (He.ga K "_law_apart") fd
  d_z_rooms : ∃ fd, FunD K "_law_rooms" "_law_rooms" (defArgs s_z_rooms) (defBody s_z_rooms) (defScope s_z_rooms) [] [] (He.ga K "_law_rooms") fd
  d_z_round : ∃ fd, FunD K "_law_round" "_law_round" (defArgs s_z_round) (defBody s_z_round) (defScope s_z_round) [] [] (He.ga K "_law_round") fd
  d_need_moment : ∃ fd, FunD K "need_moment" "need_moment" (defArgs s_need_moment) (defBody s_need_moment) (defScope s_need_moment) [] [] (He.ga K "need_moment") fd
  d_Table_init : ∃ fd, FunD K "__init__" "Table.__init__" (defArgs s_Table_init) (defBody s_Table_init) (defScope s_Table_init) [] [] (He.ma K (He.ga K "Table") "__init__") fd
  d_need_long : ∃ fd, FunD K "need_long" "need_long" (defArgs s_need_long) (defBody s_need_long) (defScope s_need_long) [V.non] [] (He.ga K "need_long") fd
  d_need_longs : ∃ fd, FunD K "need_longs" "need_longs" (defArgs s_need_longs) (defBody s_need_longs) (defScope s_need_longs) [] [] (He.ga K "need_longs") fd
  d_numbers_of : ∃ fd, FunD K "numbers_of" "numbers_of" (defArgs s_numbers_of) (defBody s_numbers_of) (defScope s_numbers_of) [] [] (He.ga K "numbers_of") fd
  d_need_sizes : ∃ fd, FunD K "need_sizes" "need_sizes" (defArgs s_need_sizes) (defBody s_need_sizes) (defScope s_need_sizes) [] [] (He.ga K "need_sizes") fd
  d_clash_in : ∃ fd, FunD K "clash_in" "clash_in" (defArgs s_clash_in) (defBody s_clash_in) (defScope s_clash_in) [] [] (He.ga K "clash_in") fd
  d_z_some_long : ∃ fd, FunD K "_law_some_long" "_law_some_long" (defArgs s_z_some_long) (defBody s_z_some_long) (defScope s_z_some_long) [] [] (He.ga K "_law_some_long") fd
  d_z_ways : ∃ fd, FunD K "_law_ways" "_law_ways" (defArgs s_z_ways) (defBody s_z_ways) (defScope s_z_ways) [] [] (He.ga K "_law_ways") fd
  d_z_first_clash : ∃ fd, FunD K "_law_first_clash" "_law_first_clash" (defArgs s_z_first_clash) (defBody s_z_first_clash) (defScope s_z_first_clash) [] [] (He.ga K "_law_first_clash") fd
  d_count_at : ∃ fd, FunD K "count_at" "count_at" (defArgs s_count_at) (defBody s_count_at) (defScope s_count_at) [] [] (He.ga K "count_at") fd
  d_runs_then : ∃ fd, FunD K "runs_then" "runs_then" (defArgs s_runs_then) (defBody s_runs_then) (defScope s_runs_then) [] [] (He.ga K "runs_then") fd
  d_moments_in : ∃ fd, FunD K "moments_in" "moments_in" (defArgs s_moments_in) (defBody s_moments_in) (defScope s_moments_in) [] [] (He.ga K "moments_in") fd
  d_clashing : ∃ fd, FunD K "clashing" "clashing" (defArgs s_clashing) (defBody s_clashing) (defScope s_clashing) [] [] (He.ga K "clashing") fd
  d_need_short_round : ∃ fd, FunD K "need_short_round" "need_short_round" (defArgs s_need_short_round) (defBody s_need_short_round) (defScope s_need_short_round) [] [] (He.ga K "need_short_round") fd
  d_free_rests : ∃ fd, FunD K "free_rests" "free_rests" (defArgs s_free_rests) (defBody s_free_rests) (defScope s_free_rests) [] [] (He.ga K "free_rests") fd
  d_total_in : ∃ fd, FunD K "total_in" "total_in" (defArgs s_total_in) (defBody s_total_in) (defScope s_total_in) [] [] (He.ga K "total_in") fd
  d_levels_of : ∃ fd, FunD K "levels_of" "levels_of" (defArgs s_levels_of) (defBody s_levels_of) (defScope s_levels_of) [] [] (He.ga K "levels_of") fd
  d_tree_of : ∃ fd, FunD K "tree_of" "tree_of" (defArgs s_tree_of) (defBody s_tree_of) (defScope s_tree_of) [] [] (He.ga K "tree_of") fd
  d_z_found_rests : ∃ fd, FunD K "_law_found_rests" "_law_found_rests" (defArgs s_z_found_rests) (defBody s_z_found_rests) (defScope s_z_found_rests) [] [] (He.ga K "_law_found_rests") fd
  d_z_some_sizes : ∃ fd, FunD K "_law_some_sizes" "_law_some_sizes" (defArgs s_z_some_sizes) (defBody s_z_some_sizes) (defScope s_z_some_sizes) [] [] (He.ga K "_law_some_sizes") fd
  d_most_long : ∃ fd, FunD K "most_long" "most_long" (defArgs s_most_long) (defBody s_most_long) (defScope s_most_long) [] [] (He.ga K "most_long") fd
  d_rests_paper : ∃ fd, FunD K "rests_paper" "rests_paper" (defArgs s_rests_paper) (defBody s_rests_paper) (defScope s_rests_paper) [] [] (He.ga K "rests_paper") fd
  d_z_put_in : ∃ fd, FunD K "_law_put_in" "_law_put_in" (defArgs s_z_put_in) (defBody s_z_put_in) (defScope s_z_put_in) [] [] (He.ga K "_law_put_in") fd
  d_law : ∃ fd, FunD K "law" "law" (defArgs s_law) (defBody s_law) (defScope s_law) [] [] (He.ga K "law") fd
theorem fx_of {K : PySem.W.Frag} {hp : Heap} {mg : Str → Option Value} (X : K.In hp) (G : hp.Ns mainGlobals mg) (c : VH.SaysG fa fn K) : Fx K mg where
  g_z_draw := He.glo_ok X G (c.fact 0 (f := _) rfl)
  g_total_in := He.glo_ok X G (c.fact 1 (f := _) rfl)
  g_moments_in := He.glo_ok X G (c.fact 2 (f := _) rfl)
  g_z_busy := He.glo_ok X G (c.fact 3 (f := _) rfl)
  g_count_at := He.glo_ok X G (c.fact 4 (f := _) rfl)
  g_runs_then := He.glo_ok X G (c.fact 5 (f := _) rfl)
  g_z_singles := He.glo_ok X G (c.fact 6 (f := _) rfl)
  g_Table := He.glo_ok X G (c.fact 7 (f := _) rfl)
  g_z_some_long := He.glo_ok X G (c.fact 8 (f := _) rfl)
  g_clashing := He.glo_ok X G (c.fact 9 (f := _) rfl)
  g_z_round := He.glo_ok X G (c.fact 10 (f := _) rfl)
  g_most_long := He.glo_ok X G (c.fact 11 (f := _) rfl)
  g_rests_paper := He.glo_ok X G (c.fact 12 (f := _) rfl)
  g_z_found_rests := He.glo_ok X G (c.fact 13 (f := _) rfl)
  g_z_put_in := He.glo_ok X G (c.fact 14 (f := _) rfl)
  g_z_some_sizes := He.glo_ok X G (c.fact 15 (f := _) rfl)
  g_z_begun := He.glo_ok X G (c.fact 16 (f := _) rfl)
  g_job_right := He.glo_ok X G (c.fact 17 (f := _) rfl)
  g_is_list := He.glo_ok X G (c.fact 18 (f := _) rfl)
  g_is_between := He.glo_ok X G (c.fact 19 (f := _) rfl)
  g_is_number := He.glo_ok X G (c.fact 20 (f := _) rfl)
  g_z_blend := He.glo_ok X G (c.fact 21 (f := _) rfl)
  g_z_first_clash := He.glo_ok X G (c.fact 22 (f := _) rfl)
  g_z_rooms := He.glo_ok X G (c.fact 23 (f := _) rfl)
  g_z_apart := He.glo_ok X G (c.fact 24 (f := _) rfl)
  g_z_part_gap := He.glo_ok X G (c.fact 25 (f := _) rfl)
  g_z_common := He.glo_ok X G (c.fact 26 (f := _) rfl)
  g_z_multiple := He.glo_ok X G (c.fact 27 (f := _) rfl)
  g_free_rests := He.glo_ok X G (c.fact 28 (f := _) rfl)
  g_keeps_apart := He.glo_ok X G (c.fact 29 (f := _) rfl)
  g_divisor_of := He.glo_ok X G (c.fact 30 (f := _) rfl)
  g_multiple_of := He.glo_ok X G (c.fact 31 (f := _) rfl)
  g_need_longs := He.glo_ok X G (c.fact 32 (f := _) rfl)
  g_gap_of := He.glo_ok X G (c.fact 33 (f := _) rfl)
  g_long_right := He.glo_ok X G (c.fact 34 (f := _) rfl)
  g_z_pick := He.glo_ok X G (c.fact 35 (f := _) rfl)
  g_z_ways := He.glo_ok X G (c.fact 36 (f := _) rfl)
  g_z_held := He.glo_ok X G (c.fact 37 (f := _) rfl)
  g_running := He.glo_ok X G (c.fact 38 (f := _) rfl)
  g_need_moment := He.glo_ok X G (c.fact 39 (f := _) rfl)
  g_need_table := He.glo_ok X G (c.fact 40 (f := _) rfl)
  g_moment_right := He.glo_ok X G (c.fact 41 (f := _) rfl)
  g_moments_before := He.glo_ok X G (c.fact 42 (f := _) rfl)
  g_need_long := He.glo_ok X G (c.fact 43 (f := _) rfl)
  g_numbers_of := He.glo_ok X G (c.fact 44 (f := _) rfl)
  g_need_short_round := He.glo_ok X G (c.fact 45 (f := _) rfl)
  g_round_by_longs := He.glo_ok X G (c.fact 46 (f := _) rfl)
  g_tree_of := He.glo_ok X G (c.fact 47 (f := _) rfl)
  g_levels_of := He.glo_ok X G (c.fact 48 (f := _) rfl)
  g_rooms_by := He.glo_ok X G (c.fact 49 (f := _) rfl)
  g_need_sizes := He.glo_ok X G (c.fact 50 (f := _) rfl)
  g_clash_in := He.glo_ok X G (c.fact 51 (f := _) rfl)
  g_size_right := He.glo_ok X G (c.fact 52 (f := _) rfl)
  g_running_long := He.glo_ok X G (c.fact 53 (f := _) rfl)
  g_total_by := He.glo_ok X G (c.fact 54 (f := _) rfl)
  g_times_by := He.glo_ok X G (c.fact 55 (f := _) rfl)
  b_len := He.free_ok X G (c.fact 56 (f := _) rfl)
  b_min := He.free_ok X G (c.fact 57 (f := _) rfl)
  b_range := He.free_ok X G (c.fact 58 (f := _) rfl)
  b_sum := He.free_ok X G (c.fact 59 (f := _) rfl)
  b_tuple := He.free_ok X G (c.fact 60 (f := _) rfl)
  b_enumerate := He.free_ok X G (c.fact 61 (f := _) rfl)
  b_isinstance := He.free_ok X G (c.fact 62 (f := _) rfl)
  b_list := He.free_ok X G (c.fact 63 (f := _) rfl)
  b_int := He.free_ok X G (c.fact 64 (f := _) rfl)
  b_bool := He.free_ok X G (c.fact 65 (f := _) rfl)
  b_abs := He.free_ok X G (c.fact 66 (f := _) rfl)
  b_all := He.free_ok X G (c.fact 67 (f := _) rfl)
  b_max := He.free_ok X G (c.fact 68 (f := _) rfl)
  n_MOST_JOBS := He.int_ok X G (c.fact 69 (f := _) rfl)
  n_MOST_PERIOD := He.int_ok X G (c.fact 70 (f := _) rfl)
  n_MOST_ROUND := He.int_ok X G (c.fact 71 (f := _) rfl)
  n_MOST_LONGS := He.int_ok X G (c.fact 72 (f := _) rfl)
  n_FARTHEST := He.int_ok X G (c.fact 73 (f := _) rfl)
  n_MOST_WAYS := He.int_ok X G (c.fact 74 (f := _) rfl)
  n_MOST_SIZES := He.int_ok X G (c.fact 75 (f := _) rfl)
  c_Table := He.cls_ok (c.fact 76 (f := _) rfl)
  a_Table_own_jobs := He.noat_ok (c.fact 77 (f := _) rfl)
  m_Table := He.mkr_ok (c.fact 78 (f := _) rfl)
  p_Table_jobs := VH.propB_ok (c.fact 79 (f := _) rfl)
  i_Table := VH.insB_ok (c.fact 80 (f := _) rfl)
  d_is_number := c.def_ 0 (d := g_is_number) rfl
  d_is_list := c.def_ 1 (d := g_is_list) rfl
  d_divisor_of := c.def_ 2 (d := g_divisor_of) rfl
  d_Table_jobs := c.def_ 3 (d := g_Table_jobs) rfl
  d_need_table := c.def_ 4 (d := g_need_table) rfl
  d_running := c.def_ 5 (d := g_running) rfl
  d_running_long := c.def_ 6 (d := g_running_long) rfl
  d_moments_before := c.def_ 7 (d := g_moments_before) rfl
  d_times_by := c.def_ 8 (d := g_times_by) rfl
  d_z_begun := c.def_ 9 (d := g_z_begun) rfl
  d_z_blend := c.def_ 10 (d := g_z_blend) rfl
  d_z_common := c.def_ 11 (d := g_z_common) rfl
  d_z_busy := c.def_ 12 (d := g_z_busy) rfl
  d_z_held := c.def_ 13 (d := g_z_held) rfl
  d_z_singles := c.def_ 14 (d := g_z_singles) rfl
  d_is_between := c.def_ 15 (d := g_is_between) rfl
  d_multiple_of := c.def_ 16 (d := g_multiple_of) rfl
  d_gap_of := c.def_ 17 (d := g_gap_of) rfl
  d_total_by := c.def_ 18 (d := g_total_by) rfl
  d_z_draw := c.def_ 19 (d := g_z_draw) rfl
  d_z_multiple := c.def_ 20 (d := g_z_multiple) rfl
  d_z_part_gap := c.def_ 21 (d := g_z_part_gap) rfl
  d_moment_right := c.def_ 22 (d := g_moment_right) rfl
  d_job_right := c.def_ 23 (d := g_job_right) rfl
  d_long_right := c.def_ 24 (d := g_long_right) rfl
  d_keeps_apart := c.def_ 25 (d := g_keeps_apart) rfl
  d_round_by_longs := c.def_ 26 (d := g_round_by_longs) rfl
  d_size_right := c.def_ 27 (d := g_size_right) rfl
  d_rooms_by := c.def_ 28 (d := g_rooms_by) rfl
  d_z_pick := c.def_ 29 (d := g_z_pick) rfl
  d_z_apart := c.def_ 30 (d := g_z_apart) rfl
  d_z_rooms := c.def_ 31 (d := g_z_rooms) rfl
  d_z_round := c.def_ 32 (d := g_z_round) rfl
  d_need_moment := c.def_ 33 (d := g_need_moment) rfl
  d_Table_init := c.def_ 34 (d := g_Table_init) rfl
  d_need_long := c.def_ 35 (d := g_need_long) rfl
  d_need_longs := c.def_ 36 (d := g_need_longs) rfl
  d_numbers_of := c.def_ 37 (d := g_numbers_of) rfl
  d_need_sizes := c.def_ 38 (d := g_need_sizes) rfl
  d_clash_in := c.def_ 39 (d := g_clash_in) rfl
  d_z_some_long := c.def_ 40 (d := g_z_some_long) rfl
  d_z_ways := c.def_ 41 (d := g_z_ways) rfl
  d_z_first_clash := c.def_ 42 (d := g_z_first_clash) rfl
  d_count_at := c.def_ 43 (d := g_count_at) rfl
  d_runs_then := c.def_ 44 (d := g_runs_then) rfl
  d_moments_in := c.def_ 45 (d := g_moments_in) rfl
  d_clashing := c.def_ 46 (d := g_clashing) rfl
  d_need_short_round := c.def_ 47 (d := g_need_short_round) rfl
  d_free_rests := c.def_ 48 (d := g_free_rests) rfl
  d_total_in := c.def_ 49 (d := g_total_in) rfl
  d_levels_of := c.def_ 50 (d := g_levels_of) rfl
  d_tree_of := c.def_ 51 (d := g_tree_of) rfl
  d_z_found_rests := c.def_ 52 (d := g_z_found_rests) rfl
  d_z_some_sizes := c.def_ 53 (d := g_z_some_sizes) rfl
  d_most_long := c.def_ 54 (d := g_most_long) rfl
  d_rests_paper := c.def_ 55 (d := g_rests_paper) rfl
  d_z_put_in := c.def_ 56 (d := g_z_put_in) rfl
  d_law := c.def_ 57 (d := g_law) rfl
end L74


set_option maxRecDepth 100000
set_option maxHeartbeats 4000000
/-! each def of 74 keeps its promise: printed by gen.py -/
namespace L74
open PySem PySem.Spec PyProof.Rows L2 VL
section
variable {P : Program} {wd : World} {K : PySem.W.Frag} {mg : Str → Option Value} {base : Heap}
theorem sc_is_number : FnScope ["thing"] ["thing"] (defScope s_is_number) := ⟨rfl, rfl, rfl, by decide +kernel, rfl, by decide +kernel, by decide +kernel⟩
theorem D_is_number (h : Fx K mg) : Def0 P wd K mg base 1 (He.ga K "is_number") 1 [] (F_is_number (He.ga K)) := by
  obtain ⟨fd, F⟩ := h.d_is_number
  refine def0 F sc_is_number rfl rfl (F.bindsN fun _ _ _ _ _ _ us hl => match us, hl with | [_], _ => rfl) .nil reps0 (fun c H ws Q rel p => body_C rel p) fun cdv Ar outer s H E hr => ?_
  have SN := (sc_is_number).nd
  exact (b_one (c_ret (c_and (c_blt call_isi s_isi (by rfl) h.b_isinstance (by decide +kernel) (a_cons (cv 0) (a_cons (cty (by rfl) h.b_int (by decide +kernel)) a_nil))) (c_one (c_not (c_blt call_isi s_isi (by rfl) h.b_isinstance (by decide +kernel) (a_cons (cv 0) (a_cons (cty (by rfl) h.b_bool (by decide +kernel)) a_nil))))))))
theorem sc_is_list : FnScope ["thing"] ["thing"] (defScope s_is_list) := ⟨rfl, rfl, rfl, by decide +kernel, rfl, by decide +kernel, by decide +kernel⟩
theorem D_is_list (h : Fx K mg) : Def0 P wd K mg base 1 (He.ga K "is_list") 1 [] (F_is_list (He.ga K)) := by
  obtain ⟨fd, F⟩ := h.d_is_list
  refine def0 F sc_is_list rfl rfl (F.bindsN fun _ _ _ _ _ _ us hl => match us, hl with | [_], _ => rfl) .nil reps0 (fun c H ws Q rel p => body_C rel p) fun cdv Ar outer s H E hr => ?_
  have SN := (sc_is_list).nd
  exact (b_one (c_ret (c_isi2 (z := "") (cv 0) (by rfl) h.b_isinstance (by decide +kernel) (cty (by rfl) h.b_list (by decide +kernel)) (cty (by rfl) h.b_tuple (by decide +kernel)))))
theorem sc_divisor_of : FnScope ["one", "other"] ["one", "other"] (defScope s_divisor_of) := ⟨rfl, rfl, rfl, by decide +kernel, rfl, by decide +kernel, by decide +kernel⟩
theorem D_divisor_of (h : Fx K mg) : Def0 P wd K mg base 1 (He.ga K "divisor_of") 2 [] (F_divisor_of (He.ga K)) := by
  obtain ⟨fd, F⟩ := h.d_divisor_of
  refine def0 F sc_divisor_of rfl rfl (F.bindsN fun _ _ _ _ _ _ us hl => match us, hl with | [_, _], _ => rfl) .nil reps0 (fun c H ws Q rel p => body_C rel p) fun cdv Ar outer s H E hr => ?_
  have SN := (sc_divisor_of).nd
  exact (b_cons (c_while PassesOwn.never (t_cmp (op_neD hr.units) s_ne (cv 1) ci)
  (b_one (c_par (i := 0) (j := 1) rfl SN rfl rfl (by decide) rfl rfl (a_cons (cv 1) (a_cons (c_op op_mod s_mod (cv 0) (cv 1)) a_nil)) (by rfl))))
  (b_one (c_ret (cv 0))))
theorem sc_Table_jobs : FnScope ["self"] ["self"] (defScope s_Table_jobs) := ⟨rfl, rfl, rfl, by decide +kernel, rfl, by decide +kernel, by decide +kernel⟩
theorem D_Table_jobs (h : Fx K mg) : Def0 P wd K mg base 1 (VH.pG K "Table" "jobs") 1 [] (F_Table_jobs (He.ga K)) := by
  obtain ⟨fd, F⟩ := h.d_Table_jobs
  refine def0 F sc_Table_jobs rfl rfl (F.bindsN fun _ _ _ _ _ _ us hl => match us, hl with | [_], _ => rfl) .nil reps0 (fun c H ws Q rel p => body_C rel p) fun cdv Ar outer s H E hr => ?_
  have SN := (sc_Table_jobs).nd
  exact (b_one (c_ret (c_fld h.c_Table h.a_Table_own_jobs (cv 0))))
theorem sc_need_table : FnScope ["table", "part"] ["table", "part"] (defScope s_need_table) := ⟨rfl, rfl, rfl, by decide +kernel, rfl, by decide +kernel, by decide +kernel⟩
theorem D_need_table (h : Fx K mg) : Def0 P wd K mg base 1 (He.ga K "need_table") 2 [D.non] (F_need_table (He.ga K)) := by
  obtain ⟨fd, F⟩ := h.d_need_table
  obtain ⟨ds, hv, hb⟩ := F.binds1 (ps := ["table", "part"]) 1 0 (by decide) rfl fun _ _ _ _ _ _ _ us its h1 h2 => match us, its, h1, h2 with | [_], [_], _, _ => ⟨_, rfl, rfl⟩
  refine def0 F sc_need_table rfl rfl hb hv repsN (fun c H ws Q rel p => body_C rel p) fun cdv Ar outer s H E hr => ?_
  have SN := (sc_need_table).nd
  exact (b_one (c_ifS (t_not (t_val (c_isC h.c_Table h.i_Table.ha h.i_Table.hn h.i_Table.htk h.i_Table.hm (by rfl) h.b_isinstance (by decide +kernel) (a_cons (cv 0) (a_cons (cga (by rfl) h.g_Table) a_nil)))))
  (b_one c_never)
  b_nil))
theorem sc_running : FnScope ["jobs", "moment", "index", "rest", "period"] ["jobs", "moment"] (defScope s_running) := ⟨rfl, rfl, rfl, by decide +kernel, rfl, by decide +kernel, by decide +kernel⟩
theorem D_running (h : Fx K mg) : Def0 P wd K mg base 1 (He.ga K "running") 2 [] (F_running (He.ga K)) := by
  obtain ⟨fd, F⟩ := h.d_running
  refine def0 F sc_running rfl rfl (F.bindsN fun _ _ _ _ _ _ us hl => match us, hl with | [_, _], _ => rfl) .nil reps0 (fun c H ws Q rel p => body_C rel p) fun cdv Ar outer s H E hr => ?_
  have SN := (sc_running).nd
  exact (b_one (c_ret (c_lc rfl SN (i_enum (by rfl) h.b_enumerate (cv 0)) (own := [("index", 2), ("rest", 3), ("period", 4)]) (blkOk_by (by kernel_rfl)) (fun _ _ _ _ _ => (g_tp rfl (gs_cons (g_nm (i := 2) SN rfl (by first | exact .inl rfl | exact .inr rfl)) (gs_cons (g_tp rfl (gs_cons (g_nm (i := 3) SN rfl (by first | exact .inl rfl | exact .inr rfl)) (gs_cons (g_nm (i := 4) SN rfl (by first | exact .inl rfl | exact .inr rfl)) gs_nil))) gs_nil)))) (fun _ _ _ _ _ => (ts_one (t_cmp (op_eqD hr.units) s_eq (c_op op_mod s_mod (cv 1) (cv 4)) (cv 3)))) (fun _ _ _ _ _ => (cv 2)))))
theorem sc_running_long : FnScope ["job", "moment"] ["job", "moment"] (defScope s_running_long) := ⟨rfl, rfl, rfl, by decide +kernel, rfl, by decide +kernel, by decide +kernel⟩
theorem D_running_long (h : Fx K mg) : Def0 P wd K mg base 1 (He.ga K "running_long") 2 [] (F_running_long (He.ga K)) := by
  obtain ⟨fd, F⟩ := h.d_running_long
  refine def0 F sc_running_long rfl rfl (F.bindsN fun _ _ _ _ _ _ us hl => match us, hl with | [_, _], _ => rfl) .nil reps0 (fun c H ws Q rel p => body_C rel p) fun cdv Ar outer s H E hr => ?_
  have SN := (sc_running_long).nd
  exact (b_one (c_ret (c_cmp op_lt s_lt (c_op op_mod s_mod (c_op op_sub s_sub (cv 1) (c_ix (cv 0) ci)) (c_ix (cv 0) ci)) (c_ix (cv 0) ci))))
theorem sc_moments_before : FnScope ["job", "steps"] ["job", "steps"] (defScope s_moments_before) := ⟨rfl, rfl, rfl, by decide +kernel, rfl, by decide +kernel, by decide +kernel⟩
theorem D_moments_before (h : Fx K mg) : Def0 P wd K mg base 1 (He.ga K "moments_before") 2 [] (F_moments_before (He.ga K)) := by
  obtain ⟨fd, F⟩ := h.d_moments_before
  refine def0 F sc_moments_before rfl rfl (F.bindsN fun _ _ _ _ _ _ us hl => match us, hl with | [_, _], _ => rfl) .nil reps0 (fun c H ws Q rel p => body_C rel p) fun cdv Ar outer s H E hr => ?_
  have SN := (sc_moments_before).nd
  exact (b_one (c_ret (c_op op_addV s_add (c_op op_mulV s_mul (c_op op_fdivW s_div (cv 1) (c_ix (cv 0) ci)) (c_ix (cv 0) ci)) (c_blt (call_min2 (by rfl)) s_min2 (by rfl) h.b_min (by decide +kernel) (a_cons (c_op op_mod s_mod (cv 1) (c_ix (cv 0) ci)) (a_cons (c_ix (cv 0) ci) a_nil))))))
theorem sc_times_by : FnScope ["job", "first", "last"] ["job", "first", "last"] (defScope s_times_by) := ⟨rfl, rfl, rfl, by decide +kernel, rfl, by decide +kernel, by decide +kernel⟩
theorem D_times_by (h : Fx K mg) : Def0 P wd K mg base 1 (He.ga K "times_by") 3 [] (F_times_by (He.ga K)) := by
  obtain ⟨fd, F⟩ := h.d_times_by
  refine def0 F sc_times_by rfl rfl (F.bindsN fun _ _ _ _ _ _ us hl => match us, hl with | [_, _, _], _ => rfl) .nil reps0 (fun c H ws Q rel p => body_C rel p) fun cdv Ar outer s H E hr => ?_
  have SN := (sc_times_by).nd
  exact (b_cons (c_ifS (t_cmp op_lt s_lt (cv 2) (cv 1))
  (b_one (c_ret ci))
  b_nil)
  (b_one (c_ret (c_op op_sub s_sub (c_op op_fdivW s_div (c_op op_sub s_sub (cv 2) (c_ix (cv 0) ci)) (c_ix (cv 0) ci)) (c_op op_fdivW s_div (c_op op_sub s_sub (c_op op_sub s_sub (cv 1) ci) (c_ix (cv 0) ci)) (c_ix (cv 0) ci))))))
theorem sc_z_begun : FnScope ["script", "large", "grain"] ["script"] (defScope s_z_begun) := ⟨rfl, rfl, rfl, by decide +kernel, rfl, by decide +kernel, by decide +kernel⟩
theorem D_z_begun (h : Fx K mg) : Def0 P wd K mg base 1 (He.ga K "_law_begun") 1 [] (F_z_begun (He.ga K)) := by
  obtain ⟨fd, F⟩ := h.d_z_begun
  refine def0 F sc_z_begun rfl rfl (F.bindsN fun _ _ _ _ _ _ us hl => match us, hl with | [_], _ => rfl) .nil reps0 (fun c H ws Q rel p => p) fun cdv Ar outer s H E hr => ?_
  have SN := (sc_z_begun).nd
  exact (b_cons (c_setLcO (i := 1) rfl SN rfl rfl (sw_true rfl rfl rfl (by decide +kernel)) (i_seq (cv 0)) (own := [("grain", 2)]) (blkOk_by (by kernel_rfl)) (fun _ _ _ _ _ => (g_nm (i := 2) SN rfl (by first | exact .inl rfl | exact .inr rfl))) (fun _ _ _ _ _ => (ts_one (t_cmp op_ge s_ge (c_blt call_abs s_abs (by rfl) h.b_abs (by decide +kernel) (a_cons (cv 2) a_nil)) (c_op op_pow s_pow ci ci)))) (fun _ _ _ _ _ => (c_op op_sub s_sub (c_blt call_abs s_abs (by rfl) h.b_abs (by decide +kernel) (a_cons (cv 2) a_nil)) (c_op op_pow s_pow ci ci))))
  (b_one (c_ret (c_dict (prs := [("large", (dVar 1)), ("rest", (dC (.int 0))), ("cells", (dLcD (dIt (dVar 0)) (.nm 2) dYes (dCall (w1 wAbs) (dCons (dVar 2) dNil)) [2])), ("turn", (dC (.int 0)))]) (pps_cons pe_str (cv 1) (pps_cons pe_str ci (pps_cons pe_str (c_lc rfl SN (i_seq (cv 0)) (own := [("grain", 2)]) (blkOk_by (by kernel_rfl)) (fun _ _ _ _ _ => (g_nm (i := 2) SN rfl (by first | exact .inl rfl | exact .inr rfl))) (fun _ _ _ _ _ => ts_nil) (fun _ _ _ _ _ => (c_blt call_abs s_abs (by rfl) h.b_abs (by decide +kernel) (a_cons (cv 2) a_nil)))) (pps_cons pe_str ci pps_nil))))))))
theorem sc_z_blend : FnScope ["tape", "turn", "found", "great", "blended", "grain"] ["tape"] (defScope s_z_blend) := ⟨rfl, rfl, rfl, by decide +kernel, rfl, by decide +kernel, by decide +kernel⟩
theorem D_z_blend (h : Fx K mg) : Def0 P wd K mg base 1 (He.ga K "_law_blend") 1 [] (F_z_blend (He.ga K)) := by
  obtain ⟨fd, F⟩ := h.d_z_blend
  refine def0 F sc_z_blend rfl rfl (F.bindsN fun _ _ _ _ _ _ us hl => match us, hl with | [_], _ => rfl) .nil reps0 (fun c H ws Q rel p => body_C rel p) fun cdv Ar outer s H E hr => ?_
  have SN := (sc_z_blend).nd
  exact (b_cons (c_put (u1 hr) (cv 0) cs (c_op op_addV s_add (c_get (u1 hr) (cv 0) cs) ci))
  (b_cons (c_par (i := 1) (j := 2) rfl SN rfl rfl (by decide) rfl rfl (a_cons (c_bty call_int1 s_intN (by rfl) h.b_int (by decide +kernel) (a_cons (c_get (u1 hr) (cv 0) cs) a_nil)) (a_cons ci a_nil)) (by rfl))
  (b_cons (c_for PassesOwn.never rfl (i_seq (c_lst (a_cons ci (a_cons ci (a_cons ci a_nil))))) (g_nm (i := 3) SN rfl (by first | exact .inl rfl | exact .inr rfl))
  (b_cons (c_set (i := 4) SN rfl (by first | exact .inl rfl | exact .inr rfl) (c_op op_mod s_mod (c_op op_addV s_add (c_op op_mulV s_mul (cv 1) ci) (c_op op_fdivW s_div (cv 3) ci)) (cv 3)))
  (b_cons (c_for PassesOwn.never rfl (i_seq (c_get (u1 hr) (cv 0) cs)) (g_nm (i := 5) SN rfl (by first | exact .inl rfl | exact .inr rfl))
  (b_one (c_set (i := 4) SN rfl (by first | exact .inl rfl | exact .inr rfl) (c_op op_mod s_mod (c_op op_addV s_add (c_op op_mulV s_mul (cv 4) ci) (c_bty call_int1 s_intN (by rfl) h.b_int (by decide +kernel) (a_cons (cv 5) a_nil))) (cv 3)))))
  (b_one (c_set (i := 2) SN rfl (by first | exact .inl rfl | exact .inr rfl) (c_op op_addV s_add (c_op op_mulV s_mul (cv 2) ci) (c_op op_mod s_mod (c_op op_pow s_pow (cv 4) ci) (cv 3))))))))
  (b_one (c_ret (cv 2))))))
theorem sc_z_common : FnScope ["one", "other"] ["one", "other"] (defScope s_z_common) := ⟨rfl, rfl, rfl, by decide +kernel, rfl, by decide +kernel, by decide +kernel⟩
theorem D_z_common (h : Fx K mg) : Def0 P wd K mg base 1 (He.ga K "_law_common") 2 [] (F_z_common (He.ga K)) := by
  obtain ⟨fd, F⟩ := h.d_z_common
  refine def0 F sc_z_common rfl rfl (F.bindsN fun _ _ _ _ _ _ us hl => match us, hl with | [_, _], _ => rfl) .nil reps0 (fun c H ws Q rel p => body_C rel p) fun cdv Ar outer s H E hr => ?_
  have SN := (sc_z_common).nd
  exact (b_cons (c_par (i := 0) (j := 1) rfl SN rfl rfl (by decide) rfl rfl (a_cons (c_blt call_abs s_abs (by rfl) h.b_abs (by decide +kernel) (a_cons (cv 0) a_nil)) (a_cons (c_blt call_abs s_abs (by rfl) h.b_abs (by decide +kernel) (a_cons (cv 1) a_nil)) a_nil)) (by rfl))
  (b_cons (c_while PassesOwn.never (t_cmp (op_neD hr.units) s_ne (cv 1) ci)
  (b_one (c_par (i := 0) (j := 1) rfl SN rfl rfl (by decide) rfl rfl (a_cons (cv 1) (a_cons (c_op op_mod s_mod (cv 0) (cv 1)) a_nil)) (by rfl))))
  (b_one (c_ret (cv 0)))))
theorem sc_z_busy : FnScope ["job", "moment"] ["job", "moment"] (defScope s_z_busy) := ⟨rfl, rfl, rfl, by decide +kernel, rfl, by decide +kernel, by decide +kernel⟩
theorem D_z_busy (h : Fx K mg) : Def0 P wd K mg base 1 (He.ga K "_law_busy") 2 [] (F_z_busy (He.ga K)) := by
  obtain ⟨fd, F⟩ := h.d_z_busy
  refine def0 F sc_z_busy rfl rfl (F.bindsN fun _ _ _ _ _ _ us hl => match us, hl with | [_, _], _ => rfl) .nil reps0 (fun c H ws Q rel p => body_C rel p) fun cdv Ar outer s H E hr => ?_
  have SN := (sc_z_busy).nd
  exact (b_one (c_ret (c_cmp op_lt s_lt (c_op op_mod s_mod (c_op op_sub s_sub (cv 1) (c_ix (cv 0) ci)) (c_ix (cv 0) ci)) (c_ix (cv 0) ci))))
theorem sc_z_held : FnScope ["number", "low", "high"] ["number", "low", "high"] (defScope s_z_held) := ⟨rfl, rfl, rfl, by decide +kernel, rfl, by decide +kernel, by decide +kernel⟩
theorem D_z_held (h : Fx K mg) : Def0 P wd K mg base 1 (He.ga K "_law_held") 3 [] (F_z_held (He.ga K)) := by
  obtain ⟨fd, F⟩ := h.d_z_held
  refine def0 F sc_z_held rfl rfl (F.bindsN fun _ _ _ _ _ _ us hl => match us, hl with | [_, _, _], _ => rfl) .nil reps0 (fun c H ws Q rel p => body_C rel p) fun cdv Ar outer s H E hr => ?_
  have SN := (sc_z_held).nd
  exact (b_one (c_ret (c_blt (call_max2 (by rfl)) s_max2 (by rfl) h.b_max (by decide +kernel) (a_cons (cv 1) (a_cons (c_blt (call_min2 (by rfl)) s_min2 (by rfl) h.b_min (by decide +kernel) (a_cons (cv 2) (a_cons (cv 0) a_nil))) a_nil)))))
theorem sc_z_singles : FnScope ["longs", "found", "rest", "period", "length", "step"] ["longs"] (defScope s_z_singles) := ⟨rfl, rfl, rfl, by decide +kernel, rfl, by decide +kernel, by decide +kernel⟩
theorem D_z_singles (h : Fx K mg) : Def0 P wd K mg base 1 (He.ga K "_law_singles") 1 [] (F_z_singles (He.ga K)) := by
  obtain ⟨fd, F⟩ := h.d_z_singles
  refine def0 F sc_z_singles rfl rfl (F.bindsN fun _ _ _ _ _ _ us hl => match us, hl with | [_], _ => rfl) .nil reps0 (fun c H ws Q rel p => body_C rel p) fun cdv Ar outer s H E hr => ?_
  have SN := (sc_z_singles).nd
  exact (b_cons (c_set (i := 1) SN rfl (by first | exact .inl rfl | exact .inr rfl) (c_own a_nil))
  (b_cons (c_for PassesOwn.never rfl (i_seq (cv 0)) (g_tp rfl (gs_cons (g_nm (i := 2) SN rfl (by first | exact .inl rfl | exact .inr rfl)) (gs_cons (g_nm (i := 3) SN rfl (by first | exact .inl rfl | exact .inr rfl)) (gs_cons (g_nm (i := 4) SN rfl (by first | exact .inl rfl | exact .inr rfl)) gs_nil))))
  (b_one (c_expr ((pe_bm PySem.F.plainAttrs_list PySem.F.slot_list_extend PySem.F.type_list_extend mt_extend (cv 1) (a_cons (c_lc rfl SN (i_range1 (by rfl) h.b_range (a_cons (cv 4) a_nil)) (own := [("step", 5)]) (blkOk_by (by kernel_rfl)) (fun _ _ _ _ _ => (g_nm (i := 5) SN rfl (by first | exact .inl rfl | exact .inr rfl))) (fun _ _ _ _ _ => ts_nil) (fun _ _ _ _ _ => (c_tup (a_cons (c_op op_mod s_mod (c_op op_addV s_add (cv 2) (cv 5)) (cv 3)) (a_cons (cv 3) a_nil))))) a_nil)).imp fun _ _ _ => v_meth s_extend))))
  (b_one (c_ret (c_ice (cv 1))))))
theorem sc_is_between : FnScope ["thing", "low", "high"] ["thing", "low", "high"] (defScope s_is_between) := ⟨rfl, rfl, rfl, by decide +kernel, rfl, by decide +kernel, by decide +kernel⟩
theorem D_is_between (h : Fx K mg) : Def0 P wd K mg base 2 (He.ga K "is_between") 3 [] (F_is_between (He.ga K)) := by
  obtain ⟨fd, F⟩ := h.d_is_between
  refine def0 F sc_is_between rfl rfl (F.bindsN fun _ _ _ _ _ _ us hl => match us, hl with | [_, _, _], _ => rfl) .nil reps0 (fun c H ws Q rel p => body_C rel p) fun cdv Ar outer s H E hr => ?_
  have SN := (sc_is_between).nd
  exact (b_one (c_ret (c_and (c_fn (D_is_number h) hr h.g_is_number (a_cons (cv 0) a_nil)) (c_one (c_chain op_le s_le op_le s_le (cv 1) (cv 0) (cv 2))))))
theorem sc_multiple_of : FnScope ["one", "other"] ["one", "other"] (defScope s_multiple_of) := ⟨rfl, rfl, rfl, by decide +kernel, rfl, by decide +kernel, by decide +kernel⟩
theorem D_multiple_of (h : Fx K mg) : Def0 P wd K mg base 2 (He.ga K "multiple_of") 2 [] (F_multiple_of (He.ga K)) := by
  obtain ⟨fd, F⟩ := h.d_multiple_of
  refine def0 F sc_multiple_of rfl rfl (F.bindsN fun _ _ _ _ _ _ us hl => match us, hl with | [_, _], _ => rfl) .nil reps0 (fun c H ws Q rel p => body_C rel p) fun cdv Ar outer s H E hr => ?_
  have SN := (sc_multiple_of).nd
  exact (b_one (c_ret (c_op op_mulV s_mul (c_op op_fdivW s_div (cv 0) (c_fn (D_divisor_of h) hr h.g_divisor_of (a_cons (cv 0) (a_cons (cv 1) a_nil)))) (cv 1))))
theorem sc_gap_of : FnScope ["one", "other", "part"] ["one", "other"] (defScope s_gap_of) := ⟨rfl, rfl, rfl, by decide +kernel, rfl, by decide +kernel, by decide +kernel⟩
theorem D_gap_of (h : Fx K mg) : Def0 P wd K mg base 2 (He.ga K "gap_of") 2 [] (F_gap_of (He.ga K)) := by
  obtain ⟨fd, F⟩ := h.d_gap_of
  refine def0 F sc_gap_of rfl rfl (F.bindsN fun _ _ _ _ _ _ us hl => match us, hl with | [_, _], _ => rfl) .nil reps0 (fun c H ws Q rel p => body_C rel p) fun cdv Ar outer s H E hr => ?_
  have SN := (sc_gap_of).nd
  exact (b_cons (c_set (i := 2) SN rfl (by first | exact .inl rfl | exact .inr rfl) (c_fn (D_divisor_of h) hr h.g_divisor_of (a_cons (c_ix (cv 0) ci) (a_cons (c_ix (cv 1) ci) a_nil))))
  (b_one (c_ret (c_tup (a_cons (cv 2) (a_cons (c_op op_mod s_mod (c_op op_sub s_sub (c_ix (cv 1) ci) (c_ix (cv 0) ci)) (cv 2)) a_nil))))))
theorem sc_total_by : FnScope ["jobs", "first", "last", "job"] ["jobs", "first", "last"] (defScope s_total_by) := ⟨rfl, rfl, rfl, by decide +kernel, rfl, by decide +kernel, by decide +kernel⟩
theorem D_total_by (h : Fx K mg) : Def0 P wd K mg base 2 (He.ga K "total_by") 3 [] (F_total_by (He.ga K)) := by
  obtain ⟨fd, F⟩ := h.d_total_by
  refine def0 F sc_total_by rfl rfl (F.bindsN fun _ _ _ _ _ _ us hl => match us, hl with | [_, _, _], _ => rfl) .nil reps0 (fun c H ws Q rel p => body_C rel p) fun cdv Ar outer s H E hr => ?_
  have SN := (sc_total_by).nd
  exact (b_one (c_ret (c_blt (cr_sum (by rfl)) s_sum (by rfl) h.b_sum (by decide +kernel) (a_cons (c_lc rfl SN (i_seq (cv 0)) (own := [("job", 3)]) (blkOk_by (by kernel_rfl)) (fun _ _ _ _ _ => (g_nm (i := 3) SN rfl (by first | exact .inl rfl | exact .inr rfl))) (fun _ _ _ _ _ => ts_nil) (fun _ _ _ _ _ => (c_fn (D_times_by h) hr h.g_times_by (a_cons (cv 3) (a_cons (cv 1) (a_cons (cv 2) a_nil)))))) a_nil))))
theorem sc_z_draw : FnScope ["tape", "size", "found"] ["tape", "size"] (defScope s_z_draw) := ⟨rfl, rfl, rfl, by decide +kernel, rfl, by decide +kernel, by decide +kernel⟩
theorem D_z_draw (h : Fx K mg) : Def0 P wd K mg base 2 (He.ga K "_law_draw") 2 [] (F_z_draw (He.ga K)) := by
  obtain ⟨fd, F⟩ := h.d_z_draw
  refine def0 F sc_z_draw rfl rfl (F.bindsN fun _ _ _ _ _ _ us hl => match us, hl with | [_, _], _ => rfl) .nil reps0 (fun c H ws Q rel p => body_C rel p) fun cdv Ar outer s H E hr => ?_
  have SN := (sc_z_draw).nd
  exact (b_cons (c_ifS (t_cmp (op_eqD hr.units) s_eq (c_get (u1 hr) (cv 0) cs) ci)
  (b_one (c_put (u1 hr) (cv 0) cs (c_if (t_cmp (op_neD hr.units) s_ne (c_get (u1 hr) (cv 0) cs) (c_lst a_nil)) ((pe_bm PySem.F.plainAttrs_list PySem.F.slot_list_pop PySem.F.type_list_pop mt_popAt (c_get (u1 hr) (cv 0) cs) (a_cons ci a_nil)).imp fun _ _ _ => v_meth s_popAt) (c_fn (D_z_blend h) hr h.g_z_blend (a_cons (cv 0) a_nil)))))
  b_nil)
  (b_cons (c_set (i := 2) SN rfl (by first | exact .inl rfl | exact .inr rfl) (c_op op_mod s_mod (c_bty call_int1 s_intN (by rfl) h.b_int (by decide +kernel) (a_cons (c_get (u1 hr) (cv 0) cs) a_nil)) (cv 1)))
  (b_cons (c_put (u1 hr) (cv 0) cs (c_op op_fdivW s_div (c_bty call_int1 s_intN (by rfl) h.b_int (by decide +kernel) (a_cons (c_get (u1 hr) (cv 0) cs) a_nil)) (cv 1)))
  (b_one (c_ret (cv 2))))))
theorem sc_z_multiple : FnScope ["one", "other"] ["one", "other"] (defScope s_z_multiple) := ⟨rfl, rfl, rfl, by decide +kernel, rfl, by decide +kernel, by decide +kernel⟩
theorem D_z_multiple (h : Fx K mg) : Def0 P wd K mg base 2 (He.ga K "_law_multiple") 2 [] (F_z_multiple (He.ga K)) := by
  obtain ⟨fd, F⟩ := h.d_z_multiple
  refine def0 F sc_z_multiple rfl rfl (F.bindsN fun _ _ _ _ _ _ us hl => match us, hl with | [_, _], _ => rfl) .nil reps0 (fun c H ws Q rel p => body_C rel p) fun cdv Ar outer s H E hr => ?_
  have SN := (sc_z_multiple).nd
  exact (b_one (c_ret (c_op op_mulV s_mul (c_op op_fdivW s_div (cv 0) (c_fn (D_z_common h) hr h.g_z_common (a_cons (cv 0) (a_cons (cv 1) a_nil)))) (cv 1))))
theorem sc_z_part_gap : FnScope ["one", "other", "part"] ["one", "other"] (defScope s_z_part_gap) := ⟨rfl, rfl, rfl, by decide +kernel, rfl, by decide +kernel, by decide +kernel⟩
theorem D_z_part_gap (h : Fx K mg) : Def0 P wd K mg base 2 (He.ga K "_law_part_gap") 2 [] (F_z_part_gap (He.ga K)) := by
  obtain ⟨fd, F⟩ := h.d_z_part_gap
  refine def0 F sc_z_part_gap rfl rfl (F.bindsN fun _ _ _ _ _ _ us hl => match us, hl with | [_, _], _ => rfl) .nil reps0 (fun c H ws Q rel p => body_C rel p) fun cdv Ar outer s H E hr => ?_
  have SN := (sc_z_part_gap).nd
  exact (b_cons (c_set (i := 2) SN rfl (by first | exact .inl rfl | exact .inr rfl) (c_fn (D_z_common h) hr h.g_z_common (a_cons (c_ix (cv 0) ci) (a_cons (c_ix (cv 1) ci) a_nil))))
  (b_one (c_ret (c_tup (a_cons (cv 2) (a_cons (c_op op_mod s_mod (c_op op_sub s_sub (c_ix (cv 1) ci) (c_ix (cv 0) ci)) (cv 2)) a_nil))))))
theorem sc_moment_right : FnScope ["thing"] ["thing"] (defScope s_moment_right) := ⟨rfl, rfl, rfl, by decide +kernel, rfl, by decide +kernel, by decide +kernel⟩
theorem D_moment_right (h : Fx K mg) : Def0 P wd K mg base 3 (He.ga K "moment_right") 1 [] (F_moment_right (He.ga K)) := by
  obtain ⟨fd, F⟩ := h.d_moment_right
  refine def0 F sc_moment_right rfl rfl (F.bindsN fun _ _ _ _ _ _ us hl => match us, hl with | [_], _ => rfl) .nil reps0 (fun c H ws Q rel p => body_C rel p) fun cdv Ar outer s H E hr => ?_
  have SN := (sc_moment_right).nd
  exact (b_one (c_ret (c_fn (D_is_between h) hr h.g_is_between (a_cons (cv 0) (a_cons (c_neg (cgi (by rfl) h.n_FARTHEST)) (a_cons (cgi (by rfl) h.n_FARTHEST) a_nil))))))
theorem sc_job_right : FnScope ["thing"] ["thing"] (defScope s_job_right) := ⟨rfl, rfl, rfl, by decide +kernel, rfl, by decide +kernel, by decide +kernel⟩
theorem D_job_right (h : Fx K mg) : Def0 P wd K mg base 3 (He.ga K "job_right") 1 [] (F_job_right (He.ga K)) := by
  obtain ⟨fd, F⟩ := h.d_job_right
  refine def0 F sc_job_right rfl rfl (F.bindsN fun _ _ _ _ _ _ us hl => match us, hl with | [_], _ => rfl) .nil reps0 (fun c H ws Q rel p => body_C rel p) fun cdv Ar outer s H E hr => ?_
  have SN := (sc_job_right).nd
  exact (b_cons (c_ifS (PW.pt (w_or (t_not (t_val (c_blt call_isi s_isi (by rfl) h.b_isinstance (by decide +kernel) (a_cons (cv 0) (a_cons (cty (by rfl) h.b_tuple (by decide +kernel)) a_nil))))) (w_or (t_cmp (op_neD hr.units) s_ne (c_blt call_len_seq s_len (by rfl) h.b_len (by decide +kernel) (a_cons (cv 0) a_nil)) ci) (w_or1 (t_not (t_val (c_fn (D_is_between h) hr h.g_is_between (a_cons (c_ix (cv 0) ci) (a_cons ci (a_cons (cgi (by rfl) h.n_MOST_PERIOD) a_nil))))))))))
  (b_one (c_ret cb))
  b_nil)
  (b_one (c_ret (c_fn (D_is_between h) hr h.g_is_between (a_cons (c_ix (cv 0) ci) (a_cons ci (a_cons (c_op op_sub s_sub (c_ix (cv 0) ci) ci) a_nil)))))))
theorem sc_long_right : FnScope ["thing"] ["thing"] (defScope s_long_right) := ⟨rfl, rfl, rfl, by decide +kernel, rfl, by decide +kernel, by decide +kernel⟩
theorem D_long_right (h : Fx K mg) : Def0 P wd K mg base 3 (He.ga K "long_right") 1 [] (F_long_right (He.ga K)) := by
  obtain ⟨fd, F⟩ := h.d_long_right
  refine def0 F sc_long_right rfl rfl (F.bindsN fun _ _ _ _ _ _ us hl => match us, hl with | [_], _ => rfl) .nil reps0 (fun c H ws Q rel p => body_C rel p) fun cdv Ar outer s H E hr => ?_
  have SN := (sc_long_right).nd
  exact (b_cons (c_ifS (PW.pt (w_or (t_not (t_val (c_blt call_isi s_isi (by rfl) h.b_isinstance (by decide +kernel) (a_cons (cv 0) (a_cons (cty (by rfl) h.b_tuple (by decide +kernel)) a_nil))))) (w_or (t_cmp (op_neD hr.units) s_ne (c_blt call_len_seq s_len (by rfl) h.b_len (by decide +kernel) (a_cons (cv 0) a_nil)) ci) (w_or1 (t_not (t_val (c_fn (D_is_between h) hr h.g_is_between (a_cons (c_ix (cv 0) ci) (a_cons ci (a_cons (cgi (by rfl) h.n_MOST_PERIOD) a_nil))))))))))
  (b_one (c_ret cb))
  b_nil)
  (b_one (c_ret (c_and (c_fn (D_is_between h) hr h.g_is_between (a_cons (c_ix (cv 0) ci) (a_cons ci (a_cons (c_op op_sub s_sub (c_ix (cv 0) ci) ci) a_nil)))) (c_one (c_fn (D_is_between h) hr h.g_is_between (a_cons (c_ix (cv 0) ci) (a_cons ci (a_cons (c_ix (cv 0) ci) a_nil)))))))))
theorem sc_keeps_apart : FnScope ["one", "other", "part", "gap"] ["one", "other"] (defScope s_keeps_apart) := ⟨rfl, rfl, rfl, by decide +kernel, rfl, by decide +kernel, by decide +kernel⟩
theorem D_keeps_apart (h : Fx K mg) : Def0 P wd K mg base 3 (He.ga K "keeps_apart") 2 [] (F_keeps_apart (He.ga K)) := by
  obtain ⟨fd, F⟩ := h.d_keeps_apart
  refine def0 F sc_keeps_apart rfl rfl (F.bindsN fun _ _ _ _ _ _ us hl => match us, hl with | [_, _], _ => rfl) .nil reps0 (fun c H ws Q rel p => body_C rel p) fun cdv Ar outer s H E hr => ?_
  have SN := (sc_keeps_apart).nd
  exact (b_cons (c_asg (c_fn (D_gap_of h) hr h.g_gap_of (a_cons (cv 0) (a_cons (cv 1) a_nil))) (g_tp rfl (gs_cons (g_nm (i := 2) SN rfl (by first | exact .inl rfl | exact .inr rfl)) (gs_cons (g_nm (i := 3) SN rfl (by first | exact .inl rfl | exact .inr rfl)) gs_nil))))
  (b_one (c_ret (c_chain op_le s_le op_le s_le (c_ix (cv 0) ci) (cv 3) (c_op op_sub s_sub (cv 2) (c_ix (cv 1) ci))))))
theorem sc_round_by_longs : FnScope ["longs", "found", "rest", "period", "length"] ["longs"] (defScope s_round_by_longs) := ⟨rfl, rfl, rfl, by decide +kernel, rfl, by decide +kernel, by decide +kernel⟩
theorem D_round_by_longs (h : Fx K mg) : Def0 P wd K mg base 3 (He.ga K "round_by_longs") 1 [] (F_round_by_longs (He.ga K)) := by
  obtain ⟨fd, F⟩ := h.d_round_by_longs
  refine def0 F sc_round_by_longs rfl rfl (F.bindsN fun _ _ _ _ _ _ us hl => match us, hl with | [_], _ => rfl) .nil reps0 (fun c H ws Q rel p => body_C rel p) fun cdv Ar outer s H E hr => ?_
  have SN := (sc_round_by_longs).nd
  exact (b_cons (c_set (i := 1) SN rfl (by first | exact .inl rfl | exact .inr rfl) ci)
  (b_cons (c_for PassesOwn.never rfl (i_seq (cv 0)) (g_tp rfl (gs_cons (g_nm (i := 2) SN rfl (by first | exact .inl rfl | exact .inr rfl)) (gs_cons (g_nm (i := 3) SN rfl (by first | exact .inl rfl | exact .inr rfl)) (gs_cons (g_nm (i := 4) SN rfl (by first | exact .inl rfl | exact .inr rfl)) gs_nil))))
  (b_one (c_set (i := 1) SN rfl (by first | exact .inl rfl | exact .inr rfl) (c_fn (D_multiple_of h) hr h.g_multiple_of (a_cons (cv 1) (a_cons (cv 3) a_nil))))))
  (b_one (c_ret (cv 1)))))
theorem sc_size_right : FnScope ["thing"] ["thing"] (defScope s_size_right) := ⟨rfl, rfl, rfl, by decide +kernel, rfl, by decide +kernel, by decide +kernel⟩
theorem D_size_right (h : Fx K mg) : Def0 P wd K mg base 3 (He.ga K "size_right") 1 [] (F_size_right (He.ga K)) := by
  obtain ⟨fd, F⟩ := h.d_size_right
  refine def0 F sc_size_right rfl rfl (F.bindsN fun _ _ _ _ _ _ us hl => match us, hl with | [_], _ => rfl) .nil reps0 (fun c H ws Q rel p => body_C rel p) fun cdv Ar outer s H E hr => ?_
  have SN := (sc_size_right).nd
  exact (b_cons (c_ifS (PW.pt (w_or (t_not (t_val (c_blt call_isi s_isi (by rfl) h.b_isinstance (by decide +kernel) (a_cons (cv 0) (a_cons (cty (by rfl) h.b_tuple (by decide +kernel)) a_nil))))) (w_or (t_cmp (op_neD hr.units) s_ne (c_blt call_len_seq s_len (by rfl) h.b_len (by decide +kernel) (a_cons (cv 0) a_nil)) ci) (w_or1 (t_not (t_val (c_fn (D_is_between h) hr h.g_is_between (a_cons (c_ix (cv 0) ci) (a_cons ci (a_cons (cgi (by rfl) h.n_MOST_PERIOD) a_nil))))))))))
  (b_one (c_ret cb))
  b_nil)
  (b_one (c_ret (c_fn (D_is_between h) hr h.g_is_between (a_cons (c_ix (cv 0) ci) (a_cons ci (a_cons (c_ix (cv 0) ci) a_nil)))))))
theorem sc_rooms_by : FnScope ["sizes", "found", "index", "period", "length", "room", "other", "size"] ["sizes"] (defScope s_rooms_by) := ⟨rfl, rfl, rfl, by decide +kernel, rfl, by decide +kernel, by decide +kernel⟩
theorem D_rooms_by (h : Fx K mg) : Def0 P wd K mg base 3 (He.ga K "rooms_by") 1 [] (F_rooms_by (He.ga K)) := by
  obtain ⟨fd, F⟩ := h.d_rooms_by
  refine def0 F sc_rooms_by rfl rfl (F.bindsN fun _ _ _ _ _ _ us hl => match us, hl with | [_], _ => rfl) .nil reps0 (fun c H ws Q rel p => body_C rel p) fun cdv Ar outer s H E hr => ?_
  have SN := (sc_rooms_by).nd
  exact (b_cons (c_set (i := 1) SN rfl (by first | exact .inl rfl | exact .inr rfl) (c_own a_nil))
  (b_cons (c_for PassesOwn.never rfl (i_enum (by rfl) h.b_enumerate (cv 0)) (g_tp rfl (gs_cons (g_nm (i := 2) SN rfl (by first | exact .inl rfl | exact .inr rfl)) (gs_cons (g_tp rfl (gs_cons (g_nm (i := 3) SN rfl (by first | exact .inl rfl | exact .inr rfl)) (gs_cons (g_nm (i := 4) SN rfl (by first | exact .inl rfl | exact .inr rfl)) gs_nil))) gs_nil)))
  (b_cons (c_set (i := 5) SN rfl (by first | exact .inl rfl | exact .inr rfl) ci)
  (b_cons (c_for PassesOwn.never rfl (i_enum (by rfl) h.b_enumerate (cv 0)) (g_tp rfl (gs_cons (g_nm (i := 6) SN rfl (by first | exact .inl rfl | exact .inr rfl)) (gs_cons (g_nm (i := 7) SN rfl (by first | exact .inl rfl | exact .inr rfl)) gs_nil)))
  (b_one (c_ifS (t_cmp (op_neD hr.units) s_ne (cv 6) (cv 2))
  (b_one (c_set (i := 5) SN rfl (by first | exact .inl rfl | exact .inr rfl) (c_fn (D_multiple_of h) hr h.g_multiple_of (a_cons (cv 5) (a_cons (c_fn (D_divisor_of h) hr h.g_divisor_of (a_cons (cv 3) (a_cons (c_ix (cv 7) ci) a_nil))) a_nil)))))
  b_nil)))
  (b_one (c_expr ((pe_bm PySem.F.plainAttrs_list PySem.F.slot_list_append PySem.F.type_list_append mt_append (cv 1) (a_cons (cv 5) a_nil)).imp fun _ _ _ => v_meth s_append))))))
  (b_one (c_ret (c_ice (cv 1))))))
theorem sc_z_pick : FnScope ["tape", "several"] ["tape", "several"] (defScope s_z_pick) := ⟨rfl, rfl, rfl, by decide +kernel, rfl, by decide +kernel, by decide +kernel⟩
theorem D_z_pick (h : Fx K mg) : Def0 P wd K mg base 3 (He.ga K "_law_pick") 2 [] (F_z_pick (He.ga K)) := by
  obtain ⟨fd, F⟩ := h.d_z_pick
  refine def0 F sc_z_pick rfl rfl (F.bindsN fun _ _ _ _ _ _ us hl => match us, hl with | [_, _], _ => rfl) .nil reps0 (fun c H ws Q rel p => body_C rel p) fun cdv Ar outer s H E hr => ?_
  have SN := (sc_z_pick).nd
  exact (b_one (c_ret (c_ix (cv 1) (c_fn (D_z_draw h) hr h.g_z_draw (a_cons (cv 0) (a_cons (c_blt call_len_seq s_len (by rfl) h.b_len (by decide +kernel) (a_cons (cv 1) a_nil)) a_nil))))))
theorem sc_z_apart : FnScope ["one", "other", "part", "gap"] ["one", "other"] (defScope s_z_apart) := ⟨rfl, rfl, rfl, by decide +kernel, rfl, by decide +kernel, by decide +kernel⟩
theorem D_z_apart (h : Fx K mg) : Def0 P wd K mg base 3 (He.ga K "_law_apart") 2 [] (F_z_apart (He.ga K)) := by
  obtain ⟨fd, F⟩ := h.d_z_apart
  refine def0 F sc_z_apart rfl rfl (F.bindsN fun _ _ _ _ _ _ us hl => match us, hl with | [_, _], _ => rfl) .nil reps0 (fun c H ws Q rel p => body_C rel p) fun cdv Ar outer s H E hr => ?_
  have SN := (sc_z_apart).nd
  exact (b_cons (c_asg (c_fn (D_z_part_gap h) hr h.g_z_part_gap (a_cons (cv 0) (a_cons (cv 1) a_nil))) (g_tp rfl (gs_cons (g_nm (i := 2) SN rfl (by first | exact .inl rfl | exact .inr rfl)) (gs_cons (g_nm (i := 3) SN rfl (by first | exact .inl rfl | exact .inr rfl)) gs_nil))))
  (b_one (c_ret (c_and (c_cmp op_le s_le (c_ix (cv 0) ci) (cv 3)) (c_one (c_cmp op_le s_le (c_op op_addV s_add (cv 3) (c_ix (cv 1) ci)) (cv 2)))))))
theorem sc_z_rooms : FnScope ["sizes", "found", "index", "item", "room", "other", "thing"] ["sizes"] (defScope s_z_rooms) := ⟨rfl, rfl, rfl, by decide +kernel, rfl, by decide +kernel, by decide +kernel⟩
theorem D_z_rooms (h : Fx K mg) : Def0 P wd K mg base 3 (He.ga K "_law_rooms") 1 [] (F_z_rooms (He.ga K)) := by
  obtain ⟨fd, F⟩ := h.d_z_rooms
  refine def0 F sc_z_rooms rfl rfl (F.bindsN fun _ _ _ _ _ _ us hl => match us, hl with | [_], _ => rfl) .nil reps0 (fun c H ws Q rel p => body_C rel p) fun cdv Ar outer s H E hr => ?_
  have SN := (sc_z_rooms).nd
  exact (b_cons (c_set (i := 1) SN rfl (by first | exact .inl rfl | exact .inr rfl) (c_own a_nil))
  (b_cons (c_for PassesOwn.never rfl (i_enum (by rfl) h.b_enumerate (cv 0)) (g_tp rfl (gs_cons (g_nm (i := 2) SN rfl (by first | exact .inl rfl | exact .inr rfl)) (gs_cons (g_nm (i := 3) SN rfl (by first | exact .inl rfl | exact .inr rfl)) gs_nil)))
  (b_cons (c_set (i := 4) SN rfl (by first | exact .inl rfl | exact .inr rfl) ci)
  (b_cons (c_for PassesOwn.never rfl (i_enum (by rfl) h.b_enumerate (cv 0)) (g_tp rfl (gs_cons (g_nm (i := 5) SN rfl (by first | exact .inl rfl | exact .inr rfl)) (gs_cons (g_nm (i := 6) SN rfl (by first | exact .inl rfl | exact .inr rfl)) gs_nil)))
  (b_one (c_ifS (t_cmp (op_neD hr.units) s_ne (cv 5) (cv 2))
  (b_one (c_set (i := 4) SN rfl (by first | exact .inl rfl | exact .inr rfl) (c_fn (D_z_multiple h) hr h.g_z_multiple (a_cons (cv 4) (a_cons (c_fn (D_z_common h) hr h.g_z_common (a_cons (c_ix (cv 3) ci) (a_cons (c_ix (cv 6) ci) a_nil))) a_nil)))))
  b_nil)))
  (b_one (c_expr ((pe_bm PySem.F.plainAttrs_list PySem.F.slot_list_append PySem.F.type_list_append mt_append (cv 1) (a_cons (cv 4) a_nil)).imp fun _ _ _ => v_meth s_append))))))
  (b_one (c_ret (c_ice (cv 1))))))
theorem sc_z_round : FnScope ["longs", "found", "job"] ["longs"] (defScope s_z_round) := ⟨rfl, rfl, rfl, by decide +kernel, rfl, by decide +kernel, by decide +kernel⟩
theorem D_z_round (h : Fx K mg) : Def0 P wd K mg base 3 (He.ga K "_law_round") 1 [] (F_z_round (He.ga K)) := by
  obtain ⟨fd, F⟩ := h.d_z_round
  refine def0 F sc_z_round rfl rfl (F.bindsN fun _ _ _ _ _ _ us hl => match us, hl with | [_], _ => rfl) .nil reps0 (fun c H ws Q rel p => body_C rel p) fun cdv Ar outer s H E hr => ?_
  have SN := (sc_z_round).nd
  exact (b_cons (c_set (i := 1) SN rfl (by first | exact .inl rfl | exact .inr rfl) ci)
  (b_cons (c_for PassesOwn.never rfl (i_seq (cv 0)) (g_nm (i := 2) SN rfl (by first | exact .inl rfl | exact .inr rfl))
  (b_one (c_set (i := 1) SN rfl (by first | exact .inl rfl | exact .inr rfl) (c_fn (D_z_multiple h) hr h.g_z_multiple (a_cons (cv 1) (a_cons (c_ix (cv 2) ci) a_nil))))))
  (b_one (c_ret (cv 1)))))
theorem sc_need_moment : FnScope ["thing"] ["thing"] (defScope s_need_moment) := ⟨rfl, rfl, rfl, by decide +kernel, rfl, by decide +kernel, by decide +kernel⟩
theorem D_need_moment (h : Fx K mg) : Def0 P wd K mg base 4 (He.ga K "need_moment") 1 [] (F_need_moment (He.ga K)) := by
  obtain ⟨fd, F⟩ := h.d_need_moment
  refine def0 F sc_need_moment rfl rfl (F.bindsN fun _ _ _ _ _ _ us hl => match us, hl with | [_], _ => rfl) .nil reps0 (fun c H ws Q rel p => body_C rel p) fun cdv Ar outer s H E hr => ?_
  have SN := (sc_need_moment).nd
  exact (b_one (c_ifS (t_not (t_val (c_fn (D_moment_right h) hr h.g_moment_right (a_cons (cv 0) a_nil))))
  (b_one c_never)
  b_nil))
theorem sc_Table_init : FnScope ["self", "jobs", "index", "item"] ["self", "jobs"] (defScope s_Table_init) := ⟨rfl, rfl, rfl, by decide +kernel, rfl, by decide +kernel, by decide +kernel⟩
theorem D_Table_init (h : Fx K mg) : Def0 P wd K mg base 4 (He.ma K (He.ga K "Table") "__init__") 2 [] (F_Table_init (He.ga K)) := by
  obtain ⟨fd, F⟩ := h.d_Table_init
  refine def0 F sc_Table_init rfl rfl (F.bindsN fun _ _ _ _ _ _ us hl => match us, hl with | [_, _], _ => rfl) .nil reps0 (fun c H ws Q rel p => body_C rel p) fun cdv Ar outer s H E hr => ?_
  have SN := (sc_Table_init).nd
  exact (b_cons (c_ifS (PW.pt (w_or (t_not (t_val (c_fn (D_is_list h) hr h.g_is_list (a_cons (cv 1) a_nil)))) (w_or1 (t_cmp op_gt s_gt (c_blt call_len_seq s_len (by rfl) h.b_len (by decide +kernel) (a_cons (cv 1) a_nil)) (cgi (by rfl) h.n_MOST_JOBS)))))
  (b_one c_never)
  b_nil)
  (b_cons (c_for PassesOwn.never rfl (i_enum (by rfl) h.b_enumerate (cv 1)) (g_tp rfl (gs_cons (g_nm (i := 2) SN rfl (by first | exact .inl rfl | exact .inr rfl)) (gs_cons (g_nm (i := 3) SN rfl (by first | exact .inl rfl | exact .inr rfl)) gs_nil)))
  (b_one (c_ifS (t_not (t_val (c_fn (D_job_right h) hr h.g_job_right (a_cons (cv 3) a_nil))))
  (b_one c_never)
  b_nil)))
  (b_one (c_fldS h.c_Table h.a_Table_own_jobs (cv 0) (c_bty call_tuple_of s_tuple (by rfl) h.b_tuple (by decide +kernel) (a_cons (cv 1) a_nil))))))
theorem sc_need_long : FnScope ["thing", "part"] ["thing", "part"] (defScope s_need_long) := ⟨rfl, rfl, rfl, by decide +kernel, rfl, by decide +kernel, by decide +kernel⟩
theorem D_need_long (h : Fx K mg) : Def0 P wd K mg base 4 (He.ga K "need_long") 2 [D.non] (F_need_long (He.ga K)) := by
  obtain ⟨fd, F⟩ := h.d_need_long
  obtain ⟨ds, hv, hb⟩ := F.binds1 (ps := ["thing", "part"]) 1 0 (by decide) rfl fun _ _ _ _ _ _ _ us its h1 h2 => match us, its, h1, h2 with | [_], [_], _, _ => ⟨_, rfl, rfl⟩
  refine def0 F sc_need_long rfl rfl hb hv repsN (fun c H ws Q rel p => body_C rel p) fun cdv Ar outer s H E hr => ?_
  have SN := (sc_need_long).nd
  exact (b_one (c_ifS (t_not (t_val (c_fn (D_long_right h) hr h.g_long_right (a_cons (cv 0) a_nil))))
  (b_one c_never)
  b_nil))
theorem sc_need_longs : FnScope ["longs", "index", "item"] ["longs"] (defScope s_need_longs) := ⟨rfl, rfl, rfl, by decide +kernel, rfl, by decide +kernel, by decide +kernel⟩
theorem D_need_longs (h : Fx K mg) : Def0 P wd K mg base 4 (He.ga K "need_longs") 1 [] (F_need_longs (He.ga K)) := by
  obtain ⟨fd, F⟩ := h.d_need_longs
  refine def0 F sc_need_longs rfl rfl (F.bindsN fun _ _ _ _ _ _ us hl => match us, hl with | [_], _ => rfl) .nil reps0 (fun c H ws Q rel p => body_C rel p) fun cdv Ar outer s H E hr => ?_
  have SN := (sc_need_longs).nd
  exact (b_cons (c_ifS (PW.pt (w_or (t_not (t_val (c_fn (D_is_list h) hr h.g_is_list (a_cons (cv 0) a_nil)))) (w_or1 (t_not (t_chain op_le s_le op_le s_le ci (c_blt call_len_seq s_len (by rfl) h.b_len (by decide +kernel) (a_cons (cv 0) a_nil)) (cgi (by rfl) h.n_MOST_LONGS))))))
  (b_one c_never)
  b_nil)
  (b_one (c_for PassesOwn.never rfl (i_enum (by rfl) h.b_enumerate (cv 0)) (g_tp rfl (gs_cons (g_nm (i := 1) SN rfl (by first | exact .inl rfl | exact .inr rfl)) (gs_cons (g_nm (i := 2) SN rfl (by first | exact .inl rfl | exact .inr rfl)) gs_nil)))
  (b_one (c_ifS (t_not (t_val (c_fn (D_long_right h) hr h.g_long_right (a_cons (cv 2) a_nil))))
  (b_one c_never)
  b_nil)))))
theorem sc_numbers_of : FnScope ["longs", "size", "steps", "rest", "period", "length", "begin", "end", "found", "here", "step"] ["longs"] (defScope s_numbers_of) := ⟨rfl, rfl, rfl, by decide +kernel, rfl, by decide +kernel, by decide +kernel⟩
theorem D_numbers_of (h : Fx K mg) : Def0 P wd K mg base 4 (He.ga K "numbers_of") 1 [] (F_numbers_of (He.ga K)) := by
  obtain ⟨fd, F⟩ := h.d_numbers_of
  refine def0 F sc_numbers_of rfl rfl (F.bindsN fun _ _ _ _ _ _ us hl => match us, hl with | [_], _ => rfl) .nil reps0 (fun c H ws Q rel p => body_C rel p) fun cdv Ar outer s H E hr => ?_
  have SN := (sc_numbers_of).nd
  exact (b_cons (c_set (i := 1) SN rfl (by first | exact .inl rfl | exact .inr rfl) (c_fn (D_round_by_longs h) hr h.g_round_by_longs (a_cons (cv 0) a_nil)))
  (b_cons (c_set (i := 2) SN rfl (by first | exact .inl rfl | exact .inr rfl) (c_op op_rep s_repO (c_lst (a_cons ci a_nil)) (c_op op_addV s_add (cv 1) ci)))
  (b_cons (c_for PassesOwn.never rfl (i_seq (cv 0)) (g_tp rfl (gs_cons (g_nm (i := 3) SN rfl (by first | exact .inl rfl | exact .inr rfl)) (gs_cons (g_nm (i := 4) SN rfl (by first | exact .inl rfl | exact .inr rfl)) (gs_cons (g_nm (i := 5) SN rfl (by first | exact .inl rfl | exact .inr rfl)) gs_nil))))
  (b_one (c_for PassesOwn.never rfl (i_range3 (by rfl) h.b_range (a_cons (cv 3) (a_cons (cv 1) (a_cons (cv 4) a_nil)))) (g_nm (i := 6) SN rfl (by first | exact .inl rfl | exact .inr rfl))
  (b_cons (c_set (i := 7) SN rfl (by first | exact .inl rfl | exact .inr rfl) (c_op op_addV s_add (cv 6) (cv 5)))
  (b_cons (c_augI (cv 2) (cv 6) ci ip_add s_iadd)
  (b_one (c_ifS (t_cmp op_le s_le (cv 7) (cv 1))
  (b_one (c_augI (cv 2) (cv 7) ci ip_sub s_isub))
  (b_cons (c_augI (cv 2) ci ci ip_add s_iadd)
  (b_one (c_augI (cv 2) (c_op op_sub s_sub (cv 7) (cv 1)) ci ip_sub s_isub))))))))))
  (b_cons (c_par (i := 8) (j := 9) rfl SN rfl rfl (by decide) rfl rfl (a_cons (c_own a_nil) (a_cons ci a_nil)) (by rfl))
  (b_cons (c_for PassesOwn.never rfl (i_seq (c_slL (cv 2) o_no (o_some (cv 1)))) (g_nm (i := 10) SN rfl (by first | exact .inl rfl | exact .inr rfl))
  (b_cons (c_set (i := 9) SN rfl (by first | exact .inl rfl | exact .inr rfl) (c_op op_addV s_add (cv 9) (cv 10)))
  (b_one (c_expr ((pe_bm PySem.F.plainAttrs_list PySem.F.slot_list_append PySem.F.type_list_append mt_append (cv 8) (a_cons (cv 9) a_nil)).imp fun _ _ _ => v_meth s_append)))))
  (b_one (c_ret (c_ice (cv 8)))))))))
theorem sc_need_sizes : FnScope ["sizes", "index", "item"] ["sizes"] (defScope s_need_sizes) := ⟨rfl, rfl, rfl, by decide +kernel, rfl, by decide +kernel, by decide +kernel⟩
theorem D_need_sizes (h : Fx K mg) : Def0 P wd K mg base 4 (He.ga K "need_sizes") 1 [] (F_need_sizes (He.ga K)) := by
  obtain ⟨fd, F⟩ := h.d_need_sizes
  refine def0 F sc_need_sizes rfl rfl (F.bindsN fun _ _ _ _ _ _ us hl => match us, hl with | [_], _ => rfl) .nil reps0 (fun c H ws Q rel p => body_C rel p) fun cdv Ar outer s H E hr => ?_
  have SN := (sc_need_sizes).nd
  exact (b_cons (c_ifS (PW.pt (w_or (t_not (t_val (c_fn (D_is_list h) hr h.g_is_list (a_cons (cv 0) a_nil)))) (w_or1 (t_not (t_chain op_le s_le op_le s_le ci (c_blt call_len_seq s_len (by rfl) h.b_len (by decide +kernel) (a_cons (cv 0) a_nil)) (cgi (by rfl) h.n_MOST_SIZES))))))
  (b_one c_never)
  b_nil)
  (b_one (c_for PassesOwn.never rfl (i_enum (by rfl) h.b_enumerate (cv 0)) (g_tp rfl (gs_cons (g_nm (i := 1) SN rfl (by first | exact .inl rfl | exact .inr rfl)) (gs_cons (g_nm (i := 2) SN rfl (by first | exact .inl rfl | exact .inr rfl)) gs_nil)))
  (b_one (c_ifS (t_not (t_val (c_fn (D_size_right h) hr h.g_size_right (a_cons (cv 2) a_nil))))
  (b_one c_never)
  b_nil)))))
theorem sc_clash_in : FnScope ["sizes", "rests", "last", "own", "index"] ["sizes", "rests"] (defScope s_clash_in) := ⟨rfl, rfl, rfl, by decide +kernel, rfl, by decide +kernel, by decide +kernel⟩
theorem D_clash_in (h : Fx K mg) : Def0 P wd K mg base 4 (He.ga K "clash_in") 2 [] (F_clash_in (He.ga K)) := by
  obtain ⟨fd, F⟩ := h.d_clash_in
  refine def0 F sc_clash_in rfl rfl (F.bindsN fun _ _ _ _ _ _ us hl => match us, hl with | [_, _], _ => rfl) .nil reps0 (fun c H ws Q rel p => body_C rel p) fun cdv Ar outer s H E hr => ?_
  have SN := (sc_clash_in).nd
  exact (b_cons (c_set (i := 2) SN rfl (by first | exact .inl rfl | exact .inr rfl) (c_op op_sub s_sub (c_blt call_len_seq s_len (by rfl) h.b_len (by decide +kernel) (a_cons (cv 1) a_nil)) ci))
  (b_cons (c_set (i := 3) SN rfl (by first | exact .inl rfl | exact .inr rfl) (c_tup (a_cons (c_ix (cv 1) (cv 2)) (a_star (c_ix (cv 0) (cv 2)) a_nil))))
  (b_cons (c_for PassesOwn.never rfl (i_range1 (by rfl) h.b_range (a_cons (cv 2) a_nil)) (g_nm (i := 4) SN rfl (by first | exact .inl rfl | exact .inr rfl))
  (b_one (c_ifS (t_not (t_val (c_fn (D_keeps_apart h) hr h.g_keeps_apart (a_cons (c_tup (a_cons (c_ix (cv 1) (cv 4)) (a_star (c_ix (cv 0) (cv 4)) a_nil))) (a_cons (cv 3) a_nil)))))
  (b_one (c_ret (c_tup (a_cons (cv 4) (a_cons (cv 2) a_nil)))))
  b_nil)))
  (b_one (c_ret cn)))))
theorem sc_z_some_long : FnScope ["tape", "period", "length"] ["tape"] (defScope s_z_some_long) := ⟨rfl, rfl, rfl, by decide +kernel, rfl, by decide +kernel, by decide +kernel⟩
theorem D_z_some_long (h : Fx K mg) : Def0 P wd K mg base 4 (He.ga K "_law_some_long") 1 [] (F_z_some_long (He.ga K)) := by
  obtain ⟨fd, F⟩ := h.d_z_some_long
  refine def0 F sc_z_some_long rfl rfl (F.bindsN fun _ _ _ _ _ _ us hl => match us, hl with | [_], _ => rfl) .nil reps0 (fun c H ws Q rel p => body_C rel p) fun cdv Ar outer s H E hr => ?_
  have SN := (sc_z_some_long).nd
  exact (b_cons (c_set (i := 1) SN rfl (by first | exact .inl rfl | exact .inr rfl) (c_op op_addV s_add ci (c_fn (D_z_draw h) hr h.g_z_draw (a_cons (cv 0) (a_cons (c_fn (D_z_pick h) hr h.g_z_pick (a_cons (cv 0) (a_cons (c_lst (a_cons ci (a_cons ci (a_cons ci (a_cons ci (a_cons ci (a_cons (c_op op_pow s_pow ci ci) (a_cons (c_op op_pow s_pow ci ci) a_nil)))))))) a_nil))) a_nil)))))
  (b_cons (c_set (i := 2) SN rfl (by first | exact .inl rfl | exact .inr rfl) (c_fn (D_z_pick h) hr h.g_z_pick (a_cons (cv 0) (a_cons (c_lst (a_cons ci (a_cons ci (a_cons (cv 1) (a_cons (c_op op_addV s_add ci (c_fn (D_z_draw h) hr h.g_z_draw (a_cons (cv 0) (a_cons (cv 1) a_nil)))) (a_cons (c_op op_addV s_add ci (c_fn (D_z_draw h) hr h.g_z_draw (a_cons (cv 0) (a_cons (c_op op_addV s_add ci (c_op op_fdivW s_div (cv 1) ci)) a_nil)))) a_nil)))))) a_nil))))
  (b_one (c_ret (c_tup (a_cons (c_fn (D_z_draw h) hr h.g_z_draw (a_cons (cv 0) (a_cons (cv 1) a_nil))) (a_cons (cv 1) (a_cons (c_blt (call_min2 (by rfl)) s_min2 (by rfl) h.b_min (by decide +kernel) (a_cons (cv 2) (a_cons (cv 1) a_nil))) a_nil))))))))
theorem sc_z_ways : FnScope ["sizes", "found", "room"] ["sizes"] (defScope s_z_ways) := ⟨rfl, rfl, rfl, by decide +kernel, rfl, by decide +kernel, by decide +kernel⟩
theorem D_z_ways (h : Fx K mg) : Def0 P wd K mg base 4 (He.ga K "_law_ways") 1 [] (F_z_ways (He.ga K)) := by
  obtain ⟨fd, F⟩ := h.d_z_ways
  refine def0 F sc_z_ways rfl rfl (F.bindsN fun _ _ _ _ _ _ us hl => match us, hl with | [_], _ => rfl) .nil reps0 (fun c H ws Q rel p => body_C rel p) fun cdv Ar outer s H E hr => ?_
  have SN := (sc_z_ways).nd
  exact (b_cons (c_set (i := 1) SN rfl (by first | exact .inl rfl | exact .inr rfl) ci)
  (b_cons (c_for PassesOwn.never rfl (i_seq (c_slL (c_fn (D_z_rooms h) hr h.g_z_rooms (a_cons (cv 0) a_nil)) (o_some ci) o_no)) (g_nm (i := 2) SN rfl (by first | exact .inl rfl | exact .inr rfl))
  (b_one (c_set (i := 1) SN rfl (by first | exact .inl rfl | exact .inr rfl) (c_op op_mulV s_mul (cv 1) (cv 2)))))
  (b_one (c_ret (cv 1)))))
theorem sc_z_first_clash : FnScope ["sizes", "rests", "index", "earlier"] ["sizes", "rests"] (defScope s_z_first_clash) := ⟨rfl, rfl, rfl, by decide +kernel, rfl, by decide +kernel, by decide +kernel⟩
theorem D_z_first_clash (h : Fx K mg) : Def0 P wd K mg base 4 (He.ga K "_law_first_clash") 2 [] (F_z_first_clash (He.ga K)) := by
  obtain ⟨fd, F⟩ := h.d_z_first_clash
  refine def0 F sc_z_first_clash rfl rfl (F.bindsN fun _ _ _ _ _ _ us hl => match us, hl with | [_, _], _ => rfl) .nil reps0 (fun c H ws Q rel p => body_C rel p) fun cdv Ar outer s H E hr => ?_
  have SN := (sc_z_first_clash).nd
  exact (b_cons (c_for PassesOwn.never rfl (i_range1 (by rfl) h.b_range (a_cons (c_blt call_len_seq s_len (by rfl) h.b_len (by decide +kernel) (a_cons (cv 1) a_nil)) a_nil)) (g_nm (i := 2) SN rfl (by first | exact .inl rfl | exact .inr rfl))
  (b_one (c_for PassesOwn.never rfl (i_range1 (by rfl) h.b_range (a_cons (cv 2) a_nil)) (g_nm (i := 3) SN rfl (by first | exact .inl rfl | exact .inr rfl))
  (b_one (c_ifS (t_not (t_val (c_fn (D_z_apart h) hr h.g_z_apart (a_cons (c_op op_addV s_add (c_tup (a_cons (c_ix (cv 1) (cv 3)) a_nil)) (c_ix (cv 0) (cv 3))) (a_cons (c_op op_addV s_add (c_tup (a_cons (c_ix (cv 1) (cv 2)) a_nil)) (c_ix (cv 0) (cv 2))) a_nil)))))
  (b_one (c_ret (c_tup (a_cons (cv 3) (a_cons (cv 2) a_nil)))))
  b_nil)))))
  (b_one (c_ret cn)))
theorem sc_count_at : FnScope ["table", "moment"] ["table", "moment"] (defScope s_count_at) := ⟨rfl, rfl, rfl, by decide +kernel, rfl, by decide +kernel, by decide +kernel⟩
theorem D_count_at (h : Fx K mg) : Def0 P wd K mg base 5 (He.ga K "count_at") 2 [] (F_count_at (He.ga K)) := by
  obtain ⟨fd, F⟩ := h.d_count_at
  refine def0 F sc_count_at rfl rfl (F.bindsN fun _ _ _ _ _ _ us hl => match us, hl with | [_, _], _ => rfl) .nil reps0 (fun c H ws Q rel p => body_C rel p) fun cdv Ar outer s H E hr => ?_
  have SN := (sc_count_at).nd
  exact (b_cons (c_expr (c_fn (D_need_table h) hr h.g_need_table (a_cons (cv 0) a_nil)))
  (b_cons (c_expr (c_fn (D_need_moment h) hr h.g_need_moment (a_cons (cv 1) a_nil)))
  (b_one (c_ret (c_blt call_len_seq s_len (by rfl) h.b_len (by decide +kernel) (a_cons (c_fn (D_running h) hr h.g_running (a_cons (c_prop h.c_Table h.p_Table_jobs (D_Table_jobs h) hr (cv 0)) (a_cons (cv 1) a_nil))) a_nil))))))
theorem sc_runs_then : FnScope ["job", "moment"] ["job", "moment"] (defScope s_runs_then) := ⟨rfl, rfl, rfl, by decide +kernel, rfl, by decide +kernel, by decide +kernel⟩
theorem D_runs_then (h : Fx K mg) : Def0 P wd K mg base 5 (He.ga K "runs_then") 2 [] (F_runs_then (He.ga K)) := by
  obtain ⟨fd, F⟩ := h.d_runs_then
  refine def0 F sc_runs_then rfl rfl (F.bindsN fun _ _ _ _ _ _ us hl => match us, hl with | [_, _], _ => rfl) .nil reps0 (fun c H ws Q rel p => body_C rel p) fun cdv Ar outer s H E hr => ?_
  have SN := (sc_runs_then).nd
  exact (b_cons (c_expr (c_fn (D_need_long h) hr h.g_need_long (a_cons (cv 0) a_nil)))
  (b_cons (c_expr (c_fn (D_need_moment h) hr h.g_need_moment (a_cons (cv 1) a_nil)))
  (b_one (c_ret (c_fn (D_running_long h) hr h.g_running_long (a_cons (cv 0) (a_cons (cv 1) a_nil)))))))
theorem sc_moments_in : FnScope ["job", "first", "last"] ["job", "first", "last"] (defScope s_moments_in) := ⟨rfl, rfl, rfl, by decide +kernel, rfl, by decide +kernel, by decide +kernel⟩
theorem D_moments_in (h : Fx K mg) : Def0 P wd K mg base 5 (He.ga K "moments_in") 3 [] (F_moments_in (He.ga K)) := by
  obtain ⟨fd, F⟩ := h.d_moments_in
  refine def0 F sc_moments_in rfl rfl (F.bindsN fun _ _ _ _ _ _ us hl => match us, hl with | [_, _, _], _ => rfl) .nil reps0 (fun c H ws Q rel p => body_C rel p) fun cdv Ar outer s H E hr => ?_
  have SN := (sc_moments_in).nd
  exact (b_cons (c_expr (c_fn (D_need_long h) hr h.g_need_long (a_cons (cv 0) a_nil)))
  (b_cons (c_expr (c_fn (D_need_moment h) hr h.g_need_moment (a_cons (cv 1) a_nil)))
  (b_cons (c_expr (c_fn (D_need_moment h) hr h.g_need_moment (a_cons (cv 2) a_nil)))
  (b_cons (c_ifS (t_cmp op_lt s_lt (cv 2) (cv 1))
  (b_one (c_ret ci))
  b_nil)
  (b_one (c_ret (c_op op_sub s_sub (c_fn (D_moments_before h) hr h.g_moments_before (a_cons (cv 0) (a_cons (c_op op_sub s_sub (c_op op_addV s_add (cv 2) ci) (c_ix (cv 0) ci)) a_nil))) (c_fn (D_moments_before h) hr h.g_moments_before (a_cons (cv 0) (a_cons (c_op op_sub s_sub (cv 1) (c_ix (cv 0) ci)) a_nil))))))))))
theorem sc_clashing : FnScope ["longs", "found", "index", "one", "later", "other"] ["longs"] (defScope s_clashing) := ⟨rfl, rfl, rfl, by decide +kernel, rfl, by decide +kernel, by decide +kernel⟩
theorem D_clashing (h : Fx K mg) : Def0 P wd K mg base 5 (He.ga K "clashing") 1 [] (F_clashing (He.ga K)) := by
  obtain ⟨fd, F⟩ := h.d_clashing
  refine def0 F sc_clashing rfl rfl (F.bindsN fun _ _ _ _ _ _ us hl => match us, hl with | [_], _ => rfl) .nil reps0 (fun c H ws Q rel p => body_C rel p) fun cdv Ar outer s H E hr => ?_
  have SN := (sc_clashing).nd
  exact (b_cons (c_expr (c_fn (D_need_longs h) hr h.g_need_longs (a_cons (cv 0) a_nil)))
  (b_cons (c_set (i := 1) SN rfl (by first | exact .inl rfl | exact .inr rfl) (c_own a_nil))
  (b_cons (c_for PassesOwn.never rfl (i_enum (by rfl) h.b_enumerate (cv 0)) (g_tp rfl (gs_cons (g_nm (i := 2) SN rfl (by first | exact .inl rfl | exact .inr rfl)) (gs_cons (g_nm (i := 3) SN rfl (by first | exact .inl rfl | exact .inr rfl)) gs_nil)))
  (b_cons (c_set (i := 4) SN rfl (by first | exact .inl rfl | exact .inr rfl) (c_bty cr_range2 s_rng2 (by rfl) h.b_range (by decide +kernel) (a_cons (c_op op_addV s_add (cv 2) ci) (a_cons (c_blt call_len_seq s_len (by rfl) h.b_len (by decide +kernel) (a_cons (cv 0) a_nil)) a_nil))))
  (b_one (c_expr ((pe_bm PySem.F.plainAttrs_list PySem.F.slot_list_extend PySem.F.type_list_extend mt_extend (cv 1) (a_cons (c_lc rfl SN (i_rngV (cv 4)) (own := [("other", 5)]) (blkOk_by (by kernel_rfl)) (fun _ _ _ _ _ => (g_nm (i := 5) SN rfl (by first | exact .inl rfl | exact .inr rfl))) (fun _ _ _ _ _ => (ts_one (t_not (t_val (c_fn (D_keeps_apart h) hr h.g_keeps_apart (a_cons (cv 3) (a_cons (c_ix (cv 0) (cv 5)) a_nil))))))) (fun _ _ _ _ _ => (c_tup (a_cons (cv 2) (a_cons (cv 5) a_nil))))) a_nil)).imp fun _ _ _ => v_meth s_extend)))))
  (b_one (c_ret (c_ice (cv 1)))))))
theorem sc_need_short_round : FnScope ["longs"] ["longs"] (defScope s_need_short_round) := ⟨rfl, rfl, rfl, by decide +kernel, rfl, by decide +kernel, by decide +kernel⟩
theorem D_need_short_round (h : Fx K mg) : Def0 P wd K mg base 5 (He.ga K "need_short_round") 1 [] (F_need_short_round (He.ga K)) := by
  obtain ⟨fd, F⟩ := h.d_need_short_round
  refine def0 F sc_need_short_round rfl rfl (F.bindsN fun _ _ _ _ _ _ us hl => match us, hl with | [_], _ => rfl) .nil reps0 (fun c H ws Q rel p => body_C rel p) fun cdv Ar outer s H E hr => ?_
  have SN := (sc_need_short_round).nd
  exact (b_cons (c_expr (c_fn (D_need_longs h) hr h.g_need_longs (a_cons (cv 0) a_nil)))
  (b_one (c_ifS (t_cmp op_gt s_gt (c_fn (D_round_by_longs h) hr h.g_round_by_longs (a_cons (cv 0) a_nil)) (cgi (by rfl) h.n_MOST_ROUND))
  (b_one c_never)
  b_nil)))
theorem sc_free_rests : FnScope ["longs", "period", "length", "room", "job", "found", "rest"] ["longs", "period", "length"] (defScope s_free_rests) := ⟨rfl, rfl, rfl, by decide +kernel, rfl, by decide +kernel, by decide +kernel⟩
theorem D_free_rests (h : Fx K mg) : Def0 P wd K mg base 5 (He.ga K "free_rests") 3 [] (F_free_rests (He.ga K)) := by
  obtain ⟨fd, F⟩ := h.d_free_rests
  refine def0 F sc_free_rests rfl rfl (F.bindsN fun _ _ _ _ _ _ us hl => match us, hl with | [_, _, _], _ => rfl) .nil reps0 (fun c H ws Q rel p => body_C rel p) fun cdv Ar outer s H E hr => ?_
  have SN := (sc_free_rests).nd
  exact (b_cons (c_expr (c_fn (D_need_longs h) hr h.g_need_longs (a_cons (cv 0) a_nil)))
  (b_cons (c_ifS (t_not (t_val (c_fn (D_is_between h) hr h.g_is_between (a_cons (cv 1) (a_cons ci (a_cons (cgi (by rfl) h.n_MOST_PERIOD) a_nil))))))
  (b_one c_never)
  b_nil)
  (b_cons (c_ifS (t_not (t_val (c_fn (D_is_between h) hr h.g_is_between (a_cons (cv 2) (a_cons ci (a_cons (cv 1) a_nil))))))
  (b_one c_never)
  b_nil)
  (b_cons (c_set (i := 3) SN rfl (by first | exact .inl rfl | exact .inr rfl) ci)
  (b_cons (c_for PassesOwn.never rfl (i_seq (cv 0)) (g_nm (i := 4) SN rfl (by first | exact .inl rfl | exact .inr rfl))
  (b_one (c_set (i := 3) SN rfl (by first | exact .inl rfl | exact .inr rfl) (c_fn (D_multiple_of h) hr h.g_multiple_of (a_cons (cv 3) (a_cons (c_fn (D_divisor_of h) hr h.g_divisor_of (a_cons (cv 1) (a_cons (c_ix (cv 4) ci) a_nil))) a_nil))))))
  (b_cons (c_ifS (t_cmp op_gt s_gt (cv 3) (cgi (by rfl) h.n_MOST_ROUND))
  (b_one c_never)
  b_nil)
  (b_cons (c_setLc (i := 5) rfl SN rfl rfl (sw_true rfl rfl rfl (by decide +kernel)) (i_range1 (by rfl) h.b_range (a_cons (cv 3) a_nil)) (own := [("rest", 6)]) (blkOk_by (by kernel_rfl)) (fun _ _ _ _ _ => (g_nm (i := 6) SN rfl (by first | exact .inl rfl | exact .inr rfl))) (fun _ _ _ _ _ => (ts_one (t_val (c_blt (cr_all (by rfl)) s_all (by rfl) h.b_all (by decide +kernel) (a_cons (c_lc rfl SN (i_seq (cv 0)) (own := [("job", 4)]) (blkOk_by (by kernel_rfl)) (fun _ _ _ _ _ => (g_nm (i := 4) SN rfl (by first | exact .inl rfl | exact .inr rfl))) (fun _ _ _ _ _ => ts_nil) (fun _ _ _ _ _ => (c_fn (D_keeps_apart h) hr h.g_keeps_apart (a_cons (cv 4) (a_cons (c_tup (a_cons (cv 6) (a_cons (cv 1) (a_cons (cv 2) a_nil)))) a_nil))))) a_nil))))) (fun _ _ _ _ _ => (cv 6)))
  (b_one (c_ret (c_tup (a_cons (cv 3) (a_cons (c_bty call_tuple_of s_tuple (by rfl) h.b_tuple (by decide +kernel) (a_cons (cv 5) a_nil)) a_nil))))))))))))
theorem sc_total_in : FnScope ["table", "first", "last"] ["table", "first", "last"] (defScope s_total_in) := ⟨rfl, rfl, rfl, by decide +kernel, rfl, by decide +kernel, by decide +kernel⟩
theorem D_total_in (h : Fx K mg) : Def0 P wd K mg base 5 (He.ga K "total_in") 3 [] (F_total_in (He.ga K)) := by
  obtain ⟨fd, F⟩ := h.d_total_in
  refine def0 F sc_total_in rfl rfl (F.bindsN fun _ _ _ _ _ _ us hl => match us, hl with | [_, _, _], _ => rfl) .nil reps0 (fun c H ws Q rel p => body_C rel p) fun cdv Ar outer s H E hr => ?_
  have SN := (sc_total_in).nd
  exact (b_cons (c_expr (c_fn (D_need_table h) hr h.g_need_table (a_cons (cv 0) a_nil)))
  (b_cons (c_expr (c_fn (D_need_moment h) hr h.g_need_moment (a_cons (cv 1) a_nil)))
  (b_cons (c_expr (c_fn (D_need_moment h) hr h.g_need_moment (a_cons (cv 2) a_nil)))
  (b_one (c_ret (c_fn (D_total_by h) hr h.g_total_by (a_cons (c_prop h.c_Table h.p_Table_jobs (D_Table_jobs h) hr (cv 0)) (a_cons (cv 1) (a_cons (cv 2) a_nil)))))))))
theorem sc_levels_of : FnScope ["sizes", "counts", "levels", "count", "longer", "rests", "rest", "fine"] ["sizes", "counts"] (defScope s_levels_of) := ⟨rfl, rfl, rfl, by decide +kernel, rfl, by decide +kernel, by decide +kernel⟩
theorem D_levels_of (h : Fx K mg) : Def0 P wd K mg base 5 (He.ga K "levels_of") 2 [] (F_levels_of (He.ga K)) := by
  obtain ⟨fd, F⟩ := h.d_levels_of
  refine def0 F sc_levels_of rfl rfl (F.bindsN fun _ _ _ _ _ _ us hl => match us, hl with | [_, _], _ => rfl) .nil reps0 (fun c H ws Q rel p => body_C rel p) fun cdv Ar outer s H E hr => ?_
  have SN := (sc_levels_of).nd
  exact (b_cons (c_set (i := 2) SN rfl (by first | exact .inl rfl | exact .inr rfl) (c_own (a_cons (c_lst (a_cons (c_tup (a_cons ci a_nil)) a_nil)) a_nil)))
  (b_cons (c_for PassesOwn.never rfl (i_seq (c_slL (cv 1) (o_some ci) o_no)) (g_nm (i := 3) SN rfl (by first | exact .inl rfl | exact .inr rfl))
  (b_cons (c_set (i := 4) SN rfl (by first | exact .inl rfl | exact .inr rfl) (c_own a_nil))
  (b_cons (c_for PassesOwn.never rfl (i_seq (c_ix (cv 2) (c_neg ci))) (g_nm (i := 5) SN rfl (by first | exact .inl rfl | exact .inr rfl))
  (b_one (c_ifS (t_cmp op_isN s_isN (c_fn (D_clash_in h) hr h.g_clash_in (a_cons (cv 0) (a_cons (cv 5) a_nil))) cn)
  (b_one (c_expr ((pe_bm PySem.F.plainAttrs_list PySem.F.slot_list_extend PySem.F.type_list_extend mt_extend (cv 4) (a_cons (c_lc rfl SN (i_range1 (by rfl) h.b_range (a_cons (cv 3) a_nil)) (own := [("rest", 6)]) (blkOk_by (by kernel_rfl)) (fun _ _ _ _ _ => (g_nm (i := 6) SN rfl (by first | exact .inl rfl | exact .inr rfl))) (fun _ _ _ _ _ => ts_nil) (fun _ _ _ _ _ => (c_tup (a_star (cv 5) (a_cons (cv 6) a_nil))))) a_nil)).imp fun _ _ _ => v_meth s_extend)))
  b_nil)))
  (b_one (c_expr ((pe_bm PySem.F.plainAttrs_list PySem.F.slot_list_append PySem.F.type_list_append mt_append (cv 2) (a_cons (c_ice (cv 4)) a_nil)).imp fun _ _ _ => v_meth s_append))))))
  (b_cons (c_setLc (i := 7) rfl SN rfl rfl (sw_true rfl rfl rfl (by decide +kernel)) (i_seq (c_ix (cv 2) (c_neg ci))) (own := [("rests", 5)]) (blkOk_by (by kernel_rfl)) (fun _ _ _ _ _ => (g_nm (i := 5) SN rfl (by first | exact .inl rfl | exact .inr rfl))) (fun _ _ _ _ _ => (ts_one (PW.pt (w_and (t_cmp (op_eqD hr.units) s_eq (c_blt call_len_seq s_len (by rfl) h.b_len (by decide +kernel) (a_cons (cv 5) a_nil)) (c_blt call_len_seq s_len (by rfl) h.b_len (by decide +kernel) (a_cons (cv 0) a_nil))) (w_and1 (t_cmp op_isN s_isN (c_fn (D_clash_in h) hr h.g_clash_in (a_cons (cv 0) (a_cons (cv 5) a_nil))) cn)))))) (fun _ _ _ _ _ => (cv 5)))
  (b_one (c_ret (c_tup (a_cons (c_ice (cv 2)) (a_cons (cv 7) a_nil))))))))
theorem sc_tree_of : FnScope ["sizes", "levels", "trees", "level", "grown", "rests", "clash", "tree"] ["sizes", "levels"] (defScope s_tree_of) := ⟨rfl, rfl, rfl, by decide +kernel, rfl, by decide +kernel, by decide +kernel⟩
theorem D_tree_of (h : Fx K mg) : Def0 P wd K mg base 5 (He.ga K "tree_of") 2 [] (F_tree_of (He.ga K)) := by
  obtain ⟨fd, F⟩ := h.d_tree_of
  refine def0 F sc_tree_of rfl rfl (F.bindsN fun _ _ _ _ _ _ us hl => match us, hl with | [_, _], _ => rfl) .nil reps0 (fun c H ws Q rel p => body_C rel p) fun cdv Ar outer s H E hr => ?_
  have SN := (sc_tree_of).nd
  exact (b_cons (c_set (i := 2) SN rfl (by first | exact .inl rfl | exact .inr rfl) c_newT)
  (b_cons (c_for PassesOwn.never rfl (i_seq (c_rev (cv 1))) (g_nm (i := 3) SN rfl (by first | exact .inl rfl | exact .inr rfl))
  (b_cons (c_set (i := 4) SN rfl (by first | exact .inl rfl | exact .inr rfl) c_newT)
  (b_cons (c_for PassesOwn.never rfl (i_seq (cv 3)) (g_nm (i := 5) SN rfl (by first | exact .inl rfl | exact .inr rfl))
  (b_cons (c_set (i := 6) SN rfl (by first | exact .inl rfl | exact .inr rfl) (c_fn (D_clash_in h) hr h.g_clash_in (a_cons (cv 0) (a_cons (cv 5) a_nil))))
  (b_cons (c_ifS (t_cmp op_notN s_notN (cv 6) cn)
  (b_one (c_set (i := 7) SN rfl (by first | exact .inl rfl | exact .inr rfl) (c_tup (a_cons cs (a_star (cv 6) a_nil)))))
  (b_one (c_set (i := 7) SN rfl (by first | exact .inl rfl | exact .inr rfl) (c_tup (a_cons cs (a_cons (c_bty call_tuple_of s_tuple (by rfl) h.b_tuple (by decide +kernel) (a_cons (c_getT2 (u1 hr) (cv 2) (cv 5) (c_tup a_nil) ⟨rfl, rfl, rfl, rfl⟩) a_nil)) a_nil))))))
  (b_one (c_setApp (i := 4) (u1 hr) rfl (by first | exact Or.inl rfl | exact Or.inr (Or.inl rfl)) (c_slT (cv 5) o_no (o_some (c_neg ci))) (cv 7) (m := ⟨rfl, rfl, rfl, rfl⟩))))))
  (b_one (c_set (i := 2) SN rfl (by first | exact .inl rfl | exact .inr rfl) (cv 4))))))
  (b_one (c_ret (c_ix (c_getT (u1 hr) (cv 2) (c_tup a_nil)) ci)))))
theorem sc_z_found_rests : FnScope ["sizes", "rooms_here", "rows", "count", "longer", "row", "rest"] ["sizes"] (defScope s_z_found_rests) := ⟨rfl, rfl, rfl, by decide +kernel, rfl, by decide +kernel, by decide +kernel⟩
theorem D_z_found_rests (h : Fx K mg) : Def0 P wd K mg base 5 (He.ga K "_law_found_rests") 1 [] (F_z_found_rests (He.ga K)) := by
  obtain ⟨fd, F⟩ := h.d_z_found_rests
  refine def0 F sc_z_found_rests rfl rfl (F.bindsN fun _ _ _ _ _ _ us hl => match us, hl with | [_], _ => rfl) .nil reps0 (fun c H ws Q rel p => body_C rel p) fun cdv Ar outer s H E hr => ?_
  have SN := (sc_z_found_rests).nd
  exact (b_cons (c_par (i := 1) (j := 2) rfl SN rfl rfl (by decide) rfl rfl (a_cons (c_fn (D_z_rooms h) hr h.g_z_rooms (a_cons (cv 0) a_nil)) (a_cons (c_lst (a_cons (c_tup (a_cons ci a_nil)) a_nil)) a_nil)) (by rfl))
  (b_cons (c_for PassesOwn.never rfl (i_seq (c_slL (cv 1) (o_some ci) o_no)) (g_nm (i := 3) SN rfl (by first | exact .inl rfl | exact .inr rfl))
  (b_cons (c_set (i := 4) SN rfl (by first | exact .inl rfl | exact .inr rfl) (c_own a_nil))
  (b_cons (c_for PassesOwn.never rfl (i_seq (cv 2)) (g_nm (i := 5) SN rfl (by first | exact .inl rfl | exact .inr rfl))
  (b_one (c_expr ((pe_bm PySem.F.plainAttrs_list PySem.F.slot_list_extend PySem.F.type_list_extend mt_extend (cv 4) (a_cons (c_lc rfl SN (i_range1 (by rfl) h.b_range (a_cons (cv 3) a_nil)) (own := [("rest", 6)]) (blkOk_by (by kernel_rfl)) (fun _ _ _ _ _ => (g_nm (i := 6) SN rfl (by first | exact .inl rfl | exact .inr rfl))) (fun _ _ _ _ _ => ts_nil) (fun _ _ _ _ _ => (c_op op_addV s_add (cv 5) (c_tup (a_cons (cv 6) a_nil))))) a_nil)).imp fun _ _ _ => v_meth s_extend))))
  (b_one (c_setLc (i := 2) rfl SN rfl rfl (sw_true rfl rfl rfl (by decide +kernel)) (i_seq (cv 4)) (own := [("row", 5)]) (blkOk_by (by kernel_rfl)) (fun _ _ _ _ _ => (g_nm (i := 5) SN rfl (by first | exact .inl rfl | exact .inr rfl))) (fun _ _ _ _ _ => (ts_one (t_cmp op_isN s_isN (c_fn (D_z_first_clash h) hr h.g_z_first_clash (a_cons (cv 0) (a_cons (cv 5) a_nil))) cn))) (fun _ _ _ _ _ => (cv 5)))))))
  (b_one (c_ret (c_if (t_cmp (op_neD hr.units) s_ne (cv 2) (c_lst a_nil)) (c_ix (cv 2) ci) cn)))))
theorem sc_z_some_sizes : FnScope ["tape", "many", "ways", "base", "found", "lap", "period", "item"] ["tape", "many", "ways"] (defScope s_z_some_sizes) := ⟨rfl, rfl, rfl, by decide +kernel, rfl, by decide +kernel, by decide +kernel⟩
theorem D_z_some_sizes (h : Fx K mg) : Def0 P wd K mg base 5 (He.ga K "_law_some_sizes") 3 [] (F_z_some_sizes (He.ga K)) := by
  obtain ⟨fd, F⟩ := h.d_z_some_sizes
  refine def0 F sc_z_some_sizes rfl rfl (F.bindsN fun _ _ _ _ _ _ us hl => match us, hl with | [_, _, _], _ => rfl) .nil reps0 (fun c H ws Q rel p => body_C rel p) fun cdv Ar outer s H E hr => ?_
  have SN := (sc_z_some_sizes).nd
  exact (b_cons (c_set (i := 3) SN rfl (by first | exact .inl rfl | exact .inr rfl) (c_op op_addV s_add ci (c_fn (D_z_draw h) hr h.g_z_draw (a_cons (cv 0) (a_cons (c_fn (D_z_pick h) hr h.g_z_pick (a_cons (cv 0) (a_cons (c_lst (a_cons ci (a_cons ci (a_cons ci a_nil)))) a_nil))) a_nil)))))
  (b_cons (c_set (i := 4) SN rfl (by first | exact .inl rfl | exact .inr rfl) (c_own a_nil))
  (b_cons (c_for PassesOwn.never rfl (i_range1 (by rfl) h.b_range (a_cons (cv 1) a_nil)) (g_nm (i := 5) SN rfl (by first | exact .inl rfl | exact .inr rfl))
  (b_cons (c_set (i := 6) SN rfl (by first | exact .inl rfl | exact .inr rfl) (c_fn (D_z_pick h) hr h.g_z_pick (a_cons (cv 0) (a_cons (c_lst (a_cons (cv 3) (a_cons (c_op op_mulV s_mul ci (cv 3)) (a_cons (c_op op_mulV s_mul ci (cv 3)) (a_cons (c_op op_mulV s_mul (cv 3) (c_op op_addV s_add ci (c_fn (D_z_draw h) hr h.g_z_draw (a_cons (cv 0) (a_cons ci a_nil))))) (a_cons (c_op op_addV s_add ci (c_fn (D_z_draw h) hr h.g_z_draw (a_cons (cv 0) (a_cons ci a_nil)))) (a_cons (c_op op_mulV s_mul (cv 3) ci) a_nil))))))) a_nil))))
  (b_cons (c_set (i := 7) SN rfl (by first | exact .inl rfl | exact .inr rfl) (c_tup (a_cons (cv 6) (a_cons (c_fn (D_z_held h) hr h.g_z_held (a_cons (c_fn (D_z_pick h) hr h.g_z_pick (a_cons (cv 0) (a_cons (c_lst (a_cons ci (a_cons ci (a_cons (c_op op_addV s_add ci (c_op op_fdivW s_div (cv 3) ci)) (a_cons (c_op op_fdivW s_div (cv 3) (c_op op_addV s_add ci (c_fn (D_z_draw h) hr h.g_z_draw (a_cons (cv 0) (a_cons ci a_nil))))) (a_cons (c_op op_addV s_add ci (c_fn (D_z_draw h) hr h.g_z_draw (a_cons (cv 0) (a_cons (cv 6) a_nil)))) a_nil)))))) a_nil))) (a_cons ci (a_cons (cv 6) a_nil)))) a_nil))))
  (b_one (c_ifS (t_cmp op_le s_le (c_fn (D_z_ways h) hr h.g_z_ways (a_cons (c_op op_addV s_add (cv 4) (c_lst (a_cons (cv 7) a_nil))) a_nil)) (cv 2))
  (b_one (c_expr ((pe_bm PySem.F.plainAttrs_list PySem.F.slot_list_append PySem.F.type_list_append mt_append (cv 4) (a_cons (cv 7) a_nil)).imp fun _ _ _ => v_meth s_append)))
  b_nil)))))
  (b_one (c_ret (c_if (t_cmp (op_neD hr.units) s_ne (cv 4) (c_lst a_nil)) (c_ice (cv 4)) (c_lst (a_cons (c_tup (a_cons (cv 3) (a_cons ci a_nil))) a_nil))))))))
theorem sc_most_long : FnScope ["longs", "numbers", "most"] ["longs"] (defScope s_most_long) := ⟨rfl, rfl, rfl, by decide +kernel, rfl, by decide +kernel, by decide +kernel⟩
theorem D_most_long (h : Fx K mg) : Def0 P wd K mg base 6 (He.ga K "most_long") 1 [] (F_most_long (He.ga K)) := by
  obtain ⟨fd, F⟩ := h.d_most_long
  refine def0 F sc_most_long rfl rfl (F.bindsN fun _ _ _ _ _ _ us hl => match us, hl with | [_], _ => rfl) .nil reps0 (fun c H ws Q rel p => body_C rel p) fun cdv Ar outer s H E hr => ?_
  have SN := (sc_most_long).nd
  exact (b_cons (c_expr (c_fn (D_need_short_round h) hr h.g_need_short_round (a_cons (cv 0) a_nil)))
  (b_cons (c_set (i := 1) SN rfl (by first | exact .inl rfl | exact .inr rfl) (c_fn (D_numbers_of h) hr h.g_numbers_of (a_cons (cv 0) a_nil)))
  (b_cons (c_set (i := 2) SN rfl (by first | exact .inl rfl | exact .inr rfl) (c_blt (cr_max (by rfl)) s_maxL (by rfl) h.b_max (by decide +kernel) (a_cons (cv 1) a_nil)))
  (b_one (c_ret (c_tup (a_cons (cv 2) (a_cons ((pe_bm PySem.F.plainAttrs_list PySem.F.slot_list_index PySem.F.type_list_index mt_index (cv 1) (a_cons (cv 2) a_nil)).imp fun _ _ _ => v_meth s_index) a_nil))))))))
theorem sc_rests_paper : FnScope ["sizes", "counts", "ways", "count", "levels", "fine"] ["sizes"] (defScope s_rests_paper) := ⟨rfl, rfl, rfl, by decide +kernel, rfl, by decide +kernel, by decide +kernel⟩
theorem D_rests_paper (h : Fx K mg) : Def0 P wd K mg base 6 (He.ga K "rests_paper") 1 [] (F_rests_paper (He.ga K)) := by
  obtain ⟨fd, F⟩ := h.d_rests_paper
  refine def0 F sc_rests_paper rfl rfl (F.bindsN fun _ _ _ _ _ _ us hl => match us, hl with | [_], _ => rfl) .nil reps0 (fun c H ws Q rel p => body_C rel p) fun cdv Ar outer s H E hr => ?_
  have SN := (sc_rests_paper).nd
  exact (b_cons (c_expr (c_fn (D_need_sizes h) hr h.g_need_sizes (a_cons (cv 0) a_nil)))
  (b_cons (c_par (i := 1) (j := 2) rfl SN rfl rfl (by decide) rfl rfl (a_cons (c_fn (D_rooms_by h) hr h.g_rooms_by (a_cons (cv 0) a_nil)) (a_cons ci a_nil)) (by rfl))
  (b_cons (c_for PassesOwn.never rfl (i_seq (c_slL (cv 1) (o_some ci) o_no)) (g_nm (i := 3) SN rfl (by first | exact .inl rfl | exact .inr rfl))
  (b_one (c_set (i := 2) SN rfl (by first | exact .inl rfl | exact .inr rfl) (c_op op_mulV s_mul (cv 2) (cv 3)))))
  (b_cons (c_ifS (t_cmp op_gt s_gt (cv 2) (cgi (by rfl) h.n_MOST_WAYS))
  (b_one c_never)
  b_nil)
  (b_cons (c_asg (c_fn (D_levels_of h) hr h.g_levels_of (a_cons (cv 0) (a_cons (cv 1) a_nil))) (g_tp rfl (gs_cons (g_nm (i := 4) SN rfl (by first | exact .inl rfl | exact .inr rfl)) (gs_cons (g_nm (i := 5) SN rfl (by first | exact .inl rfl | exact .inr rfl)) gs_nil))))
  (b_cons (c_ifS (t_cmp (op_neD hr.units) s_ne (cv 5) (c_lst a_nil))
  (b_one (c_ret (c_tup (a_cons cs (a_cons (c_ix (cv 5) ci) a_nil)))))
  b_nil)
  (b_one (c_ret (c_tup (a_cons cs (a_cons (c_fn (D_tree_of h) hr h.g_tree_of (a_cons (cv 0) (a_cons (cv 4) a_nil))) a_nil)))))))))))
theorem sc_z_put_in : FnScope ["sizes", "rows", "period", "length", "longer", "row", "room", "free", "rest"] ["sizes"] (defScope s_z_put_in) := ⟨rfl, rfl, rfl, by decide +kernel, rfl, by decide +kernel, by decide +kernel⟩
theorem D_z_put_in (h : Fx K mg) : Def0 P wd K mg base 6 (He.ga K "_law_put_in") 1 [] (F_z_put_in (He.ga K)) := by
  obtain ⟨fd, F⟩ := h.d_z_put_in
  refine def0 F sc_z_put_in rfl rfl (F.bindsN fun _ _ _ _ _ _ us hl => match us, hl with | [_], _ => rfl) .nil reps0 (fun c H ws Q rel p => body_C rel p) fun cdv Ar outer s H E hr => ?_
  have SN := (sc_z_put_in).nd
  exact (b_cons (c_set (i := 1) SN rfl (by first | exact .inl rfl | exact .inr rfl) (c_lst (a_cons (c_lst (a_cons (c_op op_addV s_add (c_tup (a_cons ci a_nil)) (c_ix (cv 0) ci)) a_nil)) a_nil)))
  (b_cons (c_for PassesOwn.never rfl (i_seq (c_slL (cv 0) (o_some ci) o_no)) (g_tp rfl (gs_cons (g_nm (i := 2) SN rfl (by first | exact .inl rfl | exact .inr rfl)) (gs_cons (g_nm (i := 3) SN rfl (by first | exact .inl rfl | exact .inr rfl)) gs_nil)))
  (b_cons (c_set (i := 4) SN rfl (by first | exact .inl rfl | exact .inr rfl) (c_own a_nil))
  (b_cons (c_for PassesOwn.never rfl (i_seq (cv 1)) (g_nm (i := 5) SN rfl (by first | exact .inl rfl | exact .inr rfl))
  (b_cons (c_asg (c_fn (D_free_rests h) hr h.g_free_rests (a_cons (cv 5) (a_cons (cv 2) (a_cons (cv 3) a_nil)))) (g_tp rfl (gs_cons (g_nm (i := 6) SN rfl (by first | exact .inl rfl | exact .inr rfl)) (gs_cons (g_nm (i := 7) SN rfl (by first | exact .inl rfl | exact .inr rfl)) gs_nil))))
  (b_one (c_expr ((pe_bm PySem.F.plainAttrs_list PySem.F.slot_list_extend PySem.F.type_list_extend mt_extend (cv 4) (a_cons (c_lc rfl SN (i_seq (cv 7)) (own := [("rest", 8)]) (blkOk_by (by kernel_rfl)) (fun _ _ _ _ _ => (g_nm (i := 8) SN rfl (by first | exact .inl rfl | exact .inr rfl))) (fun _ _ _ _ _ => ts_nil) (fun _ _ _ _ _ => (c_op op_addV s_add (cv 5) (c_lst (a_cons (c_tup (a_cons (cv 8) (a_cons (cv 2) (a_cons (cv 3) a_nil)))) a_nil))))) a_nil)).imp fun _ _ _ => v_meth s_extend)))))
  (b_one (c_set (i := 1) SN rfl (by first | exact .inl rfl | exact .inr rfl) (c_ice (cv 4)))))))
  (b_one (c_ret (cv 1)))))
theorem sc_law : FnScope ["script", "tape", "turn", "sizes", "rows", "row", "longs", "lap", "job", "table", "moment", "number", "last"] ["script"] (defScope s_law) := ⟨rfl, rfl, rfl, by decide +kernel, rfl, by decide +kernel, by decide +kernel⟩
theorem D_law (h : Fx K mg) : Def0 P wd K mg base 7 (He.ga K "law") 1 [] (F_law (He.ga K)) := by
  obtain ⟨fd, F⟩ := h.d_law
  refine def0 F sc_law rfl rfl (F.bindsN fun _ _ _ _ _ _ us hl => match us, hl with | [_], _ => rfl) .nil reps0 (fun c H ws Q rel p => body_C rel p) fun cdv Ar outer s H E hr => ?_
  have SN := (sc_law).nd
  exact (b_cons (c_set (i := 1) SN rfl (by first | exact .inl rfl | exact .inr rfl) (c_fn (D_z_begun h) hr h.g_z_begun (a_cons (cv 0) a_nil)))
  (b_cons (c_for PassesOwn.never rfl (i_range1 (by rfl) h.b_range (a_cons (c_op op_addV s_add ci (c_blt (call_min2 (by rfl)) s_min2 (by rfl) h.b_min (by decide +kernel) (a_cons (c_blt call_len_seq s_len (by rfl) h.b_len (by decide +kernel) (a_cons (cv 0) a_nil)) (a_cons ci a_nil)))) a_nil)) (g_nm (i := 2) SN rfl (by first | exact .inl rfl | exact .inr rfl))
  (b_cons (c_set (i := 3) SN rfl (by first | exact .inl rfl | exact .inr rfl) (c_fn (D_z_some_sizes h) hr h.g_z_some_sizes (a_cons (cv 1) (a_cons (c_op op_addV s_add ci (c_fn (D_z_draw h) hr h.g_z_draw (a_cons (cv 1) (a_cons ci a_nil)))) (a_cons ci a_nil)))))
  (b_cons (c_set (i := 4) SN rfl (by first | exact .inl rfl | exact .inr rfl) (c_fn (D_z_put_in h) hr h.g_z_put_in (a_cons (cv 3) a_nil)))
  (b_cons (c_ifS (PW.pt (w_or (t_cmp (op_neD hr.units) s_ne (c_ix (c_fn (D_rests_paper h) hr h.g_rests_paper (a_cons (cv 3) a_nil)) ci) (c_if (t_cmp (op_neD hr.units) s_ne (cv 4) (c_lst a_nil)) cs cs)) (w_or1 (t_cmp (op_neD hr.units) s_ne (c_cmp (op_neD hr.units) s_ne (cv 4) (c_lst a_nil)) (c_cmp op_notN s_notN (c_fn (D_z_found_rests h) hr h.g_z_found_rests (a_cons (cv 3) a_nil)) cn)))))
  (b_one (c_ret cb))
  b_nil)
  (b_cons (c_for PassesOwn.never rfl (i_seq (c_op op_addV s_add (c_slL (cv 4) o_no (o_some ci)) (c_slL (cv 4) (o_some (c_neg ci)) o_no))) (g_nm (i := 5) SN rfl (by first | exact .inl rfl | exact .inr rfl))
  (b_one (c_ifS (PW.pt (w_or (t_cmp (op_neD hr.units) s_ne (c_fn (D_clashing h) hr h.g_clashing (a_cons (cv 5) a_nil)) (c_lst a_nil)) (w_or1 (PW.pt (w_and (t_cmp op_le s_le (c_fn (D_z_round h) hr h.g_z_round (a_cons (cv 5) a_nil)) ci) (w_and1 (t_cmp (op_neD hr.units) s_ne (c_ix (c_fn (D_most_long h) hr h.g_most_long (a_cons (cv 5) a_nil)) ci) ci)))))))
  (b_one (c_ret cb))
  b_nil)))
  (b_cons (c_set (i := 6) SN rfl (by first | exact .inl rfl | exact .inr rfl) (c_own a_nil))
  (b_cons (c_for PassesOwn.never rfl (i_range1 (by rfl) h.b_range (a_cons (c_op op_addV s_add ci (c_fn (D_z_draw h) hr h.g_z_draw (a_cons (cv 1) (a_cons ci a_nil)))) a_nil)) (g_nm (i := 7) SN rfl (by first | exact .inl rfl | exact .inr rfl))
  (b_cons (c_set (i := 8) SN rfl (by first | exact .inl rfl | exact .inr rfl) (c_fn (D_z_some_long h) hr h.g_z_some_long (a_cons (cv 1) a_nil)))
  (b_one (c_expr ((pe_bm PySem.F.plainAttrs_list PySem.F.slot_list_append PySem.F.type_list_append mt_append (cv 6) (a_cons (c_tup (a_cons (c_ix (cv 8) ci) (a_cons (c_ix (cv 8) ci) (a_cons (c_blt (call_min3Nu (by rfl)) s_min3 (by rfl) h.b_min (by decide +kernel) (a_cons (c_ix (cv 8) ci) (a_cons (c_op op_addV s_add ci (c_fn (D_z_draw h) hr h.g_z_draw (a_cons (cv 1) (a_cons ci a_nil)))) (a_cons (c_ix (cv 8) ci) a_nil)))) a_nil)))) a_nil)).imp fun _ _ _ => v_meth s_append)))))
  (b_cons (c_while PassesOwn.never (t_cmp op_gt s_gt (c_blt (cr_sum (by rfl)) s_sum (by rfl) h.b_sum (by decide +kernel) (a_cons (c_lc rfl SN (i_seq (cv 6)) (own := [("job", 8)]) (blkOk_by (by kernel_rfl)) (fun _ _ _ _ _ => (g_nm (i := 8) SN rfl (by first | exact .inl rfl | exact .inr rfl))) (fun _ _ _ _ _ => ts_nil) (fun _ _ _ _ _ => (c_ix (cv 8) ci))) a_nil)) ci)
  (b_one (c_expr ((pe_bm0 PySem.F.plainAttrs_list PySem.F.slot_list_pop PySem.F.type_list_pop mt_pop (cv 6)).imp fun _ _ _ => v_meth0 s_pop))))
  (b_cons (c_ifS (t_cmp (op_eqD hr.units) s_eq (cv 6) (c_lst a_nil))
  (b_one (c_set (i := 6) SN rfl (by first | exact .inl rfl | exact .inr rfl) (c_own (a_cons (c_tup (a_cons ci (a_cons ci (a_cons ci a_nil)))) a_nil))))
  b_nil)
  (b_frz (i := 6) (b_cons (c_set (i := 9) SN rfl (by first | exact .inl rfl | exact .inr rfl) (c_make h.m_Table (D_Table_init h) hr h.g_Table (a_cons (c_fn (D_z_singles h) hr h.g_z_singles (a_cons (c_ice (cv 6)) a_nil)) a_nil)))
  (b_one (c_for PassesOwn.never rfl (i_seq (c_lst (a_cons (c_op op_sub s_sub (c_fn (D_z_draw h) hr h.g_z_draw (a_cons (cv 1) (a_cons (c_op op_pow s_pow ci ci) a_nil))) (c_op op_pow s_pow ci ci)) (a_cons (c_ix (c_ix (cv 6) ci) ci) (a_cons (c_op op_addV s_add (c_ix (c_ix (cv 6) (c_neg ci)) ci) (c_ix (c_ix (cv 6) (c_neg ci)) ci)) (a_cons ci a_nil)))))) (g_nm (i := 10) SN rfl (by first | exact .inl rfl | exact .inr rfl))
  (b_cons (c_set (i := 11) SN rfl (by first | exact .inl rfl | exact .inr rfl) (c_blt call_len_seq s_len (by rfl) h.b_len (by decide +kernel) (a_cons (c_lc rfl SN (i_seq (cv 6)) (own := [("job", 8)]) (blkOk_by (by kernel_rfl)) (fun _ _ _ _ _ => (g_nm (i := 8) SN rfl (by first | exact .inl rfl | exact .inr rfl))) (fun _ _ _ _ _ => (ts_one (t_val (c_fn (D_runs_then h) hr h.g_runs_then (a_cons (cv 8) (a_cons (cv 10) a_nil)))))) (fun _ _ _ _ _ => ci)) a_nil)))
  (b_cons (c_ifS (PW.pt (w_or (t_cmp (op_neD hr.units) s_ne (cv 11) (c_blt call_len_seq s_len (by rfl) h.b_len (by decide +kernel) (a_cons (c_lc rfl SN (i_seq (cv 6)) (own := [("job", 8)]) (blkOk_by (by kernel_rfl)) (fun _ _ _ _ _ => (g_nm (i := 8) SN rfl (by first | exact .inl rfl | exact .inr rfl))) (fun _ _ _ _ _ => (ts_one (t_val (c_fn (D_z_busy h) hr h.g_z_busy (a_cons (cv 8) (a_cons (cv 10) a_nil)))))) (fun _ _ _ _ _ => ci)) a_nil))) (w_or1 (t_cmp (op_neD hr.units) s_ne (c_fn (D_count_at h) hr h.g_count_at (a_cons (cv 9) (a_cons (cv 10) a_nil))) (cv 11)))))
  (b_one (c_ret cb))
  b_nil)
  (b_cons (c_set (i := 12) SN rfl (by first | exact .inl rfl | exact .inr rfl) (c_op op_addV s_add (cv 10) (c_fn (D_z_draw h) hr h.g_z_draw (a_cons (cv 1) (a_cons (c_op op_pow s_pow ci ci) a_nil)))))
  (b_one (c_ifS (t_cmp (op_neD hr.units) s_ne (c_fn (D_total_in h) hr h.g_total_in (a_cons (cv 9) (a_cons (cv 10) (a_cons (cv 12) a_nil)))) (c_blt (cr_sum (by rfl)) s_sum (by rfl) h.b_sum (by decide +kernel) (a_cons (c_lc rfl SN (i_seq (cv 6)) (own := [("job", 8)]) (blkOk_by (by kernel_rfl)) (fun _ _ _ _ _ => (g_nm (i := 8) SN rfl (by first | exact .inl rfl | exact .inr rfl))) (fun _ _ _ _ _ => ts_nil) (fun _ _ _ _ _ => (c_fn (D_moments_in h) hr h.g_moments_in (a_cons (cv 8) (a_cons (cv 10) (a_cons (cv 12) a_nil)))))) a_nil)))
  (b_one (c_ret cb))
  b_nil))))))))))))))))))
  (b_one (c_ret cb))))
end
end L74


set_option maxRecDepth 100000
set_option maxHeartbeats 0
namespace L74
open PySem PySem.Spec PyProof.Rows L2
abbrev R : PySem.W.OpenRow := PySem.W.OpenLaw.row PySem.Challenge.rw_turnscover_k74_whole_jobs_put_in_one_by
abbrev hk : PySem.W.Hook := VH.hookG 6 fa fn
def ob (s : PySem.W.SharedT) : VH.AlG := VH.obsGG 6 fa fn (HandSHeadRun.getT s)
theorem ob_eq (s : PySem.W.SharedT) : ob s = hk.obs s.abs := VH.obsGG_eq (HandSHeadRun.getT_eq s)
def loose0 : List PySem.Str := ["TurnError", "PartError", "ItemError", "TooMany", "BadNumber", "BadTable", "NoTable", "BadMoment", "BadLong", "BadLongs", "BadSizes", "is_number", "is_between", "is_list", "FAR", "FARTHEST", "MOST_PERIOD", "moment_right", "need_moment", "job_right", "divisor_of", "multiple_of", "MOST_JOBS", "Table", "need_table", "running", "count_at", "MOST_LONGS", "long_right", "need_long"]
def loose1 : List PySem.Str := ["need_longs", "running_long", "runs_then", "moments_before", "moments_in", "gap_of", "keeps_apart", "clashing", "MOST_ROUND", "round_by_longs", "need_short_round", "numbers_of", "most_long", "free_rests", "times_by", "total_by", "total_in", "MOST_SIZES", "MOST_WAYS", "size_right", "need_sizes", "rooms_by", "clash_in", "levels_of", "tree_of", "rests_paper", "_law_begun", "_law_blend", "_law_draw", "_law_pick"]
def loose2 : List PySem.Str := ["_law_common", "_law_multiple", "_law_busy", "_law_part_gap", "_law_apart", "_law_some_long", "_law_held", "_law_rooms", "_law_ways", "_law_first_clash", "_law_found_rests", "_law_some_sizes", "_law_round", "_law_put_in", "_law_singles"]
def loose : List PySem.Str := loose0 ++ (loose1 ++ (loose2))
theorem run (w : World) : HandSHeadRun.RunEq R (PySem.W.view R.prog [86]) hk ob 6000 loose w := by
  intro os
  kernel_rfl
end L74


set_option maxRecDepth 100000
set_option maxHeartbeats 2000000
/-! The value layer: what dens come to (wp), straight pieces by simp, loops by invariants. -/
namespace VL
open PySem L2
variable {α β : Type}
def wp (m : M α) (O : Sto) (Φ : α → Sto → Prop) : Prop := match m O with
  | .ok a O' => Φ a O'
  | _ => False
theorem wp_eq {m : M α} {O O' : Sto} {a : α} {Φ : α → Sto → Prop} (h : m O = .ok a O') : wp m O Φ = Φ a O' := by unfold wp; rw [h]
theorem wp_out {m : M α} {O : Sto} {Φ : α → Sto → Prop} (h : wp m O Φ) : ∃ a O', m O = .ok a O' ∧ Φ a O' := by
  unfold wp at h
  cases e : m O with
  | ok a O' => rw [e] at h; exact ⟨a, O', rfl, h⟩
  | ex x O' => rw [e] at h; exact h.elim
  | no => rw [e] at h; exact h.elim
theorem wp_mono {m : M α} {O : Sto} {Φ Ψ : α → Sto → Prop} (h : wp m O Φ) (i : ∀ a O', Φ a O' → Ψ a O') : wp m O Ψ := by
  obtain ⟨a, O', e, q⟩ := wp_out h
  rw [wp_eq e]; exact i a O' q
theorem eq_of_wp {m : M α} {O O1 : Sto} {a : α} (h : wp m O fun b O' => b = a ∧ O' = O1) : m O = .ok a O1 := by
  obtain ⟨b, O', e, rfl, rfl⟩ := wp_out h
  exact e
@[simp] theorem wp_pure (a : α) (O : Sto) (Φ : α → Sto → Prop) : wp (pure a) O Φ = Φ a O := rfl
@[simp] theorem wp_ok (a : α) (O O1 : Sto) (Φ : α → Sto → Prop) : wp (fun _ => .ok a O1) O Φ = Φ a O1 := rfl
@[simp] theorem wp_no (O : Sto) (Φ : α → Sto → Prop) : wp M.no O Φ = False := rfl
@[simp] theorem wp_bind (m : M α) (f : α → M β) (O : Sto) (Φ : β → Sto → Prop) : wp (m >>= f) O Φ = wp m O fun a O' => wp (f a) O' Φ := by
  unfold wp
  rw [bind_at]
  cases m O <;> rfl
@[simp] theorem wp_calm (m : M α) (O : Sto) (Φ : α → Sto → Prop) : wp (calm m) O Φ = wp m O Φ := by
  unfold wp calm
  cases m O <;> rfl
@[simp] theorem wp_push (m : MO) (O : Sto) (Φ : W → Sto → Prop) : wp (M.push m) O Φ = Φ (.own O.length) (O ++ [m]) := rfl
theorem wp_ite (c : Prop) [Decidable c] (a b : M α) (O : Sto) (Φ : α → Sto → Prop) : wp (if c then a else b) O Φ = if c then wp a O Φ else wp b O Φ := by
  split <;> rfl
theorem wp_if {c : Prop} [Decidable c] {a b : M α} {O : Sto} {Φ : α → Sto → Prop} (h : c) : wp (if c then a else b) O Φ = wp a O Φ := by rw [if_pos h]
/-! ### defs -/
theorem wp_cut (f : M W) (O : Sto) (Φ : W → Sto → Prop) : wp (cutM f) O Φ = wp f O fun w O' => match w with
    | .d d => Φ (.d d) (O'.take O.length)
    | .own k => k < O.length ∧ Φ (.own k) (O'.take O.length) := by
  unfold wp cutM
  cases f O with
  | ok w O' =>
    cases w with
    | d d => rfl
    | own k =>
      by_cases h : k < O.length
      · simp only [if_pos h]
        exact (propext ⟨fun z => ⟨h, z⟩, fun z => z.2⟩)
      · simp only [if_neg h]
        exact (propext ⟨fun z => z.elim, fun z => h z.1⟩)
  | ex x O' => rfl
  | no => rfl
theorem wp_run (m : Nat) (b : DS) (ws : List W) (O : Sto) (Φ : W → Sto → Prop) : wp (runB m b ws) O Φ = wp (b (ws.map some ++ List.replicate m none)) O fun r O' => match r.1 with
    | .nx => Φ (.d .non) O'
    | .rt w => Φ w O'
    | _ => False := by
  unfold wp runB
  cases b (ws.map some ++ List.replicate m none) O with
  | ok r O' =>
    obtain ⟨fl, Γ⟩ := r
    cases fl <;> rfl
  | ex x O' => rfl
  | no => rfl
theorem wp_fn (m : Nat) (b : DS) (ws : List W) (O : Sto) (Φ : W → Sto → Prop) : wp (fnC m b ws) O Φ = wp (b (ws.map some ++ List.replicate m none)) O fun r O' => match r.1 with
    | .nx => Φ (.d .non) (O'.take O.length)
    | .rt (.d d) => Φ (.d d) (O'.take O.length)
    | .rt (.own k) => k < O.length ∧ Φ (.own k) (O'.take O.length)
    | _ => False := by
  unfold fnC
  rw [wp_cut, wp_run]
  congr 1
  funext r O'
  obtain ⟨fl, Γ⟩ := r
  cases fl with
  | rt w => cases w <;> rfl
  | _ => rfl
theorem wp_dFn {n : Nat} {dws : List D} {f : List W → M W} {ws : List W} {O : Sto} {Φ : W → Sto → Prop} (h : (ws ++ dws.map W.d).length = n := by rfl) : wp (dFn n dws f ws) O Φ = wp (f (ws ++ dws.map W.d)) O Φ := by
  unfold dFn arity
  rw [if_pos h, wp_calm]
/-! ### pieces of dens -/
@[simp] theorem wp_var (i : Nat) (Γ : Gam) (O : Sto) (Φ : W → Sto → Prop) : wp (dVar i Γ) O Φ = match Γ[i]? with
    | some (some w) => Φ w O
    | _ => False := by
  unfold dVar
  cases Γ[i]? with
  | none => rfl
  | some o => cases o <;> rfl
@[simp] theorem wp_dC (d : D) (Γ : Gam) (O : Sto) (Φ : W → Sto → Prop) : wp (dC d Γ) O Φ = Φ (.d d) O := rfl
@[simp] theorem wp_wB (b : Bool) (O : Sto) (Φ : Bool → Sto → Prop) : wp (wB (.d (.bl b))) O Φ = Φ b O := rfl
theorem wp_wI (f : Int → Int → M W) (i j : Int) (O : Sto) (Φ : W → Sto → Prop) : wp (wI f (.d (.int i)) (.d (.int j))) O Φ = wp (f i j) O Φ := rfl
@[simp] theorem wp_add (i j : Int) (O : Sto) (Φ : W → Sto → Prop) : wp (wAdd (.d (.int i)) (.d (.int j))) O Φ = Φ (.d (.int (i + j))) O := rfl
@[simp] theorem wp_sub (i j : Int) (O : Sto) (Φ : W → Sto → Prop) : wp (wSub (.d (.int i)) (.d (.int j))) O Φ = Φ (.d (.int (i - j))) O := rfl
theorem wp_mul {i j : Int} (h : MulC i j) (O : Sto) (Φ : W → Sto → Prop) : wp (wMul (.d (.int i)) (.d (.int j))) O Φ = Φ (.d (.int (i * j))) O := by unfold wMul; rw [wp_wI, wp_if h]; rfl
theorem wp_div {i j : Int} (h : DivC i j) (O : Sto) (Φ : W → Sto → Prop) : wp (wDiv (.d (.int i)) (.d (.int j))) O Φ = Φ (.d (.int (i / j))) O := by unfold wDiv; rw [wp_wI, wp_if h]; rfl
theorem wp_mod {i j : Int} (h : 0 < j) (O : Sto) (Φ : W → Sto → Prop) : wp (wMod (.d (.int i)) (.d (.int j))) O Φ = Φ (.d (.int (i % j))) O := by unfold wMod; rw [wp_wI, wp_if h]; rfl
theorem wp_pow {i j : Int} (h : PowC i j) (O : Sto) (Φ : W → Sto → Prop) : wp (wPow (.d (.int i)) (.d (.int j))) O Φ = Φ (.d (.int (i ^ j.toNat))) O := by unfold wPow; rw [wp_wI, wp_if h]; rfl
@[simp] theorem wp_lt (i j : Int) (O : Sto) (Φ : W → Sto → Prop) : wp (wLt (.d (.int i)) (.d (.int j))) O Φ = Φ (.d (.bl (decide (i < j)))) O := rfl
@[simp] theorem wp_le (i j : Int) (O : Sto) (Φ : W → Sto → Prop) : wp (wLe (.d (.int i)) (.d (.int j))) O Φ = Φ (.d (.bl (decide (i ≤ j)))) O := rfl
@[simp] theorem wp_gt (i j : Int) (O : Sto) (Φ : W → Sto → Prop) : wp (wGt (.d (.int i)) (.d (.int j))) O Φ = Φ (.d (.bl (decide (j < i)))) O := rfl
@[simp] theorem wp_ge (i j : Int) (O : Sto) (Φ : W → Sto → Prop) : wp (wGe (.d (.int i)) (.d (.int j))) O Φ = Φ (.d (.bl (decide (j ≤ i)))) O := rfl
theorem good_int (n : Nat) (i : Int) : D.good n (.int i) = true := by cases n <;> rfl
theorem good_bl (n : Nat) (i : Bool) : D.good n (.bl i) = true := by cases n <;> rfl
theorem eqv_int (i j : Int) : D.eqv (.int i) (.int j) = decide (i = j) := by
  unfold D.eqv D.py
  unfold PyData.eqv
  first | rfl | (simp [BEq.beq])
theorem eqv_bl (i j : Bool) : D.eqv (.bl i) (.bl j) = decide (i = j) := by
  cases i <;> cases j <;> decide
@[simp] theorem wp_eqI (i j : Int) (O : Sto) (Φ : W → Sto → Prop) : wp (wEq (.d (.int i)) (.d (.int j))) O Φ = Φ (.d (.bl (decide (i = j)))) O := by
  unfold wp wEq
  simp only [wQ_d, good_int, and_self, if_true, eqv_int]
@[simp] theorem wp_neI (i j : Int) (O : Sto) (Φ : W → Sto → Prop) : wp (wNe (.d (.int i)) (.d (.int j))) O Φ = Φ (.d (.bl (!decide (i = j)))) O := by
  unfold wp wNe
  simp only [wQ_d, good_int, and_self, if_true, eqv_int]
@[simp] theorem wp_neB (i j : Bool) (O : Sto) (Φ : W → Sto → Prop) : wp (wNe (.d (.bl i)) (.d (.bl j))) O Φ = Φ (.d (.bl (!decide (i = j)))) O := by
  unfold wp wNe
  simp only [wQ_d, good_bl, and_self, if_true, eqv_bl]
theorem eqv_nil {ds : List D} : D.eqv (.lst ds) (.lst []) = ds.isEmpty := by
  cases ds <;> (unfold D.eqv D.py D.pys PyData.eqv; first | rfl | (simp [PyData.eqvAll]))
theorem wp_ne_nil {x : W} {ds : List D} {O : Sto} (h : wQ x O = some (.lst ds)) (hg : ds.all (D.good 59) = true) (Φ : W → Sto → Prop) : wp (wNe x (.d (.lst []))) O Φ = Φ (.d (.bl (!ds.isEmpty))) O := by
  unfold wp wNe
  rw [h, wQ_d]
  have g1 : D.good 60 (.lst ds) = true := hg
  have g2 : D.good 60 (.lst []) = true := rfl
  simp only [g1, g2, and_self, if_true, eqv_nil]
theorem wp_eq_nil {x : W} {ds : List D} {O : Sto} (h : wQ x O = some (.lst ds)) (hg : ds.all (D.good 59) = true) (Φ : W → Sto → Prop) : wp (wEq x (.d (.lst []))) O Φ = Φ (.d (.bl (ds.isEmpty))) O := by
  unfold wp wEq
  rw [h, wQ_d]
  have g1 : D.good 60 (.lst ds) = true := hg
  have g2 : D.good 60 (.lst []) = true := rfl
  simp only [g1, g2, and_self, if_true, eqv_nil]
theorem wp_ix {x : W} {ds : List D} {d : D} {i : Int} {O : Sto} (h : wS x O = some ds) (hi : atI ds i = some d) (Φ : W → Sto → Prop) : wp (wIx x (.d (.int i))) O Φ = Φ (.d d) O := by
  unfold wp wIx
  simp only [h, hi]
theorem atI_0 {α : Type} (a : α) (l : List α) : atI (a :: l) 0 = some a := by
  have := atI_nat (xs := a :: l) (j := 0) (v := a) rfl
  simpa using this
theorem atI_1 {α : Type} (a b : α) (l : List α) : atI (a :: b :: l) 1 = some b := by
  have := atI_nat (xs := a :: b :: l) (j := 1) (v := b) rfl
  simpa using this
theorem atI_2 {α : Type} (a b c : α) (l : List α) : atI (a :: b :: c :: l) 2 = some c := by
  have := atI_nat (xs := a :: b :: c :: l) (j := 2) (v := c) rfl
  simpa using this
@[simp] theorem wp_t0 (a : D) (l : List D) (O : Sto) (Φ : W → Sto → Prop) : wp (wIx (.d (.tup (a :: l))) (.d (.int 0))) O Φ = Φ (.d a) O := wp_ix rfl (atI_0 _ _) Φ
@[simp] theorem wp_t1 (a b : D) (l : List D) (O : Sto) (Φ : W → Sto → Prop) : wp (wIx (.d (.tup (a :: b :: l))) (.d (.int 1))) O Φ = Φ (.d b) O := wp_ix rfl (atI_1 _ _ _) Φ
@[simp] theorem wp_t2 (a b c : D) (l : List D) (O : Sto) (Φ : W → Sto → Prop) : wp (wIx (.d (.tup (a :: b :: c :: l))) (.d (.int 2))) O Φ = Φ (.d c) O := wp_ix rfl (atI_2 _ _ _ _) Φ
@[simp] theorem wp_l0 (a : D) (l : List D) (O : Sto) (Φ : W → Sto → Prop) : wp (wIx (.d (.lst (a :: l))) (.d (.int 0))) O Φ = Φ (.d a) O := wp_ix rfl (atI_0 _ _) Φ
theorem wp_len {x : W} {ds : List D} {O : Sto} (h : wS x O = some ds) (Φ : W → Sto → Prop) : wp (wLen x) O Φ = Φ (.d (.int ds.length)) O := by
  unfold wp wLen
  simp only [h]
@[simp] theorem wp_lenT (ds : List D) (O : Sto) (Φ : W → Sto → Prop) : wp (wLen (.d (.tup ds))) O Φ = Φ (.d (.int ds.length)) O := wp_len rfl Φ
@[simp] theorem wp_lenL (ds : List D) (O : Sto) (Φ : W → Sto → Prop) : wp (wLen (.d (.lst ds))) O Φ = Φ (.d (.int ds.length)) O := wp_len rfl Φ
@[simp] theorem wp_int (i : Int) (O : Sto) (Φ : W → Sto → Prop) : wp (wInt (.d (.int i))) O Φ = Φ (.d (.int i)) O := rfl
@[simp] theorem wp_abs (i : Int) (O : Sto) (Φ : W → Sto → Prop) : wp (wAbs (.d (.int i))) O Φ = Φ (.d (.int (if i < 0 then -i else i))) O := rfl
@[simp] theorem wp_neg (i : Int) (O : Sto) (Φ : W → Sto → Prop) : wp (wNeg (.d (.int i))) O Φ = Φ (.d (.int (-i))) O := rfl
@[simp] theorem wp_max2 (i j : Int) (O : Sto) (Φ : W → Sto → Prop) : wp (wMax2 (.d (.int i)) (.d (.int j))) O Φ = Φ (.d (.int (max i j))) O := by
  show Φ (.d (.int (if j > i then j else i))) O = _
  congr 3
  split <;> omega
@[simp] theorem wp_min2 (i j : Int) (O : Sto) (Φ : W → Sto → Prop) : wp (wMin2 (.d (.int i)) (.d (.int j))) O Φ = Φ (.d (.int (min i j))) O := by
  show Φ (.d (.int (if j < i then j else i))) O = _
  congr 3
  split <;> omega
@[simp] theorem wp_min3 (i j k : Int) (O : Sto) (Φ : W → Sto → Prop) : wp (wMin3 [.d (.int i), .d (.int j), .d (.int k)]) O Φ = Φ (.d (.int (min (min i j) k))) O := rfl
@[simp] theorem wp_w1 (f : W → M W) (x : W) (O : Sto) (Φ : W → Sto → Prop) : wp (w1 f [x]) O Φ = wp (f x) O Φ := rfl
@[simp] theorem wp_w2 (f : W → W → M W) (x y : W) (O : Sto) (Φ : W → Sto → Prop) : wp (w2 f [x, y]) O Φ = wp (f x y) O Φ := rfl
theorem kb1 : kitB "int" "int" = some true := by decide +kernel
theorem kb2 : kitB "int" "bool" = some false := by decide +kernel
theorem kb3 : kitB "tuple" "tuple" = some true := by decide +kernel
theorem kb4 : kitB "list" "list" = some true := by decide +kernel
theorem kb5 : kitB "list" "tuple" = some false := by decide +kernel
@[simp] theorem wp_isInt (i : Int) (O : Sto) (Φ : W → Sto → Prop) : wp (wIsi (.d (.int i)) (.d (.ty "int"))) O Φ = Φ (.d (.bl true)) O := by
  unfold wp wIsi
  simp only [wTy, tyD, kb1]
@[simp] theorem wp_isBool (i : Int) (O : Sto) (Φ : W → Sto → Prop) : wp (wIsi (.d (.int i)) (.d (.ty "bool"))) O Φ = Φ (.d (.bl false)) O := by
  unfold wp wIsi
  simp only [wTy, tyD, kb2]
@[simp] theorem wp_isTup (ds : List D) (O : Sto) (Φ : W → Sto → Prop) : wp (wIsi (.d (.tup ds)) (.d (.ty "tuple"))) O Φ = Φ (.d (.bl true)) O := by
  unfold wp wIsi
  simp only [wTy, tyD, kb3]
theorem wp_isi2 {d : DE} {Γ : Gam} {O : Sto} {ds : List D} {Φ : W → Sto → Prop} (h : d Γ O = .ok (.d (.lst ds)) O) : wp (dIsi2 d "list" "tuple" Γ) O Φ = Φ (.d (.bl true)) O := by
  have e : dIsi2 d "list" "tuple" Γ O = .ok (.d (.bl true)) O := by
    unfold dIsi2
    show (d Γ O).bind _ = _
    rw [h]
    show (match wTy (.d (.lst ds)) O with
      | some t => match kitB t "list", kitB t "tuple" with
        | some a, some b => (.ok (.d (.bl (a || b))) O : Out W)
        | _, _ => .no
      | none => .no) = _
    simp only [wTy, tyD, kb4, kb5, Bool.true_or]
  exact wp_eq e
@[simp] theorem wp_isN1 (O : Sto) (Φ : W → Sto → Prop) : wp (wIsN (.d .non) (.d .non)) O Φ = Φ (.d (.bl true)) O := rfl
@[simp] theorem wp_isN2 (ds : List D) (O : Sto) (Φ : W → Sto → Prop) : wp (wIsN (.d (.tup ds)) (.d .non)) O Φ = Φ (.d (.bl false)) O := rfl
@[simp] theorem wp_notN1 (O : Sto) (Φ : W → Sto → Prop) : wp (wNotN (.d .non) (.d .non)) O Φ = Φ (.d (.bl false)) O := rfl
@[simp] theorem wp_notN2 (ds : List D) (O : Sto) (Φ : W → Sto → Prop) : wp (wNotN (.d (.tup ds)) (.d .non)) O Φ = Φ (.d (.bl true)) O := rfl
theorem wp_mkTup {ws : List W} {ds : List D} (h : wDs ws = some ds) (hl : ds.length ≤ sizeLine) (O : Sto) (Φ : W → Sto → Prop) : wp (mkTup ws) O Φ = Φ (.d (.tup ds)) O := by
  unfold mkTup
  rw [h]
  show wp (if _ then _ else _) O Φ = _
  rw [wp_if hl]; rfl
theorem wp_mkLst {ws : List W} {ds : List D} (h : wDs ws = some ds) (hl : ds.length ≤ sizeLine) (O : Sto) (Φ : W → Sto → Prop) : wp (mkLst ws) O Φ = Φ (.d (.lst ds)) O := by
  unfold mkLst
  rw [h]
  show wp (if _ then _ else _) O Φ = _
  rw [wp_if hl]; rfl
theorem wp_mkOwn {ws : List W} {ds : List D} (h : wDs ws = some ds) (hl : ds.length ≤ sizeLine) (O : Sto) (Φ : W → Sto → Prop) : wp (mkOwn ws) O Φ = Φ (.own O.length) (O ++ [.lst ds]) := by
  unfold mkOwn
  rw [h]
  show wp (if _ then _ else _) O Φ = _
  rw [wp_if hl]; rfl
theorem wDs_map : ∀ ds : List D, wDs (ds.map W.d) = some ds
  | [] => rfl
  | d :: ds => by
    show (wDs (ds.map W.d)).map (d :: ·) = _
    rw [wDs_map ds]; rfl
@[simp] theorem wp_tup1 (a : D) (O : Sto) (Φ : W → Sto → Prop) : wp (mkTup [.d a]) O Φ = Φ (.d (.tup [a])) O := wp_mkTup rfl (by show 1 ≤ sizeLine; decide) O Φ
@[simp] theorem wp_tup2 (a b : D) (O : Sto) (Φ : W → Sto → Prop) : wp (mkTup [.d a, .d b]) O Φ = Φ (.d (.tup [a, b])) O := wp_mkTup rfl (by show 2 ≤ sizeLine; decide) O Φ
@[simp] theorem wp_tup3 (a b c : D) (O : Sto) (Φ : W → Sto → Prop) : wp (mkTup [.d a, .d b, .d c]) O Φ = Φ (.d (.tup [a, b, c])) O := wp_mkTup rfl (by show 3 ≤ sizeLine; decide) O Φ
@[simp] theorem wp_tup0 (O : Sto) (Φ : W → Sto → Prop) : wp (mkTup []) O Φ = Φ (.d (.tup [])) O := wp_mkTup rfl (by show 0 ≤ sizeLine; decide) O Φ
@[simp] theorem wp_lst0 (O : Sto) (Φ : W → Sto → Prop) : wp (mkLst []) O Φ = Φ (.d (.lst [])) O := wp_mkLst rfl (by show 0 ≤ sizeLine; decide) O Φ
@[simp] theorem wp_lst1 (a : D) (O : Sto) (Φ : W → Sto → Prop) : wp (mkLst [.d a]) O Φ = Φ (.d (.lst [a])) O := wp_mkLst rfl (by show 1 ≤ sizeLine; decide) O Φ
@[simp] theorem wp_lst2 (a b : D) (O : Sto) (Φ : W → Sto → Prop) : wp (mkLst [.d a, .d b]) O Φ = Φ (.d (.lst [a, b])) O := wp_mkLst rfl (by show 2 ≤ sizeLine; decide) O Φ
@[simp] theorem wp_lst3 (a b c : D) (O : Sto) (Φ : W → Sto → Prop) : wp (mkLst [.d a, .d b, .d c]) O Φ = Φ (.d (.lst [a, b, c])) O := wp_mkLst rfl (by show 3 ≤ sizeLine; decide) O Φ
@[simp] theorem wp_lst4 (a b c d : D) (O : Sto) (Φ : W → Sto → Prop) : wp (mkLst [.d a, .d b, .d c, .d d]) O Φ = Φ (.d (.lst [a, b, c, d])) O := wp_mkLst rfl (by show 4 ≤ sizeLine; decide) O Φ
@[simp] theorem wp_lst5 (a b c d e : D) (O : Sto) (Φ : W → Sto → Prop) : wp (mkLst [.d a, .d b, .d c, .d d, .d e]) O Φ = Φ (.d (.lst [a, b, c, d, e])) O := wp_mkLst rfl (by show 5 ≤ sizeLine; decide) O Φ
@[simp] theorem wp_lst6 (a b c d e f : D) (O : Sto) (Φ : W → Sto → Prop) : wp (mkLst [.d a, .d b, .d c, .d d, .d e, .d f]) O Φ = Φ (.d (.lst [a, b, c, d, e, f])) O := wp_mkLst rfl (by show 6 ≤ sizeLine; decide) O Φ
@[simp] theorem wp_lst7 (a b c d e f g : D) (O : Sto) (Φ : W → Sto → Prop) : wp (mkLst [.d a, .d b, .d c, .d d, .d e, .d f, .d g]) O Φ = Φ (.d (.lst [a, b, c, d, e, f, g])) O := wp_mkLst rfl (by show 7 ≤ sizeLine; decide) O Φ
@[simp] theorem wp_own0 (O : Sto) (Φ : W → Sto → Prop) : wp (mkOwn []) O Φ = Φ (.own O.length) (O ++ [.lst []]) := wp_mkOwn rfl (by show 0 ≤ sizeLine; decide) O Φ
@[simp] theorem wp_own1 (a : D) (O : Sto) (Φ : W → Sto → Prop) : wp (mkOwn [.d a]) O Φ = Φ (.own O.length) (O ++ [.lst [a]]) := wp_mkOwn rfl (by show 1 ≤ sizeLine; decide) O Φ
theorem wp_tuple {x : W} {ds : List D} {O : Sto} (h : wS x O = some ds) (Φ : W → Sto → Prop) : wp (wTuple x) O Φ = Φ (.d (.tup ds)) O := by
  unfold wp wTuple
  simp only [h]
theorem wp_addL {x y : W} {a b : List D} {O : Sto} (hx : wL x O = some a) (hy : wL y O = some b) (hl : a.length + b.length ≤ sizeLine) (Φ : W → Sto → Prop) : wp (wAdd x y) O Φ = Φ (.d (.lst (a ++ b))) O := by
  have e : wAdd x y O = .ok (.d (.lst (a ++ b))) O := by
    unfold wAdd
    split
    · cases hx
    · cases hx
    · cases hx
    · simp only [hx, hy, if_pos hl]
  exact wp_eq e
theorem wp_addT {a b : List D} {O : Sto} (h : a ≠ []) (hl : a.length + b.length ≤ sizeLine) (Φ : W → Sto → Prop) : wp (wAdd (.d (.tup a)) (.d (.tup b))) O Φ = Φ (.d (.tup (a ++ b))) O := by
  have e : wAdd (.d (.tup a)) (.d (.tup b)) O = .ok (.d (.tup (a ++ b))) O := by
    unfold wAdd
    exact if_pos ⟨h, hl⟩
  exact wp_eq e
theorem wp_slL {x : W} {ds : List D} {lo hi : Option Int} {O : Sto} (h : wL x O = some ds) (Φ : W → Sto → Prop) : wp (wSlL x lo hi) O Φ = Φ (.d (.lst (cutD ds lo hi))) O := by
  unfold wp wSlL
  simp only [h]
theorem cut_tail (ds : List D) : cutD ds (some 1) none = ds.drop 1 := by
  unfold cutD
  have e1 : HT.sIx ds.length 0 (some 1) = min 1 ds.length := by simp [HT.sIx]; try omega
  have e2 : HT.sIx ds.length ds.length none = ds.length := by simp [HT.sIx]
  rw [e1, e2]
  cases ds with
  | nil => rfl
  | cons a l =>
    have : min 1 (a :: l).length = 1 := by simp
    rw [this]
    simp
theorem wp_app {x : W} {k : Nat} {ds : List D} {d : D} {O : Sto} (hx : x = .own k) (h : O[k]? = some (.lst ds)) (hl : ds.length < sizeLine) (Φ : W → Sto → Prop) : wp (wAppend x [.d d]) O Φ = Φ (.d .non) (O.set k (.lst (ds ++ [d]))) := by
  subst hx
  have e : wAppend (.own k) [.d d] O = .ok (.d .non) (O.set k (.lst (ds ++ [d]))) := by
    unfold wAppend wMut
    simp only [h, if_pos hl]
  exact wp_eq e
theorem wp_ext {x y : W} {k : Nat} {ds zs : List D} {O : Sto} (hx : x = .own k) (h : O[k]? = some (.lst ds)) (hy : wL y O = some zs) (hl : ds.length + zs.length ≤ sizeLine) (Φ : W → Sto → Prop) : wp (wExtend x [y]) O Φ = Φ (.d .non) (O.set k (.lst (ds ++ zs))) := by
  subst hx
  have e : wExtend (.own k) [y] O = .ok (.d .non) (O.set k (.lst (ds ++ zs))) := by
    unfold wExtend wMut
    simp only [hy, h, if_pos hl]
  exact wp_eq e
theorem wp_isL {x : W} {ds : List D} {O : Sto} (h : wL x O = some ds) (Φ : Unit → Sto → Prop) : wp (isL x) O Φ = Φ () O := by
  unfold wp isL
  simp only [h]
theorem wp_ice {k : Nat} {ds : List D} {O : Sto} (h : O[k]? = some (.lst ds)) (Φ : W → Sto → Prop) : wp (ice (.own k)) O Φ = Φ (.d (.lst ds)) (O.set k .dead) := wp_eq (ice_at h)
@[simp] theorem wp_iceD (d : D) (O : Sto) (Φ : W → Sto → Prop) : wp (ice (.d d)) O Φ = Φ (.d d) O := rfl
/-! ### loops -/
theorem wk_ok {ws : List W} {O : Sto} : (⟨ws, none⟩ : Wk).ok O := trivial
theorem wp_loop {k : Wk} {p : Pt} {b : DS} {Φ : Fl × Gam → Sto → Prop} (I : List W → Gam → Sto → Prop) (hk : ∀ ws Γ O, I ws Γ O → k.ok O)
    (step : ∀ w ws Γ O, I (w :: ws) Γ O → ∃ Γ1, bindW p w Γ = some Γ1 ∧ wp (b Γ1) O fun r O' => match r.1 with
      | .nx => I ws r.2 O'
      | .ct => I ws r.2 O'
      | .bk => Φ (.nx, r.2) O'
      | .rt v => Φ (.rt v, r.2) O')
    (fin : ∀ Γ O, I [] Γ O → Φ (.nx, Γ) O) : ∀ (ws : List W) (Γ : Gam) (O : Sto), I ws Γ O → wp (loopW k p b ws Γ) O Φ
  | [], Γ, O, h => by
    have e : loopW k p b [] Γ O = .ok (.nx, Γ) O := by
      unfold loopW
      exact if_pos (hk _ _ _ h)
    rw [wp_eq e]; exact fin Γ O h
  | w :: ws, Γ, O, h => by
    obtain ⟨Γ1, e1, h1⟩ := step w ws Γ O h
    obtain ⟨r, O', e2, h2⟩ := wp_out h1
    have e : loopW k p b (w :: ws) Γ O = (match r.1 with
        | .nx => loopW k p b ws r.2
        | .ct => loopW k p b ws r.2
        | .bk => pure (.nx, r.2)
        | .rt v => pure (.rt v, r.2) : M (Fl × Gam)) O' := by
      conv => lhs; unfold loopW
      rw [if_pos (hk _ _ _ h), e1]
      show (b Γ1 O).bind _ = _
      rw [e2]; rfl
    unfold wp
    rw [e]
    obtain ⟨fl, Γ2⟩ := r
    cases fl with
    | nx => exact wp_loop I hk step fin ws Γ2 O' h2
    | ct => exact wp_loop I hk step fin ws Γ2 O' h2
    | bk => exact h2
    | rt v => exact h2
/-- a typed list walked: the invariant by what is done -/
theorem wp_loopX {k : Wk} {p : Pt} {b : DS} {Φ : Fl × Gam → Sto → Prop} {A : Type} (xs : List A) (g : A → W) (I : List A → Gam → Sto → Prop) {ws : List W} {Γ : Gam} {O : Sto} (hw : ws = xs.map g) (hk : ∀ zs Γ O, I zs Γ O → k.ok O) (h0 : I [] Γ O)
    (step : ∀ zs x ys Γ O, xs = zs ++ x :: ys → I zs Γ O → ∃ Γ1, bindW p (g x) Γ = some Γ1 ∧ wp (b Γ1) O fun r O' => match r.1 with
      | .nx => I (zs ++ [x]) r.2 O'
      | .ct => I (zs ++ [x]) r.2 O'
      | .bk => Φ (.nx, r.2) O'
      | .rt v => Φ (.rt v, r.2) O')
    (fin : ∀ Γ O, I xs Γ O → Φ (.nx, Γ) O) : wp (loopW k p b ws Γ) O Φ := by
  subst hw
  refine wp_loop (fun ws Γ O => ∃ zs ys, xs = zs ++ ys ∧ ws = ys.map g ∧ I zs Γ O) (fun _ _ _ ⟨zs, _, _, _, h⟩ => hk zs _ _ h) ?_ ?_ _ _ _ ⟨[], xs, rfl, rfl, h0⟩
  · rintro w ws Γ O ⟨zs, ys, e1, e2, h⟩
    cases ys with
    | nil => cases e2
    | cons x ys =>
      rw [List.map_cons] at e2
      cases e2
      obtain ⟨Γ1, e3, h3⟩ := step zs x ys Γ O e1 h
      refine ⟨Γ1, e3, wp_mono h3 fun r O' hr => ?_⟩
      obtain ⟨fl, Γ2⟩ := r
      cases fl with
      | nx => exact ⟨zs ++ [x], ys, by rw [e1]; simp, rfl, hr⟩
      | ct => exact ⟨zs ++ [x], ys, by rw [e1]; simp, rfl, hr⟩
      | bk => exact hr
      | rt v => exact hr
  · rintro Γ O ⟨zs, ys, e1, e2, h⟩
    cases ys with
    | cons x ys => cases e2
    | nil =>
      rw [List.append_nil] at e1
      subst e1
      exact fin Γ O h
theorem enum_g {A : Type} (xs : List A) (g : A → D) : (xs.map (W.d ∘ g)).mapIdx numW = xs.zipIdx.map fun p => W.d (.tup [.int (p.2 : Nat), g p.1]) := by
  rw [List.mapIdx_eq_zipIdx_map, List.zipIdx_map, List.map_map]
  exact List.map_congr_left fun p _ => rfl
theorem mem_of_split {A : Type} {xs zs ys : List A} {x : A} (e : xs = zs ++ x :: ys) : x ∈ xs := by rw [e]; simp
theorem zip_split {A : Type} {xs : List A} {zs ys : List (A × Nat)} {x : A × Nat} (e : xs.zipIdx = zs ++ x :: ys) : x.2 = zs.length ∧ xs[x.2]? = some x.1 := by
  have h1 : xs.zipIdx[zs.length]? = some x := by rw [e]; simp
  rw [List.getElem?_zipIdx] at h1
  obtain ⟨a, ha, h2⟩ := Option.map_eq_some_iff.mp h1
  rw [← h2]
  exact ⟨by simp, by simpa using ha⟩
theorem zip_mem {A : Type} {xs : List A} {x : A × Nat} (h : x ∈ xs.zipIdx) : x.1 ∈ xs := List.mem_of_getElem? (List.mem_zipIdx_iff_getElem?.mp h)
theorem at_end (O : Sto) (m : MO) : (O ++ [m])[O.length]? = some m := by simp
@[simp] theorem set_end (O : Sto) (m m' : MO) : (O ++ [m]).set O.length m' = O ++ [m'] := by simp
theorem wp_for {di : DI} {p : Pt} {b : DS} {Γ : Gam} {O : Sto} {Φ : Fl × Gam → Sto → Prop} : wp (dFor di p b Γ) O Φ = wp (di Γ) O fun k O' => wp (loopW k p b k.ws Γ) O' Φ := by
  unfold dFor
  rw [wp_bind]
theorem wp_while {t : DT} {b : DS} {Φ : Fl × Gam → Sto → Prop} (I : Nat → Gam → Sto → Prop)
    (step : ∀ n Γ O, I n Γ O → wp (t Γ) O fun k O1 => if k then ∃ m, n = m + 1 ∧ wp (b Γ) O1 fun r O' => (match r.1 with
      | .nx => I m r.2 O'
      | .ct => I m r.2 O'
      | .bk => Φ (.nx, r.2) O'
      | .rt v => Φ (.rt v, r.2) O') else Φ (.nx, Γ) O1) : ∀ (n m : Nat) (Γ : Gam) (O : Sto), I n Γ O → n < m → wp (whileN t b m Γ) O Φ
  | n, 0, _, _, _, h => absurd h (Nat.not_lt_zero _)
  | n, m + 1, Γ, O, h, hm => by
    unfold whileN
    rw [wp_bind]
    refine wp_mono (step n Γ O h) fun k O1 hk => ?_
    cases k with
    | false => exact hk
    | true =>
      obtain ⟨n', e, hk⟩ := hk
      show wp (b Γ >>= _) O1 Φ
      rw [wp_bind]
      refine wp_mono hk fun r O' hr => ?_
      obtain ⟨fl, Γ2⟩ := r
      cases fl with
      | nx => exact wp_while I step n' m Γ2 O' hr (by omega)
      | ct => exact wp_while I step n' m Γ2 O' hr (by omega)
      | bk => exact hr
      | rt v => exact hr
theorem lc_eq {k : Wk} {p : Pt} {t : DT} {e : DE} {Γ : Gam} {O : Sto} (hk : k.ok O) {A : Type} (g : A → W) (f : A → Option D) : ∀ (xs : List A) (acc : List D), acc.length + xs.length ≤ sizeLine →
    (∀ x ∈ xs, ∃ Γ1, bindW p (g x) Γ = some Γ1 ∧ wp (t Γ1) O fun b O' => O' = O ∧ (match f x with
      | some d => b = true ∧ wp (e Γ1) O fun y O'' => O'' = O ∧ y = .d d
      | none => b = false)) → lcW k p t e Γ (xs.map g) acc O = .ok (acc ++ xs.filterMap f) O
  | [], acc, _, _ => by
    unfold lcW
    simp [hk]
  | x :: xs, acc, hl, h => by
    obtain ⟨Γ1, e1, h1⟩ := h x List.mem_cons_self
    obtain ⟨b, O', e2, rfl, h2⟩ := wp_out h1
    have ih := fun acc' hl' => lc_eq hk g f xs acc' hl' fun y hy => h y (List.mem_cons_of_mem _ hy)
    rw [List.length_cons] at hl
    show lcW k p t e Γ (g x :: xs.map g) acc O' = _
    unfold lcW
    rw [if_pos hk, e1]
    show ((calm (t Γ1) O').bind _) = _
    have e3 : calm (t Γ1) O' = .ok b O' := by unfold calm; rw [e2]
    rw [e3]
    cases hf : f x with
    | none =>
      rw [hf] at h2
      have h2 : b = false := h2
      subst h2
      show lcW k p t e Γ (xs.map g) acc O' = _
      rw [ih acc (by omega), List.filterMap_cons_none hf]
    | some d =>
      rw [hf] at h2
      obtain ⟨rfl, h3⟩ := h2
      obtain ⟨y, O'', e4, rfl, rfl⟩ := wp_out h3
      show ((calm (e Γ1) O'').bind _) = _
      have e5 : calm (e Γ1) O'' = .ok (.d d) O'' := by unfold calm; rw [e4]
      rw [e5]
      show (if acc.length < sizeLine then lcW k p t e Γ (xs.map g) (acc ++ [d]) else M.no : M (List D)) O'' = _
      rw [if_pos (by omega), ih _ (by rw [List.length_append]; simp; omega), List.filterMap_cons_some hf]
      simp
theorem wp_lc {k : Wk} {p : Pt} {t : DT} {e : DE} {Γ : Gam} {O : Sto} {A : Type} (g : A → W) (f : A → Option D) (xs : List A) {ws : List W} {Φ : List D → Sto → Prop} (hw : ws = xs.map g) (hk : k.ok O) (hl : xs.length ≤ sizeLine)
    (h : ∀ x ∈ xs, ∃ Γ1, bindW p (g x) Γ = some Γ1 ∧ wp (t Γ1) O fun b O' => O' = O ∧ (match f x with
      | some d => b = true ∧ wp (e Γ1) O fun y O'' => O'' = O ∧ y = .d d
      | none => b = false)) (q : Φ (xs.filterMap f) O) : wp (lcW k p t e Γ ws []) O Φ := by
  subst hw
  have e := lc_eq hk g f xs [] (by simpa using hl) h
  rw [wp_eq e]
  simpa using q
theorem wp_lcD {di : DI} {p : Pt} {t : DT} {e : DE} {vs : List Nat} {Γ : Gam} {O : Sto} {Φ : W → Sto → Prop} : wp (dLcD di p t e vs Γ) O Φ = wp (di Γ) O fun k O' => wp (lcW k p t e (wipeG Γ vs) k.ws []) O' fun ds O'' => Φ (.d (.lst ds)) O'' := by
  unfold dLcD dLc
  simp only [wp_bind, wp_pure]
theorem wp_lcO {di : DI} {p : Pt} {t : DT} {e : DE} {vs : List Nat} {Γ : Gam} {O : Sto} {Φ : W → Sto → Prop} : wp (dLcO di p t e vs Γ) O Φ = wp (di Γ) O fun k O' => wp (lcW k p t e (wipeG Γ vs) k.ws []) O' fun ds O'' => Φ (.own O''.length) (O'' ++ [.lst ds]) := by
  unfold dLcO dLc
  simp only [wp_bind, wp_push]
/-! ### what is walked -/
theorem wp_it {d : DE} {Γ : Gam} {O : Sto} {Φ : Wk → Sto → Prop} : wp (dIt d Γ) O Φ = wp (d Γ) O fun x O' => wp (wWk x) O' Φ := by
  unfold dIt; rw [wp_bind]
@[simp] theorem wp_wkT (ds : List D) (O : Sto) (Φ : Wk → Sto → Prop) : wp (wWk (.d (.tup ds))) O Φ = Φ ⟨ds.map W.d, none⟩ O := rfl
@[simp] theorem wp_wkL (ds : List D) (O : Sto) (Φ : Wk → Sto → Prop) : wp (wWk (.d (.lst ds))) O Φ = Φ ⟨ds.map W.d, none⟩ O := rfl
@[simp] theorem wp_wkS (ns : List Int) (O : Sto) (Φ : Wk → Sto → Prop) : wp (wWk (.d (.scr ns))) O Φ = Φ ⟨ns.map fun n => .d (.int n), none⟩ O := rfl
theorem wp_wkO {k : Nat} {ds : List D} {O : Sto} (h : O[k]? = some (.lst ds)) (Φ : Wk → Sto → Prop) : wp (wWk (.own k)) O Φ = Φ ⟨ds.map W.d, some (k, ds)⟩ O := by
  unfold wp wWk
  simp only [h]
theorem wp_enum {d : DE} {Γ : Gam} {O : Sto} {Φ : Wk → Sto → Prop} : wp (dEnum d Γ) O Φ = wp (d Γ) O fun x O' => wp (wWk x) O' fun k O'' => match k.own with
    | none => Φ ⟨k.ws.mapIdx numW, none⟩ O''
    | some _ => False := by
  unfold dEnum
  rw [wp_bind]
  congr 1
  funext x O'
  rw [wp_bind]
  congr 1
  funext k O''
  cases k.own <;> rfl
theorem wp_rng1 {a : DA} {Γ : Gam} {O : Sto} {Φ : Wk → Sto → Prop} {j : Int} (h : wp (a Γ) O fun ws O' => ws = [.d (.int j)] ∧ small62 j ∧ Φ (rng 0 1 j.toNat) O') : wp (dRange1 a Γ) O Φ := by
  unfold dRange1
  rw [wp_bind]
  refine wp_mono h fun ws O' hw => ?_
  obtain ⟨rfl, h1, h2⟩ := hw
  show wp (if _ then _ else _) O' Φ
  rw [wp_if h1]; exact h2
theorem rng01 (n : Nat) : (rng 0 1 n).ws = (List.range n).map fun i => W.d (.int (i : Nat)) := by
  unfold rng
  simp
theorem enum_map (ds : List D) : (ds.map W.d).mapIdx numW = ds.zipIdx.map fun p => W.d (.tup [.int (p.2 : Nat), p.1]) := by
  rw [List.mapIdx_eq_zipIdx_map, List.zipIdx_map, List.map_map]
  exact List.map_congr_left fun p _ => rfl
@[simp] theorem bind_nm (i : Nat) (w : W) (Γ : Gam) : bindW (.nm i) w Γ = some (Γ.set i (some w)) := rfl
@[simp] theorem bind_tp (ps : List Pt) (ds : List D) (Γ : Gam) : bindW (.tp ps) (.d (.tup ds)) Γ = bindPs ps ds Γ := by
  unfold bindW
  show bindP (.tp ps) (.tup ds) Γ = _
  unfold bindP; rfl
@[simp] theorem bindPs_nil (Γ : Gam) : bindPs [] [] Γ = some Γ := by unfold bindPs; rfl
@[simp] theorem bindPs_cons (p : Pt) (r : List Pt) (d : D) (ds : List D) (Γ : Gam) : bindPs (p :: r) (d :: ds) Γ = (bindP p d Γ).bind fun Γ' => bindPs r ds Γ' := by
  conv => lhs; unfold bindPs
@[simp] theorem bindP_nm (i : Nat) (d : D) (Γ : Gam) : bindP (.nm i) d Γ = some (Γ.set i (some (.d d))) := by unfold bindP; rfl
@[simp] theorem bindP_tp (ps : List Pt) (ds : List D) (Γ : Gam) : bindP (.tp ps) (.tup ds) Γ = bindPs ps ds Γ := by
  conv => lhs; unfold bindP
def wStar (x : W) : M (List W) := fun O => match wS x O with
  | some ds => .ok (ds.map W.d) O
  | none => .no
theorem wp_star {d : DE} {r : DA} {Γ : Gam} {O : Sto} {Φ : List W → Sto → Prop} : wp (dStar d r Γ) O Φ = wp (d Γ) O fun x O' => wp (wStar x) O' fun ys O'' => wp (r Γ) O'' fun zs O3 => Φ (ys ++ zs) O3 := by
  have e : dStar d r Γ = (d Γ >>= fun x => wStar x >>= fun ys => r Γ >>= fun zs => pure (ys ++ zs)) := rfl
  rw [e]
  simp only [wp_bind, wp_pure]
@[simp] theorem wp_wStar (ds : List D) (O : Sto) (Φ : List W → Sto → Prop) : wp (wStar (.d (.tup ds))) O Φ = Φ (ds.map W.d) O := rfl
theorem ix_var {i j : Nat} {Γ : Gam} {O : Sto} {ds : List D} {n : Nat} {e : List D} (h1 : Γ[i]? = some (some (.d (.lst ds)))) (h2 : Γ[j]? = some (some (.d (.int (n : Nat))))) (h3 : ds[n]? = some (.tup e)) : dBin wIx (dVar i) (dVar j) Γ O = .ok (.d (.tup e)) O := by
  refine eq_of_wp ?_
  unfold dBin
  simp only [wp_bind, wp_var, h1, h2]
  rw [wp_ix rfl (atI_nat h3)]
  exact ⟨rfl, rfl⟩
theorem wp_ixT {ds : List D} {d : D} {i : Nat} {O : Sto} (hi : ds[i]? = some d) (Φ : W → Sto → Prop) : wp (wIx (.d (.tup ds)) (.d (.int (i : Nat)))) O Φ = Φ (.d d) O := wp_ix rfl (atI_nat hi) Φ
theorem wp_ixL {ds : List D} {d : D} {i : Nat} {O : Sto} (hi : ds[i]? = some d) (Φ : W → Sto → Prop) : wp (wIx (.d (.lst ds)) (.d (.int (i : Nat)))) O Φ = Φ (.d d) O := wp_ix rfl (atI_nat hi) Φ
theorem wp_ixE {ds : List D} {d : D} {O : Sto} (Φ : W → Sto → Prop) : wp (wIx (.d (.lst (ds ++ [d]))) (.d (.int (-1)))) O Φ = Φ (.d d) O := wp_ix rfl (atI_last _ _) Φ
/-- the store has grown at its end -/
def Kp (O O' : Sto) : Prop := ∃ J, O' = O ++ J
theorem Kp.rfl {O : Sto} : Kp O O := ⟨[], by simp⟩
theorem Kp.add {O P : Sto} (h : Kp O P) (l : Sto) : Kp O (P ++ l) := by
  obtain ⟨J, rfl⟩ := h
  exact ⟨J ++ l, by simp⟩
theorem Kp.take {O P : Sto} (h : Kp O P) : P.take O.length = O := by
  obtain ⟨J, rfl⟩ := h
  simp
theorem Kp.len {O P : Sto} (h : Kp O P) : O.length ≤ P.length := by
  obtain ⟨J, rfl⟩ := h
  simp
theorem Kp.set {O P : Sto} (h : Kp O P) {k : Nat} (hk : O.length ≤ k) (m : MO) : Kp O (P.set k m) := by
  obtain ⟨J, rfl⟩ := h
  exact ⟨J.set (k - O.length) m, by rw [List.set_append_right _ _ hk]⟩
theorem Kp.get {O P : Sto} (h : Kp O P) {k : Nat} {m : MO} (hk : O[k]? = some m) : P[k]? = some m := by
  obtain ⟨J, rfl⟩ := h
  rw [List.getElem?_append_left (List.getElem?_eq_some_iff.mp hk).1]; exact hk
theorem Kp.tr {O P R : Sto} (h : Kp O P) (h2 : Kp P R) : Kp O R := by
  obtain ⟨J, rfl⟩ := h
  obtain ⟨L, rfl⟩ := h2
  exact ⟨J ++ L, by simp⟩
end VL


set_option maxRecDepth 100000
set_option maxHeartbeats 2000000
/-! The value layer: dens stepped at their head alone (for long bodies: simp goes under the binders and takes time by powers of two). -/
namespace VL
open PySem L2
section
variable {Γ : Gam} {O : Sto}
theorem h_seq {a b : DS} {Φ : Fl × Gam → Sto → Prop} (h : wp (a Γ) O fun r O' => match r.1 with
    | .nx => wp (b r.2) O' Φ
    | _ => Φ r O') : wp (dSeq a b Γ) O Φ := by
  unfold dSeq
  rw [wp_bind]
  refine wp_mono h fun r O' hr => ?_
  obtain ⟨fl, Γ'⟩ := r
  cases fl <;> exact hr
theorem h_set {i : Nat} {d : DE} {Φ : Fl × Gam → Sto → Prop} (h : wp (d Γ) O fun w O' => Φ (.nx, Γ.set i (some w)) O') : wp (dSet i d Γ) O Φ := by
  unfold dSet
  rw [wp_bind]; exact h
theorem h_drop {d : DE} {Φ : Fl × Gam → Sto → Prop} (h : wp (d Γ) O fun w O' => Φ (.nx, Γ) O') : wp (dDrop d Γ) O Φ := by
  unfold dDrop
  rw [wp_bind]; exact h
theorem h_ret {d : DE} {Φ : Fl × Gam → Sto → Prop} (h : wp (d Γ) O fun w O' => Φ (.rt w, Γ) O') : wp (dRet d Γ) O Φ := by
  unfold dRet
  rw [wp_bind]; exact h
theorem h_next {Φ : Fl × Gam → Sto → Prop} (h : Φ (.nx, Γ) O) : wp (dNext Γ) O Φ := h
theorem h_ifS {t : DT} {a b : DS} {Φ : Fl × Gam → Sto → Prop} (h : wp (t Γ) O fun k O' => if k = true then wp (a Γ) O' Φ else wp (b Γ) O' Φ) : wp (dIfS t a b Γ) O Φ := by
  unfold dIfS
  rw [wp_bind]
  refine wp_mono h fun k O' hk => ?_
  cases k <;> exact hk
theorem h_if {t : DT} {a b : DE} {Φ : W → Sto → Prop} (h : wp (t Γ) O fun k O' => if k = true then wp (a Γ) O' Φ else wp (b Γ) O' Φ) : wp (dIf t a b Γ) O Φ := by
  unfold dIf
  rw [wp_bind]
  refine wp_mono h fun k O' hk => ?_
  cases k <;> exact hk
theorem h_bin {f : W → W → M W} {a b : DE} {Φ : W → Sto → Prop} (h : wp (a Γ) O fun x O1 => wp (b Γ) O1 fun y O2 => wp (f x y) O2 Φ) : wp (dBin f a b Γ) O Φ := by
  unfold dBin
  simp only [wp_bind]; exact h
theorem h_test {d : DE} {Φ : Bool → Sto → Prop} (h : wp (d Γ) O fun w O' => wp (wB w) O' Φ) : wp (dTest d Γ) O Φ := by
  unfold dTest
  rw [wp_bind]; exact h
theorem h_and {a b : DT} {Φ : Bool → Sto → Prop} (h : wp (a Γ) O fun k O' => if k = true then wp (b Γ) O' Φ else Φ false O') : wp (dAnd a b Γ) O Φ := by
  unfold dAnd
  rw [wp_bind]
  refine wp_mono h fun k O' hk => ?_
  cases k <;> exact hk
theorem h_or {a b : DT} {Φ : Bool → Sto → Prop} (h : wp (a Γ) O fun k O' => if k = true then Φ true O' else wp (b Γ) O' Φ) : wp (dOr a b Γ) O Φ := by
  unfold dOr
  rw [wp_bind]
  refine wp_mono h fun k O' hk => ?_
  cases k <;> exact hk
theorem h_not {a : DT} {Φ : Bool → Sto → Prop} (h : wp (a Γ) O fun k O' => Φ (!k) O') : wp (dNot a Γ) O Φ := by
  unfold dNot
  rw [wp_bind]; exact h
theorem h_call {f : List W → M W} {a : DA} {Φ : W → Sto → Prop} (h : wp (a Γ) O fun ws O' => wp (f ws) O' Φ) : wp (dCall f a Γ) O Φ := by
  unfold dCall
  rw [wp_bind]; exact h
theorem h_nil {Φ : List W → Sto → Prop} (h : Φ [] O) : wp (dNil Γ) O Φ := h
theorem h_cons {a : DE} {r : DA} {Φ : List W → Sto → Prop} (h : wp (a Γ) O fun x O1 => wp (r Γ) O1 fun xs O2 => Φ (x :: xs) O2) : wp (dCons a r Γ) O Φ := by
  unfold dCons
  simp only [wp_bind, wp_pure]; exact h
theorem h_tup {a : DA} {Φ : W → Sto → Prop} (h : wp (a Γ) O fun ws O' => wp (mkTup ws) O' Φ) : wp (dTup a Γ) O Φ := by
  unfold dTup
  rw [wp_bind]; exact h
theorem h_lst {a : DA} {Φ : W → Sto → Prop} (h : wp (a Γ) O fun ws O' => wp (mkLst ws) O' Φ) : wp (dLst a Γ) O Φ := by
  unfold dLst
  rw [wp_bind]; exact h
theorem h_own {a : DA} {Φ : W → Sto → Prop} (h : wp (a Γ) O fun ws O' => wp (mkOwn ws) O' Φ) : wp (dOwn a Γ) O Φ := by
  unfold dOwn
  rw [wp_bind]; exact h
theorem h_un {f : W → M W} {a : DE} {Φ : W → Sto → Prop} (h : wp (a Γ) O fun x O' => wp (f x) O' Φ) : wp (dUn f a Γ) O Φ := by
  unfold dUn
  rw [wp_bind]; exact h
theorem h_meth {f : W → List W → M W} {a : DE} {r : DA} {Φ : W → Sto → Prop} (h : wp (a Γ) O fun x O1 => wp (isL x) O1 fun _ O2 => wp (r Γ) O2 fun ws O3 => wp (f x ws) O3 Φ) : wp (dMeth f a r Γ) O Φ := by
  unfold dMeth
  simp only [wp_bind]; exact h
theorem h_meth0 {f : W → List W → M W} {a : DE} {Φ : W → Sto → Prop} (h : wp (a Γ) O fun x O1 => wp (isL x) O1 fun _ O2 => wp (f x []) O2 Φ) : wp (dMeth0 f a Γ) O Φ := by
  unfold dMeth0
  simp only [wp_bind]; exact h
theorem h_ice {a : DE} {Φ : W → Sto → Prop} (h : wp (a Γ) O fun x O1 => wp (ice x) O1 Φ) : wp (dIce a Γ) O Φ := by
  unfold dIce
  rw [wp_bind]; exact h
theorem h_sl {f : W → Option Int → Option Int → M W} {d : DE} {l r : DO} {Φ : W → Sto → Prop} (h : wp (d Γ) O fun x O1 => wp (l Γ) O1 fun a O2 => wp (r Γ) O2 fun b O3 => wp (f x a b) O3 Φ) : wp (dSl f d l r Γ) O Φ := by
  unfold dSl
  simp only [wp_bind]; exact h
theorem h_no {Φ : Option Int → Sto → Prop} (h : Φ none O) : wp (dNo Γ) O Φ := h
theorem h_part {d : DE} {n : Int} {O' : Sto} {Φ : Option Int → Sto → Prop} (e : d Γ O = .ok (.d (.int n)) O') (h : Φ (some n) O') : wp (dPart d Γ) O Φ := by
  unfold dPart
  rw [wp_bind, wp_eq e]; exact h
theorem h_par {i j : Nat} {a : DA} {Φ : Fl × Gam → Sto → Prop} (h : wp (a Γ) O fun ws O' => ∃ w u, ws = [w, u] ∧ Φ (.nx, (Γ.set i (some w)).set j (some u)) O') : wp (dPar i j a Γ) O Φ := by
  unfold dPar
  rw [wp_bind]
  refine wp_mono h fun ws O' hw => ?_
  obtain ⟨w, u, rfl, hw⟩ := hw
  exact hw
theorem h_for {di : DI} {p : Pt} {b : DS} {Φ : Fl × Gam → Sto → Prop} (h : wp (di Γ) O fun k O' => wp (loopW k p b k.ws Γ) O' Φ) : wp (dFor di p b Γ) O Φ := by rw [wp_for]; exact h
theorem h_it {d : DE} {Φ : Wk → Sto → Prop} (h : wp (d Γ) O fun x O' => wp (wWk x) O' Φ) : wp (dIt d Γ) O Φ := by rw [wp_it]; exact h
theorem h_var {i : Nat} {w : W} {Φ : W → Sto → Prop} (e : Γ[i]? = some (some w)) (h : Φ w O) : wp (dVar i Γ) O Φ := by
  rw [wp_var, e]; exact h
theorem h_c {d : D} {Φ : W → Sto → Prop} (h : Φ (.d d) O) : wp (dC d Γ) O Φ := h
theorem h_eq {α : Type} {m : M α} {Φ : α → Sto → Prop} {Q : Prop} (e : wp m O Φ = Q) (h : Q) : wp m O Φ := by rw [e]; exact h
theorem h_at {α : Type} {m : M α} {a : α} {O' : Sto} {Φ : α → Sto → Prop} (e : m O = .ok a O') (h : Φ a O') : wp m O Φ := by rw [wp_eq e]; exact h
theorem h_fn {n : Nat} {dws : List D} {f : List W → M W} {ws : List W} {a : W} {O' : Sto} {Φ : W → Sto → Prop} (hl : (ws ++ dws.map W.d).length = n) (e : f (ws ++ dws.map W.d) O = .ok a O') (h : Φ a O') : wp (dFn n dws f ws) O Φ := by
  rw [wp_dFn hl, wp_eq e]; exact h
theorem h_fn2 {n : Nat} {dws : List D} {f : List W → M W} {ws : List W} {Φ : W → Sto → Prop} (hl : (ws ++ dws.map W.d).length = n) (h : wp (f (ws ++ dws.map W.d)) O Φ) : wp (dFn n dws f ws) O Φ := by
  rw [wp_dFn hl]; exact h
theorem h_add {i j : Int} {Φ : W → Sto → Prop} (h : Φ (.d (.int (i + j))) O) : wp (wAdd (.d (.int i)) (.d (.int j))) O Φ := h
theorem h_sub {i j : Int} {Φ : W → Sto → Prop} (h : Φ (.d (.int (i - j))) O) : wp (wSub (.d (.int i)) (.d (.int j))) O Φ := h
theorem h_negI {i : Int} {Φ : W → Sto → Prop} (h : Φ (.d (.int (-i))) O) : wp (wNeg (.d (.int i))) O Φ := h
theorem h_wB {b : Bool} {Φ : Bool → Sto → Prop} (h : Φ b O) : wp (wB (.d (.bl b))) O Φ := h
theorem h_w1 {f : W → M W} {x : W} {Φ : W → Sto → Prop} (h : wp (f x) O Φ) : wp (w1 f [x]) O Φ := h
theorem h_w2 {f : W → W → M W} {x y : W} {Φ : W → Sto → Prop} (h : wp (f x y) O Φ) : wp (w2 f [x, y]) O Φ := h
theorem h_mkL {ws : List W} {ds : List D} {Φ : W → Sto → Prop} (e : wDs ws = some ds) (hl : ds.length ≤ 1000) (h : Φ (.d (.lst ds)) O) : wp (mkLst ws) O Φ := by
  rw [wp_mkLst e (by rw [sizeLine_eq]; omega)]; exact h
theorem h_mkT {ws : List W} {ds : List D} {Φ : W → Sto → Prop} (e : wDs ws = some ds) (hl : ds.length ≤ 1000) (h : Φ (.d (.tup ds)) O) : wp (mkTup ws) O Φ := by
  rw [wp_mkTup e (by rw [sizeLine_eq]; omega)]; exact h
theorem h_mkO {ws : List W} {ds : List D} {Φ : W → Sto → Prop} (e : wDs ws = some ds) (hl : ds.length ≤ 1000) (h : Φ (.own O.length) (O ++ [.lst ds])) : wp (mkOwn ws) O Φ := by
  rw [wp_mkOwn e (by rw [sizeLine_eq]; omega)]; exact h
theorem h_mulL {i j : Int} {Φ : W → Sto → Prop} (hj : (-(2 ^ 64) < i ∧ i < 2 ^ 64) ∨ (-(2 ^ 64) < j ∧ j < 2 ^ 64)) (h : Φ (.d (.int (i * j))) O) : wp (wMul (.d (.int i)) (.d (.int j))) O Φ := by
  rw [wp_mul (hj.elim .inl fun z => .inr (.inl z))]; exact h
theorem h_div {i j : Int} {Φ : W → Sto → Prop} (hj : DivC i j) (h : Φ (.d (.int (i / j))) O) : wp (wDiv (.d (.int i)) (.d (.int j))) O Φ := by rw [wp_div hj]; exact h
theorem h_pow {i j : Int} {Φ : W → Sto → Prop} (hj : PowC i j) (h : Φ (.d (.int (i ^ j.toNat))) O) : wp (wPow (.d (.int i)) (.d (.int j))) O Φ := by rw [wp_pow hj]; exact h
theorem h_run {m : Nat} {b : DS} {ws : List W} {Φ : W → Sto → Prop} (h : wp (b (ws.map some ++ List.replicate m none)) O fun r O' => match r.1 with
    | .nx => Φ (.d .non) (O'.take O.length)
    | .rt (.d d) => Φ (.d d) (O'.take O.length)
    | .rt (.own k) => k < O.length ∧ Φ (.own k) (O'.take O.length)
    | _ => False) : wp (fnC m b ws) O Φ := by rw [wp_fn]; exact h
end
end VL


set_option maxRecDepth 100000
set_option maxHeartbeats 2000000
/-! k74: what the small defs come to. -/
namespace L74
open PySem L2 VL
variable {A : Str → Addr} {O : Sto} {Φ : W → Sto → Prop}
theorem f_is_number (i : Int) : wp (F_is_number A [.d (.int i)]) O Φ = Φ (.d (.bl true)) O := by
  unfold F_is_number d_is_number
  simp [wp_fn, dSeq, dRet, dRetN, dSet, dPar, dAsg, dIfS, dIf, dBin, dTest, dChain, dAnd, dOr, dNot, dAndV, dOrV, dNotV, dNext, dStop, dDrop, dNil, dCons, dTup, dLst, dOwn, dCall, dUn, dPart, dNo, dSl, dMeth, dMeth0, dAug, dIce, dYes, wp_star, wp_dFn, w1, w2, wp_bind, wp_pure, wp_no, wp_var, wp_dC]
theorem f_is_between (i j k : Int) : wp (F_is_between A [.d (.int i), .d (.int j), .d (.int k)]) O Φ = Φ (.d (.bl (decide (j ≤ i) && decide (i ≤ k)))) O := by
  unfold F_is_between d_is_between
  simp [wp_fn, dSeq, dRet, dRetN, dSet, dPar, dAsg, dIfS, dIf, dBin, dTest, dChain, dAnd, dOr, dNot, dAndV, dOrV, dNotV, dNext, dStop, dDrop, dNil, dCons, dTup, dLst, dOwn, dCall, dUn, dPart, dNo, dSl, dMeth, dMeth0, dAug, dIce, dYes, wp_star, wp_dFn, w1, w2, wp_bind, wp_pure, wp_no, wp_var, wp_dC, f_is_number]
  by_cases h : j ≤ i <;> simp [h]
theorem f_is_list (ds : List D) : wp (F_is_list A [.d (.lst ds)]) O Φ = Φ (.d (.bl true)) O := by
  unfold F_is_list d_is_list
  simp only [wp_fn, dSeq, dRet, dRetN, dSet, dPar, dAsg, dIfS, dIf, dBin, dTest, dChain, dAnd, dOr, dNot, dAndV, dOrV, dNotV, dNext, dStop, dDrop, dNil, dCons, dTup, dLst, dOwn, dCall, dUn, dPart, dNo, dSl, dMeth, dMeth0, dAug, dIce, dYes, wp_star, wp_dFn, w1, w2, wp_bind, wp_pure, wp_no, wp_var, wp_dC]
  rw [wp_isi2 (ds := ds) (by rfl)]
  simp
theorem f_gcd_go : ∀ (n : Nat) (a b : Int) (O : Sto) (Ψ : Fl × Gam → Sto → Prop) (m : Nat), 0 ≤ a → 0 ≤ b → b.toNat = n → n < m → Ψ (.nx, [some (.d (.int (Int.gcd a b : Nat))), some (.d (.int 0))]) O →
    wp (whileN (T1_divisor_of A) (B0_divisor_of A) m [some (.d (.int a)), some (.d (.int b))]) O Ψ := by
  intro n
  induction n using Nat.strongRecOn with
  | ind n ih =>
    intro a b O Ψ m ha hb hn hm q
    obtain ⟨m', rfl⟩ : ∃ m', m = m' + 1 := ⟨m - 1, by omega⟩
    unfold whileN
    simp only [wp_bind]
    unfold T1_divisor_of
    simp [wp_fn, dSeq, dRet, dRetN, dSet, dPar, dAsg, dIfS, dIf, dBin, dTest, dChain, dAnd, dOr, dNot, dAndV, dOrV, dNotV, dNext, dStop, dDrop, dNil, dCons, dTup, dLst, dOwn, dCall, dUn, dPart, dNo, dSl, dMeth, dMeth0, dAug, dIce, dYes, wp_star, wp_dFn, w1, w2, wp_bind, wp_pure, wp_no, wp_var, wp_dC]
    by_cases h0 : b = 0
    · subst h0
      simp
      simpa [Int.gcd, Int.natAbs_of_nonneg ha] using q
    · simp [h0]
      unfold B0_divisor_of
      simp only [wp_fn, dSeq, dRet, dRetN, dSet, dPar, dAsg, dIfS, dIf, dBin, dTest, dChain, dAnd, dOr, dNot, dAndV, dOrV, dNotV, dNext, dStop, dDrop, dNil, dCons, dTup, dLst, dOwn, dCall, dUn, dPart, dNo, dSl, dMeth, dMeth0, dAug, dIce, dYes, wp_star, wp_dFn, w1, w2, wp_bind, wp_pure, wp_no, wp_var, wp_dC]
      show wp (wMod (.d (.int a)) (.d (.int b))) O _
      rw [wp_mod (by omega)]
      simp
      have hmod : a % b < b := Int.emod_lt_of_pos a (by omega)
      have hmod0 : 0 ≤ a % b := Int.emod_nonneg a h0
      refine ih (a % b).toNat (by omega) b (a % b) O Ψ m' hb hmod0 rfl (by omega) ?_
      have e : Int.gcd b (a % b) = Int.gcd a b := by
        obtain ⟨x, rfl⟩ := Int.eq_ofNat_of_zero_le ha
        obtain ⟨y, rfl⟩ := Int.eq_ofNat_of_zero_le hb
        show Nat.gcd (y : Int).natAbs (((x : Int) % (y : Int)).natAbs) = Nat.gcd (x : Int).natAbs (y : Int).natAbs
        rw [← Int.natCast_emod, Int.natAbs_natCast, Int.natAbs_natCast, Int.natAbs_natCast, Nat.gcd_comm y, ← Nat.gcd_rec y x, Nat.gcd_comm]
      rw [e]
      exact q
theorem f_gcd {a b : Int} (ha : 0 ≤ a) (hb : 0 ≤ b) : wp (F_divisor_of A [.d (.int a), .d (.int b)]) O Φ = Φ (.d (.int (Int.gcd a b : Nat))) O := by
  have h : F_divisor_of A [.d (.int a), .d (.int b)] O = .ok (.d (.int (Int.gcd a b : Nat))) O := by
    refine eq_of_wp ?_
    unfold F_divisor_of d_divisor_of
    simp only [wp_fn, dSeq, dRet, dRetN, dSet, dPar, dAsg, dIfS, dIf, dBin, dTest, dChain, dAnd, dOr, dNot, dAndV, dOrV, dNotV, dNext, dStop, dDrop, dNil, dCons, dTup, dLst, dOwn, dCall, dUn, dPart, dNo, dSl, dMeth, dMeth0, dAug, dIce, dYes, wp_star, wp_dFn, w1, w2, wp_bind, wp_pure, wp_no, wp_var, wp_dC]
    unfold dWhile
    refine f_gcd_go b.toNat a b O _ _ ha hb rfl ?_ ?_
    · simp [mInt]
      omega
    · simp
  rw [wp_eq h]
theorem f_gcd2_go : ∀ (n : Nat) (a b : Int) (O : Sto) (Ψ : Fl × Gam → Sto → Prop) (m : Nat), 0 ≤ a → 0 ≤ b → b.toNat = n → n < m → Ψ (.nx, [some (.d (.int (Int.gcd a b : Nat))), some (.d (.int 0))]) O →
    wp (whileN (T1_z_common A) (B0_z_common A) m [some (.d (.int a)), some (.d (.int b))]) O Ψ := by
  intro n a b O Ψ m
  exact f_gcd_go (A := A) n a b O Ψ m
theorem f_gcd2 {a b : Int} (ha : 0 ≤ a) (hb : 0 ≤ b) : wp (F_z_common A [.d (.int a), .d (.int b)]) O Φ = Φ (.d (.int (Int.gcd a b : Nat))) O := by
  have h : F_z_common A [.d (.int a), .d (.int b)] O = .ok (.d (.int (Int.gcd a b : Nat))) O := by
    refine eq_of_wp ?_
    unfold F_z_common d_z_common
    have ea : (if a < 0 then -a else a) = a := by omega
    have eb : (if b < 0 then -b else b) = b := by omega
    simp [wp_fn, dSeq, dRet, dRetN, dSet, dPar, dAsg, dIfS, dIf, dBin, dTest, dChain, dAnd, dOr, dNot, dAndV, dOrV, dNotV, dNext, dStop, dDrop, dNil, dCons, dTup, dLst, dOwn, dCall, dUn, dPart, dNo, dSl, dMeth, dMeth0, dAug, dIce, dYes, wp_star, wp_dFn, w1, w2, wp_bind, wp_pure, wp_no, wp_var, wp_dC, ea, eb]
    unfold dWhile
    refine f_gcd2_go b.toNat a b O _ _ ha hb rfl ?_ ?_
    · simp [mInt]
      omega
    · simp
  rw [wp_eq h]
abbrev G (a b : Int) : Int := (Int.gcd a b : Nat)
theorem g_pos {a b : Int} (h : 0 < b) : 0 < G a b := by
  unfold G
  have := Int.gcd_pos_of_ne_zero_right a (show b ≠ 0 by omega)
  omega
theorem g_le {a b : Int} (h : 0 < b) : G a b ≤ b := by
  have := Nat.gcd_le_right a.natAbs (n := b.natAbs) (by omega)
  show ((Nat.gcd a.natAbs b.natAbs : Nat) : Int) ≤ b
  omega
theorem lt_far {j : Int} (h : j ≤ 10 ^ 1000) : j < far := by
  unfold far
  have : (10 : Int) ^ 1000 < 2 ^ 4000 := by decide +kernel
  omega
abbrev Lc (a b : Int) : Int := a / G a b * b
theorem f_multiple {a b : Int} (ha : 0 ≤ a) (hb : 0 < b) (hb2 : b < 2 ^ 64) : wp (F_multiple_of A [.d (.int a), .d (.int b)]) O Φ = Φ (.d (.int (Lc a b))) O := by
  unfold F_multiple_of d_multiple_of
  have hg := g_pos (a := a) hb
  have hl := g_le (a := a) hb
  simp [wp_fn, dSeq, dRet, dRetN, dSet, dPar, dAsg, dIfS, dIf, dBin, dTest, dChain, dAnd, dOr, dNot, dAndV, dOrV, dNotV, dNext, dStop, dDrop, dNil, dCons, dTup, dLst, dOwn, dCall, dUn, dPart, dNo, dSl, dMeth, dMeth0, dAug, dIce, dYes, wp_star, wp_dFn, w1, w2, wp_bind, wp_pure, wp_no, wp_var, wp_dC, f_gcd ha (Int.le_of_lt hb)]
  rw [wp_div ⟨hg, lt_far (by have : (2 : Int) ^ 64 ≤ 10 ^ 1000 := by decide +kernel
                             omega)⟩]
  rw [wp_mul (.inr (.inl ⟨by omega, hb2⟩))]
  simp
theorem f_multiple2 {a b : Int} (ha : 0 ≤ a) (hb : 0 < b) (hb2 : b < 2 ^ 64) : wp (F_z_multiple A [.d (.int a), .d (.int b)]) O Φ = Φ (.d (.int (Lc a b))) O := by
  unfold F_z_multiple d_z_multiple
  have hg := g_pos (a := a) hb
  have hl := g_le (a := a) hb
  simp [wp_fn, dSeq, dRet, dRetN, dSet, dPar, dAsg, dIfS, dIf, dBin, dTest, dChain, dAnd, dOr, dNot, dAndV, dOrV, dNotV, dNext, dStop, dDrop, dNil, dCons, dTup, dLst, dOwn, dCall, dUn, dPart, dNo, dSl, dMeth, dMeth0, dAug, dIce, dYes, wp_star, wp_dFn, w1, w2, wp_bind, wp_pure, wp_no, wp_var, wp_dC, f_gcd2 ha (Int.le_of_lt hb)]
  rw [wp_div ⟨hg, lt_far (by have : (2 : Int) ^ 64 ≤ 10 ^ 1000 := by decide +kernel
                             omega)⟩]
  rw [wp_mul (.inr (.inl ⟨by omega, hb2⟩))]
  simp
abbrev Big : Int := 1000000000000000000000000000000000000000000000000000000000000000000000000000000000000000000000000000000000000000000000000000000000000000000000000000000000000000000000000000000000000000000000000000000000000000000000000000000000000000000000000000000000000000000000000000000000000000000000000000000000000
theorem f_moment_right (i : Int) : wp (F_moment_right A [.d (.int i)]) O Φ = Φ (.d (.bl (decide (-Big ≤ i) && decide (i ≤ Big)))) O := by
  unfold F_moment_right d_moment_right
  simp only [wp_fn, dSeq, dRet, dRetN, dSet, dPar, dAsg, dIfS, dIf, dBin, dTest, dChain, dAnd, dOr, dNot, dAndV, dOrV, dNotV, dNext, dStop, dDrop, dNil, dCons, dTup, dLst, dOwn, dCall, dUn, dPart, dNo, dSl, dMeth, dMeth0, dAug, dIce, dYes, wp_star, wp_dFn, w1, w2, wp_bind, wp_pure, wp_no, wp_var, wp_dC]
  simp [wp_fn, dSeq, dRet, dRetN, dSet, dPar, dAsg, dIfS, dIf, dBin, dTest, dChain, dAnd, dOr, dNot, dAndV, dOrV, dNotV, dNext, dStop, dDrop, dNil, dCons, dTup, dLst, dOwn, dCall, dUn, dPart, dNo, dSl, dMeth, dMeth0, dAug, dIce, dYes, wp_star, wp_dFn, w1, w2, wp_bind, wp_pure, wp_no, wp_var, wp_dC, f_is_between]
theorem f_need_moment {i : Int} (h : -Big ≤ i ∧ i ≤ Big) : wp (F_need_moment A [.d (.int i)]) O Φ = Φ (.d .non) O := by
  unfold F_need_moment d_need_moment
  simp only [wp_fn, dSeq, dRet, dRetN, dSet, dPar, dAsg, dIfS, dIf, dBin, dTest, dChain, dAnd, dOr, dNot, dAndV, dOrV, dNotV, dNext, dStop, dDrop, dNil, dCons, dTup, dLst, dOwn, dCall, dUn, dPart, dNo, dSl, dMeth, dMeth0, dAug, dIce, dYes, wp_star, wp_dFn, w1, w2, wp_bind, wp_pure, wp_no, wp_var, wp_dC]
  simp [wp_fn, dSeq, dRet, dRetN, dSet, dPar, dAsg, dIfS, dIf, dBin, dTest, dChain, dAnd, dOr, dNot, dAndV, dOrV, dNotV, dNext, dStop, dDrop, dNil, dCons, dTup, dLst, dOwn, dCall, dUn, dPart, dNo, dSl, dMeth, dMeth0, dAug, dIce, dYes, wp_star, wp_dFn, w1, w2, wp_bind, wp_pure, wp_no, wp_var, wp_dC, f_moment_right, h]
/-! jobs, sizes, long jobs -/
abbrev d2 (p : Int × Int) : D := .tup [.int p.1, .int p.2]
abbrev d3 (p : Int × Int × Int) : D := .tup [.int p.1, .int p.2.1, .int p.2.2]
def Job (p : Int × Int) : Prop := (1 ≤ p.2 ∧ p.2 ≤ 1000000000000) ∧ 0 ≤ p.1 ∧ p.1 < p.2
def Lng (p : Int × Int × Int) : Prop := (1 ≤ p.2.1 ∧ p.2.1 ≤ 1000000000000) ∧ (0 ≤ p.1 ∧ p.1 < p.2.1) ∧ 1 ≤ p.2.2 ∧ p.2.2 ≤ p.2.1
def Siz (p : Int × Int) : Prop := (1 ≤ p.1 ∧ p.1 ≤ 1000000000000) ∧ 1 ≤ p.2 ∧ p.2 ≤ p.1
theorem f_job_right {p : Int × Int} (h : Job p) : wp (F_job_right A [.d (d2 p)]) O Φ = Φ (.d (.bl true)) O := by
  obtain ⟨⟨h1, h2⟩, h3, h4⟩ := h
  unfold F_job_right d_job_right
  simp [wp_fn, dSeq, dRet, dRetN, dSet, dPar, dAsg, dIfS, dIf, dBin, dTest, dChain, dAnd, dOr, dNot, dAndV, dOrV, dNotV, dNext, dStop, dDrop, dNil, dCons, dTup, dLst, dOwn, dCall, dUn, dPart, dNo, dSl, dMeth, dMeth0, dAug, dIce, dYes, wp_star, wp_dFn, w1, w2, wp_bind, wp_pure, wp_no, wp_var, wp_dC, f_is_between, h1, h2, h3, show p.1 ≤ p.2 - 1 by omega]
theorem f_long_right {p : Int × Int × Int} (h : Lng p) : wp (F_long_right A [.d (d3 p)]) O Φ = Φ (.d (.bl true)) O := by
  obtain ⟨⟨h1, h2⟩, ⟨h3, h4⟩, h5, h6⟩ := h
  unfold F_long_right d_long_right
  simp [wp_fn, dSeq, dRet, dRetN, dSet, dPar, dAsg, dIfS, dIf, dBin, dTest, dChain, dAnd, dOr, dNot, dAndV, dOrV, dNotV, dNext, dStop, dDrop, dNil, dCons, dTup, dLst, dOwn, dCall, dUn, dPart, dNo, dSl, dMeth, dMeth0, dAug, dIce, dYes, wp_star, wp_dFn, w1, w2, wp_bind, wp_pure, wp_no, wp_var, wp_dC, f_is_between, h1, h2, h3, h5, h6, show p.1 ≤ p.2.1 - 1 by omega]
theorem f_size_right {p : Int × Int} (h : Siz p) : wp (F_size_right A [.d (d2 p)]) O Φ = Φ (.d (.bl true)) O := by
  obtain ⟨⟨h1, h2⟩, h3, h4⟩ := h
  unfold F_size_right d_size_right
  simp [wp_fn, dSeq, dRet, dRetN, dSet, dPar, dAsg, dIfS, dIf, dBin, dTest, dChain, dAnd, dOr, dNot, dAndV, dOrV, dNotV, dNext, dStop, dDrop, dNil, dCons, dTup, dLst, dOwn, dCall, dUn, dPart, dNo, dSl, dMeth, dMeth0, dAug, dIce, dYes, wp_star, wp_dFn, w1, w2, wp_bind, wp_pure, wp_no, wp_var, wp_dC, f_is_between, h1, h2, h3, h4]
theorem f_need_long {p : Int × Int × Int} (h : Lng p) : wp (F_need_long A [.d (d3 p), .d .non]) O Φ = Φ (.d .non) O := by
  unfold F_need_long d_need_long
  simp [wp_fn, dSeq, dRet, dRetN, dSet, dPar, dAsg, dIfS, dIf, dBin, dTest, dChain, dAnd, dOr, dNot, dAndV, dOrV, dNotV, dNext, dStop, dDrop, dNil, dCons, dTup, dLst, dOwn, dCall, dUn, dPart, dNo, dSl, dMeth, dMeth0, dAug, dIce, dYes, wp_star, wp_dFn, w1, w2, wp_bind, wp_pure, wp_no, wp_var, wp_dC, f_long_right h]
/-! running -/
abbrev Rn (p : Int × Int × Int) (m : Int) : Bool := decide ((m - p.1) % p.2.1 < p.2.2)
theorem f_running_long {p : Int × Int × Int} (h : Lng p) (m : Int) : wp (F_running_long A [.d (d3 p), .d (.int m)]) O Φ = Φ (.d (.bl (Rn p m))) O := by
  unfold F_running_long d_running_long
  obtain ⟨⟨h1, h2⟩, _⟩ := h
  simp [wp_fn, dSeq, dRet, dRetN, dSet, dPar, dAsg, dIfS, dIf, dBin, dTest, dChain, dAnd, dOr, dNot, dAndV, dOrV, dNotV, dNext, dStop, dDrop, dNil, dCons, dTup, dLst, dOwn, dCall, dUn, dPart, dNo, dSl, dMeth, dMeth0, dAug, dIce, dYes, wp_star, wp_dFn, w1, w2, wp_bind, wp_pure, wp_no, wp_var, wp_dC]
  rw [wp_mod (by omega)]
  simp [wp_fn, dSeq, dRet, dRetN, dSet, dPar, dAsg, dIfS, dIf, dBin, dTest, dChain, dAnd, dOr, dNot, dAndV, dOrV, dNotV, dNext, dStop, dDrop, dNil, dCons, dTup, dLst, dOwn, dCall, dUn, dPart, dNo, dSl, dMeth, dMeth0, dAug, dIce, dYes, wp_star, wp_dFn, w1, w2, wp_bind, wp_pure, wp_no, wp_var, wp_dC]
theorem f_busy {p : Int × Int × Int} (h : Lng p) (m : Int) : wp (F_z_busy A [.d (d3 p), .d (.int m)]) O Φ = Φ (.d (.bl (Rn p m))) O := by
  unfold F_z_busy d_z_busy
  obtain ⟨⟨h1, h2⟩, _⟩ := h
  simp [wp_fn, dSeq, dRet, dRetN, dSet, dPar, dAsg, dIfS, dIf, dBin, dTest, dChain, dAnd, dOr, dNot, dAndV, dOrV, dNotV, dNext, dStop, dDrop, dNil, dCons, dTup, dLst, dOwn, dCall, dUn, dPart, dNo, dSl, dMeth, dMeth0, dAug, dIce, dYes, wp_star, wp_dFn, w1, w2, wp_bind, wp_pure, wp_no, wp_var, wp_dC]
  rw [wp_mod (by omega)]
  simp [wp_fn, dSeq, dRet, dRetN, dSet, dPar, dAsg, dIfS, dIf, dBin, dTest, dChain, dAnd, dOr, dNot, dAndV, dOrV, dNotV, dNext, dStop, dDrop, dNil, dCons, dTup, dLst, dOwn, dCall, dUn, dPart, dNo, dSl, dMeth, dMeth0, dAug, dIce, dYes, wp_star, wp_dFn, w1, w2, wp_bind, wp_pure, wp_no, wp_var, wp_dC]
theorem f_runs_then {p : Int × Int × Int} (h : Lng p) {m : Int} (hm : -Big ≤ m ∧ m ≤ Big) : wp (F_runs_then A [.d (d3 p), .d (.int m)]) O Φ = Φ (.d (.bl (Rn p m))) O := by
  unfold F_runs_then d_runs_then
  simp [wp_fn, dSeq, dRet, dRetN, dSet, dPar, dAsg, dIfS, dIf, dBin, dTest, dChain, dAnd, dOr, dNot, dAndV, dOrV, dNotV, dNext, dStop, dDrop, dNil, dCons, dTup, dLst, dOwn, dCall, dUn, dPart, dNo, dSl, dMeth, dMeth0, dAug, dIce, dYes, wp_star, wp_dFn, w1, w2, wp_bind, wp_pure, wp_no, wp_var, wp_dC, f_need_long h, f_need_moment hm, f_running_long h]
/-! gaps -/
abbrev Gp (p q : Int × Int × Int) : Int := (q.1 - p.1) % G p.2.1 q.2.1
abbrev Ap (p q : Int × Int × Int) : Bool := decide (p.2.2 ≤ Gp p q ∧ Gp p q ≤ G p.2.1 q.2.1 - q.2.2)
theorem f_gap_of {p q : Int × Int × Int} (hp : 1 ≤ p.2.1) (hq : 1 ≤ q.2.1) : wp (F_gap_of A [.d (d3 p), .d (d3 q)]) O Φ = Φ (.d (.tup [.int (G p.2.1 q.2.1), .int (Gp p q)])) O := by
  unfold F_gap_of d_gap_of
  simp [wp_fn, dSeq, dRet, dRetN, dSet, dPar, dAsg, dIfS, dIf, dBin, dTest, dChain, dAnd, dOr, dNot, dAndV, dOrV, dNotV, dNext, dStop, dDrop, dNil, dCons, dTup, dLst, dOwn, dCall, dUn, dPart, dNo, dSl, dMeth, dMeth0, dAug, dIce, dYes, wp_star, wp_dFn, w1, w2, wp_bind, wp_pure, wp_no, wp_var, wp_dC, f_gcd (show 0 ≤ p.2.1 by omega) (show 0 ≤ q.2.1 by omega)]
  rw [wp_mod (g_pos (by omega))]
  simp [wp_fn, dSeq, dRet, dRetN, dSet, dPar, dAsg, dIfS, dIf, dBin, dTest, dChain, dAnd, dOr, dNot, dAndV, dOrV, dNotV, dNext, dStop, dDrop, dNil, dCons, dTup, dLst, dOwn, dCall, dUn, dPart, dNo, dSl, dMeth, dMeth0, dAug, dIce, dYes, wp_star, wp_dFn, w1, w2, wp_bind, wp_pure, wp_no, wp_var, wp_dC]
theorem f_part_gap {p q : Int × Int × Int} (hp : 1 ≤ p.2.1) (hq : 1 ≤ q.2.1) : wp (F_z_part_gap A [.d (d3 p), .d (d3 q)]) O Φ = Φ (.d (.tup [.int (G p.2.1 q.2.1), .int (Gp p q)])) O := by
  unfold F_z_part_gap d_z_part_gap
  simp [wp_fn, dSeq, dRet, dRetN, dSet, dPar, dAsg, dIfS, dIf, dBin, dTest, dChain, dAnd, dOr, dNot, dAndV, dOrV, dNotV, dNext, dStop, dDrop, dNil, dCons, dTup, dLst, dOwn, dCall, dUn, dPart, dNo, dSl, dMeth, dMeth0, dAug, dIce, dYes, wp_star, wp_dFn, w1, w2, wp_bind, wp_pure, wp_no, wp_var, wp_dC, f_gcd2 (show 0 ≤ p.2.1 by omega) (show 0 ≤ q.2.1 by omega)]
  rw [wp_mod (g_pos (by omega))]
  simp [wp_fn, dSeq, dRet, dRetN, dSet, dPar, dAsg, dIfS, dIf, dBin, dTest, dChain, dAnd, dOr, dNot, dAndV, dOrV, dNotV, dNext, dStop, dDrop, dNil, dCons, dTup, dLst, dOwn, dCall, dUn, dPart, dNo, dSl, dMeth, dMeth0, dAug, dIce, dYes, wp_star, wp_dFn, w1, w2, wp_bind, wp_pure, wp_no, wp_var, wp_dC]
theorem f_keeps_apart {p q : Int × Int × Int} (hp : 1 ≤ p.2.1) (hq : 1 ≤ q.2.1) : wp (F_keeps_apart A [.d (d3 p), .d (d3 q)]) O Φ = Φ (.d (.bl (Ap p q))) O := by
  unfold F_keeps_apart d_keeps_apart
  simp [wp_fn, dSeq, dRet, dRetN, dSet, dPar, dAsg, dIfS, dIf, dBin, dTest, dChain, dAnd, dOr, dNot, dAndV, dOrV, dNotV, dNext, dStop, dDrop, dNil, dCons, dTup, dLst, dOwn, dCall, dUn, dPart, dNo, dSl, dMeth, dMeth0, dAug, dIce, dYes, wp_star, wp_dFn, w1, w2, wp_bind, wp_pure, wp_no, wp_var, wp_dC, f_gap_of hp hq]
  by_cases h : p.2.2 ≤ Gp p q <;> simp [h]
theorem f_apart {p q : Int × Int × Int} (hp : 1 ≤ p.2.1) (hq : 1 ≤ q.2.1) : wp (F_z_apart A [.d (d3 p), .d (d3 q)]) O Φ = Φ (.d (.bl (Ap p q))) O := by
  unfold F_z_apart d_z_apart
  simp [wp_fn, dSeq, dRet, dRetN, dSet, dPar, dAsg, dIfS, dIf, dBin, dTest, dChain, dAnd, dOr, dNot, dAndV, dOrV, dNotV, dNext, dStop, dDrop, dNil, dCons, dTup, dLst, dOwn, dCall, dUn, dPart, dNo, dSl, dMeth, dMeth0, dAug, dIce, dYes, wp_star, wp_dFn, w1, w2, wp_bind, wp_pure, wp_no, wp_var, wp_dC, f_part_gap hp hq]
  have e : (Gp p q + q.2.2 ≤ G p.2.1 q.2.1) = (Gp p q ≤ G p.2.1 q.2.1 - q.2.2) := propext ⟨fun z => by omega, fun z => by omega⟩
  by_cases h : p.2.2 ≤ Gp p q <;> simp [h, e]
end L74


set_option maxRecDepth 100000
set_option maxHeartbeats 2000000
/-! k74: lists of long jobs and of sizes. -/
namespace L74
open PySem L2 VL
variable {A : Str → Addr} {O : Sto} {Φ : W → Sto → Prop}
abbrev L3 (ls : List (Int × Int × Int)) : D := .lst (ls.map d3)
abbrev L2' (ls : List (Int × Int)) : D := .lst (ls.map d2)
theorem line_big : 16777216 ≤ sizeLine := by rw [sizeLine_eq]; exact Nat.le_refl _
theorem f_need_longs {ls : List (Int × Int × Int)} (h : ∀ p ∈ ls, Lng p) (h1 : 1 ≤ ls.length) (h2 : ls.length ≤ 12) : wp (F_need_longs A [.d (L3 ls)]) O Φ = Φ (.d .non) O := by
  have e : F_need_longs A [.d (L3 ls)] O = .ok (.d .non) O := by
    refine eq_of_wp ?_
    unfold F_need_longs d_need_longs
    simp only [wp_fn, dSeq, dRet, dRetN, dSet, dPar, dAsg, dIfS, dIf, dBin, dTest, dChain, dAnd, dOr, dNot, dAndV, dOrV, dNotV, dNext, dStop, dDrop, dNil, dCons, dTup, dLst, dOwn, dCall, dUn, dPart, dNo, dSl, dMeth, dMeth0, dAug, dIce, dYes, wp_star, wp_dFn, w1, w2, wp_bind, wp_pure, wp_no, wp_var, wp_dC]
    simp [wp_fn, dSeq, dRet, dRetN, dSet, dPar, dAsg, dIfS, dIf, dBin, dTest, dChain, dAnd, dOr, dNot, dAndV, dOrV, dNotV, dNext, dStop, dDrop, dNil, dCons, dTup, dLst, dOwn, dCall, dUn, dPart, dNo, dSl, dMeth, dMeth0, dAug, dIce, dYes, wp_star, wp_dFn, w1, w2, wp_bind, wp_pure, wp_no, wp_var, wp_dC, f_is_list]
    have e1 : (1 : Int) ≤ (ls.length : Int) := by omega
    have e2 : (ls.length : Int) ≤ 12 := by omega
    simp [e1, e2]
    rw [wp_for, wp_enum]
    simp [wp_fn, dSeq, dRet, dRetN, dSet, dPar, dAsg, dIfS, dIf, dBin, dTest, dChain, dAnd, dOr, dNot, dAndV, dOrV, dNotV, dNext, dStop, dDrop, dNil, dCons, dTup, dLst, dOwn, dCall, dUn, dPart, dNo, dSl, dMeth, dMeth0, dAug, dIce, dYes, wp_star, wp_dFn, w1, w2, wp_bind, wp_pure, wp_no, wp_var, wp_dC]
    refine wp_loopX ls.zipIdx _ (fun zs Γ O' => O' = O ∧ ∃ x y, Γ = [some (.d (L3 ls)), x, y]) (enum_g ls d3) (fun _ _ _ _ => wk_ok) ⟨rfl, _, _, rfl⟩ ?_ ?_
    · rintro zs ⟨p, n⟩ ys Γ O' e ⟨rfl, x, y, rfl⟩
      have hp : Lng p := h p (List.mem_of_getElem? (zip_split e).2)
      refine ⟨_, by simp; rfl, ?_⟩
      unfold B0_need_longs
      simp [wp_fn, dSeq, dRet, dRetN, dSet, dPar, dAsg, dIfS, dIf, dBin, dTest, dChain, dAnd, dOr, dNot, dAndV, dOrV, dNotV, dNext, dStop, dDrop, dNil, dCons, dTup, dLst, dOwn, dCall, dUn, dPart, dNo, dSl, dMeth, dMeth0, dAug, dIce, dYes, wp_star, wp_dFn, w1, w2, wp_bind, wp_pure, wp_no, wp_var, wp_dC, f_long_right hp]
    · rintro Γ O' ⟨rfl, _⟩
      simp
  rw [wp_eq e]
theorem f_need_sizes {ls : List (Int × Int)} (h : ∀ p ∈ ls, Siz p) (h1 : 1 ≤ ls.length) (h2 : ls.length ≤ 6) : wp (F_need_sizes A [.d (L2' ls)]) O Φ = Φ (.d .non) O := by
  have e : F_need_sizes A [.d (L2' ls)] O = .ok (.d .non) O := by
    refine eq_of_wp ?_
    unfold F_need_sizes d_need_sizes
    simp only [wp_fn, dSeq, dRet, dRetN, dSet, dPar, dAsg, dIfS, dIf, dBin, dTest, dChain, dAnd, dOr, dNot, dAndV, dOrV, dNotV, dNext, dStop, dDrop, dNil, dCons, dTup, dLst, dOwn, dCall, dUn, dPart, dNo, dSl, dMeth, dMeth0, dAug, dIce, dYes, wp_star, wp_dFn, w1, w2, wp_bind, wp_pure, wp_no, wp_var, wp_dC]
    simp [wp_fn, dSeq, dRet, dRetN, dSet, dPar, dAsg, dIfS, dIf, dBin, dTest, dChain, dAnd, dOr, dNot, dAndV, dOrV, dNotV, dNext, dStop, dDrop, dNil, dCons, dTup, dLst, dOwn, dCall, dUn, dPart, dNo, dSl, dMeth, dMeth0, dAug, dIce, dYes, wp_star, wp_dFn, w1, w2, wp_bind, wp_pure, wp_no, wp_var, wp_dC, f_is_list]
    have e1 : (1 : Int) ≤ (ls.length : Int) := by omega
    have e2 : (ls.length : Int) ≤ 6 := by omega
    simp [e1, e2]
    rw [wp_for, wp_enum]
    simp [wp_fn, dSeq, dRet, dRetN, dSet, dPar, dAsg, dIfS, dIf, dBin, dTest, dChain, dAnd, dOr, dNot, dAndV, dOrV, dNotV, dNext, dStop, dDrop, dNil, dCons, dTup, dLst, dOwn, dCall, dUn, dPart, dNo, dSl, dMeth, dMeth0, dAug, dIce, dYes, wp_star, wp_dFn, w1, w2, wp_bind, wp_pure, wp_no, wp_var, wp_dC]
    refine wp_loopX ls.zipIdx _ (fun zs Γ O' => O' = O ∧ ∃ x y, Γ = [some (.d (L2' ls)), x, y]) (enum_g ls d2) (fun _ _ _ _ => wk_ok) ⟨rfl, _, _, rfl⟩ ?_ ?_
    · rintro zs ⟨p, n⟩ ys Γ O' e ⟨rfl, x, y, rfl⟩
      have hp : Siz p := h p (List.mem_of_getElem? (zip_split e).2)
      refine ⟨_, by simp; rfl, ?_⟩
      unfold B0_need_sizes
      simp [wp_fn, dSeq, dRet, dRetN, dSet, dPar, dAsg, dIfS, dIf, dBin, dTest, dChain, dAnd, dOr, dNot, dAndV, dOrV, dNotV, dNext, dStop, dDrop, dNil, dCons, dTup, dLst, dOwn, dCall, dUn, dPart, dNo, dSl, dMeth, dMeth0, dAug, dIce, dYes, wp_star, wp_dFn, w1, w2, wp_bind, wp_pure, wp_no, wp_var, wp_dC, f_size_right hp]
    · rintro Γ O' ⟨rfl, _⟩
      simp
  rw [wp_eq e]
theorem lc_pos {a b : Int} (ha : 0 < a) (hb : 0 < b) : 0 < Lc a b := by
  unfold Lc
  have h1 : G a b ≤ a := by
    have := Nat.gcd_le_left b.natAbs (m := a.natAbs) (by omega)
    show ((Nat.gcd a.natAbs b.natAbs : Nat) : Int) ≤ a
    omega
  have h2 := g_pos (a := a) hb
  have h3 : 1 ≤ a / G a b := by
    rw [Int.le_ediv_iff_mul_le h2]; omega
  exact Int.mul_pos (by omega) hb
def Rd (ls : List (Int × Int × Int)) : Int := ls.foldl (fun a p => Lc a p.2.1) 1
theorem rd_pos : ∀ {ls : List (Int × Int × Int)} {a : Int}, (∀ p ∈ ls, Lng p) → 0 < a → 0 < ls.foldl (fun a p => Lc a p.2.1) a
  | [], a, _, ha => ha
  | p :: ls, a, h, ha => by
    have hp := (h p List.mem_cons_self).1
    show 0 < ls.foldl _ (Lc a p.2.1)
    exact rd_pos (fun q hq => h q (List.mem_cons_of_mem _ hq)) (lc_pos ha (by omega))
theorem f_round {ls : List (Int × Int × Int)} (h : ∀ p ∈ ls, Lng p) : wp (F_round_by_longs A [.d (L3 ls)]) O Φ = Φ (.d (.int (Rd ls))) O := by
  have e : F_round_by_longs A [.d (L3 ls)] O = .ok (.d (.int (Rd ls))) O := by
    refine eq_of_wp ?_
    unfold F_round_by_longs d_round_by_longs
    simp only [wp_fn, dSeq, dRet, dRetN, dSet, dPar, dAsg, dIfS, dIf, dBin, dTest, dChain, dAnd, dOr, dNot, dAndV, dOrV, dNotV, dNext, dStop, dDrop, dNil, dCons, dTup, dLst, dOwn, dCall, dUn, dPart, dNo, dSl, dMeth, dMeth0, dAug, dIce, dYes, wp_star, wp_dFn, w1, w2, wp_bind, wp_pure, wp_no, wp_var, wp_dC]
    rw [wp_for, wp_it]
    simp [wp_fn, dSeq, dRet, dRetN, dSet, dPar, dAsg, dIfS, dIf, dBin, dTest, dChain, dAnd, dOr, dNot, dAndV, dOrV, dNotV, dNext, dStop, dDrop, dNil, dCons, dTup, dLst, dOwn, dCall, dUn, dPart, dNo, dSl, dMeth, dMeth0, dAug, dIce, dYes, wp_star, wp_dFn, w1, w2, wp_bind, wp_pure, wp_no, wp_var, wp_dC]
    refine wp_loopX ls (fun p => .d (d3 p)) (fun zs Γ O' => O' = O ∧ ∃ x y z, Γ = [some (.d (L3 ls)), some (.d (.int (Rd zs))), x, y, z]) rfl (fun _ _ _ _ => wk_ok) ⟨rfl, _, _, _, rfl⟩ ?_ ?_
    · rintro zs p ys Γ O' e ⟨rfl, x, y, z, rfl⟩
      have hp := (h p (mem_of_split e)).1
      have hz : 0 < Rd zs := rd_pos (fun q hq => h q (by rw [e]; simp [hq])) (by decide)
      refine ⟨_, by simp; rfl, ?_⟩
      unfold B0_round_by_longs
      simp [wp_fn, dSeq, dRet, dRetN, dSet, dPar, dAsg, dIfS, dIf, dBin, dTest, dChain, dAnd, dOr, dNot, dAndV, dOrV, dNotV, dNext, dStop, dDrop, dNil, dCons, dTup, dLst, dOwn, dCall, dUn, dPart, dNo, dSl, dMeth, dMeth0, dAug, dIce, dYes, wp_star, wp_dFn, w1, w2, wp_bind, wp_pure, wp_no, wp_var, wp_dC, f_multiple (Int.le_of_lt hz) (show 0 < p.2.1 by omega) (show p.2.1 < 2 ^ 64 by omega)]
      simp [Rd]
    · rintro Γ O' ⟨rfl, x, y, z, rfl⟩
      simp [wp_fn, dSeq, dRet, dRetN, dSet, dPar, dAsg, dIfS, dIf, dBin, dTest, dChain, dAnd, dOr, dNot, dAndV, dOrV, dNotV, dNext, dStop, dDrop, dNil, dCons, dTup, dLst, dOwn, dCall, dUn, dPart, dNo, dSl, dMeth, dMeth0, dAug, dIce, dYes, wp_star, wp_dFn, w1, w2, wp_bind, wp_pure, wp_no, wp_var, wp_dC]
  rw [wp_eq e]
theorem f_round2 {ls : List (Int × Int × Int)} (h : ∀ p ∈ ls, Lng p) : wp (F_z_round A [.d (L3 ls)]) O Φ = Φ (.d (.int (Rd ls))) O := by
  have e : F_z_round A [.d (L3 ls)] O = .ok (.d (.int (Rd ls))) O := by
    refine eq_of_wp ?_
    unfold F_z_round d_z_round
    simp only [wp_fn, dSeq, dRet, dRetN, dSet, dPar, dAsg, dIfS, dIf, dBin, dTest, dChain, dAnd, dOr, dNot, dAndV, dOrV, dNotV, dNext, dStop, dDrop, dNil, dCons, dTup, dLst, dOwn, dCall, dUn, dPart, dNo, dSl, dMeth, dMeth0, dAug, dIce, dYes, wp_star, wp_dFn, w1, w2, wp_bind, wp_pure, wp_no, wp_var, wp_dC]
    rw [wp_for, wp_it]
    simp [wp_fn, dSeq, dRet, dRetN, dSet, dPar, dAsg, dIfS, dIf, dBin, dTest, dChain, dAnd, dOr, dNot, dAndV, dOrV, dNotV, dNext, dStop, dDrop, dNil, dCons, dTup, dLst, dOwn, dCall, dUn, dPart, dNo, dSl, dMeth, dMeth0, dAug, dIce, dYes, wp_star, wp_dFn, w1, w2, wp_bind, wp_pure, wp_no, wp_var, wp_dC]
    refine wp_loopX ls (fun p => .d (d3 p)) (fun zs Γ O' => O' = O ∧ ∃ x, Γ = [some (.d (L3 ls)), some (.d (.int (Rd zs))), x]) rfl (fun _ _ _ _ => wk_ok) ⟨rfl, _, rfl⟩ ?_ ?_
    · rintro zs p ys Γ O' e ⟨rfl, x, rfl⟩
      have hp := (h p (mem_of_split e)).1
      have hz : 0 < Rd zs := rd_pos (fun q hq => h q (by rw [e]; simp [hq])) (by decide)
      refine ⟨_, by simp; rfl, ?_⟩
      unfold B0_z_round
      simp [wp_fn, dSeq, dRet, dRetN, dSet, dPar, dAsg, dIfS, dIf, dBin, dTest, dChain, dAnd, dOr, dNot, dAndV, dOrV, dNotV, dNext, dStop, dDrop, dNil, dCons, dTup, dLst, dOwn, dCall, dUn, dPart, dNo, dSl, dMeth, dMeth0, dAug, dIce, dYes, wp_star, wp_dFn, w1, w2, wp_bind, wp_pure, wp_no, wp_var, wp_dC, f_multiple2 (Int.le_of_lt hz) (show 0 < p.2.1 by omega) (show p.2.1 < 2 ^ 64 by omega)]
      simp [Rd]
    · rintro Γ O' ⟨rfl, x, rfl⟩
      simp [wp_fn, dSeq, dRet, dRetN, dSet, dPar, dAsg, dIfS, dIf, dBin, dTest, dChain, dAnd, dOr, dNot, dAndV, dOrV, dNotV, dNext, dStop, dDrop, dNil, dCons, dTup, dLst, dOwn, dCall, dUn, dPart, dNo, dSl, dMeth, dMeth0, dAug, dIce, dYes, wp_star, wp_dFn, w1, w2, wp_bind, wp_pure, wp_no, wp_var, wp_dC]
  rw [wp_eq e]
theorem f_need_short {ls : List (Int × Int × Int)} (h : ∀ p ∈ ls, Lng p) (h1 : 1 ≤ ls.length) (h2 : ls.length ≤ 12) (hr : Rd ls ≤ 1000000) : wp (F_need_short_round A [.d (L3 ls)]) O Φ = Φ (.d .non) O := by
  unfold F_need_short_round d_need_short_round
  simp only [wp_fn, dSeq, dRet, dRetN, dSet, dPar, dAsg, dIfS, dIf, dBin, dTest, dChain, dAnd, dOr, dNot, dAndV, dOrV, dNotV, dNext, dStop, dDrop, dNil, dCons, dTup, dLst, dOwn, dCall, dUn, dPart, dNo, dSl, dMeth, dMeth0, dAug, dIce, dYes, wp_star, wp_dFn, w1, w2, wp_bind, wp_pure, wp_no, wp_var, wp_dC]
  simp [wp_fn, dSeq, dRet, dRetN, dSet, dPar, dAsg, dIfS, dIf, dBin, dTest, dChain, dAnd, dOr, dNot, dAndV, dOrV, dNotV, dNext, dStop, dDrop, dNil, dCons, dTup, dLst, dOwn, dCall, dUn, dPart, dNo, dSl, dMeth, dMeth0, dAug, dIce, dYes, wp_star, wp_dFn, w1, w2, wp_bind, wp_pure, wp_no, wp_var, wp_dC, f_need_longs h h1 h2, f_round h, show ¬ 1000000 < Rd ls by omega]
/-! rooms -/
def roomStep (p : Int) (i : Nat) (a : Int) (q : (Int × Int) × Nat) : Int := if q.2 = i then a else Lc a (G p q.1.1)
def roomAt (ss : List (Int × Int)) (i : Nat) (p : Int) : Int := ss.zipIdx.foldl (roomStep p i) 1
def rooms (ss : List (Int × Int)) : List Int := ss.zipIdx.map fun q => roomAt ss q.2 q.1.1
theorem room_pos {p : Int} {i : Nat} : ∀ {qs : List ((Int × Int) × Nat)} {a : Int}, (∀ q ∈ qs, 0 < q.1.1) → 0 < a → 0 < qs.foldl (roomStep p i) a
  | [], a, _, ha => ha
  | q :: qs, a, h, ha => by
    show 0 < qs.foldl (roomStep p i) (roomStep p i a q)
    refine room_pos (fun r hr => h r (List.mem_cons_of_mem _ hr)) ?_
    unfold roomStep
    split
    · exact ha
    · exact lc_pos ha (g_pos (h q List.mem_cons_self))
theorem f_rooms {ss : List (Int × Int)} (h : ∀ p ∈ ss, Siz p) (hl : ss.length ≤ 100) : wp (F_rooms_by A [.d (L2' ss)]) O Φ = Φ (.d (.lst ((rooms ss).map D.int))) O := by
  have e : F_rooms_by A [.d (L2' ss)] O = .ok (.d (.lst ((rooms ss).map D.int))) O := by
    refine eq_of_wp ?_
    unfold F_rooms_by d_rooms_by
    simp only [wp_fn, dSeq, dRet, dRetN, dSet, dPar, dAsg, dIfS, dIf, dBin, dTest, dChain, dAnd, dOr, dNot, dAndV, dOrV, dNotV, dNext, dStop, dDrop, dNil, dCons, dTup, dLst, dOwn, dCall, dUn, dPart, dNo, dSl, dMeth, dMeth0, dAug, dIce, dYes, wp_star, wp_dFn, w1, w2, wp_bind, wp_pure, wp_no, wp_var, wp_dC]
    simp [wp_fn, dSeq, dRet, dRetN, dSet, dPar, dAsg, dIfS, dIf, dBin, dTest, dChain, dAnd, dOr, dNot, dAndV, dOrV, dNotV, dNext, dStop, dDrop, dNil, dCons, dTup, dLst, dOwn, dCall, dUn, dPart, dNo, dSl, dMeth, dMeth0, dAug, dIce, dYes, wp_star, wp_dFn, w1, w2, wp_bind, wp_pure, wp_no, wp_var, wp_dC]
    rw [wp_for, wp_enum]
    simp [wp_fn, dSeq, dRet, dRetN, dSet, dPar, dAsg, dIfS, dIf, dBin, dTest, dChain, dAnd, dOr, dNot, dAndV, dOrV, dNotV, dNext, dStop, dDrop, dNil, dCons, dTup, dLst, dOwn, dCall, dUn, dPart, dNo, dSl, dMeth, dMeth0, dAug, dIce, dYes, wp_star, wp_dFn, w1, w2, wp_bind, wp_pure, wp_no, wp_var, wp_dC]
    refine wp_loopX ss.zipIdx _ (fun zs Γ O' => O' = O ++ [.lst ((zs.map fun q => roomAt ss q.2 q.1.1).map D.int)] ∧ ∃ a b c d e f, Γ = [some (.d (L2' ss)), some (.own O.length), a, b, c, d, e, f]) (enum_g ss d2) (fun _ _ _ _ => wk_ok) ⟨rfl, _, _, _, _, _, _, rfl⟩ ?_ ?_
    · rintro zs ⟨p, n⟩ ys Γ O' e ⟨rfl, a, b, c, d, e0, f, rfl⟩
      obtain ⟨e1, e2⟩ := zip_split e
      have hp := h p (List.mem_of_getElem? e2)
      refine ⟨_, by simp; rfl, ?_⟩
      unfold B1_rooms_by
      simp only [wp_fn, dSeq, dRet, dRetN, dSet, dPar, dAsg, dIfS, dIf, dBin, dTest, dChain, dAnd, dOr, dNot, dAndV, dOrV, dNotV, dNext, dStop, dDrop, dNil, dCons, dTup, dLst, dOwn, dCall, dUn, dPart, dNo, dSl, dMeth, dMeth0, dAug, dIce, dYes, wp_star, wp_dFn, w1, w2, wp_bind, wp_pure, wp_no, wp_var, wp_dC]
      simp [wp_fn, dSeq, dRet, dRetN, dSet, dPar, dAsg, dIfS, dIf, dBin, dTest, dChain, dAnd, dOr, dNot, dAndV, dOrV, dNotV, dNext, dStop, dDrop, dNil, dCons, dTup, dLst, dOwn, dCall, dUn, dPart, dNo, dSl, dMeth, dMeth0, dAug, dIce, dYes, wp_star, wp_dFn, w1, w2, wp_bind, wp_pure, wp_no, wp_var, wp_dC]
      rw [wp_for, wp_enum]
      simp [wp_fn, dSeq, dRet, dRetN, dSet, dPar, dAsg, dIfS, dIf, dBin, dTest, dChain, dAnd, dOr, dNot, dAndV, dOrV, dNotV, dNext, dStop, dDrop, dNil, dCons, dTup, dLst, dOwn, dCall, dUn, dPart, dNo, dSl, dMeth, dMeth0, dAug, dIce, dYes, wp_star, wp_dFn, w1, w2, wp_bind, wp_pure, wp_no, wp_var, wp_dC]
      refine wp_loopX ss.zipIdx _ (fun zs' Γ O' => O' = O ++ [.lst ((zs.map fun q => roomAt ss q.2 q.1.1).map D.int)] ∧ ∃ a b, Γ = [some (.d (L2' ss)), some (.own O.length), some (.d (.int n)), some (.d (.int p.1)), some (.d (.int p.2)), some (.d (.int (zs'.foldl (roomStep p.1 n) 1))), a, b]) (enum_g ss d2) (fun _ _ _ _ => wk_ok) ⟨by simp, e0, f, by simp⟩ ?_ ?_
      · rintro zs' ⟨q, m⟩ ys' Γ O' e' ⟨rfl, a, b, rfl⟩
        have hq := h q (List.mem_of_getElem? (zip_split e').2)
        refine ⟨_, by simp; rfl, ?_⟩
        unfold B0_rooms_by
        have hz : 0 < zs'.foldl (roomStep p.1 n) 1 := room_pos (fun r hr => by
          have hr : r ∈ ss.zipIdx := by rw [e']; simp [hr]
          have := h r.1 (zip_mem hr)
          have := this.1
          omega) (by decide)
        obtain ⟨⟨hp1, hp2⟩, _⟩ := hp
        obtain ⟨⟨hq1, hq2⟩, _⟩ := hq
        have hg := g_pos (a := p.1) (show 0 < q.1 by omega)
        have hg2 := g_le (a := p.1) (show 0 < q.1 by omega)
        simp [wp_fn, dSeq, dRet, dRetN, dSet, dPar, dAsg, dIfS, dIf, dBin, dTest, dChain, dAnd, dOr, dNot, dAndV, dOrV, dNotV, dNext, dStop, dDrop, dNil, dCons, dTup, dLst, dOwn, dCall, dUn, dPart, dNo, dSl, dMeth, dMeth0, dAug, dIce, dYes, wp_star, wp_dFn, w1, w2, wp_bind, wp_pure, wp_no, wp_var, wp_dC]
        by_cases hm : (m : Int) = (n : Int)
        · have hm' : m = n := by omega
          simp [hm', roomStep]
        · have hm' : m ≠ n := by omega
          simp [hm, hm', wp_fn, dSeq, dRet, dRetN, dSet, dPar, dAsg, dIfS, dIf, dBin, dTest, dChain, dAnd, dOr, dNot, dAndV, dOrV, dNotV, dNext, dStop, dDrop, dNil, dCons, dTup, dLst, dOwn, dCall, dUn, dPart, dNo, dSl, dMeth, dMeth0, dAug, dIce, dYes, wp_star, wp_dFn, w1, w2, wp_bind, wp_pure, wp_no, wp_var, wp_dC, f_gcd (show 0 ≤ p.1 by omega) (show 0 ≤ q.1 by omega), f_multiple (Int.le_of_lt hz) hg (show G p.1 q.1 < 2 ^ 64 by omega), roomStep]
      · rintro Γ O' ⟨rfl, a, b, rfl⟩
        simp only [wp_fn, dSeq, dRet, dRetN, dSet, dPar, dAsg, dIfS, dIf, dBin, dTest, dChain, dAnd, dOr, dNot, dAndV, dOrV, dNotV, dNext, dStop, dDrop, dNil, dCons, dTup, dLst, dOwn, dCall, dUn, dPart, dNo, dSl, dMeth, dMeth0, dAug, dIce, dYes, wp_star, wp_dFn, w1, w2, wp_bind, wp_pure, wp_no, wp_var, wp_dC]
        simp [wp_fn, dSeq, dRet, dRetN, dSet, dPar, dAsg, dIfS, dIf, dBin, dTest, dChain, dAnd, dOr, dNot, dAndV, dOrV, dNotV, dNext, dStop, dDrop, dNil, dCons, dTup, dLst, dOwn, dCall, dUn, dPart, dNo, dSl, dMeth, dMeth0, dAug, dIce, dYes, wp_star, wp_dFn, w1, w2, wp_bind, wp_pure, wp_no, wp_var, wp_dC]
        rw [wp_isL (wL_own (at_end _ _))]
        rw [wp_app rfl (at_end _ _) (by
          have hl2 : zs.length ≤ ss.length := by
            have := congrArg List.length e
            simp at this; omega
          have := line_big
          simp; omega)]
        simp [roomAt]
    · rintro Γ O' ⟨rfl, a, b, c, d, e, f, rfl⟩
      simp only [wp_fn, dSeq, dRet, dRetN, dSet, dPar, dAsg, dIfS, dIf, dBin, dTest, dChain, dAnd, dOr, dNot, dAndV, dOrV, dNotV, dNext, dStop, dDrop, dNil, dCons, dTup, dLst, dOwn, dCall, dUn, dPart, dNo, dSl, dMeth, dMeth0, dAug, dIce, dYes, wp_star, wp_dFn, w1, w2, wp_bind, wp_pure, wp_no, wp_var, wp_dC]
      simp [wp_fn, dSeq, dRet, dRetN, dSet, dPar, dAsg, dIfS, dIf, dBin, dTest, dChain, dAnd, dOr, dNot, dAndV, dOrV, dNotV, dNext, dStop, dDrop, dNil, dCons, dTup, dLst, dOwn, dCall, dUn, dPart, dNo, dSl, dMeth, dMeth0, dAug, dIce, dYes, wp_star, wp_dFn, w1, w2, wp_bind, wp_pure, wp_no, wp_var, wp_dC]
      rw [wp_ice (at_end _ _)]
      simp [rooms]
  rw [wp_eq e]
theorem f_rooms2 {ss : List (Int × Int)} (h : ∀ p ∈ ss, Siz p) (hl : ss.length ≤ 100) : wp (F_z_rooms A [.d (L2' ss)]) O Φ = Φ (.d (.lst ((rooms ss).map D.int))) O := by
  have e : F_z_rooms A [.d (L2' ss)] O = .ok (.d (.lst ((rooms ss).map D.int))) O := by
    refine eq_of_wp ?_
    unfold F_z_rooms d_z_rooms
    simp only [wp_fn, dSeq, dRet, dRetN, dSet, dPar, dAsg, dIfS, dIf, dBin, dTest, dChain, dAnd, dOr, dNot, dAndV, dOrV, dNotV, dNext, dStop, dDrop, dNil, dCons, dTup, dLst, dOwn, dCall, dUn, dPart, dNo, dSl, dMeth, dMeth0, dAug, dIce, dYes, wp_star, wp_dFn, w1, w2, wp_bind, wp_pure, wp_no, wp_var, wp_dC]
    simp [wp_fn, dSeq, dRet, dRetN, dSet, dPar, dAsg, dIfS, dIf, dBin, dTest, dChain, dAnd, dOr, dNot, dAndV, dOrV, dNotV, dNext, dStop, dDrop, dNil, dCons, dTup, dLst, dOwn, dCall, dUn, dPart, dNo, dSl, dMeth, dMeth0, dAug, dIce, dYes, wp_star, wp_dFn, w1, w2, wp_bind, wp_pure, wp_no, wp_var, wp_dC]
    rw [wp_for, wp_enum]
    simp [wp_fn, dSeq, dRet, dRetN, dSet, dPar, dAsg, dIfS, dIf, dBin, dTest, dChain, dAnd, dOr, dNot, dAndV, dOrV, dNotV, dNext, dStop, dDrop, dNil, dCons, dTup, dLst, dOwn, dCall, dUn, dPart, dNo, dSl, dMeth, dMeth0, dAug, dIce, dYes, wp_star, wp_dFn, w1, w2, wp_bind, wp_pure, wp_no, wp_var, wp_dC]
    refine wp_loopX ss.zipIdx _ (fun zs Γ O' => O' = O ++ [.lst ((zs.map fun q => roomAt ss q.2 q.1.1).map D.int)] ∧ ∃ a b c d e, Γ = [some (.d (L2' ss)), some (.own O.length), a, b, c, d, e]) (enum_g ss d2) (fun _ _ _ _ => wk_ok) ⟨rfl, _, _, _, _, _, rfl⟩ ?_ ?_
    · rintro zs ⟨p, n⟩ ys Γ O' e ⟨rfl, a, b, c, d, e0, rfl⟩
      obtain ⟨e1, e2⟩ := zip_split e
      have hp := h p (List.mem_of_getElem? e2)
      refine ⟨_, by simp; rfl, ?_⟩
      unfold B1_z_rooms
      simp only [wp_fn, dSeq, dRet, dRetN, dSet, dPar, dAsg, dIfS, dIf, dBin, dTest, dChain, dAnd, dOr, dNot, dAndV, dOrV, dNotV, dNext, dStop, dDrop, dNil, dCons, dTup, dLst, dOwn, dCall, dUn, dPart, dNo, dSl, dMeth, dMeth0, dAug, dIce, dYes, wp_star, wp_dFn, w1, w2, wp_bind, wp_pure, wp_no, wp_var, wp_dC]
      simp [wp_fn, dSeq, dRet, dRetN, dSet, dPar, dAsg, dIfS, dIf, dBin, dTest, dChain, dAnd, dOr, dNot, dAndV, dOrV, dNotV, dNext, dStop, dDrop, dNil, dCons, dTup, dLst, dOwn, dCall, dUn, dPart, dNo, dSl, dMeth, dMeth0, dAug, dIce, dYes, wp_star, wp_dFn, w1, w2, wp_bind, wp_pure, wp_no, wp_var, wp_dC]
      rw [wp_for, wp_enum]
      simp [wp_fn, dSeq, dRet, dRetN, dSet, dPar, dAsg, dIfS, dIf, dBin, dTest, dChain, dAnd, dOr, dNot, dAndV, dOrV, dNotV, dNext, dStop, dDrop, dNil, dCons, dTup, dLst, dOwn, dCall, dUn, dPart, dNo, dSl, dMeth, dMeth0, dAug, dIce, dYes, wp_star, wp_dFn, w1, w2, wp_bind, wp_pure, wp_no, wp_var, wp_dC]
      refine wp_loopX ss.zipIdx _ (fun zs' Γ O' => O' = O ++ [.lst ((zs.map fun q => roomAt ss q.2 q.1.1).map D.int)] ∧ ∃ a b, Γ = [some (.d (L2' ss)), some (.own O.length), some (.d (.int n)), some (.d (d2 p)), some (.d (.int (zs'.foldl (roomStep p.1 n) 1))), a, b]) (enum_g ss d2) (fun _ _ _ _ => wk_ok) ⟨by simp, d, e0, by simp⟩ ?_ ?_
      · rintro zs' ⟨q, m⟩ ys' Γ O' e' ⟨rfl, a, b, rfl⟩
        have hq := h q (List.mem_of_getElem? (zip_split e').2)
        refine ⟨_, by simp; rfl, ?_⟩
        unfold B0_z_rooms
        have hz : 0 < zs'.foldl (roomStep p.1 n) 1 := room_pos (fun r hr => by
          have hr : r ∈ ss.zipIdx := by rw [e']; simp [hr]
          have := h r.1 (zip_mem hr)
          have := this.1
          omega) (by decide)
        obtain ⟨⟨hp1, hp2⟩, _⟩ := hp
        obtain ⟨⟨hq1, hq2⟩, _⟩ := hq
        have hg := g_pos (a := p.1) (show 0 < q.1 by omega)
        have hg2 := g_le (a := p.1) (show 0 < q.1 by omega)
        simp [wp_fn, dSeq, dRet, dRetN, dSet, dPar, dAsg, dIfS, dIf, dBin, dTest, dChain, dAnd, dOr, dNot, dAndV, dOrV, dNotV, dNext, dStop, dDrop, dNil, dCons, dTup, dLst, dOwn, dCall, dUn, dPart, dNo, dSl, dMeth, dMeth0, dAug, dIce, dYes, wp_star, wp_dFn, w1, w2, wp_bind, wp_pure, wp_no, wp_var, wp_dC]
        by_cases hm : (m : Int) = (n : Int)
        · have hm' : m = n := by omega
          simp [hm', roomStep]
        · have hm' : m ≠ n := by omega
          simp [hm, hm', wp_fn, dSeq, dRet, dRetN, dSet, dPar, dAsg, dIfS, dIf, dBin, dTest, dChain, dAnd, dOr, dNot, dAndV, dOrV, dNotV, dNext, dStop, dDrop, dNil, dCons, dTup, dLst, dOwn, dCall, dUn, dPart, dNo, dSl, dMeth, dMeth0, dAug, dIce, dYes, wp_star, wp_dFn, w1, w2, wp_bind, wp_pure, wp_no, wp_var, wp_dC, f_gcd2 (show 0 ≤ p.1 by omega) (show 0 ≤ q.1 by omega), f_multiple2 (Int.le_of_lt hz) hg (show G p.1 q.1 < 2 ^ 64 by omega), roomStep]
      · rintro Γ O' ⟨rfl, a, b, rfl⟩
        simp only [wp_fn, dSeq, dRet, dRetN, dSet, dPar, dAsg, dIfS, dIf, dBin, dTest, dChain, dAnd, dOr, dNot, dAndV, dOrV, dNotV, dNext, dStop, dDrop, dNil, dCons, dTup, dLst, dOwn, dCall, dUn, dPart, dNo, dSl, dMeth, dMeth0, dAug, dIce, dYes, wp_star, wp_dFn, w1, w2, wp_bind, wp_pure, wp_no, wp_var, wp_dC]
        simp [wp_fn, dSeq, dRet, dRetN, dSet, dPar, dAsg, dIfS, dIf, dBin, dTest, dChain, dAnd, dOr, dNot, dAndV, dOrV, dNotV, dNext, dStop, dDrop, dNil, dCons, dTup, dLst, dOwn, dCall, dUn, dPart, dNo, dSl, dMeth, dMeth0, dAug, dIce, dYes, wp_star, wp_dFn, w1, w2, wp_bind, wp_pure, wp_no, wp_var, wp_dC]
        rw [wp_isL (wL_own (at_end _ _))]
        rw [wp_app rfl (at_end _ _) (by
          have hl2 : zs.length ≤ ss.length := by
            have := congrArg List.length e
            simp at this; omega
          have := line_big
          simp; omega)]
        simp [roomAt]
    · rintro Γ O' ⟨rfl, a, b, c, d, e, rfl⟩
      simp only [wp_fn, dSeq, dRet, dRetN, dSet, dPar, dAsg, dIfS, dIf, dBin, dTest, dChain, dAnd, dOr, dNot, dAndV, dOrV, dNotV, dNext, dStop, dDrop, dNil, dCons, dTup, dLst, dOwn, dCall, dUn, dPart, dNo, dSl, dMeth, dMeth0, dAug, dIce, dYes, wp_star, wp_dFn, w1, w2, wp_bind, wp_pure, wp_no, wp_var, wp_dC]
      simp [wp_fn, dSeq, dRet, dRetN, dSet, dPar, dAsg, dIfS, dIf, dBin, dTest, dChain, dAnd, dOr, dNot, dAndV, dOrV, dNotV, dNext, dStop, dDrop, dNil, dCons, dTup, dLst, dOwn, dCall, dUn, dPart, dNo, dSl, dMeth, dMeth0, dAug, dIce, dYes, wp_star, wp_dFn, w1, w2, wp_bind, wp_pure, wp_no, wp_var, wp_dC]
      rw [wp_ice (at_end _ _)]
      simp [rooms]
  rw [wp_eq e]
def ways (ss : List (Int × Int)) : Int := ((rooms ss).drop 1).foldl (fun a b => a * b) 1
theorem f_ways {ss : List (Int × Int)} (h : ∀ p ∈ ss, Siz p) (hl : ss.length ≤ 100) (hr : ∀ r ∈ rooms ss, 0 < r ∧ r < 2 ^ 64) : wp (F_z_ways A [.d (L2' ss)]) O Φ = Φ (.d (.int (ways ss))) O := by
  have e : F_z_ways A [.d (L2' ss)] O = .ok (.d (.int (ways ss))) O := by
    refine eq_of_wp ?_
    unfold F_z_ways d_z_ways
    simp only [wp_fn, dSeq, dRet, dRetN, dSet, dPar, dAsg, dIfS, dIf, dBin, dTest, dChain, dAnd, dOr, dNot, dAndV, dOrV, dNotV, dNext, dStop, dDrop, dNil, dCons, dTup, dLst, dOwn, dCall, dUn, dPart, dNo, dSl, dMeth, dMeth0, dAug, dIce, dYes, wp_star, wp_dFn, w1, w2, wp_bind, wp_pure, wp_no, wp_var, wp_dC]
    rw [wp_for, wp_it]
    simp [wp_fn, dSeq, dRet, dRetN, dSet, dPar, dAsg, dIfS, dIf, dBin, dTest, dChain, dAnd, dOr, dNot, dAndV, dOrV, dNotV, dNext, dStop, dDrop, dNil, dCons, dTup, dLst, dOwn, dCall, dUn, dPart, dNo, dSl, dMeth, dMeth0, dAug, dIce, dYes, wp_star, wp_dFn, w1, w2, wp_bind, wp_pure, wp_no, wp_var, wp_dC, f_rooms2 h hl]
    rw [wp_slL rfl, cut_tail]
    simp [wp_fn, dSeq, dRet, dRetN, dSet, dPar, dAsg, dIfS, dIf, dBin, dTest, dChain, dAnd, dOr, dNot, dAndV, dOrV, dNotV, dNext, dStop, dDrop, dNil, dCons, dTup, dLst, dOwn, dCall, dUn, dPart, dNo, dSl, dMeth, dMeth0, dAug, dIce, dYes, wp_star, wp_dFn, w1, w2, wp_bind, wp_pure, wp_no, wp_var, wp_dC]
    refine wp_loopX ((rooms ss).drop 1) (fun r => .d (.int r)) (fun zs Γ O' => O' = O ∧ ∃ x, Γ = [some (.d (L2' ss)), some (.d (.int (zs.foldl (fun a b => a * b) 1))), x]) (by simp; rfl) (fun _ _ _ _ => wk_ok) ⟨rfl, _, rfl⟩ ?_ ?_
    · rintro zs p ys Γ O' e ⟨rfl, x, rfl⟩
      have hp := hr p (List.mem_of_mem_drop (mem_of_split e))
      refine ⟨_, by simp; rfl, ?_⟩
      unfold B0_z_ways
      simp [wp_fn, dSeq, dRet, dRetN, dSet, dPar, dAsg, dIfS, dIf, dBin, dTest, dChain, dAnd, dOr, dNot, dAndV, dOrV, dNotV, dNext, dStop, dDrop, dNil, dCons, dTup, dLst, dOwn, dCall, dUn, dPart, dNo, dSl, dMeth, dMeth0, dAug, dIce, dYes, wp_star, wp_dFn, w1, w2, wp_bind, wp_pure, wp_no, wp_var, wp_dC]
      rw [wp_mul (.inr (.inl ⟨by omega, hp.2⟩))]
      simp
    · rintro Γ O' ⟨rfl, x, rfl⟩
      simp [wp_fn, dSeq, dRet, dRetN, dSet, dPar, dAsg, dIfS, dIf, dBin, dTest, dChain, dAnd, dOr, dNot, dAndV, dOrV, dNotV, dNext, dStop, dDrop, dNil, dCons, dTup, dLst, dOwn, dCall, dUn, dPart, dNo, dSl, dMeth, dMeth0, dAug, dIce, dYes, wp_star, wp_dFn, w1, w2, wp_bind, wp_pure, wp_no, wp_var, wp_dC, ways]
  rw [wp_eq e]
end L74


set_option maxRecDepth 100000
set_option maxHeartbeats 2000000
/-! k74: rests that clash. -/
namespace L74
open PySem L2 VL
variable {A : Str → Addr} {O : Sto} {Φ : W → Sto → Prop}
abbrev TI (rs : List Int) : D := .tup (rs.map D.int)
abbrev lng (r : Int) (s : Int × Int) : Int × Int × Int := (r, s.1, s.2)
/-- the i-th keeps apart from the j-th -/
def apt (ss : List (Int × Int)) (rs : List Int) (i j : Nat) : Bool := match rs[i]?, ss[i]?, rs[j]?, ss[j]? with
  | some a, some s, some b, some t => Ap (lng a s) (lng b t)
  | _, _, _, _ => true
def fineAt (ss : List (Int × Int)) (rs : List Int) (j : Nat) : Bool := (List.range j).all fun i => apt ss rs i j
theorem fineAt_iff {ss : List (Int × Int)} {rs : List Int} {j : Nat} : fineAt ss rs j = true ↔ ∀ i, i < j → apt ss rs i j = true := by
  unfold fineAt
  simp [List.all_eq_true]
theorem clash_loop {ss : List (Int × Int)} {rs : List Int} {n : Nat} {rl : Int} {sl : Int × Int} {Ψ : Fl × Gam → Sto → Prop} (h : ∀ p ∈ ss, Siz p) (hn : rs.length = n + 1) (h2 : rs.length ≤ ss.length) (h3 : n ≤ 100) (hrl : rs[n]? = some rl) (hsl : ss[n]? = some sl)
    (q1 : fineAt ss rs n = true → ∀ x, Ψ (.nx, [some (.d (L2' ss)), some (.d (TI rs)), some (.d (.int (n : Nat))), some (.d (.tup [.int rl, .int sl.1, .int sl.2])), x]) O)
    (q2 : fineAt ss rs n = false → ∀ (i : Nat) Γ, Ψ (.rt (.d (.tup [.int i, .int n])), Γ) O) :
    wp (dFor (dRange1 (dCons (dVar 2) dNil)) (.nm 4) (B0_clash_in A) [some (.d (L2' ss)), some (.d (TI rs)), some (.d (.int (n : Nat))), some (.d (.tup [.int rl, .int sl.1, .int sl.2])), none]) O Ψ := by
  rw [wp_for]
  refine wp_rng1 (j := (n : Nat)) ?_
  simp only [wp_fn, dSeq, dRet, dRetN, dSet, dPar, dAsg, dIfS, dIf, dBin, dTest, dChain, dAnd, dOr, dNot, dAndV, dOrV, dNotV, dNext, dStop, dDrop, dNil, dCons, dTup, dLst, dOwn, dCall, dUn, dPart, dNo, dSl, dMeth, dMeth0, dAug, dIce, dYes, wp_star, wp_dFn, w1, w2, wp_bind, wp_pure, wp_no, wp_var, wp_dC]
  refine ⟨rfl, ⟨by omega, by omega⟩, ?_⟩
  refine wp_loopX (List.range n) _ (fun zs Γ O' => O' = O ∧ (∃ x, Γ = [some (.d (L2' ss)), some (.d (TI rs)), some (.d (.int (n : Nat))), some (.d (.tup [.int rl, .int sl.1, .int sl.2])), x]) ∧ ∀ i ∈ zs, apt ss rs i n = true) (rng01 n) (fun _ _ _ _ => wk_ok) ⟨rfl, ⟨_, rfl⟩, by simp⟩ ?_ ?_
  · rintro zs i ys Γ O' e ⟨rfl, ⟨x, rfl⟩, hz⟩
    have hi : i < n := by have := mem_of_split e; simpa using this
    obtain ⟨ri, hri⟩ : ∃ ri, rs[i]? = some ri := ⟨rs[i], List.getElem?_eq_getElem (by omega)⟩
    obtain ⟨si, hsi⟩ : ∃ si, ss[i]? = some si := ⟨ss[i], List.getElem?_eq_getElem (by omega)⟩
    have ha : apt ss rs i n = Ap (lng ri si) (lng rl sl) := by unfold apt; rw [hri, hsi, hrl, hsl]
    have q3 := (h si (List.mem_of_getElem? hsi)).1.1
    have q4 := (h sl (List.mem_of_getElem? hsl)).1.1
    have e4 : ∀ Φ, wp (F_keeps_apart A [.d (.tup [.int ri, .int si.1, .int si.2]), .d (.tup [.int rl, .int sl.1, .int sl.2])]) O' Φ = Φ (.d (.bl (apt ss rs i n))) O' := fun Φ => by rw [ha]; exact f_keeps_apart (A := A) (p := lng ri si) (q := lng rl sl) q3 q4
    have e5 : ∀ Φ, wp (wIx (.d (.tup (rs.map D.int))) (.d (.int (i : Nat)))) O' Φ = Φ (.d (.int ri)) O' := fun Φ => wp_ixT (by rw [List.getElem?_map, hri]; rfl) Φ
    have e6 : ∀ Φ, wp (wIx (.d (.lst (ss.map d2))) (.d (.int (i : Nat)))) O' Φ = Φ (.d (.tup [.int si.1, .int si.2])) O' := fun Φ => wp_ixL (by rw [List.getElem?_map, hsi]; rfl) Φ
    refine ⟨[some (.d (L2' ss)), some (.d (TI rs)), some (.d (.int (n : Nat))), some (.d (.tup [.int rl, .int sl.1, .int sl.2])), some (.d (.int (i : Nat)))], rfl, ?_⟩
    unfold B0_clash_in
    simp [wp_fn, dSeq, dRet, dRetN, dSet, dPar, dAsg, dIfS, dIf, dBin, dTest, dChain, dAnd, dOr, dNot, dAndV, dOrV, dNotV, dNext, dStop, dDrop, dNil, dCons, dTup, dLst, dOwn, dCall, dUn, dPart, dNo, dSl, dMeth, dMeth0, dAug, dIce, dYes, wp_star, wp_dFn, w1, w2, wp_bind, wp_pure, wp_no, wp_var, wp_dC, e4, e5, e6]
    cases hb : apt ss rs i n with
    | true =>
      simp [wp_fn, dSeq, dRet, dRetN, dSet, dPar, dAsg, dIfS, dIf, dBin, dTest, dChain, dAnd, dOr, dNot, dAndV, dOrV, dNotV, dNext, dStop, dDrop, dNil, dCons, dTup, dLst, dOwn, dCall, dUn, dPart, dNo, dSl, dMeth, dMeth0, dAug, dIce, dYes, wp_star, wp_dFn, w1, w2, wp_bind, wp_pure, wp_no, wp_var, wp_dC]
      intro j hj
      rcases hj with hj | rfl
      · exact hz j hj
      · exact hb
    | false =>
      simp [wp_fn, dSeq, dRet, dRetN, dSet, dPar, dAsg, dIfS, dIf, dBin, dTest, dChain, dAnd, dOr, dNot, dAndV, dOrV, dNotV, dNext, dStop, dDrop, dNil, dCons, dTup, dLst, dOwn, dCall, dUn, dPart, dNo, dSl, dMeth, dMeth0, dAug, dIce, dYes, wp_star, wp_dFn, w1, w2, wp_bind, wp_pure, wp_no, wp_var, wp_dC]
      refine q2 ?_ i _
      cases hq : fineAt ss rs n with
      | false => rfl
      | true => rw [fineAt_iff.mp hq i hi] at hb; cases hb
  · rintro Γ O' ⟨rfl, ⟨x, rfl⟩, hz⟩
    exact q1 (fineAt_iff.mpr fun i hi => hz i (by simpa using hi)) x
/-- what clash_in tells -/
def Tells (ss : List (Int × Int)) (rs : List Int) (r : D) : Prop := (fineAt ss rs (rs.length - 1) = true → r = .non) ∧ (fineAt ss rs (rs.length - 1) = false → ∃ i j : Int, r = .tup [.int i, .int j])
theorem f_clash_in {ss : List (Int × Int)} {rs : List Int} (h : ∀ p ∈ ss, Siz p) (h1 : rs ≠ []) (h2 : rs.length ≤ ss.length) (h3 : ss.length ≤ 100) :
    ∃ r : D, F_clash_in A [.d (L2' ss), .d (TI rs)] O = .ok (.d r) O ∧ Tells ss rs r := by
  obtain ⟨n, hn⟩ : ∃ n, rs.length = n + 1 := ⟨rs.length - 1, by have := List.length_pos_iff.mpr h1; omega⟩
  obtain ⟨rl, hrl⟩ : ∃ rl, rs[n]? = some rl := ⟨rs[n], List.getElem?_eq_getElem (by omega)⟩
  obtain ⟨sl, hsl⟩ : ∃ sl, ss[n]? = some sl := ⟨ss[n], List.getElem?_eq_getElem (by omega)⟩
  have hnl : rs.length - 1 = n := by omega
  unfold Tells
  rw [hnl]
  have z : wp (F_clash_in A [.d (L2' ss), .d (TI rs)]) O fun w O' => O' = O ∧ ∃ r : D, w = .d r ∧ (fineAt ss rs n = true → r = .non) ∧ (fineAt ss rs n = false → ∃ i j : Int, r = .tup [.int i, .int j]) := by
    unfold F_clash_in d_clash_in
    simp only [wp_fn, dSeq, dRet, dRetN, dSet, dPar, dAsg, dIfS, dIf, dBin, dTest, dChain, dAnd, dOr, dNot, dAndV, dOrV, dNotV, dNext, dStop, dDrop, dNil, dCons, dTup, dLst, dOwn, dCall, dUn, dPart, dNo, dSl, dMeth, dMeth0, dAug, dIce, dYes, wp_star, wp_dFn, w1, w2, wp_bind, wp_pure, wp_no, wp_var, wp_dC]
    have el : (rs.length : Int) - 1 = (n : Nat) := by omega
    have e5 : ∀ Φ, wp (wIx (.d (.tup (rs.map D.int))) (.d (.int (n : Nat)))) O Φ = Φ (.d (.int rl)) O := fun Φ => wp_ixT (by rw [List.getElem?_map, hrl]; rfl) Φ
    have e6 : ∀ Φ, wp (wIx (.d (.lst (ss.map d2))) (.d (.int (n : Nat)))) O Φ = Φ (.d (.tup [.int sl.1, .int sl.2])) O := fun Φ => wp_ixL (by rw [List.getElem?_map, hsl]; rfl) Φ
    simp [wp_fn, dSeq, dRet, dRetN, dSet, dPar, dAsg, dIfS, dIf, dBin, dTest, dChain, dAnd, dOr, dNot, dAndV, dOrV, dNotV, dNext, dStop, dDrop, dNil, dCons, dTup, dLst, dOwn, dCall, dUn, dPart, dNo, dSl, dMeth, dMeth0, dAug, dIce, dYes, wp_star, wp_dFn, w1, w2, wp_bind, wp_pure, wp_no, wp_var, wp_dC, el, e5, e6]
    refine clash_loop h hn h2 (by omega) hrl hsl (fun hf x => ?_) (fun hf i Γ => ?_)
    · simp [wp_fn, dSeq, dRet, dRetN, dSet, dPar, dAsg, dIfS, dIf, dBin, dTest, dChain, dAnd, dOr, dNot, dAndV, dOrV, dNotV, dNext, dStop, dDrop, dNil, dCons, dTup, dLst, dOwn, dCall, dUn, dPart, dNo, dSl, dMeth, dMeth0, dAug, dIce, dYes, wp_star, wp_dFn, w1, w2, wp_bind, wp_pure, wp_no, wp_var, wp_dC, hf]
    · simp [wp_fn, dSeq, dRet, dRetN, dSet, dPar, dAsg, dIfS, dIf, dBin, dTest, dChain, dAnd, dOr, dNot, dAndV, dOrV, dNotV, dNext, dStop, dDrop, dNil, dCons, dTup, dLst, dOwn, dCall, dUn, dPart, dNo, dSl, dMeth, dMeth0, dAug, dIce, dYes, wp_star, wp_dFn, w1, w2, wp_bind, wp_pure, wp_no, wp_var, wp_dC, hf]
  obtain ⟨w, O', e, rfl, r, rfl, h4, h5⟩ := wp_out z
  exact ⟨r, e, h4, h5⟩
end L74


set_option maxRecDepth 100000
set_option maxHeartbeats 2000000
/-! k74: the law's own rests. -/
namespace L74
open PySem L2 VL
variable {A : Str → Addr} {O : Sto} {Φ : W → Sto → Prop}
@[simp] theorem wp_add12 (a b c : D) (O : Sto) (Φ : W → Sto → Prop) : wp (wAdd (.d (.tup [a])) (.d (.tup [b, c]))) O Φ = Φ (.d (.tup [a, b, c])) O := wp_addT (by simp) (by show 3 ≤ sizeLine; decide) Φ
def allAp (ss : List (Int × Int)) (rs : List Int) : Bool := (List.range rs.length).all fun j => fineAt ss rs j
theorem first_in {ss : List (Int × Int)} {rs : List Int} {j : Nat} {x : Option W} {Ψ : Fl × Gam → Sto → Prop} (h : ∀ p ∈ ss, Siz p) (hj : j < rs.length) (h2 : rs.length ≤ ss.length) (h3 : ss.length ≤ 100)
    (q1 : fineAt ss rs j = true → ∀ x, Ψ (.nx, [some (.d (L2' ss)), some (.d (TI rs)), some (.d (.int (j : Nat))), x]) O)
    (q2 : fineAt ss rs j = false → ∀ (i : Nat) Γ, Ψ (.rt (.d (.tup [.int i, .int j])), Γ) O) :
    wp (B1_z_first_clash A [some (.d (L2' ss)), some (.d (TI rs)), some (.d (.int (j : Nat))), x]) O Ψ := by
  obtain ⟨rl, hrl⟩ : ∃ rl, rs[j]? = some rl := ⟨rs[j], List.getElem?_eq_getElem (by omega)⟩
  obtain ⟨sl, hsl⟩ : ∃ sl, ss[j]? = some sl := ⟨ss[j], List.getElem?_eq_getElem (by omega)⟩
  unfold B1_z_first_clash
  rw [wp_for]
  refine wp_rng1 (j := (j : Nat)) ?_
  simp only [wp_fn, dSeq, dRet, dRetN, dSet, dPar, dAsg, dIfS, dIf, dBin, dTest, dChain, dAnd, dOr, dNot, dAndV, dOrV, dNotV, dNext, dStop, dDrop, dNil, dCons, dTup, dLst, dOwn, dCall, dUn, dPart, dNo, dSl, dMeth, dMeth0, dAug, dIce, dYes, wp_star, wp_dFn, w1, w2, wp_bind, wp_pure, wp_no, wp_var, wp_dC]
  refine ⟨rfl, ⟨by omega, by omega⟩, ?_⟩
  refine wp_loopX (List.range j) _ (fun zs Γ O' => O' = O ∧ (∃ x, Γ = [some (.d (L2' ss)), some (.d (TI rs)), some (.d (.int (j : Nat))), x]) ∧ ∀ i ∈ zs, apt ss rs i j = true) (rng01 j) (fun _ _ _ _ => wk_ok) ⟨rfl, ⟨_, rfl⟩, by simp⟩ ?_ ?_
  · rintro zs i ys Γ O' e ⟨rfl, ⟨x, rfl⟩, hz⟩
    have hi : i < j := by have := mem_of_split e; simpa using this
    obtain ⟨ri, hri⟩ : ∃ ri, rs[i]? = some ri := ⟨rs[i], List.getElem?_eq_getElem (by omega)⟩
    obtain ⟨si, hsi⟩ : ∃ si, ss[i]? = some si := ⟨ss[i], List.getElem?_eq_getElem (by omega)⟩
    have ha : apt ss rs i j = Ap (lng ri si) (lng rl sl) := by unfold apt; rw [hri, hsi, hrl, hsl]
    have q3 := (h si (List.mem_of_getElem? hsi)).1.1
    have q4 := (h sl (List.mem_of_getElem? hsl)).1.1
    have e4 : ∀ Φ, wp (F_z_apart A [.d (.tup [.int ri, .int si.1, .int si.2]), .d (.tup [.int rl, .int sl.1, .int sl.2])]) O' Φ = Φ (.d (.bl (apt ss rs i j))) O' := fun Φ => by rw [ha]; exact f_apart (A := A) (p := lng ri si) (q := lng rl sl) q3 q4
    have e5 : ∀ Φ, wp (wIx (.d (.tup (rs.map D.int))) (.d (.int (i : Nat)))) O' Φ = Φ (.d (.int ri)) O' := fun Φ => wp_ixT (by rw [List.getElem?_map, hri]; rfl) Φ
    have e6 : ∀ Φ, wp (wIx (.d (.lst (ss.map d2))) (.d (.int (i : Nat)))) O' Φ = Φ (.d (.tup [.int si.1, .int si.2])) O' := fun Φ => wp_ixL (by rw [List.getElem?_map, hsi]; rfl) Φ
    have e7 : ∀ Φ, wp (wIx (.d (.tup (rs.map D.int))) (.d (.int (j : Nat)))) O' Φ = Φ (.d (.int rl)) O' := fun Φ => wp_ixT (by rw [List.getElem?_map, hrl]; rfl) Φ
    have e8 : ∀ Φ, wp (wIx (.d (.lst (ss.map d2))) (.d (.int (j : Nat)))) O' Φ = Φ (.d (.tup [.int sl.1, .int sl.2])) O' := fun Φ => wp_ixL (by rw [List.getElem?_map, hsl]; rfl) Φ
    refine ⟨[some (.d (L2' ss)), some (.d (TI rs)), some (.d (.int (j : Nat))), some (.d (.int (i : Nat)))], rfl, ?_⟩
    unfold B0_z_first_clash
    simp [wp_fn, dSeq, dRet, dRetN, dSet, dPar, dAsg, dIfS, dIf, dBin, dTest, dChain, dAnd, dOr, dNot, dAndV, dOrV, dNotV, dNext, dStop, dDrop, dNil, dCons, dTup, dLst, dOwn, dCall, dUn, dPart, dNo, dSl, dMeth, dMeth0, dAug, dIce, dYes, wp_star, wp_dFn, w1, w2, wp_bind, wp_pure, wp_no, wp_var, wp_dC, e4, e5, e6, e7, e8]
    cases hb : apt ss rs i j with
    | true =>
      simp [wp_fn, dSeq, dRet, dRetN, dSet, dPar, dAsg, dIfS, dIf, dBin, dTest, dChain, dAnd, dOr, dNot, dAndV, dOrV, dNotV, dNext, dStop, dDrop, dNil, dCons, dTup, dLst, dOwn, dCall, dUn, dPart, dNo, dSl, dMeth, dMeth0, dAug, dIce, dYes, wp_star, wp_dFn, w1, w2, wp_bind, wp_pure, wp_no, wp_var, wp_dC]
      intro k hk
      rcases hk with hk | rfl
      · exact hz k hk
      · exact hb
    | false =>
      simp [wp_fn, dSeq, dRet, dRetN, dSet, dPar, dAsg, dIfS, dIf, dBin, dTest, dChain, dAnd, dOr, dNot, dAndV, dOrV, dNotV, dNext, dStop, dDrop, dNil, dCons, dTup, dLst, dOwn, dCall, dUn, dPart, dNo, dSl, dMeth, dMeth0, dAug, dIce, dYes, wp_star, wp_dFn, w1, w2, wp_bind, wp_pure, wp_no, wp_var, wp_dC]
      refine q2 ?_ i _
      cases hq : fineAt ss rs j with
      | false => rfl
      | true => rw [fineAt_iff.mp hq i hi] at hb; cases hb
  · rintro Γ O' ⟨rfl, ⟨x, rfl⟩, hz⟩
    exact q1 (fineAt_iff.mpr fun i hi => hz i (by simpa using hi)) x
theorem f_first {ss : List (Int × Int)} {rs : List Int} (h : ∀ p ∈ ss, Siz p) (h2 : rs.length ≤ ss.length) (h3 : ss.length ≤ 100) :
    ∃ r : D, F_z_first_clash A [.d (L2' ss), .d (TI rs)] O = .ok (.d r) O ∧ (allAp ss rs = true → r = .non) ∧ (allAp ss rs = false → ∃ i j : Int, r = .tup [.int i, .int j]) := by
  have z : wp (F_z_first_clash A [.d (L2' ss), .d (TI rs)]) O fun w O' => O' = O ∧ ∃ r : D, w = .d r ∧ (allAp ss rs = true → r = .non) ∧ (allAp ss rs = false → ∃ i j : Int, r = .tup [.int i, .int j]) := by
    unfold F_z_first_clash d_z_first_clash
    simp only [wp_fn, dSeq, dRet, dRetN, dSet, dPar, dAsg, dIfS, dIf, dBin, dTest, dChain, dAnd, dOr, dNot, dAndV, dOrV, dNotV, dNext, dStop, dDrop, dNil, dCons, dTup, dLst, dOwn, dCall, dUn, dPart, dNo, dSl, dMeth, dMeth0, dAug, dIce, dYes, wp_star, wp_dFn, w1, w2, wp_bind, wp_pure, wp_no, wp_var, wp_dC]
    rw [wp_for]
    refine wp_rng1 (j := (rs.length : Nat)) ?_
    simp [wp_fn, dSeq, dRet, dRetN, dSet, dPar, dAsg, dIfS, dIf, dBin, dTest, dChain, dAnd, dOr, dNot, dAndV, dOrV, dNotV, dNext, dStop, dDrop, dNil, dCons, dTup, dLst, dOwn, dCall, dUn, dPart, dNo, dSl, dMeth, dMeth0, dAug, dIce, dYes, wp_star, wp_dFn, w1, w2, wp_bind, wp_pure, wp_no, wp_var, wp_dC]
    refine ⟨⟨by omega, by omega⟩, ?_⟩
    refine wp_loopX (List.range rs.length) _ (fun zs Γ O' => O' = O ∧ (∃ x y, Γ = [some (.d (L2' ss)), some (.d (TI rs)), x, y]) ∧ ∀ j ∈ zs, fineAt ss rs j = true) (rng01 rs.length) (fun _ _ _ _ => wk_ok) ⟨rfl, ⟨_, _, rfl⟩, by simp⟩ ?_ ?_
    · rintro zs j ys Γ O' e ⟨rfl, ⟨x, y, rfl⟩, hz⟩
      have hj : j < rs.length := by have := mem_of_split e; simpa using this
      refine ⟨[some (.d (L2' ss)), some (.d (TI rs)), some (.d (.int (j : Nat))), y], rfl, ?_⟩
      refine first_in h hj h2 h3 (fun hf x => ?_) (fun hf i Γ => ?_)
      · refine ⟨rfl, ⟨_, _, rfl⟩, fun k hk => ?_⟩
        rcases List.mem_append.mp hk with hk | hk
        · exact hz k hk
        · rw [List.mem_singleton.mp hk]; exact hf
      · have ha : allAp ss rs = false := by
          cases hq : allAp ss rs with
          | false => rfl
          | true =>
            unfold allAp at hq
            rw [List.all_eq_true.mp hq j (by simpa using hj)] at hf; cases hf
        simp [wp_fn, dSeq, dRet, dRetN, dSet, dPar, dAsg, dIfS, dIf, dBin, dTest, dChain, dAnd, dOr, dNot, dAndV, dOrV, dNotV, dNext, dStop, dDrop, dNil, dCons, dTup, dLst, dOwn, dCall, dUn, dPart, dNo, dSl, dMeth, dMeth0, dAug, dIce, dYes, wp_star, wp_dFn, w1, w2, wp_bind, wp_pure, wp_no, wp_var, wp_dC, ha]
    · rintro Γ O' ⟨rfl, ⟨x, y, rfl⟩, hz⟩
      have ha : allAp ss rs = true := List.all_eq_true.mpr fun j hj => hz j hj
      simp [wp_fn, dSeq, dRet, dRetN, dSet, dPar, dAsg, dIfS, dIf, dBin, dTest, dChain, dAnd, dOr, dNot, dAndV, dOrV, dNotV, dNext, dStop, dDrop, dNil, dCons, dTup, dLst, dOwn, dCall, dUn, dPart, dNo, dSl, dMeth, dMeth0, dAug, dIce, dYes, wp_star, wp_dFn, w1, w2, wp_bind, wp_pure, wp_no, wp_var, wp_dC, ha]
  obtain ⟨w, O', e, rfl, r, rfl, h4, h5⟩ := wp_out z
  exact ⟨r, e, h4, h5⟩
/-! ### rows of rests: one more -/
def more (c : Int) (rs : List Int) : List (List Int) := (List.range c.toNat).map fun (r : Nat) => rs ++ [((r : Nat) : Int)]
theorem more_D (c : Int) (rs : List Int) : ((List.range c.toNat).map fun (r : Nat) => TI (rs ++ [((r : Nat) : Int)])) = (more c rs).map TI := by
  unfold more; rw [List.map_map]; rfl
theorem more_len (c : Int) (rs : List Int) : (more c rs).length = c.toNat := by unfold more; simp
theorem flat_len (c : Int) (rows : List (List Int)) : (rows.flatMap (more c)).length = rows.length * c.toNat := by
  induction rows with
  | nil => simp
  | cons r rows ih => rw [List.flatMap_cons, List.length_append, more_len, ih, List.length_cons, Nat.add_mul]; omega
/-- found_rests, count by count -/
def fr (ss : List (Int × Int)) : List Int → List (List Int)
  | [] => [[0]]
  | c :: cs => ((fr ss cs).flatMap (more c)).filter fun rs => allAp ss rs
def frs (ss : List (Int × Int)) (cs : List Int) : List (List Int) := fr ss cs.reverse
theorem fr_snoc (ss : List (Int × Int)) (cs : List Int) (c : Int) : frs ss (cs ++ [c]) = ((frs ss cs).flatMap (more c)).filter fun rs => allAp ss rs := by
  unfold frs
  rw [List.reverse_append]
  rfl
theorem fr_len (ss : List (Int × Int)) : ∀ (cs : List Int) (rs : List Int), rs ∈ fr ss cs → rs.length = cs.length + 1
  | [], rs, h => by
    have : rs = [0] := by simpa [fr] using h
    rw [this]; rfl
  | c :: cs, rs, h => by
    unfold fr at h
    have h1 := (List.mem_filter.mp h).1
    obtain ⟨a, ha, h2⟩ := List.mem_flatMap.mp h1
    unfold more at h2
    obtain ⟨r, _, rfl⟩ := List.mem_map.mp h2
    rw [List.length_append, fr_len ss cs a ha]; simp
def pn (cs : List Int) : Nat := (cs.map Int.toNat).foldl (fun a b => a * b) 1
theorem pn_snoc (cs : List Int) (c : Int) : pn (cs ++ [c]) = pn cs * c.toNat := by unfold pn; simp
theorem frs_len (ss : List (Int × Int)) (cs : List Int) : (frs ss cs).length ≤ pn cs := by
  have h : ∀ cs, (fr ss cs).length ≤ pn cs.reverse := by
    intro cs
    induction cs with
    | nil => simp [fr, pn]
    | cons c cs ih =>
      rw [List.reverse_cons, pn_snoc]
      refine Nat.le_trans (List.length_filter_le _ _) ?_
      rw [flat_len]
      exact Nat.mul_le_mul_right _ ih
  have := h cs.reverse
  rwa [List.reverse_reverse] at this
theorem frs_one (ss : List (Int × Int)) (cs : List Int) (rs : List Int) (h : rs ∈ frs ss cs) : rs.length = cs.length + 1 := by
  have := fr_len ss cs.reverse rs h
  simpa using this
/-- few enough at each point -/
def Few (cs : List Int) : Prop := ∀ zs ys, cs = zs ++ ys → pn zs ≤ 20000
theorem good_tup {n : Nat} (rs : List Int) : D.good (n + 1) (TI rs) = true := by
  show (rs.map D.int).all (D.good n) = true
  rw [List.all_map, List.all_eq_true]
  exact fun x _ => good_int n x
theorem good_rows (rows : List (List Int)) : (rows.map TI).all (D.good 59) = true := by
  rw [List.all_map, List.all_eq_true]
  exact fun x _ => good_tup x
theorem f_found {ss : List (Int × Int)} (h : ∀ p ∈ ss, Siz p) (h3 : ss.length ≤ 100) (hr : ∀ c ∈ (rooms ss).drop 1, 0 ≤ c ∧ c ≤ 20000) (hf : Few ((rooms ss).drop 1)) :
    ∃ r : D, F_z_found_rests A [.d (L2' ss)] O = .ok (.d r) O ∧ (frs ss ((rooms ss).drop 1) = [] → r = .non) ∧ (frs ss ((rooms ss).drop 1) ≠ [] → ∃ rs, r = TI rs) := by
  have hlen : (rooms ss).length = ss.length := by unfold rooms; simp
  obtain ⟨L, hL⟩ : ∃ L, frs ss ((rooms ss).drop 1) = L := ⟨_, rfl⟩
  rw [hL]
  have z : wp (F_z_found_rests A [.d (L2' ss)]) O fun w O' => O' = O ∧ ∃ r : D, w = .d r ∧ (L = [] → r = .non) ∧ (L ≠ [] → ∃ rs, r = TI rs) := by
    unfold F_z_found_rests d_z_found_rests
    simp only [wp_fn, dSeq, dRet, dRetN, dSet, dPar, dAsg, dIfS, dIf, dBin, dTest, dChain, dAnd, dOr, dNot, dAndV, dOrV, dNotV, dNext, dStop, dDrop, dNil, dCons, dTup, dLst, dOwn, dCall, dUn, dPart, dNo, dSl, dMeth, dMeth0, dAug, dIce, dYes, wp_star, wp_dFn, w1, w2, wp_bind, wp_pure, wp_no, wp_var, wp_dC]
    simp [wp_fn, dSeq, dRet, dRetN, dSet, dPar, dAsg, dIfS, dIf, dBin, dTest, dChain, dAnd, dOr, dNot, dAndV, dOrV, dNotV, dNext, dStop, dDrop, dNil, dCons, dTup, dLst, dOwn, dCall, dUn, dPart, dNo, dSl, dMeth, dMeth0, dAug, dIce, dYes, wp_star, wp_dFn, w1, w2, wp_bind, wp_pure, wp_no, wp_var, wp_dC, f_rooms2 h h3]
    rw [wp_for, wp_it]
    simp [wp_fn, dSeq, dRet, dRetN, dSet, dPar, dAsg, dIfS, dIf, dBin, dTest, dChain, dAnd, dOr, dNot, dAndV, dOrV, dNotV, dNext, dStop, dDrop, dNil, dCons, dTup, dLst, dOwn, dCall, dUn, dPart, dNo, dSl, dMeth, dMeth0, dAug, dIce, dYes, wp_star, wp_dFn, w1, w2, wp_bind, wp_pure, wp_no, wp_var, wp_dC]
    rw [wp_slL rfl, cut_tail]
    simp [wp_fn, dSeq, dRet, dRetN, dSet, dPar, dAsg, dIfS, dIf, dBin, dTest, dChain, dAnd, dOr, dNot, dAndV, dOrV, dNotV, dNext, dStop, dDrop, dNil, dCons, dTup, dLst, dOwn, dCall, dUn, dPart, dNo, dSl, dMeth, dMeth0, dAug, dIce, dYes, wp_star, wp_dFn, w1, w2, wp_bind, wp_pure, wp_no, wp_var, wp_dC]
    refine wp_loopX ((rooms ss).drop 1) (fun r => .d (.int r)) (fun zs Γ O' => Kp O O' ∧ ∃ a b c d, Γ = [some (.d (L2' ss)), some (.d (.lst ((rooms ss).map D.int))), some (.d (.lst ((frs ss zs).map TI))), a, b, c, d]) (by simp; rfl) (fun _ _ _ _ => wk_ok) ⟨.rfl, _, _, _, _, rfl⟩ ?_ ?_
    · rintro zs c ys Γ P e ⟨hK, a, b, x, d, rfl⟩
      obtain ⟨hc0, hc1⟩ := hr c (mem_of_split e)
      have hfew : pn zs * c.toNat ≤ 20000 := by
        rw [← pn_snoc]; exact hf (zs ++ [c]) ys (by rw [e]; simp)
      have hzl : zs.length + 1 < ss.length := by
        have := congrArg List.length e
        simp [hlen] at this; omega
      have line := line_big
      refine ⟨_, by simp; rfl, ?_⟩
      unfold B1_z_found_rests
      simp only [wp_fn, dSeq, dRet, dRetN, dSet, dPar, dAsg, dIfS, dIf, dBin, dTest, dChain, dAnd, dOr, dNot, dAndV, dOrV, dNotV, dNext, dStop, dDrop, dNil, dCons, dTup, dLst, dOwn, dCall, dUn, dPart, dNo, dSl, dMeth, dMeth0, dAug, dIce, dYes, wp_star, wp_dFn, w1, w2, wp_bind, wp_pure, wp_no, wp_var, wp_dC]
      simp [wp_fn, dSeq, dRet, dRetN, dSet, dPar, dAsg, dIfS, dIf, dBin, dTest, dChain, dAnd, dOr, dNot, dAndV, dOrV, dNotV, dNext, dStop, dDrop, dNil, dCons, dTup, dLst, dOwn, dCall, dUn, dPart, dNo, dSl, dMeth, dMeth0, dAug, dIce, dYes, wp_star, wp_dFn, w1, w2, wp_bind, wp_pure, wp_no, wp_var, wp_dC]
      rw [wp_for, wp_it]
      simp [wp_fn, dSeq, dRet, dRetN, dSet, dPar, dAsg, dIfS, dIf, dBin, dTest, dChain, dAnd, dOr, dNot, dAndV, dOrV, dNotV, dNext, dStop, dDrop, dNil, dCons, dTup, dLst, dOwn, dCall, dUn, dPart, dNo, dSl, dMeth, dMeth0, dAug, dIce, dYes, wp_star, wp_dFn, w1, w2, wp_bind, wp_pure, wp_no, wp_var, wp_dC]
      refine wp_loopX (frs ss zs) (fun rs => .d (TI rs)) (fun us Γ O' => O' = P ++ [.lst ((us.flatMap (more c)).map TI)] ∧ ∃ b d, Γ = [some (.d (L2' ss)), some (.d (.lst ((rooms ss).map D.int))), some (.d (.lst ((frs ss zs).map TI))), some (.d (.int c)), some (.own P.length), b, d]) (by simp) (fun _ _ _ _ => wk_ok) ⟨by simp, x, d, by simp⟩ ?_ ?_
      · rintro us rs vs Γ O' e' ⟨rfl, b, d, rfl⟩
        have hrs := frs_one ss zs rs (mem_of_split e')
        have hne : rs ≠ [] := by intro z; rw [z] at hrs; simp at hrs
        refine ⟨_, by simp; rfl, ?_⟩
        unfold B0_z_found_rests
        simp only [wp_fn, dSeq, dRet, dRetN, dSet, dPar, dAsg, dIfS, dIf, dBin, dTest, dChain, dAnd, dOr, dNot, dAndV, dOrV, dNotV, dNext, dStop, dDrop, dNil, dCons, dTup, dLst, dOwn, dCall, dUn, dPart, dNo, dSl, dMeth, dMeth0, dAug, dIce, dYes, wp_star, wp_dFn, w1, w2, wp_bind, wp_pure, wp_no, wp_var, wp_dC]
        simp only [List.getElem?_cons_succ, List.getElem?_cons_zero]
        rw [wp_isL (wL_own (at_end _ _)), wp_lcD]
        refine wp_rng1 (j := c) ?_
        simp [wp_fn, dSeq, dRet, dRetN, dSet, dPar, dAsg, dIfS, dIf, dBin, dTest, dChain, dAnd, dOr, dNot, dAndV, dOrV, dNotV, dNext, dStop, dDrop, dNil, dCons, dTup, dLst, dOwn, dCall, dUn, dPart, dNo, dSl, dMeth, dMeth0, dAug, dIce, dYes, wp_star, wp_dFn, w1, w2, wp_bind, wp_pure, wp_no, wp_var, wp_dC, wipeG]
        refine ⟨⟨by omega, by omega⟩, ?_⟩
        refine wp_lc (fun r : Nat => .d (.int (r : Nat))) (fun r => some (TI (rs ++ [((r : Nat) : Int)]))) (List.range c.toNat) (rng01 _) wk_ok (by simp; omega) (fun r _ => ⟨_, by simp; rfl, ?_⟩) ?_
        · simp [wp_fn, dSeq, dRet, dRetN, dSet, dPar, dAsg, dIfS, dIf, dBin, dTest, dChain, dAnd, dOr, dNot, dAndV, dOrV, dNotV, dNext, dStop, dDrop, dNil, dCons, dTup, dLst, dOwn, dCall, dUn, dPart, dNo, dSl, dMeth, dMeth0, dAug, dIce, dYes, wp_star, wp_dFn, w1, w2, wp_bind, wp_pure, wp_no, wp_var, wp_dC]
          rw [wp_addT (by simpa using hne) (by simp; omega)]
          simp
        · have hul : us.length + 1 ≤ (frs ss zs).length := by
            have := congrArg List.length e'
            simp at this; omega
          have hmul : (us.length + 1) * c.toNat ≤ 20000 := Nat.le_trans (Nat.mul_le_mul_right _ (Nat.le_trans hul (frs_len ss zs))) hfew
          have e1 : List.filterMap (fun r : Nat => some (TI (rs ++ [((r : Nat) : Int)]))) (List.range c.toNat) = (more c rs).map TI := by
            show List.filterMap (some ∘ fun r : Nat => TI (rs ++ [((r : Nat) : Int)])) (List.range c.toNat) = (more c rs).map TI
            rw [List.filterMap_eq_map]
            exact more_D c rs
          rw [e1]
          rw [wp_ext (by simp) (at_end _ _) rfl (by
            rw [List.length_map, List.length_map, flat_len, more_len]
            rw [Nat.add_mul] at hmul
            omega)]
          simp
      · rintro Γ O' ⟨rfl, b, d, rfl⟩
        simp only [wp_fn, dSeq, dRet, dRetN, dSet, dPar, dAsg, dIfS, dIf, dBin, dTest, dChain, dAnd, dOr, dNot, dAndV, dOrV, dNotV, dNext, dStop, dDrop, dNil, dCons, dTup, dLst, dOwn, dCall, dUn, dPart, dNo, dSl, dMeth, dMeth0, dAug, dIce, dYes, wp_star, wp_dFn, w1, w2, wp_bind, wp_pure, wp_no, wp_var, wp_dC]
        rw [wp_lcD, wp_it]
        simp only [wp_var, List.getElem?_cons_succ, List.getElem?_cons_zero]
        rw [wp_wkO (at_end _ _)]
        refine wp_lc (fun rs => .d (TI rs)) (fun rs => if allAp ss rs then some (TI rs) else none) ((frs ss zs).flatMap (more c)) (by simp) (at_end _ _) (by
          rw [flat_len]
          have := Nat.mul_le_mul_right c.toNat (frs_len ss zs)
          omega) (fun rs hrs => ⟨_, by simp; rfl, ?_⟩) ?_
        · obtain ⟨r0, hr0, hr1⟩ := List.mem_flatMap.mp hrs
          unfold more at hr1
          obtain ⟨r, _, rfl⟩ := List.mem_map.mp hr1
          have hl0 := frs_one ss zs r0 hr0
          obtain ⟨r2, e2, k1, k2⟩ := f_first (A := A) (O := P ++ [.lst (((frs ss zs).flatMap (more c)).map TI)]) (rs := r0 ++ [((r : Nat) : Int)]) h (by simp; omega) h3
          simp [wp_fn, dSeq, dRet, dRetN, dSet, dPar, dAsg, dIfS, dIf, dBin, dTest, dChain, dAnd, dOr, dNot, dAndV, dOrV, dNotV, dNext, dStop, dDrop, dNil, dCons, dTup, dLst, dOwn, dCall, dUn, dPart, dNo, dSl, dMeth, dMeth0, dAug, dIce, dYes, wp_star, wp_dFn, w1, w2, wp_bind, wp_pure, wp_no, wp_var, wp_dC, wipeG]
          rw [wp_eq e2]
          cases ha : allAp ss (r0 ++ [((r : Nat) : Int)]) with
          | true => rw [k1 ha]; simp
          | false =>
            obtain ⟨i, j, e3⟩ := k2 ha
            rw [e3]; simp
        · have e1 : List.filterMap (fun rs => if allAp ss rs = true then some (TI rs) else none) ((frs ss zs).flatMap (more c)) = (frs ss (zs ++ [c])).map TI := by
            rw [fr_snoc]
            induction (frs ss zs).flatMap (more c) with
            | nil => rfl
            | cons x l ih =>
              cases hx : allAp ss x with
              | true => simp [hx, ih]
              | false => simp [hx, ih]
          rw [e1]
          exact ⟨hK.add _, by simp⟩
    · rintro Γ P ⟨hK, a, b, x, d, rfl⟩
      rw [hL]
      simp only [wp_fn, dSeq, dRet, dRetN, dSet, dPar, dAsg, dIfS, dIf, dBin, dTest, dChain, dAnd, dOr, dNot, dAndV, dOrV, dNotV, dNext, dStop, dDrop, dNil, dCons, dTup, dLst, dOwn, dCall, dUn, dPart, dNo, dSl, dMeth, dMeth0, dAug, dIce, dYes, wp_star, wp_dFn, w1, w2, wp_bind, wp_pure, wp_no, wp_var, wp_dC]
      simp only [List.getElem?_cons_succ, List.getElem?_cons_zero]
      simp only [wp_lst0]
      rw [wp_ne_nil rfl (good_rows _)]
      cases L with
      | nil => simp [wp_fn, dSeq, dRet, dRetN, dSet, dPar, dAsg, dIfS, dIf, dBin, dTest, dChain, dAnd, dOr, dNot, dAndV, dOrV, dNotV, dNext, dStop, dDrop, dNil, dCons, dTup, dLst, dOwn, dCall, dUn, dPart, dNo, dSl, dMeth, dMeth0, dAug, dIce, dYes, wp_star, wp_dFn, w1, w2, wp_bind, wp_pure, wp_no, wp_var, wp_dC, hK.take]
      | cons r0 rows =>
        simp [wp_fn, dSeq, dRet, dRetN, dSet, dPar, dAsg, dIfS, dIf, dBin, dTest, dChain, dAnd, dOr, dNot, dAndV, dOrV, dNotV, dNext, dStop, dDrop, dNil, dCons, dTup, dLst, dOwn, dCall, dUn, dPart, dNo, dSl, dMeth, dMeth0, dAug, dIce, dYes, wp_star, wp_dFn, w1, w2, wp_bind, wp_pure, wp_no, wp_var, wp_dC, hK.take]
        exact ⟨r0, rfl⟩
  obtain ⟨w, O', e, rfl, r, rfl, h4, h5⟩ := wp_out z
  exact ⟨r, e, h4, h5⟩
end L74


set_option maxRecDepth 100000
set_option maxHeartbeats 2000000
/-! k74: the program's rests. -/
namespace L74
open PySem L2 VL
variable {A : Str → Addr} {O : Sto} {Φ : W → Sto → Prop}
def fineLast (ss : List (Int × Int)) (rs : List Int) : Bool := fineAt ss rs (rs.length - 1)
def lvl (ss : List (Int × Int)) : List Int → List (List Int)
  | [] => [[0]]
  | c :: cs => ((lvl ss cs).filter (fineLast ss)).flatMap (more c)
def lvs (ss : List (Int × Int)) (cs : List Int) : List (List Int) := lvl ss cs.reverse
theorem lvs_snoc (ss : List (Int × Int)) (cs : List Int) (c : Int) : lvs ss (cs ++ [c]) = ((lvs ss cs).filter (fineLast ss)).flatMap (more c) := by
  unfold lvs
  rw [List.reverse_append]
  rfl
theorem lvl_len (ss : List (Int × Int)) : ∀ (cs : List Int) (rs : List Int), rs ∈ lvl ss cs → rs.length = cs.length + 1
  | [], rs, h => by
    have : rs = [0] := by simpa [lvl] using h
    rw [this]; rfl
  | c :: cs, rs, h => by
    unfold lvl at h
    obtain ⟨a, ha, h2⟩ := List.mem_flatMap.mp h
    unfold more at h2
    obtain ⟨r, _, rfl⟩ := List.mem_map.mp h2
    rw [List.length_append, lvl_len ss cs a (List.mem_filter.mp ha).1]; simp
theorem lvs_one (ss : List (Int × Int)) (cs : List Int) (rs : List Int) (h : rs ∈ lvs ss cs) : rs.length = cs.length + 1 := by
  have := lvl_len ss cs.reverse rs h
  simpa using this
theorem lvs_len (ss : List (Int × Int)) (cs : List Int) : (lvs ss cs).length ≤ pn cs := by
  have h : ∀ cs, (lvl ss cs).length ≤ pn cs.reverse := by
    intro cs
    induction cs with
    | nil => simp [lvl, pn]
    | cons c cs ih =>
      rw [List.reverse_cons, pn_snoc]
      show (((lvl ss cs).filter (fineLast ss)).flatMap (more c)).length ≤ _
      rw [flat_len]
      exact Nat.mul_le_mul_right _ (Nat.le_trans (List.length_filter_le _ _) ih)
  have := h cs.reverse
  rwa [List.reverse_reverse] at this
def LLr (ss : List (Int × Int)) : List Int → List (List (List Int))
  | [] => [[[0]]]
  | c :: cs => LLr ss cs ++ [lvl ss (c :: cs)]
def LL (ss : List (Int × Int)) (cs : List Int) : List (List (List Int)) := LLr ss cs.reverse
theorem LL_snoc (ss : List (Int × Int)) (cs : List Int) (c : Int) : LL ss (cs ++ [c]) = LL ss cs ++ [lvs ss (cs ++ [c])] := by
  unfold LL lvs
  rw [List.reverse_append]
  rfl
theorem LL_last (ss : List (Int × Int)) (cs : List Int) : ∃ l, LL ss cs = l ++ [lvs ss cs] := by
  unfold LL lvs
  cases cs.reverse with
  | nil => exact ⟨[], rfl⟩
  | cons c cs => exact ⟨_, rfl⟩
theorem LL_len (ss : List (Int × Int)) (cs : List Int) : (LL ss cs).length = cs.length + 1 := by
  have h : ∀ cs, (LLr ss cs).length = cs.length + 1 := by
    intro cs
    induction cs with
    | nil => rfl
    | cons c cs ih => unfold LLr; simp [ih]
  unfold LL; rw [h]; simp
abbrev LD (rows : List (List Int)) : D := .lst (rows.map TI)
theorem f_levels {ss : List (Int × Int)} (h : ∀ p ∈ ss, Siz p) (h0 : ss ≠ []) (h3 : ss.length ≤ 100) {cs : List Int} (hl : cs.length = ss.length) (hr : ∀ c ∈ cs.drop 1, 0 ≤ c ∧ c ≤ 20000) (hf : Few (cs.drop 1)) :
    F_levels_of A [.d (L2' ss), .d (.lst (cs.map D.int))] O = .ok (.d (.tup [.lst ((LL ss (cs.drop 1)).map LD), LD ((lvs ss (cs.drop 1)).filter (fineLast ss))])) O := by
  obtain ⟨X, hX⟩ : ∃ X, (LL ss (cs.drop 1)).map LD = X := ⟨_, rfl⟩
  obtain ⟨Y, hY⟩ : ∃ Y, LD ((lvs ss (cs.drop 1)).filter (fineLast ss)) = Y := ⟨_, rfl⟩
  rw [hX, hY]
  refine eq_of_wp ?_
  have hss : 0 < ss.length := List.length_pos_iff.mpr h0
  unfold F_levels_of d_levels_of
  simp only [wp_fn, dSeq, dRet, dRetN, dSet, dPar, dAsg, dIfS, dIf, dBin, dTest, dChain, dAnd, dOr, dNot, dAndV, dOrV, dNotV, dNext, dStop, dDrop, dNil, dCons, dTup, dLst, dOwn, dCall, dUn, dPart, dNo, dSl, dMeth, dMeth0, dAug, dIce, dYes, wp_star, wp_dFn, w1, w2, wp_bind, wp_pure, wp_no, wp_var, wp_dC]
  simp only [List.map_cons, List.map_nil, List.replicate, List.cons_append, List.nil_append, wp_tup1, wp_lst1, wp_own1]
  rw [wp_for, wp_it]
  simp [wp_fn, dSeq, dRet, dRetN, dSet, dPar, dAsg, dIfS, dIf, dBin, dTest, dChain, dAnd, dOr, dNot, dAndV, dOrV, dNotV, dNext, dStop, dDrop, dNil, dCons, dTup, dLst, dOwn, dCall, dUn, dPart, dNo, dSl, dMeth, dMeth0, dAug, dIce, dYes, wp_star, wp_dFn, w1, w2, wp_bind, wp_pure, wp_no, wp_var, wp_dC]
  rw [wp_slL rfl, cut_tail]
  simp [wp_fn, dSeq, dRet, dRetN, dSet, dPar, dAsg, dIfS, dIf, dBin, dTest, dChain, dAnd, dOr, dNot, dAndV, dOrV, dNotV, dNext, dStop, dDrop, dNil, dCons, dTup, dLst, dOwn, dCall, dUn, dPart, dNo, dSl, dMeth, dMeth0, dAug, dIce, dYes, wp_star, wp_dFn, w1, w2, wp_bind, wp_pure, wp_no, wp_var, wp_dC]
  refine wp_loopX (cs.drop 1) (fun r => .d (.int r)) (fun zs Γ P => Kp O P ∧ P[O.length]? = some (.lst ((LL ss zs).map LD)) ∧ ∃ a b c d e, Γ = [some (.d (L2' ss)), some (.d (.lst (cs.map D.int))), some (.own O.length), a, b, c, d, e]) (by simp; rfl) (fun _ _ _ _ => wk_ok) ⟨Kp.rfl.add _, by simp [LL, LLr], _, _, _, _, _, rfl⟩ ?_ ?_
  · rintro zs c ys Γ P e ⟨hK, hP, a, b, x, d, e0, rfl⟩
    obtain ⟨hc0, hc1⟩ := hr c (mem_of_split e)
    have hfew : pn zs * c.toNat ≤ 20000 := by
      rw [← pn_snoc]; exact hf (zs ++ [c]) ys (by rw [e]; simp)
    have hzl : zs.length + 1 < ss.length := by
      have := congrArg List.length e
      simp [hl] at this; omega
    have line := line_big
    have hPl : O.length < P.length := (List.getElem?_eq_some_iff.mp hP).1
    obtain ⟨l0, hl0⟩ := LL_last ss zs
    refine ⟨_, by simp; rfl, ?_⟩
    unfold B1_levels_of
    simp only [wp_fn, dSeq, dRet, dRetN, dSet, dPar, dAsg, dIfS, dIf, dBin, dTest, dChain, dAnd, dOr, dNot, dAndV, dOrV, dNotV, dNext, dStop, dDrop, dNil, dCons, dTup, dLst, dOwn, dCall, dUn, dPart, dNo, dSl, dMeth, dMeth0, dAug, dIce, dYes, wp_star, wp_dFn, w1, w2, wp_bind, wp_pure, wp_no, wp_var, wp_dC]
    simp only [List.set_cons_succ, List.set_cons_zero, wp_own0]
    rw [wp_for, wp_it]
    simp only [wp_fn, dSeq, dRet, dRetN, dSet, dPar, dAsg, dIfS, dIf, dBin, dTest, dChain, dAnd, dOr, dNot, dAndV, dOrV, dNotV, dNext, dStop, dDrop, dNil, dCons, dTup, dLst, dOwn, dCall, dUn, dPart, dNo, dSl, dMeth, dMeth0, dAug, dIce, dYes, wp_star, wp_dFn, w1, w2, wp_bind, wp_pure, wp_no, wp_var, wp_dC, List.getElem?_cons_succ, List.getElem?_cons_zero]
    have hP2 : ∀ l, (P ++ [MO.lst l])[O.length]? = some (.lst (l0.map LD ++ [LD (lvs ss zs)])) := fun l => by
      rw [List.getElem?_append_left hPl, hP, hl0]; simp
    have e9 : ∀ l Φ, wp (wIx (.own O.length) (.d (.int (-1)))) (P ++ [MO.lst l]) Φ = Φ (.d (LD (lvs ss zs))) (P ++ [MO.lst l]) := fun l Φ => wp_ix (wS_own (hP2 l)) (atI_last _ _) Φ
    simp only [wp_neg, e9, wp_wkL]
    refine wp_loopX (lvs ss zs) (fun rs => .d (TI rs)) (fun us Γ O' => O' = P ++ [.lst (((us.filter (fineLast ss)).flatMap (more c)).map TI)] ∧ ∃ x d e, Γ = [some (.d (L2' ss)), some (.d (.lst (cs.map D.int))), some (.own O.length), some (.d (.int c)), some (.own P.length), x, d, e]) (by simp) (fun _ _ _ _ => wk_ok) ⟨by simp, x, d, e0, by simp⟩ ?_ ?_
    · rintro us rs vs Γ O' e' ⟨rfl, x, d, e0, rfl⟩
      have hrs := lvs_one ss zs rs (mem_of_split e')
      have hne : rs ≠ [] := by intro z; rw [z] at hrs; simp at hrs
      obtain ⟨r2, e2, k1, k2⟩ := f_clash_in (A := A) (O := P ++ [.lst (((us.filter (fineLast ss)).flatMap (more c)).map TI)]) h hne (by omega) h3
      refine ⟨_, by simp; rfl, ?_⟩
      unfold B0_levels_of
      simp only [wp_fn, dSeq, dRet, dRetN, dSet, dPar, dAsg, dIfS, dIf, dBin, dTest, dChain, dAnd, dOr, dNot, dAndV, dOrV, dNotV, dNext, dStop, dDrop, dNil, dCons, dTup, dLst, dOwn, dCall, dUn, dPart, dNo, dSl, dMeth, dMeth0, dAug, dIce, dYes, wp_star, wp_dFn, w1, w2, wp_bind, wp_pure, wp_no, wp_var, wp_dC]
      simp only [List.getElem?_cons_succ, List.getElem?_cons_zero, List.map_nil, List.append_nil]
      rw [wp_dFn (by rfl)]
      simp only [List.map_nil, List.append_nil]
      rw [wp_eq e2]
      have hfl : fineLast ss rs = fineAt ss rs (rs.length - 1) := rfl
      cases hb : fineLast ss rs with
      | false =>
        rw [hfl] at hb
        obtain ⟨i, j, e3⟩ := k2 hb
        rw [e3]
        simp [wp_fn, dSeq, dRet, dRetN, dSet, dPar, dAsg, dIfS, dIf, dBin, dTest, dChain, dAnd, dOr, dNot, dAndV, dOrV, dNotV, dNext, dStop, dDrop, dNil, dCons, dTup, dLst, dOwn, dCall, dUn, dPart, dNo, dSl, dMeth, dMeth0, dAug, dIce, dYes, wp_star, wp_dFn, w1, w2, wp_bind, wp_pure, wp_no, wp_var, wp_dC, hfl, hb]
      | true =>
        rw [hfl] at hb
        rw [k1 hb]
        simp [wp_fn, dSeq, dRet, dRetN, dSet, dPar, dAsg, dIfS, dIf, dBin, dTest, dChain, dAnd, dOr, dNot, dAndV, dOrV, dNotV, dNext, dStop, dDrop, dNil, dCons, dTup, dLst, dOwn, dCall, dUn, dPart, dNo, dSl, dMeth, dMeth0, dAug, dIce, dYes, wp_star, wp_dFn, w1, w2, wp_bind, wp_pure, wp_no, wp_var, wp_dC]
        rw [wp_isL (wL_own (at_end _ _)), wp_lcD]
        refine wp_rng1 (j := c) ?_
        simp [wp_fn, dSeq, dRet, dRetN, dSet, dPar, dAsg, dIfS, dIf, dBin, dTest, dChain, dAnd, dOr, dNot, dAndV, dOrV, dNotV, dNext, dStop, dDrop, dNil, dCons, dTup, dLst, dOwn, dCall, dUn, dPart, dNo, dSl, dMeth, dMeth0, dAug, dIce, dYes, wp_star, wp_dFn, w1, w2, wp_bind, wp_pure, wp_no, wp_var, wp_dC, wipeG]
        refine ⟨⟨by omega, by omega⟩, ?_⟩
        refine wp_lc (fun r : Nat => .d (.int (r : Nat))) (fun r => some (TI (rs ++ [((r : Nat) : Int)]))) (List.range c.toNat) (rng01 _) wk_ok (by simp; omega) (fun r _ => ⟨_, by simp; rfl, ?_⟩) ?_
        · simp [wp_fn, dSeq, dRet, dRetN, dSet, dPar, dAsg, dIfS, dIf, dBin, dTest, dChain, dAnd, dOr, dNot, dAndV, dOrV, dNotV, dNext, dStop, dDrop, dNil, dCons, dTup, dLst, dOwn, dCall, dUn, dPart, dNo, dSl, dMeth, dMeth0, dAug, dIce, dYes, wp_star, wp_dFn, w1, w2, wp_bind, wp_pure, wp_no, wp_var, wp_dC]
          rw [wp_mkTup (ds := rs.map D.int ++ [.int ((r : Nat) : Int)]) (by
            have := wDs_map (rs.map D.int ++ [.int ((r : Nat) : Int)])
            simpa using this) (by simp; omega)]
          simp
        · have hul : us.length + 1 ≤ (lvs ss zs).length := by
            have := congrArg List.length e'
            simp at this; omega
          have hmul : (us.length + 1) * c.toNat ≤ 20000 := Nat.le_trans (Nat.mul_le_mul_right _ (Nat.le_trans hul (lvs_len ss zs))) hfew
          have e1 : List.filterMap (fun r : Nat => some (TI (rs ++ [((r : Nat) : Int)]))) (List.range c.toNat) = (more c rs).map TI := by
            show List.filterMap (some ∘ fun r : Nat => TI (rs ++ [((r : Nat) : Int)])) (List.range c.toNat) = (more c rs).map TI
            rw [List.filterMap_eq_map]
            exact more_D c rs
          rw [e1]
          rw [wp_ext (by simp) (at_end _ _) rfl (by
            rw [List.length_map, List.length_map, flat_len, more_len]
            rw [Nat.add_mul] at hmul
            have := Nat.mul_le_mul_right c.toNat (List.length_filter_le (fineLast ss) us)
            omega)]
          simp [hfl, hb]
    · rintro Γ O' ⟨rfl, x, d, e0, rfl⟩
      simp only [wp_fn, dSeq, dRet, dRetN, dSet, dPar, dAsg, dIfS, dIf, dBin, dTest, dChain, dAnd, dOr, dNot, dAndV, dOrV, dNotV, dNext, dStop, dDrop, dNil, dCons, dTup, dLst, dOwn, dCall, dUn, dPart, dNo, dSl, dMeth, dMeth0, dAug, dIce, dYes, wp_star, wp_dFn, w1, w2, wp_bind, wp_pure, wp_no, wp_var, wp_dC]
      simp only [List.getElem?_cons_succ, List.getElem?_cons_zero]
      rw [wp_isL (wL_own (hP2 _))]
      rw [wp_ice (at_end _ _)]
      simp only [set_end]
      have hP3 : (P ++ [MO.dead])[O.length]? = some (.lst ((LL ss zs).map LD)) := by rw [List.getElem?_append_left hPl, hP]
      rw [wp_app rfl hP3 (by rw [List.length_map, LL_len]; omega)]
      refine ⟨(hK.add _).set (Nat.le_refl _) _, ?_, _, _, _, _, _, rfl⟩
      rw [List.getElem?_set_self (by simp; omega), LL_snoc, lvs_snoc]
      simp
  · rintro Γ P ⟨hK, hP, a, b, x, d, e0, rfl⟩
    have hPl : O.length < P.length := (List.getElem?_eq_some_iff.mp hP).1
    obtain ⟨l0, hl0⟩ := LL_last ss (cs.drop 1)
    have line := line_big
    have hfull : pn (cs.drop 1) ≤ 20000 := hf _ [] (by simp)
    have e9 : ∀ Φ, wp (wIx (.own O.length) (.d (.int (-1)))) P Φ = Φ (.d (LD (lvs ss (cs.drop 1)))) P := fun Φ => wp_ix (wS_own (by rw [hP, hl0, List.map_append]; rfl)) (atI_last _ _) Φ
    simp only [wp_fn, dSeq, dRet, dRetN, dSet, dPar, dAsg, dIfS, dIf, dBin, dTest, dChain, dAnd, dOr, dNot, dAndV, dOrV, dNotV, dNext, dStop, dDrop, dNil, dCons, dTup, dLst, dOwn, dCall, dUn, dPart, dNo, dSl, dMeth, dMeth0, dAug, dIce, dYes, wp_star, wp_dFn, w1, w2, wp_bind, wp_pure, wp_no, wp_var, wp_dC]
    rw [wp_lcD, wp_it]
    simp only [wp_fn, dSeq, dRet, dRetN, dSet, dPar, dAsg, dIfS, dIf, dBin, dTest, dChain, dAnd, dOr, dNot, dAndV, dOrV, dNotV, dNext, dStop, dDrop, dNil, dCons, dTup, dLst, dOwn, dCall, dUn, dPart, dNo, dSl, dMeth, dMeth0, dAug, dIce, dYes, wp_star, wp_dFn, w1, w2, wp_bind, wp_pure, wp_no, wp_var, wp_dC, List.getElem?_cons_succ, List.getElem?_cons_zero, wp_neg, e9, wp_wkL]
    refine wp_lc (fun rs => .d (TI rs)) (fun rs => if fineLast ss rs then some (TI rs) else none) (lvs ss (cs.drop 1)) (by simp) wk_ok (by
      have := lvs_len ss (cs.drop 1)
      omega) (fun rs hrs => ⟨_, by simp; rfl, ?_⟩) ?_
    · have hr1 := lvs_one ss _ rs hrs
      have hlen : rs.length = ss.length := by
        rw [hr1, List.length_drop, hl]; omega
      have hne : rs ≠ [] := by intro z; rw [z] at hr1; simp at hr1
      obtain ⟨r2, e2, k1, k2⟩ := f_clash_in (A := A) (O := P) h hne (by omega) h3
      simp [wp_fn, dSeq, dRet, dRetN, dSet, dPar, dAsg, dIfS, dIf, dBin, dTest, dChain, dAnd, dOr, dNot, dAndV, dOrV, dNotV, dNext, dStop, dDrop, dNil, dCons, dTup, dLst, dOwn, dCall, dUn, dPart, dNo, dSl, dMeth, dMeth0, dAug, dIce, dYes, wp_star, wp_dFn, w1, w2, wp_bind, wp_pure, wp_no, wp_var, wp_dC, wipeG, hlen]
      rw [wp_eq e2]
      have hfl : fineLast ss rs = fineAt ss rs (rs.length - 1) := rfl
      cases hb : fineLast ss rs with
      | true => rw [hfl] at hb; rw [k1 hb]; simp
      | false =>
        rw [hfl] at hb
        obtain ⟨i, j, e3⟩ := k2 hb
        rw [e3]; simp
    · have e1 : List.filterMap (fun rs => if fineLast ss rs = true then some (TI rs) else none) (lvs ss (cs.drop 1)) = ((lvs ss (cs.drop 1)).filter (fineLast ss)).map TI := by
        induction lvs ss (cs.drop 1) with
        | nil => rfl
        | cons x l ih =>
          cases hx : fineLast ss x with
          | true => simp [hx, ih]
          | false => simp [hx, ih]
      rw [e1]
      simp only [List.set_cons_succ, List.set_cons_zero, List.getElem?_cons_succ, List.getElem?_cons_zero]
      rw [wp_ice hP]
      simp only [wp_tup2]
      refine ⟨?_, (hK.set (Nat.le_refl _) _).take⟩
      rw [hX]
      exact congrArg (fun y => D.tup [.lst X, y]) hY
end L74


set_option maxRecDepth 100000
set_option maxHeartbeats 2000000
/-! k74: the tree of tries comes to an end; what rests_paper tells. -/
namespace L74
open PySem L2 VL
variable {A : Str → Addr} {O : Sto} {Φ : W → Sto → Prop}
def IsL (b : Nat) (P : Sto) (n : Nat) (w : W) : Prop := ∃ j ds, w = .own j ∧ b ≤ j ∧ P[j]? = some (.lst ds) ∧ ds.length ≤ n
theorem IsL.app {b : Nat} {P : Sto} {n : Nat} {w : W} (h : IsL b P n w) (l : Sto) : IsL b (P ++ l) n w := by
  obtain ⟨j, ds, e, hb, h1, h2⟩ := h
  exact ⟨j, ds, e, hb, by rw [List.getElem?_append_left (List.getElem?_eq_some_iff.mp h1).1]; exact h1, h2⟩
theorem IsL.setL {b : Nat} {P : Sto} {n m i : Nat} {w : W} {es : List D} (h : IsL b P n w) (hn : n ≤ m) (he : es.length ≤ m) : IsL b (P.set i (.lst es)) m w := by
  obtain ⟨j, ds, e, hb, h1, h2⟩ := h
  by_cases q : i = j
  · subst q
    exact ⟨i, es, e, hb, by rw [List.getElem?_set_self (List.getElem?_eq_some_iff.mp h1).1], he⟩
  · exact ⟨j, ds, e, hb, by rw [List.getElem?_set_ne q]; exact h1, by omega⟩
theorem IsL.setD {b : Nat} {P : Sto} {n i : Nat} {w : W} {kvs : List (List Key × W)} {m : MO} (h : IsL b P n w) (hi : P[i]? = some (.dicT kvs)) : IsL b (P.set i m) n w := by
  obtain ⟨j, ds, e, hb, h1, h2⟩ := h
  have q : i ≠ j := by
    intro z; subst z; rw [hi] at h1; cases h1
  exact ⟨j, ds, e, hb, by rw [List.getElem?_set_ne q]; exact h1, h2⟩
theorem IsL.up {b : Nat} {P : Sto} {n m : Nat} {w : W} (h : IsL b P n w) (hn : n ≤ m) : IsL b P m w := by
  obtain ⟨j, ds, e, hb, h1, h2⟩ := h
  exact ⟨j, ds, e, hb, h1, by omega⟩
def AllL (b : Nat) (P : Sto) (n : Nat) (kvs : List (List Key × W)) : Prop := ∀ q ∈ kvs, IsL b P n q.2
theorem look_mem {k : List Key} {w : W} : ∀ {kvs : List (List Key × W)}, lookT k kvs = some w → ∃ q ∈ kvs, q.2 = w
  | [], h => by cases h
  | (j, u) :: r, h => by
    unfold lookT at h
    split at h
    · cases h; exact ⟨_, List.mem_cons_self, rfl⟩
    · obtain ⟨q, h1, h2⟩ := look_mem h
      exact ⟨q, List.mem_cons_of_mem _ h1, h2⟩
theorem look_app {k : List Key} {w : W} : ∀ {kvs : List (List Key × W)}, lookT k kvs = none → lookT k (kvs ++ [(k, w)]) = some w
  | [], h => by
    show lookT k [(k, w)] = _
    unfold lookT; rw [if_pos rfl]
  | (j, u) :: r, h => by
    unfold lookT at h
    split at h
    · cases h
    · rename_i z
      show lookT k ((j, u) :: (r ++ [(k, w)])) = _
      unfold lookT; rw [if_neg z]; exact look_app h
theorem keys_ints : ∀ rs : List Int, keysD (rs.map D.int) = some (rs.map Sum.inl)
  | [] => rfl
  | r :: rs => by
    show keysD (.int r :: rs.map D.int) = _
    unfold keysD
    rw [keys_ints rs]; rfl
theorem keyT_TI (rs : List Int) : keyT (TI rs) = some (rs.map Sum.inl) := keys_ints rs
theorem cut_last (ds : List D) (h : ds ≠ []) : ¬ (HT.sIx ds.length 0 none = 0 ∧ HT.sIx ds.length ds.length (some (-1)) = ds.length) ∧ cutD ds none (some (-1)) = ds.dropLast := by
  have hl : 0 < ds.length := List.length_pos_iff.mpr h
  have e1 : HT.sIx ds.length 0 none = 0 := by simp [HT.sIx]
  have e2 : HT.sIx ds.length ds.length (some (-1)) = ds.length - 1 := by
    simp [HT.sIx]; omega
  refine ⟨by rw [e2]; omega, ?_⟩
  unfold cutD
  rw [e1, e2, List.dropLast_eq_take]
  simp
theorem wp_slT {ds : List D} (h : ds ≠ []) (O : Sto) (Φ : W → Sto → Prop) : wp (wSlT (.d (.tup ds)) none (some (-1))) O Φ = Φ (.d (.tup ds.dropLast)) O := by
  obtain ⟨h1, h2⟩ := cut_last ds h
  unfold wSlT
  show wp (if _ then _ else _) O Φ = _
  rw [wp_if h1, h2]; rfl
theorem wp_isT {k : Nat} {kvs : List (List Key × W)} {O : Sto} (h : O[k]? = some (.dicT kvs)) (Φ : Unit → Sto → Prop) : wp (wIsT (.own k)) O Φ = Φ () O := by
  unfold wp wIsT
  simp only [h]
theorem set_new {P : Sto} {g : Nat} {z : D} {gv : MO} : (P.set g .dead ++ [.lst [], gv]).set P.length (.lst [z]) = P.set g .dead ++ [.lst [z], gv] := by
  have : P.length = (P.set g MO.dead).length := by simp
  rw [List.set_append_right _ _ (by simp)]
  simp
structure Tin (O P : Sto) (k g : Nat) (us : List (List Int)) : Prop where
  kp : Kp O P
  ko : O.length ≤ k
  go : O.length ≤ g
  ne : g ≠ k
  tr : ∃ kvs, P[k]? = some (.dicT kvs) ∧ AllL O.length P 20000 kvs
  gr : ∃ gv, P[g]? = some (.dicT gv) ∧ AllL O.length P us.length gv ∧ gv.length ≤ us.length ∧ (us = [[0]] → ∃ j z, lookT [] gv = some (.own j) ∧ P[j]? = some (.lst [z]))
abbrev TEnd (O : Sto) (ss : List (Int × Int)) (s1 s3 : Option W) (k : Nat) (rs : List Int) (us : List (List Int)) : Fl × Gam → Sto → Prop := fun r O' => match r.1 with
  | .nx => ∃ g' t6 t7, r.2 = [some (.d (L2' ss)), s1, some (.own k), s3, some (.own g'), some (.d (TI rs)), t6, t7] ∧ Tin O O' k g' (us ++ [rs])
  | _ => False
theorem tree_app {ss : List (Int × Int)} {P : Sto} {k g : Nat} {us : List (List Int)} {rs : List Int} {s1 s3 t6 : Option W} {t : D} (hne : rs ≠ []) (T : Tin O P k g us) (hu : us.length < 20000) :
    wp (dSetApp 4 (dSl wSlT (dVar 5) dNo (dPart (dUn wNeg (dC (.int 1))))) (dVar 7) [some (.d (L2' ss)), s1, some (.own k), s3, some (.own g), some (.d (TI rs)), t6, some (.d t)]) P (TEnd O ss s1 s3 k rs us) := by
  have hrne : rs.map D.int ≠ [] := by simpa using hne
  obtain ⟨kvs, hk, hkl⟩ := T.tr
  obtain ⟨gv, hg, hgl, hgn, hlast⟩ := T.gr
  have line := line_big
  have hgP : g < P.length := (List.getElem?_eq_some_iff.mp hg).1
  unfold dSetApp
  simp only [wp_fn, dSeq, dRet, dRetN, dSet, dPar, dAsg, dIfS, dIf, dBin, dTest, dChain, dAnd, dOr, dNot, dAndV, dOrV, dNotV, dNext, dStop, dDrop, dNil, dCons, dTup, dLst, dOwn, dCall, dUn, dPart, dNo, dSl, dMeth, dMeth0, dAug, dIce, dYes, wp_star, wp_dFn, w1, w2, wp_bind, wp_pure, wp_no, wp_var, wp_dC]
  simp only [List.getElem?_cons_succ, List.getElem?_cons_zero]
  rw [wp_isT hg]
  simp only [wp_fn, dSeq, dRet, dRetN, dSet, dPar, dAsg, dIfS, dIf, dBin, dTest, dChain, dAnd, dOr, dNot, dAndV, dOrV, dNotV, dNext, dStop, dDrop, dNil, dCons, dTup, dLst, dOwn, dCall, dUn, dPart, dNo, dSl, dMeth, dMeth0, dAug, dIce, dYes, wp_star, wp_dFn, w1, w2, wp_bind, wp_pure, wp_no, wp_var, wp_dC, List.getElem?_cons_succ, List.getElem?_cons_zero, wp_neg]
  rw [wp_slT hrne]
  have hkey : keyT (.tup (rs.map D.int).dropLast) = some (rs.dropLast.map Sum.inl) := by
    rw [← List.map_dropLast]; exact keyT_TI _
  have hgl2 : gv.length < sizeLine := by omega
  cases hlk : lookT (rs.dropLast.map Sum.inl) gv with
  | some w =>
    obtain ⟨q, hq, eq⟩ := look_mem hlk
    obtain ⟨j, ds, ej, hb, hj, hjl⟩ := hgl q hq
    rw [eq] at ej
    subst ej
    have e3 : setdT (.own g) (.d (.tup (rs.map D.int).dropLast)) P = .ok (j, g) (P ++ [.lst []]) := by
      unfold setdT
      simp only [hg, hkey, if_pos hgl2, hlk]
    rw [wp_eq e3]
    have hj2 : (P ++ [MO.lst []])[j]? = some (.lst ds) := by
      rw [List.getElem?_append_left (List.getElem?_eq_some_iff.mp hj).1]; exact hj
    rw [wp_isL (wL_own hj2)]
    rw [wp_app rfl hj2 (by omega)]
    have hjk : ∀ (i : Nat) (kv : List (List Key × W)), P[i]? = some (MO.dicT kv) → j ≠ i := fun i kv hi z => by subst z; rw [hj] at hi; cases hi
    have keep : ∀ (i : Nat) (kv : List (List Key × W)), P[i]? = some (MO.dicT kv) → ((P ++ [MO.lst []]).set j (.lst (ds ++ [t])))[i]? = some (MO.dicT kv) := fun i kv hi => by
      rw [List.getElem?_set_ne (hjk i kv hi), List.getElem?_append_left (List.getElem?_eq_some_iff.mp hi).1]; exact hi
    refine ⟨g, _, _, rfl, (T.kp.add _).set hb _, T.ko, T.go, T.ne, ⟨kvs, keep _ _ hk, fun q hq => ?_⟩, gv, keep _ _ hg, fun q hq => ?_, by rw [List.length_append]; omega, fun z => ?_⟩
    · exact ((hkl q hq).app _).setL (Nat.le_refl _) (by rw [List.length_append]; simp; omega)
    · exact ((hgl q hq).app _).setL (by rw [List.length_append]; omega) (by rw [List.length_append, List.length_append]; simp; omega)
    · have hul : us.length = 0 := by
        have := congrArg List.length z
        simp at this; simp [this]
      have : gv = [] := List.length_eq_zero_iff.mp (by omega)
      rw [this] at hlk; cases hlk
  | none =>
    have e3 : setdT (.own g) (.d (.tup (rs.map D.int).dropLast)) P = .ok (P.length, P.length + 1) (P.set g .dead ++ [.lst [], .dicT (gv ++ [(rs.dropLast.map Sum.inl, .own P.length)])]) := by
      unfold setdT
      simp only [hg, hkey, if_pos hgl2, hlk]
    rw [wp_eq e3]
    have hj2 : (P.set g .dead ++ [MO.lst [], .dicT (gv ++ [(rs.dropLast.map Sum.inl, .own P.length)])])[P.length]? = some (.lst []) := by
      rw [List.getElem?_append_right (by simp)]; simp
    rw [wp_isL (wL_own hj2)]
    rw [wp_app rfl hj2 (by simp; omega)]
    rw [List.nil_append, set_new]
    have ePg : P.set g .dead ++ [MO.lst [t], .dicT (gv ++ [(rs.dropLast.map Sum.inl, .own P.length)])] = (P.set g .dead ++ [MO.lst [t]]) ++ [.dicT (gv ++ [(rs.dropLast.map Sum.inl, .own P.length)])] := by simp
    rw [ePg]
    have hnew : ((P.set g .dead ++ [MO.lst [t]]) ++ [MO.dicT (gv ++ [(rs.dropLast.map Sum.inl, .own P.length)])])[P.length]? = some (.lst [t]) := by
      rw [List.append_assoc, List.getElem?_append_right (by simp)]; simp
    refine ⟨P.length + 1, _, _, rfl, ((T.kp.set T.go _).add _).add _, T.ko, Nat.le_trans T.kp.len (Nat.le_succ _), ?_, ⟨kvs, ?_, fun q hq => (((hkl q hq).setD hg).app _).app _⟩, gv ++ [(rs.dropLast.map Sum.inl, .own P.length)], ?_, fun q hq => ?_, ?_, fun z => ?_⟩
    · have := (List.getElem?_eq_some_iff.mp hk).1
      omega
    · rw [List.append_assoc, List.getElem?_append_left (by simp; exact (List.getElem?_eq_some_iff.mp hk).1), List.getElem?_set_ne T.ne]; exact hk
    · have : P.length + 1 = (P.set g MO.dead ++ [MO.lst [t]]).length := by simp
      rw [this]; exact at_end _ _
    · rcases List.mem_append.mp hq with hq | hq
      · exact ((((hgl q hq).setD hg).app _).app _).up (by rw [List.length_append]; omega)
      · rw [List.mem_singleton.mp hq]
        exact ⟨P.length, [t], rfl, T.kp.len, hnew, by rw [List.length_append]; simp⟩
    · rw [List.length_append, List.length_append]; simp; omega
    · have hul : us = [] ∧ rs = [0] := by
        cases us with
        | nil => simpa using z
        | cons a l => simp at z
      have hk0 : rs.dropLast.map Sum.inl = ([] : List Key) := by rw [hul.2]; rfl
      rw [hk0] at hlk
      refine ⟨P.length, t, ?_, hnew⟩
      rw [hk0]; exact look_app hlk
theorem tree_step {ss : List (Int × Int)} {P : Sto} {k g : Nat} {us : List (List Int)} {rs : List Int} {s1 s3 s6 s7 : Option W} (h : ∀ p ∈ ss, Siz p) (hne : rs ≠ []) (h2 : rs.length ≤ ss.length) (h3 : ss.length ≤ 100) (T : Tin O P k g us) (hu : us.length < 20000) :
    wp (B0_tree_of A [some (.d (L2' ss)), s1, some (.own k), s3, some (.own g), some (.d (TI rs)), s6, s7]) P (TEnd O ss s1 s3 k rs us) := by
  obtain ⟨r2, e2, k1, k2⟩ := f_clash_in (A := A) (O := P) h hne h2 h3
  obtain ⟨kvs, hk, hkl⟩ := T.tr
  have line := line_big
  unfold B0_tree_of
  simp only [wp_fn, dSeq, dRet, dRetN, dSet, dPar, dAsg, dIfS, dIf, dBin, dTest, dChain, dAnd, dOr, dNot, dAndV, dOrV, dNotV, dNext, dStop, dDrop, dNil, dCons, dTup, dLst, dOwn, dCall, dUn, dPart, dNo, dSl, dMeth, dMeth0, dAug, dIce, dYes, wp_star, wp_dFn, w1, w2, wp_bind, wp_pure, wp_no, wp_var, wp_dC]
  simp only [List.getElem?_cons_succ, List.getElem?_cons_zero]
  rw [wp_dFn (by rfl)]
  simp only [List.map_nil, List.append_nil]
  rw [wp_eq e2]
  simp only [List.set_cons_succ, List.set_cons_zero, List.getElem?_cons_succ, List.getElem?_cons_zero]
  cases hb : fineAt ss rs (rs.length - 1) with
  | false =>
    obtain ⟨i, j, e3⟩ := k2 hb
    rw [e3]
    simp [wp_fn, dSeq, dRet, dRetN, dSet, dPar, dAsg, dIfS, dIf, dBin, dTest, dChain, dAnd, dOr, dNot, dAndV, dOrV, dNotV, dNext, dStop, dDrop, dNil, dCons, dTup, dLst, dOwn, dCall, dUn, dPart, dNo, dSl, dMeth, dMeth0, dAug, dIce, dYes, wp_star, wp_dFn, w1, w2, wp_bind, wp_pure, wp_no, wp_var, wp_dC]
    exact tree_app hne T hu
  | true =>
    rw [k1 hb]
    simp [wp_fn, dSeq, dRet, dRetN, dSet, dPar, dAsg, dIfS, dIf, dBin, dTest, dChain, dAnd, dOr, dNot, dAndV, dOrV, dNotV, dNext, dStop, dDrop, dNil, dCons, dTup, dLst, dOwn, dCall, dUn, dPart, dNo, dSl, dMeth, dMeth0, dAug, dIce, dYes, wp_star, wp_dFn, w1, w2, wp_bind, wp_pure, wp_no, wp_var, wp_dC]
    unfold dGetT2
    simp only [wp_fn, dSeq, dRet, dRetN, dSet, dPar, dAsg, dIfS, dIf, dBin, dTest, dChain, dAnd, dOr, dNot, dAndV, dOrV, dNotV, dNext, dStop, dDrop, dNil, dCons, dTup, dLst, dOwn, dCall, dUn, dPart, dNo, dSl, dMeth, dMeth0, dAug, dIce, dYes, wp_star, wp_dFn, w1, w2, wp_bind, wp_pure, wp_no, wp_var, wp_dC]
    simp only [List.getElem?_cons_succ, List.getElem?_cons_zero]
    rw [wp_isT hk]
    simp only [wp_tup0]
    have e4 : ∃ w, wGetT2 (.own k) (.d (TI rs)) (.d (.tup [])) P = .ok w P ∧ ∃ ds, wS w P = some ds := by
      unfold wGetT2
      simp only [hk, keyT_TI]
      cases hl : lookT (rs.map Sum.inl) kvs with
      | none => exact ⟨_, rfl, [], rfl⟩
      | some w =>
        obtain ⟨q, hq, eq⟩ := look_mem hl
        obtain ⟨j, ds, ej, _, hj, _⟩ := hkl q hq
        rw [eq] at ej
        subst ej
        exact ⟨_, rfl, ds, wS_own hj⟩
    obtain ⟨w, e5, ds, e6⟩ := e4
    rw [wp_eq e5, wp_tuple e6]
    simp [wp_fn, dSeq, dRet, dRetN, dSet, dPar, dAsg, dIfS, dIf, dBin, dTest, dChain, dAnd, dOr, dNot, dAndV, dOrV, dNotV, dNext, dStop, dDrop, dNil, dCons, dTup, dLst, dOwn, dCall, dUn, dPart, dNo, dSl, dMeth, dMeth0, dAug, dIce, dYes, wp_star, wp_dFn, w1, w2, wp_bind, wp_pure, wp_no, wp_var, wp_dC]
    exact tree_app hne T hu
theorem f_tree {ss : List (Int × Int)} {lv : List (List (List Int))} (h : ∀ p ∈ ss, Siz p) (h3 : ss.length ≤ 100) (hl : ∀ l ∈ lv, l.length ≤ 20000 ∧ ∀ rs ∈ l, rs ≠ [] ∧ rs.length ≤ ss.length) (h0 : ∃ r, lv = [[0]] :: r) (hn : lv.length ≤ 1000) :
    ∃ t, F_tree_of A [.d (L2' ss), .d (.lst (lv.map LD))] O = .ok (.d t) O := by
  have z : wp (F_tree_of A [.d (L2' ss), .d (.lst (lv.map LD))]) O fun w O' => O' = O ∧ ∃ t, w = .d t := by
    unfold F_tree_of d_tree_of
    simp only [wp_fn, dSeq, dRet, dRetN, dSet, dPar, dAsg, dIfS, dIf, dBin, dTest, dChain, dAnd, dOr, dNot, dAndV, dOrV, dNotV, dNext, dStop, dDrop, dNil, dCons, dTup, dLst, dOwn, dCall, dUn, dPart, dNo, dSl, dMeth, dMeth0, dAug, dIce, dYes, wp_star, wp_dFn, w1, w2, wp_bind, wp_pure, wp_no, wp_var, wp_dC]
    simp only [List.map_cons, List.map_nil, List.replicate, List.cons_append, List.nil_append]
    unfold dNewT
    simp only [wp_push]
    rw [wp_for, wp_it]
    simp [wp_fn, dSeq, dRet, dRetN, dSet, dPar, dAsg, dIfS, dIf, dBin, dTest, dChain, dAnd, dOr, dNot, dAndV, dOrV, dNotV, dNext, dStop, dDrop, dNil, dCons, dTup, dLst, dOwn, dCall, dUn, dPart, dNo, dSl, dMeth, dMeth0, dAug, dIce, dYes, wp_star, wp_dFn, w1, w2, wp_bind, wp_pure, wp_no, wp_var, wp_dC]
    have er : ∀ Φ P, wp (wRev (.d (.lst (lv.map LD)))) P Φ = Φ (.d (.lst (lv.map LD).reverse)) P := fun Φ P => wp_eq (by unfold wRev; rfl)
    rw [er]
    simp [wp_fn, dSeq, dRet, dRetN, dSet, dPar, dAsg, dIfS, dIf, dBin, dTest, dChain, dAnd, dOr, dNot, dAndV, dOrV, dNotV, dNext, dStop, dDrop, dNil, dCons, dTup, dLst, dOwn, dCall, dUn, dPart, dNo, dSl, dMeth, dMeth0, dAug, dIce, dYes, wp_star, wp_dFn, w1, w2, wp_bind, wp_pure, wp_no, wp_var, wp_dC]
    refine wp_loopX lv.reverse (fun l => .d (LD l)) (fun zs Γ P => ∃ k, (Kp O P ∧ O.length ≤ k ∧ (∃ kvs, P[k]? = some (.dicT kvs) ∧ AllL O.length P 20000 kvs ∧ (zs.getLast? = some [[0]] → ∃ j z, lookT [] kvs = some (.own j) ∧ P[j]? = some (.lst [z])))) ∧ ∃ a b c d e, Γ = [some (.d (L2' ss)), some (.d (.lst (lv.map LD))), some (.own k), a, b, c, d, e]) (by simp) (fun _ _ _ _ => wk_ok) ⟨O.length, ⟨Kp.rfl.add _, Nat.le_refl _, [], by simp, (fun q hq => by cases hq), fun z => by simp at z⟩, _, _, _, _, _, rfl⟩ ?_ ?_
    · rintro zs l ys Γ P e ⟨k, ⟨hK, hk, kvs, hP, hA, _⟩, a, b, x, d, e0, rfl⟩
      have hll := hl l (by have := mem_of_split e; simpa using this)
      refine ⟨_, by simp; rfl, ?_⟩
      unfold B1_tree_of dNewT
      simp only [wp_fn, dSeq, dRet, dRetN, dSet, dPar, dAsg, dIfS, dIf, dBin, dTest, dChain, dAnd, dOr, dNot, dAndV, dOrV, dNotV, dNext, dStop, dDrop, dNil, dCons, dTup, dLst, dOwn, dCall, dUn, dPart, dNo, dSl, dMeth, dMeth0, dAug, dIce, dYes, wp_star, wp_dFn, w1, w2, wp_bind, wp_pure, wp_no, wp_var, wp_dC]
      simp only [List.set_cons_succ, List.set_cons_zero, wp_push]
      rw [wp_for, wp_it]
      simp only [wp_fn, dSeq, dRet, dRetN, dSet, dPar, dAsg, dIfS, dIf, dBin, dTest, dChain, dAnd, dOr, dNot, dAndV, dOrV, dNotV, dNext, dStop, dDrop, dNil, dCons, dTup, dLst, dOwn, dCall, dUn, dPart, dNo, dSl, dMeth, dMeth0, dAug, dIce, dYes, wp_star, wp_dFn, w1, w2, wp_bind, wp_pure, wp_no, wp_var, wp_dC, List.getElem?_cons_succ, List.getElem?_cons_zero, wp_wkL]
      have hkP : k < P.length := (List.getElem?_eq_some_iff.mp hP).1
      refine wp_loopX l (fun rs => .d (TI rs)) (fun us Γ P' => ∃ g t5 t6 t7, Γ = [some (.d (L2' ss)), some (.d (.lst (lv.map LD))), some (.own k), some (.d (LD l)), some (.own g), t5, t6, t7] ∧ Tin O P' k g us) (by simp) (fun _ _ _ _ => wk_ok) ⟨P.length, x, d, e0, by simp, ⟨hK.add _, hk, hK.len, by omega, ⟨kvs, by rw [List.getElem?_append_left hkP]; exact hP, fun q hq => (hA q hq).app _⟩, [], by simp, (fun q hq => by cases hq), by simp, fun z => by cases z⟩⟩ ?_ ?_
      · rintro us rs vs Γ P' e' ⟨g, t5, t6, t7, rfl, T⟩
        obtain ⟨h1, h2⟩ := hll.2 rs (mem_of_split e')
        have hul : us.length < 20000 := by
          have := congrArg List.length e'
          have := hll.1
          simp at *; omega
        refine ⟨[some (.d (L2' ss)), some (.d (.lst (lv.map LD))), some (.own k), some (.d (LD l)), some (.own g), some (.d (TI rs)), t6, t7], rfl, wp_mono (tree_step h h1 h2 h3 T hul) fun r O' hr => ?_⟩
        obtain ⟨fl, Γ'⟩ := r
        cases fl with
        | nx =>
          obtain ⟨g', u6, u7, e1, T'⟩ := hr
          exact ⟨g', _, _, _, e1, T'⟩
        | rt w => exact hr.elim
        | bk => exact hr.elim
        | ct => exact hr.elim
      · rintro Γ P' ⟨g, t5, t6, t7, rfl, T⟩
        simp only [List.getElem?_cons_succ, List.getElem?_cons_zero]
        obtain ⟨gv, hg, hgl, hgn, hlast⟩ := T.gr
        refine ⟨g, ⟨T.kp, T.go, gv, hg, fun q hq => (hgl q hq).up hll.1, fun z => ?_⟩, _, _, _, _, _, rfl⟩
        have e1 : l = [[0]] := by simpa using z
        exact hlast e1
    · rintro Γ P ⟨k, ⟨hK, hk, kvs, hP, hA, hlast⟩, a, b, x, d, e0, rfl⟩
      obtain ⟨r, rfl⟩ := h0
      obtain ⟨j, z, e1, e2⟩ := hlast (by simp)
      simp only [wp_fn, dSeq, dRet, dRetN, dSet, dPar, dAsg, dIfS, dIf, dBin, dTest, dChain, dAnd, dOr, dNot, dAndV, dOrV, dNotV, dNext, dStop, dDrop, dNil, dCons, dTup, dLst, dOwn, dCall, dUn, dPart, dNo, dSl, dMeth, dMeth0, dAug, dIce, dYes, wp_star, wp_dFn, w1, w2, wp_bind, wp_pure, wp_no, wp_var, wp_dC]
      simp only [List.getElem?_cons_succ, List.getElem?_cons_zero, wp_tup0]
      have e3 : wGetT (.own k) (.d (.tup [])) P = .ok (.own j) P := by
        unfold wGetT
        have : keyT (.tup []) = some [] := rfl
        simp only [hP, this, e1]
      rw [wp_eq e3]
      rw [wp_ix (wS_own e2) (atI_0 _ _)]
      simp [hK.take]
  obtain ⟨w, O', e, rfl, t, rfl⟩ := wp_out z
  exact ⟨t, e⟩
/-! ### rests_paper -/
def fines (ss : List (Int × Int)) (cs : List Int) : List (List Int) := (lvs ss cs).filter (fineLast ss)
theorem LL_rows (ss : List (Int × Int)) (cs : List Int) : ∀ l ∈ LL ss cs, ∃ zs ys, cs = zs ++ ys ∧ l = lvs ss zs := by
  have h : ∀ cs, ∀ l ∈ LLr ss cs, ∃ zs ys, cs.reverse = zs ++ ys ∧ l = lvs ss zs := by
    intro cs
    induction cs with
    | nil =>
      intro l hl
      have : l = [[0]] := by simpa [LLr] using hl
      exact ⟨[], [], rfl, this⟩
    | cons c cs ih =>
      intro l hl
      unfold LLr at hl
      rcases List.mem_append.mp hl with hl | hl
      · obtain ⟨zs, ys, e1, e2⟩ := ih l hl
        exact ⟨zs, ys ++ [c], by rw [List.reverse_cons, e1]; simp, e2⟩
      · rw [List.mem_singleton.mp hl]
        exact ⟨(c :: cs).reverse, [], by simp, by unfold lvs; rw [List.reverse_reverse]⟩
  have := h cs.reverse
  rwa [List.reverse_reverse] at this
theorem LL_head (ss : List (Int × Int)) (cs : List Int) : ∃ r, LL ss cs = [[0]] :: r := by
  have h : ∀ cs, ∃ r, LLr ss cs = [[0]] :: r := by
    intro cs
    induction cs with
    | nil => exact ⟨[], rfl⟩
    | cons c cs ih =>
      obtain ⟨r, e⟩ := ih
      exact ⟨r ++ [lvl ss (c :: cs)], by unfold LLr; rw [e]; rfl⟩
  exact h cs.reverse
theorem good_txt (x : Str) (h : PyData.strOk x = true) : D.good 60 (.str x) = true := h
theorem f_rests_paper {ss : List (Int × Int)} (h : ∀ p ∈ ss, Siz p) (h0 : ss ≠ []) (h3 : ss.length ≤ 6) (hr : ∀ c ∈ (rooms ss).drop 1, 1 ≤ c ∧ c ≤ 20000) (hf : Few ((rooms ss).drop 1)) (hw : ways ss ≤ 20000) :
    ∃ d, F_rests_paper A [.d (L2' ss)] O = .ok (.d (.tup [.str (if fines ss ((rooms ss).drop 1) = [] then "tree" else "rests"), d])) O := by
  have hlen : (rooms ss).length = ss.length := by unfold rooms; simp
  have hss : 0 < ss.length := List.length_pos_iff.mpr h0
  obtain ⟨C, hC⟩ : ∃ C, (rooms ss).drop 1 = C := ⟨_, rfl⟩
  have hfl := f_levels (A := A) (O := O) h h0 (by omega) hlen (fun c hc => ⟨by have := hr c hc; omega, (hr c hc).2⟩) hf
  have hClen : C.length + 1 = ss.length := by rw [← hC, List.length_drop, hlen]; omega
  rw [hC] at hr hf hfl
  obtain ⟨t, ht⟩ := f_tree (A := A) (O := O) (lv := LL ss C) h (by omega) (fun l hl => by
    obtain ⟨zs, ys, e1, rfl⟩ := LL_rows ss C l hl
    refine ⟨Nat.le_trans (lvs_len ss zs) (hf zs ys e1), fun rs hrs => ?_⟩
    have h1 := lvs_one ss zs rs hrs
    have h2 := congrArg List.length e1
    rw [List.length_append] at h2
    exact ⟨by intro z; rw [z] at h1; simp at h1, by omega⟩) (LL_head ss C) (by rw [LL_len]; omega)
  have hways : C.foldl (fun a b => a * b) 1 = ways ss := by unfold ways; rw [hC]
  rw [hC]
  have z : wp (F_rests_paper A [.d (L2' ss)]) O fun w O' => O' = O ∧ ∃ d, w = .d (.tup [.str (if fines ss C = [] then "tree" else "rests"), d]) := by
    unfold F_rests_paper d_rests_paper
    simp only [wp_fn, dSeq, dRet, dRetN, dSet, dPar, dAsg, dIfS, dIf, dBin, dTest, dChain, dAnd, dOr, dNot, dAndV, dOrV, dNotV, dNext, dStop, dDrop, dNil, dCons, dTup, dLst, dOwn, dCall, dUn, dPart, dNo, dSl, dMeth, dMeth0, dAug, dIce, dYes, wp_star, wp_dFn, w1, w2, wp_bind, wp_pure, wp_no, wp_var, wp_dC]
    simp [wp_fn, dSeq, dRet, dRetN, dSet, dPar, dAsg, dIfS, dIf, dBin, dTest, dChain, dAnd, dOr, dNot, dAndV, dOrV, dNotV, dNext, dStop, dDrop, dNil, dCons, dTup, dLst, dOwn, dCall, dUn, dPart, dNo, dSl, dMeth, dMeth0, dAug, dIce, dYes, wp_star, wp_dFn, w1, w2, wp_bind, wp_pure, wp_no, wp_var, wp_dC, f_need_sizes h (by omega) h3, f_rooms h (show ss.length ≤ 100 by omega)]
    rw [wp_for, wp_it]
    simp [wp_fn, dSeq, dRet, dRetN, dSet, dPar, dAsg, dIfS, dIf, dBin, dTest, dChain, dAnd, dOr, dNot, dAndV, dOrV, dNotV, dNext, dStop, dDrop, dNil, dCons, dTup, dLst, dOwn, dCall, dUn, dPart, dNo, dSl, dMeth, dMeth0, dAug, dIce, dYes, wp_star, wp_dFn, w1, w2, wp_bind, wp_pure, wp_no, wp_var, wp_dC]
    rw [wp_slL rfl, cut_tail]
    simp [wp_fn, dSeq, dRet, dRetN, dSet, dPar, dAsg, dIfS, dIf, dBin, dTest, dChain, dAnd, dOr, dNot, dAndV, dOrV, dNotV, dNext, dStop, dDrop, dNil, dCons, dTup, dLst, dOwn, dCall, dUn, dPart, dNo, dSl, dMeth, dMeth0, dAug, dIce, dYes, wp_star, wp_dFn, w1, w2, wp_bind, wp_pure, wp_no, wp_var, wp_dC]
    refine wp_loopX C (fun r => .d (.int r)) (fun zs Γ P => P = O ∧ ∃ a b c, Γ = [some (.d (L2' ss)), some (.d (.lst ((rooms ss).map D.int))), some (.d (.int (zs.foldl (fun a b => a * b) 1))), a, b, c]) (by rw [← hC]; simp; rfl) (fun _ _ _ _ => wk_ok) ⟨rfl, _, _, _, rfl⟩ ?_ ?_
    · rintro zs c ys Γ P e ⟨rfl, a, b, x, rfl⟩
      have hc := hr c (mem_of_split e)
      refine ⟨_, by simp; rfl, ?_⟩
      unfold B0_rests_paper
      simp [wp_fn, dSeq, dRet, dRetN, dSet, dPar, dAsg, dIfS, dIf, dBin, dTest, dChain, dAnd, dOr, dNot, dAndV, dOrV, dNotV, dNext, dStop, dDrop, dNil, dCons, dTup, dLst, dOwn, dCall, dUn, dPart, dNo, dSl, dMeth, dMeth0, dAug, dIce, dYes, wp_star, wp_dFn, w1, w2, wp_bind, wp_pure, wp_no, wp_var, wp_dC]
      rw [wp_mul (.inr (.inl ⟨by omega, by omega⟩))]
      simp
    · rintro Γ P ⟨rfl, a, b, x, rfl⟩
      rw [hways]
      simp only [wp_fn, dSeq, dRet, dRetN, dSet, dPar, dAsg, dIfS, dIf, dBin, dTest, dChain, dAnd, dOr, dNot, dAndV, dOrV, dNotV, dNext, dStop, dDrop, dNil, dCons, dTup, dLst, dOwn, dCall, dUn, dPart, dNo, dSl, dMeth, dMeth0, dAug, dIce, dYes, wp_star, wp_dFn, w1, w2, wp_bind, wp_pure, wp_no, wp_var, wp_dC]
      simp [wp_fn, dSeq, dRet, dRetN, dSet, dPar, dAsg, dIfS, dIf, dBin, dTest, dChain, dAnd, dOr, dNot, dAndV, dOrV, dNotV, dNext, dStop, dDrop, dNil, dCons, dTup, dLst, dOwn, dCall, dUn, dPart, dNo, dSl, dMeth, dMeth0, dAug, dIce, dYes, wp_star, wp_dFn, w1, w2, wp_bind, wp_pure, wp_no, wp_var, wp_dC, show ¬ 20000 < ways ss by omega]
      rw [wp_eq hfl]
      simp [wp_fn, dSeq, dRet, dRetN, dSet, dPar, dAsg, dIfS, dIf, dBin, dTest, dChain, dAnd, dOr, dNot, dAndV, dOrV, dNotV, dNext, dStop, dDrop, dNil, dCons, dTup, dLst, dOwn, dCall, dUn, dPart, dNo, dSl, dMeth, dMeth0, dAug, dIce, dYes, wp_star, wp_dFn, w1, w2, wp_bind, wp_pure, wp_no, wp_var, wp_dC]
      have hne : ∀ Φ, wp (wNe (.d (LD (fines ss C))) (.d (.lst []))) P Φ = Φ (.d (.bl (!(fines ss C).isEmpty))) P := fun Φ => by
        rw [wp_ne_nil rfl (good_rows _)]; simp
      have hne2 := hne
      unfold fines at hne2
      rw [hne2]
      show wp _ P _
      cases hfin : fines ss C with
      | nil =>
        unfold fines at hfin
        simp [wp_fn, dSeq, dRet, dRetN, dSet, dPar, dAsg, dIfS, dIf, dBin, dTest, dChain, dAnd, dOr, dNot, dAndV, dOrV, dNotV, dNext, dStop, dDrop, dNil, dCons, dTup, dLst, dOwn, dCall, dUn, dPart, dNo, dSl, dMeth, dMeth0, dAug, dIce, dYes, wp_star, wp_dFn, w1, w2, wp_bind, wp_pure, wp_no, wp_var, wp_dC, hfin]
        rw [wp_eq ht]
        simp
      | cons r0 rows =>
        unfold fines at hfin
        simp [wp_fn, dSeq, dRet, dRetN, dSet, dPar, dAsg, dIfS, dIf, dBin, dTest, dChain, dAnd, dOr, dNot, dAndV, dOrV, dNotV, dNext, dStop, dDrop, dNil, dCons, dTup, dLst, dOwn, dCall, dUn, dPart, dNo, dSl, dMeth, dMeth0, dAug, dIce, dYes, wp_star, wp_dFn, w1, w2, wp_bind, wp_pure, wp_no, wp_var, wp_dC, hfin]
        show wp (wIx (.d (.lst (TI r0 :: rows.map TI))) (.d (.int 0))) P _
        simp
  obtain ⟨w, O', e, rfl, d, rfl⟩ := wp_out z
  exact ⟨d, e⟩
end L74


set_option maxRecDepth 100000
set_option maxHeartbeats 2000000
/-! k74: common multiples, common solutions. -/
namespace L74
open PySem L2 VL
theorem lc_lcm {a b : Int} (ha : 0 < a) (hb : 0 < b) : Lc a b = ((Nat.lcm a.toNat b.toNat : Nat) : Int) := by
  obtain ⟨m, rfl⟩ := Int.eq_ofNat_of_zero_le (Int.le_of_lt ha)
  obtain ⟨n, rfl⟩ := Int.eq_ofNat_of_zero_le (Int.le_of_lt hb)
  show (m : Int) / ((Nat.gcd m n : Nat) : Int) * (n : Int) = ((Nat.lcm m n : Nat) : Int)
  have e : Nat.lcm m n = m / Nat.gcd m n * n := by
    unfold Nat.lcm
    rw [Nat.div_mul_right_comm (Nat.gcd_dvd_left m n)]
  rw [e, Int.natCast_mul, Int.natCast_ediv]
theorem toNat_dvd {a b : Int} (ha : 0 ≤ a) (hb : 0 ≤ b) : a.toNat ∣ b.toNat ↔ a ∣ b := by
  obtain ⟨m, rfl⟩ := Int.eq_ofNat_of_zero_le ha
  obtain ⟨n, rfl⟩ := Int.eq_ofNat_of_zero_le hb
  rw [Int.toNat_natCast, Int.toNat_natCast, Int.natCast_dvd_natCast]
theorem dvd_lc_left {a b : Int} (ha : 0 < a) (hb : 0 < b) : a ∣ Lc a b := by
  rw [lc_lcm ha hb]
  have := Int.natCast_dvd_natCast.mpr (Nat.dvd_lcm_left a.toNat b.toNat)
  rwa [Int.toNat_of_nonneg (Int.le_of_lt ha)] at this
theorem dvd_lc_right {a b : Int} (ha : 0 < a) (hb : 0 < b) : b ∣ Lc a b := by
  rw [lc_lcm ha hb]
  have := Int.natCast_dvd_natCast.mpr (Nat.dvd_lcm_right a.toNat b.toNat)
  rwa [Int.toNat_of_nonneg (Int.le_of_lt hb)] at this
theorem nat_dvd {n : Nat} {z : Int} : ((n : Nat) : Int) ∣ z ↔ n ∣ z.natAbs := by
  rw [← Int.natAbs_dvd_natAbs, Int.natAbs_natCast]
theorem lc_dvd {a b m : Int} (ha : 0 < a) (hb : 0 < b) (h1 : a ∣ m) (h2 : b ∣ m) : Lc a b ∣ m := by
  rw [lc_lcm ha hb]
  have e1 : a.toNat ∣ m.natAbs := by
    have : a.natAbs ∣ m.natAbs := Int.natAbs_dvd_natAbs.mpr h1
    rwa [show a.natAbs = a.toNat by omega] at this
  have e2 : b.toNat ∣ m.natAbs := by
    have : b.natAbs ∣ m.natAbs := Int.natAbs_dvd_natAbs.mpr h2
    rwa [show b.natAbs = b.toNat by omega] at this
  exact nat_dvd.mpr (Nat.lcm_dvd e1 e2)
theorem g_dvd_left (a b : Int) : G a b ∣ a := Int.gcd_dvd_left ..
theorem g_dvd_right (a b : Int) : G a b ∣ b := Int.gcd_dvd_right ..
theorem dvd_g {a b m : Int} (h1 : m ∣ a) (h2 : m ∣ b) : m ∣ G a b := Int.dvd_coe_gcd h1 h2
/-- gcd over lcm -/
theorem gcd_lcm_dvd (a b m X : Nat) (ha : 0 < a) (h1 : Nat.gcd a m ∣ X) (h2 : Nat.gcd b m ∣ X) : Nat.gcd (Nat.lcm a b) m ∣ X := by
  refine Nat.dvd_trans ?_ (Nat.lcm_dvd h1 h2)
  -- y = gcd (lcm a b) m, z = gcd (gcd a m) (gcd b m)
  have hz : 0 < Nat.gcd (Nat.gcd a m) (Nat.gcd b m) := Nat.gcd_pos_of_pos_left _ (Nat.gcd_pos_of_pos_left _ ha)
  have key : Nat.gcd (Nat.lcm a b) m * Nat.gcd (Nat.gcd a m) (Nat.gcd b m) ∣ Nat.gcd a m * Nat.gcd b m := by
    have za : Nat.gcd (Nat.gcd a m) (Nat.gcd b m) ∣ a := Nat.dvd_trans (Nat.gcd_dvd_left _ _) (Nat.gcd_dvd_left _ _)
    have zm : Nat.gcd (Nat.gcd a m) (Nat.gcd b m) ∣ m := Nat.dvd_trans (Nat.gcd_dvd_left _ _) (Nat.gcd_dvd_right _ _)
    have zb : Nat.gcd (Nat.gcd a m) (Nat.gcd b m) ∣ b := Nat.dvd_trans (Nat.gcd_dvd_right _ _) (Nat.gcd_dvd_left _ _)
    have ym : Nat.gcd (Nat.lcm a b) m ∣ m := Nat.gcd_dvd_right _ _
    have yl : Nat.gcd (Nat.lcm a b) m ∣ Nat.lcm a b := Nat.gcd_dvd_left _ _
    have zg : Nat.gcd (Nat.gcd a m) (Nat.gcd b m) ∣ Nat.gcd a b := Nat.dvd_gcd za zb
    have h_ab : Nat.gcd (Nat.lcm a b) m * Nat.gcd (Nat.gcd a m) (Nat.gcd b m) ∣ a * b := by
      rw [← Nat.gcd_mul_lcm a b, Nat.mul_comm (Nat.gcd a b)]
      exact Nat.mul_dvd_mul yl zg
    have h_am : Nat.gcd (Nat.lcm a b) m * Nat.gcd (Nat.gcd a m) (Nat.gcd b m) ∣ a * m := by
      rw [Nat.mul_comm a m]; exact Nat.mul_dvd_mul ym za
    have h_mb : Nat.gcd (Nat.lcm a b) m * Nat.gcd (Nat.gcd a m) (Nat.gcd b m) ∣ m * b := Nat.mul_dvd_mul ym zb
    have h_mm : Nat.gcd (Nat.lcm a b) m * Nat.gcd (Nat.gcd a m) (Nat.gcd b m) ∣ m * m := Nat.mul_dvd_mul ym zm
    have e : Nat.gcd a m * Nat.gcd b m = Nat.gcd (Nat.gcd (a * b) (m * b)) (Nat.gcd (a * m) (m * m)) := by
      rw [Nat.gcd_mul_right a b m, Nat.gcd_mul_right a m m, Nat.gcd_mul_left]
    rw [e]
    exact Nat.dvd_gcd (Nat.dvd_gcd h_ab h_mb) (Nat.dvd_gcd h_am h_mm)
  have e2 : Nat.gcd a m * Nat.gcd b m = Nat.lcm (Nat.gcd a m) (Nat.gcd b m) * Nat.gcd (Nat.gcd a m) (Nat.gcd b m) := by
    rw [Nat.mul_comm (Nat.lcm _ _), Nat.gcd_mul_lcm]
  rw [e2] at key
  exact Nat.dvd_of_mul_dvd_mul_right hz key
theorem g_lc_dvd {a b m X : Int} (ha : 0 < a) (hb : 0 < b) (hm : 0 < m) (h1 : G a m ∣ X) (h2 : G b m ∣ X) : G (Lc a b) m ∣ X := by
  rw [lc_lcm ha hb]
  have f : ∀ {c : Int}, 0 < c → (G c m ∣ X ↔ Nat.gcd c.toNat m.toNat ∣ X.natAbs) := fun {c} hc => by
    have : G c m = ((Nat.gcd c.toNat m.toNat : Nat) : Int) := by
      show ((Nat.gcd c.natAbs m.natAbs : Nat) : Int) = _
      rw [show c.natAbs = c.toNat by omega, show m.natAbs = m.toNat by omega]
    rw [this]
    exact nat_dvd
  have hl : 0 < ((Nat.lcm a.toNat b.toNat : Nat) : Int) := by
    have := Nat.lcm_pos (show 0 < a.toNat by omega) (show 0 < b.toNat by omega)
    omega
  rw [f hl, Int.toNat_natCast]
  exact gcd_lcm_dvd _ _ _ _ (by omega) ((f ha).mp h1) ((f hb).mp h2)
theorem bezout : ∀ (a b : Nat), ∃ u v : Int, ((Nat.gcd a b : Nat) : Int) = a * u + b * v := by
  intro a b
  induction a, b using Nat.gcd.induction with
  | H0 n => exact ⟨0, 1, by simp⟩
  | H1 m n hm ih =>
    obtain ⟨u, v, e⟩ := ih
    refine ⟨v - (n / m : Nat) * u, u, ?_⟩
    rw [Nat.gcd_rec, e]
    have e2 : (n : Int) = (n % m : Nat) + (m : Int) * (n / m : Nat) := by
      have := Nat.mod_add_div n m
      have h2 := congrArg (fun z : Nat => (z : Int)) this
      simp only [Int.natCast_add, Int.natCast_mul] at h2
      exact h2.symm
    generalize ((n % m : Nat) : Int) = r at e2 ⊢
    generalize ((n / m : Nat) : Int) = q at e2 ⊢
    rw [e2]
    grind
theorem meet {M m x a : Int} (hM : 0 < M) (hm : 0 < m) (h : G M m ∣ x - a) : ∃ y, M ∣ y - x ∧ m ∣ y - a := by
  obtain ⟨w, hw⟩ := h
  obtain ⟨u, v, e⟩ := bezout M.toNat m.toNat
  have eG : G M m = ((Nat.gcd M.toNat m.toNat : Nat) : Int) := by
    show ((Nat.gcd M.natAbs m.natAbs : Nat) : Int) = _
    rw [show M.natAbs = M.toNat by omega, show m.natAbs = m.toNat by omega]
  rw [eG, e, Int.toNat_of_nonneg (Int.le_of_lt hM), Int.toNat_of_nonneg (Int.le_of_lt hm)] at hw
  refine ⟨x - M * u * w, ⟨-(u * w), by grind⟩, ⟨v * w, by grind⟩⟩
/-- x and y go together at all of ms -/
def roomL (p : Int) (ms : List Int) : Int := ms.foldl (fun a m => Lc a (G p m)) 1
theorem fold_pos {p : Int} : ∀ {ms : List Int} {a : Int}, (∀ m ∈ ms, 0 < m) → 0 < a → 0 < ms.foldl (fun a m => Lc a (G p m)) a
  | [], a, _, ha => ha
  | m :: ms, a, h, ha => by
    show 0 < ms.foldl (fun a m => Lc a (G p m)) (Lc a (G p m))
    exact fold_pos (fun q hq => h q (List.mem_cons_of_mem _ hq)) (lc_pos ha (g_pos (h m List.mem_cons_self)))
theorem roomL_pos {p : Int} {ms : List Int} (h : ∀ m ∈ ms, 0 < m) : 0 < roomL p ms := fold_pos h (by decide)
theorem fold_dvd {p X : Int} : ∀ {ms : List Int} {a : Int}, (∀ m ∈ ms, 0 < m) → 0 < a → a ∣ X → (∀ m ∈ ms, G p m ∣ X) → ms.foldl (fun a m => Lc a (G p m)) a ∣ X
  | [], a, _, _, h, _ => h
  | m :: ms, a, hp, ha, h, hm => by
    show ms.foldl (fun a m => Lc a (G p m)) (Lc a (G p m)) ∣ X
    have hg := g_pos (a := p) (hp m List.mem_cons_self)
    exact fold_dvd (fun q hq => hp q (List.mem_cons_of_mem _ hq)) (lc_pos ha hg) (lc_dvd ha hg h (hm m List.mem_cons_self)) fun q hq => hm q (List.mem_cons_of_mem _ hq)
theorem roomL_dvd {p X : Int} {ms : List Int} (hp : ∀ m ∈ ms, 0 < m) (h : ∀ m ∈ ms, G p m ∣ X) : roomL p ms ∣ X := fold_dvd hp (by decide) (Int.one_dvd X) h
theorem dvd_fold {p : Int} : ∀ {ms : List Int} {a : Int}, (∀ m ∈ ms, 0 < m) → 0 < a → a ∣ ms.foldl (fun a m => Lc a (G p m)) a ∧ ∀ m ∈ ms, G p m ∣ ms.foldl (fun a m => Lc a (G p m)) a
  | [], a, _, _ => ⟨Int.dvd_refl a, fun m hm => by cases hm⟩
  | m :: ms, a, hp, ha => by
    have hg := g_pos (a := p) (hp m List.mem_cons_self)
    obtain ⟨h1, h2⟩ := dvd_fold (p := p) (ms := ms) (a := Lc a (G p m)) (fun q hq => hp q (List.mem_cons_of_mem _ hq)) (lc_pos ha hg)
    refine ⟨Int.dvd_trans (dvd_lc_left ha hg) h1, fun q hq => ?_⟩
    rcases List.mem_cons.mp hq with rfl | hq
    · exact Int.dvd_trans (dvd_lc_right ha hg) h1
    · exact h2 q hq
theorem dvd_roomL {p : Int} {ms : List Int} (hp : ∀ m ∈ ms, 0 < m) : ∀ m ∈ ms, G p m ∣ roomL p ms := (dvd_fold hp (by decide)).2
/-- common solutions: for pairs (m, a) that go together two by two -/
theorem crt {p : Int} (hp : 0 < p) : ∀ (ms : List (Int × Int)) (M x : Int), 0 < M → (∀ q ∈ ms, 0 < q.1) → (∀ q ∈ ms, G M (G p q.1) ∣ x - q.2) → ms.Pairwise (fun q r => G (G p q.1) (G p r.1) ∣ q.2 - r.2) →
    ∃ y, M ∣ y - x ∧ ∀ q ∈ ms, G p q.1 ∣ y - q.2
  | [], M, x, _, _, _, _ => ⟨x, by simp, fun q hq => by cases hq⟩
  | q :: ms, M, x, hM, hpos, h1, h2 => by
    have hg := g_pos (a := p) (hpos q List.mem_cons_self)
    obtain ⟨y, hy1, hy2⟩ := meet hM hg (h1 q List.mem_cons_self)
    obtain ⟨h3, h4⟩ := List.pairwise_cons.mp h2
    obtain ⟨z, hz1, hz2⟩ := crt hp ms (Lc M (G p q.1)) y (lc_pos hM hg) (fun r hr => hpos r (List.mem_cons_of_mem _ hr)) (fun r hr => by
      have hgr := g_pos (a := p) (hpos r (List.mem_cons_of_mem _ hr))
      refine g_lc_dvd hM hg hgr ?_ ?_
      · have e : y - r.2 = (y - x) + (x - r.2) := by omega
        rw [e]
        exact Int.dvd_add (Int.dvd_trans (g_dvd_left _ _) hy1) (h1 r (List.mem_cons_of_mem _ hr))
      · have e : y - r.2 = (y - q.2) + (q.2 - r.2) := by omega
        rw [e]
        exact Int.dvd_add (Int.dvd_trans (g_dvd_left _ _) hy2) (h3 r hr)) h4
    refine ⟨z, ?_, fun r hr => ?_⟩
    · have e : z - x = (z - y) + (y - x) := by omega
      rw [e]
      exact Int.dvd_add (Int.dvd_trans (dvd_lc_left hM hg) hz1) hy1
    · rcases List.mem_cons.mp hr with rfl | hr
      · have e : z - r.2 = (z - y) + (y - r.2) := by omega
        rw [e]
        exact Int.dvd_add (Int.dvd_trans (dvd_lc_right hM hg) hz1) hy2
      · exact hz2 r hr
end L74


set_option maxRecDepth 100000
set_option maxHeartbeats 2000000
/-! k74: free rests, jobs put in one by one, what clashes. -/
namespace L74
open PySem L2 VL
variable {A : Str → Addr} {O : Sto} {Φ : W → Sto → Prop}
theorem bls_map : ∀ bs : List Bool, blsOf (bs.map D.bl) = some bs
  | [] => rfl
  | b :: bs => by
    show blsOf (.bl b :: bs.map D.bl) = _
    unfold blsOf
    rw [bls_map bs]; rfl
theorem ints_map : ∀ ns : List Int, intsOf (ns.map D.int) = some ns
  | [] => rfl
  | b :: bs => by
    show intsOf (.int b :: bs.map D.int) = _
    unfold intsOf
    rw [ints_map bs]; rfl
theorem wp_all {bs : List Bool} (O : Sto) (Φ : W → Sto → Prop) : wp (wAll (.d (.lst (bs.map D.bl)))) O Φ = Φ (.d (.bl (bs.all id))) O := by
  unfold wp wAll wBls
  simp only [wL_lst, bls_map]
theorem wp_sum {ns : List Int} (O : Sto) (Φ : W → Sto → Prop) : wp (wSum (.d (.lst (ns.map D.int)))) O Φ = Φ (.d (.int ns.sum)) O := by
  unfold wp wSum wInts
  simp only [wL_lst, ints_map]
  rfl
abbrev per (ls : List (Int × Int × Int)) : List Int := ls.map fun j => j.2.1
def freeOk (p l : Int) (ls : List (Int × Int × Int)) (r : Nat) : Bool := ls.all fun j => Ap j (((r : Nat) : Int), p, l)
def freeOf (p l : Int) (ls : List (Int × Int × Int)) : List Int := ((List.range (roomL p (per ls)).toNat).filter (freeOk p l ls)).map fun (r : Nat) => ((r : Nat) : Int)
theorem roomL_per (p : Int) (ls : List (Int × Int × Int)) : roomL p (per ls) = ls.foldl (fun a j => Lc a (G p j.2.1)) 1 := by
  unfold roomL; rw [List.foldl_map]
theorem per_pos {ls : List (Int × Int × Int)} (h : ∀ q ∈ ls, Lng q) : ∀ m ∈ per ls, 0 < m := fun m hm => by
  obtain ⟨q, hq, rfl⟩ := List.mem_map.mp hm
  have := (h q hq).1; omega
theorem f_free {ls : List (Int × Int × Int)} {p l : Int} (h : ∀ q ∈ ls, Lng q) (h1 : 1 ≤ ls.length) (h2 : ls.length ≤ 12) (hp : 1 ≤ p ∧ p ≤ 1000000000000) (hl : 1 ≤ l ∧ l ≤ p) (hr : roomL p (per ls) ≤ 1000000) :
    F_free_rests A [.d (L3 ls), .d (.int p), .d (.int l)] O = .ok (.d (.tup [.int (roomL p (per ls)), .tup ((freeOf p l ls).map D.int)])) O := by
  have hpos := roomL_pos (p := p) (per_pos h)
  obtain ⟨R, hR⟩ : ∃ R, roomL p (per ls) = R := ⟨_, rfl⟩
  have hfree : freeOf p l ls = ((List.range R.toNat).filter (freeOk p l ls)).map fun (r : Nat) => ((r : Nat) : Int) := by unfold freeOf; rw [hR]
  rw [hfree]
  rw [hR] at hr hpos ⊢
  refine eq_of_wp ?_
  unfold F_free_rests d_free_rests
  simp only [wp_fn, dSeq, dRet, dRetN, dSet, dPar, dAsg, dIfS, dIf, dBin, dTest, dChain, dAnd, dOr, dNot, dAndV, dOrV, dNotV, dNext, dStop, dDrop, dNil, dCons, dTup, dLst, dOwn, dCall, dUn, dPart, dNo, dSl, dMeth, dMeth0, dAug, dIce, dYes, wp_star, wp_dFn, w1, w2, wp_bind, wp_pure, wp_no, wp_var, wp_dC]
  simp [wp_fn, dSeq, dRet, dRetN, dSet, dPar, dAsg, dIfS, dIf, dBin, dTest, dChain, dAnd, dOr, dNot, dAndV, dOrV, dNotV, dNext, dStop, dDrop, dNil, dCons, dTup, dLst, dOwn, dCall, dUn, dPart, dNo, dSl, dMeth, dMeth0, dAug, dIce, dYes, wp_star, wp_dFn, w1, w2, wp_bind, wp_pure, wp_no, wp_var, wp_dC, f_need_longs h h1 h2, f_is_between, hp, hl]
  rw [wp_for, wp_it]
  simp [wp_fn, dSeq, dRet, dRetN, dSet, dPar, dAsg, dIfS, dIf, dBin, dTest, dChain, dAnd, dOr, dNot, dAndV, dOrV, dNotV, dNext, dStop, dDrop, dNil, dCons, dTup, dLst, dOwn, dCall, dUn, dPart, dNo, dSl, dMeth, dMeth0, dAug, dIce, dYes, wp_star, wp_dFn, w1, w2, wp_bind, wp_pure, wp_no, wp_var, wp_dC]
  refine wp_loopX ls (fun j => .d (d3 j)) (fun zs Γ P => P = O ∧ ∃ a b c, Γ = [some (.d (L3 ls)), some (.d (.int p)), some (.d (.int l)), some (.d (.int (zs.foldl (fun a j => Lc a (G p j.2.1)) 1))), a, b, c]) rfl (fun _ _ _ _ => wk_ok) ⟨rfl, _, _, _, rfl⟩ ?_ ?_
  · rintro zs q ys Γ P e ⟨rfl, a, b, c, rfl⟩
    have hq := (h q (mem_of_split e)).1
    have hz : 0 < zs.foldl (fun a j => Lc a (G p j.2.1)) 1 := by
      rw [← roomL_per]
      exact roomL_pos (per_pos fun r hr => h r (by rw [e]; simp [hr]))
    have hg := g_pos (a := p) (show 0 < q.2.1 by omega)
    have hg2 := g_le (a := p) (show 0 < q.2.1 by omega)
    refine ⟨_, by simp; rfl, ?_⟩
    unfold B0_free_rests
    simp [wp_fn, dSeq, dRet, dRetN, dSet, dPar, dAsg, dIfS, dIf, dBin, dTest, dChain, dAnd, dOr, dNot, dAndV, dOrV, dNotV, dNext, dStop, dDrop, dNil, dCons, dTup, dLst, dOwn, dCall, dUn, dPart, dNo, dSl, dMeth, dMeth0, dAug, dIce, dYes, wp_star, wp_dFn, w1, w2, wp_bind, wp_pure, wp_no, wp_var, wp_dC, f_gcd (show 0 ≤ p by omega) (show 0 ≤ q.2.1 by omega), f_multiple (Int.le_of_lt hz) hg (show G p q.2.1 < 2 ^ 64 by omega)]
  · rintro Γ P ⟨rfl, a, b, c, rfl⟩
    rw [← roomL_per, hR]
    simp only [wp_fn, dSeq, dRet, dRetN, dSet, dPar, dAsg, dIfS, dIf, dBin, dTest, dChain, dAnd, dOr, dNot, dAndV, dOrV, dNotV, dNext, dStop, dDrop, dNil, dCons, dTup, dLst, dOwn, dCall, dUn, dPart, dNo, dSl, dMeth, dMeth0, dAug, dIce, dYes, wp_star, wp_dFn, w1, w2, wp_bind, wp_pure, wp_no, wp_var, wp_dC]
    simp [wp_fn, dSeq, dRet, dRetN, dSet, dPar, dAsg, dIfS, dIf, dBin, dTest, dChain, dAnd, dOr, dNot, dAndV, dOrV, dNotV, dNext, dStop, dDrop, dNil, dCons, dTup, dLst, dOwn, dCall, dUn, dPart, dNo, dSl, dMeth, dMeth0, dAug, dIce, dYes, wp_star, wp_dFn, w1, w2, wp_bind, wp_pure, wp_no, wp_var, wp_dC, show ¬ 1000000 < R by omega]
    rw [wp_lcD]
    refine wp_rng1 (j := R) ?_
    simp [wp_fn, dSeq, dRet, dRetN, dSet, dPar, dAsg, dIfS, dIf, dBin, dTest, dChain, dAnd, dOr, dNot, dAndV, dOrV, dNotV, dNext, dStop, dDrop, dNil, dCons, dTup, dLst, dOwn, dCall, dUn, dPart, dNo, dSl, dMeth, dMeth0, dAug, dIce, dYes, wp_star, wp_dFn, w1, w2, wp_bind, wp_pure, wp_no, wp_var, wp_dC, wipeG]
    have line := line_big
    refine ⟨⟨by omega, by omega⟩, ?_⟩
    refine wp_lc (fun r : Nat => .d (.int (r : Nat))) (fun r => if freeOk p l ls r then some (.int ((r : Nat) : Int)) else none) (List.range R.toNat) (rng01 _) wk_ok (by simp; omega) (fun r _ => ⟨_, by simp; rfl, ?_⟩) ?_
    · simp only [wp_fn, dSeq, dRet, dRetN, dSet, dPar, dAsg, dIfS, dIf, dBin, dTest, dChain, dAnd, dOr, dNot, dAndV, dOrV, dNotV, dNext, dStop, dDrop, dNil, dCons, dTup, dLst, dOwn, dCall, dUn, dPart, dNo, dSl, dMeth, dMeth0, dAug, dIce, dYes, wp_star, wp_dFn, w1, w2, wp_bind, wp_pure, wp_no, wp_var, wp_dC]
      rw [wp_lcD, wp_it]
      simp [wp_fn, dSeq, dRet, dRetN, dSet, dPar, dAsg, dIfS, dIf, dBin, dTest, dChain, dAnd, dOr, dNot, dAndV, dOrV, dNotV, dNext, dStop, dDrop, dNil, dCons, dTup, dLst, dOwn, dCall, dUn, dPart, dNo, dSl, dMeth, dMeth0, dAug, dIce, dYes, wp_star, wp_dFn, w1, w2, wp_bind, wp_pure, wp_no, wp_var, wp_dC, wipeG]
      refine wp_lc (fun j => .d (d3 j)) (fun j => some (.bl (Ap j (((r : Nat) : Int), p, l)))) ls rfl wk_ok (by omega) (fun j hj => ⟨_, by simp; rfl, ?_⟩) ?_
      · simp [wp_fn, dSeq, dRet, dRetN, dSet, dPar, dAsg, dIfS, dIf, dBin, dTest, dChain, dAnd, dOr, dNot, dAndV, dOrV, dNotV, dNext, dStop, dDrop, dNil, dCons, dTup, dLst, dOwn, dCall, dUn, dPart, dNo, dSl, dMeth, dMeth0, dAug, dIce, dYes, wp_star, wp_dFn, w1, w2, wp_bind, wp_pure, wp_no, wp_var, wp_dC]
        have e4 : ∀ Φ, wp (F_keeps_apart A [.d (d3 j), .d (.tup [.int ((r : Nat) : Int), .int p, .int l])]) P Φ = Φ (.d (.bl (Ap j (((r : Nat) : Int), p, l)))) P := fun Φ => f_keeps_apart (A := A) (p := j) (q := (((r : Nat) : Int), p, l)) (h j hj).1.1 hp.1
        rw [e4]
        simp
      · have e1 : List.filterMap (fun j => some (D.bl (Ap j (((r : Nat) : Int), p, l)))) ls = (ls.map fun j => Ap j (((r : Nat) : Int), p, l)).map D.bl := by
          show List.filterMap (some ∘ fun j => D.bl (Ap j (((r : Nat) : Int), p, l))) ls = _
          rw [List.filterMap_eq_map, List.map_map]; rfl
        rw [e1]
        rw [wp_all]
        have e2 : (ls.map fun j => Ap j (((r : Nat) : Int), p, l)).all id = freeOk p l ls r := by
          unfold freeOk; rw [List.all_map]; rfl
        rw [e2]
        cases hb : freeOk p l ls r with
        | true => simp
        | false => simp
    · have e1 : List.filterMap (fun r : Nat => if freeOk p l ls r = true then some (D.int ((r : Nat) : Int)) else none) (List.range R.toNat) = (((List.range R.toNat).filter (freeOk p l ls)).map fun (r : Nat) => ((r : Nat) : Int)).map D.int := by
        induction List.range R.toNat with
        | nil => rfl
        | cons x xs ih =>
          cases hx : freeOk p l ls x with
          | true => simp [hx, ih]
          | false => simp [hx, ih]
      rw [e1]
      rw [wp_tuple rfl]
      simp
/-! ### put in one by one -/
def grow (s : Int × Int) (row : List (Int × Int × Int)) : List (List (Int × Int × Int)) := (freeOf s.1 s.2 row).map fun r => row ++ [(r, s.1, s.2)]
def pinR (s0 : Int × Int) : List (Int × Int) → List (List (Int × Int × Int))
  | [] => [[(0, s0.1, s0.2)]]
  | s :: rest => (pinR s0 rest).flatMap (grow s)
def pin (s0 : Int × Int) (rest : List (Int × Int)) : List (List (Int × Int × Int)) := pinR s0 rest.reverse
theorem pin_snoc (s0 : Int × Int) (zs : List (Int × Int)) (s : Int × Int) : pin s0 (zs ++ [s]) = (pin s0 zs).flatMap (grow s) := by
  unfold pin
  rw [List.reverse_append]
  rfl
abbrev szs (row : List (Int × Int × Int)) : List (Int × Int) := row.map fun j => (j.2.1, j.2.2)
theorem free_mem {p l r : Int} {ls : List (Int × Int × Int)} (h : r ∈ freeOf p l ls) : 0 ≤ r ∧ r < roomL p (per ls) ∧ ∀ j ∈ ls, Ap j (r, p, l) = true := by
  unfold freeOf at h
  obtain ⟨n, hn, rfl⟩ := List.mem_map.mp h
  obtain ⟨h1, h2⟩ := List.mem_filter.mp hn
  have h1 := List.mem_range.mp h1
  exact ⟨by omega, by omega, fun j hj => List.all_eq_true.mp h2 j hj⟩
theorem room_le {p : Int} {ls : List (Int × Int × Int)} (h : ∀ q ∈ ls, Lng q) (hp : 0 < p) : roomL p (per ls) ≤ p := Int.le_of_dvd hp (roomL_dvd (per_pos h) fun m _ => g_dvd_left p m)
theorem pin_rows {s0 : Int × Int} (h0 : Siz s0) : ∀ (rest : List (Int × Int)), (∀ s ∈ rest, Siz s) → ∀ row ∈ pinR s0 rest, szs row = s0 :: rest.reverse ∧ (∀ j ∈ row, Lng j) ∧ row.Pairwise (fun i j => Ap i j = true)
  | [], _, row, h => by
    have : row = [(0, s0.1, s0.2)] := by simpa [pinR] using h
    subst this
    obtain ⟨⟨a, b⟩, c, d⟩ := h0
    refine ⟨rfl, fun j hj => ?_, List.pairwise_singleton _ _⟩
    rw [List.mem_singleton.mp hj]
    exact ⟨⟨a, b⟩, ⟨Int.le_refl 0, by show (0 : Int) < s0.1; omega⟩, c, d⟩
  | s :: rest, hs, row, h => by
    unfold pinR at h
    obtain ⟨row0, h1, h2⟩ := List.mem_flatMap.mp h
    obtain ⟨r, hr, rfl⟩ := List.mem_map.mp h2
    obtain ⟨e1, e2, e3⟩ := pin_rows h0 rest (fun x hx => hs x (List.mem_cons_of_mem _ hx)) row0 h1
    obtain ⟨⟨a, b⟩, c, d⟩ := hs s List.mem_cons_self
    obtain ⟨k1, k2, k3⟩ := free_mem hr
    have hrm := room_le (p := s.1) e2 (by omega)
    refine ⟨?_, fun j hj => ?_, List.pairwise_append.mpr ⟨e3, List.pairwise_singleton _ _, fun i hi j hj => ?_⟩⟩
    · show (row0 ++ [(r, s.1, s.2)]).map (fun j => (j.2.1, j.2.2)) = _
      rw [List.map_append, show row0.map (fun j => (j.2.1, j.2.2)) = s0 :: rest.reverse from e1]
      simp
    · rcases List.mem_append.mp hj with hj | hj
      · exact e2 j hj
      · rw [List.mem_singleton.mp hj]
        exact ⟨⟨a, b⟩, ⟨k1, by show r < s.1; omega⟩, c, d⟩
    · rw [List.mem_singleton.mp hj]
      exact k3 i hi
theorem pin_row {s0 : Int × Int} {zs : List (Int × Int)} (h0 : Siz s0) (hs : ∀ s ∈ zs, Siz s) {row : List (Int × Int × Int)} (h : row ∈ pin s0 zs) : szs row = s0 :: zs ∧ (∀ j ∈ row, Lng j) ∧ row.Pairwise (fun i j => Ap i j = true) := by
  have := pin_rows h0 zs.reverse (fun s hs' => hs s (by simpa using hs')) row h
  rwa [List.reverse_reverse] at this
abbrev LD3 (rows : List (List (Int × Int × Int))) : D := .lst (rows.map L3)
theorem grow_len (s : Int × Int) (row : List (Int × Int × Int)) {c : Int} (h : roomL s.1 (per row) ≤ c) : (grow s row).length ≤ c.toNat := by
  unfold grow freeOf
  rw [List.length_map, List.length_map]
  refine Nat.le_trans (List.length_filter_le _ _) ?_
  rw [List.length_range]
  omega
theorem flat_le {B C : Type} (f : B → List C) (n : Nat) : ∀ (l : List B), (∀ x ∈ l, (f x).length ≤ n) → (l.flatMap f).length ≤ l.length * n
  | [], _ => by simp
  | x :: l, h => by
    rw [List.flatMap_cons, List.length_append, List.length_cons, Nat.add_mul]
    have := flat_le f n l fun y hy => h y (List.mem_cons_of_mem _ hy)
    have := h x List.mem_cons_self
    omega
/-- the bounds of rooms -/
def Bnd (s0 : Int × Int) (rest : List (Int × Int)) (cs : List Int) : Prop := ∀ zs s ys, rest = zs ++ s :: ys → ∃ us c vs, cs = us ++ c :: vs ∧ us.length = zs.length ∧ roomL s.1 ((s0 :: zs).map fun x => x.1) ≤ c
theorem per_szs (row : List (Int × Int × Int)) : per row = (szs row).map fun x => x.1 := by
  rw [List.map_map]; rfl
theorem pin_len {s0 : Int × Int} {rest : List (Int × Int)} {cs : List Int} (h0 : Siz s0) (hs : ∀ s ∈ rest, Siz s) (hb : Bnd s0 rest cs) : ∀ (zs ys : List (Int × Int)), rest = zs ++ ys → (pin s0 zs).length ≤ pn (cs.take zs.length) := by
  intro zs
  induction hz : zs.length generalizing zs with
  | zero =>
    intro ys e
    have : zs = [] := List.length_eq_zero_iff.mp hz
    subst this
    simp [pin, pinR, pn]
  | succ n ih =>
    intro ys e
    obtain ⟨z1, s, rfl⟩ : ∃ z1 s, zs = z1 ++ [s] := by
      have hne : zs ≠ [] := by intro q; rw [q] at hz; simp at hz
      exact ⟨zs.dropLast, zs.getLast hne, (List.dropLast_concat_getLast hne).symm⟩
    have hz1 : z1.length = n := by simpa using hz
    rw [List.append_assoc] at e
    have ih' := ih z1 hz1 (s :: ys) e
    obtain ⟨us, c, vs, e2, e3, e4⟩ := hb z1 s ys e
    rw [pin_snoc]
    have h1 := flat_le (grow s) c.toNat (pin s0 z1) fun row hrow => by
      have hr := pin_row h0 (fun x hx => hs x (by rw [e]; simp [hx])) hrow
      refine grow_len s row ?_
      rw [per_szs, hr.1]; exact e4
    have e5 : cs.take (n + 1) = cs.take n ++ [c] := by
      rw [e2]
      have : n = us.length := by omega
      subst this
      rw [List.take_length_add_append]
      simp
    rw [e5, pn_snoc]
    exact Nat.le_trans h1 (Nat.mul_le_mul_right _ ih')
theorem f_put_in {s0 : Int × Int} {rest : List (Int × Int)} {cs : List Int} (h0 : Siz s0) (hs : ∀ s ∈ rest, Siz s) (hl : rest.length ≤ 11) (hb : Bnd s0 rest cs) (hf : Few cs) (hc : ∀ c ∈ cs, c ≤ 20000) :
    F_z_put_in A [.d (L2' (s0 :: rest))] O = .ok (.d (LD3 (pin s0 rest))) O := by
  refine eq_of_wp ?_
  unfold F_z_put_in d_z_put_in
  simp only [wp_fn, dSeq, dRet, dRetN, dSet, dPar, dAsg, dIfS, dIf, dBin, dTest, dChain, dAnd, dOr, dNot, dAndV, dOrV, dNotV, dNext, dStop, dDrop, dNil, dCons, dTup, dLst, dOwn, dCall, dUn, dPart, dNo, dSl, dMeth, dMeth0, dAug, dIce, dYes, wp_star, wp_dFn, w1, w2, wp_bind, wp_pure, wp_no, wp_var, wp_dC]
  simp [wp_fn, dSeq, dRet, dRetN, dSet, dPar, dAsg, dIfS, dIf, dBin, dTest, dChain, dAnd, dOr, dNot, dAndV, dOrV, dNotV, dNext, dStop, dDrop, dNil, dCons, dTup, dLst, dOwn, dCall, dUn, dPart, dNo, dSl, dMeth, dMeth0, dAug, dIce, dYes, wp_star, wp_dFn, w1, w2, wp_bind, wp_pure, wp_no, wp_var, wp_dC]
  have ei : ∀ Φ, wp (wIx (.d (L2' (s0 :: rest))) (.d (.int 0))) O Φ = Φ (.d (.tup [.int s0.1, .int s0.2])) O := fun Φ => wp_ix rfl (atI_0 _ _) Φ
  rw [ei]
  simp [wp_fn, dSeq, dRet, dRetN, dSet, dPar, dAsg, dIfS, dIf, dBin, dTest, dChain, dAnd, dOr, dNot, dAndV, dOrV, dNotV, dNext, dStop, dDrop, dNil, dCons, dTup, dLst, dOwn, dCall, dUn, dPart, dNo, dSl, dMeth, dMeth0, dAug, dIce, dYes, wp_star, wp_dFn, w1, w2, wp_bind, wp_pure, wp_no, wp_var, wp_dC]
  rw [wp_for, wp_it]
  simp [wp_fn, dSeq, dRet, dRetN, dSet, dPar, dAsg, dIfS, dIf, dBin, dTest, dChain, dAnd, dOr, dNot, dAndV, dOrV, dNotV, dNext, dStop, dDrop, dNil, dCons, dTup, dLst, dOwn, dCall, dUn, dPart, dNo, dSl, dMeth, dMeth0, dAug, dIce, dYes, wp_star, wp_dFn, w1, w2, wp_bind, wp_pure, wp_no, wp_var, wp_dC]
  rw [wp_slL rfl, cut_tail]
  simp [wp_fn, dSeq, dRet, dRetN, dSet, dPar, dAsg, dIfS, dIf, dBin, dTest, dChain, dAnd, dOr, dNot, dAndV, dOrV, dNotV, dNext, dStop, dDrop, dNil, dCons, dTup, dLst, dOwn, dCall, dUn, dPart, dNo, dSl, dMeth, dMeth0, dAug, dIce, dYes, wp_star, wp_dFn, w1, w2, wp_bind, wp_pure, wp_no, wp_var, wp_dC]
  refine wp_loopX rest (fun s => .d (d2 s)) (fun zs Γ P => Kp O P ∧ ∃ a b c d e f g, Γ = [some (.d (L2' (s0 :: rest))), some (.d (LD3 (pin s0 zs))), a, b, c, d, e, f, g]) (by rfl) (fun _ _ _ _ => wk_ok) ⟨.rfl, _, _, _, _, _, _, _, rfl⟩ ?_ ?_
  · rintro zs s ys Γ P e ⟨hK, a, b, c0, d, e0, f0, g0, rfl⟩
    obtain ⟨us, c, vs, e2, e3, e4⟩ := hb zs s ys e
    have hz : ∀ x ∈ zs, Siz x := fun x hx => hs x (by rw [e]; simp [hx])
    obtain ⟨⟨s1, s2⟩, s3, s4⟩ := hs s (mem_of_split e)
    have hcc := hc c (by rw [e2]; simp)
    have hlen := pin_len h0 hs hb zs (s :: ys) e
    have hfew : pn (cs.take zs.length) * c.toNat ≤ 20000 := by
      rw [← pn_snoc]
      refine hf _ vs ?_
      rw [e2, ← e3]; simp
    have line := line_big
    have hzl : zs.length ≤ 10 := by
      have := congrArg List.length e
      simp at this; omega
    refine ⟨_, by simp; rfl, ?_⟩
    unfold B1_z_put_in
    simp only [wp_fn, dSeq, dRet, dRetN, dSet, dPar, dAsg, dIfS, dIf, dBin, dTest, dChain, dAnd, dOr, dNot, dAndV, dOrV, dNotV, dNext, dStop, dDrop, dNil, dCons, dTup, dLst, dOwn, dCall, dUn, dPart, dNo, dSl, dMeth, dMeth0, dAug, dIce, dYes, wp_star, wp_dFn, w1, w2, wp_bind, wp_pure, wp_no, wp_var, wp_dC]
    simp only [List.set_cons_succ, List.set_cons_zero, wp_own0]
    rw [wp_for, wp_it]
    simp only [wp_fn, dSeq, dRet, dRetN, dSet, dPar, dAsg, dIfS, dIf, dBin, dTest, dChain, dAnd, dOr, dNot, dAndV, dOrV, dNotV, dNext, dStop, dDrop, dNil, dCons, dTup, dLst, dOwn, dCall, dUn, dPart, dNo, dSl, dMeth, dMeth0, dAug, dIce, dYes, wp_star, wp_dFn, w1, w2, wp_bind, wp_pure, wp_no, wp_var, wp_dC, List.getElem?_cons_succ, List.getElem?_cons_zero, wp_wkL]
    refine wp_loopX (pin s0 zs) (fun row => .d (L3 row)) (fun us Γ O' => O' = P ++ [.lst ((us.flatMap (grow s)).map L3)] ∧ ∃ d e f g, Γ = [some (.d (L2' (s0 :: rest))), some (.d (LD3 (pin s0 zs))), some (.d (.int s.1)), some (.d (.int s.2)), some (.own P.length), d, e, f, g]) (by simp) (fun _ _ _ _ => wk_ok) ⟨by simp, d, e0, f0, g0, by simp⟩ ?_ ?_
    · rintro us row vs Γ O' e' ⟨rfl, d, e0, f0, g0, rfl⟩
      obtain ⟨q1, q2, q3⟩ := pin_row h0 hz (mem_of_split e')
      have hrl : row.length = zs.length + 1 := by
        have := congrArg List.length q1
        simpa using this
      have hroom : roomL s.1 (per row) ≤ c := by rw [per_szs, q1]; exact e4
      have hfree := f_free (A := A) (O := P ++ [.lst ((us.flatMap (grow s)).map L3)]) (ls := row) (p := s.1) (l := s.2) q2 (by omega) (by omega) ⟨s1, s2⟩ ⟨s3, s4⟩ (by omega)
      refine ⟨_, by simp; rfl, ?_⟩
      unfold B0_z_put_in
      simp only [wp_fn, dSeq, dRet, dRetN, dSet, dPar, dAsg, dIfS, dIf, dBin, dTest, dChain, dAnd, dOr, dNot, dAndV, dOrV, dNotV, dNext, dStop, dDrop, dNil, dCons, dTup, dLst, dOwn, dCall, dUn, dPart, dNo, dSl, dMeth, dMeth0, dAug, dIce, dYes, wp_star, wp_dFn, w1, w2, wp_bind, wp_pure, wp_no, wp_var, wp_dC]
      simp only [List.getElem?_cons_succ, List.getElem?_cons_zero]
      rw [wp_dFn (by rfl)]
      simp only [List.map_nil, List.append_nil]
      rw [wp_eq hfree]
      simp [wp_fn, dSeq, dRet, dRetN, dSet, dPar, dAsg, dIfS, dIf, dBin, dTest, dChain, dAnd, dOr, dNot, dAndV, dOrV, dNotV, dNext, dStop, dDrop, dNil, dCons, dTup, dLst, dOwn, dCall, dUn, dPart, dNo, dSl, dMeth, dMeth0, dAug, dIce, dYes, wp_star, wp_dFn, w1, w2, wp_bind, wp_pure, wp_no, wp_var, wp_dC]
      rw [wp_isL (wL_own (at_end _ _)), wp_lcD, wp_it]
      simp [wp_fn, dSeq, dRet, dRetN, dSet, dPar, dAsg, dIfS, dIf, dBin, dTest, dChain, dAnd, dOr, dNot, dAndV, dOrV, dNotV, dNext, dStop, dDrop, dNil, dCons, dTup, dLst, dOwn, dCall, dUn, dPart, dNo, dSl, dMeth, dMeth0, dAug, dIce, dYes, wp_star, wp_dFn, w1, w2, wp_bind, wp_pure, wp_no, wp_var, wp_dC, wipeG]
      have hul : us.length + 1 ≤ (pin s0 zs).length := by
        have := congrArg List.length e'
        simp at this; omega
      have hmul : (us.length + 1) * c.toNat ≤ 20000 := Nat.le_trans (Nat.mul_le_mul_right _ (Nat.le_trans hul hlen)) hfew
      have hgl := grow_len s row hroom
      refine wp_lc (fun r : Int => .d (.int r)) (fun r => some (L3 (row ++ [(r, s.1, s.2)]))) (freeOf s.1 s.2 row) (by simp) wk_ok (by
        have : (grow s row).length = (freeOf s.1 s.2 row).length := by unfold grow; simp
        rw [Nat.add_mul] at hmul
        omega) (fun r _ => ⟨_, by simp; rfl, ?_⟩) ?_
      · simp [wp_fn, dSeq, dRet, dRetN, dSet, dPar, dAsg, dIfS, dIf, dBin, dTest, dChain, dAnd, dOr, dNot, dAndV, dOrV, dNotV, dNext, dStop, dDrop, dNil, dCons, dTup, dLst, dOwn, dCall, dUn, dPart, dNo, dSl, dMeth, dMeth0, dAug, dIce, dYes, wp_star, wp_dFn, w1, w2, wp_bind, wp_pure, wp_no, wp_var, wp_dC]
        rw [wp_addL rfl rfl (by simp; omega)]
        simp
      · have e1 : List.filterMap (fun r => some (L3 (row ++ [(r, s.1, s.2)]))) (freeOf s.1 s.2 row) = (grow s row).map L3 := by
          show List.filterMap (some ∘ fun r => L3 (row ++ [(r, s.1, s.2)])) (freeOf s.1 s.2 row) = _
          rw [List.filterMap_eq_map]
          unfold grow
          rw [List.map_map]; rfl
        rw [e1]
        rw [wp_ext (by simp) (at_end _ _) rfl (by
          rw [List.length_map, List.length_map]
          have h1 := flat_le (grow s) c.toNat us fun x hx => by
            have hr := pin_row h0 hz (show x ∈ pin s0 zs by rw [e']; simp [hx])
            exact grow_len s x (by rw [per_szs, hr.1]; exact e4)
          rw [Nat.add_mul] at hmul
          omega)]
        simp
    · rintro Γ O' ⟨rfl, d, e0, f0, g0, rfl⟩
      simp only [wp_fn, dSeq, dRet, dRetN, dSet, dPar, dAsg, dIfS, dIf, dBin, dTest, dChain, dAnd, dOr, dNot, dAndV, dOrV, dNotV, dNext, dStop, dDrop, dNil, dCons, dTup, dLst, dOwn, dCall, dUn, dPart, dNo, dSl, dMeth, dMeth0, dAug, dIce, dYes, wp_star, wp_dFn, w1, w2, wp_bind, wp_pure, wp_no, wp_var, wp_dC]
      simp only [List.getElem?_cons_succ, List.getElem?_cons_zero]
      rw [wp_ice (at_end _ _)]
      rw [← pin_snoc]
      exact ⟨by rw [set_end]; exact hK.add _, _, _, _, _, _, _, _, rfl⟩
  · rintro Γ P ⟨hK, a, b, c, d, e, f, g, rfl⟩
    simp [wp_fn, dSeq, dRet, dRetN, dSet, dPar, dAsg, dIfS, dIf, dBin, dTest, dChain, dAnd, dOr, dNot, dAndV, dOrV, dNotV, dNext, dStop, dDrop, dNil, dCons, dTup, dLst, dOwn, dCall, dUn, dPart, dNo, dSl, dMeth, dMeth0, dAug, dIce, dYes, wp_star, wp_dFn, w1, w2, wp_bind, wp_pure, wp_no, wp_var, wp_dC, hK.take]
end L74


set_option maxRecDepth 100000
set_option maxHeartbeats 2000000
/-! k74: nothing clashes, never two at once. -/
namespace L74
open PySem L2 VL
variable {A : Str → Addr} {O : Sto} {Φ : W → Sto → Prop}
theorem rng_nat (a n : Nat) : (rng ((a : Nat) : Int) 1 n).ws = (List.range n).map fun i => W.d (.int ((a + i : Nat) : Int)) := by
  unfold rng
  refine List.map_congr_left fun i _ => ?_
  congr 2
  omega
theorem f_clashing {ls : List (Int × Int × Int)} (h : ∀ q ∈ ls, Lng q) (h1 : 1 ≤ ls.length) (h2 : ls.length ≤ 12) (hp : ls.Pairwise (fun i j => Ap i j = true)) :
    F_clashing A [.d (L3 ls)] O = .ok (.d (.lst [])) O := by
  refine eq_of_wp ?_
  unfold F_clashing d_clashing
  simp only [wp_fn, dSeq, dRet, dRetN, dSet, dPar, dAsg, dIfS, dIf, dBin, dTest, dChain, dAnd, dOr, dNot, dAndV, dOrV, dNotV, dNext, dStop, dDrop, dNil, dCons, dTup, dLst, dOwn, dCall, dUn, dPart, dNo, dSl, dMeth, dMeth0, dAug, dIce, dYes, wp_star, wp_dFn, w1, w2, wp_bind, wp_pure, wp_no, wp_var, wp_dC]
  simp [wp_fn, dSeq, dRet, dRetN, dSet, dPar, dAsg, dIfS, dIf, dBin, dTest, dChain, dAnd, dOr, dNot, dAndV, dOrV, dNotV, dNext, dStop, dDrop, dNil, dCons, dTup, dLst, dOwn, dCall, dUn, dPart, dNo, dSl, dMeth, dMeth0, dAug, dIce, dYes, wp_star, wp_dFn, w1, w2, wp_bind, wp_pure, wp_no, wp_var, wp_dC, f_need_longs h h1 h2]
  rw [wp_for, wp_enum]
  simp [wp_fn, dSeq, dRet, dRetN, dSet, dPar, dAsg, dIfS, dIf, dBin, dTest, dChain, dAnd, dOr, dNot, dAndV, dOrV, dNotV, dNext, dStop, dDrop, dNil, dCons, dTup, dLst, dOwn, dCall, dUn, dPart, dNo, dSl, dMeth, dMeth0, dAug, dIce, dYes, wp_star, wp_dFn, w1, w2, wp_bind, wp_pure, wp_no, wp_var, wp_dC]
  refine wp_loopX ls.zipIdx _ (fun zs Γ O' => O' = O ++ [.lst []] ∧ ∃ a b c d, Γ = [some (.d (L3 ls)), some (.own O.length), a, b, c, d]) (enum_g ls d3) (fun _ _ _ _ => wk_ok) ⟨rfl, _, _, _, _, rfl⟩ ?_ ?_
  · rintro zs ⟨p, n⟩ ys Γ O' e ⟨rfl, a, b, c, d, rfl⟩
    obtain ⟨e1, e2⟩ := zip_split e
    have hn : n < ls.length := (List.getElem?_eq_some_iff.mp e2).1
    have hp0 := h p (List.mem_of_getElem? e2)
    refine ⟨_, by simp; rfl, ?_⟩
    unfold B0_clashing
    simp only [wp_fn, dSeq, dRet, dRetN, dSet, dPar, dAsg, dIfS, dIf, dBin, dTest, dChain, dAnd, dOr, dNot, dAndV, dOrV, dNotV, dNext, dStop, dDrop, dNil, dCons, dTup, dLst, dOwn, dCall, dUn, dPart, dNo, dSl, dMeth, dMeth0, dAug, dIce, dYes, wp_star, wp_dFn, w1, w2, wp_bind, wp_pure, wp_no, wp_var, wp_dC]
    simp only [List.getElem?_cons_succ, List.getElem?_cons_zero, wp_add, wp_lenL, List.length_map]
    have e3 : ∀ Φ P, wp (wRng (.d (.int ((n : Nat) + 1))) (.d (.int (ls.length : Nat)))) P Φ = Φ (.d (.rng ((n + 1 : Nat) : Int) (ls.length : Nat))) P := fun Φ P => by
      unfold wRng
      rw [wp_wI, wp_if ⟨⟨by omega, by omega⟩, by omega, by omega⟩]
      rfl
    rw [e3]
    simp only [List.set_cons_succ, List.set_cons_zero, List.getElem?_cons_succ, List.getElem?_cons_zero]
    rw [wp_isL (wL_own (at_end _ _)), wp_lcD]
    unfold dRngV
    simp only [wp_fn, dSeq, dRet, dRetN, dSet, dPar, dAsg, dIfS, dIf, dBin, dTest, dChain, dAnd, dOr, dNot, dAndV, dOrV, dNotV, dNext, dStop, dDrop, dNil, dCons, dTup, dLst, dOwn, dCall, dUn, dPart, dNo, dSl, dMeth, dMeth0, dAug, dIce, dYes, wp_star, wp_dFn, w1, w2, wp_bind, wp_pure, wp_no, wp_var, wp_dC]
    simp only [List.getElem?_cons_succ, List.getElem?_cons_zero]
    rw [wp_if ⟨⟨by omega, by omega⟩, by omega, by omega⟩]
    simp only [wp_pure]
    refine wp_lc (fun i : Nat => .d (.int ((n + 1 + i : Nat) : Int))) (fun _ => none) (List.range (((ls.length : Nat) : Int) - ((n + 1 : Nat) : Int)).toNat) (rng_nat _ _) wk_ok (by have := line_big; simp; omega) (fun i hi => ⟨_, by simp; rfl, ?_⟩) ?_
    · have hi : i < ls.length - (n + 1) := by simp at hi; omega
      obtain ⟨q, hq⟩ : ∃ q, ls[n + 1 + i]? = some q := ⟨ls[n + 1 + i], List.getElem?_eq_getElem (by omega)⟩
      have hap : Ap p q = true := by
        have h5 := List.pairwise_iff_getElem.mp hp n (n + 1 + i) hn (by omega) (by omega)
        rw [(List.getElem?_eq_some_iff.mp e2).2, (List.getElem?_eq_some_iff.mp hq).2] at h5
        exact h5
      have e6 : ∀ Φ P, wp (wIx (.d (L3 ls)) (.d (.int (((n : Nat) : Int) + 1 + ((i : Nat) : Int))))) P Φ = Φ (.d (d3 q)) P := fun Φ P => by
        rw [show ((n : Nat) : Int) + 1 + ((i : Nat) : Int) = ((n + 1 + i : Nat) : Int) by omega]
        exact wp_ixL (by rw [List.getElem?_map, hq]; rfl) Φ
      have e7 : ∀ Φ P, wp (F_keeps_apart A [.d (d3 p), .d (d3 q)]) P Φ = Φ (.d (.bl true)) P := fun Φ P => by rw [f_keeps_apart hp0.1.1 (h q (List.mem_of_getElem? hq)).1.1, hap]
      simp only [wp_fn, dSeq, dRet, dRetN, dSet, dPar, dAsg, dIfS, dIf, dBin, dTest, dChain, dAnd, dOr, dNot, dAndV, dOrV, dNotV, dNext, dStop, dDrop, dNil, dCons, dTup, dLst, dOwn, dCall, dUn, dPart, dNo, dSl, dMeth, dMeth0, dAug, dIce, dYes, wp_star, wp_dFn, w1, w2, wp_bind, wp_pure, wp_no, wp_var, wp_dC, wipeG]
      simp only [List.set_cons_succ, List.set_cons_zero, List.getElem?_cons_succ, List.getElem?_cons_zero]
      rw [e6]
      rw [wp_dFn (by rfl)]
      simp only [List.map_nil, List.append_nil]
      rw [e7]
      simp
    · have e8 : ∀ l : List Nat, List.filterMap (fun _ : Nat => (none : Option D)) l = [] := fun l => by simp
      rw [e8]
      rw [wp_ext rfl (at_end _ _) rfl (by simp)]
      simp
  · rintro Γ O' ⟨rfl, a, b, c, d, rfl⟩
    simp [wp_fn, dSeq, dRet, dRetN, dSet, dPar, dAsg, dIfS, dIf, dBin, dTest, dChain, dAnd, dOr, dNot, dAndV, dOrV, dNotV, dNext, dStop, dDrop, dNil, dCons, dTup, dLst, dOwn, dCall, dUn, dPart, dNo, dSl, dMeth, dMeth0, dAug, dIce, dYes, wp_star, wp_dFn, w1, w2, wp_bind, wp_pure, wp_no, wp_var, wp_dC]
    rw [wp_ice (at_end _ _)]
    simp
/-! ### numbers of a round -/
def ps (S : List Int) (t : Nat) : Int := (S.take (t + 1)).sum
theorem sum_set : ∀ (S : List Int) (i : Nat) (x v : Int), S[i]? = some x → (S.set i (x + v)).sum = S.sum + v
  | [], i, x, v, h => by simp at h
  | a :: S, 0, x, v, h => by
    have : a = x := by simpa using h
    subst this
    simp; omega
  | a :: S, i + 1, x, v, h => by
    have := sum_set S i x v (by simpa using h)
    simp [this]; omega
theorem ps_set {S : List Int} {i t : Nat} {x v : Int} (h : S[i]? = some x) : ps (S.set i (x + v)) t = ps S t + if i ≤ t then v else 0 := by
  unfold ps
  rw [List.take_set]
  by_cases q : i ≤ t
  · rw [if_pos q]
    exact sum_set _ i x v (by rw [List.getElem?_take_of_lt (by omega)]; exact h)
  · rw [if_neg q, List.set_eq_of_length_le (by rw [List.length_take]; omega)]
    omega
theorem wp_augI {f : W → W → M W} {o i e : DE} {Γ : Gam} {P : Sto} {k n : Nat} {S : List Int} {x v r : Int} {Φ : Fl × Gam → Sto → Prop} (ho : o Γ P = .ok (.own k) P) (hi : i Γ P = .ok (.d (.int ((n : Nat) : Int))) P) (he : e Γ P = .ok (.d (.int v)) P) (hP : P[k]? = some (.lst (S.map D.int))) (hx : S[n]? = some x)
    (hf : ∀ Q, f (.d (.int x)) (.d (.int v)) Q = .ok (.d (.int r)) Q) : wp (dAugI f o i e Γ) P Φ = Φ (.nx, Γ) (P.set k (.lst ((S.set n r).map D.int))) := by
  have hx2 : (S.map D.int)[n]? = some (.int x) := by rw [List.getElem?_map, hx]; rfl
  have hn : n < S.length := (List.getElem?_eq_some_iff.mp hx).1
  have e1 : wItem (.own k) (.d (.int ((n : Nat) : Int))) P = .ok (.d (.int x)) P := by
    unfold wItem
    simp only [hP, atI_nat hx2]
  have e2 : wSetI (.own k) (.d (.int ((n : Nat) : Int))) (.d (.int r)) P = .ok () (P.set k (.lst ((S.set n r).map D.int))) := by
    unfold wSetI
    have : ixN (S.map D.int).length ((n : Nat) : Int) = some n := by
      unfold ixN
      rw [if_pos (by omega), if_pos (by rw [List.length_map]; omega)]; simp
    simp only [hP, this]
    rw [List.map_set]
  unfold dAugI
  simp only [wp_bind]
  rw [wp_eq ho, wp_eq hi, wp_eq e1, wp_eq he, wp_eq (hf P), wp_eq e2]
  rfl
def cov (size b e : Int) (t : Int) : Int := (if b ≤ t ∧ t < e then 1 else 0) + if t + size < e then 1 else 0
def covL (size : Int) (arcs : List (Int × Int)) (t : Int) : Int := (arcs.map fun a => cov size a.1 a.2 t).sum
theorem arc_step {P : Sto} {k : Nat} {S : List Int} {size b e : Int} {s0 s1 s3 s4 s5 s7 s8 s9 s10 : Option W} {l : Int} (hP : P[k]? = some (.lst (S.map D.int))) (hs : S.length = size.toNat + 1) (hb : 0 ≤ b ∧ b < size) (hl : 0 < l ∧ l ≤ size) :
    wp (B1_numbers_of A [s0, some (.d (.int size)), some (.own k), s3, s4, some (.d (.int l)), some (.d (.int b)), s7, s8, s9, s10]) P fun r O' => match r.1 with
      | .nx => ∃ S', O' = P.set k (.lst (S'.map D.int)) ∧ S'.length = size.toNat + 1 ∧ r.2 = [s0, some (.d (.int size)), some (.own k), s3, s4, some (.d (.int l)), some (.d (.int b)), some (.d (.int (b + l))), s8, s9, s10] ∧ ∀ t : Nat, (t : Int) < size → ps S' t = ps S t + cov size b (b + l) t
      | _ => False := by
  have hk : k < P.length := (List.getElem?_eq_some_iff.mp hP).1
  obtain ⟨B, hB⟩ : ∃ B : Nat, b = B := ⟨b.toNat, by omega⟩
  obtain ⟨Lc', hL⟩ : ∃ L : Nat, l = L := ⟨l.toNat, by omega⟩
  obtain ⟨Z, hZ⟩ : ∃ Z : Nat, size = Z := ⟨size.toNat, by omega⟩
  subst hB hL hZ
  have hs' : S.length = Z + 1 := by simpa using hs
  obtain ⟨x1, h1⟩ : ∃ x, S[B]? = some x := ⟨S[B], List.getElem?_eq_getElem (by omega)⟩
  unfold B1_numbers_of
  simp only [wp_fn, dSeq, dRet, dRetN, dSet, dPar, dAsg, dIfS, dIf, dBin, dTest, dChain, dAnd, dOr, dNot, dAndV, dOrV, dNotV, dNext, dStop, dDrop, dNil, dCons, dTup, dLst, dOwn, dCall, dUn, dPart, dNo, dSl, dMeth, dMeth0, dAug, dIce, dYes, wp_star, wp_dFn, w1, w2, wp_bind, wp_pure, wp_no, wp_var, wp_dC]
  simp only [List.set_cons_succ, List.set_cons_zero, List.getElem?_cons_succ, List.getElem?_cons_zero, wp_add]
  rw [wp_augI (k := k) (n := B) (S := S) (x := x1) (v := 1) (r := x1 + 1) rfl rfl rfl hP h1 (fun _ => rfl)]
  have hP1 : (P.set k (.lst ((S.set B (x1 + 1)).map D.int)))[k]? = some (.lst ((S.set B (x1 + 1)).map D.int)) := by rw [List.getElem?_set_self hk]
  simp only [wp_fn, dSeq, dRet, dRetN, dSet, dPar, dAsg, dIfS, dIf, dBin, dTest, dChain, dAnd, dOr, dNot, dAndV, dOrV, dNotV, dNext, dStop, dDrop, dNil, dCons, dTup, dLst, dOwn, dCall, dUn, dPart, dNo, dSl, dMeth, dMeth0, dAug, dIce, dYes, wp_star, wp_dFn, w1, w2, wp_bind, wp_pure, wp_no, wp_var, wp_dC]
  simp only [List.getElem?_cons_succ, List.getElem?_cons_zero, wp_le, wp_wB]
  by_cases hle : ((B : Nat) : Int) + ((Lc' : Nat) : Int) ≤ ((Z : Nat) : Int)
  · rw [decide_eq_true hle]
    simp only [if_true]
    obtain ⟨x2, h2⟩ : ∃ x, (S.set B (x1 + 1))[B + Lc']? = some x := ⟨(S.set B (x1 + 1))[B + Lc']'(by rw [List.length_set]; omega), List.getElem?_eq_getElem _⟩
    rw [wp_augI (k := k) (n := B + Lc') (S := S.set B (x1 + 1)) (x := x2) (v := 1) (r := x2 - 1) rfl (by show Out.ok (W.d (.int (((B : Nat) : Int) + ((Lc' : Nat) : Int)))) _ = _; rw [show ((B : Nat) : Int) + ((Lc' : Nat) : Int) = ((B + Lc' : Nat) : Int) by omega]) rfl hP1 h2 (fun _ => rfl)]
    refine ⟨(S.set B (x1 + 1)).set (B + Lc') (x2 - 1), by rw [List.set_set], by simp [hs'], rfl, fun t ht => ?_⟩
    rw [show x2 - 1 = x2 + (-1) by omega, ps_set h2, ps_set h1]
    unfold cov
    split <;> split <;> split <;> split <;> omega
  · rw [decide_eq_false hle]
    simp only [Bool.false_eq_true, if_false]
    obtain ⟨x2, h2⟩ : ∃ x, (S.set B (x1 + 1))[0]? = some x := ⟨(S.set B (x1 + 1))[0]'(by rw [List.length_set]; omega), List.getElem?_eq_getElem _⟩
    simp only [wp_fn, dSeq, dRet, dRetN, dSet, dPar, dAsg, dIfS, dIf, dBin, dTest, dChain, dAnd, dOr, dNot, dAndV, dOrV, dNotV, dNext, dStop, dDrop, dNil, dCons, dTup, dLst, dOwn, dCall, dUn, dPart, dNo, dSl, dMeth, dMeth0, dAug, dIce, dYes, wp_star, wp_dFn, w1, w2, wp_bind, wp_pure, wp_no, wp_var, wp_dC]
    rw [wp_augI (k := k) (n := 0) (S := S.set B (x1 + 1)) (x := x2) (v := 1) (r := x2 + 1) rfl rfl rfl hP1 h2 (fun _ => rfl)]
    have hP2 : ((P.set k (.lst ((S.set B (x1 + 1)).map D.int))).set k (.lst (((S.set B (x1 + 1)).set 0 (x2 + 1)).map D.int)))[k]? = some (.lst (((S.set B (x1 + 1)).set 0 (x2 + 1)).map D.int)) := by rw [List.getElem?_set_self (by simp; exact hk)]
    obtain ⟨x3, h3⟩ : ∃ x, ((S.set B (x1 + 1)).set 0 (x2 + 1))[B + Lc' - Z]? = some x := ⟨((S.set B (x1 + 1)).set 0 (x2 + 1))[B + Lc' - Z]'(by simp; omega), List.getElem?_eq_getElem _⟩
    rw [wp_augI (k := k) (n := B + Lc' - Z) (S := (S.set B (x1 + 1)).set 0 (x2 + 1)) (x := x3) (v := 1) (r := x3 - 1) rfl (by show Out.ok (W.d (.int (((B : Nat) : Int) + ((Lc' : Nat) : Int) - ((Z : Nat) : Int)))) _ = _; rw [show ((B : Nat) : Int) + ((Lc' : Nat) : Int) - ((Z : Nat) : Int) = ((B + Lc' - Z : Nat) : Int) by omega]) rfl hP2 h3 (fun _ => rfl)]
    refine ⟨((S.set B (x1 + 1)).set 0 (x2 + 1)).set (B + Lc' - Z) (x3 - 1), by rw [List.set_set, List.set_set], by simp [hs'], rfl, fun t ht => ?_⟩
    rw [show x3 - 1 = x3 + (-1) by omega, ps_set h3, ps_set h2, ps_set h1]
    unfold cov
    split <;> split <;> split <;> split <;> split <;> omega
end L74


set_option maxRecDepth 100000
set_option maxHeartbeats 2000000
/-! k74: the numbers of a round. -/
namespace L74
open PySem L2 VL
variable {A : Str → Addr} {O : Sto} {Φ : W → Sto → Prop}
def arcsOf (size : Int) (p : Int × Int × Int) : List (Int × Int) := (List.range (stepN p.1 size p.2.1)).map fun (k : Nat) => (p.1 + ((k : Nat) : Int) * p.2.1, p.1 + ((k : Nat) : Int) * p.2.1 + p.2.2)
def covAll (size : Int) (ls : List (Int × Int × Int)) (t : Int) : Int := (ls.map fun p => covL size (arcsOf size p) t).sum
theorem covL_snoc (size : Int) (as : List (Int × Int)) (a : Int × Int) (t : Int) : covL size (as ++ [a]) t = covL size as t + cov size a.1 a.2 t := by
  unfold covL; simp
theorem covAll_snoc (size : Int) (ls : List (Int × Int × Int)) (p : Int × Int × Int) (t : Int) : covAll size (ls ++ [p]) t = covAll size ls t + covL size (arcsOf size p) t := by
  unfold covAll; simp
theorem arcs_loop {P : Sto} {k : Nat} {S : List Int} {size : Int} {p : Int × Int × Int} {s0 s6 s7 s8 s9 s10 : Option W} {Ψ : Fl × Gam → Sto → Prop} (hp : Lng p) (hps : p.2.1 ≤ size) (hz : size ≤ 2000) (hP : P[k]? = some (.lst (S.map D.int))) (hs : S.length = size.toNat + 1)
    (q : ∀ S' s6 s7, S'.length = size.toNat + 1 → (∀ t : Nat, (t : Int) < size → ps S' t = ps S t + covL size (arcsOf size p) t) → Ψ (.nx, [s0, some (.d (.int size)), some (.own k), some (.d (.int p.1)), some (.d (.int p.2.1)), some (.d (.int p.2.2)), s6, s7, s8, s9, s10]) (P.set k (.lst (S'.map D.int)))) :
    wp (B2_numbers_of A [s0, some (.d (.int size)), some (.own k), some (.d (.int p.1)), some (.d (.int p.2.1)), some (.d (.int p.2.2)), s6, s7, s8, s9, s10]) P Ψ := by
  obtain ⟨⟨h1, h2⟩, ⟨h3, h4⟩, h5, h6⟩ := hp
  have hk : k < P.length := (List.getElem?_eq_some_iff.mp hP).1
  unfold B2_numbers_of
  rw [wp_for]
  unfold dRange3
  simp only [wp_fn, dSeq, dRet, dRetN, dSet, dPar, dAsg, dIfS, dIf, dBin, dTest, dChain, dAnd, dOr, dNot, dAndV, dOrV, dNotV, dNext, dStop, dDrop, dNil, dCons, dTup, dLst, dOwn, dCall, dUn, dPart, dNo, dSl, dMeth, dMeth0, dAug, dIce, dYes, wp_star, wp_dFn, w1, w2, wp_bind, wp_pure, wp_no, wp_var, wp_dC]
  simp only [List.getElem?_cons_succ, List.getElem?_cons_zero]
  rw [wp_if (show StepC p.1 size p.2.1 from ⟨by omega, by omega, by omega⟩)]
  simp only [wp_pure]
  refine wp_loopX (List.range (stepN p.1 size p.2.1)) (fun (i : Nat) => .d (.int (p.1 + ((i : Nat) : Int) * p.2.1))) (fun zs Γ O' => ∃ S' s6 s7, O' = P.set k (.lst (S'.map D.int)) ∧ S'.length = size.toNat + 1 ∧ (∀ t : Nat, (t : Int) < size → ps S' t = ps S t + covL size (zs.map fun (k : Nat) => (p.1 + ((k : Nat) : Int) * p.2.1, p.1 + ((k : Nat) : Int) * p.2.1 + p.2.2)) t) ∧ Γ = [s0, some (.d (.int size)), some (.own k), some (.d (.int p.1)), some (.d (.int p.2.1)), some (.d (.int p.2.2)), s6, s7, s8, s9, s10]) rfl (fun _ _ _ _ => wk_ok) ⟨S, s6, s7, ?_, hs, fun t _ => by simp [covL], rfl⟩ ?_ ?_
  · obtain ⟨hk2, e2⟩ := List.getElem?_eq_some_iff.mp hP
    rw [← e2, List.set_getElem_self]
  · rintro zs i ys Γ O' e ⟨S', t6, t7, rfl, hs', hS, rfl⟩
    have hi : i < stepN p.1 size p.2.1 := by have := mem_of_split e; simpa using this
    have hb : p.1 + ((i : Nat) : Int) * p.2.1 < size := by
      unfold stepN at hi
      rw [if_pos (by omega)] at hi
      have h7 : ((i : Nat) : Int) ≤ (size - p.1 - 1) / p.2.1 := by
        have : 0 ≤ (size - p.1 - 1) / p.2.1 := Int.ediv_nonneg (by omega) (by omega)
        omega
      have h8 : ((i : Nat) : Int) * p.2.1 ≤ size - p.1 - 1 := by
        rw [← Int.le_ediv_iff_mul_le (by omega)]; exact h7
      omega
    have hb0 : 0 ≤ ((i : Nat) : Int) * p.2.1 := Int.mul_nonneg (by omega) (by omega)
    refine ⟨[s0, some (.d (.int size)), some (.own k), some (.d (.int p.1)), some (.d (.int p.2.1)), some (.d (.int p.2.2)), some (.d (.int (p.1 + ((i : Nat) : Int) * p.2.1))), t7, s8, s9, s10], rfl, ?_⟩
    refine wp_mono (arc_step (s1 := none) (s5 := none) (e := 0) (P := P.set k (.lst (S'.map D.int))) (k := k) (S := S') (size := size) (b := p.1 + ((i : Nat) : Int) * p.2.1) (l := p.2.2) (by rw [List.getElem?_set_self hk]) hs' ⟨by omega, hb⟩ ⟨by omega, by omega⟩) fun r O' hr => ?_
    obtain ⟨fl, Γ'⟩ := r
    cases fl with
    | nx =>
      obtain ⟨S2, rfl, g1, g2, g3⟩ := hr
      refine ⟨S2, _, _, by rw [List.set_set], g1, fun t ht => ?_, g2⟩
      rw [g3 t ht, hS t ht, List.map_append, List.map_singleton, covL_snoc]
      dsimp only
      omega
    | rt w => exact hr.elim
    | bk => exact hr.elim
    | ct => exact hr.elim
  · rintro Γ O' ⟨S', t6, t7, rfl, hs', hS, rfl⟩
    exact q S' t6 t7 hs' hS
def nums (size : Int) (ls : List (Int × Int × Int)) : List Int := (List.range size.toNat).map fun (t : Nat) => covAll size ls ((t : Nat) : Int)
theorem ps_zero (n t : Nat) : ps (List.replicate n 0) t = 0 := by
  unfold ps
  rw [List.take_replicate]
  induction (min (t + 1) n) with
  | zero => rfl
  | succ m ih => rw [List.replicate_succ, List.sum_cons, ih]; rfl
theorem f_numbers {ls : List (Int × Int × Int)} (h : ∀ q ∈ ls, Lng q) (hz : Rd ls ≤ 2000) (hd : ∀ q ∈ ls, q.2.1 ≤ Rd ls) : F_numbers_of A [.d (L3 ls)] O = .ok (.d (.lst ((nums (Rd ls) ls).map D.int))) O := by
  have hpos : 0 < Rd ls := rd_pos h (by decide)
  have hR : ∀ O Φ, wp (F_round_by_longs A [.d (L3 ls)]) O Φ = Φ (.d (.int (Rd ls))) O := fun O Φ => f_round h
  obtain ⟨N, hN⟩ : ∃ N, (nums (Rd ls) ls).map D.int = N := ⟨_, rfl⟩
  rw [hN]
  unfold nums at hN
  obtain ⟨size, hsz⟩ : ∃ size, Rd ls = size := ⟨_, rfl⟩
  rw [hsz] at hpos hz hd hN
  simp only [hsz] at hR
  have line := line_big
  refine eq_of_wp ?_
  unfold F_numbers_of d_numbers_of
  simp only [wp_fn, dSeq, dRet, dRetN, dSet, dPar, dAsg, dIfS, dIf, dBin, dTest, dChain, dAnd, dOr, dNot, dAndV, dOrV, dNotV, dNext, dStop, dDrop, dNil, dCons, dTup, dLst, dOwn, dCall, dUn, dPart, dNo, dSl, dMeth, dMeth0, dAug, dIce, dYes, wp_star, wp_dFn, w1, w2, wp_bind, wp_pure, wp_no, wp_var, wp_dC]
  simp only [List.map_cons, List.map_nil, List.replicate, List.cons_append, List.nil_append, List.append_nil, List.getElem?_cons_succ, List.getElem?_cons_zero]
  rw [wp_dFn (by rfl)]
  simp only [List.map_nil, List.append_nil]
  rw [hR]
  simp only [List.set_cons_succ, List.set_cons_zero, List.getElem?_cons_succ, List.getElem?_cons_zero, wp_lst1, wp_add]
  have erep : wRepO (.d (.lst [.int 0])) (.d (.int (size + 1))) O = .ok (.own O.length) (O ++ [.lst ((List.replicate (size.toNat + 1) (0 : Int)).map D.int)]) := by
    unfold wRepO
    simp only [wL_lst]
    rw [if_pos ⟨⟨by omega, by omega⟩, by show 1 * (size + 1).toNat ≤ _; omega⟩]
    have e1 : (size + 1).toNat = size.toNat + 1 := by omega
    rw [e1]
    congr 3
    congr 1
    induction size.toNat + 1 with
    | zero => rfl
    | succ m ih => rw [List.replicate_succ, List.flatten_cons, ih, List.replicate_succ, List.map_cons]; rfl
  rw [wp_eq erep]
  rw [wp_for, wp_it]
  simp only [wp_fn, dSeq, dRet, dRetN, dSet, dPar, dAsg, dIfS, dIf, dBin, dTest, dChain, dAnd, dOr, dNot, dAndV, dOrV, dNotV, dNext, dStop, dDrop, dNil, dCons, dTup, dLst, dOwn, dCall, dUn, dPart, dNo, dSl, dMeth, dMeth0, dAug, dIce, dYes, wp_star, wp_dFn, w1, w2, wp_bind, wp_pure, wp_no, wp_var, wp_dC, List.set_cons_succ, List.set_cons_zero, List.getElem?_cons_succ, List.getElem?_cons_zero, wp_wkL]
  refine wp_loopX ls (fun q => .d (d3 q)) (fun zs Γ P => ∃ S a b c d e f g i, P = O ++ [.lst (S.map D.int)] ∧ S.length = size.toNat + 1 ∧ (∀ t : Nat, (t : Int) < size → ps S t = covAll size zs t) ∧ Γ = [some (.d (L3 ls)), some (.d (.int size)), some (.own O.length), a, b, c, d, e, f, g, i]) (by simp) (fun _ _ _ _ => wk_ok) ⟨_, _, _, _, _, _, _, _, _, rfl, by simp, fun t _ => by rw [ps_zero]; rfl, rfl⟩ ?_ ?_
  · rintro zs q ys Γ P e ⟨S, a, b, c, d, e0, f, g, i, rfl, hS1, hS2, rfl⟩
    refine ⟨[some (.d (L3 ls)), some (.d (.int size)), some (.own O.length), some (.d (.int q.1)), some (.d (.int q.2.1)), some (.d (.int q.2.2)), d, e0, f, g, i], by simp, ?_⟩
    refine arcs_loop (h q (mem_of_split e)) (hd q (mem_of_split e)) hz (at_end _ _) hS1 fun S' s6 s7 hS3 hS4 => ?_
    refine ⟨S', _, _, _, _, _, _, _, _, by rw [set_end], hS3, fun t ht => ?_, rfl⟩
    rw [hS4 t ht, hS2 t ht, covAll_snoc]
  · rintro Γ P ⟨S, a, b, c, d, e0, f, g, i, rfl, hS1, hS2, rfl⟩
    simp only [wp_fn, dSeq, dRet, dRetN, dSet, dPar, dAsg, dIfS, dIf, dBin, dTest, dChain, dAnd, dOr, dNot, dAndV, dOrV, dNotV, dNext, dStop, dDrop, dNil, dCons, dTup, dLst, dOwn, dCall, dUn, dPart, dNo, dSl, dMeth, dMeth0, dAug, dIce, dYes, wp_star, wp_dFn, w1, w2, wp_bind, wp_pure, wp_no, wp_var, wp_dC]
    simp only [List.set_cons_succ, List.set_cons_zero, List.getElem?_cons_succ, List.getElem?_cons_zero, wp_own0]
    rw [wp_for, wp_it]
    simp only [wp_fn, dSeq, dRet, dRetN, dSet, dPar, dAsg, dIfS, dIf, dBin, dTest, dChain, dAnd, dOr, dNot, dAndV, dOrV, dNotV, dNext, dStop, dDrop, dNil, dCons, dTup, dLst, dOwn, dCall, dUn, dPart, dNo, dSl, dMeth, dMeth0, dAug, dIce, dYes, wp_star, wp_dFn, w1, w2, wp_bind, wp_pure, wp_no, wp_var, wp_dC, List.getElem?_cons_succ, List.getElem?_cons_zero]
    have hgt : (O ++ [MO.lst (S.map D.int)] ++ [MO.lst []])[O.length]? = some (.lst (S.map D.int)) := by
      rw [List.getElem?_append_left (by simp)]; exact at_end _ _
    rw [wp_slL (wL_own hgt)]
    have ecut : cutD (S.map D.int) none (some size) = (S.take size.toNat).map D.int := by
      unfold cutD
      have e1 : HT.sIx (S.map D.int).length 0 none = 0 := by simp [HT.sIx]
      have e2 : HT.sIx (S.map D.int).length (S.map D.int).length (some size) = size.toNat := by
        simp [HT.sIx, hS1]; omega
      rw [e1, e2]
      simp [List.map_take]
    rw [ecut]
    simp only [wp_wkL]
    refine wp_loopX (S.take size.toNat) (fun q => .d (.int q)) (fun zs Γ P => ∃ j, P = O ++ [MO.lst (S.map D.int)] ++ [.lst (((List.range zs.length).map fun t => ps S t).map D.int)] ∧ Γ = [some (.d (L3 ls)), some (.d (.int size)), some (.own O.length), a, b, c, d, e0, some (.own (O ++ [MO.lst (S.map D.int)]).length), some (.d (.int zs.sum)), j]) (by simp; rfl) (fun _ _ _ _ => wk_ok) ⟨i, rfl, by simp⟩ ?_ ?_
    · rintro zs q ys Γ P e ⟨j, rfl, rfl⟩
      have hzl : zs.length < size.toNat := by
        have := congrArg List.length e
        simp [hS1] at this; omega
      have hps : ps S zs.length = zs.sum + q := by
        have h1 : S.take (zs.length + 1) = zs ++ [q] := by
          have h2 : (S.take size.toNat).take (zs.length + 1) = S.take (zs.length + 1) := by
            rw [List.take_take]; congr 1; omega
          rw [← h2, e, List.take_length_add_append]; simp
        unfold ps
        rw [h1]; simp
      refine ⟨_, by simp; rfl, ?_⟩
      unfold B0_numbers_of
      simp only [wp_fn, dSeq, dRet, dRetN, dSet, dPar, dAsg, dIfS, dIf, dBin, dTest, dChain, dAnd, dOr, dNot, dAndV, dOrV, dNotV, dNext, dStop, dDrop, dNil, dCons, dTup, dLst, dOwn, dCall, dUn, dPart, dNo, dSl, dMeth, dMeth0, dAug, dIce, dYes, wp_star, wp_dFn, w1, w2, wp_bind, wp_pure, wp_no, wp_var, wp_dC]
      simp only [List.set_cons_succ, List.set_cons_zero, List.getElem?_cons_succ, List.getElem?_cons_zero, wp_add]
      have eln : (O ++ [MO.lst (S.map D.int)]).length = O.length + 1 := by simp
      rw [wp_isL (wL_own (by rw [← eln]; exact at_end _ _))]
      rw [wp_app rfl (by rw [← eln]; exact at_end _ _) (by simp; omega)]
      refine ⟨_, ?_, by simp; rfl⟩
      rw [← eln, set_end, ← hps]
      simp [List.range_succ]
    · rintro Γ P ⟨j, rfl, rfl⟩
      simp only [wp_fn, dSeq, dRet, dRetN, dSet, dPar, dAsg, dIfS, dIf, dBin, dTest, dChain, dAnd, dOr, dNot, dAndV, dOrV, dNotV, dNext, dStop, dDrop, dNil, dCons, dTup, dLst, dOwn, dCall, dUn, dPart, dNo, dSl, dMeth, dMeth0, dAug, dIce, dYes, wp_star, wp_dFn, w1, w2, wp_bind, wp_pure, wp_no, wp_var, wp_dC]
      simp only [List.getElem?_cons_succ, List.getElem?_cons_zero]
      rw [wp_ice (at_end _ _)]
      simp only [set_end]
      refine ⟨?_, by simp⟩
      congr 2
      rw [← hN]
      have elen : (S.take size.toNat).length = size.toNat := by rw [List.length_take, hS1]; omega
      rw [elen]
      congr 1
      refine List.map_congr_left fun t ht => ?_
      have ht : t < size.toNat := by simpa using ht
      exact hS2 t (by omega)
/-! ### never two at once -/
theorem cov_nonneg (size b e t : Int) : 0 ≤ cov size b e t := by
  unfold cov; split <;> split <;> omega
theorem covL_nonneg (size : Int) (t : Int) : ∀ as : List (Int × Int), 0 ≤ covL size as t
  | [] => by simp [covL]
  | a :: as => by
    have h1 := covL_nonneg size t as
    have h2 := cov_nonneg size a.1 a.2 t
    unfold covL at h1 ⊢
    simp only [List.map_cons, List.sum_cons]
    omega
/-- what covers t, of one long job: at most one arc, and then the job runs at t -/
theorem cov_at {size t b l p r : Int} {k : Int} (hp : 0 < p) (hl : 0 < l ∧ l ≤ p) (ht : 0 ≤ t ∧ t < size) (hb : 0 ≤ b ∧ b < size) (hd : p ∣ size) (hbk : b = r + k * p) (hc : cov size b (b + l) t ≠ 0) :
    cov size b (b + l) t = 1 ∧ (t - r) % p < l ∧ ((b = t - (t - r) % p) ∨ (b = t + size - (t - r) % p)) := by
  obtain ⟨c, hc'⟩ := hd
  have hm : ∀ x : Int, b ≤ x → x < b + l → (x = t ∨ x = t + size) → (t - r) % p = x - b := fun x h1 h2 hx => by
    have e1 : ∃ z, t - r = (x - b) + p * z := by
      rcases hx with rfl | rfl
      · exact ⟨k, by rw [hbk]; grind⟩
      · exact ⟨k - c, by rw [hbk, hc']; grind⟩
    obtain ⟨z, hz⟩ := e1
    rw [hz, Int.add_mul_emod_self_left]
    exact Int.emod_eq_of_lt (by omega) (by omega)
  have hps : p ≤ size := Int.le_of_dvd (by omega) ⟨c, hc'⟩
  unfold cov at hc ⊢
  by_cases h1 : b ≤ t ∧ t < b + l
  · have h2 : ¬ t + size < b + l := by omega
    rw [if_pos h1, if_neg h2]
    have := hm t h1.1 h1.2 (.inl rfl)
    exact ⟨by omega, by omega, .inl (by omega)⟩
  · rw [if_neg h1] at hc ⊢
    by_cases h2 : t + size < b + l
    · rw [if_pos h2]
      have := hm (t + size) (by omega) h2 (.inr rfl)
      exact ⟨by omega, by omega, .inr (by omega)⟩
    · rw [if_neg h2] at hc; omega
theorem arcs_le {size t p l r : Int} (hp : 0 < p) (hl : 0 < l ∧ l ≤ p) (ht : 0 ≤ t ∧ t < size) (hd : p ∣ size) : ∀ (ks : List Nat), ks.Nodup → (∀ k ∈ ks, 0 ≤ r + ((k : Nat) : Int) * p ∧ r + ((k : Nat) : Int) * p < size) →
    (covL size (ks.map fun (k : Nat) => (r + ((k : Nat) : Int) * p, r + ((k : Nat) : Int) * p + l)) t ≤ 1) ∧ (covL size (ks.map fun (k : Nat) => (r + ((k : Nat) : Int) * p, r + ((k : Nat) : Int) * p + l)) t ≠ 0 → (t - r) % p < l)
  | [], _, _ => by simp [covL]
  | k :: ks, hn, hk => by
    obtain ⟨hn1, hn2⟩ := List.nodup_cons.mp hn
    obtain ⟨h1, h2⟩ := arcs_le hp hl ht hd ks hn2 fun j hj => hk j (List.mem_cons_of_mem _ hj)
    have hk0 := hk k List.mem_cons_self
    have e : covL size ((k :: ks).map fun (k : Nat) => (r + ((k : Nat) : Int) * p, r + ((k : Nat) : Int) * p + l)) t = cov size (r + ((k : Nat) : Int) * p) (r + ((k : Nat) : Int) * p + l) t + covL size (ks.map fun (k : Nat) => (r + ((k : Nat) : Int) * p, r + ((k : Nat) : Int) * p + l)) t := by
      unfold covL; simp
    rw [e]
    by_cases hc : cov size (r + ((k : Nat) : Int) * p) (r + ((k : Nat) : Int) * p + l) t = 0
    · rw [hc]
      exact ⟨by omega, fun z => h2 (by omega)⟩
    · obtain ⟨g1, g2, g3⟩ := cov_at hp hl ht hk0 hd rfl hc
      refine ⟨?_, fun _ => g2⟩
      rw [g1]
      -- no other arc covers t
      have hz : covL size (ks.map fun (k : Nat) => (r + ((k : Nat) : Int) * p, r + ((k : Nat) : Int) * p + l)) t = 0 := by
        have : ∀ js : List Nat, (∀ j ∈ js, j ∈ ks) → covL size (js.map fun (k : Nat) => (r + ((k : Nat) : Int) * p, r + ((k : Nat) : Int) * p + l)) t = 0 := by
          intro js
          induction js with
          | nil => intro _; simp [covL]
          | cons j js ih =>
            intro hj
            have ih' := ih fun x hx => hj x (List.mem_cons_of_mem _ hx)
            have hjk := hj j List.mem_cons_self
            have hcj : cov size (r + ((j : Nat) : Int) * p) (r + ((j : Nat) : Int) * p + l) t = 0 := by
              by_cases hcj : cov size (r + ((j : Nat) : Int) * p) (r + ((j : Nat) : Int) * p + l) t = 0
              · exact hcj
              · obtain ⟨_, _, q3⟩ := cov_at hp hl ht (hk j (List.mem_cons_of_mem _ hjk)) hd rfl hcj
                have hj0 := hk j (List.mem_cons_of_mem _ hjk)
                have eb : ((j : Nat) : Int) * p = ((k : Nat) : Int) * p := by
                  rcases g3 with g3 | g3 <;> rcases q3 with q3 | q3 <;> omega
                have : ((j : Nat) : Int) = ((k : Nat) : Int) := Int.eq_of_mul_eq_mul_right (by omega) eb
                have : j = k := by omega
                rw [this] at hjk
                exact absurd hjk hn1
            unfold covL at ih' ⊢
            simp only [List.map_cons, List.sum_cons]
            omega
        exact this ks fun j hj => hj
      rw [hz]; omega
theorem arcsOf_le {size t : Int} {p : Int × Int × Int} (hp : Lng p) (ht : 0 ≤ t ∧ t < size) (hd : p.2.1 ∣ size) : covL size (arcsOf size p) t ≤ 1 ∧ (covL size (arcsOf size p) t ≠ 0 → Rn p t = true) := by
  obtain ⟨⟨h1, h2⟩, ⟨h3, h4⟩, h5, h6⟩ := hp
  have hps : p.2.1 ≤ size := Int.le_of_dvd (by omega) hd
  have := arcs_le (size := size) (t := t) (p := p.2.1) (l := p.2.2) (r := p.1) (by omega) ⟨by omega, h6⟩ ht hd (List.range (stepN p.1 size p.2.1)) List.nodup_range fun k hk => by
    have hi : k < stepN p.1 size p.2.1 := by simpa using hk
    unfold stepN at hi
    rw [if_pos (by omega)] at hi
    have h7 : ((k : Nat) : Int) ≤ (size - p.1 - 1) / p.2.1 := by
      have : 0 ≤ (size - p.1 - 1) / p.2.1 := Int.ediv_nonneg (by omega) (by omega)
      omega
    have h8 : ((k : Nat) : Int) * p.2.1 ≤ size - p.1 - 1 := by
      rw [← Int.le_ediv_iff_mul_le (by omega)]; exact h7
    have hb0 : 0 ≤ ((k : Nat) : Int) * p.2.1 := Int.mul_nonneg (by omega) (by omega)
    exact ⟨by omega, by omega⟩
  exact ⟨this.1, fun z => decide_eq_true (this.2 z)⟩
theorem apart_not {p q : Int × Int × Int} (hp : Lng p) (hq : Lng q) (h : Ap p q = true) (t : Int) : ¬ (Rn p t = true ∧ Rn q t = true) := by
  rintro ⟨h1, h2⟩
  have h := of_decide_eq_true h
  have h1 := of_decide_eq_true h1
  have h2 := of_decide_eq_true h2
  obtain ⟨⟨p1, p2⟩, _⟩ := hp
  obtain ⟨⟨q1, q2⟩, _⟩ := hq
  obtain ⟨a, ha⟩ := g_dvd_left p.2.1 q.2.1
  obtain ⟨b, hb⟩ := g_dvd_right p.2.1 q.2.1
  have hg := g_pos (a := p.2.1) (b := q.2.1) (by omega)
  have e1 := Int.emod_add_mul_ediv (t - p.1) p.2.1
  have e2 := Int.emod_add_mul_ediv (t - q.1) q.2.1
  have e3 := Int.emod_add_mul_ediv (q.1 - p.1) (G p.2.1 q.2.1)
  have n1 : 0 ≤ (t - p.1) % p.2.1 := Int.emod_nonneg _ (by omega)
  have n2 : 0 ≤ (t - q.1) % q.2.1 := Int.emod_nonneg _ (by omega)
  obtain ⟨k1, k2⟩ := h
  -- gap - (a - b) is a multiple of g, above 0 and below g
  have key : ∃ z, Gp p q - ((t - p.1) % p.2.1 - (t - q.1) % q.2.1) = G p.2.1 q.2.1 * z := by
    refine ⟨a * ((t - p.1) / p.2.1) - b * ((t - q.1) / q.2.1) - (q.1 - p.1) / G p.2.1 q.2.1, ?_⟩
    have f1 : p.2.1 * ((t - p.1) / p.2.1) = G p.2.1 q.2.1 * (a * ((t - p.1) / p.2.1)) := by
      conv => lhs; lhs; rw [ha]
      rw [Int.mul_assoc]
    have f2 : q.2.1 * ((t - q.1) / q.2.1) = G p.2.1 q.2.1 * (b * ((t - q.1) / q.2.1)) := by
      conv => lhs; lhs; rw [hb]
      rw [Int.mul_assoc]
    rw [Int.mul_sub, Int.mul_sub]
    show (q.1 - p.1) % G p.2.1 q.2.1 - _ = _
    omega
  obtain ⟨z, hz⟩ := key
  have z1 : 0 < G p.2.1 q.2.1 * z := by omega
  have z2 : G p.2.1 q.2.1 * z < G p.2.1 q.2.1 * 1 := by omega
  have z3 : 0 < z := by
    rcases Int.lt_or_le 0 z with h | h
    · exact h
    · have := Int.mul_le_mul_of_nonneg_left h (Int.le_of_lt hg)
      rw [Int.mul_zero] at this
      omega
  have z4 : z < 1 := Int.lt_of_mul_lt_mul_left z2 (Int.le_of_lt hg)
  omega
theorem covAll_le {size t : Int} (ht : 0 ≤ t ∧ t < size) : ∀ (ls : List (Int × Int × Int)), (∀ q ∈ ls, Lng q) → (∀ q ∈ ls, q.2.1 ∣ size) → ls.Pairwise (fun i j => Ap i j = true) → covAll size ls t ≤ 1 ∧ 0 ≤ covAll size ls t ∧ (covAll size ls t ≠ 0 → ∃ q ∈ ls, Rn q t = true)
  | [], _, _, _ => by simp [covAll]
  | p :: ls, h, hd, hp => by
    obtain ⟨hp1, hp2⟩ := List.pairwise_cons.mp hp
    obtain ⟨g1, g2, g3⟩ := covAll_le ht ls (fun q hq => h q (List.mem_cons_of_mem _ hq)) (fun q hq => hd q (List.mem_cons_of_mem _ hq)) hp2
    obtain ⟨k1, k2⟩ := arcsOf_le (h p List.mem_cons_self) ht (hd p List.mem_cons_self)
    have k0 := covL_nonneg size t (arcsOf size p)
    have e : covAll size (p :: ls) t = covL size (arcsOf size p) t + covAll size ls t := by unfold covAll; simp
    rw [e]
    by_cases hz : covL size (arcsOf size p) t = 0
    · rw [hz]
      refine ⟨by omega, by omega, fun z => ?_⟩
      obtain ⟨q, hq, hr⟩ := g3 (by omega)
      exact ⟨q, List.mem_cons_of_mem _ hq, hr⟩
    · have hr := k2 hz
      have hz2 : covAll size ls t = 0 := by
        by_cases hz2 : covAll size ls t = 0
        · exact hz2
        · obtain ⟨q, hq, hrq⟩ := g3 hz2
          exact absurd ⟨hr, hrq⟩ (apart_not (h p List.mem_cons_self) (h q (List.mem_cons_of_mem _ hq)) (hp1 q hq) t)
      rw [hz2]
      exact ⟨by omega, by omega, fun _ => ⟨p, List.mem_cons_self, hr⟩⟩
theorem rd_dvd : ∀ (ls : List (Int × Int × Int)) (a : Int), (∀ q ∈ ls, Lng q) → 0 < a → a ∣ ls.foldl (fun a p => Lc a p.2.1) a ∧ ∀ q ∈ ls, q.2.1 ∣ ls.foldl (fun a p => Lc a p.2.1) a
  | [], a, _, _ => ⟨Int.dvd_refl a, fun q hq => by cases hq⟩
  | p :: ls, a, h, ha => by
    have hp := (h p List.mem_cons_self).1
    obtain ⟨h1, h2⟩ := rd_dvd ls (Lc a p.2.1) (fun q hq => h q (List.mem_cons_of_mem _ hq)) (lc_pos ha (by omega))
    refine ⟨Int.dvd_trans (dvd_lc_left ha (by omega)) h1, fun q hq => ?_⟩
    rcases List.mem_cons.mp hq with rfl | hq
    · exact Int.dvd_trans (dvd_lc_right ha (by omega)) h1
    · exact h2 q hq
theorem nums_max {p : Int × Int × Int} {ls : List (Int × Int × Int)} (h : ∀ q ∈ p :: ls, Lng q) (hp : (p :: ls).Pairwise (fun i j => Ap i j = true)) (h0 : p.1 = 0) : (1 : Int) ∈ nums (Rd (p :: ls)) (p :: ls) ∧ ∀ y ∈ nums (Rd (p :: ls)) (p :: ls), y ≤ 1 := by
  have hpos : 0 < Rd (p :: ls) := rd_pos h (by decide)
  have hd : ∀ q ∈ p :: ls, q.2.1 ∣ Rd (p :: ls) := (rd_dvd (p :: ls) 1 h (by decide)).2
  obtain ⟨size, hsz⟩ : ∃ size, Rd (p :: ls) = size := ⟨_, rfl⟩
  rw [hsz] at hpos hd ⊢
  have le : ∀ t : Nat, (t : Int) < size → covAll size (p :: ls) t ≤ 1 ∧ 0 ≤ covAll size (p :: ls) t := fun t ht => by
    obtain ⟨g1, g2, _⟩ := covAll_le (size := size) (t := t) ⟨by omega, ht⟩ (p :: ls) h hd hp
    exact ⟨g1, g2⟩
  refine ⟨?_, fun y hy => ?_⟩
  · unfold nums
    refine List.mem_map.mpr ⟨0, by simp; omega, ?_⟩
    have h1 := (le 0 (by omega)).1
    -- the first job runs at 0
    obtain ⟨⟨p1, p2⟩, ⟨p3, p4⟩, p5, p6⟩ := h p List.mem_cons_self
    have hps : p.2.1 ≤ size := Int.le_of_dvd (by omega) (hd p List.mem_cons_self)
    have e1 : covAll size (p :: ls) ((0 : Nat) : Int) = covL size (arcsOf size p) ((0 : Nat) : Int) + covAll size ls ((0 : Nat) : Int) := by unfold covAll; simp
    have e2 : 0 ≤ covAll size ls ((0 : Nat) : Int) := (covAll_le (size := size) (t := ((0 : Nat) : Int)) ⟨by omega, by omega⟩ ls (fun q hq => h q (List.mem_cons_of_mem _ hq)) (fun q hq => hd q (List.mem_cons_of_mem _ hq)) (List.pairwise_cons.mp hp).2).2.1
    have e3 : 1 ≤ covL size (arcsOf size p) ((0 : Nat) : Int) := by
      unfold arcsOf
      have hn : ∃ m, stepN p.1 size p.2.1 = m + 1 := by
        unfold stepN
        rw [if_pos (by omega)]
        have : 0 ≤ (size - p.1 - 1) / p.2.1 := Int.ediv_nonneg (by omega) (by omega)
        exact ⟨((size - p.1 - 1) / p.2.1).toNat, by omega⟩
      obtain ⟨m, hm⟩ := hn
      rw [hm, List.range_succ_eq_map, List.map_cons]
      have e4 : ∀ (a : Int × Int) (as : List (Int × Int)) (t : Int), covL size (a :: as) t = cov size a.1 a.2 t + covL size as t := fun a as t => by unfold covL; simp
      rw [e4]
      have e5 := covL_nonneg size ((0 : Nat) : Int) (((List.range m).map Nat.succ).map fun (k : Nat) => (p.1 + ((k : Nat) : Int) * p.2.1, p.1 + ((k : Nat) : Int) * p.2.1 + p.2.2))
      have e6 : cov size (p.1 + ((0 : Nat) : Int) * p.2.1) (p.1 + ((0 : Nat) : Int) * p.2.1 + p.2.2) ((0 : Nat) : Int) = 1 := by
        unfold cov
        rw [h0, if_pos (by omega), if_neg (by omega)]; rfl
      dsimp only at e5 ⊢
      omega
    omega
  · unfold nums at hy
    obtain ⟨t, ht, rfl⟩ := List.mem_map.mp hy
    have ht : t < size.toNat := by simpa using ht
    exact (le t (by omega)).1
theorem f_most {p : Int × Int × Int} {ls : List (Int × Int × Int)} (h : ∀ q ∈ p :: ls, Lng q) (hl : (p :: ls).length ≤ 12) (hp : (p :: ls).Pairwise (fun i j => Ap i j = true)) (h0 : p.1 = 0) (hz : Rd (p :: ls) ≤ 2000) :
    ∃ d, F_most_long A [.d (L3 (p :: ls))] O = .ok (.d (.tup [.int 1, d])) O := by
  have hpos : 0 < Rd (p :: ls) := rd_pos h (by decide)
  have hd : ∀ q ∈ p :: ls, q.2.1 ≤ Rd (p :: ls) := fun q hq => Int.le_of_dvd hpos ((rd_dvd (p :: ls) 1 h (by decide)).2 q hq)
  obtain ⟨m1, m2⟩ := nums_max h hp h0
  obtain ⟨N, hN⟩ : ∃ N, nums (Rd (p :: ls)) (p :: ls) = N := ⟨_, rfl⟩
  have hnum := fun O => f_numbers (A := A) (O := O) h hz hd
  rw [hN] at m1 m2
  simp only [hN] at hnum
  have z : wp (F_most_long A [.d (L3 (p :: ls))]) O fun w O' => O' = O ∧ ∃ d, w = .d (.tup [.int 1, d]) := by
    unfold F_most_long d_most_long
    simp only [wp_fn, dSeq, dRet, dRetN, dSet, dPar, dAsg, dIfS, dIf, dBin, dTest, dChain, dAnd, dOr, dNot, dAndV, dOrV, dNotV, dNext, dStop, dDrop, dNil, dCons, dTup, dLst, dOwn, dCall, dUn, dPart, dNo, dSl, dMeth, dMeth0, dAug, dIce, dYes, wp_star, wp_dFn, w1, w2, wp_bind, wp_pure, wp_no, wp_var, wp_dC]
    simp only [List.map_cons, List.map_nil, List.replicate, List.cons_append, List.nil_append, List.append_nil, List.getElem?_cons_succ, List.getElem?_cons_zero]
    rw [wp_dFn (by rfl)]
    simp only [List.map_nil, List.append_nil]
    rw [f_need_short h (by simp) hl (by omega)]
    rw [wp_dFn (by rfl)]
    simp only [List.map_nil, List.append_nil]
    rw [wp_eq (hnum O)]
    simp only [List.set_cons_succ, List.set_cons_zero, List.getElem?_cons_succ, List.getElem?_cons_zero]
    have hne : N ≠ [] := by intro z; rw [z] at m1; cases m1
    have e1 : wMaxL (.d (.lst (N.map D.int))) O = .ok (.d (.int 1)) O := by
      unfold wMaxL wInts
      simp only [wL_lst, ints_map, if_neg hne]
      rw [← maxI_of m1 m2]; rfl
    rw [wp_eq e1]
    rw [wp_isL rfl]
    have e2 : wIndex (.d (.lst (N.map D.int))) [.d (.int 1)] O = .ok (.d (.int ((N.idxOf 1 : Nat) : Int))) O := by
      unfold wIndex wInts
      simp only [wL_lst, ints_map, if_pos m1]
      rfl
    rw [wp_eq e2]
    simp
  obtain ⟨w, O', e, rfl, d, rfl⟩ := wp_out z
  exact ⟨d, e⟩
end L74


set_option maxRecDepth 100000
set_option maxHeartbeats 2000000
/-! k74: the table of the single moments. -/
namespace L74
open PySem L2 VL
variable {A : Str → Addr} {O : Sto} {Φ : W → Sto → Prop}
def sgl (p : Int × Int × Int) : List (Int × Int) := (List.range p.2.2.toNat).map fun (s : Nat) => ((p.1 + ((s : Nat) : Int)) % p.2.1, p.2.1)
theorem sgl_job {p : Int × Int × Int} (h : Lng p) : ∀ j ∈ sgl p, Job j := fun j hj => by
  obtain ⟨⟨h1, h2⟩, _⟩ := h
  unfold sgl at hj
  obtain ⟨s, _, rfl⟩ := List.mem_map.mp hj
  exact ⟨⟨h1, h2⟩, Int.emod_nonneg _ (by omega), Int.emod_lt_of_pos _ (by omega)⟩
def tot (ls : List (Int × Int × Int)) : Nat := (ls.flatMap sgl).length
theorem f_singles {ls : List (Int × Int × Int)} (h : ∀ q ∈ ls, Lng q) (ht : tot ls ≤ 1000) : F_z_singles A [.d (L3 ls)] O = .ok (.d (L2' (ls.flatMap sgl))) O := by
  refine eq_of_wp ?_
  have line := line_big
  unfold F_z_singles d_z_singles
  simp only [wp_fn, dSeq, dRet, dRetN, dSet, dPar, dAsg, dIfS, dIf, dBin, dTest, dChain, dAnd, dOr, dNot, dAndV, dOrV, dNotV, dNext, dStop, dDrop, dNil, dCons, dTup, dLst, dOwn, dCall, dUn, dPart, dNo, dSl, dMeth, dMeth0, dAug, dIce, dYes, wp_star, wp_dFn, w1, w2, wp_bind, wp_pure, wp_no, wp_var, wp_dC]
  simp [wp_fn, dSeq, dRet, dRetN, dSet, dPar, dAsg, dIfS, dIf, dBin, dTest, dChain, dAnd, dOr, dNot, dAndV, dOrV, dNotV, dNext, dStop, dDrop, dNil, dCons, dTup, dLst, dOwn, dCall, dUn, dPart, dNo, dSl, dMeth, dMeth0, dAug, dIce, dYes, wp_star, wp_dFn, w1, w2, wp_bind, wp_pure, wp_no, wp_var, wp_dC]
  rw [wp_for, wp_it]
  simp [wp_fn, dSeq, dRet, dRetN, dSet, dPar, dAsg, dIfS, dIf, dBin, dTest, dChain, dAnd, dOr, dNot, dAndV, dOrV, dNotV, dNext, dStop, dDrop, dNil, dCons, dTup, dLst, dOwn, dCall, dUn, dPart, dNo, dSl, dMeth, dMeth0, dAug, dIce, dYes, wp_star, wp_dFn, w1, w2, wp_bind, wp_pure, wp_no, wp_var, wp_dC]
  refine wp_loopX ls (fun q => .d (d3 q)) (fun zs Γ P => P = O ++ [.lst ((zs.flatMap sgl).map d2)] ∧ ∃ a b c d, Γ = [some (.d (L3 ls)), some (.own O.length), a, b, c, d]) (by simp) (fun _ _ _ _ => wk_ok) ⟨by simp, _, _, _, _, rfl⟩ ?_ ?_
  · rintro zs q ys Γ P e ⟨rfl, a, b, c, d, rfl⟩
    obtain ⟨⟨h1, h2⟩, _, h5, h6⟩ := h q (mem_of_split e)
    have hlen : (zs.flatMap sgl).length + (sgl q).length ≤ 1000 := by
      have : (ls.flatMap sgl).length = (zs.flatMap sgl).length + ((sgl q).length + (ys.flatMap sgl).length) := by rw [e]; simp
      unfold tot at ht
      omega
    have hsl : (sgl q).length = q.2.2.toNat := by unfold sgl; simp
    refine ⟨_, by simp; rfl, ?_⟩
    unfold B0_z_singles
    simp only [wp_fn, dSeq, dRet, dRetN, dSet, dPar, dAsg, dIfS, dIf, dBin, dTest, dChain, dAnd, dOr, dNot, dAndV, dOrV, dNotV, dNext, dStop, dDrop, dNil, dCons, dTup, dLst, dOwn, dCall, dUn, dPart, dNo, dSl, dMeth, dMeth0, dAug, dIce, dYes, wp_star, wp_dFn, w1, w2, wp_bind, wp_pure, wp_no, wp_var, wp_dC]
    simp only [List.getElem?_cons_succ, List.getElem?_cons_zero]
    rw [wp_isL (wL_own (at_end _ _)), wp_lcD]
    refine wp_rng1 (j := q.2.2) ?_
    simp [wp_fn, dSeq, dRet, dRetN, dSet, dPar, dAsg, dIfS, dIf, dBin, dTest, dChain, dAnd, dOr, dNot, dAndV, dOrV, dNotV, dNext, dStop, dDrop, dNil, dCons, dTup, dLst, dOwn, dCall, dUn, dPart, dNo, dSl, dMeth, dMeth0, dAug, dIce, dYes, wp_star, wp_dFn, w1, w2, wp_bind, wp_pure, wp_no, wp_var, wp_dC, wipeG]
    refine ⟨⟨by omega, by omega⟩, ?_⟩
    refine wp_lc (fun s : Nat => .d (.int ((s : Nat) : Int))) (fun s => some (d2 ((q.1 + ((s : Nat) : Int)) % q.2.1, q.2.1))) (List.range q.2.2.toNat) (rng01 _) wk_ok (by simp; omega) (fun s _ => ⟨_, by simp; rfl, ?_⟩) ?_
    · simp [wp_fn, dSeq, dRet, dRetN, dSet, dPar, dAsg, dIfS, dIf, dBin, dTest, dChain, dAnd, dOr, dNot, dAndV, dOrV, dNotV, dNext, dStop, dDrop, dNil, dCons, dTup, dLst, dOwn, dCall, dUn, dPart, dNo, dSl, dMeth, dMeth0, dAug, dIce, dYes, wp_star, wp_dFn, w1, w2, wp_bind, wp_pure, wp_no, wp_var, wp_dC]
      rw [wp_mod (by omega)]
      simp
    · have e1 : List.filterMap (fun s : Nat => some (d2 ((q.1 + ((s : Nat) : Int)) % q.2.1, q.2.1))) (List.range q.2.2.toNat) = (sgl q).map d2 := by
        show List.filterMap (some ∘ fun s : Nat => d2 ((q.1 + ((s : Nat) : Int)) % q.2.1, q.2.1)) _ = _
        rw [List.filterMap_eq_map]
        unfold sgl
        rw [List.map_map]; rfl
      rw [e1]
      rw [wp_ext rfl (at_end _ _) rfl (by rw [List.length_map, List.length_map]; omega)]
      simp
  · rintro Γ P ⟨rfl, a, b, c, d, rfl⟩
    simp only [wp_fn, dSeq, dRet, dRetN, dSet, dPar, dAsg, dIfS, dIf, dBin, dTest, dChain, dAnd, dOr, dNot, dAndV, dOrV, dNotV, dNext, dStop, dDrop, dNil, dCons, dTup, dLst, dOwn, dCall, dUn, dPart, dNo, dSl, dMeth, dMeth0, dAug, dIce, dYes, wp_star, wp_dFn, w1, w2, wp_bind, wp_pure, wp_no, wp_var, wp_dC]
    simp only [List.getElem?_cons_succ, List.getElem?_cons_zero]
    rw [wp_ice (at_end _ _)]
    simp
/-! ### the table -/
abbrev Tb (A : Str → Addr) (js : List (Int × Int)) : D := .ins (A "Table") ["own_jobs"] [.tup (js.map d2)]
theorem f_init {js : List (Int × Int)} (h : ∀ j ∈ js, Job j) (hl : js.length ≤ 20) : F_Table_init A [.own O.length, .d (L2' js)] (O ++ [.ins (A "Table") [] []]) = .ok (.d .non) (O ++ [.ins (A "Table") ["own_jobs"] [.tup (js.map d2)]]) := by
  refine eq_of_wp ?_
  unfold F_Table_init d_Table_init
  simp only [wp_fn, dSeq, dRet, dRetN, dSet, dPar, dAsg, dIfS, dIf, dBin, dTest, dChain, dAnd, dOr, dNot, dAndV, dOrV, dNotV, dNext, dStop, dDrop, dNil, dCons, dTup, dLst, dOwn, dCall, dUn, dPart, dNo, dSl, dMeth, dMeth0, dAug, dIce, dYes, wp_star, wp_dFn, w1, w2, wp_bind, wp_pure, wp_no, wp_var, wp_dC]
  simp [wp_fn, dSeq, dRet, dRetN, dSet, dPar, dAsg, dIfS, dIf, dBin, dTest, dChain, dAnd, dOr, dNot, dAndV, dOrV, dNotV, dNext, dStop, dDrop, dNil, dCons, dTup, dLst, dOwn, dCall, dUn, dPart, dNo, dSl, dMeth, dMeth0, dAug, dIce, dYes, wp_star, wp_dFn, w1, w2, wp_bind, wp_pure, wp_no, wp_var, wp_dC, f_is_list, show ¬ 20 < (js.length : Int) by omega]
  rw [wp_for, wp_enum]
  simp [wp_fn, dSeq, dRet, dRetN, dSet, dPar, dAsg, dIfS, dIf, dBin, dTest, dChain, dAnd, dOr, dNot, dAndV, dOrV, dNotV, dNext, dStop, dDrop, dNil, dCons, dTup, dLst, dOwn, dCall, dUn, dPart, dNo, dSl, dMeth, dMeth0, dAug, dIce, dYes, wp_star, wp_dFn, w1, w2, wp_bind, wp_pure, wp_no, wp_var, wp_dC]
  refine wp_loopX js.zipIdx _ (fun zs Γ P => P = O ++ [.ins (A "Table") [] []] ∧ ∃ a b, Γ = [some (.own O.length), some (.d (L2' js)), a, b]) (enum_g js d2) (fun _ _ _ _ => wk_ok) ⟨rfl, _, _, rfl⟩ ?_ ?_
  · rintro zs ⟨j, n⟩ ys Γ P e ⟨rfl, a, b, rfl⟩
    have hj := h j (List.mem_of_getElem? (zip_split e).2)
    refine ⟨_, by simp; rfl, ?_⟩
    unfold B0_Table_init
    simp [wp_fn, dSeq, dRet, dRetN, dSet, dPar, dAsg, dIfS, dIf, dBin, dTest, dChain, dAnd, dOr, dNot, dAndV, dOrV, dNotV, dNext, dStop, dDrop, dNil, dCons, dTup, dLst, dOwn, dCall, dUn, dPart, dNo, dSl, dMeth, dMeth0, dAug, dIce, dYes, wp_star, wp_dFn, w1, w2, wp_bind, wp_pure, wp_no, wp_var, wp_dC, f_job_right hj]
  · rintro Γ P ⟨rfl, a, b, rfl⟩
    unfold dFldS
    simp only [wp_fn, dSeq, dRet, dRetN, dSet, dPar, dAsg, dIfS, dIf, dBin, dTest, dChain, dAnd, dOr, dNot, dAndV, dOrV, dNotV, dNext, dStop, dDrop, dNil, dCons, dTup, dLst, dOwn, dCall, dUn, dPart, dNo, dSl, dMeth, dMeth0, dAug, dIce, dYes, wp_star, wp_dFn, w1, w2, wp_bind, wp_pure, wp_no, wp_var, wp_dC]
    simp only [List.getElem?_cons_succ, List.getElem?_cons_zero]
    rw [wp_tuple rfl]
    have e1 : wFld (A "Table") "own_jobs" (.own O.length) (.d (.tup (js.map d2))) (O ++ [MO.ins (A "Table") [] []]) = .ok () ((O ++ [MO.ins (A "Table") [] []]).set O.length (MO.ins (A "Table") ["own_jobs"] [.tup (js.map d2)])) := by
      unfold wFld
      have := at_end O (MO.ins (A "Table") [] [])
      simp only [this]
      rw [if_pos (by simp)]
      rfl
    rw [wp_eq e1, set_end]
    exact List.take_of_length_le (by simp)
theorem f_table {js : List (Int × Int)} (h : ∀ j ∈ js, Job j) (hl : js.length ≤ 20) : mkIns (A "Table") 2 (F_Table_init A) [.d (L2' js)] O = .ok (.d (Tb A js)) O := by
  unfold mkIns
  have e : calm (arity 2 (F_Table_init A) (.own O.length :: [.d (L2' js)])) (O ++ [.ins (A "Table") [] []]) = .ok (.d .non) (O ++ [.ins (A "Table") ["own_jobs"] [.tup (js.map d2)]]) := by
    have e2 : arity 2 (F_Table_init A) (.own O.length :: [.d (L2' js)]) = F_Table_init A (.own O.length :: [.d (L2' js)]) := by
      unfold arity
      exact if_pos rfl
    rw [e2]
    unfold calm
    rw [f_init h hl]
  rw [e]
  have := at_end O (MO.ins (A "Table") ["own_jobs"] [.tup (js.map d2)])
  simp only [this]
  simp
theorem f_need_table {js : List (Int × Int)} : wp (F_need_table A [.d (Tb A js), .d .non]) O Φ = Φ (.d .non) O := by
  unfold F_need_table d_need_table
  have e : ∀ Φ, wp (wIsC (A "Table") (.d (Tb A js)) (.d (.adr (A "Table")))) O Φ = Φ (.d (.bl true)) O := fun Φ => by
    unfold wIsC
    show wp (if _ then _ else _) O Φ = _
    rw [wp_if ⟨rfl, rfl⟩]; rfl
  simp only [wp_fn, dSeq, dRet, dRetN, dSet, dPar, dAsg, dIfS, dIf, dBin, dTest, dChain, dAnd, dOr, dNot, dAndV, dOrV, dNotV, dNext, dStop, dDrop, dNil, dCons, dTup, dLst, dOwn, dCall, dUn, dPart, dNo, dSl, dMeth, dMeth0, dAug, dIce, dYes, wp_star, wp_dFn, w1, w2, wp_bind, wp_pure, wp_no, wp_var, wp_dC]
  simp [wp_fn, dSeq, dRet, dRetN, dSet, dPar, dAsg, dIfS, dIf, dBin, dTest, dChain, dAnd, dOr, dNot, dAndV, dOrV, dNotV, dNext, dStop, dDrop, dNil, dCons, dTup, dLst, dOwn, dCall, dUn, dPart, dNo, dSl, dMeth, dMeth0, dAug, dIce, dYes, wp_star, wp_dFn, w1, w2, wp_bind, wp_pure, wp_no, wp_var, wp_dC, e]
theorem f_jobs {js : List (Int × Int)} : wp (F_Table_jobs A [.d (Tb A js)]) O Φ = Φ (.d (.tup (js.map d2))) O := by
  unfold F_Table_jobs d_Table_jobs
  have e : ∀ Φ, wp (wField (A "Table") "own_jobs" (.d (Tb A js))) O Φ = Φ (.d (.tup (js.map d2))) O := fun Φ => by
    unfold wField
    simp [getF]
  simp only [wp_fn, dSeq, dRet, dRetN, dSet, dPar, dAsg, dIfS, dIf, dBin, dTest, dChain, dAnd, dOr, dNot, dAndV, dOrV, dNotV, dNext, dStop, dDrop, dNil, dCons, dTup, dLst, dOwn, dCall, dUn, dPart, dNo, dSl, dMeth, dMeth0, dAug, dIce, dYes, wp_star, wp_dFn, w1, w2, wp_bind, wp_pure, wp_no, wp_var, wp_dC]
  simp [wp_fn, dSeq, dRet, dRetN, dSet, dPar, dAsg, dIfS, dIf, dBin, dTest, dChain, dAnd, dOr, dNot, dAndV, dOrV, dNotV, dNext, dStop, dDrop, dNil, dCons, dTup, dLst, dOwn, dCall, dUn, dPart, dNo, dSl, dMeth, dMeth0, dAug, dIce, dYes, wp_star, wp_dFn, w1, w2, wp_bind, wp_pure, wp_no, wp_var, wp_dC, e]
theorem wp_prop {js : List (Int × Int)} : wp (wProp (A "Table") 1 (F_Table_jobs A) (.d (Tb A js))) O Φ = Φ (.d (.tup (js.map d2))) O := by
  unfold wProp arity
  simp [f_jobs]
def runs (js : List (Int × Int)) (m : Int) : List Nat := (js.zipIdx.filter fun q => decide (m % q.1.2 = q.1.1)).map fun q => q.2
theorem f_running {js : List (Int × Int)} (h : ∀ j ∈ js, Job j) (hl : js.length ≤ 1000) (m : Int) : F_running A [.d (.tup (js.map d2)), .d (.int m)] O = .ok (.d (.lst ((runs js m).map fun n : Nat => D.int ((n : Nat) : Int)))) O := by
  refine eq_of_wp ?_
  have line := line_big
  unfold F_running d_running
  simp only [wp_fn, dSeq, dRet, dRetN, dSet, dPar, dAsg, dIfS, dIf, dBin, dTest, dChain, dAnd, dOr, dNot, dAndV, dOrV, dNotV, dNext, dStop, dDrop, dNil, dCons, dTup, dLst, dOwn, dCall, dUn, dPart, dNo, dSl, dMeth, dMeth0, dAug, dIce, dYes, wp_star, wp_dFn, w1, w2, wp_bind, wp_pure, wp_no, wp_var, wp_dC]
  rw [wp_lcD, wp_enum]
  simp [wp_fn, dSeq, dRet, dRetN, dSet, dPar, dAsg, dIfS, dIf, dBin, dTest, dChain, dAnd, dOr, dNot, dAndV, dOrV, dNotV, dNext, dStop, dDrop, dNil, dCons, dTup, dLst, dOwn, dCall, dUn, dPart, dNo, dSl, dMeth, dMeth0, dAug, dIce, dYes, wp_star, wp_dFn, w1, w2, wp_bind, wp_pure, wp_no, wp_var, wp_dC, wipeG]
  refine wp_lc (fun q : (Int × Int) × Nat => .d (.tup [.int ((q.2 : Nat) : Int), d2 q.1])) (fun q => if m % q.1.2 = q.1.1 then some (.int ((q.2 : Nat) : Int)) else none) js.zipIdx (enum_g js d2) wk_ok (by simp; omega) (fun q hq => ⟨_, by simp; rfl, ?_⟩) ?_
  · have hj := (h q.1 (zip_mem hq)).1
    simp [wp_fn, dSeq, dRet, dRetN, dSet, dPar, dAsg, dIfS, dIf, dBin, dTest, dChain, dAnd, dOr, dNot, dAndV, dOrV, dNotV, dNext, dStop, dDrop, dNil, dCons, dTup, dLst, dOwn, dCall, dUn, dPart, dNo, dSl, dMeth, dMeth0, dAug, dIce, dYes, wp_star, wp_dFn, w1, w2, wp_bind, wp_pure, wp_no, wp_var, wp_dC]
    rw [wp_mod (by omega)]
    by_cases hx : m % q.1.2 = q.1.1
    · simp [hx]
    · simp [hx]
  · refine ⟨?_, by simp⟩
    unfold runs
    induction js.zipIdx with
    | nil => rfl
    | cons x xs ih =>
      by_cases hx : m % x.1.2 = x.1.1
      · simp [hx]; simpa using ih
      · simp [hx]; simpa using ih
theorem f_count_at {js : List (Int × Int)} (h : ∀ j ∈ js, Job j) (hl : js.length ≤ 1000) {m : Int} (hm : -Big ≤ m ∧ m ≤ Big) : wp (F_count_at A [.d (Tb A js), .d (.int m)]) O Φ = Φ (.d (.int ((runs js m).length : Nat))) O := by
  have hr := fun O => f_running (A := A) (O := O) h hl m
  unfold F_count_at d_count_at
  simp only [wp_fn, dSeq, dRet, dRetN, dSet, dPar, dAsg, dIfS, dIf, dBin, dTest, dChain, dAnd, dOr, dNot, dAndV, dOrV, dNotV, dNext, dStop, dDrop, dNil, dCons, dTup, dLst, dOwn, dCall, dUn, dPart, dNo, dSl, dMeth, dMeth0, dAug, dIce, dYes, wp_star, wp_dFn, w1, w2, wp_bind, wp_pure, wp_no, wp_var, wp_dC]
  simp [wp_fn, dSeq, dRet, dRetN, dSet, dPar, dAsg, dIfS, dIf, dBin, dTest, dChain, dAnd, dOr, dNot, dAndV, dOrV, dNotV, dNext, dStop, dDrop, dNil, dCons, dTup, dLst, dOwn, dCall, dUn, dPart, dNo, dSl, dMeth, dMeth0, dAug, dIce, dYes, wp_star, wp_dFn, w1, w2, wp_bind, wp_pure, wp_no, wp_var, wp_dC, f_need_table, f_need_moment hm, wp_prop]
  rw [wp_eq (hr O)]
  simp
/-! ### sums over a stretch -/
abbrev tb (q : Int × Int) (a b : Int) : Int := (b - q.1) / q.2 - (a - 1 - q.1) / q.2
abbrev mb (p : Int × Int × Int) (y : Int) : Int := y / p.2.1 * p.2.2 + min (y % p.2.1) p.2.2
theorem f_times {q : Int × Int} (h : Job q) {a b : Int} (hab : a ≤ b) : wp (F_times_by A [.d (d2 q), .d (.int a), .d (.int b)]) O Φ = Φ (.d (.int (tb q a b))) O := by
  obtain ⟨⟨h1, h2⟩, _⟩ := h
  have hf : q.2 < far := lt_far (by have : (10 : Int) ^ 12 ≤ 10 ^ 1000 := by decide +kernel
                                    omega)
  unfold F_times_by d_times_by
  simp only [wp_fn, dSeq, dRet, dRetN, dSet, dPar, dAsg, dIfS, dIf, dBin, dTest, dChain, dAnd, dOr, dNot, dAndV, dOrV, dNotV, dNext, dStop, dDrop, dNil, dCons, dTup, dLst, dOwn, dCall, dUn, dPart, dNo, dSl, dMeth, dMeth0, dAug, dIce, dYes, wp_star, wp_dFn, w1, w2, wp_bind, wp_pure, wp_no, wp_var, wp_dC]
  simp [wp_fn, dSeq, dRet, dRetN, dSet, dPar, dAsg, dIfS, dIf, dBin, dTest, dChain, dAnd, dOr, dNot, dAndV, dOrV, dNotV, dNext, dStop, dDrop, dNil, dCons, dTup, dLst, dOwn, dCall, dUn, dPart, dNo, dSl, dMeth, dMeth0, dAug, dIce, dYes, wp_star, wp_dFn, w1, w2, wp_bind, wp_pure, wp_no, wp_var, wp_dC, show ¬ b < a by omega]
  rw [wp_div ⟨by omega, hf⟩]
  rw [wp_div ⟨by omega, hf⟩]
  simp
theorem f_total_by {js : List (Int × Int)} (h : ∀ j ∈ js, Job j) (hl : js.length ≤ 1000) {a b : Int} (hab : a ≤ b) : wp (F_total_by A [.d (.tup (js.map d2)), .d (.int a), .d (.int b)]) O Φ = Φ (.d (.int (js.map fun j => tb j a b).sum)) O := by
  have e : F_total_by A [.d (.tup (js.map d2)), .d (.int a), .d (.int b)] O = .ok (.d (.int (js.map fun j => tb j a b).sum)) O := by
    refine eq_of_wp ?_
    have line := line_big
    unfold F_total_by d_total_by
    simp only [wp_fn, dSeq, dRet, dRetN, dSet, dPar, dAsg, dIfS, dIf, dBin, dTest, dChain, dAnd, dOr, dNot, dAndV, dOrV, dNotV, dNext, dStop, dDrop, dNil, dCons, dTup, dLst, dOwn, dCall, dUn, dPart, dNo, dSl, dMeth, dMeth0, dAug, dIce, dYes, wp_star, wp_dFn, w1, w2, wp_bind, wp_pure, wp_no, wp_var, wp_dC]
    rw [wp_lcD, wp_it]
    simp [wp_fn, dSeq, dRet, dRetN, dSet, dPar, dAsg, dIfS, dIf, dBin, dTest, dChain, dAnd, dOr, dNot, dAndV, dOrV, dNotV, dNext, dStop, dDrop, dNil, dCons, dTup, dLst, dOwn, dCall, dUn, dPart, dNo, dSl, dMeth, dMeth0, dAug, dIce, dYes, wp_star, wp_dFn, w1, w2, wp_bind, wp_pure, wp_no, wp_var, wp_dC, wipeG]
    refine wp_lc (fun q : Int × Int => .d (d2 q)) (fun q => some (.int (tb q a b))) js rfl wk_ok (by omega) (fun q hq => ⟨_, by simp; rfl, ?_⟩) ?_
    · simp [wp_fn, dSeq, dRet, dRetN, dSet, dPar, dAsg, dIfS, dIf, dBin, dTest, dChain, dAnd, dOr, dNot, dAndV, dOrV, dNotV, dNext, dStop, dDrop, dNil, dCons, dTup, dLst, dOwn, dCall, dUn, dPart, dNo, dSl, dMeth, dMeth0, dAug, dIce, dYes, wp_star, wp_dFn, w1, w2, wp_bind, wp_pure, wp_no, wp_var, wp_dC]
      have e4 : ∀ Φ, wp (F_times_by A [.d (d2 q), .d (.int a), .d (.int b)]) O Φ = Φ (.d (.int (tb q a b))) O := fun Φ => f_times (h q hq) hab
      rw [e4]
      simp
    · have e1 : List.filterMap (fun q => some (D.int (tb q a b))) js = (js.map fun j => tb j a b).map D.int := by
        show List.filterMap (some ∘ fun q => D.int (tb q a b)) js = _
        rw [List.filterMap_eq_map, List.map_map]; rfl
      rw [e1, wp_sum]
      simp
  rw [wp_eq e]
theorem f_total_in {js : List (Int × Int)} (h : ∀ j ∈ js, Job j) (hl : js.length ≤ 1000) {a b : Int} (hab : a ≤ b) (ha : -Big ≤ a ∧ a ≤ Big) (hb : -Big ≤ b ∧ b ≤ Big) : wp (F_total_in A [.d (Tb A js), .d (.int a), .d (.int b)]) O Φ = Φ (.d (.int (js.map fun j => tb j a b).sum)) O := by
  unfold F_total_in d_total_in
  simp only [wp_fn, dSeq, dRet, dRetN, dSet, dPar, dAsg, dIfS, dIf, dBin, dTest, dChain, dAnd, dOr, dNot, dAndV, dOrV, dNotV, dNext, dStop, dDrop, dNil, dCons, dTup, dLst, dOwn, dCall, dUn, dPart, dNo, dSl, dMeth, dMeth0, dAug, dIce, dYes, wp_star, wp_dFn, w1, w2, wp_bind, wp_pure, wp_no, wp_var, wp_dC]
  simp [wp_fn, dSeq, dRet, dRetN, dSet, dPar, dAsg, dIfS, dIf, dBin, dTest, dChain, dAnd, dOr, dNot, dAndV, dOrV, dNotV, dNext, dStop, dDrop, dNil, dCons, dTup, dLst, dOwn, dCall, dUn, dPart, dNo, dSl, dMeth, dMeth0, dAug, dIce, dYes, wp_star, wp_dFn, w1, w2, wp_bind, wp_pure, wp_no, wp_var, wp_dC, f_need_table, f_need_moment ha, f_need_moment hb, wp_prop, f_total_by h hl hab]
theorem f_before {p : Int × Int × Int} (h : Lng p) (y : Int) : wp (F_moments_before A [.d (d3 p), .d (.int y)]) O Φ = Φ (.d (.int (mb p y))) O := by
  obtain ⟨⟨h1, h2⟩, _, h5, h6⟩ := h
  have hf : p.2.1 < far := lt_far (by have : (10 : Int) ^ 12 ≤ 10 ^ 1000 := by decide +kernel
                                      omega)
  unfold F_moments_before d_moments_before
  simp only [wp_fn, dSeq, dRet, dRetN, dSet, dPar, dAsg, dIfS, dIf, dBin, dTest, dChain, dAnd, dOr, dNot, dAndV, dOrV, dNotV, dNext, dStop, dDrop, dNil, dCons, dTup, dLst, dOwn, dCall, dUn, dPart, dNo, dSl, dMeth, dMeth0, dAug, dIce, dYes, wp_star, wp_dFn, w1, w2, wp_bind, wp_pure, wp_no, wp_var, wp_dC]
  simp [wp_fn, dSeq, dRet, dRetN, dSet, dPar, dAsg, dIfS, dIf, dBin, dTest, dChain, dAnd, dOr, dNot, dAndV, dOrV, dNotV, dNext, dStop, dDrop, dNil, dCons, dTup, dLst, dOwn, dCall, dUn, dPart, dNo, dSl, dMeth, dMeth0, dAug, dIce, dYes, wp_star, wp_dFn, w1, w2, wp_bind, wp_pure, wp_no, wp_var, wp_dC]
  rw [wp_div ⟨by omega, hf⟩]
  rw [wp_mul (.inr (.inl ⟨by omega, by omega⟩))]
  rw [wp_mod (by omega)]
  simp
theorem f_moments_in {p : Int × Int × Int} (h : Lng p) {a b : Int} (hab : a ≤ b) (ha : -Big ≤ a ∧ a ≤ Big) (hb : -Big ≤ b ∧ b ≤ Big) : wp (F_moments_in A [.d (d3 p), .d (.int a), .d (.int b)]) O Φ = Φ (.d (.int (mb p (b + 1 - p.1) - mb p (a - p.1)))) O := by
  unfold F_moments_in d_moments_in
  simp only [wp_fn, dSeq, dRet, dRetN, dSet, dPar, dAsg, dIfS, dIf, dBin, dTest, dChain, dAnd, dOr, dNot, dAndV, dOrV, dNotV, dNext, dStop, dDrop, dNil, dCons, dTup, dLst, dOwn, dCall, dUn, dPart, dNo, dSl, dMeth, dMeth0, dAug, dIce, dYes, wp_star, wp_dFn, w1, w2, wp_bind, wp_pure, wp_no, wp_var, wp_dC]
  simp [wp_fn, dSeq, dRet, dRetN, dSet, dPar, dAsg, dIfS, dIf, dBin, dTest, dChain, dAnd, dOr, dNot, dAndV, dOrV, dNotV, dNext, dStop, dDrop, dNil, dCons, dTup, dLst, dOwn, dCall, dUn, dPart, dNo, dSl, dMeth, dMeth0, dAug, dIce, dYes, wp_star, wp_dFn, w1, w2, wp_bind, wp_pure, wp_no, wp_var, wp_dC, f_need_long h, f_need_moment ha, f_need_moment hb, show ¬ b < a by omega, f_before h]
/-! ### one long job and its single moments -/
theorem count_one (s0 : Nat) : ∀ l : Nat, ((List.range l).filter fun s => decide (s = s0)).length = if s0 < l then 1 else 0
  | 0 => by simp
  | l + 1 => by
    rw [List.range_succ, List.filter_append, List.length_append, count_one s0 l]
    by_cases h : l = s0
    · subst h; simp
    · simp [h]
      split <;> split <;> omega
theorem one_runs {p : Int × Int × Int} (h : Lng p) (m : Int) : ((sgl p).filter fun q => decide (m % q.2 = q.1)).length = if Rn p m = true then 1 else 0 := by
  obtain ⟨⟨h1, h2⟩, ⟨h3, h4⟩, h5, h6⟩ := h
  unfold sgl
  rw [List.filter_map, List.length_map]
  have n0 : 0 ≤ (m - p.1) % p.2.1 := Int.emod_nonneg _ (by omega)
  have e : ((List.range p.2.2.toNat).filter ((fun q : Int × Int => decide (m % q.2 = q.1)) ∘ fun (s : Nat) => ((p.1 + ((s : Nat) : Int)) % p.2.1, p.2.1))) = (List.range p.2.2.toNat).filter fun s => decide (s = ((m - p.1) % p.2.1).toNat) := by
    refine List.filter_congr fun s hs => ?_
    have hs : s < p.2.2.toNat := by simpa using hs
    show decide (m % p.2.1 = (p.1 + ((s : Nat) : Int)) % p.2.1) = _
    refine decide_eq_decide.mpr ⟨fun z => ?_, fun z => ?_⟩
    · have hd : p.2.1 ∣ m - (p.1 + ((s : Nat) : Int)) := Int.dvd_of_emod_eq_zero (by rw [Int.sub_emod, z]; simp)
      obtain ⟨k, hk⟩ := hd
      have : (m - p.1) % p.2.1 = ((s : Nat) : Int) := by
        rw [show m - p.1 = ((s : Nat) : Int) + p.2.1 * k by omega, Int.add_mul_emod_self_left]
        exact Int.emod_eq_of_lt (by omega) (by omega)
      omega
    · have e1 := Int.emod_add_mul_ediv (m - p.1) p.2.1
      have : m = p.1 + ((s : Nat) : Int) + p.2.1 * ((m - p.1) / p.2.1) := by omega
      rw [this, Int.add_mul_emod_self_left]
  rw [e, count_one]
  by_cases hx : (m - p.1) % p.2.1 < p.2.2
  · rw [if_pos (by omega), if_pos (by simpa using hx)]
  · rw [if_neg (by omega), if_neg (by simpa using hx)]
theorem zip_filter {B : Type} (f : B → Bool) : ∀ (xs : List B) (k : Nat), ((xs.zipIdx k).filter fun q => f q.1).length = (xs.filter f).length
  | [], _ => rfl
  | x :: xs, k => by
    rw [List.zipIdx_cons, List.filter_cons, List.filter_cons]
    have := zip_filter f xs (k + 1)
    by_cases h : f x = true
    · rw [if_pos h, if_pos h, List.length_cons, List.length_cons, this]
    · rw [if_neg h, if_neg h, this]
theorem runs_len {ls : List (Int × Int × Int)} (h : ∀ q ∈ ls, Lng q) (m : Int) : (runs (ls.flatMap sgl) m).length = (ls.filter fun p => Rn p m).length := by
  unfold runs
  rw [List.length_map, zip_filter (fun q : Int × Int => decide (m % q.2 = q.1))]
  induction ls with
  | nil => rfl
  | cons p ls ih =>
    rw [List.flatMap_cons, List.filter_append, List.length_append, ih fun q hq => h q (List.mem_cons_of_mem _ hq), one_runs (h p List.mem_cons_self), List.filter_cons]
    by_cases hx : Rn p m = true
    · rw [if_pos hx, if_pos hx, List.length_cons]; omega
    · rw [if_neg hx, if_neg hx]; omega
theorem div_step {P y : Int} (l : Nat) (hP : 0 < P) (hl : (l : Int) < P) : (y - 1 - l) / P + 1 = y / P + (min (y % P) ((l : Int) + 1) - min (y % P) l) := by
  have e1 := Int.emod_add_mul_ediv y P
  have n0 := Int.emod_nonneg y (show P ≠ 0 by omega)
  have n1 := Int.emod_lt_of_pos y hP
  have e2 : y - 1 - (l : Int) = (y % P - 1 - l) + P * (y / P) := by omega
  rw [e2, Int.add_mul_ediv_left _ _ (by omega)]
  by_cases hx : (l : Int) + 1 ≤ y % P
  · rw [Int.ediv_eq_zero_of_lt (by omega) (by omega)]; omega
  · have : (y % P - 1 - l) / P = -1 := by
      rw [show y % P - 1 - (l : Int) = (y % P - 1 - l + P) + P * (-1) by omega, Int.add_mul_ediv_left _ _ (by omega), Int.ediv_eq_zero_of_lt (by omega) (by omega)]; omega
    omega
theorem mb_sum {P : Int} (hP : 0 < P) (y z : Int) : ∀ l : Nat, (l : Int) ≤ P → ((List.range l).map fun (s : Nat) => (y - 1 - ((s : Nat) : Int)) / P - (z - 1 - ((s : Nat) : Int)) / P).sum = (y / P * (l : Int) + min (y % P) l) - (z / P * (l : Int) + min (z % P) l)
  | 0, _ => by
    have n0 := Int.emod_nonneg y (show P ≠ 0 by omega)
    have n1 := Int.emod_nonneg z (show P ≠ 0 by omega)
    simp
    omega
  | l + 1, h => by
    have ih := mb_sum hP y z l (by omega)
    have s1 := div_step (y := y) l hP (by omega)
    have s2 := div_step (y := z) l hP (by omega)
    rw [List.range_succ, List.map_append, List.sum_append, ih, List.map_singleton, List.sum_singleton]
    have e1 : ((l + 1 : Nat) : Int) = (l : Int) + 1 := by omega
    rw [e1, Int.mul_add, Int.mul_add]
    generalize y / P * (l : Int) = A1
    generalize z / P * (l : Int) = A2
    omega
theorem one_total {p : Int × Int × Int} (h : Lng p) (a b : Int) : ((sgl p).map fun j => tb j a b).sum = mb p (b + 1 - p.1) - mb p (a - p.1) := by
  obtain ⟨⟨h1, h2⟩, ⟨h3, h4⟩, h5, h6⟩ := h
  have e0 : ((p.2.2.toNat : Nat) : Int) = p.2.2 := by omega
  have := mb_sum (P := p.2.1) (by omega) (b + 1 - p.1) (a - p.1) p.2.2.toNat (by omega)
  rw [e0] at this
  unfold mb
  rw [← this]
  unfold sgl
  rw [List.map_map]
  congr 1
  refine List.map_congr_left fun s _ => ?_
  show (b - (p.1 + ((s : Nat) : Int)) % p.2.1) / p.2.1 - (a - 1 - (p.1 + ((s : Nat) : Int)) % p.2.1) / p.2.1 = _
  have e1 := Int.emod_add_mul_ediv (p.1 + ((s : Nat) : Int)) p.2.1
  have f1 : b - (p.1 + ((s : Nat) : Int)) % p.2.1 = (b + 1 - p.1 - 1 - ((s : Nat) : Int)) + p.2.1 * ((p.1 + ((s : Nat) : Int)) / p.2.1) := by omega
  have f2 : a - 1 - (p.1 + ((s : Nat) : Int)) % p.2.1 = (a - p.1 - 1 - ((s : Nat) : Int)) + p.2.1 * ((p.1 + ((s : Nat) : Int)) / p.2.1) := by omega
  rw [f1, f2, Int.add_mul_ediv_left _ _ (by omega), Int.add_mul_ediv_left _ _ (by omega)]
  omega
theorem all_total {ls : List (Int × Int × Int)} (h : ∀ q ∈ ls, Lng q) (a b : Int) : ((ls.flatMap sgl).map fun j => tb j a b).sum = (ls.map fun p => mb p (b + 1 - p.1) - mb p (a - p.1)).sum := by
  induction ls with
  | nil => rfl
  | cons p ls ih =>
    rw [List.flatMap_cons, List.map_append, List.sum_append, ih fun q hq => h q (List.mem_cons_of_mem _ hq), one_total (h p List.mem_cons_self), List.map_cons, List.sum_cons]
end L74


set_option maxRecDepth 100000
set_option maxHeartbeats 2000000
/-! k74: the tape, what is drawn. -/
namespace L74
open PySem L2 VL
variable {A : Str → Addr} {O : Sto} {Φ : W → Sto → Prop}
def tapeD (j : Nat) (r : Int) (cs : List Int) (t : Int) : MO := .dict [(.inr "large", .own j), (.inr "rest", .d (.int r)), (.inr "cells", .d (.lst (cs.map D.int))), (.inr "turn", .d (.int t))]
structure Tp (P : Sto) (j k : Nat) : Prop where
  ex : ∃ (L : List Int) (r : Int) (cs : List Int) (t : Int), P[j]? = some (.lst (L.map D.int)) ∧ P[k]? = some (tapeD j r cs t)
  lt : j < k
structure Fr (P P' : Sto) (j k : Nat) : Prop where
  len : P'.length = P.length
  at_ : ∀ i, i ≠ j → i ≠ k → P'[i]? = P[i]?
theorem Fr.rfl {P : Sto} {j k : Nat} : Fr P P j k := ⟨Eq.refl _, fun _ _ _ => Eq.refl _⟩
theorem Fr.tr {P P' P'' : Sto} {j k : Nat} (a : Fr P P' j k) (b : Fr P' P'' j k) : Fr P P'' j k := ⟨b.len.trans a.len, fun i h1 h2 => (b.at_ i h1 h2).trans (a.at_ i h1 h2)⟩
theorem Fr.setk {P : Sto} {j k : Nat} (m : MO) : Fr P (P.set k m) j k := ⟨by simp, fun i _ h => by rw [List.getElem?_set_ne (Ne.symm h)]⟩
theorem Fr.setj {P : Sto} {j k : Nat} (m : MO) : Fr P (P.set j m) j k := ⟨by simp, fun i h _ => by rw [List.getElem?_set_ne (Ne.symm h)]⟩
theorem wp_get {P : Sto} {k : Nat} {kvs : List (Key × W)} {x : Str} {w : W} (h1 : P[k]? = some (.dict kvs)) (h2 : lookW (.inr x) kvs = some w) (Φ : W → Sto → Prop) : wp (wGet (.own k) (.d (.str x))) P Φ = Φ w P := wp_eq (wGet_at h1 rfl h2)
theorem wp_put {P : Sto} {k : Nat} {kvs : List (Key × W)} {x : Str} {z : W} (h1 : P[k]? = some (.dict kvs)) (h2 : (kvs.map (·.1)).Nodup ∧ kvs.length < sizeLine ∧ z.lt k = true) (Φ : Unit → Sto → Prop) : wp (wPut (.own k) (.d (.str x)) z) P Φ = Φ () (P.set k (.dict (putW (.inr x) z kvs))) := by
  have e : wPut (.own k) (.d (.str x)) z P = .ok () (P.set k (.dict (putW (.inr x) z kvs))) := by
    unfold wPut
    simp only [h1, keyD, if_pos h2]
  exact wp_eq e
theorem key_ne {x y : Str} (h : (x == y) = false) : (Sum.inr x : Key) ≠ Sum.inr y := fun z => by
  cases z
  simp at h
section
variable {P : Sto} {j k : Nat} {r t : Int} {cs : List Int}
theorem tp_nd : (([(.inr "large", .own j), (.inr "rest", .d (.int r)), (.inr "cells", .d (.lst (cs.map D.int))), (.inr "turn", .d (.int t))] : List (Key × W)).map (·.1)).Nodup := by
  show ([Sum.inr "large", Sum.inr "rest", Sum.inr "cells", Sum.inr "turn"] : List Key).Nodup
  decide +kernel
theorem g_large (h : P[k]? = some (tapeD j r cs t)) (Φ : W → Sto → Prop) : wp (wGet (.own k) (.d (.str "large"))) P Φ = Φ (.own j) P := wp_get h (by unfold lookW; rw [if_pos rfl]) Φ
theorem g_rest (h : P[k]? = some (tapeD j r cs t)) (Φ : W → Sto → Prop) : wp (wGet (.own k) (.d (.str "rest"))) P Φ = Φ (.d (.int r)) P := wp_get h (by
  unfold lookW; rw [if_neg (by decide +kernel)]; unfold lookW; rw [if_pos rfl]) Φ
theorem g_cells (h : P[k]? = some (tapeD j r cs t)) (Φ : W → Sto → Prop) : wp (wGet (.own k) (.d (.str "cells"))) P Φ = Φ (.d (.lst (cs.map D.int))) P := wp_get h (by
  unfold lookW; rw [if_neg (by decide +kernel)]; unfold lookW; rw [if_neg (by decide +kernel)]; unfold lookW; rw [if_pos rfl]) Φ
theorem g_turn (h : P[k]? = some (tapeD j r cs t)) (Φ : W → Sto → Prop) : wp (wGet (.own k) (.d (.str "turn"))) P Φ = Φ (.d (.int t)) P := wp_get h (by
  unfold lookW; rw [if_neg (by decide +kernel)]; unfold lookW; rw [if_neg (by decide +kernel)]; unfold lookW; rw [if_neg (by decide +kernel)]; unfold lookW; rw [if_pos rfl]) Φ
theorem p_rest (h : P[k]? = some (tapeD j r cs t)) (n : Int) (Φ : Unit → Sto → Prop) : wp (wPut (.own k) (.d (.str "rest")) (.d (.int n))) P Φ = Φ () (P.set k (tapeD j n cs t)) := by
  rw [wp_put h ⟨tp_nd, by have := line_big; show 4 < sizeLine; omega, rfl⟩]
  congr 3
theorem p_turn (h : P[k]? = some (tapeD j r cs t)) (n : Int) (Φ : Unit → Sto → Prop) : wp (wPut (.own k) (.d (.str "turn")) (.d (.int n))) P Φ = Φ () (P.set k (tapeD j r cs n)) := by
  rw [wp_put h ⟨tp_nd, by have := line_big; show 4 < sizeLine; omega, rfl⟩]
  congr 3
end
/-! ### blending -/
theorem blend_cells {P : Sto} {k j : Nat} {r t : Int} {cs : List Int} {s1 s2 s5 : Option W} {g b : Int} {Ψ : Fl × Gam → Sto → Prop} (h : P[k]? = some (tapeD j r cs t)) (hg : 0 < g) (hb : 0 ≤ b ∧ b < g)
    (q : ∀ b' s5, 0 ≤ b' ∧ b' < g → Ψ (.nx, [some (.own k), s1, s2, some (.d (.int g)), some (.d (.int b')), s5]) P) :
    wp (dFor (dIt (dBin wGet (dVar 0) (dC (.str "cells")))) (.nm 5) (B0_z_blend A) [some (.own k), s1, s2, some (.d (.int g)), some (.d (.int b)), s5]) P Ψ := by
  rw [wp_for, wp_it]
  simp only [wp_fn, dSeq, dRet, dRetN, dSet, dPar, dAsg, dIfS, dIf, dBin, dTest, dChain, dAnd, dOr, dNot, dAndV, dOrV, dNotV, dNext, dStop, dDrop, dNil, dCons, dTup, dLst, dOwn, dCall, dUn, dPart, dNo, dSl, dMeth, dMeth0, dAug, dIce, dYes, wp_star, wp_dFn, w1, w2, wp_bind, wp_pure, wp_no, wp_var, wp_dC]
  simp only [List.getElem?_cons_succ, List.getElem?_cons_zero]
  rw [g_cells h]
  simp only [wp_wkL]
  refine wp_loopX cs (fun c => .d (.int c)) (fun zs Γ P' => P' = P ∧ ∃ b' s5, (0 ≤ b' ∧ b' < g) ∧ Γ = [some (.own k), s1, s2, some (.d (.int g)), some (.d (.int b')), s5]) (by simp) (fun _ _ _ _ => wk_ok) ⟨rfl, b, s5, hb, rfl⟩ ?_ ?_
  · rintro zs c ys Γ P' e ⟨rfl, b', s5, hb', rfl⟩
    refine ⟨_, by simp; rfl, ?_⟩
    unfold B0_z_blend
    simp only [wp_fn, dSeq, dRet, dRetN, dSet, dPar, dAsg, dIfS, dIf, dBin, dTest, dChain, dAnd, dOr, dNot, dAndV, dOrV, dNotV, dNext, dStop, dDrop, dNil, dCons, dTup, dLst, dOwn, dCall, dUn, dPart, dNo, dSl, dMeth, dMeth0, dAug, dIce, dYes, wp_star, wp_dFn, w1, w2, wp_bind, wp_pure, wp_no, wp_var, wp_dC]
    simp only [List.getElem?_cons_succ, List.getElem?_cons_zero]
    rw [wp_mul (.inr (.inl ⟨by decide, by decide⟩))]
    simp only [wp_int, wp_add]
    rw [wp_mod hg]
    exact ⟨rfl, _, _, ⟨Int.emod_nonneg _ (by omega), Int.emod_lt_of_pos _ hg⟩, rfl⟩
  · rintro Γ P' ⟨rfl, b', s5, hb', rfl⟩
    exact q b' s5 hb'
theorem f_blend {P : Sto} {j k : Nat} (T : Tp P j k) : wp (F_z_blend A [.own k]) P fun w P' => ∃ n : Int, w = .d (.int n) ∧ Tp P' j k ∧ Fr P P' j k := by
  obtain ⟨L, r, cs, t, hj, hk⟩ := T.ex
  have hlt := T.lt
  have hkl : k < P.length := (List.getElem?_eq_some_iff.mp hk).1
  have hk2 : (P.set k (tapeD j r cs (t + 1)))[k]? = some (tapeD j r cs (t + 1)) := by rw [List.getElem?_set_self hkl]
  have hT : Tp (P.set k (tapeD j r cs (t + 1))) j k := ⟨⟨L, r, cs, t + 1, by rw [List.getElem?_set_ne (by omega)]; exact hj, hk2⟩, hlt⟩
  unfold F_z_blend d_z_blend
  unfold dPut
  simp only [wp_fn, dSeq, dRet, dRetN, dSet, dPar, dAsg, dIfS, dIf, dBin, dTest, dChain, dAnd, dOr, dNot, dAndV, dOrV, dNotV, dNext, dStop, dDrop, dNil, dCons, dTup, dLst, dOwn, dCall, dUn, dPart, dNo, dSl, dMeth, dMeth0, dAug, dIce, dYes, wp_star, wp_dFn, w1, w2, wp_bind, wp_pure, wp_no, wp_var, wp_dC]
  simp only [List.map_cons, List.map_nil, List.replicate, List.cons_append, List.nil_append, List.append_nil, List.getElem?_cons_succ, List.getElem?_cons_zero]
  rw [g_turn hk]
  simp only [wp_add]
  rw [p_turn hk, g_turn hk2]
  simp only [wp_int, List.set_cons_succ, List.set_cons_zero]
  rw [wp_for, wp_it]
  simp only [wp_fn, dSeq, dRet, dRetN, dSet, dPar, dAsg, dIfS, dIf, dBin, dTest, dChain, dAnd, dOr, dNot, dAndV, dOrV, dNotV, dNext, dStop, dDrop, dNil, dCons, dTup, dLst, dOwn, dCall, dUn, dPart, dNo, dSl, dMeth, dMeth0, dAug, dIce, dYes, wp_star, wp_dFn, w1, w2, wp_bind, wp_pure, wp_no, wp_var, wp_dC, wp_lst3, wp_wkL]
  refine wp_loopX [2147483629, 2147483587, 2147483579] (fun c => .d (.int c)) (fun zs Γ P' => P' = P.set k (tapeD j r cs (t + 1)) ∧ ∃ f s3 s4 s5, Γ = [some (.own k), some (.d (.int (t + 1))), some (.d (.int f)), s3, s4, s5]) rfl (fun _ _ _ _ => wk_ok) ⟨rfl, _, _, _, _, rfl⟩ ?_ ?_
  · rintro zs g ys Γ P' e ⟨rfl, f, s3, s4, s5, rfl⟩
    have hg : g = 2147483629 ∨ g = 2147483587 ∨ g = 2147483579 := by
      have := mem_of_split e; simpa using this
    have hg0 : 0 < g := by omega
    have hg1 : g < 2 ^ 64 := by omega
    refine ⟨_, by simp; rfl, ?_⟩
    unfold B1_z_blend
    simp only [wp_fn, dSeq, dRet, dRetN, dSet, dPar, dAsg, dIfS, dIf, dBin, dTest, dChain, dAnd, dOr, dNot, dAndV, dOrV, dNotV, dNext, dStop, dDrop, dNil, dCons, dTup, dLst, dOwn, dCall, dUn, dPart, dNo, dSl, dMeth, dMeth0, dAug, dIce, dYes, wp_star, wp_dFn, w1, w2, wp_bind, wp_pure, wp_no, wp_var, wp_dC]
    simp only [List.getElem?_cons_succ, List.getElem?_cons_zero]
    rw [wp_mul (.inr (.inl ⟨by decide, by decide⟩))]
    rw [wp_div ⟨by decide, lt_far (by have : (7 : Int) ≤ 10 ^ 1000 := by decide +kernel
                                      exact this)⟩]
    simp only [wp_add]
    rw [wp_mod hg0]
    simp only [List.set_cons_succ, List.set_cons_zero]
    refine blend_cells hk2 hg0 ⟨Int.emod_nonneg _ (by omega), Int.emod_lt_of_pos _ hg0⟩ fun b' s5 hb' => ?_
    simp only [wp_fn, dSeq, dRet, dRetN, dSet, dPar, dAsg, dIfS, dIf, dBin, dTest, dChain, dAnd, dOr, dNot, dAndV, dOrV, dNotV, dNext, dStop, dDrop, dNil, dCons, dTup, dLst, dOwn, dCall, dUn, dPart, dNo, dSl, dMeth, dMeth0, dAug, dIce, dYes, wp_star, wp_dFn, w1, w2, wp_bind, wp_pure, wp_no, wp_var, wp_dC]
    simp only [List.getElem?_cons_succ, List.getElem?_cons_zero]
    rw [wp_mul (.inr (.inl ⟨by decide, by decide⟩))]
    rw [wp_pow ⟨⟨by decide, by decide⟩, by omega, by omega⟩]
    rw [wp_mod hg0]
    simp only [wp_add]
    exact ⟨trivial, _, _, _, _, rfl⟩
  · rintro Γ P' ⟨rfl, f, s3, s4, s5, rfl⟩
    simp only [wp_fn, dSeq, dRet, dRetN, dSet, dPar, dAsg, dIfS, dIf, dBin, dTest, dChain, dAnd, dOr, dNot, dAndV, dOrV, dNotV, dNext, dStop, dDrop, dNil, dCons, dTup, dLst, dOwn, dCall, dUn, dPart, dNo, dSl, dMeth, dMeth0, dAug, dIce, dYes, wp_star, wp_dFn, w1, w2, wp_bind, wp_pure, wp_no, wp_var, wp_dC]
    simp only [List.getElem?_cons_succ, List.getElem?_cons_zero]
    rw [List.take_of_length_le (by simp)]
    exact ⟨_, rfl, hT, Fr.setk _⟩
/-! ### drawing -/
theorem draw_fin {P : Sto} {j k : Nat} (T : Tp P j k) {size : Int} {s2 : Option W} (h : 0 < size ∧ size < far) {R : Sto} (hR : P.length = R.length) (hF : Fr R P j k) :
    wp (dSeq (dSet 2 (dBin wMod (dCall (w1 wInt) (dCons (dBin wGet (dVar 0) (dC (.str "rest"))) dNil)) (dVar 1)))
      (dSeq (dPut (dVar 0) (dC (.str "rest")) (dBin wDiv (dCall (w1 wInt) (dCons (dBin wGet (dVar 0) (dC (.str "rest"))) dNil)) (dVar 1))) (dRet (dVar 2))) [some (.own k), some (.d (.int size)), s2]) P fun r O' => match r.1 with
        | .rt (.d d) => ∃ n : Int, d = .int n ∧ 0 ≤ n ∧ n < size ∧ Tp (O'.take R.length) j k ∧ Fr R (O'.take R.length) j k
        | _ => False := by
  obtain ⟨L, r, cs, t, hj, hk⟩ := T.ex
  have hkl : k < P.length := (List.getElem?_eq_some_iff.mp hk).1
  unfold dPut
  simp only [wp_fn, dSeq, dRet, dRetN, dSet, dPar, dAsg, dIfS, dIf, dBin, dTest, dChain, dAnd, dOr, dNot, dAndV, dOrV, dNotV, dNext, dStop, dDrop, dNil, dCons, dTup, dLst, dOwn, dCall, dUn, dPart, dNo, dSl, dMeth, dMeth0, dAug, dIce, dYes, wp_star, wp_dFn, w1, w2, wp_bind, wp_pure, wp_no, wp_var, wp_dC]
  simp only [List.getElem?_cons_succ, List.getElem?_cons_zero]
  rw [g_rest hk]
  simp only [wp_int]
  rw [wp_mod h.1]
  simp only [List.set_cons_succ, List.set_cons_zero, List.getElem?_cons_succ, List.getElem?_cons_zero]
  rw [g_rest hk]
  simp only [wp_int]
  rw [wp_div h, p_rest hk]
  rw [List.take_of_length_le (by simp; omega)]
  have hne : k ≠ j := by have := T.lt; omega
  refine ⟨_, rfl, Int.emod_nonneg _ (by omega), Int.emod_lt_of_pos _ h.1, ⟨⟨L, _, cs, t, by rw [List.getElem?_set_ne hne]; exact hj, by rw [List.getElem?_set_self hkl]⟩, T.lt⟩, hF.tr (Fr.setk _)⟩
theorem good_ints (L : List Int) : (L.map D.int).all (D.good 59) = true := by
  rw [List.all_map, List.all_eq_true]
  exact fun x _ => good_int _ _
theorem f_draw {P : Sto} {j k : Nat} (T : Tp P j k) {size : Int} (h : 0 < size ∧ size < far) : wp (F_z_draw A [.own k, .d (.int size)]) P fun w P' => ∃ n : Int, w = .d (.int n) ∧ 0 ≤ n ∧ n < size ∧ Tp P' j k ∧ Fr P P' j k := by
  obtain ⟨L, r, cs, t, hj, hk⟩ := T.ex
  have hkl : k < P.length := (List.getElem?_eq_some_iff.mp hk).1
  have hjl : j < P.length := (List.getElem?_eq_some_iff.mp hj).1
  have hlt := T.lt
  unfold F_z_draw d_z_draw
  have post : ∀ (r : Fl × Gam) (O' : Sto), (match r.1 with
        | .rt (.d d) => ∃ n : Int, d = .int n ∧ 0 ≤ n ∧ n < size ∧ Tp (O'.take P.length) j k ∧ Fr P (O'.take P.length) j k
        | _ => False) → (match r.1 with
        | .nx => ∃ n : Int, W.d D.non = .d (.int n) ∧ 0 ≤ n ∧ n < size ∧ Tp (O'.take P.length) j k ∧ Fr P (O'.take P.length) j k
        | .rt (.d d) => ∃ n : Int, W.d d = .d (.int n) ∧ 0 ≤ n ∧ n < size ∧ Tp (O'.take P.length) j k ∧ Fr P (O'.take P.length) j k
        | .rt (.own i) => i < P.length ∧ ∃ n : Int, W.own i = .d (.int n) ∧ 0 ≤ n ∧ n < size ∧ Tp (O'.take P.length) j k ∧ Fr P (O'.take P.length) j k
        | _ => False) := fun r O' hr => by
    obtain ⟨fl, Γ⟩ := r
    cases fl with
    | rt w =>
      cases w with
      | d d =>
        obtain ⟨n, rfl, h2⟩ := hr
        exact ⟨n, rfl, h2⟩
      | own i => exact hr.elim
    | nx => exact hr.elim
    | bk => exact hr.elim
    | ct => exact hr.elim
  rw [wp_fn]
  refine wp_mono ?_ post
  have ed : ∀ (a b : DS) (Γ : Gam), dSeq a b Γ = (a Γ >>= fun r => match r.1 with
    | .nx => b r.2
    | _ => pure r) := fun a b Γ => rfl
  rw [ed, wp_bind]
  simp only [List.map_cons, List.map_nil, List.replicate, List.cons_append, List.nil_append]
  unfold dPut
  simp only [dIfS, dTest, dBin, dIf, dMeth, dCall, dCons, dNil, dLst, wp_bind, wp_pure, wp_var, wp_dC, dNext]
  simp only [List.getElem?_cons_succ, List.getElem?_cons_zero]
  rw [g_rest hk]
  simp only [wp_eqI, wp_wB]
  by_cases hr : r = 0
  · rw [decide_eq_true hr]
    simp only [if_true, wp_bind, wp_var, wp_dC, List.getElem?_cons_succ, List.getElem?_cons_zero]
    rw [g_large hk, wp_pure, wp_lst0]
    rw [wp_ne_nil (wQ_own hj) (good_ints L)]
    simp only [wp_wB]
    cases L with
    | nil =>
      simp only [List.map_nil, List.isEmpty_nil, Bool.not_true, Bool.false_eq_true, if_false, wp_bind, wp_pure, wp_var, List.getElem?_cons_zero]
      rw [wp_dFn (by rfl)]
      simp only [List.map_nil, List.append_nil]
      refine wp_mono (f_blend T) ?_
      rintro w P' ⟨n, rfl, T', F'⟩
      obtain ⟨L', r', cs', t', hj', hk'⟩ := T'.ex
      have hkl' : k < P'.length := (List.getElem?_eq_some_iff.mp hk').1
      rw [p_rest hk']
      have hne : k ≠ j := by omega
      have T2 : Tp (P'.set k (tapeD j n cs' t')) j k := ⟨⟨L', n, cs', t', by rw [List.getElem?_set_ne hne]; exact hj', by rw [List.getElem?_set_self hkl']⟩, hlt⟩
      exact draw_fin T2 h (by simp [F'.len]) (F'.tr (Fr.setk _))
    | cons a L =>
      simp only [List.map_cons, List.isEmpty_cons, Bool.not_false, if_true, wp_bind, wp_pure, wp_var, wp_dC, List.getElem?_cons_zero]
      rw [g_large hk]
      rw [wp_isL (wL_own hj)]
      have e1 : wPopAt (.own j) [.d (.int 0)] P = .ok (.d (.int a)) (P.set j (.lst (L.map D.int))) := by
        have e0 : wPopAt (.own j) [.d (.int 0)] = wMut (fun ds => (ds[0]?).map fun d => (d, ds.eraseIdx 0)) (.own j) := by
          unfold wPopAt
          exact if_pos rfl
        rw [e0]
        unfold wMut
        simp only [hj]
        rfl
      rw [wp_eq e1]
      have hne : j ≠ k := by omega
      have hk' : (P.set j (.lst (L.map D.int)))[k]? = some (tapeD j r cs t) := by rw [List.getElem?_set_ne hne]; exact hk
      rw [p_rest hk']
      have T2 : Tp ((P.set j (.lst (L.map D.int))).set k (tapeD j a cs t)) j k := ⟨⟨L, a, cs, t, by rw [List.getElem?_set_ne (Ne.symm hne), List.getElem?_set_self hjl], by rw [List.getElem?_set_self (by simp; exact hkl)]⟩, hlt⟩
      exact draw_fin T2 h (by simp) ((Fr.setj _).tr (Fr.setk _))
  · rw [decide_eq_false hr]
    simp only [Bool.false_eq_true, if_false, wp_pure]
    exact draw_fin T h rfl .rfl
theorem f_pick {P : Sto} {j k : Nat} (T : Tp P j k) {ds : List D} (h : ds ≠ []) (hl : ds.length ≤ 1000) : wp (F_z_pick A [.own k, .d (.lst ds)]) P fun w P' => ∃ d ∈ ds, w = .d d ∧ Tp P' j k ∧ Fr P P' j k := by
  have hlen : 0 < ds.length := List.length_pos_iff.mpr h
  unfold F_z_pick d_z_pick
  simp only [wp_fn, dSeq, dRet, dRetN, dSet, dPar, dAsg, dIfS, dIf, dBin, dTest, dChain, dAnd, dOr, dNot, dAndV, dOrV, dNotV, dNext, dStop, dDrop, dNil, dCons, dTup, dLst, dOwn, dCall, dUn, dPart, dNo, dSl, dMeth, dMeth0, dAug, dIce, dYes, wp_star, wp_dFn, w1, w2, wp_bind, wp_pure, wp_no, wp_var, wp_dC]
  simp only [List.map_cons, List.map_nil, List.replicate, List.cons_append, List.nil_append, List.append_nil, List.getElem?_cons_succ, List.getElem?_cons_zero, wp_lenL]
  rw [wp_dFn (by rfl)]
  simp only [List.map_nil, List.append_nil]
  refine wp_mono (f_draw T (size := (ds.length : Nat)) ⟨by omega, lt_far (by have : (1000 : Int) ≤ 10 ^ 1000 := by decide +kernel
                                                                             omega)⟩) ?_
  rintro w P' ⟨n, rfl, h1, h2, T', F'⟩
  obtain ⟨m, rfl⟩ := Int.eq_ofNat_of_zero_le h1
  have hm : m < ds.length := by omega
  rw [wp_ixL (List.getElem?_eq_getElem hm)]
  have e : P'.take P.length = P' := List.take_of_length_le (by rw [F'.len]; exact Nat.le_refl _)
  rw [e]
  exact ⟨_, List.getElem_mem hm, rfl, T', F'⟩
end L74


set_option maxRecDepth 100000
set_option maxHeartbeats 2000000
/-! k74: drawn long jobs, drawn sizes. -/
namespace L74
open PySem L2 VL
variable {A : Str → Addr} {O : Sto} {Φ : W → Sto → Prop}
theorem draw_wp {P : Sto} {j k : Nat} (T : Tp P j k) {s : Int} (h : 0 < s ∧ s < far) {Φ : W → Sto → Prop} (q : ∀ n P', 0 ≤ n → n < s → Tp P' j k → Fr P P' j k → Φ (.d (.int n)) P') : wp (dFn 2 [] (F_z_draw A) [.own k, .d (.int s)]) P Φ := by
  rw [wp_dFn (by rfl)]
  simp only [List.map_nil, List.append_nil]
  refine wp_mono (f_draw T h) ?_
  rintro w P' ⟨n, rfl, h1, h2, T', F'⟩
  exact q n P' h1 h2 T' F'
theorem pick_wp {P : Sto} {j k : Nat} (T : Tp P j k) {ds : List D} (h : ds ≠ []) (hl : ds.length ≤ 1000) {Φ : W → Sto → Prop} (q : ∀ d P', d ∈ ds → Tp P' j k → Fr P P' j k → Φ (.d d) P') : wp (dFn 2 [] (F_z_pick A) [.own k, .d (.lst ds)]) P Φ := by
  rw [wp_dFn (by rfl)]
  simp only [List.map_nil, List.append_nil]
  refine wp_mono (f_pick T h hl) ?_
  rintro w P' ⟨d, hd, rfl, T', F'⟩
  exact q d P' hd T' F'
theorem far_of {i : Int} (h : i ≤ 1000000000000) : i < far := by
  have e : (1000000000000 : Int) ≤ 10 ^ 1000 := by decide +kernel
  exact lt_far (Int.le_trans h e)
theorem Fr.take {P P' : Sto} {j k : Nat} (F : Fr P P' j k) : P'.take P.length = P' := List.take_of_length_le (by rw [F.len]; exact Nat.le_refl _)
theorem f_some_long {P : Sto} {j k : Nat} (T : Tp P j k) : wp (F_z_some_long A [.own k]) P fun w P' => ∃ p, Lng p ∧ w = .d (d3 p) ∧ Tp P' j k ∧ Fr P P' j k := by
  unfold F_z_some_long d_z_some_long
  repeat (first | (with_reducible apply h_seq) | (with_reducible apply h_set) | (with_reducible apply h_drop) | (with_reducible apply h_ret) | (with_reducible apply h_next) | (with_reducible apply h_ifS) | (with_reducible apply h_if) | (with_reducible apply h_bin) | (with_reducible apply h_test) | (with_reducible apply h_and) | (with_reducible apply h_or) | (with_reducible apply h_not) | (with_reducible apply h_call) | (with_reducible apply h_nil) | (with_reducible apply h_cons) | (with_reducible apply h_tup) | (with_reducible apply h_lst) | (with_reducible apply h_own) | (with_reducible apply h_un) | (with_reducible apply h_meth) | (with_reducible apply h_meth0) | (with_reducible apply h_ice) | (with_reducible apply h_sl) | (with_reducible apply h_no) | (with_reducible apply h_for) | (with_reducible apply h_it) | (with_reducible apply h_c) | (with_reducible apply h_add) | (with_reducible apply h_sub) | (with_reducible apply h_negI) | (with_reducible apply h_wB) | (with_reducible apply h_w1) | (with_reducible apply h_w2) | (with_reducible apply h_run) | ((with_reducible apply h_var); (exact rfl)))
  refine h_pow (i := 10) ⟨⟨by decide, by decide⟩, by decide, by decide⟩ ?_
  repeat (first | (with_reducible apply h_seq) | (with_reducible apply h_set) | (with_reducible apply h_drop) | (with_reducible apply h_ret) | (with_reducible apply h_next) | (with_reducible apply h_ifS) | (with_reducible apply h_if) | (with_reducible apply h_bin) | (with_reducible apply h_test) | (with_reducible apply h_and) | (with_reducible apply h_or) | (with_reducible apply h_not) | (with_reducible apply h_call) | (with_reducible apply h_nil) | (with_reducible apply h_cons) | (with_reducible apply h_tup) | (with_reducible apply h_lst) | (with_reducible apply h_own) | (with_reducible apply h_un) | (with_reducible apply h_meth) | (with_reducible apply h_meth0) | (with_reducible apply h_ice) | (with_reducible apply h_sl) | (with_reducible apply h_no) | (with_reducible apply h_for) | (with_reducible apply h_it) | (with_reducible apply h_c) | (with_reducible apply h_add) | (with_reducible apply h_sub) | (with_reducible apply h_negI) | (with_reducible apply h_wB) | (with_reducible apply h_w1) | (with_reducible apply h_w2) | (with_reducible apply h_run) | ((with_reducible apply h_var); (exact rfl)))
  refine h_pow (i := 10) ⟨⟨by decide, by decide⟩, by decide, by decide⟩ ?_
  repeat (first | (with_reducible apply h_seq) | (with_reducible apply h_set) | (with_reducible apply h_drop) | (with_reducible apply h_ret) | (with_reducible apply h_next) | (with_reducible apply h_ifS) | (with_reducible apply h_if) | (with_reducible apply h_bin) | (with_reducible apply h_test) | (with_reducible apply h_and) | (with_reducible apply h_or) | (with_reducible apply h_not) | (with_reducible apply h_call) | (with_reducible apply h_nil) | (with_reducible apply h_cons) | (with_reducible apply h_tup) | (with_reducible apply h_lst) | (with_reducible apply h_own) | (with_reducible apply h_un) | (with_reducible apply h_meth) | (with_reducible apply h_meth0) | (with_reducible apply h_ice) | (with_reducible apply h_sl) | (with_reducible apply h_no) | (with_reducible apply h_for) | (with_reducible apply h_it) | (with_reducible apply h_c) | (with_reducible apply h_add) | (with_reducible apply h_sub) | (with_reducible apply h_negI) | (with_reducible apply h_wB) | (with_reducible apply h_w1) | (with_reducible apply h_w2) | (with_reducible apply h_run) | ((with_reducible apply h_var); (exact rfl)))
  refine h_mkL rfl (by simp) ?_
  repeat (first | (with_reducible apply h_seq) | (with_reducible apply h_set) | (with_reducible apply h_drop) | (with_reducible apply h_ret) | (with_reducible apply h_next) | (with_reducible apply h_ifS) | (with_reducible apply h_if) | (with_reducible apply h_bin) | (with_reducible apply h_test) | (with_reducible apply h_and) | (with_reducible apply h_or) | (with_reducible apply h_not) | (with_reducible apply h_call) | (with_reducible apply h_nil) | (with_reducible apply h_cons) | (with_reducible apply h_tup) | (with_reducible apply h_lst) | (with_reducible apply h_own) | (with_reducible apply h_un) | (with_reducible apply h_meth) | (with_reducible apply h_meth0) | (with_reducible apply h_ice) | (with_reducible apply h_sl) | (with_reducible apply h_no) | (with_reducible apply h_for) | (with_reducible apply h_it) | (with_reducible apply h_c) | (with_reducible apply h_add) | (with_reducible apply h_sub) | (with_reducible apply h_negI) | (with_reducible apply h_wB) | (with_reducible apply h_w1) | (with_reducible apply h_w2) | (with_reducible apply h_run) | ((with_reducible apply h_var); (exact rfl)))
  refine pick_wp T (by simp) (by simp) fun d P1 hd T1 F1 => ?_
  obtain ⟨s, rfl, hs1, hs2⟩ : ∃ s : Int, d = .int s ∧ 1 ≤ s ∧ s ≤ 1000000000000 := by
    simp only [List.mem_cons, List.not_mem_nil, or_false] at hd
    rcases hd with rfl | rfl | rfl | rfl | rfl | rfl | rfl
    · exact ⟨1, rfl, by decide, by decide⟩
    · exact ⟨4, rfl, by decide, by decide⟩
    · exact ⟨12, rfl, by decide, by decide⟩
    · exact ⟨12, rfl, by decide, by decide⟩
    · exact ⟨40, rfl, by decide, by decide⟩
    · exact ⟨_, rfl, by decide, by decide⟩
    · exact ⟨_, rfl, by decide, by decide⟩
  repeat (first | (with_reducible apply h_seq) | (with_reducible apply h_set) | (with_reducible apply h_drop) | (with_reducible apply h_ret) | (with_reducible apply h_next) | (with_reducible apply h_ifS) | (with_reducible apply h_if) | (with_reducible apply h_bin) | (with_reducible apply h_test) | (with_reducible apply h_and) | (with_reducible apply h_or) | (with_reducible apply h_not) | (with_reducible apply h_call) | (with_reducible apply h_nil) | (with_reducible apply h_cons) | (with_reducible apply h_tup) | (with_reducible apply h_lst) | (with_reducible apply h_own) | (with_reducible apply h_un) | (with_reducible apply h_meth) | (with_reducible apply h_meth0) | (with_reducible apply h_ice) | (with_reducible apply h_sl) | (with_reducible apply h_no) | (with_reducible apply h_for) | (with_reducible apply h_it) | (with_reducible apply h_c) | (with_reducible apply h_add) | (with_reducible apply h_sub) | (with_reducible apply h_negI) | (with_reducible apply h_wB) | (with_reducible apply h_w1) | (with_reducible apply h_w2) | (with_reducible apply h_run) | ((with_reducible apply h_var); (exact rfl)))
  refine draw_wp T1 ⟨by omega, far_of hs2⟩ fun n P2 hn1 hn2 T2 F2 => ?_
  repeat (first | (with_reducible apply h_seq) | (with_reducible apply h_set) | (with_reducible apply h_drop) | (with_reducible apply h_ret) | (with_reducible apply h_next) | (with_reducible apply h_ifS) | (with_reducible apply h_if) | (with_reducible apply h_bin) | (with_reducible apply h_test) | (with_reducible apply h_and) | (with_reducible apply h_or) | (with_reducible apply h_not) | (with_reducible apply h_call) | (with_reducible apply h_nil) | (with_reducible apply h_cons) | (with_reducible apply h_tup) | (with_reducible apply h_lst) | (with_reducible apply h_own) | (with_reducible apply h_un) | (with_reducible apply h_meth) | (with_reducible apply h_meth0) | (with_reducible apply h_ice) | (with_reducible apply h_sl) | (with_reducible apply h_no) | (with_reducible apply h_for) | (with_reducible apply h_it) | (with_reducible apply h_c) | (with_reducible apply h_add) | (with_reducible apply h_sub) | (with_reducible apply h_negI) | (with_reducible apply h_wB) | (with_reducible apply h_w1) | (with_reducible apply h_w2) | (with_reducible apply h_run) | ((with_reducible apply h_var); (exact rfl)))
  have hp1 : 1 ≤ 1 + n := by omega
  have hp2 : 1 + n ≤ 1000000000000 := by omega
  generalize 1 + n = p at hp1 hp2 ⊢
  repeat (first | (with_reducible apply h_seq) | (with_reducible apply h_set) | (with_reducible apply h_drop) | (with_reducible apply h_ret) | (with_reducible apply h_next) | (with_reducible apply h_ifS) | (with_reducible apply h_if) | (with_reducible apply h_bin) | (with_reducible apply h_test) | (with_reducible apply h_and) | (with_reducible apply h_or) | (with_reducible apply h_not) | (with_reducible apply h_call) | (with_reducible apply h_nil) | (with_reducible apply h_cons) | (with_reducible apply h_tup) | (with_reducible apply h_lst) | (with_reducible apply h_own) | (with_reducible apply h_un) | (with_reducible apply h_meth) | (with_reducible apply h_meth0) | (with_reducible apply h_ice) | (with_reducible apply h_sl) | (with_reducible apply h_no) | (with_reducible apply h_for) | (with_reducible apply h_it) | (with_reducible apply h_c) | (with_reducible apply h_add) | (with_reducible apply h_sub) | (with_reducible apply h_negI) | (with_reducible apply h_wB) | (with_reducible apply h_w1) | (with_reducible apply h_w2) | (with_reducible apply h_run) | ((with_reducible apply h_var); (exact rfl)))
  refine draw_wp T2 ⟨by omega, far_of hp2⟩ fun n3 P3 h31 h32 T3 F3 => ?_
  repeat (first | (with_reducible apply h_seq) | (with_reducible apply h_set) | (with_reducible apply h_drop) | (with_reducible apply h_ret) | (with_reducible apply h_next) | (with_reducible apply h_ifS) | (with_reducible apply h_if) | (with_reducible apply h_bin) | (with_reducible apply h_test) | (with_reducible apply h_and) | (with_reducible apply h_or) | (with_reducible apply h_not) | (with_reducible apply h_call) | (with_reducible apply h_nil) | (with_reducible apply h_cons) | (with_reducible apply h_tup) | (with_reducible apply h_lst) | (with_reducible apply h_own) | (with_reducible apply h_un) | (with_reducible apply h_meth) | (with_reducible apply h_meth0) | (with_reducible apply h_ice) | (with_reducible apply h_sl) | (with_reducible apply h_no) | (with_reducible apply h_for) | (with_reducible apply h_it) | (with_reducible apply h_c) | (with_reducible apply h_add) | (with_reducible apply h_sub) | (with_reducible apply h_negI) | (with_reducible apply h_wB) | (with_reducible apply h_w1) | (with_reducible apply h_w2) | (with_reducible apply h_run) | ((with_reducible apply h_var); (exact rfl)))
  refine h_div ⟨by decide, far_of (by decide)⟩ ?_
  repeat (first | (with_reducible apply h_seq) | (with_reducible apply h_set) | (with_reducible apply h_drop) | (with_reducible apply h_ret) | (with_reducible apply h_next) | (with_reducible apply h_ifS) | (with_reducible apply h_if) | (with_reducible apply h_bin) | (with_reducible apply h_test) | (with_reducible apply h_and) | (with_reducible apply h_or) | (with_reducible apply h_not) | (with_reducible apply h_call) | (with_reducible apply h_nil) | (with_reducible apply h_cons) | (with_reducible apply h_tup) | (with_reducible apply h_lst) | (with_reducible apply h_own) | (with_reducible apply h_un) | (with_reducible apply h_meth) | (with_reducible apply h_meth0) | (with_reducible apply h_ice) | (with_reducible apply h_sl) | (with_reducible apply h_no) | (with_reducible apply h_for) | (with_reducible apply h_it) | (with_reducible apply h_c) | (with_reducible apply h_add) | (with_reducible apply h_sub) | (with_reducible apply h_negI) | (with_reducible apply h_wB) | (with_reducible apply h_w1) | (with_reducible apply h_w2) | (with_reducible apply h_run) | ((with_reducible apply h_var); (exact rfl)))
  have hh : 0 ≤ p / 2 ∧ p / 2 ≤ p := ⟨Int.ediv_nonneg (by omega) (by decide), by omega⟩
  refine draw_wp T3 ⟨by omega, far_of (by omega)⟩ fun n4 P4 h41 h42 T4 F4 => ?_
  repeat (first | (with_reducible apply h_seq) | (with_reducible apply h_set) | (with_reducible apply h_drop) | (with_reducible apply h_ret) | (with_reducible apply h_next) | (with_reducible apply h_ifS) | (with_reducible apply h_if) | (with_reducible apply h_bin) | (with_reducible apply h_test) | (with_reducible apply h_and) | (with_reducible apply h_or) | (with_reducible apply h_not) | (with_reducible apply h_call) | (with_reducible apply h_nil) | (with_reducible apply h_cons) | (with_reducible apply h_tup) | (with_reducible apply h_lst) | (with_reducible apply h_own) | (with_reducible apply h_un) | (with_reducible apply h_meth) | (with_reducible apply h_meth0) | (with_reducible apply h_ice) | (with_reducible apply h_sl) | (with_reducible apply h_no) | (with_reducible apply h_for) | (with_reducible apply h_it) | (with_reducible apply h_c) | (with_reducible apply h_add) | (with_reducible apply h_sub) | (with_reducible apply h_negI) | (with_reducible apply h_wB) | (with_reducible apply h_w1) | (with_reducible apply h_w2) | (with_reducible apply h_run) | ((with_reducible apply h_var); (exact rfl)))
  refine h_mkL rfl (by simp) ?_
  repeat (first | (with_reducible apply h_seq) | (with_reducible apply h_set) | (with_reducible apply h_drop) | (with_reducible apply h_ret) | (with_reducible apply h_next) | (with_reducible apply h_ifS) | (with_reducible apply h_if) | (with_reducible apply h_bin) | (with_reducible apply h_test) | (with_reducible apply h_and) | (with_reducible apply h_or) | (with_reducible apply h_not) | (with_reducible apply h_call) | (with_reducible apply h_nil) | (with_reducible apply h_cons) | (with_reducible apply h_tup) | (with_reducible apply h_lst) | (with_reducible apply h_own) | (with_reducible apply h_un) | (with_reducible apply h_meth) | (with_reducible apply h_meth0) | (with_reducible apply h_ice) | (with_reducible apply h_sl) | (with_reducible apply h_no) | (with_reducible apply h_for) | (with_reducible apply h_it) | (with_reducible apply h_c) | (with_reducible apply h_add) | (with_reducible apply h_sub) | (with_reducible apply h_negI) | (with_reducible apply h_wB) | (with_reducible apply h_w1) | (with_reducible apply h_w2) | (with_reducible apply h_run) | ((with_reducible apply h_var); (exact rfl)))
  refine pick_wp T4 (by simp) (by simp) fun d P5 hd T5 F5 => ?_
  obtain ⟨l, rfl, hl1⟩ : ∃ l : Int, d = .int l ∧ 1 ≤ l := by
    simp only [List.mem_cons, List.not_mem_nil, or_false] at hd
    rcases hd with rfl | rfl | rfl | rfl | rfl
    · exact ⟨1, rfl, by decide⟩
    · exact ⟨1, rfl, by decide⟩
    · exact ⟨_, rfl, hp1⟩
    · exact ⟨_, rfl, by omega⟩
    · exact ⟨_, rfl, by omega⟩
  repeat (first | (with_reducible apply h_seq) | (with_reducible apply h_set) | (with_reducible apply h_drop) | (with_reducible apply h_ret) | (with_reducible apply h_next) | (with_reducible apply h_ifS) | (with_reducible apply h_if) | (with_reducible apply h_bin) | (with_reducible apply h_test) | (with_reducible apply h_and) | (with_reducible apply h_or) | (with_reducible apply h_not) | (with_reducible apply h_call) | (with_reducible apply h_nil) | (with_reducible apply h_cons) | (with_reducible apply h_tup) | (with_reducible apply h_lst) | (with_reducible apply h_own) | (with_reducible apply h_un) | (with_reducible apply h_meth) | (with_reducible apply h_meth0) | (with_reducible apply h_ice) | (with_reducible apply h_sl) | (with_reducible apply h_no) | (with_reducible apply h_for) | (with_reducible apply h_it) | (with_reducible apply h_c) | (with_reducible apply h_add) | (with_reducible apply h_sub) | (with_reducible apply h_negI) | (with_reducible apply h_wB) | (with_reducible apply h_w1) | (with_reducible apply h_w2) | (with_reducible apply h_run) | ((with_reducible apply h_var); (exact rfl)))
  refine draw_wp T5 ⟨by omega, far_of hp2⟩ fun n6 P6 h61 h62 T6 F6 => ?_
  repeat (first | (with_reducible apply h_seq) | (with_reducible apply h_set) | (with_reducible apply h_drop) | (with_reducible apply h_ret) | (with_reducible apply h_next) | (with_reducible apply h_ifS) | (with_reducible apply h_if) | (with_reducible apply h_bin) | (with_reducible apply h_test) | (with_reducible apply h_and) | (with_reducible apply h_or) | (with_reducible apply h_not) | (with_reducible apply h_call) | (with_reducible apply h_nil) | (with_reducible apply h_cons) | (with_reducible apply h_tup) | (with_reducible apply h_lst) | (with_reducible apply h_own) | (with_reducible apply h_un) | (with_reducible apply h_meth) | (with_reducible apply h_meth0) | (with_reducible apply h_ice) | (with_reducible apply h_sl) | (with_reducible apply h_no) | (with_reducible apply h_for) | (with_reducible apply h_it) | (with_reducible apply h_c) | (with_reducible apply h_add) | (with_reducible apply h_sub) | (with_reducible apply h_negI) | (with_reducible apply h_wB) | (with_reducible apply h_w1) | (with_reducible apply h_w2) | (with_reducible apply h_run) | ((with_reducible apply h_var); (exact rfl)))
  refine h_eq (wp_min2 _ _ _ _) ?_
  repeat (first | (with_reducible apply h_seq) | (with_reducible apply h_set) | (with_reducible apply h_drop) | (with_reducible apply h_ret) | (with_reducible apply h_next) | (with_reducible apply h_ifS) | (with_reducible apply h_if) | (with_reducible apply h_bin) | (with_reducible apply h_test) | (with_reducible apply h_and) | (with_reducible apply h_or) | (with_reducible apply h_not) | (with_reducible apply h_call) | (with_reducible apply h_nil) | (with_reducible apply h_cons) | (with_reducible apply h_tup) | (with_reducible apply h_lst) | (with_reducible apply h_own) | (with_reducible apply h_un) | (with_reducible apply h_meth) | (with_reducible apply h_meth0) | (with_reducible apply h_ice) | (with_reducible apply h_sl) | (with_reducible apply h_no) | (with_reducible apply h_for) | (with_reducible apply h_it) | (with_reducible apply h_c) | (with_reducible apply h_add) | (with_reducible apply h_sub) | (with_reducible apply h_negI) | (with_reducible apply h_wB) | (with_reducible apply h_w1) | (with_reducible apply h_w2) | (with_reducible apply h_run) | ((with_reducible apply h_var); (exact rfl)))
  refine h_mkT rfl (by simp) ?_
  have F := ((((F1.tr F2).tr F3).tr F4).tr F5).tr F6
  show ∃ q, Lng q ∧ W.d (.tup [.int n6, .int p, .int (min l p)]) = .d (d3 q) ∧ Tp (P6.take P.length) j k ∧ Fr P (P6.take P.length) j k
  rw [F.take]
  exact ⟨(n6, p, min l p), ⟨⟨hp1, hp2⟩, ⟨h61, h62⟩, by show 1 ≤ min l p; omega, by show min l p ≤ p; omega⟩, rfl, T6, F⟩
/-! ### sizes -/
theorem roomAt_dvd {p : Int} (i : Nat) : ∀ (qs : List ((Int × Int) × Nat)) (a : Int), (∀ q ∈ qs, 0 < q.1.1) → 0 < a → a ∣ p → qs.foldl (roomStep p i) a ∣ p
  | [], a, _, _, h => h
  | q :: qs, a, hq, ha, h => by
    show qs.foldl (roomStep p i) (roomStep p i a q) ∣ p
    have hg := g_pos (a := p) (hq q List.mem_cons_self)
    refine roomAt_dvd i qs _ (fun r hr => hq r (List.mem_cons_of_mem _ hr)) ?_ ?_
    · unfold roomStep; split
      · exact ha
      · exact lc_pos ha hg
    · unfold roomStep; split
      · exact h
      · exact lc_dvd ha hg h (g_dvd_left _ _)
theorem rooms_ok {ss : List (Int × Int)} (h : ∀ p ∈ ss, Siz p) : ∀ r ∈ rooms ss, 1 ≤ r ∧ r ≤ 1000000000000 := fun r hr => by
  unfold rooms at hr
  obtain ⟨q, hq, rfl⟩ := List.mem_map.mp hr
  obtain ⟨⟨h1, h2⟩, _⟩ := h q.1 (zip_mem hq)
  have hz : ∀ x ∈ ss.zipIdx, 0 < x.1.1 := fun x hx => by have := (h x.1 (zip_mem hx)).1.1; omega
  have p1 : 0 < roomAt ss q.2 q.1.1 := room_pos hz (by decide)
  have p2 : roomAt ss q.2 q.1.1 ≤ q.1.1 := Int.le_of_dvd (by omega) (roomAt_dvd q.2 ss.zipIdx 1 hz (by decide) (Int.one_dvd _))
  omega
theorem Tp.push {P : Sto} {j k : Nat} (T : Tp P j k) (l : Sto) : Tp (P ++ l) j k := by
  obtain ⟨L, r, cs, t, hj, hk⟩ := T.ex
  exact ⟨⟨L, r, cs, t, by rw [List.getElem?_append_left (List.getElem?_eq_some_iff.mp hj).1]; exact hj, by rw [List.getElem?_append_left (List.getElem?_eq_some_iff.mp hk).1]; exact hk⟩, T.lt⟩
theorem Tp.klt {P : Sto} {j k : Nat} (T : Tp P j k) : k < P.length := by
  obtain ⟨L, r, cs, t, hj, hk⟩ := T.ex
  exact (List.getElem?_eq_some_iff.mp hk).1
theorem Tp.setx {P : Sto} {j k i : Nat} (T : Tp P j k) (h : k < i) (m : MO) : Tp (P.set i m) j k := by
  obtain ⟨L, r, cs, t, hj, hk⟩ := T.ex
  have := T.lt
  exact ⟨⟨L, r, cs, t, by rw [List.getElem?_set_ne (by omega)]; exact hj, by rw [List.getElem?_set_ne (by omega)]; exact hk⟩, T.lt⟩
/-- what a function leaves: the tape, and all else as it stood -/
structure Res (P P' : Sto) (j k : Nat) : Prop where
  tp : Tp P' j k
  len : P.length ≤ P'.length
  at_ : ∀ i, i ≠ j → i ≠ k → i < P.length → P'[i]? = P[i]?
theorem Res.fr {P P' P'' : Sto} {j k : Nat} (R : Res P P' j k) (T : Tp P'' j k) (F : Fr P' P'' j k) : Res P P'' j k := ⟨T, by rw [F.len]; exact R.len, fun i h1 h2 h3 => (F.at_ i h1 h2).trans (R.at_ i h1 h2 h3)⟩
theorem Res.take {P P' : Sto} {j k : Nat} (R : Res P P' j k) (hk : k < P.length) : Tp (P'.take P.length) j k ∧ Fr P (P'.take P.length) j k := by
  obtain ⟨L, r, cs, t, hj, hkk⟩ := R.tp.ex
  have := R.tp.lt
  refine ⟨⟨⟨L, r, cs, t, by rw [List.getElem?_take_of_lt (by omega)]; exact hj, by rw [List.getElem?_take_of_lt hk]; exact hkk⟩, R.tp.lt⟩, by rw [List.length_take]; have := R.len; omega, fun i h1 h2 => ?_⟩
  by_cases hi : i < P.length
  · rw [List.getElem?_take_of_lt hi]; exact R.at_ i h1 h2 hi
  · rw [List.getElem?_eq_none (by rw [List.length_take]; omega), List.getElem?_eq_none (by omega)]
theorem f_held {a b c : Int} : wp (F_z_held A [.d (.int a), .d (.int b), .d (.int c)]) O Φ = Φ (.d (.int (max b (min c a)))) O := by
  unfold F_z_held d_z_held
  simp only [wp_fn, dSeq, dRet, dRetN, dSet, dPar, dAsg, dIfS, dIf, dBin, dTest, dChain, dAnd, dOr, dNot, dAndV, dOrV, dNotV, dNext, dStop, dDrop, dNil, dCons, dTup, dLst, dOwn, dCall, dUn, dPart, dNo, dSl, dMeth, dMeth0, dAug, dIce, dYes, wp_star, wp_dFn, w1, w2, wp_bind, wp_pure, wp_no, wp_var, wp_dC]
  simp
structure SsOk (ss : List (Int × Int)) : Prop where
  siz : ∀ p ∈ ss, Siz p
  ways : ways ss ≤ 120
theorem ss_nil : SsOk [] := ⟨fun p hp => (by cases hp), (by show (1 : Int) ≤ 120; decide)⟩
theorem good_d2 (ss : List (Int × Int)) : (ss.map d2).all (D.good 59) = true := by
  rw [List.all_map, List.all_eq_true]
  exact fun x _ => by
    show [D.int x.1, D.int x.2].all (D.good 58) = true
    simp [good_int]
theorem f_some_sizes {P : Sto} {j k : Nat} (T : Tp P j k) {many : Int} (hm : 1 ≤ many ∧ many ≤ 4) : wp (F_z_some_sizes A [.own k, .d (.int many), .d (.int 120)]) P fun w P' => ∃ ss, SsOk ss ∧ ss ≠ [] ∧ ss.length ≤ 4 ∧ w = .d (L2' ss) ∧ Tp P' j k ∧ Fr P P' j k := by
  have hkP := T.klt
  unfold F_z_some_sizes d_z_some_sizes
  repeat (first | (with_reducible apply h_seq) | (with_reducible apply h_set) | (with_reducible apply h_drop) | (with_reducible apply h_ret) | (with_reducible apply h_next) | (with_reducible apply h_ifS) | (with_reducible apply h_if) | (with_reducible apply h_bin) | (with_reducible apply h_test) | (with_reducible apply h_and) | (with_reducible apply h_or) | (with_reducible apply h_not) | (with_reducible apply h_call) | (with_reducible apply h_nil) | (with_reducible apply h_cons) | (with_reducible apply h_tup) | (with_reducible apply h_lst) | (with_reducible apply h_own) | (with_reducible apply h_un) | (with_reducible apply h_meth) | (with_reducible apply h_meth0) | (with_reducible apply h_ice) | (with_reducible apply h_sl) | (with_reducible apply h_no) | (with_reducible apply h_for) | (with_reducible apply h_it) | (with_reducible apply h_c) | (with_reducible apply h_add) | (with_reducible apply h_sub) | (with_reducible apply h_negI) | (with_reducible apply h_wB) | (with_reducible apply h_w1) | (with_reducible apply h_w2) | (with_reducible apply h_run) | ((with_reducible apply h_var); (exact rfl)))
  refine h_mkL rfl (by simp) ?_
  repeat (first | (with_reducible apply h_seq) | (with_reducible apply h_set) | (with_reducible apply h_drop) | (with_reducible apply h_ret) | (with_reducible apply h_next) | (with_reducible apply h_ifS) | (with_reducible apply h_if) | (with_reducible apply h_bin) | (with_reducible apply h_test) | (with_reducible apply h_and) | (with_reducible apply h_or) | (with_reducible apply h_not) | (with_reducible apply h_call) | (with_reducible apply h_nil) | (with_reducible apply h_cons) | (with_reducible apply h_tup) | (with_reducible apply h_lst) | (with_reducible apply h_own) | (with_reducible apply h_un) | (with_reducible apply h_meth) | (with_reducible apply h_meth0) | (with_reducible apply h_ice) | (with_reducible apply h_sl) | (with_reducible apply h_no) | (with_reducible apply h_for) | (with_reducible apply h_it) | (with_reducible apply h_c) | (with_reducible apply h_add) | (with_reducible apply h_sub) | (with_reducible apply h_negI) | (with_reducible apply h_wB) | (with_reducible apply h_w1) | (with_reducible apply h_w2) | (with_reducible apply h_run) | ((with_reducible apply h_var); (exact rfl)))
  refine pick_wp T (by simp) (by simp) fun d P1 hd T1 F1 => ?_
  obtain ⟨s, rfl, hs1, hs2⟩ : ∃ s : Int, d = .int s ∧ 1 ≤ s ∧ s ≤ 12 := by
    simp only [List.mem_cons, List.not_mem_nil, or_false] at hd
    rcases hd with rfl | rfl | rfl
    · exact ⟨3, rfl, by decide, by decide⟩
    · exact ⟨6, rfl, by decide, by decide⟩
    · exact ⟨12, rfl, by decide, by decide⟩
  repeat (first | (with_reducible apply h_seq) | (with_reducible apply h_set) | (with_reducible apply h_drop) | (with_reducible apply h_ret) | (with_reducible apply h_next) | (with_reducible apply h_ifS) | (with_reducible apply h_if) | (with_reducible apply h_bin) | (with_reducible apply h_test) | (with_reducible apply h_and) | (with_reducible apply h_or) | (with_reducible apply h_not) | (with_reducible apply h_call) | (with_reducible apply h_nil) | (with_reducible apply h_cons) | (with_reducible apply h_tup) | (with_reducible apply h_lst) | (with_reducible apply h_own) | (with_reducible apply h_un) | (with_reducible apply h_meth) | (with_reducible apply h_meth0) | (with_reducible apply h_ice) | (with_reducible apply h_sl) | (with_reducible apply h_no) | (with_reducible apply h_for) | (with_reducible apply h_it) | (with_reducible apply h_c) | (with_reducible apply h_add) | (with_reducible apply h_sub) | (with_reducible apply h_negI) | (with_reducible apply h_wB) | (with_reducible apply h_w1) | (with_reducible apply h_w2) | (with_reducible apply h_run) | ((with_reducible apply h_var); (exact rfl)))
  refine draw_wp T1 ⟨by omega, far_of (by omega)⟩ fun n P2 hn1 hn2 T2 F2 => ?_
  repeat (first | (with_reducible apply h_seq) | (with_reducible apply h_set) | (with_reducible apply h_drop) | (with_reducible apply h_ret) | (with_reducible apply h_next) | (with_reducible apply h_ifS) | (with_reducible apply h_if) | (with_reducible apply h_bin) | (with_reducible apply h_test) | (with_reducible apply h_and) | (with_reducible apply h_or) | (with_reducible apply h_not) | (with_reducible apply h_call) | (with_reducible apply h_nil) | (with_reducible apply h_cons) | (with_reducible apply h_tup) | (with_reducible apply h_lst) | (with_reducible apply h_own) | (with_reducible apply h_un) | (with_reducible apply h_meth) | (with_reducible apply h_meth0) | (with_reducible apply h_ice) | (with_reducible apply h_sl) | (with_reducible apply h_no) | (with_reducible apply h_for) | (with_reducible apply h_it) | (with_reducible apply h_c) | (with_reducible apply h_add) | (with_reducible apply h_sub) | (with_reducible apply h_negI) | (with_reducible apply h_wB) | (with_reducible apply h_w1) | (with_reducible apply h_w2) | (with_reducible apply h_run) | ((with_reducible apply h_var); (exact rfl)))
  have hb1 : 1 ≤ 1 + n := by omega
  have hb2 : 1 + n ≤ 12 := by omega
  generalize 1 + n = base at hb1 hb2 ⊢
  refine h_mkO rfl (by simp) ?_
  repeat (first | (with_reducible apply h_seq) | (with_reducible apply h_set) | (with_reducible apply h_drop) | (with_reducible apply h_ret) | (with_reducible apply h_next) | (with_reducible apply h_ifS) | (with_reducible apply h_if) | (with_reducible apply h_bin) | (with_reducible apply h_test) | (with_reducible apply h_and) | (with_reducible apply h_or) | (with_reducible apply h_not) | (with_reducible apply h_call) | (with_reducible apply h_nil) | (with_reducible apply h_cons) | (with_reducible apply h_tup) | (with_reducible apply h_lst) | (with_reducible apply h_own) | (with_reducible apply h_un) | (with_reducible apply h_meth) | (with_reducible apply h_meth0) | (with_reducible apply h_ice) | (with_reducible apply h_sl) | (with_reducible apply h_no) | (with_reducible apply h_for) | (with_reducible apply h_it) | (with_reducible apply h_c) | (with_reducible apply h_add) | (with_reducible apply h_sub) | (with_reducible apply h_negI) | (with_reducible apply h_wB) | (with_reducible apply h_w1) | (with_reducible apply h_w2) | (with_reducible apply h_run) | ((with_reducible apply h_var); (exact rfl)))
  have F12 := F1.tr F2
  have line := line_big
  have eP2 : P2.length = P.length := F12.len
  refine wp_rng1 (j := many) ?_
  repeat (first | (with_reducible apply h_seq) | (with_reducible apply h_set) | (with_reducible apply h_drop) | (with_reducible apply h_ret) | (with_reducible apply h_next) | (with_reducible apply h_ifS) | (with_reducible apply h_if) | (with_reducible apply h_bin) | (with_reducible apply h_test) | (with_reducible apply h_and) | (with_reducible apply h_or) | (with_reducible apply h_not) | (with_reducible apply h_call) | (with_reducible apply h_nil) | (with_reducible apply h_cons) | (with_reducible apply h_tup) | (with_reducible apply h_lst) | (with_reducible apply h_own) | (with_reducible apply h_un) | (with_reducible apply h_meth) | (with_reducible apply h_meth0) | (with_reducible apply h_ice) | (with_reducible apply h_sl) | (with_reducible apply h_no) | (with_reducible apply h_for) | (with_reducible apply h_it) | (with_reducible apply h_c) | (with_reducible apply h_add) | (with_reducible apply h_sub) | (with_reducible apply h_negI) | (with_reducible apply h_wB) | (with_reducible apply h_w1) | (with_reducible apply h_w2) | (with_reducible apply h_run) | ((with_reducible apply h_var); (exact rfl)))
  refine ⟨rfl, ⟨by omega, by omega⟩, ?_⟩
  refine wp_loopX (List.range many.toNat) _ (fun zs Γ P' => ∃ fs, SsOk fs ∧ fs.length ≤ zs.length ∧ Res P P' j k ∧ P'[P.length]? = some (.lst (fs.map d2)) ∧ ∃ a b c, Γ = [some (.own k), some (.d (.int many)), some (.d (.int 120)), some (.d (.int base)), some (.own P.length), a, b, c]) (rng01 _) (fun _ _ _ _ => wk_ok) ⟨[], ss_nil, by simp, ⟨T2.push _, by simp [eP2], fun i h1 h2 h3 => by rw [List.getElem?_append_left (by omega)]; exact F12.at_ i h1 h2⟩, by rw [← eP2]; exact at_end _ _, none, none, none, by rw [← eP2]; rfl⟩ ?_ ?_
  · rintro zs lap ys Γ P' e ⟨fs, hfs, hfl, R, hf, a, b, c, rfl⟩
    have hzl : zs.length < 4 := by
      have := congrArg List.length e
      simp at this; omega
    have ht := fun {P' P'' : Sto} (F : Fr P' P'' j k) (h : P'[P.length]? = some (.lst (fs.map d2))) => show P''[P.length]? = some (.lst (fs.map d2)) from by
      have := T.lt
      rw [F.at_ _ (by omega) (by omega)]; exact h
    refine ⟨[some (.own k), some (.d (.int many)), some (.d (.int 120)), some (.d (.int base)), some (.own P.length), some (.d (.int ((lap : Nat) : Int))), b, c], rfl, ?_⟩
    unfold B0_z_some_sizes
    repeat (first | (with_reducible apply h_seq) | (with_reducible apply h_set) | (with_reducible apply h_drop) | (with_reducible apply h_ret) | (with_reducible apply h_next) | (with_reducible apply h_ifS) | (with_reducible apply h_if) | (with_reducible apply h_bin) | (with_reducible apply h_test) | (with_reducible apply h_and) | (with_reducible apply h_or) | (with_reducible apply h_not) | (with_reducible apply h_call) | (with_reducible apply h_nil) | (with_reducible apply h_cons) | (with_reducible apply h_tup) | (with_reducible apply h_lst) | (with_reducible apply h_own) | (with_reducible apply h_un) | (with_reducible apply h_meth) | (with_reducible apply h_meth0) | (with_reducible apply h_ice) | (with_reducible apply h_sl) | (with_reducible apply h_no) | (with_reducible apply h_for) | (with_reducible apply h_it) | (with_reducible apply h_c) | (with_reducible apply h_add) | (with_reducible apply h_sub) | (with_reducible apply h_negI) | (with_reducible apply h_wB) | (with_reducible apply h_w1) | (with_reducible apply h_w2) | (with_reducible apply h_run) | ((with_reducible apply h_var); (exact rfl)))
    refine h_mulL (.inl ⟨by omega, by omega⟩) ?_
    repeat (first | (with_reducible apply h_seq) | (with_reducible apply h_set) | (with_reducible apply h_drop) | (with_reducible apply h_ret) | (with_reducible apply h_next) | (with_reducible apply h_ifS) | (with_reducible apply h_if) | (with_reducible apply h_bin) | (with_reducible apply h_test) | (with_reducible apply h_and) | (with_reducible apply h_or) | (with_reducible apply h_not) | (with_reducible apply h_call) | (with_reducible apply h_nil) | (with_reducible apply h_cons) | (with_reducible apply h_tup) | (with_reducible apply h_lst) | (with_reducible apply h_own) | (with_reducible apply h_un) | (with_reducible apply h_meth) | (with_reducible apply h_meth0) | (with_reducible apply h_ice) | (with_reducible apply h_sl) | (with_reducible apply h_no) | (with_reducible apply h_for) | (with_reducible apply h_it) | (with_reducible apply h_c) | (with_reducible apply h_add) | (with_reducible apply h_sub) | (with_reducible apply h_negI) | (with_reducible apply h_wB) | (with_reducible apply h_w1) | (with_reducible apply h_w2) | (with_reducible apply h_run) | ((with_reducible apply h_var); (exact rfl)))
    refine h_mulL (.inl ⟨by omega, by omega⟩) ?_
    repeat (first | (with_reducible apply h_seq) | (with_reducible apply h_set) | (with_reducible apply h_drop) | (with_reducible apply h_ret) | (with_reducible apply h_next) | (with_reducible apply h_ifS) | (with_reducible apply h_if) | (with_reducible apply h_bin) | (with_reducible apply h_test) | (with_reducible apply h_and) | (with_reducible apply h_or) | (with_reducible apply h_not) | (with_reducible apply h_call) | (with_reducible apply h_nil) | (with_reducible apply h_cons) | (with_reducible apply h_tup) | (with_reducible apply h_lst) | (with_reducible apply h_own) | (with_reducible apply h_un) | (with_reducible apply h_meth) | (with_reducible apply h_meth0) | (with_reducible apply h_ice) | (with_reducible apply h_sl) | (with_reducible apply h_no) | (with_reducible apply h_for) | (with_reducible apply h_it) | (with_reducible apply h_c) | (with_reducible apply h_add) | (with_reducible apply h_sub) | (with_reducible apply h_negI) | (with_reducible apply h_wB) | (with_reducible apply h_w1) | (with_reducible apply h_w2) | (with_reducible apply h_run) | ((with_reducible apply h_var); (exact rfl)))
    refine draw_wp R.tp ⟨by omega, far_of (by omega)⟩ fun n3 P3 h31 h32 T3 F3 => ?_
    repeat (first | (with_reducible apply h_seq) | (with_reducible apply h_set) | (with_reducible apply h_drop) | (with_reducible apply h_ret) | (with_reducible apply h_next) | (with_reducible apply h_ifS) | (with_reducible apply h_if) | (with_reducible apply h_bin) | (with_reducible apply h_test) | (with_reducible apply h_and) | (with_reducible apply h_or) | (with_reducible apply h_not) | (with_reducible apply h_call) | (with_reducible apply h_nil) | (with_reducible apply h_cons) | (with_reducible apply h_tup) | (with_reducible apply h_lst) | (with_reducible apply h_own) | (with_reducible apply h_un) | (with_reducible apply h_meth) | (with_reducible apply h_meth0) | (with_reducible apply h_ice) | (with_reducible apply h_sl) | (with_reducible apply h_no) | (with_reducible apply h_for) | (with_reducible apply h_it) | (with_reducible apply h_c) | (with_reducible apply h_add) | (with_reducible apply h_sub) | (with_reducible apply h_negI) | (with_reducible apply h_wB) | (with_reducible apply h_w1) | (with_reducible apply h_w2) | (with_reducible apply h_run) | ((with_reducible apply h_var); (exact rfl)))
    refine h_mulL (.inl ⟨by omega, by omega⟩) ?_
    repeat (first | (with_reducible apply h_seq) | (with_reducible apply h_set) | (with_reducible apply h_drop) | (with_reducible apply h_ret) | (with_reducible apply h_next) | (with_reducible apply h_ifS) | (with_reducible apply h_if) | (with_reducible apply h_bin) | (with_reducible apply h_test) | (with_reducible apply h_and) | (with_reducible apply h_or) | (with_reducible apply h_not) | (with_reducible apply h_call) | (with_reducible apply h_nil) | (with_reducible apply h_cons) | (with_reducible apply h_tup) | (with_reducible apply h_lst) | (with_reducible apply h_own) | (with_reducible apply h_un) | (with_reducible apply h_meth) | (with_reducible apply h_meth0) | (with_reducible apply h_ice) | (with_reducible apply h_sl) | (with_reducible apply h_no) | (with_reducible apply h_for) | (with_reducible apply h_it) | (with_reducible apply h_c) | (with_reducible apply h_add) | (with_reducible apply h_sub) | (with_reducible apply h_negI) | (with_reducible apply h_wB) | (with_reducible apply h_w1) | (with_reducible apply h_w2) | (with_reducible apply h_run) | ((with_reducible apply h_var); (exact rfl)))
    refine draw_wp T3 ⟨by omega, far_of (by omega)⟩ fun n4 P4 h41 h42 T4 F4 => ?_
    repeat (first | (with_reducible apply h_seq) | (with_reducible apply h_set) | (with_reducible apply h_drop) | (with_reducible apply h_ret) | (with_reducible apply h_next) | (with_reducible apply h_ifS) | (with_reducible apply h_if) | (with_reducible apply h_bin) | (with_reducible apply h_test) | (with_reducible apply h_and) | (with_reducible apply h_or) | (with_reducible apply h_not) | (with_reducible apply h_call) | (with_reducible apply h_nil) | (with_reducible apply h_cons) | (with_reducible apply h_tup) | (with_reducible apply h_lst) | (with_reducible apply h_own) | (with_reducible apply h_un) | (with_reducible apply h_meth) | (with_reducible apply h_meth0) | (with_reducible apply h_ice) | (with_reducible apply h_sl) | (with_reducible apply h_no) | (with_reducible apply h_for) | (with_reducible apply h_it) | (with_reducible apply h_c) | (with_reducible apply h_add) | (with_reducible apply h_sub) | (with_reducible apply h_negI) | (with_reducible apply h_wB) | (with_reducible apply h_w1) | (with_reducible apply h_w2) | (with_reducible apply h_run) | ((with_reducible apply h_var); (exact rfl)))
    refine h_mulL (.inl ⟨by omega, by omega⟩) ?_
    repeat (first | (with_reducible apply h_seq) | (with_reducible apply h_set) | (with_reducible apply h_drop) | (with_reducible apply h_ret) | (with_reducible apply h_next) | (with_reducible apply h_ifS) | (with_reducible apply h_if) | (with_reducible apply h_bin) | (with_reducible apply h_test) | (with_reducible apply h_and) | (with_reducible apply h_or) | (with_reducible apply h_not) | (with_reducible apply h_call) | (with_reducible apply h_nil) | (with_reducible apply h_cons) | (with_reducible apply h_tup) | (with_reducible apply h_lst) | (with_reducible apply h_own) | (with_reducible apply h_un) | (with_reducible apply h_meth) | (with_reducible apply h_meth0) | (with_reducible apply h_ice) | (with_reducible apply h_sl) | (with_reducible apply h_no) | (with_reducible apply h_for) | (with_reducible apply h_it) | (with_reducible apply h_c) | (with_reducible apply h_add) | (with_reducible apply h_sub) | (with_reducible apply h_negI) | (with_reducible apply h_wB) | (with_reducible apply h_w1) | (with_reducible apply h_w2) | (with_reducible apply h_run) | ((with_reducible apply h_var); (exact rfl)))
    refine h_mkL rfl (by simp) ?_
    repeat (first | (with_reducible apply h_seq) | (with_reducible apply h_set) | (with_reducible apply h_drop) | (with_reducible apply h_ret) | (with_reducible apply h_next) | (with_reducible apply h_ifS) | (with_reducible apply h_if) | (with_reducible apply h_bin) | (with_reducible apply h_test) | (with_reducible apply h_and) | (with_reducible apply h_or) | (with_reducible apply h_not) | (with_reducible apply h_call) | (with_reducible apply h_nil) | (with_reducible apply h_cons) | (with_reducible apply h_tup) | (with_reducible apply h_lst) | (with_reducible apply h_own) | (with_reducible apply h_un) | (with_reducible apply h_meth) | (with_reducible apply h_meth0) | (with_reducible apply h_ice) | (with_reducible apply h_sl) | (with_reducible apply h_no) | (with_reducible apply h_for) | (with_reducible apply h_it) | (with_reducible apply h_c) | (with_reducible apply h_add) | (with_reducible apply h_sub) | (with_reducible apply h_negI) | (with_reducible apply h_wB) | (with_reducible apply h_w1) | (with_reducible apply h_w2) | (with_reducible apply h_run) | ((with_reducible apply h_var); (exact rfl)))
    refine pick_wp T4 (by simp) (by simp) fun d P5 hd T5 F5 => ?_
    obtain ⟨p, rfl, hp1, hp2⟩ : ∃ p : Int, d = .int p ∧ 1 ≤ p ∧ p ≤ 1000000000000 := by
      simp only [List.mem_cons, List.not_mem_nil, or_false] at hd
      have hq : base * 1 ≤ base * (1 + n3) := Int.mul_le_mul_of_nonneg_left (by omega) (by omega)
      have hq2 : base * (1 + n3) ≤ base * 9 := Int.mul_le_mul_of_nonneg_left (by omega) (by omega)
      rcases hd with rfl | rfl | rfl | rfl | rfl | rfl
      · exact ⟨_, rfl, by omega, by omega⟩
      · exact ⟨_, rfl, by omega, by omega⟩
      · exact ⟨_, rfl, by omega, by omega⟩
      · exact ⟨_, rfl, by omega, by omega⟩
      · exact ⟨_, rfl, by omega, by omega⟩
      · exact ⟨_, rfl, by omega, by omega⟩
    repeat (first | (with_reducible apply h_seq) | (with_reducible apply h_set) | (with_reducible apply h_drop) | (with_reducible apply h_ret) | (with_reducible apply h_next) | (with_reducible apply h_ifS) | (with_reducible apply h_if) | (with_reducible apply h_bin) | (with_reducible apply h_test) | (with_reducible apply h_and) | (with_reducible apply h_or) | (with_reducible apply h_not) | (with_reducible apply h_call) | (with_reducible apply h_nil) | (with_reducible apply h_cons) | (with_reducible apply h_tup) | (with_reducible apply h_lst) | (with_reducible apply h_own) | (with_reducible apply h_un) | (with_reducible apply h_meth) | (with_reducible apply h_meth0) | (with_reducible apply h_ice) | (with_reducible apply h_sl) | (with_reducible apply h_no) | (with_reducible apply h_for) | (with_reducible apply h_it) | (with_reducible apply h_c) | (with_reducible apply h_add) | (with_reducible apply h_sub) | (with_reducible apply h_negI) | (with_reducible apply h_wB) | (with_reducible apply h_w1) | (with_reducible apply h_w2) | (with_reducible apply h_run) | ((with_reducible apply h_var); (exact rfl)))
    refine h_div ⟨by decide, far_of (by decide)⟩ ?_
    repeat (first | (with_reducible apply h_seq) | (with_reducible apply h_set) | (with_reducible apply h_drop) | (with_reducible apply h_ret) | (with_reducible apply h_next) | (with_reducible apply h_ifS) | (with_reducible apply h_if) | (with_reducible apply h_bin) | (with_reducible apply h_test) | (with_reducible apply h_and) | (with_reducible apply h_or) | (with_reducible apply h_not) | (with_reducible apply h_call) | (with_reducible apply h_nil) | (with_reducible apply h_cons) | (with_reducible apply h_tup) | (with_reducible apply h_lst) | (with_reducible apply h_own) | (with_reducible apply h_un) | (with_reducible apply h_meth) | (with_reducible apply h_meth0) | (with_reducible apply h_ice) | (with_reducible apply h_sl) | (with_reducible apply h_no) | (with_reducible apply h_for) | (with_reducible apply h_it) | (with_reducible apply h_c) | (with_reducible apply h_add) | (with_reducible apply h_sub) | (with_reducible apply h_negI) | (with_reducible apply h_wB) | (with_reducible apply h_w1) | (with_reducible apply h_w2) | (with_reducible apply h_run) | ((with_reducible apply h_var); (exact rfl)))
    refine draw_wp T5 ⟨by omega, far_of (by omega)⟩ fun n6 P6 h61 h62 T6 F6 => ?_
    repeat (first | (with_reducible apply h_seq) | (with_reducible apply h_set) | (with_reducible apply h_drop) | (with_reducible apply h_ret) | (with_reducible apply h_next) | (with_reducible apply h_ifS) | (with_reducible apply h_if) | (with_reducible apply h_bin) | (with_reducible apply h_test) | (with_reducible apply h_and) | (with_reducible apply h_or) | (with_reducible apply h_not) | (with_reducible apply h_call) | (with_reducible apply h_nil) | (with_reducible apply h_cons) | (with_reducible apply h_tup) | (with_reducible apply h_lst) | (with_reducible apply h_own) | (with_reducible apply h_un) | (with_reducible apply h_meth) | (with_reducible apply h_meth0) | (with_reducible apply h_ice) | (with_reducible apply h_sl) | (with_reducible apply h_no) | (with_reducible apply h_for) | (with_reducible apply h_it) | (with_reducible apply h_c) | (with_reducible apply h_add) | (with_reducible apply h_sub) | (with_reducible apply h_negI) | (with_reducible apply h_wB) | (with_reducible apply h_w1) | (with_reducible apply h_w2) | (with_reducible apply h_run) | ((with_reducible apply h_var); (exact rfl)))
    refine h_div ⟨by omega, far_of (by omega)⟩ ?_
    repeat (first | (with_reducible apply h_seq) | (with_reducible apply h_set) | (with_reducible apply h_drop) | (with_reducible apply h_ret) | (with_reducible apply h_next) | (with_reducible apply h_ifS) | (with_reducible apply h_if) | (with_reducible apply h_bin) | (with_reducible apply h_test) | (with_reducible apply h_and) | (with_reducible apply h_or) | (with_reducible apply h_not) | (with_reducible apply h_call) | (with_reducible apply h_nil) | (with_reducible apply h_cons) | (with_reducible apply h_tup) | (with_reducible apply h_lst) | (with_reducible apply h_own) | (with_reducible apply h_un) | (with_reducible apply h_meth) | (with_reducible apply h_meth0) | (with_reducible apply h_ice) | (with_reducible apply h_sl) | (with_reducible apply h_no) | (with_reducible apply h_for) | (with_reducible apply h_it) | (with_reducible apply h_c) | (with_reducible apply h_add) | (with_reducible apply h_sub) | (with_reducible apply h_negI) | (with_reducible apply h_wB) | (with_reducible apply h_w1) | (with_reducible apply h_w2) | (with_reducible apply h_run) | ((with_reducible apply h_var); (exact rfl)))
    refine draw_wp T6 ⟨by omega, far_of (by omega)⟩ fun n7 P7 h71 h72 T7 F7 => ?_
    repeat (first | (with_reducible apply h_seq) | (with_reducible apply h_set) | (with_reducible apply h_drop) | (with_reducible apply h_ret) | (with_reducible apply h_next) | (with_reducible apply h_ifS) | (with_reducible apply h_if) | (with_reducible apply h_bin) | (with_reducible apply h_test) | (with_reducible apply h_and) | (with_reducible apply h_or) | (with_reducible apply h_not) | (with_reducible apply h_call) | (with_reducible apply h_nil) | (with_reducible apply h_cons) | (with_reducible apply h_tup) | (with_reducible apply h_lst) | (with_reducible apply h_own) | (with_reducible apply h_un) | (with_reducible apply h_meth) | (with_reducible apply h_meth0) | (with_reducible apply h_ice) | (with_reducible apply h_sl) | (with_reducible apply h_no) | (with_reducible apply h_for) | (with_reducible apply h_it) | (with_reducible apply h_c) | (with_reducible apply h_add) | (with_reducible apply h_sub) | (with_reducible apply h_negI) | (with_reducible apply h_wB) | (with_reducible apply h_w1) | (with_reducible apply h_w2) | (with_reducible apply h_run) | ((with_reducible apply h_var); (exact rfl)))
    refine h_mkL rfl (by simp) ?_
    repeat (first | (with_reducible apply h_seq) | (with_reducible apply h_set) | (with_reducible apply h_drop) | (with_reducible apply h_ret) | (with_reducible apply h_next) | (with_reducible apply h_ifS) | (with_reducible apply h_if) | (with_reducible apply h_bin) | (with_reducible apply h_test) | (with_reducible apply h_and) | (with_reducible apply h_or) | (with_reducible apply h_not) | (with_reducible apply h_call) | (with_reducible apply h_nil) | (with_reducible apply h_cons) | (with_reducible apply h_tup) | (with_reducible apply h_lst) | (with_reducible apply h_own) | (with_reducible apply h_un) | (with_reducible apply h_meth) | (with_reducible apply h_meth0) | (with_reducible apply h_ice) | (with_reducible apply h_sl) | (with_reducible apply h_no) | (with_reducible apply h_for) | (with_reducible apply h_it) | (with_reducible apply h_c) | (with_reducible apply h_add) | (with_reducible apply h_sub) | (with_reducible apply h_negI) | (with_reducible apply h_wB) | (with_reducible apply h_w1) | (with_reducible apply h_w2) | (with_reducible apply h_run) | ((with_reducible apply h_var); (exact rfl)))
    refine pick_wp T7 (by simp) (by simp) fun d P8 hd T8 F8 => ?_
    obtain ⟨l, rfl⟩ : ∃ l : Int, d = .int l := by
      simp only [List.mem_cons, List.not_mem_nil, or_false] at hd
      rcases hd with rfl | rfl | rfl | rfl | rfl <;> exact ⟨_, rfl⟩
    repeat (first | (with_reducible apply h_seq) | (with_reducible apply h_set) | (with_reducible apply h_drop) | (with_reducible apply h_ret) | (with_reducible apply h_next) | (with_reducible apply h_ifS) | (with_reducible apply h_if) | (with_reducible apply h_bin) | (with_reducible apply h_test) | (with_reducible apply h_and) | (with_reducible apply h_or) | (with_reducible apply h_not) | (with_reducible apply h_call) | (with_reducible apply h_nil) | (with_reducible apply h_cons) | (with_reducible apply h_tup) | (with_reducible apply h_lst) | (with_reducible apply h_own) | (with_reducible apply h_un) | (with_reducible apply h_meth) | (with_reducible apply h_meth0) | (with_reducible apply h_ice) | (with_reducible apply h_sl) | (with_reducible apply h_no) | (with_reducible apply h_for) | (with_reducible apply h_it) | (with_reducible apply h_c) | (with_reducible apply h_add) | (with_reducible apply h_sub) | (with_reducible apply h_negI) | (with_reducible apply h_wB) | (with_reducible apply h_w1) | (with_reducible apply h_w2) | (with_reducible apply h_run) | ((with_reducible apply h_var); (exact rfl)))
    refine h_fn2 (by rfl) ?_
    refine h_eq (f_held (a := l) (b := 1) (c := p)) ?_
    repeat (first | (with_reducible apply h_seq) | (with_reducible apply h_set) | (with_reducible apply h_drop) | (with_reducible apply h_ret) | (with_reducible apply h_next) | (with_reducible apply h_ifS) | (with_reducible apply h_if) | (with_reducible apply h_bin) | (with_reducible apply h_test) | (with_reducible apply h_and) | (with_reducible apply h_or) | (with_reducible apply h_not) | (with_reducible apply h_call) | (with_reducible apply h_nil) | (with_reducible apply h_cons) | (with_reducible apply h_tup) | (with_reducible apply h_lst) | (with_reducible apply h_own) | (with_reducible apply h_un) | (with_reducible apply h_meth) | (with_reducible apply h_meth0) | (with_reducible apply h_ice) | (with_reducible apply h_sl) | (with_reducible apply h_no) | (with_reducible apply h_for) | (with_reducible apply h_it) | (with_reducible apply h_c) | (with_reducible apply h_add) | (with_reducible apply h_sub) | (with_reducible apply h_negI) | (with_reducible apply h_wB) | (with_reducible apply h_w1) | (with_reducible apply h_w2) | (with_reducible apply h_run) | ((with_reducible apply h_var); (exact rfl)))
    refine h_mkT rfl (by simp) ?_
    repeat (first | (with_reducible apply h_seq) | (with_reducible apply h_set) | (with_reducible apply h_drop) | (with_reducible apply h_ret) | (with_reducible apply h_next) | (with_reducible apply h_ifS) | (with_reducible apply h_if) | (with_reducible apply h_bin) | (with_reducible apply h_test) | (with_reducible apply h_and) | (with_reducible apply h_or) | (with_reducible apply h_not) | (with_reducible apply h_call) | (with_reducible apply h_nil) | (with_reducible apply h_cons) | (with_reducible apply h_tup) | (with_reducible apply h_lst) | (with_reducible apply h_own) | (with_reducible apply h_un) | (with_reducible apply h_meth) | (with_reducible apply h_meth0) | (with_reducible apply h_ice) | (with_reducible apply h_sl) | (with_reducible apply h_no) | (with_reducible apply h_for) | (with_reducible apply h_it) | (with_reducible apply h_c) | (with_reducible apply h_add) | (with_reducible apply h_sub) | (with_reducible apply h_negI) | (with_reducible apply h_wB) | (with_reducible apply h_w1) | (with_reducible apply h_w2) | (with_reducible apply h_run) | ((with_reducible apply h_var); (exact rfl)))
    have F38 := ((((F3.tr F4).tr F5).tr F6).tr F7).tr F8
    have R8 := R.fr T8 F38
    have hf8 := ht F38 hf
    have hit : Siz (p, max 1 (min p l)) := ⟨⟨hp1, hp2⟩, by show 1 ≤ max 1 (min p l); omega, by show max 1 (min p l) ≤ p; omega⟩
    have hfs2 : ∀ q ∈ fs ++ [(p, max 1 (min p l))], Siz q := fun q hq => by
      rcases List.mem_append.mp hq with hq | hq
      · exact hfs.siz q hq
      · rw [List.mem_singleton.mp hq]; exact hit
    refine h_mkL rfl (by simp) ?_
    refine h_eq (wp_addL (a := fs.map d2) (b := [d2 (p, max 1 (min p l))]) (wL_own hf8) rfl (by simp; omega) _) ?_
    repeat (first | (with_reducible apply h_seq) | (with_reducible apply h_set) | (with_reducible apply h_drop) | (with_reducible apply h_ret) | (with_reducible apply h_next) | (with_reducible apply h_ifS) | (with_reducible apply h_if) | (with_reducible apply h_bin) | (with_reducible apply h_test) | (with_reducible apply h_and) | (with_reducible apply h_or) | (with_reducible apply h_not) | (with_reducible apply h_call) | (with_reducible apply h_nil) | (with_reducible apply h_cons) | (with_reducible apply h_tup) | (with_reducible apply h_lst) | (with_reducible apply h_own) | (with_reducible apply h_un) | (with_reducible apply h_meth) | (with_reducible apply h_meth0) | (with_reducible apply h_ice) | (with_reducible apply h_sl) | (with_reducible apply h_no) | (with_reducible apply h_for) | (with_reducible apply h_it) | (with_reducible apply h_c) | (with_reducible apply h_add) | (with_reducible apply h_sub) | (with_reducible apply h_negI) | (with_reducible apply h_wB) | (with_reducible apply h_w1) | (with_reducible apply h_w2) | (with_reducible apply h_run) | ((with_reducible apply h_var); (exact rfl)))
    have ew : ∀ Φ, wp (F_z_ways A [.d (.lst (fs.map d2 ++ [d2 (p, max 1 (min p l))]))]) P8 Φ = Φ (.d (.int (ways (fs ++ [(p, max 1 (min p l))])))) P8 := fun Φ => by
      have := f_ways (A := A) (O := P8) (Φ := Φ) hfs2 (by simp; omega) fun r hr => by have := rooms_ok hfs2 r hr; omega
      rw [show fs.map d2 ++ [d2 (p, max 1 (min p l))] = (fs ++ [(p, max 1 (min p l))]).map d2 by simp]
      exact this
    refine h_fn2 (by rfl) ?_
    refine h_eq (ew _) ?_
    repeat (first | (with_reducible apply h_seq) | (with_reducible apply h_set) | (with_reducible apply h_drop) | (with_reducible apply h_ret) | (with_reducible apply h_next) | (with_reducible apply h_ifS) | (with_reducible apply h_if) | (with_reducible apply h_bin) | (with_reducible apply h_test) | (with_reducible apply h_and) | (with_reducible apply h_or) | (with_reducible apply h_not) | (with_reducible apply h_call) | (with_reducible apply h_nil) | (with_reducible apply h_cons) | (with_reducible apply h_tup) | (with_reducible apply h_lst) | (with_reducible apply h_own) | (with_reducible apply h_un) | (with_reducible apply h_meth) | (with_reducible apply h_meth0) | (with_reducible apply h_ice) | (with_reducible apply h_sl) | (with_reducible apply h_no) | (with_reducible apply h_for) | (with_reducible apply h_it) | (with_reducible apply h_c) | (with_reducible apply h_add) | (with_reducible apply h_sub) | (with_reducible apply h_negI) | (with_reducible apply h_wB) | (with_reducible apply h_w1) | (with_reducible apply h_w2) | (with_reducible apply h_run) | ((with_reducible apply h_var); (exact rfl)))
    refine h_eq (wp_le _ _ _ _) ?_
    repeat (first | (with_reducible apply h_seq) | (with_reducible apply h_set) | (with_reducible apply h_drop) | (with_reducible apply h_ret) | (with_reducible apply h_next) | (with_reducible apply h_ifS) | (with_reducible apply h_if) | (with_reducible apply h_bin) | (with_reducible apply h_test) | (with_reducible apply h_and) | (with_reducible apply h_or) | (with_reducible apply h_not) | (with_reducible apply h_call) | (with_reducible apply h_nil) | (with_reducible apply h_cons) | (with_reducible apply h_tup) | (with_reducible apply h_lst) | (with_reducible apply h_own) | (with_reducible apply h_un) | (with_reducible apply h_meth) | (with_reducible apply h_meth0) | (with_reducible apply h_ice) | (with_reducible apply h_sl) | (with_reducible apply h_no) | (with_reducible apply h_for) | (with_reducible apply h_it) | (with_reducible apply h_c) | (with_reducible apply h_add) | (with_reducible apply h_sub) | (with_reducible apply h_negI) | (with_reducible apply h_wB) | (with_reducible apply h_w1) | (with_reducible apply h_w2) | (with_reducible apply h_run) | ((with_reducible apply h_var); (exact rfl)))
    by_cases hw : ways (fs ++ [(p, max 1 (min p l))]) ≤ 120
    · rw [if_pos (decide_eq_true hw)]
      repeat (first | (with_reducible apply h_seq) | (with_reducible apply h_set) | (with_reducible apply h_drop) | (with_reducible apply h_ret) | (with_reducible apply h_next) | (with_reducible apply h_ifS) | (with_reducible apply h_if) | (with_reducible apply h_bin) | (with_reducible apply h_test) | (with_reducible apply h_and) | (with_reducible apply h_or) | (with_reducible apply h_not) | (with_reducible apply h_call) | (with_reducible apply h_nil) | (with_reducible apply h_cons) | (with_reducible apply h_tup) | (with_reducible apply h_lst) | (with_reducible apply h_own) | (with_reducible apply h_un) | (with_reducible apply h_meth) | (with_reducible apply h_meth0) | (with_reducible apply h_ice) | (with_reducible apply h_sl) | (with_reducible apply h_no) | (with_reducible apply h_for) | (with_reducible apply h_it) | (with_reducible apply h_c) | (with_reducible apply h_add) | (with_reducible apply h_sub) | (with_reducible apply h_negI) | (with_reducible apply h_wB) | (with_reducible apply h_w1) | (with_reducible apply h_w2) | (with_reducible apply h_run) | ((with_reducible apply h_var); (exact rfl)))
      refine h_eq (wp_isL (wL_own hf8) _) ?_
      repeat (first | (with_reducible apply h_seq) | (with_reducible apply h_set) | (with_reducible apply h_drop) | (with_reducible apply h_ret) | (with_reducible apply h_next) | (with_reducible apply h_ifS) | (with_reducible apply h_if) | (with_reducible apply h_bin) | (with_reducible apply h_test) | (with_reducible apply h_and) | (with_reducible apply h_or) | (with_reducible apply h_not) | (with_reducible apply h_call) | (with_reducible apply h_nil) | (with_reducible apply h_cons) | (with_reducible apply h_tup) | (with_reducible apply h_lst) | (with_reducible apply h_own) | (with_reducible apply h_un) | (with_reducible apply h_meth) | (with_reducible apply h_meth0) | (with_reducible apply h_ice) | (with_reducible apply h_sl) | (with_reducible apply h_no) | (with_reducible apply h_for) | (with_reducible apply h_it) | (with_reducible apply h_c) | (with_reducible apply h_add) | (with_reducible apply h_sub) | (with_reducible apply h_negI) | (with_reducible apply h_wB) | (with_reducible apply h_w1) | (with_reducible apply h_w2) | (with_reducible apply h_run) | ((with_reducible apply h_var); (exact rfl)))
      refine h_eq (wp_app rfl hf8 (by simp; omega) _) ?_
      have hPl : P.length < P8.length := (List.getElem?_eq_some_iff.mp hf8).1
      refine ⟨fs ++ [(p, max 1 (min p l))], ⟨hfs2, hw⟩, by simp; omega, ⟨R8.tp.setx hkP _, by simp; omega, fun i h1 h2 h3 => by rw [List.getElem?_set_ne (by omega)]; exact R8.at_ i h1 h2 h3⟩, by rw [List.getElem?_set_self hPl]; simp, _, _, _, rfl⟩
    · rw [if_neg (by simpa using hw)]
      repeat (first | (with_reducible apply h_seq) | (with_reducible apply h_set) | (with_reducible apply h_drop) | (with_reducible apply h_ret) | (with_reducible apply h_next) | (with_reducible apply h_ifS) | (with_reducible apply h_if) | (with_reducible apply h_bin) | (with_reducible apply h_test) | (with_reducible apply h_and) | (with_reducible apply h_or) | (with_reducible apply h_not) | (with_reducible apply h_call) | (with_reducible apply h_nil) | (with_reducible apply h_cons) | (with_reducible apply h_tup) | (with_reducible apply h_lst) | (with_reducible apply h_own) | (with_reducible apply h_un) | (with_reducible apply h_meth) | (with_reducible apply h_meth0) | (with_reducible apply h_ice) | (with_reducible apply h_sl) | (with_reducible apply h_no) | (with_reducible apply h_for) | (with_reducible apply h_it) | (with_reducible apply h_c) | (with_reducible apply h_add) | (with_reducible apply h_sub) | (with_reducible apply h_negI) | (with_reducible apply h_wB) | (with_reducible apply h_w1) | (with_reducible apply h_w2) | (with_reducible apply h_run) | ((with_reducible apply h_var); (exact rfl)))
      exact ⟨fs, hfs, by simp; omega, R8, hf8, _, _, _, rfl⟩
  · rintro Γ P' ⟨fs, hfs, hfl, R, hf, a, b, c, rfl⟩
    repeat (first | (with_reducible apply h_seq) | (with_reducible apply h_set) | (with_reducible apply h_drop) | (with_reducible apply h_ret) | (with_reducible apply h_next) | (with_reducible apply h_ifS) | (with_reducible apply h_if) | (with_reducible apply h_bin) | (with_reducible apply h_test) | (with_reducible apply h_and) | (with_reducible apply h_or) | (with_reducible apply h_not) | (with_reducible apply h_call) | (with_reducible apply h_nil) | (with_reducible apply h_cons) | (with_reducible apply h_tup) | (with_reducible apply h_lst) | (with_reducible apply h_own) | (with_reducible apply h_un) | (with_reducible apply h_meth) | (with_reducible apply h_meth0) | (with_reducible apply h_ice) | (with_reducible apply h_sl) | (with_reducible apply h_no) | (with_reducible apply h_for) | (with_reducible apply h_it) | (with_reducible apply h_c) | (with_reducible apply h_add) | (with_reducible apply h_sub) | (with_reducible apply h_negI) | (with_reducible apply h_wB) | (with_reducible apply h_w1) | (with_reducible apply h_w2) | (with_reducible apply h_run) | ((with_reducible apply h_var); (exact rfl)))
    refine h_mkL rfl (by simp) ?_
    refine h_eq (wp_ne_nil (wQ_own hf) (good_d2 fs) _) ?_
    repeat (first | (with_reducible apply h_seq) | (with_reducible apply h_set) | (with_reducible apply h_drop) | (with_reducible apply h_ret) | (with_reducible apply h_next) | (with_reducible apply h_ifS) | (with_reducible apply h_if) | (with_reducible apply h_bin) | (with_reducible apply h_test) | (with_reducible apply h_and) | (with_reducible apply h_or) | (with_reducible apply h_not) | (with_reducible apply h_call) | (with_reducible apply h_nil) | (with_reducible apply h_cons) | (with_reducible apply h_tup) | (with_reducible apply h_lst) | (with_reducible apply h_own) | (with_reducible apply h_un) | (with_reducible apply h_meth) | (with_reducible apply h_meth0) | (with_reducible apply h_ice) | (with_reducible apply h_sl) | (with_reducible apply h_no) | (with_reducible apply h_for) | (with_reducible apply h_it) | (with_reducible apply h_c) | (with_reducible apply h_add) | (with_reducible apply h_sub) | (with_reducible apply h_negI) | (with_reducible apply h_wB) | (with_reducible apply h_w1) | (with_reducible apply h_w2) | (with_reducible apply h_run) | ((with_reducible apply h_var); (exact rfl)))
    have hfl2 : fs.length ≤ 4 := by simp at hfl; omega
    cases fs with
    | nil =>
      rw [if_neg (by simp)]
      repeat (first | (with_reducible apply h_seq) | (with_reducible apply h_set) | (with_reducible apply h_drop) | (with_reducible apply h_ret) | (with_reducible apply h_next) | (with_reducible apply h_ifS) | (with_reducible apply h_if) | (with_reducible apply h_bin) | (with_reducible apply h_test) | (with_reducible apply h_and) | (with_reducible apply h_or) | (with_reducible apply h_not) | (with_reducible apply h_call) | (with_reducible apply h_nil) | (with_reducible apply h_cons) | (with_reducible apply h_tup) | (with_reducible apply h_lst) | (with_reducible apply h_own) | (with_reducible apply h_un) | (with_reducible apply h_meth) | (with_reducible apply h_meth0) | (with_reducible apply h_ice) | (with_reducible apply h_sl) | (with_reducible apply h_no) | (with_reducible apply h_for) | (with_reducible apply h_it) | (with_reducible apply h_c) | (with_reducible apply h_add) | (with_reducible apply h_sub) | (with_reducible apply h_negI) | (with_reducible apply h_wB) | (with_reducible apply h_w1) | (with_reducible apply h_w2) | (with_reducible apply h_run) | ((with_reducible apply h_var); (exact rfl)))
      refine h_mkT rfl (by simp) ?_
      repeat (first | (with_reducible apply h_seq) | (with_reducible apply h_set) | (with_reducible apply h_drop) | (with_reducible apply h_ret) | (with_reducible apply h_next) | (with_reducible apply h_ifS) | (with_reducible apply h_if) | (with_reducible apply h_bin) | (with_reducible apply h_test) | (with_reducible apply h_and) | (with_reducible apply h_or) | (with_reducible apply h_not) | (with_reducible apply h_call) | (with_reducible apply h_nil) | (with_reducible apply h_cons) | (with_reducible apply h_tup) | (with_reducible apply h_lst) | (with_reducible apply h_own) | (with_reducible apply h_un) | (with_reducible apply h_meth) | (with_reducible apply h_meth0) | (with_reducible apply h_ice) | (with_reducible apply h_sl) | (with_reducible apply h_no) | (with_reducible apply h_for) | (with_reducible apply h_it) | (with_reducible apply h_c) | (with_reducible apply h_add) | (with_reducible apply h_sub) | (with_reducible apply h_negI) | (with_reducible apply h_wB) | (with_reducible apply h_w1) | (with_reducible apply h_w2) | (with_reducible apply h_run) | ((with_reducible apply h_var); (exact rfl)))
      refine h_mkL rfl (by simp) ?_
      obtain ⟨T', F'⟩ := R.take hkP
      exact ⟨[(base, 1)], ⟨fun q hq => by rw [List.mem_singleton.mp hq]; exact ⟨⟨hb1, by show base ≤ 1000000000000; omega⟩, Int.le_refl _, hb1⟩, by show (1 : Int) ≤ 120; decide⟩, by simp, by simp, rfl, T', F'⟩
    | cons s0 fs =>
      rw [if_pos (by simp)]
      repeat (first | (with_reducible apply h_seq) | (with_reducible apply h_set) | (with_reducible apply h_drop) | (with_reducible apply h_ret) | (with_reducible apply h_next) | (with_reducible apply h_ifS) | (with_reducible apply h_if) | (with_reducible apply h_bin) | (with_reducible apply h_test) | (with_reducible apply h_and) | (with_reducible apply h_or) | (with_reducible apply h_not) | (with_reducible apply h_call) | (with_reducible apply h_nil) | (with_reducible apply h_cons) | (with_reducible apply h_tup) | (with_reducible apply h_lst) | (with_reducible apply h_own) | (with_reducible apply h_un) | (with_reducible apply h_meth) | (with_reducible apply h_meth0) | (with_reducible apply h_ice) | (with_reducible apply h_sl) | (with_reducible apply h_no) | (with_reducible apply h_for) | (with_reducible apply h_it) | (with_reducible apply h_c) | (with_reducible apply h_add) | (with_reducible apply h_sub) | (with_reducible apply h_negI) | (with_reducible apply h_wB) | (with_reducible apply h_w1) | (with_reducible apply h_w2) | (with_reducible apply h_run) | ((with_reducible apply h_var); (exact rfl)))
      refine h_eq (wp_ice hf _) ?_
      have hPl : P.length < P'.length := (List.getElem?_eq_some_iff.mp hf).1
      have R2 : Res P (P'.set P.length .dead) j k := ⟨R.tp.setx hkP _, by simp; omega, fun i h1 h2 h3 => by rw [List.getElem?_set_ne (by omega)]; exact R.at_ i h1 h2 h3⟩
      obtain ⟨T', F'⟩ := R2.take hkP
      exact ⟨s0 :: fs, hfs, by simp, hfl2, rfl, T', F'⟩
end L74


set_option maxRecDepth 100000
set_option maxHeartbeats 2000000
/-! k74: jobs can be put in one by one exactly if rests that keep apart are there. -/
namespace L74
open PySem L2 VL
theorem g_comm (a b : Int) : G a b = G b a := by
  show ((Int.gcd a b : Nat) : Int) = ((Int.gcd b a : Nat) : Int)
  rw [Int.gcd_comm]
theorem ap_congr {p q p' q' : Int × Int × Int} (h1 : p.2 = p'.2) (h2 : q.2 = q'.2) (h3 : G p.2.1 q.2.1 ∣ (q.1 - p.1) - (q'.1 - p'.1)) : Ap p q = Ap p' q' := by
  have e : Gp p q = Gp p' q' := by
    show (q.1 - p.1) % G p.2.1 q.2.1 = (q'.1 - p'.1) % G p'.2.1 q'.2.1
    rw [← h1, ← h2]
    exact Int.emod_eq_emod_iff_emod_sub_eq_zero.mpr (Int.emod_eq_zero_of_dvd h3)
  show decide (p.2.2 ≤ Gp p q ∧ Gp p q ≤ G p.2.1 q.2.1 - q.2.2) = decide (p'.2.2 ≤ Gp p' q' ∧ Gp p' q' ≤ G p'.2.1 q'.2.1 - q'.2.2)
  rw [e, h1, h2]
theorem crt_row {s0 : Int × Int} {rest : List (Int × Int)} {rs : List Int} (h0 : Siz s0) (hs : ∀ s ∈ rest, Siz s) (hl : rs.length = rest.length + 1) (hr0 : rs[0]? = some 0) (ha : ∀ i j, i < j → j < rs.length → apt (s0 :: rest) rs i j = true) :
    ∀ (zs ys : List (Int × Int)), rest = zs ++ ys → ∃ qs : List ((Int × Int × Int) × Int), qs.map (fun q => q.1) ∈ pin s0 zs ∧ qs.map (fun q => q.1.1 + q.2) = rs.take (zs.length + 1) ∧ ∀ q ∈ qs, ∀ q' ∈ qs, G q.1.2.1 q'.1.2.1 ∣ q.2 - q'.2 := by
  intro zs
  induction hz : zs.length generalizing zs with
  | zero =>
    intro ys e
    have : zs = [] := List.length_eq_zero_iff.mp hz
    subst this
    refine ⟨[((0, s0.1, s0.2), 0)], by simp [pin, pinR], ?_, fun q hq q' hq' => ?_⟩
    · cases rs with
      | nil => simp at hr0
      | cons a l => simp at hr0; subst hr0; simp
    · rw [List.mem_singleton.mp hq, List.mem_singleton.mp hq']; simp
  | succ n ih =>
    intro ys e
    obtain ⟨z1, s, rfl⟩ : ∃ z1 s, zs = z1 ++ [s] := by
      have hne : zs ≠ [] := by intro q; rw [q] at hz; simp at hz
      exact ⟨zs.dropLast, zs.getLast hne, (List.dropLast_concat_getLast hne).symm⟩
    have hz1 : z1.length = n := by simpa using hz
    rw [List.append_assoc] at e
    obtain ⟨qs, hq1, hq2, hq3⟩ := ih z1 hz1 (s :: ys) e
    have hzs : ∀ x ∈ z1, Siz x := fun x hx => hs x (by rw [e]; simp [hx])
    obtain ⟨r1, r2, r3⟩ := pin_row h0 hzs hq1
    have hsS : Siz s := hs s (by rw [e]; simp)
    have hp : 0 < s.1 := by have := hsS.1.1; omega
    have hlen : qs.length = n + 1 := by
      have := congrArg List.length r1
      simpa [hz1] using this
    have hnr : n + 1 < rs.length := by
      have := congrArg List.length e
      simp [hz1] at this; omega
    obtain ⟨r, hr⟩ : ∃ r, rs[n + 1]? = some r := ⟨rs[n + 1], List.getElem?_eq_getElem hnr⟩
    have hper : ∀ q ∈ qs, 0 < q.1.2.1 := fun q hq => by
      have := (r2 q.1 (List.mem_map_of_mem hq)).1.1; omega
    -- a common solution
    obtain ⟨y, _, hy⟩ := crt (p := s.1) hp (qs.map fun q => (q.1.2.1, q.2)) 1 0 (by decide) (fun q hq => by
      obtain ⟨x, hx, rfl⟩ := List.mem_map.mp hq
      exact hper x hx) (fun q hq => Int.dvd_trans (g_dvd_left 1 _) (Int.one_dvd _)) (by
      refine List.pairwise_map.mpr ?_
      refine List.pairwise_iff_getElem.mpr fun i j hi hj _ => ?_
      have hd := hq3 qs[i] (List.getElem_mem hi) qs[j] (List.getElem_mem hj)
      exact Int.dvd_trans (dvd_g (Int.dvd_trans (g_dvd_left _ _) (g_dvd_right _ _)) (Int.dvd_trans (g_dvd_right _ _) (g_dvd_right _ _))) hd)
    have hy : ∀ q ∈ qs, G s.1 q.1.2.1 ∣ y - q.2 := fun q hq => hy (q.1.2.1, q.2) (List.mem_map.mpr ⟨q, hq, rfl⟩)
    have hmp : ∀ m ∈ per (qs.map fun q => q.1), 0 < m := per_pos r2
    have hR := roomL_pos (p := s.1) hmp
    have hRd : ∀ q ∈ qs, G s.1 q.1.2.1 ∣ roomL s.1 (per (qs.map fun q => q.1)) := fun q hq => dvd_roomL hmp _ (by
      show _ ∈ (qs.map fun q => q.1).map fun j => j.2.1
      rw [List.map_map]; exact List.mem_map.mpr ⟨q, hq, rfl⟩)
    obtain ⟨R, hRR⟩ : ∃ R, roomL s.1 (per (qs.map fun q => q.1)) = R := ⟨_, rfl⟩
    rw [hRR] at hR hRd
    have e1 := Int.emod_add_mul_ediv (r - y) R
    have n0 := Int.emod_nonneg (r - y) (show R ≠ 0 by omega)
    have n1 := Int.emod_lt_of_pos (r - y) hR
    obtain ⟨r', hr'⟩ : ∃ r', (r - y) % R = r' := ⟨_, rfl⟩
    rw [hr'] at e1 n0 n1
    -- the new shift
    have hd : ∀ q ∈ qs, G s.1 q.1.2.1 ∣ (r - r') - q.2 := fun q hq => by
      have : (r - r') - q.2 = R * ((r - y) / R) + (y - q.2) := by omega
      rw [this]
      exact Int.dvd_add (Int.dvd_trans (hRd q hq) (Int.dvd_mul_right _ _)) (hy q hq)
    refine ⟨qs ++ [((r', s.1, s.2), r - r')], ?_, ?_, fun q hq q' hq' => ?_⟩
    · rw [pin_snoc, List.map_append]
      refine List.mem_flatMap.mpr ⟨_, hq1, ?_⟩
      unfold grow
      refine List.mem_map.mpr ⟨r', ?_, rfl⟩
      unfold freeOf
      refine List.mem_map.mpr ⟨r'.toNat, List.mem_filter.mpr ⟨List.mem_range.mpr (by rw [hRR]; omega), ?_⟩, by omega⟩
      unfold freeOk
      refine List.all_eq_true.mpr fun j hj => ?_
      obtain ⟨q, hq, rfl⟩ := List.mem_map.mp hj
      obtain ⟨k, hk, hkq⟩ := List.mem_iff_getElem.mp hq
      have hap := ha k (n + 1) (by omega) hnr
      have hrk : rs[k]? = some (q.1.1 + q.2) := by
        have h1 : (rs.take (n + 1))[k]? = some (q.1.1 + q.2) := by
          rw [← hq2, List.getElem?_map, List.getElem?_eq_getElem hk, hkq]; rfl
        rwa [List.getElem?_take_of_lt (by omega)] at h1
      have hsk : (s0 :: rest)[k]? = some (q.1.2.1, q.1.2.2) := by
        have h1 : (s0 :: z1)[k]? = some (q.1.2.1, q.1.2.2) := by
          rw [← r1]
          show ((qs.map fun q => q.1).map fun j => (j.2.1, j.2.2))[k]? = _
          rw [List.map_map, List.getElem?_map, List.getElem?_eq_getElem hk, hkq]; rfl
        rw [e]
        have : s0 :: (z1 ++ (s :: ys)) = (s0 :: z1) ++ (s :: ys) := rfl
        rw [show z1 ++ ([s] ++ ys) = z1 ++ (s :: ys) by simp, this, List.getElem?_append_left (List.getElem?_eq_some_iff.mp h1).1]
        exact h1
      have hsn : (s0 :: rest)[n + 1]? = some s := by
        rw [e, List.getElem?_cons_succ, ← hz1, List.getElem?_append_right (Nat.le_refl _)]; simp
      unfold apt at hap
      rw [hrk, hsk, hr, hsn] at hap
      rw [← hap]
      have e2 : ((r'.toNat : Nat) : Int) = r' := by omega
      rw [e2]
      refine ap_congr rfl rfl ?_
      show G q.1.2.1 s.1 ∣ (r' - q.1.1) - (r - (q.1.1 + q.2))
      have : (r' - q.1.1) - (r - (q.1.1 + q.2)) = -((r - r') - q.2) := by omega
      rw [this, g_comm]
      exact Int.dvd_neg.mpr (hd q hq)
    · have e3 : rs.take (n + 1 + 1) = rs.take (n + 1) ++ [r] := by
        rw [List.take_succ, hr]; rfl
      rw [e3, List.map_append, hq2]
      simp
      omega
    · rcases List.mem_append.mp hq with hq | hq <;> rcases List.mem_append.mp hq' with hq' | hq'
      · exact hq3 q hq q' hq'
      · rw [List.mem_singleton.mp hq']
        have := hd q hq
        rw [g_comm]
        have e2 : q.2 - (r - r') = -((r - r') - q.2) := by omega
        show G s.1 q.1.2.1 ∣ q.2 - (r - r')
        rw [e2]; exact Int.dvd_neg.mpr this
      · rw [List.mem_singleton.mp hq]
        exact hd q' hq'
      · rw [List.mem_singleton.mp hq, List.mem_singleton.mp hq']; simp
theorem apt_pre {ss : List (Int × Int)} {r0 : List Int} {r : Int} {i j : Nat} (hi : i < r0.length) (hj : j < r0.length) : apt ss (r0 ++ [r]) i j = apt ss r0 i j := by
  unfold apt
  rw [List.getElem?_append_left hi, List.getElem?_append_left hj]
theorem lvl_ok (ss : List (Int × Int)) : ∀ (cs : List Int) (rs : List Int), rs ∈ lvl ss cs → rs[0]? = some 0 ∧ ∀ i j, i < j → j + 1 < rs.length → apt ss rs i j = true
  | [], rs, h => by
    have : rs = [0] := by simpa [lvl] using h
    subst this
    exact ⟨rfl, fun i j h1 h2 => by simp at h2⟩
  | c :: cs, rs, h => by
    have hlen := lvl_len ss (c :: cs) rs h
    unfold lvl at h
    obtain ⟨r0, h1, h2⟩ := List.mem_flatMap.mp h
    obtain ⟨h3, h4⟩ := List.mem_filter.mp h1
    obtain ⟨k1, k2⟩ := lvl_ok ss cs r0 h3
    have hl0 := lvl_len ss cs r0 h3
    unfold more at h2
    obtain ⟨r, _, rfl⟩ := List.mem_map.mp h2
    refine ⟨by rw [List.getElem?_append_left (by omega)]; exact k1, fun i j h5 h6 => ?_⟩
    have h6 : j < r0.length := by simpa using h6
    rw [apt_pre (by omega) h6]
    by_cases hj : j + 1 < r0.length
    · exact k2 i j h5 hj
    · have : j = r0.length - 1 := by omega
      subst this
      exact fineAt_iff.mp h4 i h5
theorem fine_ok {ss : List (Int × Int)} {cs : List Int} {rs : List Int} (h : rs ∈ fines ss cs) : rs.length = cs.length + 1 ∧ rs[0]? = some 0 ∧ ∀ i j, i < j → j < rs.length → apt ss rs i j = true := by
  obtain ⟨h1, h2⟩ := List.mem_filter.mp h
  obtain ⟨k1, k2⟩ := lvl_ok ss cs.reverse rs h1
  refine ⟨lvs_one ss cs rs h1, k1, fun i j h3 h4 => ?_⟩
  by_cases hj : j + 1 < rs.length
  · exact k2 i j h3 hj
  · have : j = rs.length - 1 := by omega
    subst this
    exact fineAt_iff.mp h2 i h3
theorem allAp_iff {ss : List (Int × Int)} {rs : List Int} : allAp ss rs = true ↔ ∀ i j, i < j → j < rs.length → apt ss rs i j = true := by
  unfold allAp
  rw [List.all_eq_true]
  refine ⟨fun h i j h1 h2 => fineAt_iff.mp (h j (by simpa using h2)) i h1, fun h j hj => fineAt_iff.mpr fun i hi => h i j hi (by simpa using hj)⟩
theorem fr_ok (ss : List (Int × Int)) : ∀ (cs : List Int) (rs : List Int), rs ∈ fr ss cs → rs[0]? = some 0 ∧ allAp ss rs = true
  | [], rs, h => by
    have : rs = [0] := by simpa [fr] using h
    subst this
    exact ⟨rfl, allAp_iff.mpr fun i j h1 h2 => by simp at h2; omega⟩
  | c :: cs, rs, h => by
    unfold fr at h
    obtain ⟨h1, h2⟩ := List.mem_filter.mp h
    obtain ⟨r0, h3, h4⟩ := List.mem_flatMap.mp h1
    have hl0 := fr_len ss cs r0 h3
    have k1 := (fr_ok ss cs r0 h3).1
    unfold more at h4
    obtain ⟨r, _, rfl⟩ := List.mem_map.mp h4
    exact ⟨by rw [List.getElem?_append_left (by omega)]; exact k1, h2⟩
theorem row_apt {ss : List (Int × Int)} {row : List (Int × Int × Int)} {ys : List (Int × Int)} (e : ss = szs row ++ ys) (hp : row.Pairwise (fun i j => Ap i j = true)) {i j : Nat} (h1 : i < j) (h2 : j < row.length) : apt ss (row.map fun q => q.1) i j = true := by
  have hi : i < row.length := by omega
  have g : ∀ k (hk : k < row.length), ss[k]? = some ((row[k]).2.1, (row[k]).2.2) := fun k hk => by
    rw [e, List.getElem?_append_left (by simpa using hk)]
    show (row.map fun j => (j.2.1, j.2.2))[k]? = _
    rw [List.getElem?_map, List.getElem?_eq_getElem hk]; rfl
  have g2 : ∀ k (hk : k < row.length), (row.map fun q => q.1)[k]? = some (row[k]).1 := fun k hk => by
    rw [List.getElem?_map, List.getElem?_eq_getElem hk]; rfl
  unfold apt
  rw [g i hi, g j h2, g2 i hi, g2 j h2]
  exact List.pairwise_iff_getElem.mp hp i j hi h2 h1
theorem pin_in {s0 : Int × Int} {rest : List (Int × Int)} {cs : List Int} (h0 : Siz s0) (hs : ∀ s ∈ rest, Siz s) (hb : Bnd s0 rest cs) : ∀ (zs ys : List (Int × Int)), rest = zs ++ ys → ∀ row ∈ pin s0 zs, (row.map fun q => q.1) ∈ lvs (s0 :: rest) (cs.take zs.length) ∧ (row.map fun q => q.1) ∈ frs (s0 :: rest) (cs.take zs.length) := by
  intro zs
  induction hz : zs.length generalizing zs with
  | zero =>
    intro ys e row hrow
    have : zs = [] := List.length_eq_zero_iff.mp hz
    subst this
    have : row = [(0, s0.1, s0.2)] := by simpa [pin, pinR] using hrow
    subst this
    simp [lvs, lvl, frs, fr]
  | succ n ih =>
    intro ys e row hrow
    obtain ⟨z1, s, rfl⟩ : ∃ z1 s, zs = z1 ++ [s] := by
      have hne : zs ≠ [] := by intro q; rw [q] at hz; simp at hz
      exact ⟨zs.dropLast, zs.getLast hne, (List.dropLast_concat_getLast hne).symm⟩
    have hz1 : z1.length = n := by simpa using hz
    have hrw := pin_row h0 (fun x hx => hs x (by rw [e]; exact List.mem_append_left _ hx)) hrow
    have epre : s0 :: rest = szs row ++ ys := by rw [hrw.1, e]; rfl
    rw [pin_snoc] at hrow
    obtain ⟨row0, h1, h2⟩ := List.mem_flatMap.mp hrow
    unfold grow at h2
    obtain ⟨r, hr, rfl⟩ := List.mem_map.mp h2
    rw [List.append_assoc] at e
    obtain ⟨i1, i2⟩ := ih z1 hz1 (s :: ys) e row0 h1
    have hzs : ∀ x ∈ z1, Siz x := fun x hx => hs x (by rw [e]; simp [hx])
    have hr0 := pin_row h0 hzs h1
    obtain ⟨us, c, vs, e2, e3, e4⟩ := hb z1 s ys e
    obtain ⟨f1, f2, _⟩ := free_mem hr
    have hrc : r < c := by
      have : roomL s.1 (per row0) ≤ c := by rw [per_szs, hr0.1]; exact e4
      omega
    have e5 : cs.take (n + 1) = cs.take n ++ [c] := by
      rw [e2]
      have : n = us.length := by omega
      subst this
      rw [List.take_length_add_append]
      simp
    have hm : ((row0 ++ [(r, s.1, s.2)]).map fun q => q.1) ∈ more c (row0.map fun q => q.1) := by
      unfold more
      refine List.mem_map.mpr ⟨r.toNat, List.mem_range.mpr (by omega), ?_⟩
      have : ((r.toNat : Nat) : Int) = r := by omega
      rw [this]; simp
    have epre0 : s0 :: rest = szs row0 ++ (s :: ys) := by rw [hr0.1, e]; rfl
    rw [e5, lvs_snoc, fr_snoc]
    refine ⟨List.mem_flatMap.mpr ⟨_, List.mem_filter.mpr ⟨i1, ?_⟩, hm⟩, List.mem_filter.mpr ⟨List.mem_flatMap.mpr ⟨_, i2, hm⟩, ?_⟩⟩
    · refine fineAt_iff.mpr fun i hi => ?_
      rw [List.length_map] at hi ⊢
      exact row_apt epre0 hr0.2.2 hi (by omega)
    · refine allAp_iff.mpr fun i j h3 h4 => row_apt epre hrw.2.2 h3 (by simpa using h4)
theorem rests_iff {s0 : Int × Int} {rest : List (Int × Int)} {cs : List Int} (h0 : Siz s0) (hs : ∀ s ∈ rest, Siz s) (hb : Bnd s0 rest cs) (hl : cs.length = rest.length) :
    (pin s0 rest = [] ↔ fines (s0 :: rest) cs = []) ∧ (pin s0 rest = [] ↔ frs (s0 :: rest) cs = []) := by
  have up : ∀ rs : List Int, rs.length = rest.length + 1 → rs[0]? = some 0 → (∀ i j, i < j → j < rs.length → apt (s0 :: rest) rs i j = true) → pin s0 rest ≠ [] := fun rs h1 h2 h3 => by
    obtain ⟨qs, hq, _⟩ := crt_row h0 hs h1 h2 h3 rest [] (by simp)
    intro z
    rw [z] at hq; cases hq
  have etake : cs.take rest.length = cs := by rw [← hl]; simp
  have down : pin s0 rest ≠ [] → fines (s0 :: rest) cs ≠ [] ∧ frs (s0 :: rest) cs ≠ [] := fun z => by
    obtain ⟨row, hrow⟩ := List.exists_mem_of_ne_nil _ z
    obtain ⟨g1, g2⟩ := pin_in h0 hs hb rest [] (by simp) row hrow
    rw [etake] at g1 g2
    have hr := pin_row h0 hs hrow
    have epre : s0 :: rest = szs row ++ [] := by rw [hr.1]; simp
    refine ⟨List.ne_nil_of_mem (List.mem_filter.mpr ⟨g1, fineAt_iff.mpr fun i hi => ?_⟩), List.ne_nil_of_mem g2⟩
    rw [List.length_map] at hi ⊢
    exact row_apt epre hr.2.2 hi (by omega)
  refine ⟨⟨fun z => ?_, fun z => ?_⟩, fun z => ?_, fun z => ?_⟩
  · by_cases q : fines (s0 :: rest) cs = []
    · exact q
    · obtain ⟨rs, hrs⟩ := List.exists_mem_of_ne_nil _ q
      obtain ⟨k1, k2, k3⟩ := fine_ok hrs
      exact absurd z (up rs (by omega) k2 k3)
  · by_cases q : pin s0 rest = []
    · exact q
    · exact absurd z (down q).1
  · by_cases q : frs (s0 :: rest) cs = []
    · exact q
    · obtain ⟨rs, hrs⟩ := List.exists_mem_of_ne_nil _ q
      have k1 := frs_one _ _ rs hrs
      obtain ⟨k2, k3⟩ := fr_ok _ cs.reverse rs hrs
      exact absurd z (up rs (by omega) k2 (allAp_iff.mp k3))
  · by_cases q : pin s0 rest = []
    · exact q
    · exact absurd z (down q).2
/-! ### the rooms bound what is put in -/
theorem dvd_roomAt {p : Int} {i : Nat} : ∀ (qs : List ((Int × Int) × Nat)) (a : Int), (∀ q ∈ qs, 0 < q.1.1) → 0 < a → a ∣ qs.foldl (roomStep p i) a ∧ ∀ q ∈ qs, q.2 ≠ i → G p q.1.1 ∣ qs.foldl (roomStep p i) a
  | [], a, _, _ => ⟨Int.dvd_refl a, fun q hq => by cases hq⟩
  | q :: qs, a, h, ha => by
    have hg := g_pos (a := p) (h q List.mem_cons_self)
    have hst : 0 < roomStep p i a q := by
      unfold roomStep; split
      · exact ha
      · exact lc_pos ha hg
    obtain ⟨h1, h2⟩ := dvd_roomAt (p := p) (i := i) qs (roomStep p i a q) (fun r hr => h r (List.mem_cons_of_mem _ hr)) hst
    have h3 : a ∣ roomStep p i a q := by
      unfold roomStep; split
      · exact Int.dvd_refl a
      · exact dvd_lc_left ha hg
    refine ⟨Int.dvd_trans h3 h1, fun r hr hne => ?_⟩
    rcases List.mem_cons.mp hr with rfl | hr
    · refine Int.dvd_trans ?_ h1
      unfold roomStep
      rw [if_neg hne]
      exact dvd_lc_right ha hg
    · exact h2 r hr hne
theorem bnd_rooms {s0 : Int × Int} {rest : List (Int × Int)} (h : ∀ p ∈ s0 :: rest, Siz p) : Bnd s0 rest ((rooms (s0 :: rest)).drop 1) := by
  intro zs s ys e
  have hlen : (rooms (s0 :: rest)).length = rest.length + 1 := by unfold rooms; simp
  have hget : (rooms (s0 :: rest))[zs.length + 1]? = some (roomAt (s0 :: rest) (zs.length + 1) s.1) := by
    unfold rooms
    rw [List.getElem?_map, List.getElem?_zipIdx]
    have : (s0 :: rest)[zs.length + 1]? = some s := by rw [e, List.getElem?_cons_succ, List.getElem?_append_right (Nat.le_refl _)]; simp
    rw [this]; simp
  have hk : zs.length < ((rooms (s0 :: rest)).drop 1).length := by
    rw [List.length_drop, hlen, e]; simp
  have hget2 : ((rooms (s0 :: rest)).drop 1)[zs.length]? = some (roomAt (s0 :: rest) (zs.length + 1) s.1) := by
    rw [List.getElem?_drop, Nat.add_comm]; exact hget
  refine ⟨((rooms (s0 :: rest)).drop 1).take zs.length, roomAt (s0 :: rest) (zs.length + 1) s.1, ((rooms (s0 :: rest)).drop 1).drop (zs.length + 1), ?_, by rw [List.length_take]; omega, ?_⟩
  · have e1 := (List.getElem?_eq_some_iff.mp hget2).2
    rw [← e1, List.getElem_cons_drop, List.take_append_drop]
  · have hz : ∀ x ∈ (s0 :: rest).zipIdx, 0 < x.1.1 := fun x hx => by have := (h x.1 (zip_mem hx)).1.1; omega
    have hp : 0 < roomAt (s0 :: rest) (zs.length + 1) s.1 := room_pos hz (by decide)
    refine Int.le_of_dvd hp (roomL_dvd (fun m hm => ?_) fun m hm => ?_)
    · obtain ⟨x, hx, rfl⟩ := List.mem_map.mp hm
      have hx2 : x ∈ s0 :: rest := by
        rcases List.mem_cons.mp hx with rfl | hx
        · exact List.mem_cons_self
        · rw [e]; simp [hx]
      have := (h x hx2).1.1; omega
    · obtain ⟨x, hx, rfl⟩ := List.mem_map.mp hm
      obtain ⟨k, hk2, hkx⟩ := List.mem_iff_getElem.mp hx
      have hk3 : k < zs.length + 1 := by simpa using hk2
      have hgx : (s0 :: rest)[k]? = some x := by
        rw [e]
        have : s0 :: (zs ++ s :: ys) = (s0 :: zs) ++ (s :: ys) := rfl
        rw [this, List.getElem?_append_left hk2, List.getElem?_eq_getElem hk2, hkx]
      exact (dvd_roomAt (p := s.1) (i := zs.length + 1) _ 1 hz (by decide)).2 (x, k) (List.mem_zipIdx_iff_getElem?.mpr hgx) (by show k ≠ zs.length + 1; omega)
end L74


set_option maxRecDepth 100000
set_option maxHeartbeats 2000000
/-! k74: few ways; the tape begun. -/
namespace L74
open PySem L2 VL
variable {A : Str → Addr} {O : Sto} {Φ : W → Sto → Prop}
theorem fold_ge : ∀ (cs : List Int) (a : Int), (∀ c ∈ cs, 1 ≤ c) → 1 ≤ a → a ≤ cs.foldl (fun a b => a * b) a
  | [], a, _, _ => Int.le_refl a
  | c :: cs, a, h, ha => by
    have hc := h c List.mem_cons_self
    have h1 : a * 1 ≤ a * c := Int.mul_le_mul_of_nonneg_left hc (by omega)
    have := fold_ge cs (a * c) (fun d hd => h d (List.mem_cons_of_mem _ hd)) (by omega)
    show a ≤ cs.foldl (fun a b => a * b) (a * c)
    omega
theorem fold_pn : ∀ (cs : List Int) (a : Nat), (∀ c ∈ cs, 1 ≤ c) → (((cs.map Int.toNat).foldl (fun a b => a * b) a : Nat) : Int) = cs.foldl (fun a b => a * b) (a : Int)
  | [], a, _ => rfl
  | c :: cs, a, h => by
    have hc := h c List.mem_cons_self
    have ih := fold_pn cs (a * c.toNat) fun d hd => h d (List.mem_cons_of_mem _ hd)
    have e : ((a * c.toNat : Nat) : Int) = (a : Int) * c := by
      rw [Int.natCast_mul]; congr 1; omega
    rw [e] at ih
    exact ih
theorem few_of {cs : List Int} (h : ∀ c ∈ cs, 1 ≤ c) (hw : cs.foldl (fun a b => a * b) 1 ≤ 120) : Few cs ∧ ∀ c ∈ cs, c ≤ 120 := by
  have key : ∀ zs ys, cs = zs ++ ys → zs.foldl (fun a b => a * b) 1 ≤ (120 : Int) ∧ 1 ≤ zs.foldl (fun a b => a * b) (1 : Int) := fun zs ys e => by
    have h1 := fold_ge zs 1 (fun c hc => h c (by rw [e]; simp [hc])) (by omega)
    have h2 := fold_ge ys (zs.foldl (fun a b => a * b) 1) (fun c hc => h c (by rw [e]; simp [hc])) h1
    rw [e, List.foldl_append] at hw
    omega
  refine ⟨fun zs ys e => ?_, fun c hc => ?_⟩
  · have h1 := fold_pn zs 1 fun c hc => h c (by rw [e]; simp [hc])
    have := (key zs ys e).1
    show (zs.map Int.toNat).foldl (fun a b => a * b) 1 ≤ 20000
    have h1 : (((zs.map Int.toNat).foldl (fun a b => a * b) 1 : Nat) : Int) = zs.foldl (fun a b => a * b) 1 := h1
    omega
  · obtain ⟨us, vs, e⟩ := List.append_of_mem hc
    have h1 := (key us (c :: vs) e).2
    have h2 := (key (us ++ [c]) vs (by rw [e]; simp)).1
    rw [List.foldl_append] at h2
    have h2 : us.foldl (fun a b => a * b) 1 * c ≤ 120 := h2
    have h3 := h c hc
    have : 1 * c ≤ us.foldl (fun a b => a * b) 1 * c := Int.mul_le_mul_of_nonneg_right h1 (by omega)
    omega
theorem ss_few {ss : List (Int × Int)} (h : SsOk ss) : Few ((rooms ss).drop 1) ∧ ∀ c ∈ (rooms ss).drop 1, 1 ≤ c ∧ c ≤ 120 := by
  have h1 : ∀ c ∈ (rooms ss).drop 1, 1 ≤ c := fun c hc => (rooms_ok h.siz c (List.mem_of_mem_drop hc)).1
  obtain ⟨a, b⟩ := few_of h1 h.ways
  exact ⟨a, fun c hc => ⟨h1 c hc, b c hc⟩⟩
/-! ### the tape -/
def absI (n : Int) : Int := if n < 0 then -n else n
theorem f_begun {ns : List Int} (hl : ns.length ≤ 1000) : wp (F_z_begun A [.d (.scr ns)]) [] fun w P => ∃ j k, w = .own k ∧ Tp P j k := by
  have line := line_big
  unfold F_z_begun d_z_begun
  rw [wp_run]
  refine h_seq ?_
  refine h_set ?_
  rw [wp_lcO, wp_it]
  refine h_var rfl ?_
  rw [wp_wkS]
  refine wp_lc (fun n : Int => .d (.int n)) (fun n => if 10 ^ 18 ≤ absI n then some (.int (absI n - 10 ^ 18)) else none) ns rfl wk_ok (by omega) (fun n _ => ⟨_, by simp; rfl, ?_⟩) ?_
  · refine h_test ?_
    refine h_bin ?_
    refine h_call ?_
    refine h_cons ?_
    refine h_var rfl ?_
    refine h_nil ?_
    refine h_w1 ?_
    show wp (dBin wPow (dC (.int 10)) (dC (.int 18)) _) _ _
    repeat (first | (with_reducible apply h_seq) | (with_reducible apply h_set) | (with_reducible apply h_drop) | (with_reducible apply h_ret) | (with_reducible apply h_next) | (with_reducible apply h_ifS) | (with_reducible apply h_if) | (with_reducible apply h_bin) | (with_reducible apply h_test) | (with_reducible apply h_and) | (with_reducible apply h_or) | (with_reducible apply h_not) | (with_reducible apply h_call) | (with_reducible apply h_nil) | (with_reducible apply h_cons) | (with_reducible apply h_tup) | (with_reducible apply h_lst) | (with_reducible apply h_own) | (with_reducible apply h_un) | (with_reducible apply h_meth) | (with_reducible apply h_meth0) | (with_reducible apply h_ice) | (with_reducible apply h_sl) | (with_reducible apply h_no) | (with_reducible apply h_for) | (with_reducible apply h_it) | (with_reducible apply h_c) | (with_reducible apply h_add) | (with_reducible apply h_sub) | (with_reducible apply h_negI) | (with_reducible apply h_wB) | (with_reducible apply h_w1) | (with_reducible apply h_w2) | (with_reducible apply h_run) | ((with_reducible apply h_var); (exact rfl)))
    refine h_pow (i := 10) ⟨⟨by decide, by decide⟩, by decide, by decide⟩ ?_
    have hge : ∀ (O : Sto) (Φ : W → Sto → Prop), wp (wGe (.d (.int (absI n))) (.d (.int (10 ^ 18)))) O Φ = Φ (.d (.bl (decide (10 ^ 18 ≤ absI n)))) O := fun _ _ => rfl
    refine h_eq (hge _ _) ?_
    refine h_wB ?_
    refine ⟨rfl, ?_⟩
    by_cases hx : 10 ^ 18 ≤ absI n
    · simp only [if_pos hx]
      refine ⟨decide_eq_true hx, ?_⟩
      refine h_bin ?_
      refine h_call ?_
      refine h_cons ?_
      refine h_var rfl ?_
      refine h_nil ?_
      refine h_w1 ?_
      show wp (dBin wPow (dC (.int 10)) (dC (.int 18)) _) _ _
      repeat (first | (with_reducible apply h_seq) | (with_reducible apply h_set) | (with_reducible apply h_drop) | (with_reducible apply h_ret) | (with_reducible apply h_next) | (with_reducible apply h_ifS) | (with_reducible apply h_if) | (with_reducible apply h_bin) | (with_reducible apply h_test) | (with_reducible apply h_and) | (with_reducible apply h_or) | (with_reducible apply h_not) | (with_reducible apply h_call) | (with_reducible apply h_nil) | (with_reducible apply h_cons) | (with_reducible apply h_tup) | (with_reducible apply h_lst) | (with_reducible apply h_own) | (with_reducible apply h_un) | (with_reducible apply h_meth) | (with_reducible apply h_meth0) | (with_reducible apply h_ice) | (with_reducible apply h_sl) | (with_reducible apply h_no) | (with_reducible apply h_for) | (with_reducible apply h_it) | (with_reducible apply h_c) | (with_reducible apply h_add) | (with_reducible apply h_sub) | (with_reducible apply h_negI) | (with_reducible apply h_wB) | (with_reducible apply h_w1) | (with_reducible apply h_w2) | (with_reducible apply h_run) | ((with_reducible apply h_var); (exact rfl)))
      refine h_pow (i := 10) ⟨⟨by decide, by decide⟩, by decide, by decide⟩ ?_
      exact ⟨rfl, rfl⟩
    · simp only [if_neg hx]
      exact decide_eq_false hx
  · obtain ⟨L, hL⟩ : ∃ L : List Int, (ns.filterMap fun n => if 10 ^ 18 ≤ absI n then some (D.int (absI n - 10 ^ 18)) else none) = L.map D.int := by
      clear hl
      induction ns with
      | nil => exact ⟨[], rfl⟩
      | cons n ns ih =>
        obtain ⟨L, hL⟩ := ih
        by_cases hx : 10 ^ 18 ≤ absI n
        · exact ⟨(absI n - 10 ^ 18) :: L, by rw [List.filterMap_cons_some (b := D.int (absI n - 10 ^ 18)) (by simp only [if_pos hx]), hL]; rfl⟩
        · exact ⟨L, by rw [List.filterMap_cons_none (by simp only [if_neg hx]), hL]⟩
    rw [hL]
    refine h_ret ?_
    unfold dDict
    simp only [dVals]
    rw [wp_bind]
    refine h_cons ?_
    refine h_var rfl ?_
    refine h_cons ?_
    refine h_c ?_
    refine h_cons ?_
    rw [wp_lcD, wp_it]
    refine h_var rfl ?_
    rw [wp_wkS]
    refine wp_lc (fun n : Int => .d (.int n)) (fun n => some (.int (absI n))) ns rfl wk_ok (by omega) (fun n _ => ⟨_, by simp; rfl, ?_⟩) ?_
    · refine ⟨rfl, rfl, ?_⟩
      refine h_call ?_
      refine h_cons ?_
      refine h_var rfl ?_
      refine h_nil ?_
      refine h_w1 ?_
      exact ⟨rfl, rfl⟩
    · refine h_cons ?_
      refine h_c ?_
      refine h_nil ?_
      have hc : ns.filterMap (fun n => some (D.int (absI n))) = (ns.map absI).map D.int := by
        rw [List.filterMap_eq_map', List.map_map]; rfl
      rw [hc]
      have e : mkDict ["large", "rest", "cells", "turn"] [.own 0, .d (.int 0), .d (.lst ((ns.map absI).map D.int)), .d (.int 0)] [.lst (L.map D.int)] = .ok (.own 1) [.lst (L.map D.int), tapeD 0 0 (ns.map absI) 0] := by
        unfold mkDict
        rw [if_pos ⟨by decide +kernel, rfl, by decide, rfl⟩]
        rfl
      refine h_at e ?_
      exact ⟨0, 1, rfl, ⟨L, 0, _, 0, rfl, rfl⟩, by decide⟩
end L74


set_option maxRecDepth 100000
set_option maxHeartbeats 2000000
/-! k74: the law's inner bodies. -/
namespace L74
open PySem L2 VL
variable {A : Str → Addr} {O : Sto} {Φ : W → Sto → Prop}
theorem fm_len (f : Int × Int × Int → Bool) : ∀ ls : List (Int × Int × Int), (ls.filterMap fun p => if f p = true then some (D.int 1) else none).length = (ls.filter f).length
  | [] => rfl
  | p :: ls => by
    by_cases h : f p = true
    · rw [List.filterMap_cons_some (b := D.int 1) (by simp only [if_pos h]), List.filter_cons_of_pos h, List.length_cons, List.length_cons, fm_len f ls]
    · rw [List.filterMap_cons_none (by simp only [if_neg h]), List.filter_cons_of_neg h, fm_len f ls]
theorem big_of {m : Int} (h : -100000000000000000000000000000000 ≤ m ∧ m ≤ 100000000000000000000000000000000) : -Big ≤ m ∧ m ≤ Big := by
  have hB : (100000000000000000000000000000000 : Int) ≤ Big := by decide +kernel
  generalize Big = B at hB ⊢
  omega
/-- what is kept while the law runs -/
structure Ok0 (A : Str → Addr) (ns : List Int) (k : Nat) (ls : List (Int × Int × Int)) (Γ : Gam) : Prop where
  ex : ∃ a2 a3 a4 a5 a7 a8 a10 a11 a12, Γ = [some (.d (.scr ns)), some (.own k), a2, a3, a4, a5, some (.d (L3 ls)), a7, a8, some (.d (Tb A (ls.flatMap sgl))), a10, a11, a12]
theorem count_by {F : List W → M W} {P : Sto} {ls : List (Int × Int × Int)} {m : Int} {Γ : Gam} (hl : ls.length ≤ 1000) (h6 : (wipeG Γ [8])[6]? = some (some (.d (L3 ls)))) (h66 : Γ[6]? = some (some (.d (L3 ls)))) (h8 : 8 < Γ.length) (h10 : Γ[10]? = some (some (.d (.int m)))) (hF : ∀ p ∈ ls, ∀ Φ, wp (F [.d (d3 p), .d (.int m)]) P Φ = Φ (.d (.bl (Rn p m))) P) (hw : ∀ w, ((wipeG Γ [8]).set 8 w)[10]? = Γ[10]?) (hw2 : (wipeG Γ [8]).length = Γ.length) {Φ : W → Sto → Prop} (q : Φ (.d (.int ((ls.filter fun p => Rn p m).length : Nat))) P) :
    wp (dCall (w1 wLen) (dCons (dLcD (dIt (dVar 6)) (.nm 8) (dTest (dCall (dFn 2 [] F) (dCons (dVar 8) (dCons (dVar 10) dNil)))) (dC (.int 1)) [8]) dNil) Γ) P Φ := by
  have line := line_big
  refine h_call ?_
  refine h_cons ?_
  rw [wp_lcD, wp_it]
  refine h_var h66 ?_
  rw [wp_wkL]
  refine wp_lc (fun p : Int × Int × Int => .d (d3 p)) (fun p => if Rn p m = true then some (.int 1) else none) ls (by simp) wk_ok (by omega) (fun p hp => ⟨(wipeG Γ [8]).set 8 (some (.d (d3 p))), rfl, ?_⟩) ?_
  · refine h_test ?_
    refine h_call ?_
    refine h_cons ?_
    refine h_var (w := .d (d3 p)) (by rw [List.getElem?_set_self (by omega)]) ?_
    refine h_cons ?_
    refine h_var ((hw _).trans h10) ?_
    refine h_nil ?_
    refine h_fn2 (by rfl) ?_
    refine h_eq (hF p hp _) ?_
    refine h_wB ?_
    refine ⟨rfl, ?_⟩
    cases hx : Rn p m with
    | true => exact ⟨rfl, rfl, rfl⟩
    | false => exact rfl
  · refine h_nil ?_
    refine h_w1 ?_
    rw [wp_lenL, fm_len]
    exact q
theorem b0 {P : Sto} {j k : Nat} (T : Tp P j k) {ns : List Int} {ls : List (Int × Int × Int)} (h : ∀ q ∈ ls, Lng q) (ht : tot ls ≤ 20) (hl : ls.length ≤ 1000) {m : Int} (hm : -10000000000000000000000000000000 ≤ m ∧ m ≤ 10000000000000000000000000000000) {a2 a3 a4 a5 a7 a8 a11 a12 : Option W} :
    wp (B0_law A [some (.d (.scr ns)), some (.own k), a2, a3, a4, a5, some (.d (L3 ls)), a7, a8, some (.d (Tb A (ls.flatMap sgl))), some (.d (.int m)), a11, a12]) P fun r P' => (match r.1 with
      | .nx => Ok0 A ns k ls r.2 ∧ Tp P' j k
      | _ => False) := by
  have line := line_big
  have hj : ∀ x ∈ ls.flatMap sgl, Job x := fun x hx => by
    obtain ⟨p, hp, hx⟩ := List.mem_flatMap.mp hx
    exact sgl_job (h p hp) x hx
  have hmB := big_of (m := m) (by omega)
  unfold B0_law
  refine h_seq ?_
  refine h_set ?_
  refine count_by (m := m) hl rfl rfl (by simp) rfl (fun p hp Φ => f_runs_then (h p hp) hmB) (fun _ => rfl) rfl ?_
  obtain ⟨cnt, hcnt⟩ : ∃ cnt : Int, ((ls.filter fun p => Rn p m).length : Nat) = cnt := ⟨_, rfl⟩
  rw [hcnt]
  refine h_seq ?_
  refine h_ifS ?_
  refine h_or ?_
  refine h_test ?_
  refine h_bin ?_
  refine h_var rfl ?_
  refine count_by (m := m) hl rfl rfl (by simp) rfl (fun p hp Φ => f_busy (h p hp) m) (fun _ => rfl) rfl ?_
  rw [hcnt]
  refine h_eq (wp_neI _ _ _ _) ?_
  refine h_wB ?_
  rw [if_neg (by simp)]
  refine h_test ?_
  refine h_bin ?_
  repeat (first | (with_reducible apply h_seq) | (with_reducible apply h_set) | (with_reducible apply h_drop) | (with_reducible apply h_ret) | (with_reducible apply h_next) | (with_reducible apply h_ifS) | (with_reducible apply h_if) | (with_reducible apply h_bin) | (with_reducible apply h_test) | (with_reducible apply h_and) | (with_reducible apply h_or) | (with_reducible apply h_not) | (with_reducible apply h_call) | (with_reducible apply h_nil) | (with_reducible apply h_cons) | (with_reducible apply h_tup) | (with_reducible apply h_lst) | (with_reducible apply h_own) | (with_reducible apply h_un) | (with_reducible apply h_meth) | (with_reducible apply h_meth0) | (with_reducible apply h_ice) | (with_reducible apply h_sl) | (with_reducible apply h_no) | (with_reducible apply h_for) | (with_reducible apply h_it) | (with_reducible apply h_c) | (with_reducible apply h_add) | (with_reducible apply h_sub) | (with_reducible apply h_negI) | (with_reducible apply h_wB) | (with_reducible apply h_w1) | (with_reducible apply h_w2) | (with_reducible apply h_run) | ((with_reducible apply h_var); (exact rfl)))
  refine h_fn2 (by rfl) ?_
  refine h_eq (f_count_at hj (by unfold tot at ht; omega) hmB) ?_
  repeat (first | (with_reducible apply h_seq) | (with_reducible apply h_set) | (with_reducible apply h_drop) | (with_reducible apply h_ret) | (with_reducible apply h_next) | (with_reducible apply h_ifS) | (with_reducible apply h_if) | (with_reducible apply h_bin) | (with_reducible apply h_test) | (with_reducible apply h_and) | (with_reducible apply h_or) | (with_reducible apply h_not) | (with_reducible apply h_call) | (with_reducible apply h_nil) | (with_reducible apply h_cons) | (with_reducible apply h_tup) | (with_reducible apply h_lst) | (with_reducible apply h_own) | (with_reducible apply h_un) | (with_reducible apply h_meth) | (with_reducible apply h_meth0) | (with_reducible apply h_ice) | (with_reducible apply h_sl) | (with_reducible apply h_no) | (with_reducible apply h_for) | (with_reducible apply h_it) | (with_reducible apply h_c) | (with_reducible apply h_add) | (with_reducible apply h_sub) | (with_reducible apply h_negI) | (with_reducible apply h_wB) | (with_reducible apply h_w1) | (with_reducible apply h_w2) | (with_reducible apply h_run) | ((with_reducible apply h_var); (exact rfl)))
  rw [runs_len h, hcnt]
  refine h_eq (wp_neI _ _ _ _) ?_
  refine h_wB ?_
  rw [if_neg (by simp)]
  repeat (first | (with_reducible apply h_seq) | (with_reducible apply h_set) | (with_reducible apply h_drop) | (with_reducible apply h_ret) | (with_reducible apply h_next) | (with_reducible apply h_ifS) | (with_reducible apply h_if) | (with_reducible apply h_bin) | (with_reducible apply h_test) | (with_reducible apply h_and) | (with_reducible apply h_or) | (with_reducible apply h_not) | (with_reducible apply h_call) | (with_reducible apply h_nil) | (with_reducible apply h_cons) | (with_reducible apply h_tup) | (with_reducible apply h_lst) | (with_reducible apply h_own) | (with_reducible apply h_un) | (with_reducible apply h_meth) | (with_reducible apply h_meth0) | (with_reducible apply h_ice) | (with_reducible apply h_sl) | (with_reducible apply h_no) | (with_reducible apply h_for) | (with_reducible apply h_it) | (with_reducible apply h_c) | (with_reducible apply h_add) | (with_reducible apply h_sub) | (with_reducible apply h_negI) | (with_reducible apply h_wB) | (with_reducible apply h_w1) | (with_reducible apply h_w2) | (with_reducible apply h_run) | ((with_reducible apply h_var); (exact rfl)))
  refine h_pow (i := 10) ⟨⟨by decide, by decide⟩, by decide, by decide⟩ ?_
  repeat (first | (with_reducible apply h_seq) | (with_reducible apply h_set) | (with_reducible apply h_drop) | (with_reducible apply h_ret) | (with_reducible apply h_next) | (with_reducible apply h_ifS) | (with_reducible apply h_if) | (with_reducible apply h_bin) | (with_reducible apply h_test) | (with_reducible apply h_and) | (with_reducible apply h_or) | (with_reducible apply h_not) | (with_reducible apply h_call) | (with_reducible apply h_nil) | (with_reducible apply h_cons) | (with_reducible apply h_tup) | (with_reducible apply h_lst) | (with_reducible apply h_own) | (with_reducible apply h_un) | (with_reducible apply h_meth) | (with_reducible apply h_meth0) | (with_reducible apply h_ice) | (with_reducible apply h_sl) | (with_reducible apply h_no) | (with_reducible apply h_for) | (with_reducible apply h_it) | (with_reducible apply h_c) | (with_reducible apply h_add) | (with_reducible apply h_sub) | (with_reducible apply h_negI) | (with_reducible apply h_wB) | (with_reducible apply h_w1) | (with_reducible apply h_w2) | (with_reducible apply h_run) | ((with_reducible apply h_var); (exact rfl)))
  refine draw_wp T ⟨by decide, lt_far (by have : (10 ^ 13 : Int) ≤ 10 ^ 1000 := by decide +kernel
                                          exact this)⟩ fun n P1 hn1 hn2 T1 F1 => ?_
  have hn2 : n < 10000000000000 := hn2
  repeat (first | (with_reducible apply h_seq) | (with_reducible apply h_set) | (with_reducible apply h_drop) | (with_reducible apply h_ret) | (with_reducible apply h_next) | (with_reducible apply h_ifS) | (with_reducible apply h_if) | (with_reducible apply h_bin) | (with_reducible apply h_test) | (with_reducible apply h_and) | (with_reducible apply h_or) | (with_reducible apply h_not) | (with_reducible apply h_call) | (with_reducible apply h_nil) | (with_reducible apply h_cons) | (with_reducible apply h_tup) | (with_reducible apply h_lst) | (with_reducible apply h_own) | (with_reducible apply h_un) | (with_reducible apply h_meth) | (with_reducible apply h_meth0) | (with_reducible apply h_ice) | (with_reducible apply h_sl) | (with_reducible apply h_no) | (with_reducible apply h_for) | (with_reducible apply h_it) | (with_reducible apply h_c) | (with_reducible apply h_add) | (with_reducible apply h_sub) | (with_reducible apply h_negI) | (with_reducible apply h_wB) | (with_reducible apply h_w1) | (with_reducible apply h_w2) | (with_reducible apply h_run) | ((with_reducible apply h_var); (exact rfl)))
  have hmB2 := big_of (m := m + n) (by omega)
  refine h_fn2 (by rfl) ?_
  refine h_eq (f_total_in hj (by unfold tot at ht; omega) (show m ≤ m + n by omega) hmB hmB2) ?_
  refine h_call ?_
  refine h_cons ?_
  rw [wp_lcD, wp_it]
  refine h_var rfl ?_
  rw [wp_wkL]
  refine wp_lc (fun p : Int × Int × Int => .d (d3 p)) (fun p => some (.int (mb p (m + n + 1 - p.1) - mb p (m - p.1)))) ls (by simp) wk_ok (by omega) (fun p hp => ⟨_, rfl, ?_⟩) ?_
  · refine ⟨rfl, rfl, ?_⟩
    repeat (first | (with_reducible apply h_seq) | (with_reducible apply h_set) | (with_reducible apply h_drop) | (with_reducible apply h_ret) | (with_reducible apply h_next) | (with_reducible apply h_ifS) | (with_reducible apply h_if) | (with_reducible apply h_bin) | (with_reducible apply h_test) | (with_reducible apply h_and) | (with_reducible apply h_or) | (with_reducible apply h_not) | (with_reducible apply h_call) | (with_reducible apply h_nil) | (with_reducible apply h_cons) | (with_reducible apply h_tup) | (with_reducible apply h_lst) | (with_reducible apply h_own) | (with_reducible apply h_un) | (with_reducible apply h_meth) | (with_reducible apply h_meth0) | (with_reducible apply h_ice) | (with_reducible apply h_sl) | (with_reducible apply h_no) | (with_reducible apply h_for) | (with_reducible apply h_it) | (with_reducible apply h_c) | (with_reducible apply h_add) | (with_reducible apply h_sub) | (with_reducible apply h_negI) | (with_reducible apply h_wB) | (with_reducible apply h_w1) | (with_reducible apply h_w2) | (with_reducible apply h_run) | ((with_reducible apply h_var); (exact rfl)))
    refine h_fn2 (by rfl) ?_
    refine h_eq (f_moments_in (h p hp) (show m ≤ m + n by omega) hmB hmB2) ?_
    exact ⟨rfl, rfl⟩
  · refine h_nil ?_
    refine h_w1 ?_
    have e : ls.filterMap (fun p => some (D.int (mb p (m + n + 1 - p.1) - mb p (m - p.1)))) = (ls.map fun p => mb p (m + n + 1 - p.1) - mb p (m - p.1)).map D.int := by
      rw [List.filterMap_eq_map', List.map_map]; rfl
    rw [e]
    refine h_eq (wp_sum _ _) ?_
    rw [all_total h]
    refine h_eq (wp_neI _ _ _ _) ?_
    refine h_wB ?_
    rw [if_neg (by simp)]
    refine h_next ?_
    exact ⟨⟨_, _, _, _, _, _, _, _, _, rfl⟩, T1⟩
end L74


set_option maxRecDepth 100000
set_option maxHeartbeats 2000000
/-! k74: the law's outer bodies. -/
namespace L74
open PySem L2 VL
variable {A : Str → Addr} {O : Sto} {Φ : W → Sto → Prop}
theorem cut_sub {ds : List D} {lo hi : Option Int} {d : D} (h : d ∈ cutD ds lo hi) : d ∈ ds := by
  unfold cutD at h
  exact List.mem_of_mem_drop (List.mem_of_mem_take h)
theorem cut_rows {rows : List (List (Int × Int × Int))} : ∀ {xs : List D}, (∀ d ∈ xs, d ∈ rows.map L3) → ∃ rs : List (List (Int × Int × Int)), xs = rs.map L3 ∧ ∀ r ∈ rs, r ∈ rows
  | [], _ => ⟨[], rfl, fun r hr => by cases hr⟩
  | x :: xs, h => by
    obtain ⟨rs, e, hr⟩ := cut_rows (xs := xs) fun d hd => h d (List.mem_cons_of_mem _ hd)
    obtain ⟨r, hr1, hr2⟩ := List.mem_map.mp (h x List.mem_cons_self)
    refine ⟨r :: rs, by rw [e, ← hr2]; rfl, fun q hq => ?_⟩
    rcases List.mem_cons.mp hq with rfl | hq
    · exact hr1
    · exact hr q hq
theorem pinR_head {s0 : Int × Int} : ∀ (rest : List (Int × Int)) (row : List (Int × Int × Int)), row ∈ pinR s0 rest → ∃ ls, row = (0, s0.1, s0.2) :: ls
  | [], row, h => ⟨[], by simpa [pinR] using h⟩
  | s :: rest, row, h => by
    unfold pinR at h
    obtain ⟨row0, h1, h2⟩ := List.mem_flatMap.mp h
    obtain ⟨r, hr, rfl⟩ := List.mem_map.mp h2
    obtain ⟨ls, rfl⟩ := pinR_head rest row0 h1
    exact ⟨ls ++ [(r, s.1, s.2)], rfl⟩
theorem b4 {P : Sto} {s0 : Int × Int} {rest : List (Int × Int)} (h0 : Siz s0) (hs : ∀ s ∈ rest, Siz s) (hl : rest.length ≤ 3) {row : List (Int × Int × Int)} (h : row ∈ pin s0 rest) {Γ : Gam} (h5 : Γ[5]? = some (some (.d (L3 row)))) : wp (B4_law A Γ) P fun r P' => r = (.nx, Γ) ∧ P' = P := by
  obtain ⟨r1, r2, r3⟩ := pin_row h0 hs h
  obtain ⟨ls, rfl⟩ := pinR_head _ _ h
  have hlen : ((0, s0.1, s0.2) :: ls : List (Int × Int × Int)).length ≤ 4 := by
    have := congrArg List.length r1
    simp at this ⊢; omega
  unfold B4_law
  refine h_ifS ?_
  refine h_or ?_
  refine h_test ?_
  refine h_bin ?_
  refine h_call ?_
  refine h_cons ?_
  refine h_var h5 ?_
  refine h_nil ?_
  refine h_fn2 (by rfl) ?_
  refine h_at (f_clashing r2 (by simp) (by omega) r3) ?_
  refine h_lst ?_
  refine h_nil ?_
  refine h_mkL rfl (by simp) ?_
  refine h_eq (wp_ne_nil rfl rfl _) ?_
  refine h_wB ?_
  rw [if_neg (by simp)]
  refine h_and ?_
  refine h_test ?_
  refine h_bin ?_
  refine h_call ?_
  refine h_cons ?_
  refine h_var h5 ?_
  refine h_nil ?_
  refine h_fn2 (by rfl) ?_
  refine h_eq (f_round2 r2) ?_
  refine h_c ?_
  refine h_eq (wp_le _ _ _ _) ?_
  refine h_wB ?_
  by_cases hz : Rd ((0, s0.1, s0.2) :: ls) ≤ 2000
  · rw [if_pos (decide_eq_true hz)]
    refine h_test ?_
    refine h_bin ?_
    refine h_bin ?_
    refine h_call ?_
    refine h_cons ?_
    refine h_var h5 ?_
    refine h_nil ?_
    refine h_fn2 (by rfl) ?_
    obtain ⟨d, e⟩ := f_most (A := A) (O := P) r2 (by omega) r3 rfl hz
    refine h_at e ?_
    refine h_c ?_
    refine h_eq (wp_ix rfl (atI_0 _ _) _) ?_
    refine h_c ?_
    refine h_eq (wp_neI _ _ _ _) ?_
    refine h_wB ?_
    rw [if_neg (by simp)]
    exact ⟨rfl, rfl⟩
  · rw [if_neg (by simpa using hz)]
    exact ⟨rfl, rfl⟩
/-! ### long jobs -/
theorem b3 {P : Sto} {j k x : Nat} (T : Tp P j k) (hx : k < x) {ls : List (Int × Int × Int)} (h : ∀ q ∈ ls, Lng q) (hl : ls.length ≤ 10) (hP : P[x]? = some (.lst (ls.map d3))) {a0 a2 a3 a4 a5 a7 a8 a9 a10 a11 a12 : Option W} :
    wp (B3_law A [a0, some (.own k), a2, a3, a4, a5, some (.own x), a7, a8, a9, a10, a11, a12]) P fun r P' => match r.1 with
      | .nx => (∃ p, Lng p ∧ P'[x]? = some (.lst ((ls ++ [p]).map d3))) ∧ Tp P' j k ∧ P'.length = P.length ∧ ∃ b8, r.2 = [a0, some (.own k), a2, a3, a4, a5, some (.own x), a7, b8, a9, a10, a11, a12]
      | _ => False := by
  have line := line_big
  have hjk := T.lt
  unfold B3_law
  repeat (first | (with_reducible apply h_seq) | (with_reducible apply h_set) | (with_reducible apply h_drop) | (with_reducible apply h_ret) | (with_reducible apply h_next) | (with_reducible apply h_ifS) | (with_reducible apply h_if) | (with_reducible apply h_bin) | (with_reducible apply h_test) | (with_reducible apply h_and) | (with_reducible apply h_or) | (with_reducible apply h_not) | (with_reducible apply h_call) | (with_reducible apply h_nil) | (with_reducible apply h_cons) | (with_reducible apply h_tup) | (with_reducible apply h_lst) | (with_reducible apply h_own) | (with_reducible apply h_un) | (with_reducible apply h_meth) | (with_reducible apply h_meth0) | (with_reducible apply h_ice) | (with_reducible apply h_sl) | (with_reducible apply h_no) | (with_reducible apply h_for) | (with_reducible apply h_it) | (with_reducible apply h_c) | (with_reducible apply h_add) | (with_reducible apply h_sub) | (with_reducible apply h_negI) | (with_reducible apply h_wB) | (with_reducible apply h_w1) | (with_reducible apply h_w2) | (with_reducible apply h_run) | ((with_reducible apply h_var); (exact rfl)))
  refine h_fn2 (by rfl) ?_
  refine wp_mono (f_some_long T) ?_
  rintro w P1 ⟨p, hp, rfl, T1, F1⟩
  have e1 : P1[x]? = some (.lst (ls.map d3)) := by rw [F1.at_ x (by omega) (by omega)]; exact hP
  repeat (first | (with_reducible apply h_seq) | (with_reducible apply h_set) | (with_reducible apply h_drop) | (with_reducible apply h_ret) | (with_reducible apply h_next) | (with_reducible apply h_ifS) | (with_reducible apply h_if) | (with_reducible apply h_bin) | (with_reducible apply h_test) | (with_reducible apply h_and) | (with_reducible apply h_or) | (with_reducible apply h_not) | (with_reducible apply h_call) | (with_reducible apply h_nil) | (with_reducible apply h_cons) | (with_reducible apply h_tup) | (with_reducible apply h_lst) | (with_reducible apply h_own) | (with_reducible apply h_un) | (with_reducible apply h_meth) | (with_reducible apply h_meth0) | (with_reducible apply h_ice) | (with_reducible apply h_sl) | (with_reducible apply h_no) | (with_reducible apply h_for) | (with_reducible apply h_it) | (with_reducible apply h_c) | (with_reducible apply h_add) | (with_reducible apply h_sub) | (with_reducible apply h_negI) | (with_reducible apply h_wB) | (with_reducible apply h_w1) | (with_reducible apply h_w2) | (with_reducible apply h_run) | ((with_reducible apply h_var); (exact rfl)))
  refine h_eq (wp_isL (wL_own e1) _) ?_
  repeat (first | (with_reducible apply h_seq) | (with_reducible apply h_set) | (with_reducible apply h_drop) | (with_reducible apply h_ret) | (with_reducible apply h_next) | (with_reducible apply h_ifS) | (with_reducible apply h_if) | (with_reducible apply h_bin) | (with_reducible apply h_test) | (with_reducible apply h_and) | (with_reducible apply h_or) | (with_reducible apply h_not) | (with_reducible apply h_call) | (with_reducible apply h_nil) | (with_reducible apply h_cons) | (with_reducible apply h_tup) | (with_reducible apply h_lst) | (with_reducible apply h_own) | (with_reducible apply h_un) | (with_reducible apply h_meth) | (with_reducible apply h_meth0) | (with_reducible apply h_ice) | (with_reducible apply h_sl) | (with_reducible apply h_no) | (with_reducible apply h_for) | (with_reducible apply h_it) | (with_reducible apply h_c) | (with_reducible apply h_add) | (with_reducible apply h_sub) | (with_reducible apply h_negI) | (with_reducible apply h_wB) | (with_reducible apply h_w1) | (with_reducible apply h_w2) | (with_reducible apply h_run) | ((with_reducible apply h_var); (exact rfl)))
  refine h_eq (wp_ix rfl (atI_0 _ _) _) ?_
  repeat (first | (with_reducible apply h_seq) | (with_reducible apply h_set) | (with_reducible apply h_drop) | (with_reducible apply h_ret) | (with_reducible apply h_next) | (with_reducible apply h_ifS) | (with_reducible apply h_if) | (with_reducible apply h_bin) | (with_reducible apply h_test) | (with_reducible apply h_and) | (with_reducible apply h_or) | (with_reducible apply h_not) | (with_reducible apply h_call) | (with_reducible apply h_nil) | (with_reducible apply h_cons) | (with_reducible apply h_tup) | (with_reducible apply h_lst) | (with_reducible apply h_own) | (with_reducible apply h_un) | (with_reducible apply h_meth) | (with_reducible apply h_meth0) | (with_reducible apply h_ice) | (with_reducible apply h_sl) | (with_reducible apply h_no) | (with_reducible apply h_for) | (with_reducible apply h_it) | (with_reducible apply h_c) | (with_reducible apply h_add) | (with_reducible apply h_sub) | (with_reducible apply h_negI) | (with_reducible apply h_wB) | (with_reducible apply h_w1) | (with_reducible apply h_w2) | (with_reducible apply h_run) | ((with_reducible apply h_var); (exact rfl)))
  refine h_eq (wp_ix rfl (atI_1 _ _ _) _) ?_
  repeat (first | (with_reducible apply h_seq) | (with_reducible apply h_set) | (with_reducible apply h_drop) | (with_reducible apply h_ret) | (with_reducible apply h_next) | (with_reducible apply h_ifS) | (with_reducible apply h_if) | (with_reducible apply h_bin) | (with_reducible apply h_test) | (with_reducible apply h_and) | (with_reducible apply h_or) | (with_reducible apply h_not) | (with_reducible apply h_call) | (with_reducible apply h_nil) | (with_reducible apply h_cons) | (with_reducible apply h_tup) | (with_reducible apply h_lst) | (with_reducible apply h_own) | (with_reducible apply h_un) | (with_reducible apply h_meth) | (with_reducible apply h_meth0) | (with_reducible apply h_ice) | (with_reducible apply h_sl) | (with_reducible apply h_no) | (with_reducible apply h_for) | (with_reducible apply h_it) | (with_reducible apply h_c) | (with_reducible apply h_add) | (with_reducible apply h_sub) | (with_reducible apply h_negI) | (with_reducible apply h_wB) | (with_reducible apply h_w1) | (with_reducible apply h_w2) | (with_reducible apply h_run) | ((with_reducible apply h_var); (exact rfl)))
  refine h_eq (wp_ix rfl (atI_2 _ _ _ _) _) ?_
  repeat (first | (with_reducible apply h_seq) | (with_reducible apply h_set) | (with_reducible apply h_drop) | (with_reducible apply h_ret) | (with_reducible apply h_next) | (with_reducible apply h_ifS) | (with_reducible apply h_if) | (with_reducible apply h_bin) | (with_reducible apply h_test) | (with_reducible apply h_and) | (with_reducible apply h_or) | (with_reducible apply h_not) | (with_reducible apply h_call) | (with_reducible apply h_nil) | (with_reducible apply h_cons) | (with_reducible apply h_tup) | (with_reducible apply h_lst) | (with_reducible apply h_own) | (with_reducible apply h_un) | (with_reducible apply h_meth) | (with_reducible apply h_meth0) | (with_reducible apply h_ice) | (with_reducible apply h_sl) | (with_reducible apply h_no) | (with_reducible apply h_for) | (with_reducible apply h_it) | (with_reducible apply h_c) | (with_reducible apply h_add) | (with_reducible apply h_sub) | (with_reducible apply h_negI) | (with_reducible apply h_wB) | (with_reducible apply h_w1) | (with_reducible apply h_w2) | (with_reducible apply h_run) | ((with_reducible apply h_var); (exact rfl)))
  refine draw_wp T1 ⟨by decide, far_of (by decide)⟩ fun n P2 hn1 hn2 T2 F2 => ?_
  repeat (first | (with_reducible apply h_seq) | (with_reducible apply h_set) | (with_reducible apply h_drop) | (with_reducible apply h_ret) | (with_reducible apply h_next) | (with_reducible apply h_ifS) | (with_reducible apply h_if) | (with_reducible apply h_bin) | (with_reducible apply h_test) | (with_reducible apply h_and) | (with_reducible apply h_or) | (with_reducible apply h_not) | (with_reducible apply h_call) | (with_reducible apply h_nil) | (with_reducible apply h_cons) | (with_reducible apply h_tup) | (with_reducible apply h_lst) | (with_reducible apply h_own) | (with_reducible apply h_un) | (with_reducible apply h_meth) | (with_reducible apply h_meth0) | (with_reducible apply h_ice) | (with_reducible apply h_sl) | (with_reducible apply h_no) | (with_reducible apply h_for) | (with_reducible apply h_it) | (with_reducible apply h_c) | (with_reducible apply h_add) | (with_reducible apply h_sub) | (with_reducible apply h_negI) | (with_reducible apply h_wB) | (with_reducible apply h_w1) | (with_reducible apply h_w2) | (with_reducible apply h_run) | ((with_reducible apply h_var); (exact rfl)))
  refine h_eq (wp_ix rfl (atI_1 _ _ _) _) ?_
  repeat (first | (with_reducible apply h_seq) | (with_reducible apply h_set) | (with_reducible apply h_drop) | (with_reducible apply h_ret) | (with_reducible apply h_next) | (with_reducible apply h_ifS) | (with_reducible apply h_if) | (with_reducible apply h_bin) | (with_reducible apply h_test) | (with_reducible apply h_and) | (with_reducible apply h_or) | (with_reducible apply h_not) | (with_reducible apply h_call) | (with_reducible apply h_nil) | (with_reducible apply h_cons) | (with_reducible apply h_tup) | (with_reducible apply h_lst) | (with_reducible apply h_own) | (with_reducible apply h_un) | (with_reducible apply h_meth) | (with_reducible apply h_meth0) | (with_reducible apply h_ice) | (with_reducible apply h_sl) | (with_reducible apply h_no) | (with_reducible apply h_for) | (with_reducible apply h_it) | (with_reducible apply h_c) | (with_reducible apply h_add) | (with_reducible apply h_sub) | (with_reducible apply h_negI) | (with_reducible apply h_wB) | (with_reducible apply h_w1) | (with_reducible apply h_w2) | (with_reducible apply h_run) | ((with_reducible apply h_var); (exact rfl)))
  refine h_eq (wp_min3 _ _ _ _ _) ?_
  repeat (first | (with_reducible apply h_seq) | (with_reducible apply h_set) | (with_reducible apply h_drop) | (with_reducible apply h_ret) | (with_reducible apply h_next) | (with_reducible apply h_ifS) | (with_reducible apply h_if) | (with_reducible apply h_bin) | (with_reducible apply h_test) | (with_reducible apply h_and) | (with_reducible apply h_or) | (with_reducible apply h_not) | (with_reducible apply h_call) | (with_reducible apply h_nil) | (with_reducible apply h_cons) | (with_reducible apply h_tup) | (with_reducible apply h_lst) | (with_reducible apply h_own) | (with_reducible apply h_un) | (with_reducible apply h_meth) | (with_reducible apply h_meth0) | (with_reducible apply h_ice) | (with_reducible apply h_sl) | (with_reducible apply h_no) | (with_reducible apply h_for) | (with_reducible apply h_it) | (with_reducible apply h_c) | (with_reducible apply h_add) | (with_reducible apply h_sub) | (with_reducible apply h_negI) | (with_reducible apply h_wB) | (with_reducible apply h_w1) | (with_reducible apply h_w2) | (with_reducible apply h_run) | ((with_reducible apply h_var); (exact rfl)))
  refine h_mkT rfl (by simp) ?_
  repeat (first | (with_reducible apply h_seq) | (with_reducible apply h_set) | (with_reducible apply h_drop) | (with_reducible apply h_ret) | (with_reducible apply h_next) | (with_reducible apply h_ifS) | (with_reducible apply h_if) | (with_reducible apply h_bin) | (with_reducible apply h_test) | (with_reducible apply h_and) | (with_reducible apply h_or) | (with_reducible apply h_not) | (with_reducible apply h_call) | (with_reducible apply h_nil) | (with_reducible apply h_cons) | (with_reducible apply h_tup) | (with_reducible apply h_lst) | (with_reducible apply h_own) | (with_reducible apply h_un) | (with_reducible apply h_meth) | (with_reducible apply h_meth0) | (with_reducible apply h_ice) | (with_reducible apply h_sl) | (with_reducible apply h_no) | (with_reducible apply h_for) | (with_reducible apply h_it) | (with_reducible apply h_c) | (with_reducible apply h_add) | (with_reducible apply h_sub) | (with_reducible apply h_negI) | (with_reducible apply h_wB) | (with_reducible apply h_w1) | (with_reducible apply h_w2) | (with_reducible apply h_run) | ((with_reducible apply h_var); (exact rfl)))
  have e2 : P2[x]? = some (.lst (ls.map d3)) := by rw [F2.at_ x (by omega) (by omega)]; exact e1
  refine h_eq (wp_app rfl e2 (by simp; omega) _) ?_
  have hxl : x < P2.length := (List.getElem?_eq_some_iff.mp e2).1
  obtain ⟨q1, q2, q3, q4⟩ := hp
  refine ⟨⟨(p.1, p.2.1, min (min p.2.2 (1 + n)) p.2.1), ⟨q1, q2, by show 1 ≤ min (min p.2.2 (1 + n)) p.2.1; omega, by show min (min p.2.2 (1 + n)) p.2.1 ≤ p.2.1; omega⟩, ?_⟩, T2.setx hx _, ?_, _, rfl⟩
  · rw [List.getElem?_set_self hxl]; simp
  · rw [List.length_set, F2.len, F1.len]
end L74


set_option maxRecDepth 100000
set_option maxHeartbeats 2000000
/-! k74: the law. -/
namespace L74
open PySem L2 VL
variable {A : Str → Addr} {O : Sto} {Φ : W → Sto → Prop}
theorem tot_sum : ∀ {ls : List (Int × Int × Int)}, (∀ q ∈ ls, Lng q) → ((tot ls : Nat) : Int) = (ls.map fun p => p.2.2).sum
  | [], _ => rfl
  | p :: ls, h => by
    have ih := tot_sum (ls := ls) fun q hq => h q (List.mem_cons_of_mem _ hq)
    obtain ⟨_, _, h5, h6⟩ := h p List.mem_cons_self
    have e : tot (p :: ls) = p.2.2.toNat + tot ls := by unfold tot sgl; simp
    rw [e, List.map_cons, List.sum_cons, ← ih]
    omega
theorem ne_str_same {s : Str} {O : Sto} {Φ : W → Sto → Prop} (h : D.eqv (.str s) (.str s) = true) (hg : D.good 60 (.str s) = true) : wp (wNe (.d (.str s)) (.d (.str s))) O Φ = Φ (.d (.bl false)) O := by
  unfold wp wNe
  simp only [wQ_d, hg, and_self, if_true, h]
  rfl
theorem ne_tree {O : Sto} {Φ : W → Sto → Prop} : wp (wNe (.d (.str "tree")) (.d (.str "tree"))) O Φ = Φ (.d (.bl false)) O := ne_str_same (by decide +kernel) (by decide +kernel)
theorem ne_rests {O : Sto} {Φ : W → Sto → Prop} : wp (wNe (.d (.str "rests")) (.d (.str "rests"))) O Φ = Φ (.d (.bl false)) O := ne_str_same (by decide +kernel) (by decide +kernel)
abbrev G13 (ns : List Int) (k : Nat) (a2 a3 a4 a5 a6 a7 a8 a9 a10 a11 a12 : Option W) : Gam := [some (.d (.scr ns)), some (.own k), a2, a3, a4, a5, a6, a7, a8, a9, a10, a11, a12]
/-- the sum is at most twenty -/
theorem while20 {P : Sto} {j k x : Nat} {ns : List Int} (T : Tp P j k) (hx : k < x) {ls : List (Int × Int × Int)} (h : ∀ q ∈ ls, Lng q) (hl : ls.length ≤ 10) (hP : P[x]? = some (.lst (ls.map d3))) {a2 a3 a4 a5 a7 a8 a9 a10 a11 a12 : Option W} {Φ : Fl × Gam → Sto → Prop}
    (q : ∀ ls' P' , (∀ q ∈ ls', Lng q) → ls'.length ≤ 10 → tot ls' ≤ 20 → P'[x]? = some (.lst (ls'.map d3)) → Tp P' j k → Φ (.nx, G13 ns k a2 a3 a4 a5 (some (.own x)) a7 a8 a9 a10 a11 a12) P') :
    wp (dWhile (mLen 6) (T2_law A) (B1_law A) (G13 ns k a2 a3 a4 a5 (some (.own x)) a7 a8 a9 a10 a11 a12)) P Φ := by
  have line := line_big
  have em : mLen 6 (G13 ns k a2 a3 a4 a5 (some (.own x)) a7 a8 a9 a10 a11 a12) P = ls.length + 1 := by
    unfold mLen
    simp [hP]
  show wp (whileN (T2_law A) (B1_law A) (mLen 6 _ P) _) P Φ
  rw [em]
  refine wp_while (fun n Γ P' => Γ = G13 ns k a2 a3 a4 a5 (some (.own x)) a7 a8 a9 a10 a11 a12 ∧ ∃ ls' : List (Int × Int × Int), ls'.length = n ∧ n ≤ 10 ∧ (∀ q ∈ ls', Lng q) ∧ P'[x]? = some (.lst (ls'.map d3)) ∧ Tp P' j k) ?_ ls.length _ _ _ ⟨rfl, ls, rfl, hl, h, hP, T⟩ (by omega)
  rintro n Γ P' ⟨rfl, ls', hn, hn2, h', hP', T'⟩
  unfold T2_law
  refine h_test ?_
  refine h_bin ?_
  refine h_call ?_
  refine h_cons ?_
  rw [wp_lcD, wp_it]
  refine h_var rfl ?_
  rw [wp_wkO hP']
  refine wp_lc (fun p : Int × Int × Int => .d (d3 p)) (fun p => some (.int p.2.2)) ls' (by simp) (by show P'[x]? = _; exact hP') (by omega) (fun p hp => ⟨_, rfl, ?_⟩) ?_
  · refine ⟨rfl, rfl, ?_⟩
    refine h_bin ?_
    refine h_var rfl ?_
    refine h_c ?_
    refine h_eq (wp_ix rfl (atI_2 _ _ _ _) _) ?_
    exact ⟨rfl, rfl⟩
  · refine h_nil ?_
    refine h_w1 ?_
    have e : ls'.filterMap (fun p => some (D.int p.2.2)) = (ls'.map fun p => p.2.2).map D.int := by
      rw [List.filterMap_eq_map', List.map_map]; rfl
    rw [e]
    refine h_eq (wp_sum _ _) ?_
    refine h_c ?_
    refine h_eq (wp_gt _ _ _ _) ?_
    refine h_wB ?_
    rw [← tot_sum h']
    by_cases hs : (20 : Int) < (tot ls' : Nat)
    · rw [if_pos (decide_eq_true hs)]
      have hne : ls' ≠ [] := by intro z; subst z; simp [tot] at hs
      have hpos := List.length_pos_iff.mpr hne
      refine ⟨n - 1, by omega, ?_⟩
      unfold B1_law
      refine h_drop ?_
      refine h_meth0 ?_
      refine h_var rfl ?_
      refine h_eq (wp_isL (wL_own hP') _) ?_
      have hxl : x < P'.length := (List.getElem?_eq_some_iff.mp hP').1
      have ep : wPop (.own x) [] P' = .ok (.d (d3 (ls'.getLast hne))) (P'.set x (.lst (ls'.dropLast.map d3))) := by
        unfold wPop wMut
        simp only [hP']
        have e1 : (ls'.map d3)[(ls'.map d3).length - 1]? = some (d3 (ls'.getLast hne)) := by
          rw [List.length_map, List.getElem?_map, List.getLast_eq_getElem, List.getElem?_eq_getElem (by omega)]; rfl
        rw [e1]
        simp [List.map_dropLast]
      refine h_at ep ?_
      exact ⟨rfl, ls'.dropLast, by simp; omega, by omega, fun q hq => h' q (List.dropLast_subset _ hq), by rw [List.getElem?_set_self hxl], T'.setx hx _⟩
    · rw [if_neg (by simpa using hs)]
      exact q ls' P' h' (by omega) (by omega) hP' T'
/-- the table and its moments -/
theorem tail9 {P : Sto} {j k x : Nat} {ns : List Int} (T : Tp P j k) (hx : k < x) {ls : List (Int × Int × Int)} (h : ∀ q ∈ ls, Lng q) (hne : ls ≠ []) (hl : ls.length ≤ 10) (ht : tot ls ≤ 20) (hP : P[x]? = some (.lst (ls.map d3))) {a2 a3 a4 a5 a7 a8 a9 a10 a11 a12 : Option W} {b : DS} {Φ : Fl × Gam → Sto → Prop}
    (q : ∀ P', Tp P' j k → wp (b (G13 ns k a2 a3 a4 a5 (some (.d (L3 ls))) a7 a8 (some (.d (Tb A (ls.flatMap sgl)))) a10 a11 a12)) P' Φ) :
    wp (dFrz 6 (dSeq (dSet 9 (dCall (mkIns (A "Table") 2 (F_Table_init A)) (dCons (dCall (dFn 1 [] (F_z_singles A)) (dCons (dIce (dVar 6)) dNil)) dNil))) b) (G13 ns k a2 a3 a4 a5 (some (.own x)) a7 a8 a9 a10 a11 a12)) P Φ := by
  have hj : ∀ y ∈ ls.flatMap sgl, Job y := fun y hy => by
    obtain ⟨p, hp, hy⟩ := List.mem_flatMap.mp hy
    exact sgl_job (h p hp) y hy
  unfold dFrz
  rw [wp_bind]
  refine h_var rfl ?_
  rw [wp_bind]
  refine h_eq (wp_ice hP _) ?_
  refine h_seq ?_
  refine h_set ?_
  refine h_call ?_
  refine h_cons ?_
  refine h_call ?_
  refine h_cons ?_
  refine h_ice ?_
  refine h_var (w := .d (L3 ls)) rfl ?_
  refine h_at (show ice (.d (L3 ls)) _ = .ok (.d (L3 ls)) _ from rfl) ?_
  refine h_nil ?_
  refine h_fn2 (by rfl) ?_
  refine h_at (f_singles h (by omega)) ?_
  refine h_nil ?_
  refine h_at (f_table hj (by unfold tot at ht; exact ht)) ?_
  exact q _ (T.setx hx _)
end L74


set_option maxRecDepth 100000
set_option maxHeartbeats 2000000
/-! k74: the law. -/
namespace L74
open PySem L2 VL
variable {A : Str → Addr} {O : Sto} {Φ : W → Sto → Prop}
theorem wp_rngE {a : DA} {Γ : Gam} {O : Sto} {Φ : Wk → Sto → Prop} (h : wp (a Γ) O fun ws O' => ∃ j, ws = [.d (.int j)] ∧ small62 j ∧ Φ (rng 0 1 j.toNat) O') : wp (dRange1 a Γ) O Φ := by
  obtain ⟨ws, O', e, j, h1, h2, h3⟩ := wp_out h
  exact wp_rng1 (j := j) (by rw [wp_eq e]; exact ⟨h1, h2, h3⟩)
theorem good_L3 (row : List (Int × Int × Int)) : D.good 59 (L3 row) = true := by
  show (row.map d3).all (D.good 58) = true
  rw [List.all_map, List.all_eq_true]
  exact fun x _ => by
    show [D.int x.1, D.int x.2.1, D.int x.2.2].all (D.good 57) = true
    simp [good_int]
theorem good_rw3 (rows : List (List (Int × Int × Int))) : (rows.map L3).all (D.good 59) = true := by
  rw [List.all_map, List.all_eq_true]
  exact fun x _ => good_L3 x
theorem good_d3 (ls : List (Int × Int × Int)) : (ls.map d3).all (D.good 59) = true := by
  rw [List.all_map, List.all_eq_true]
  exact fun x _ => by
    show [D.int x.1, D.int x.2.1, D.int x.2.2].all (D.good 58) = true
    simp [good_int]
theorem loop10 {P : Sto} {j k : Nat} {ns : List Int} (T : Tp P j k) {ls : List (Int × Int × Int)} (h : ∀ q ∈ ls, Lng q) (hne : ls ≠ []) (hl : ls.length ≤ 10) (ht : tot ls ≤ 20) {a2 a3 a4 a5 a7 a8 a10 a11 a12 : Option W} {Φ : Fl × Gam → Sto → Prop}
    (q : ∀ Γ P', Ok0 A ns k ls Γ → Tp P' j k → Φ (.nx, Γ) P') :
    wp (dFor (dIt (dLst (dCons (dBin wSub (dCall (dFn 2 [] (F_z_draw A)) (dCons (dVar 1) (dCons (dBin wPow (dC (.int 10)) (dC (.int 30))) dNil))) (dBin wPow (dC (.int 10)) (dC (.int 29)))) (dCons (dBin wIx (dBin wIx (dVar 6) (dC (.int 0))) (dC (.int 0))) (dCons (dBin wAdd (dBin wIx (dBin wIx (dVar 6) (dUn wNeg (dC (.int 1)))) (dC (.int 0))) (dBin wIx (dBin wIx (dVar 6) (dUn wNeg (dC (.int 1)))) (dC (.int 2)))) (dCons (dC (.int 0)) dNil)))))) (.nm 10) (B0_law A) (G13 ns k a2 a3 a4 a5 (some (.d (L3 ls))) a7 a8 (some (.d (Tb A (ls.flatMap sgl)))) a10 a11 a12)) P Φ := by
  obtain ⟨p, hp, e0⟩ : ∃ p ∈ ls, atI (ls.map d3) 0 = some (d3 p) := by
    cases ls with
    | nil => exact absurd rfl hne
    | cons p l => exact ⟨p, List.mem_cons_self, atI_0 _ _⟩
  obtain ⟨z, hz, e1⟩ : ∃ z ∈ ls, atI (ls.map d3) (-1) = some (d3 z) := by
    refine ⟨ls.getLast hne, List.getLast_mem hne, ?_⟩
    have := atI_last (ls.dropLast.map d3) (d3 (ls.getLast hne))
    rw [show ls.dropLast.map d3 ++ [d3 (ls.getLast hne)] = (ls.dropLast ++ [ls.getLast hne]).map d3 by simp, List.dropLast_concat_getLast] at this
    exact this
  obtain ⟨p1, p2, p3⟩ := h p hp
  obtain ⟨z1, z2, z3⟩ := h z hz
  repeat (first | (with_reducible apply h_seq) | (with_reducible apply h_set) | (with_reducible apply h_drop) | (with_reducible apply h_ret) | (with_reducible apply h_next) | (with_reducible apply h_ifS) | (with_reducible apply h_if) | (with_reducible apply h_bin) | (with_reducible apply h_test) | (with_reducible apply h_and) | (with_reducible apply h_or) | (with_reducible apply h_not) | (with_reducible apply h_call) | (with_reducible apply h_nil) | (with_reducible apply h_cons) | (with_reducible apply h_tup) | (with_reducible apply h_lst) | (with_reducible apply h_own) | (with_reducible apply h_un) | (with_reducible apply h_meth) | (with_reducible apply h_meth0) | (with_reducible apply h_ice) | (with_reducible apply h_sl) | (with_reducible apply h_no) | (with_reducible apply h_for) | (with_reducible apply h_it) | (with_reducible apply h_c) | (with_reducible apply h_add) | (with_reducible apply h_sub) | (with_reducible apply h_negI) | (with_reducible apply h_wB) | (with_reducible apply h_w1) | (with_reducible apply h_w2) | (with_reducible apply h_run) | ((with_reducible apply h_var); (exact rfl)))
  refine h_pow (i := 10) ⟨⟨by decide, by decide⟩, by decide, by decide⟩ ?_
  repeat (first | (with_reducible apply h_seq) | (with_reducible apply h_set) | (with_reducible apply h_drop) | (with_reducible apply h_ret) | (with_reducible apply h_next) | (with_reducible apply h_ifS) | (with_reducible apply h_if) | (with_reducible apply h_bin) | (with_reducible apply h_test) | (with_reducible apply h_and) | (with_reducible apply h_or) | (with_reducible apply h_not) | (with_reducible apply h_call) | (with_reducible apply h_nil) | (with_reducible apply h_cons) | (with_reducible apply h_tup) | (with_reducible apply h_lst) | (with_reducible apply h_own) | (with_reducible apply h_un) | (with_reducible apply h_meth) | (with_reducible apply h_meth0) | (with_reducible apply h_ice) | (with_reducible apply h_sl) | (with_reducible apply h_no) | (with_reducible apply h_for) | (with_reducible apply h_it) | (with_reducible apply h_c) | (with_reducible apply h_add) | (with_reducible apply h_sub) | (with_reducible apply h_negI) | (with_reducible apply h_wB) | (with_reducible apply h_w1) | (with_reducible apply h_w2) | (with_reducible apply h_run) | ((with_reducible apply h_var); (exact rfl)))
  refine draw_wp T ⟨by decide, lt_far (by have : (10 ^ 30 : Int) ≤ 10 ^ 1000 := by decide +kernel
                                          exact this)⟩ fun n P1 hn1 hn2 T1 F1 => ?_
  have hn2 : n < 1000000000000000000000000000000 := hn2
  repeat (first | (with_reducible apply h_seq) | (with_reducible apply h_set) | (with_reducible apply h_drop) | (with_reducible apply h_ret) | (with_reducible apply h_next) | (with_reducible apply h_ifS) | (with_reducible apply h_if) | (with_reducible apply h_bin) | (with_reducible apply h_test) | (with_reducible apply h_and) | (with_reducible apply h_or) | (with_reducible apply h_not) | (with_reducible apply h_call) | (with_reducible apply h_nil) | (with_reducible apply h_cons) | (with_reducible apply h_tup) | (with_reducible apply h_lst) | (with_reducible apply h_own) | (with_reducible apply h_un) | (with_reducible apply h_meth) | (with_reducible apply h_meth0) | (with_reducible apply h_ice) | (with_reducible apply h_sl) | (with_reducible apply h_no) | (with_reducible apply h_for) | (with_reducible apply h_it) | (with_reducible apply h_c) | (with_reducible apply h_add) | (with_reducible apply h_sub) | (with_reducible apply h_negI) | (with_reducible apply h_wB) | (with_reducible apply h_w1) | (with_reducible apply h_w2) | (with_reducible apply h_run) | ((with_reducible apply h_var); (exact rfl)))
  refine h_pow (i := 10) ⟨⟨by decide, by decide⟩, by decide, by decide⟩ ?_
  repeat (first | (with_reducible apply h_seq) | (with_reducible apply h_set) | (with_reducible apply h_drop) | (with_reducible apply h_ret) | (with_reducible apply h_next) | (with_reducible apply h_ifS) | (with_reducible apply h_if) | (with_reducible apply h_bin) | (with_reducible apply h_test) | (with_reducible apply h_and) | (with_reducible apply h_or) | (with_reducible apply h_not) | (with_reducible apply h_call) | (with_reducible apply h_nil) | (with_reducible apply h_cons) | (with_reducible apply h_tup) | (with_reducible apply h_lst) | (with_reducible apply h_own) | (with_reducible apply h_un) | (with_reducible apply h_meth) | (with_reducible apply h_meth0) | (with_reducible apply h_ice) | (with_reducible apply h_sl) | (with_reducible apply h_no) | (with_reducible apply h_for) | (with_reducible apply h_it) | (with_reducible apply h_c) | (with_reducible apply h_add) | (with_reducible apply h_sub) | (with_reducible apply h_negI) | (with_reducible apply h_wB) | (with_reducible apply h_w1) | (with_reducible apply h_w2) | (with_reducible apply h_run) | ((with_reducible apply h_var); (exact rfl)))
  refine h_eq (wp_ix rfl e0 _) ?_
  repeat (first | (with_reducible apply h_seq) | (with_reducible apply h_set) | (with_reducible apply h_drop) | (with_reducible apply h_ret) | (with_reducible apply h_next) | (with_reducible apply h_ifS) | (with_reducible apply h_if) | (with_reducible apply h_bin) | (with_reducible apply h_test) | (with_reducible apply h_and) | (with_reducible apply h_or) | (with_reducible apply h_not) | (with_reducible apply h_call) | (with_reducible apply h_nil) | (with_reducible apply h_cons) | (with_reducible apply h_tup) | (with_reducible apply h_lst) | (with_reducible apply h_own) | (with_reducible apply h_un) | (with_reducible apply h_meth) | (with_reducible apply h_meth0) | (with_reducible apply h_ice) | (with_reducible apply h_sl) | (with_reducible apply h_no) | (with_reducible apply h_for) | (with_reducible apply h_it) | (with_reducible apply h_c) | (with_reducible apply h_add) | (with_reducible apply h_sub) | (with_reducible apply h_negI) | (with_reducible apply h_wB) | (with_reducible apply h_w1) | (with_reducible apply h_w2) | (with_reducible apply h_run) | ((with_reducible apply h_var); (exact rfl)))
  refine h_eq (wp_ix rfl (atI_0 _ _) _) ?_
  repeat (first | (with_reducible apply h_seq) | (with_reducible apply h_set) | (with_reducible apply h_drop) | (with_reducible apply h_ret) | (with_reducible apply h_next) | (with_reducible apply h_ifS) | (with_reducible apply h_if) | (with_reducible apply h_bin) | (with_reducible apply h_test) | (with_reducible apply h_and) | (with_reducible apply h_or) | (with_reducible apply h_not) | (with_reducible apply h_call) | (with_reducible apply h_nil) | (with_reducible apply h_cons) | (with_reducible apply h_tup) | (with_reducible apply h_lst) | (with_reducible apply h_own) | (with_reducible apply h_un) | (with_reducible apply h_meth) | (with_reducible apply h_meth0) | (with_reducible apply h_ice) | (with_reducible apply h_sl) | (with_reducible apply h_no) | (with_reducible apply h_for) | (with_reducible apply h_it) | (with_reducible apply h_c) | (with_reducible apply h_add) | (with_reducible apply h_sub) | (with_reducible apply h_negI) | (with_reducible apply h_wB) | (with_reducible apply h_w1) | (with_reducible apply h_w2) | (with_reducible apply h_run) | ((with_reducible apply h_var); (exact rfl)))
  refine h_eq (wp_ix rfl e1 _) ?_
  repeat (first | (with_reducible apply h_seq) | (with_reducible apply h_set) | (with_reducible apply h_drop) | (with_reducible apply h_ret) | (with_reducible apply h_next) | (with_reducible apply h_ifS) | (with_reducible apply h_if) | (with_reducible apply h_bin) | (with_reducible apply h_test) | (with_reducible apply h_and) | (with_reducible apply h_or) | (with_reducible apply h_not) | (with_reducible apply h_call) | (with_reducible apply h_nil) | (with_reducible apply h_cons) | (with_reducible apply h_tup) | (with_reducible apply h_lst) | (with_reducible apply h_own) | (with_reducible apply h_un) | (with_reducible apply h_meth) | (with_reducible apply h_meth0) | (with_reducible apply h_ice) | (with_reducible apply h_sl) | (with_reducible apply h_no) | (with_reducible apply h_for) | (with_reducible apply h_it) | (with_reducible apply h_c) | (with_reducible apply h_add) | (with_reducible apply h_sub) | (with_reducible apply h_negI) | (with_reducible apply h_wB) | (with_reducible apply h_w1) | (with_reducible apply h_w2) | (with_reducible apply h_run) | ((with_reducible apply h_var); (exact rfl)))
  refine h_eq (wp_ix rfl (atI_0 _ _) _) ?_
  repeat (first | (with_reducible apply h_seq) | (with_reducible apply h_set) | (with_reducible apply h_drop) | (with_reducible apply h_ret) | (with_reducible apply h_next) | (with_reducible apply h_ifS) | (with_reducible apply h_if) | (with_reducible apply h_bin) | (with_reducible apply h_test) | (with_reducible apply h_and) | (with_reducible apply h_or) | (with_reducible apply h_not) | (with_reducible apply h_call) | (with_reducible apply h_nil) | (with_reducible apply h_cons) | (with_reducible apply h_tup) | (with_reducible apply h_lst) | (with_reducible apply h_own) | (with_reducible apply h_un) | (with_reducible apply h_meth) | (with_reducible apply h_meth0) | (with_reducible apply h_ice) | (with_reducible apply h_sl) | (with_reducible apply h_no) | (with_reducible apply h_for) | (with_reducible apply h_it) | (with_reducible apply h_c) | (with_reducible apply h_add) | (with_reducible apply h_sub) | (with_reducible apply h_negI) | (with_reducible apply h_wB) | (with_reducible apply h_w1) | (with_reducible apply h_w2) | (with_reducible apply h_run) | ((with_reducible apply h_var); (exact rfl)))
  refine h_eq (wp_ix rfl e1 _) ?_
  repeat (first | (with_reducible apply h_seq) | (with_reducible apply h_set) | (with_reducible apply h_drop) | (with_reducible apply h_ret) | (with_reducible apply h_next) | (with_reducible apply h_ifS) | (with_reducible apply h_if) | (with_reducible apply h_bin) | (with_reducible apply h_test) | (with_reducible apply h_and) | (with_reducible apply h_or) | (with_reducible apply h_not) | (with_reducible apply h_call) | (with_reducible apply h_nil) | (with_reducible apply h_cons) | (with_reducible apply h_tup) | (with_reducible apply h_lst) | (with_reducible apply h_own) | (with_reducible apply h_un) | (with_reducible apply h_meth) | (with_reducible apply h_meth0) | (with_reducible apply h_ice) | (with_reducible apply h_sl) | (with_reducible apply h_no) | (with_reducible apply h_for) | (with_reducible apply h_it) | (with_reducible apply h_c) | (with_reducible apply h_add) | (with_reducible apply h_sub) | (with_reducible apply h_negI) | (with_reducible apply h_wB) | (with_reducible apply h_w1) | (with_reducible apply h_w2) | (with_reducible apply h_run) | ((with_reducible apply h_var); (exact rfl)))
  refine h_eq (wp_ix rfl (atI_2 _ _ _ _) _) ?_
  repeat (first | (with_reducible apply h_seq) | (with_reducible apply h_set) | (with_reducible apply h_drop) | (with_reducible apply h_ret) | (with_reducible apply h_next) | (with_reducible apply h_ifS) | (with_reducible apply h_if) | (with_reducible apply h_bin) | (with_reducible apply h_test) | (with_reducible apply h_and) | (with_reducible apply h_or) | (with_reducible apply h_not) | (with_reducible apply h_call) | (with_reducible apply h_nil) | (with_reducible apply h_cons) | (with_reducible apply h_tup) | (with_reducible apply h_lst) | (with_reducible apply h_own) | (with_reducible apply h_un) | (with_reducible apply h_meth) | (with_reducible apply h_meth0) | (with_reducible apply h_ice) | (with_reducible apply h_sl) | (with_reducible apply h_no) | (with_reducible apply h_for) | (with_reducible apply h_it) | (with_reducible apply h_c) | (with_reducible apply h_add) | (with_reducible apply h_sub) | (with_reducible apply h_negI) | (with_reducible apply h_wB) | (with_reducible apply h_w1) | (with_reducible apply h_w2) | (with_reducible apply h_run) | ((with_reducible apply h_var); (exact rfl)))
  refine h_mkL rfl (by simp) ?_
  rw [wp_wkL]
  have hms : ∀ m ∈ ([n - 100000000000000000000000000000, p.1, z.1 + z.2.2, 0] : List Int), -10000000000000000000000000000000 ≤ m ∧ m ≤ 10000000000000000000000000000000 := fun m hm => by
    simp only [List.mem_cons, List.not_mem_nil, or_false] at hm
    rcases hm with rfl | rfl | rfl | rfl <;> omega
  refine wp_loopX [n - 100000000000000000000000000000, p.1, z.1 + z.2.2, 0] (fun m => .d (.int m)) (fun _ Γ P' => Ok0 A ns k ls Γ ∧ Tp P' j k) rfl (fun _ _ _ _ => wk_ok) ⟨⟨_, _, _, _, _, _, _, _, _, rfl⟩, T1⟩ ?_ fun Γ P' ⟨h1, h2⟩ => q Γ P' h1 h2
  rintro zs m ys Γ P' e ⟨⟨b2, b3, b4, b5, b7, b8, b10, b11, b12, rfl⟩, T'⟩
  refine ⟨_, rfl, wp_mono (b0 T' h ht (by omega) (hms m (mem_of_split e))) ?_⟩
  rintro ⟨fl, Γ2⟩ P2 hr
  cases fl with
  | nx => exact hr
  | _ => exact hr.elim
theorem b5 {P : Sto} {j k : Nat} {ns : List Int} (T : Tp P j k) {a2 a3 a4 a5 a6 a7 a8 a9 a10 a11 a12 : Option W} :
    wp (B5_law A (G13 ns k a2 a3 a4 a5 a6 a7 a8 a9 a10 a11 a12)) P fun r P' => match r.1 with
      | .nx => (∃ a2 a3 a4 a5 a6 a7 a8 a9 a10 a11 a12, r.2 = G13 ns k a2 a3 a4 a5 a6 a7 a8 a9 a10 a11 a12) ∧ Tp P' j k
      | _ => False := by
  have line := line_big
  unfold B5_law
  repeat (first | (with_reducible apply h_seq) | (with_reducible apply h_set) | (with_reducible apply h_drop) | (with_reducible apply h_ret) | (with_reducible apply h_next) | (with_reducible apply h_ifS) | (with_reducible apply h_if) | (with_reducible apply h_bin) | (with_reducible apply h_test) | (with_reducible apply h_and) | (with_reducible apply h_or) | (with_reducible apply h_not) | (with_reducible apply h_call) | (with_reducible apply h_nil) | (with_reducible apply h_cons) | (with_reducible apply h_tup) | (with_reducible apply h_lst) | (with_reducible apply h_own) | (with_reducible apply h_un) | (with_reducible apply h_meth) | (with_reducible apply h_meth0) | (with_reducible apply h_ice) | (with_reducible apply h_sl) | (with_reducible apply h_no) | (with_reducible apply h_for) | (with_reducible apply h_it) | (with_reducible apply h_c) | (with_reducible apply h_add) | (with_reducible apply h_sub) | (with_reducible apply h_negI) | (with_reducible apply h_wB) | (with_reducible apply h_w1) | (with_reducible apply h_w2) | (with_reducible apply h_run) | ((with_reducible apply h_var); (exact rfl)))
  refine draw_wp T ⟨by decide, far_of (by decide)⟩ fun n P1 hn1 hn2 T1 F1 => ?_
  repeat (first | (with_reducible apply h_seq) | (with_reducible apply h_set) | (with_reducible apply h_drop) | (with_reducible apply h_ret) | (with_reducible apply h_next) | (with_reducible apply h_ifS) | (with_reducible apply h_if) | (with_reducible apply h_bin) | (with_reducible apply h_test) | (with_reducible apply h_and) | (with_reducible apply h_or) | (with_reducible apply h_not) | (with_reducible apply h_call) | (with_reducible apply h_nil) | (with_reducible apply h_cons) | (with_reducible apply h_tup) | (with_reducible apply h_lst) | (with_reducible apply h_own) | (with_reducible apply h_un) | (with_reducible apply h_meth) | (with_reducible apply h_meth0) | (with_reducible apply h_ice) | (with_reducible apply h_sl) | (with_reducible apply h_no) | (with_reducible apply h_for) | (with_reducible apply h_it) | (with_reducible apply h_c) | (with_reducible apply h_add) | (with_reducible apply h_sub) | (with_reducible apply h_negI) | (with_reducible apply h_wB) | (with_reducible apply h_w1) | (with_reducible apply h_w2) | (with_reducible apply h_run) | ((with_reducible apply h_var); (exact rfl)))
  refine h_fn2 (by rfl) ?_
  refine wp_mono (f_some_sizes T1 ⟨show 1 ≤ 1 + n by omega, by omega⟩) ?_
  rintro w P2 ⟨ss, hss, hne, hlen, rfl, T2, F2⟩
  obtain ⟨s0, rest, rfl⟩ : ∃ s0 rest, ss = s0 :: rest := by
    cases ss with
    | nil => exact absurd rfl hne
    | cons a l => exact ⟨a, l, rfl⟩
  have h0 : Siz s0 := hss.siz s0 List.mem_cons_self
  have hs : ∀ s ∈ rest, Siz s := fun s hs => hss.siz s (List.mem_cons_of_mem _ hs)
  have hrl : rest.length ≤ 3 := by simpa using hlen
  obtain ⟨hfew, hroom⟩ := ss_few hss
  have hbnd := bnd_rooms hss.siz
  have hcl : ((rooms (s0 :: rest)).drop 1).length = rest.length := by unfold rooms; simp
  obtain ⟨i1, i2⟩ := rests_iff h0 hs hbnd hcl
  repeat (first | (with_reducible apply h_seq) | (with_reducible apply h_set) | (with_reducible apply h_drop) | (with_reducible apply h_ret) | (with_reducible apply h_next) | (with_reducible apply h_ifS) | (with_reducible apply h_if) | (with_reducible apply h_bin) | (with_reducible apply h_test) | (with_reducible apply h_and) | (with_reducible apply h_or) | (with_reducible apply h_not) | (with_reducible apply h_call) | (with_reducible apply h_nil) | (with_reducible apply h_cons) | (with_reducible apply h_tup) | (with_reducible apply h_lst) | (with_reducible apply h_own) | (with_reducible apply h_un) | (with_reducible apply h_meth) | (with_reducible apply h_meth0) | (with_reducible apply h_ice) | (with_reducible apply h_sl) | (with_reducible apply h_no) | (with_reducible apply h_for) | (with_reducible apply h_it) | (with_reducible apply h_c) | (with_reducible apply h_add) | (with_reducible apply h_sub) | (with_reducible apply h_negI) | (with_reducible apply h_wB) | (with_reducible apply h_w1) | (with_reducible apply h_w2) | (with_reducible apply h_run) | ((with_reducible apply h_var); (exact rfl)))
  refine h_fn2 (by rfl) ?_
  refine h_at (f_put_in h0 hs (by omega) hbnd hfew fun c hc => by have := hroom c hc; omega) ?_
  refine h_seq ?_
  refine h_ifS ?_
  refine wp_mono (Φ := fun b O' => b = false ∧ O' = P2) ?_ ?_
  · obtain ⟨d, erp⟩ := f_rests_paper (A := A) (O := P2) hss.siz hne (by omega) (fun c hc => by have := hroom c hc; omega) hfew (by have := hss.ways; omega)
    obtain ⟨r, efr, r1, r2⟩ := f_found (A := A) (O := P2) hss.siz (by omega) (fun c hc => by have := hroom c hc; omega) hfew
    refine h_or ?_
    refine h_test ?_
    refine h_bin ?_
    repeat (first | (with_reducible apply h_seq) | (with_reducible apply h_set) | (with_reducible apply h_drop) | (with_reducible apply h_ret) | (with_reducible apply h_next) | (with_reducible apply h_ifS) | (with_reducible apply h_if) | (with_reducible apply h_bin) | (with_reducible apply h_test) | (with_reducible apply h_and) | (with_reducible apply h_or) | (with_reducible apply h_not) | (with_reducible apply h_call) | (with_reducible apply h_nil) | (with_reducible apply h_cons) | (with_reducible apply h_tup) | (with_reducible apply h_lst) | (with_reducible apply h_own) | (with_reducible apply h_un) | (with_reducible apply h_meth) | (with_reducible apply h_meth0) | (with_reducible apply h_ice) | (with_reducible apply h_sl) | (with_reducible apply h_no) | (with_reducible apply h_for) | (with_reducible apply h_it) | (with_reducible apply h_c) | (with_reducible apply h_add) | (with_reducible apply h_sub) | (with_reducible apply h_negI) | (with_reducible apply h_wB) | (with_reducible apply h_w1) | (with_reducible apply h_w2) | (with_reducible apply h_run) | ((with_reducible apply h_var); (exact rfl)))
    refine h_fn2 (by rfl) ?_
    refine h_at erp ?_
    repeat (first | (with_reducible apply h_seq) | (with_reducible apply h_set) | (with_reducible apply h_drop) | (with_reducible apply h_ret) | (with_reducible apply h_next) | (with_reducible apply h_ifS) | (with_reducible apply h_if) | (with_reducible apply h_bin) | (with_reducible apply h_test) | (with_reducible apply h_and) | (with_reducible apply h_or) | (with_reducible apply h_not) | (with_reducible apply h_call) | (with_reducible apply h_nil) | (with_reducible apply h_cons) | (with_reducible apply h_tup) | (with_reducible apply h_lst) | (with_reducible apply h_own) | (with_reducible apply h_un) | (with_reducible apply h_meth) | (with_reducible apply h_meth0) | (with_reducible apply h_ice) | (with_reducible apply h_sl) | (with_reducible apply h_no) | (with_reducible apply h_for) | (with_reducible apply h_it) | (with_reducible apply h_c) | (with_reducible apply h_add) | (with_reducible apply h_sub) | (with_reducible apply h_negI) | (with_reducible apply h_wB) | (with_reducible apply h_w1) | (with_reducible apply h_w2) | (with_reducible apply h_run) | ((with_reducible apply h_var); (exact rfl)))
    refine h_eq (wp_ix rfl (atI_0 _ _) _) ?_
    repeat (first | (with_reducible apply h_seq) | (with_reducible apply h_set) | (with_reducible apply h_drop) | (with_reducible apply h_ret) | (with_reducible apply h_next) | (with_reducible apply h_ifS) | (with_reducible apply h_if) | (with_reducible apply h_bin) | (with_reducible apply h_test) | (with_reducible apply h_and) | (with_reducible apply h_or) | (with_reducible apply h_not) | (with_reducible apply h_call) | (with_reducible apply h_nil) | (with_reducible apply h_cons) | (with_reducible apply h_tup) | (with_reducible apply h_lst) | (with_reducible apply h_own) | (with_reducible apply h_un) | (with_reducible apply h_meth) | (with_reducible apply h_meth0) | (with_reducible apply h_ice) | (with_reducible apply h_sl) | (with_reducible apply h_no) | (with_reducible apply h_for) | (with_reducible apply h_it) | (with_reducible apply h_c) | (with_reducible apply h_add) | (with_reducible apply h_sub) | (with_reducible apply h_negI) | (with_reducible apply h_wB) | (with_reducible apply h_w1) | (with_reducible apply h_w2) | (with_reducible apply h_run) | ((with_reducible apply h_var); (exact rfl)))
    refine h_mkL rfl (by simp) ?_
    refine h_eq (wp_ne_nil rfl (good_rw3 _) _) ?_
    refine h_wB ?_
    by_cases hp : pin s0 rest = []
    · have q1 := i1.mp hp
      have q2 := r1 (i2.mp hp)
      subst q2
      rw [if_neg (by rw [hp]; simp), if_pos q1]
      refine h_c ?_
      refine h_eq ne_tree ?_
      refine h_wB ?_
      rw [if_neg (by simp)]
      repeat (first | (with_reducible apply h_seq) | (with_reducible apply h_set) | (with_reducible apply h_drop) | (with_reducible apply h_ret) | (with_reducible apply h_next) | (with_reducible apply h_ifS) | (with_reducible apply h_if) | (with_reducible apply h_bin) | (with_reducible apply h_test) | (with_reducible apply h_and) | (with_reducible apply h_or) | (with_reducible apply h_not) | (with_reducible apply h_call) | (with_reducible apply h_nil) | (with_reducible apply h_cons) | (with_reducible apply h_tup) | (with_reducible apply h_lst) | (with_reducible apply h_own) | (with_reducible apply h_un) | (with_reducible apply h_meth) | (with_reducible apply h_meth0) | (with_reducible apply h_ice) | (with_reducible apply h_sl) | (with_reducible apply h_no) | (with_reducible apply h_for) | (with_reducible apply h_it) | (with_reducible apply h_c) | (with_reducible apply h_add) | (with_reducible apply h_sub) | (with_reducible apply h_negI) | (with_reducible apply h_wB) | (with_reducible apply h_w1) | (with_reducible apply h_w2) | (with_reducible apply h_run) | ((with_reducible apply h_var); (exact rfl)))
      refine h_mkL rfl (by simp) ?_
      refine h_eq (wp_ne_nil rfl (good_rw3 _) _) ?_
      repeat (first | (with_reducible apply h_seq) | (with_reducible apply h_set) | (with_reducible apply h_drop) | (with_reducible apply h_ret) | (with_reducible apply h_next) | (with_reducible apply h_ifS) | (with_reducible apply h_if) | (with_reducible apply h_bin) | (with_reducible apply h_test) | (with_reducible apply h_and) | (with_reducible apply h_or) | (with_reducible apply h_not) | (with_reducible apply h_call) | (with_reducible apply h_nil) | (with_reducible apply h_cons) | (with_reducible apply h_tup) | (with_reducible apply h_lst) | (with_reducible apply h_own) | (with_reducible apply h_un) | (with_reducible apply h_meth) | (with_reducible apply h_meth0) | (with_reducible apply h_ice) | (with_reducible apply h_sl) | (with_reducible apply h_no) | (with_reducible apply h_for) | (with_reducible apply h_it) | (with_reducible apply h_c) | (with_reducible apply h_add) | (with_reducible apply h_sub) | (with_reducible apply h_negI) | (with_reducible apply h_wB) | (with_reducible apply h_w1) | (with_reducible apply h_w2) | (with_reducible apply h_run) | ((with_reducible apply h_var); (exact rfl)))
      refine h_fn2 (by rfl) ?_
      refine h_at efr ?_
      repeat (first | (with_reducible apply h_seq) | (with_reducible apply h_set) | (with_reducible apply h_drop) | (with_reducible apply h_ret) | (with_reducible apply h_next) | (with_reducible apply h_ifS) | (with_reducible apply h_if) | (with_reducible apply h_bin) | (with_reducible apply h_test) | (with_reducible apply h_and) | (with_reducible apply h_or) | (with_reducible apply h_not) | (with_reducible apply h_call) | (with_reducible apply h_nil) | (with_reducible apply h_cons) | (with_reducible apply h_tup) | (with_reducible apply h_lst) | (with_reducible apply h_own) | (with_reducible apply h_un) | (with_reducible apply h_meth) | (with_reducible apply h_meth0) | (with_reducible apply h_ice) | (with_reducible apply h_sl) | (with_reducible apply h_no) | (with_reducible apply h_for) | (with_reducible apply h_it) | (with_reducible apply h_c) | (with_reducible apply h_add) | (with_reducible apply h_sub) | (with_reducible apply h_negI) | (with_reducible apply h_wB) | (with_reducible apply h_w1) | (with_reducible apply h_w2) | (with_reducible apply h_run) | ((with_reducible apply h_var); (exact rfl)))
      refine h_at (show wNotN (.d .non) (.d .non) P2 = .ok (.d (.bl false)) P2 from rfl) ?_
      refine h_eq (wp_neB _ _ _ _) ?_
      refine h_wB ?_
      rw [hp]
      exact ⟨rfl, rfl⟩
    · have q1 : ¬ fines (s0 :: rest) ((rooms (s0 :: rest)).drop 1) = [] := fun z => hp (i1.mpr z)
      obtain ⟨rs, rfl⟩ := r2 fun z => hp (i2.mpr z)
      rw [if_pos (by cases hq : pin s0 rest with
        | nil => exact absurd hq hp
        | cons a l => rfl), if_neg q1]
      refine h_c ?_
      refine h_eq ne_rests ?_
      refine h_wB ?_
      rw [if_neg (by simp)]
      repeat (first | (with_reducible apply h_seq) | (with_reducible apply h_set) | (with_reducible apply h_drop) | (with_reducible apply h_ret) | (with_reducible apply h_next) | (with_reducible apply h_ifS) | (with_reducible apply h_if) | (with_reducible apply h_bin) | (with_reducible apply h_test) | (with_reducible apply h_and) | (with_reducible apply h_or) | (with_reducible apply h_not) | (with_reducible apply h_call) | (with_reducible apply h_nil) | (with_reducible apply h_cons) | (with_reducible apply h_tup) | (with_reducible apply h_lst) | (with_reducible apply h_own) | (with_reducible apply h_un) | (with_reducible apply h_meth) | (with_reducible apply h_meth0) | (with_reducible apply h_ice) | (with_reducible apply h_sl) | (with_reducible apply h_no) | (with_reducible apply h_for) | (with_reducible apply h_it) | (with_reducible apply h_c) | (with_reducible apply h_add) | (with_reducible apply h_sub) | (with_reducible apply h_negI) | (with_reducible apply h_wB) | (with_reducible apply h_w1) | (with_reducible apply h_w2) | (with_reducible apply h_run) | ((with_reducible apply h_var); (exact rfl)))
      refine h_mkL rfl (by simp) ?_
      refine h_eq (wp_ne_nil rfl (good_rw3 _) _) ?_
      repeat (first | (with_reducible apply h_seq) | (with_reducible apply h_set) | (with_reducible apply h_drop) | (with_reducible apply h_ret) | (with_reducible apply h_next) | (with_reducible apply h_ifS) | (with_reducible apply h_if) | (with_reducible apply h_bin) | (with_reducible apply h_test) | (with_reducible apply h_and) | (with_reducible apply h_or) | (with_reducible apply h_not) | (with_reducible apply h_call) | (with_reducible apply h_nil) | (with_reducible apply h_cons) | (with_reducible apply h_tup) | (with_reducible apply h_lst) | (with_reducible apply h_own) | (with_reducible apply h_un) | (with_reducible apply h_meth) | (with_reducible apply h_meth0) | (with_reducible apply h_ice) | (with_reducible apply h_sl) | (with_reducible apply h_no) | (with_reducible apply h_for) | (with_reducible apply h_it) | (with_reducible apply h_c) | (with_reducible apply h_add) | (with_reducible apply h_sub) | (with_reducible apply h_negI) | (with_reducible apply h_wB) | (with_reducible apply h_w1) | (with_reducible apply h_w2) | (with_reducible apply h_run) | ((with_reducible apply h_var); (exact rfl)))
      refine h_fn2 (by rfl) ?_
      refine h_at efr ?_
      repeat (first | (with_reducible apply h_seq) | (with_reducible apply h_set) | (with_reducible apply h_drop) | (with_reducible apply h_ret) | (with_reducible apply h_next) | (with_reducible apply h_ifS) | (with_reducible apply h_if) | (with_reducible apply h_bin) | (with_reducible apply h_test) | (with_reducible apply h_and) | (with_reducible apply h_or) | (with_reducible apply h_not) | (with_reducible apply h_call) | (with_reducible apply h_nil) | (with_reducible apply h_cons) | (with_reducible apply h_tup) | (with_reducible apply h_lst) | (with_reducible apply h_own) | (with_reducible apply h_un) | (with_reducible apply h_meth) | (with_reducible apply h_meth0) | (with_reducible apply h_ice) | (with_reducible apply h_sl) | (with_reducible apply h_no) | (with_reducible apply h_for) | (with_reducible apply h_it) | (with_reducible apply h_c) | (with_reducible apply h_add) | (with_reducible apply h_sub) | (with_reducible apply h_negI) | (with_reducible apply h_wB) | (with_reducible apply h_w1) | (with_reducible apply h_w2) | (with_reducible apply h_run) | ((with_reducible apply h_var); (exact rfl)))
      refine h_at (show wNotN (.d (TI rs)) (.d .non) P2 = .ok (.d (.bl true)) P2 from rfl) ?_
      refine h_eq (wp_neB _ _ _ _) ?_
      refine h_wB ?_
      refine ⟨?_, rfl⟩
      cases hq : pin s0 rest with
      | nil => exact absurd hq hp
      | cons a l => rfl
  rintro b O' ⟨rfl, rfl⟩
  rw [if_neg (by simp)]
  refine h_next ?_
  refine h_seq ?_
  refine h_for ?_
  refine h_it ?_
  refine h_bin ?_
  refine h_sl ?_
  refine h_var rfl ?_
  refine h_no ?_
  refine h_part (n := 1) rfl ?_
  refine h_eq (wp_slL rfl _) ?_
  refine h_sl ?_
  refine h_var rfl ?_
  refine h_part (n := -1) rfl ?_
  refine h_no ?_
  refine h_eq (wp_slL rfl _) ?_
  have hpl : (pin s0 rest).length ≤ 20000 := by
    have := pin_len h0 hs hbnd rest [] (by simp)
    have h2 := hfew (((rooms (s0 :: rest)).drop 1).take rest.length) (((rooms (s0 :: rest)).drop 1).drop rest.length) (List.take_append_drop _ _).symm
    omega
  have c1 := cutD_len ((pin s0 rest).map L3) none (some 1)
  have c2 := cutD_len ((pin s0 rest).map L3) (some (-1)) none
  rw [List.length_map] at c1 c2
  refine h_eq (wp_addL rfl rfl (by omega) _) ?_
  rw [wp_wkL]
  obtain ⟨rs, ers, hrs⟩ := cut_rows (rows := pin s0 rest) (xs := cutD ((pin s0 rest).map L3) none (some 1) ++ cutD ((pin s0 rest).map L3) (some (-1)) none) fun d hd => by
    rcases List.mem_append.mp hd with hd | hd
    · exact cut_sub hd
    · exact cut_sub hd
  refine wp_loopX rs (fun r => .d (L3 r)) (fun _ Γ P' => P' = O' ∧ ∃ b5, Γ = G13 ns k a2 (some (.d (L2' (s0 :: rest)))) (some (.d (LD3 (pin s0 rest)))) b5 a6 a7 a8 a9 a10 a11 a12) (by show List.map W.d (cutD ((pin s0 rest).map L3) none (some 1) ++ cutD ((pin s0 rest).map L3) (some (-1)) none) = _; rw [ers, List.map_map]; rfl) (fun _ _ _ _ => wk_ok) ⟨rfl, _, rfl⟩ ?_ ?_
  · rintro zs row ys Γ P' e ⟨rfl, b5, rfl⟩
    refine ⟨_, rfl, wp_mono (b4 h0 hs hrl (hrs row (mem_of_split e)) rfl) ?_⟩
    rintro r P3 ⟨rfl, rfl⟩
    exact ⟨rfl, _, rfl⟩
  rintro Γ P' ⟨rfl, b5, rfl⟩
  refine h_seq ?_
  refine h_set ?_
  refine h_own ?_
  refine h_nil ?_
  refine h_mkO rfl (by simp) ?_
  refine h_seq ?_
  refine h_for ?_
  refine wp_rngE ?_
  have T3 : Tp (P' ++ [MO.lst []]) j k := T2.push _
  have hkP := T2.klt
  repeat (first | (with_reducible apply h_seq) | (with_reducible apply h_set) | (with_reducible apply h_drop) | (with_reducible apply h_ret) | (with_reducible apply h_next) | (with_reducible apply h_ifS) | (with_reducible apply h_if) | (with_reducible apply h_bin) | (with_reducible apply h_test) | (with_reducible apply h_and) | (with_reducible apply h_or) | (with_reducible apply h_not) | (with_reducible apply h_call) | (with_reducible apply h_nil) | (with_reducible apply h_cons) | (with_reducible apply h_tup) | (with_reducible apply h_lst) | (with_reducible apply h_own) | (with_reducible apply h_un) | (with_reducible apply h_meth) | (with_reducible apply h_meth0) | (with_reducible apply h_ice) | (with_reducible apply h_sl) | (with_reducible apply h_no) | (with_reducible apply h_for) | (with_reducible apply h_it) | (with_reducible apply h_c) | (with_reducible apply h_add) | (with_reducible apply h_sub) | (with_reducible apply h_negI) | (with_reducible apply h_wB) | (with_reducible apply h_w1) | (with_reducible apply h_w2) | (with_reducible apply h_run) | ((with_reducible apply h_var); (exact rfl)))
  refine draw_wp T3 ⟨by decide, far_of (by decide)⟩ fun n2 P4 hm1 hm2 T4 F4 => ?_
  repeat (first | (with_reducible apply h_seq) | (with_reducible apply h_set) | (with_reducible apply h_drop) | (with_reducible apply h_ret) | (with_reducible apply h_next) | (with_reducible apply h_ifS) | (with_reducible apply h_if) | (with_reducible apply h_bin) | (with_reducible apply h_test) | (with_reducible apply h_and) | (with_reducible apply h_or) | (with_reducible apply h_not) | (with_reducible apply h_call) | (with_reducible apply h_nil) | (with_reducible apply h_cons) | (with_reducible apply h_tup) | (with_reducible apply h_lst) | (with_reducible apply h_own) | (with_reducible apply h_un) | (with_reducible apply h_meth) | (with_reducible apply h_meth0) | (with_reducible apply h_ice) | (with_reducible apply h_sl) | (with_reducible apply h_no) | (with_reducible apply h_for) | (with_reducible apply h_it) | (with_reducible apply h_c) | (with_reducible apply h_add) | (with_reducible apply h_sub) | (with_reducible apply h_negI) | (with_reducible apply h_wB) | (with_reducible apply h_w1) | (with_reducible apply h_w2) | (with_reducible apply h_run) | ((with_reducible apply h_var); (exact rfl)))
  have e4 : P4[P'.length]? = some (.lst (([] : List (Int × Int × Int)).map d3)) := by
    have := T2.lt
    rw [F4.at_ _ (by omega) (by omega)]; exact at_end _ _
  refine ⟨1 + n2, rfl, ⟨by omega, by omega⟩, ?_⟩
  refine wp_loopX (List.range (1 + n2).toNat) _ (fun zs Γ Q => ∃ ls, (∀ q ∈ ls, Lng q) ∧ ls.length ≤ zs.length ∧ Q[P'.length]? = some (.lst (ls.map d3)) ∧ Tp Q j k ∧ ∃ b7 b8, Γ = G13 ns k a2 (some (.d (L2' (s0 :: rest)))) (some (.d (LD3 (pin s0 rest)))) b5 (some (.own P'.length)) b7 b8 a9 a10 a11 a12) (rng01 _) (fun _ _ _ _ => wk_ok) ⟨[], fun q hq => (by cases hq), by simp, e4, T4, _, _, rfl⟩ ?_ ?_
  · rintro zs lap ys Γ Q e ⟨ls, hls, hll, hQ, TQ, b7, b8, rfl⟩
    have hzl : zs.length < 6 := by
      have := congrArg List.length e
      simp at this; omega
    refine ⟨_, rfl, wp_mono (b3 TQ hkP hls (by omega) hQ) ?_⟩
    rintro ⟨fl, Γ2⟩ P5 hr
    cases fl with
    | nx =>
      obtain ⟨⟨p, hp, hp2⟩, T5, _, b8', rfl⟩ := hr
      refine ⟨ls ++ [p], fun q hq => ?_, by simp; omega, hp2, T5, _, _, rfl⟩
      rcases List.mem_append.mp hq with hq | hq
      · exact hls q hq
      · rw [List.mem_singleton.mp hq]; exact hp
    | _ => exact hr.elim
  rintro Γ Q ⟨ls, hls, hll, hQ, TQ, b7, b8, rfl⟩
  have hll : ls.length ≤ 10 := by simp at hll; omega
  refine h_seq ?_
  refine while20 TQ hkP hls hll hQ fun l2 Q2 hl2 hl2n hl2t hQ2 TQ2 => ?_
  refine h_seq ?_
  refine h_ifS ?_
  refine h_test ?_
  refine h_bin ?_
  refine h_var rfl ?_
  refine h_lst ?_
  refine h_nil ?_
  refine h_mkL rfl (by simp) ?_
  refine h_eq (wp_eq_nil (wQ_own hQ2) (good_d3 l2) _) ?_
  refine h_wB ?_
  by_cases hn : l2 = []
  · rw [if_pos (by rw [hn]; rfl)]
    refine h_set ?_
    refine h_own ?_
    refine h_cons ?_
    refine h_tup ?_
    repeat (first | (with_reducible apply h_seq) | (with_reducible apply h_set) | (with_reducible apply h_drop) | (with_reducible apply h_ret) | (with_reducible apply h_next) | (with_reducible apply h_ifS) | (with_reducible apply h_if) | (with_reducible apply h_bin) | (with_reducible apply h_test) | (with_reducible apply h_and) | (with_reducible apply h_or) | (with_reducible apply h_not) | (with_reducible apply h_call) | (with_reducible apply h_nil) | (with_reducible apply h_cons) | (with_reducible apply h_tup) | (with_reducible apply h_lst) | (with_reducible apply h_own) | (with_reducible apply h_un) | (with_reducible apply h_meth) | (with_reducible apply h_meth0) | (with_reducible apply h_ice) | (with_reducible apply h_sl) | (with_reducible apply h_no) | (with_reducible apply h_for) | (with_reducible apply h_it) | (with_reducible apply h_c) | (with_reducible apply h_add) | (with_reducible apply h_sub) | (with_reducible apply h_negI) | (with_reducible apply h_wB) | (with_reducible apply h_w1) | (with_reducible apply h_w2) | (with_reducible apply h_run) | ((with_reducible apply h_var); (exact rfl)))
    refine h_mkT rfl (by simp) ?_
    refine h_nil ?_
    refine h_mkO rfl (by simp) ?_
    have hL : ∀ q ∈ [((0 : Int), (2 : Int), (1 : Int))], Lng q := fun q hq => by
      rw [List.mem_singleton.mp hq]
      exact ⟨⟨by decide, by decide⟩, ⟨by decide, by decide⟩, by decide, by decide⟩
    refine tail9 (TQ2.push _) TQ2.klt hL (by simp) (by simp) (by decide) (at_end _ _) fun P6 T6 => ?_
    refine loop10 T6 hL (by simp) (by simp) (by decide) fun Γ P7 ⟨c2, c3, c4, c5, c7, c8, c10, c11, c12, e⟩ T7 => ?_
    subst e
    exact ⟨⟨_, _, _, _, _, _, _, _, _, _, _, rfl⟩, T7⟩
  · rw [if_neg (by cases l2 with
      | nil => exact absurd rfl hn
      | cons a l => simp)]
    refine h_next ?_
    refine tail9 TQ2 hkP hl2 hn hl2n hl2t hQ2 fun P6 T6 => ?_
    refine loop10 T6 hl2 hn hl2n hl2t fun Γ P7 ⟨c2, c3, c4, c5, c7, c8, c10, c11, c12, e⟩ T7 => ?_
    subst e
    exact ⟨⟨_, _, _, _, _, _, _, _, _, _, _, rfl⟩, T7⟩
theorem f_law {ns : List Int} (hl : ns.length ≤ 1000) : wp (F_law A [.d (.scr ns)]) [] fun w P => w = .d (.bl true) := by
  unfold F_law d_law
  repeat (first | (with_reducible apply h_seq) | (with_reducible apply h_set) | (with_reducible apply h_drop) | (with_reducible apply h_ret) | (with_reducible apply h_next) | (with_reducible apply h_ifS) | (with_reducible apply h_if) | (with_reducible apply h_bin) | (with_reducible apply h_test) | (with_reducible apply h_and) | (with_reducible apply h_or) | (with_reducible apply h_not) | (with_reducible apply h_call) | (with_reducible apply h_nil) | (with_reducible apply h_cons) | (with_reducible apply h_tup) | (with_reducible apply h_lst) | (with_reducible apply h_own) | (with_reducible apply h_un) | (with_reducible apply h_meth) | (with_reducible apply h_meth0) | (with_reducible apply h_ice) | (with_reducible apply h_sl) | (with_reducible apply h_no) | (with_reducible apply h_for) | (with_reducible apply h_it) | (with_reducible apply h_c) | (with_reducible apply h_add) | (with_reducible apply h_sub) | (with_reducible apply h_negI) | (with_reducible apply h_wB) | (with_reducible apply h_w1) | (with_reducible apply h_w2) | (with_reducible apply h_run) | ((with_reducible apply h_var); (exact rfl)))
  refine h_fn2 (by rfl) ?_
  refine wp_mono (f_begun hl) ?_
  rintro w P ⟨j, k, rfl, T⟩
  refine h_seq ?_
  refine h_for ?_
  refine wp_rng1 (j := 3 + min (ns.length : Int) 5) ?_
  repeat (first | (with_reducible apply h_seq) | (with_reducible apply h_set) | (with_reducible apply h_drop) | (with_reducible apply h_ret) | (with_reducible apply h_next) | (with_reducible apply h_ifS) | (with_reducible apply h_if) | (with_reducible apply h_bin) | (with_reducible apply h_test) | (with_reducible apply h_and) | (with_reducible apply h_or) | (with_reducible apply h_not) | (with_reducible apply h_call) | (with_reducible apply h_nil) | (with_reducible apply h_cons) | (with_reducible apply h_tup) | (with_reducible apply h_lst) | (with_reducible apply h_own) | (with_reducible apply h_un) | (with_reducible apply h_meth) | (with_reducible apply h_meth0) | (with_reducible apply h_ice) | (with_reducible apply h_sl) | (with_reducible apply h_no) | (with_reducible apply h_for) | (with_reducible apply h_it) | (with_reducible apply h_c) | (with_reducible apply h_add) | (with_reducible apply h_sub) | (with_reducible apply h_negI) | (with_reducible apply h_wB) | (with_reducible apply h_w1) | (with_reducible apply h_w2) | (with_reducible apply h_run) | ((with_reducible apply h_var); (exact rfl)))
  refine h_at (show wLen (.d (.scr ns)) P = .ok (.d (.int ns.length)) P from rfl) ?_
  repeat (first | (with_reducible apply h_seq) | (with_reducible apply h_set) | (with_reducible apply h_drop) | (with_reducible apply h_ret) | (with_reducible apply h_next) | (with_reducible apply h_ifS) | (with_reducible apply h_if) | (with_reducible apply h_bin) | (with_reducible apply h_test) | (with_reducible apply h_and) | (with_reducible apply h_or) | (with_reducible apply h_not) | (with_reducible apply h_call) | (with_reducible apply h_nil) | (with_reducible apply h_cons) | (with_reducible apply h_tup) | (with_reducible apply h_lst) | (with_reducible apply h_own) | (with_reducible apply h_un) | (with_reducible apply h_meth) | (with_reducible apply h_meth0) | (with_reducible apply h_ice) | (with_reducible apply h_sl) | (with_reducible apply h_no) | (with_reducible apply h_for) | (with_reducible apply h_it) | (with_reducible apply h_c) | (with_reducible apply h_add) | (with_reducible apply h_sub) | (with_reducible apply h_negI) | (with_reducible apply h_wB) | (with_reducible apply h_w1) | (with_reducible apply h_w2) | (with_reducible apply h_run) | ((with_reducible apply h_var); (exact rfl)))
  refine h_eq (wp_min2 _ _ _ _) ?_
  repeat (first | (with_reducible apply h_seq) | (with_reducible apply h_set) | (with_reducible apply h_drop) | (with_reducible apply h_ret) | (with_reducible apply h_next) | (with_reducible apply h_ifS) | (with_reducible apply h_if) | (with_reducible apply h_bin) | (with_reducible apply h_test) | (with_reducible apply h_and) | (with_reducible apply h_or) | (with_reducible apply h_not) | (with_reducible apply h_call) | (with_reducible apply h_nil) | (with_reducible apply h_cons) | (with_reducible apply h_tup) | (with_reducible apply h_lst) | (with_reducible apply h_own) | (with_reducible apply h_un) | (with_reducible apply h_meth) | (with_reducible apply h_meth0) | (with_reducible apply h_ice) | (with_reducible apply h_sl) | (with_reducible apply h_no) | (with_reducible apply h_for) | (with_reducible apply h_it) | (with_reducible apply h_c) | (with_reducible apply h_add) | (with_reducible apply h_sub) | (with_reducible apply h_negI) | (with_reducible apply h_wB) | (with_reducible apply h_w1) | (with_reducible apply h_w2) | (with_reducible apply h_run) | ((with_reducible apply h_var); (exact rfl)))
  refine ⟨rfl, ⟨by omega, by omega⟩, ?_⟩
  refine wp_loopX (List.range _) _ (fun _ Γ Q => (∃ a2 a3 a4 a5 a6 a7 a8 a9 a10 a11 a12, Γ = G13 ns k a2 a3 a4 a5 a6 a7 a8 a9 a10 a11 a12) ∧ Tp Q j k) (rng01 _) (fun _ _ _ _ => wk_ok) ⟨⟨_, _, _, _, _, _, _, _, _, _, _, rfl⟩, T⟩ ?_ ?_
  · rintro zs lap ys Γ Q e ⟨⟨a2, a3, a4, a5, a6, a7, a8, a9, a10, a11, a12, rfl⟩, TQ⟩
    refine ⟨_, rfl, wp_mono (b5 TQ) ?_⟩
    rintro ⟨fl, Γ2⟩ P2 hr
    cases fl with
    | nx => exact hr
    | _ => exact hr.elim
  · rintro Γ Q ⟨⟨a2, a3, a4, a5, a6, a7, a8, a9, a10, a11, a12, rfl⟩, TQ⟩
    repeat (first | (with_reducible apply h_seq) | (with_reducible apply h_set) | (with_reducible apply h_drop) | (with_reducible apply h_ret) | (with_reducible apply h_next) | (with_reducible apply h_ifS) | (with_reducible apply h_if) | (with_reducible apply h_bin) | (with_reducible apply h_test) | (with_reducible apply h_and) | (with_reducible apply h_or) | (with_reducible apply h_not) | (with_reducible apply h_call) | (with_reducible apply h_nil) | (with_reducible apply h_cons) | (with_reducible apply h_tup) | (with_reducible apply h_lst) | (with_reducible apply h_own) | (with_reducible apply h_un) | (with_reducible apply h_meth) | (with_reducible apply h_meth0) | (with_reducible apply h_ice) | (with_reducible apply h_sl) | (with_reducible apply h_no) | (with_reducible apply h_for) | (with_reducible apply h_it) | (with_reducible apply h_c) | (with_reducible apply h_add) | (with_reducible apply h_sub) | (with_reducible apply h_negI) | (with_reducible apply h_wB) | (with_reducible apply h_w1) | (with_reducible apply h_w2) | (with_reducible apply h_run) | ((with_reducible apply h_var); (exact rfl)))
    rfl
end L74


set_option maxRecDepth 100000
set_option maxHeartbeats 0
namespace L74
open PySem PySem.Spec PyProof.Rows L2 VL
theorem def0F {P : Program} {wd : World} {K : PySem.W.Frag} {mg : Str → Option Value} {base : Heap} {x qual : Str} {params : Arguments} {body : List Stmt} {scope : Scope} {dvs : List V} {a : Addr} {fd : FuncData} {N ps : List Str} {k n m : Nat} {b : DS} {f : List W → M W}
    (F : FunD K x qual params body scope dvs [] a fd) (S : FnScope N ps scope) (hn : ps.length = n) (hm : N.length - n = m)
    (hf : ∀ (c : Cf) (H : Hp) (ws : List W) (Q : VK), Rel K c H → PW_ K EF c Q (f ws c.O) → PW_ K EF c Q (runB m b ws c.O))
    (hbody : ∀ (cdv : Value) (A : Around) (outer : List Env) (s : Shared) (H : Hp) (E : XK), Room k (A.deeper (envOfC qual scope s.heap.objs.size a cdv)) → PSs (cxOf CX0 P wd K mg base N qual scope a cdv A outer s H E).nox body (VS K EF b)) :
    FnOk P wd K mg base CX0 (k + 1) a fd ps (sp0 K n f) := by
  refine F.ok S (fun vs H Q E h => ?_) (fun cdv A outer s H vs Q E hr h => ?_)
  · obtain ⟨c, ws, _, r, e, _⟩ := h
    rw [← r.length, e, hn]
  · obtain ⟨c, ws, rel, r, e, p⟩ := h
    refine ⟨VS K EF b, PSs.nox (hbody cdv A outer s H E hr), c, _, rel, renv_start r N (m := m) (by rw [← r.length, e, hm]), run_post (hf c H ws Q rel p)⟩
section
variable {P : Program} {wd : World} {K : PySem.W.Frag} {mg : Str → Option Value} {base : Heap}
theorem D_lawF (h : Fx K mg) {fd : FuncData} (F : FunD K "law" "law" (defArgs s_law) (defBody s_law) (defScope s_law) [] [] (He.ga K "law") fd) : FnOk P wd K mg base CX0 7 (He.ga K "law") fd ["script"] (sp0 K 1 (F_law (He.ga K))) := by
  refine def0F F sc_law rfl rfl (fun c H ws Q rel p => body_C rel p) fun cdv Ar outer s H E hr => ?_
  have SN := (sc_law).nd
  exact (b_cons (c_set (i := 1) SN rfl (by first | exact .inl rfl | exact .inr rfl) (c_fn (D_z_begun h) hr h.g_z_begun (a_cons (cv 0) a_nil)))
  (b_cons (c_for PassesOwn.never rfl (i_range1 (by rfl) h.b_range (a_cons (c_op op_addV s_add ci (c_blt (call_min2 (by rfl)) s_min2 (by rfl) h.b_min (by decide +kernel) (a_cons (c_blt call_len_seq s_len (by rfl) h.b_len (by decide +kernel) (a_cons (cv 0) a_nil)) (a_cons ci a_nil)))) a_nil)) (g_nm (i := 2) SN rfl (by first | exact .inl rfl | exact .inr rfl))
  (b_cons (c_set (i := 3) SN rfl (by first | exact .inl rfl | exact .inr rfl) (c_fn (D_z_some_sizes h) hr h.g_z_some_sizes (a_cons (cv 1) (a_cons (c_op op_addV s_add ci (c_fn (D_z_draw h) hr h.g_z_draw (a_cons (cv 1) (a_cons ci a_nil)))) (a_cons ci a_nil)))))
  (b_cons (c_set (i := 4) SN rfl (by first | exact .inl rfl | exact .inr rfl) (c_fn (D_z_put_in h) hr h.g_z_put_in (a_cons (cv 3) a_nil)))
  (b_cons (c_ifS (PW.pt (w_or (t_cmp (op_neD hr.units) s_ne (c_ix (c_fn (D_rests_paper h) hr h.g_rests_paper (a_cons (cv 3) a_nil)) ci) (c_if (t_cmp (op_neD hr.units) s_ne (cv 4) (c_lst a_nil)) cs cs)) (w_or1 (t_cmp (op_neD hr.units) s_ne (c_cmp (op_neD hr.units) s_ne (cv 4) (c_lst a_nil)) (c_cmp op_notN s_notN (c_fn (D_z_found_rests h) hr h.g_z_found_rests (a_cons (cv 3) a_nil)) cn)))))
  (b_one (c_ret cb))
  b_nil)
  (b_cons (c_for PassesOwn.never rfl (i_seq (c_op op_addV s_add (c_slL (cv 4) o_no (o_some ci)) (c_slL (cv 4) (o_some (c_neg ci)) o_no))) (g_nm (i := 5) SN rfl (by first | exact .inl rfl | exact .inr rfl))
  (b_one (c_ifS (PW.pt (w_or (t_cmp (op_neD hr.units) s_ne (c_fn (D_clashing h) hr h.g_clashing (a_cons (cv 5) a_nil)) (c_lst a_nil)) (w_or1 (PW.pt (w_and (t_cmp op_le s_le (c_fn (D_z_round h) hr h.g_z_round (a_cons (cv 5) a_nil)) ci) (w_and1 (t_cmp (op_neD hr.units) s_ne (c_ix (c_fn (D_most_long h) hr h.g_most_long (a_cons (cv 5) a_nil)) ci) ci)))))))
  (b_one (c_ret cb))
  b_nil)))
  (b_cons (c_set (i := 6) SN rfl (by first | exact .inl rfl | exact .inr rfl) (c_own a_nil))
  (b_cons (c_for PassesOwn.never rfl (i_range1 (by rfl) h.b_range (a_cons (c_op op_addV s_add ci (c_fn (D_z_draw h) hr h.g_z_draw (a_cons (cv 1) (a_cons ci a_nil)))) a_nil)) (g_nm (i := 7) SN rfl (by first | exact .inl rfl | exact .inr rfl))
  (b_cons (c_set (i := 8) SN rfl (by first | exact .inl rfl | exact .inr rfl) (c_fn (D_z_some_long h) hr h.g_z_some_long (a_cons (cv 1) a_nil)))
  (b_one (c_expr ((pe_bm PySem.F.plainAttrs_list PySem.F.slot_list_append PySem.F.type_list_append mt_append (cv 6) (a_cons (c_tup (a_cons (c_ix (cv 8) ci) (a_cons (c_ix (cv 8) ci) (a_cons (c_blt (call_min3Nu (by rfl)) s_min3 (by rfl) h.b_min (by decide +kernel) (a_cons (c_ix (cv 8) ci) (a_cons (c_op op_addV s_add ci (c_fn (D_z_draw h) hr h.g_z_draw (a_cons (cv 1) (a_cons ci a_nil)))) (a_cons (c_ix (cv 8) ci) a_nil)))) a_nil)))) a_nil)).imp fun _ _ _ => v_meth s_append)))))
  (b_cons (c_while PassesOwn.never (t_cmp op_gt s_gt (c_blt (cr_sum (by rfl)) s_sum (by rfl) h.b_sum (by decide +kernel) (a_cons (c_lc rfl SN (i_seq (cv 6)) (own := [("job", 8)]) (blkOk_by (by kernel_rfl)) (fun _ _ _ _ _ => (g_nm (i := 8) SN rfl (by first | exact .inl rfl | exact .inr rfl))) (fun _ _ _ _ _ => ts_nil) (fun _ _ _ _ _ => (c_ix (cv 8) ci))) a_nil)) ci)
  (b_one (c_expr ((pe_bm0 PySem.F.plainAttrs_list PySem.F.slot_list_pop PySem.F.type_list_pop mt_pop (cv 6)).imp fun _ _ _ => v_meth0 s_pop))))
  (b_cons (c_ifS (t_cmp (op_eqD hr.units) s_eq (cv 6) (c_lst a_nil))
  (b_one (c_set (i := 6) SN rfl (by first | exact .inl rfl | exact .inr rfl) (c_own (a_cons (c_tup (a_cons ci (a_cons ci (a_cons ci a_nil)))) a_nil))))
  b_nil)
  (b_frz (i := 6) (b_cons (c_set (i := 9) SN rfl (by first | exact .inl rfl | exact .inr rfl) (c_make h.m_Table (D_Table_init h) hr h.g_Table (a_cons (c_fn (D_z_singles h) hr h.g_z_singles (a_cons (c_ice (cv 6)) a_nil)) a_nil)))
  (b_one (c_for PassesOwn.never rfl (i_seq (c_lst (a_cons (c_op op_sub s_sub (c_fn (D_z_draw h) hr h.g_z_draw (a_cons (cv 1) (a_cons (c_op op_pow s_pow ci ci) a_nil))) (c_op op_pow s_pow ci ci)) (a_cons (c_ix (c_ix (cv 6) ci) ci) (a_cons (c_op op_addV s_add (c_ix (c_ix (cv 6) (c_neg ci)) ci) (c_ix (c_ix (cv 6) (c_neg ci)) ci)) (a_cons ci a_nil)))))) (g_nm (i := 10) SN rfl (by first | exact .inl rfl | exact .inr rfl))
  (b_cons (c_set (i := 11) SN rfl (by first | exact .inl rfl | exact .inr rfl) (c_blt call_len_seq s_len (by rfl) h.b_len (by decide +kernel) (a_cons (c_lc rfl SN (i_seq (cv 6)) (own := [("job", 8)]) (blkOk_by (by kernel_rfl)) (fun _ _ _ _ _ => (g_nm (i := 8) SN rfl (by first | exact .inl rfl | exact .inr rfl))) (fun _ _ _ _ _ => (ts_one (t_val (c_fn (D_runs_then h) hr h.g_runs_then (a_cons (cv 8) (a_cons (cv 10) a_nil)))))) (fun _ _ _ _ _ => ci)) a_nil)))
  (b_cons (c_ifS (PW.pt (w_or (t_cmp (op_neD hr.units) s_ne (cv 11) (c_blt call_len_seq s_len (by rfl) h.b_len (by decide +kernel) (a_cons (c_lc rfl SN (i_seq (cv 6)) (own := [("job", 8)]) (blkOk_by (by kernel_rfl)) (fun _ _ _ _ _ => (g_nm (i := 8) SN rfl (by first | exact .inl rfl | exact .inr rfl))) (fun _ _ _ _ _ => (ts_one (t_val (c_fn (D_z_busy h) hr h.g_z_busy (a_cons (cv 8) (a_cons (cv 10) a_nil)))))) (fun _ _ _ _ _ => ci)) a_nil))) (w_or1 (t_cmp (op_neD hr.units) s_ne (c_fn (D_count_at h) hr h.g_count_at (a_cons (cv 9) (a_cons (cv 10) a_nil))) (cv 11)))))
  (b_one (c_ret cb))
  b_nil)
  (b_cons (c_set (i := 12) SN rfl (by first | exact .inl rfl | exact .inr rfl) (c_op op_addV s_add (cv 10) (c_fn (D_z_draw h) hr h.g_z_draw (a_cons (cv 1) (a_cons (c_op op_pow s_pow ci ci) a_nil)))))
  (b_one (c_ifS (t_cmp (op_neD hr.units) s_ne (c_fn (D_total_in h) hr h.g_total_in (a_cons (cv 9) (a_cons (cv 10) (a_cons (cv 12) a_nil)))) (c_blt (cr_sum (by rfl)) s_sum (by rfl) h.b_sum (by decide +kernel) (a_cons (c_lc rfl SN (i_seq (cv 6)) (own := [("job", 8)]) (blkOk_by (by kernel_rfl)) (fun _ _ _ _ _ => (g_nm (i := 8) SN rfl (by first | exact .inl rfl | exact .inr rfl))) (fun _ _ _ _ _ => ts_nil) (fun _ _ _ _ _ => (c_fn (D_moments_in h) hr h.g_moments_in (a_cons (cv 8) (a_cons (cv 10) (a_cons (cv 12) a_nil)))))) a_nil)))
  (b_one (c_ret cb))
  b_nil))))))))))))))))))
  (b_one (c_ret cb))))
end
def spL (K : PySem.W.Frag) : Sp := sp0 K 1 (F_law (He.ga K))
theorem spL_ok {K : PySem.W.Frag} {H : Hp} {a : Addr} {ns : List Int} (hl : ns.length ≤ 63) (hS : SqL K H a (ns.map V.int)) : spL K [.ref a] H (fun v _ => v = .bl true) fun _ _ _ => False := by
  refine ⟨⟨H, [], [], fun _ => none⟩, [.d (.scr ns)], ⟨Ext.rfl, rfl, fun k m b h => (by cases h), fun k1 k2 m1 m2 b h => (by cases h), fun b o h => (by cases h), fun k m h => (by cases h)⟩, .cons ⟨a, rfl, hS⟩ .nil, rfl, ?_⟩
  have h := f_law (A := He.ga K) (ns := ns) (by omega)
  obtain ⟨w, O', e, hw⟩ := wp_out h
  subst hw
  show Post K EF _ _ (F_law (He.ga K) [.d (.scr ns)] [])
  rw [e]
  intro c' H' _ _ _ v rv
  exact rw_bl rv
theorem facts {P : Program} {w : World} {K : PySem.W.Frag} {h : Heap} {mg : Str → Option Value} {f : Addr} (X : K.In h) (G : h.Ns mainGlobals mg) (hfa : mg ("law" : Str) = some (.ref f)) (c : VH.SaysG fa fn K) :
    ∃ fd : FuncData, (∀ (s : Shared) (v : Value), BindsTo s fd ⟨[v], []⟩ [("script", v)]) ∧ ∀ base : Heap, K.In base → base.Ns mainGlobals mg → FnOk P w K mg base CX0 7 f fd ["script"] (spL K) := by
  have hx := fx_of X G c
  obtain ⟨fd, F⟩ := hx.d_law
  have e := hfa.symm.trans (He.glo_ok X G (c.fact 81 (f := fun K => (He.Fa.glo "law").ok K) rfl))
  cases e
  have b := FunD.bindsA (ps := ["script"]) F fun _ _ _ _ _ _ us hl => match us, hl with | [_], _ => rfl
  exact ⟨fd, fun s v => b s [v] rfl, fun base _ _ => D_lawF hx F⟩
end L74


set_option maxRecDepth 100000
set_option maxHeartbeats 0
open PySem PySem.W PySem.Calls PyProof.Rows
theorem PySem.Challenge.cw_turnscover_k74_whole_jobs_put_in_one_by_holds : PySem.Challenge.rw_turnscover_k74_whole_jobs_put_in_one_by.Holds := by
  w_on; o_law
  refine HandSHeadRun.head_any (r := OpenLaw.row PySem.Challenge.rw_turnscover_k74_whole_jobs_put_in_one_by) (q := view (OpenLaw.row PySem.Challenge.rw_turnscover_k74_whole_jobs_put_in_one_by).prog [86]) (H := L74.hk) (ob := L74.ob) (M := 6000) (loose := L74.loose) (d := HandSHeadRun.topDef (OpenLaw.row PySem.Challenge.rw_turnscover_k74_whole_jobs_put_in_one_by).prog 86) (kwd := []) L74.ob_eq
    (by kernel_rfl) (fun s => by kernel_rfl) L74.run (by kernel_rfl) (by kernel_rfl) (by kernel_rfl) (by rfl) (by first | assumption | decide +kernel) (by decide +kernel) ⟨rfl, rfl, rfl, rfl, rfl, by decide +kernel⟩ ?hw ?hc
  case hw => w_witness2
  case hc =>
    refine L2.walk_ofE (l := PySem.Challenge.rw_turnscover_k74_whole_jobs_put_in_one_by) (n := 63) (k := 7) (x := "script") (CX := L2.CX0) rfl (by decide) (by kernel_rfl) ⟨rfl, by decide, by decide⟩ ?F (fun _ _ _ _ z => z)
    intro w mg fa h Y G hmg0
    obtain ⟨K, KX, c⟩ := Y
    have hmg : mg ("law" : PySem.Str) = some (.ref fa) := by
      have e : (HandSHeadRun.topDef (OpenLaw.row PySem.Challenge.rw_turnscover_k74_whole_jobs_put_in_one_by).prog 86).name = ("law" : PySem.Str) := by kernel_rfl
      rw [← e]
      exact hmg0
    obtain ⟨fd, hb, hF⟩ := L74.facts (P := (PySem.Challenge.rw_turnscover_k74_whole_jobs_put_in_one_by).prog) (w := w) KX G hmg c
    exact ⟨K, fd, L74.spL K, KX, hb, fun H a ns hl _ hS => L74.spL_ok hl hS, hF⟩

