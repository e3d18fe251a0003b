import PyProof.Rows.All
import Wide.All
import OpenK.AllK
import Wide.FinOn
import HandS.ForMost
import HandS.Exc
import HandS.Wide
import HandS.TupAny
import HandS.TupMul
import HandS.Deep
import HandS.IsInst
import HandS.Flow
import HandS.Zip
import HandS.WordsExc
import HandS.Conv
import HandS.SortInts
import HandS.Style
import HandS.HeadHook1
import HandS.Defaults
import HandS.Ends
import HandS.HeadHook3
import HandS.HeadHook4
import HandS.Codes
import KE.KStateDown
import Lean
import HandS.Base
import HandS.Call
import HandS.More
import HandS.Words
import HandS.Head0
import HandS.Head1
import HandS.Head2
import HandS.HeadEnd
import HandS.HeadHook2
import PySem.Challenge.RW_wireroads_k03_whole_reduced_tables_ranks
section
set_option Elab.async false
set_option linter.all false
set_option maxRecDepth 100000
set_option maxHeartbeats 4000000
/-! Core A of ours: plain values, the plain store, how they lie in the tracked heap. -/
namespace Wv
open PySem PySem.Spec L2
open PyProof.Rows hiding St

inductive W where
  | non
  | bl (b : Bool)
  | int (i : Int)
  | str (x : Str)
  | tup (xs : List W)
  | ref (n : Nat)
  | glo (x : Str)
  | kls (xs : List W)
  deriving Inhabited

inductive Ob where
  | lst (xs : List W)
  | dic (kvs : List (Key × W))
abbrev Store := List Ob

structure Base where
  K : PySem.W.Frag
  G : Str → Option V

/-- a list that stays as it is: the script -/
def KL (K : PySem.W.Frag) (H : Hp) (a : Addr) (xs : List V) : Prop := (∃ o, H a = some (.frz o (.lst xs))) ∨ ∃ (o : Obj) (its : Array Value) (n : Nat), K.lookup a = some o ∧ o.cls = .type "list" ∧ o.dict = none ∧ o.data = .seq its n ∧ its.size ≤ sizeLine ∧ Vals xs its.toList
mutual
def rep (B : Base) (m : List Addr) (H : Hp) : W → V → Prop
  | .non, v => v = .non
  | .bl b, v => v = .bl b
  | .int i, v => v = .int i
  | .str x, v => v = .str x
  | .tup ws, v => ∃ a vs, v = .ref a ∧ SqT B.K H a vs ∧ reps B m H ws vs
  | .ref n, v => ∃ a, v = .ref a ∧ m[n]? = some a
  | .glo x, v => B.G x = some v
  | .kls ws, v => ∃ a vs, v = .ref a ∧ KL B.K H a vs ∧ reps B m H ws vs
def reps (B : Base) (m : List Addr) (H : Hp) : List W → List V → Prop
  | [], vs => vs = []
  | w :: ws, vs => ∃ v r, vs = v :: r ∧ rep B m H w v ∧ reps B m H ws r
end

/-- pairs of a dict -/
def repk (B : Base) (m : List Addr) (H : Hp) : List (Key × W) → List (Key × V) → Prop
  | [], vs => vs = []
  | p :: ws, vs => ∃ v r, vs = (p.1, v) :: r ∧ rep B m H p.2 v ∧ repk B m H ws r

def obOk (B : Base) (m : List Addr) (H : Hp) : Ob → Addr → Prop
  | .lst ws, a => ∃ vs, H a = some (.lst vs) ∧ reps B m H ws vs
  | .dic kvs, a => ∃ vs, H a = some (.dK vs) ∧ repk B m H kvs vs

structure Sim (B : Base) (m : List Addr) (h : Store) (H : Hp) : Prop where
  len : m.length = h.length
  nd : m.Nodup
  ob : ∀ (n : Nat) (a : Addr) (o : Ob), m[n]? = some a → h[n]? = some o → obOk B m H o a

/-- the tuples stay -/
structure TupIn (H H' : Hp) : Prop where
  t : ∀ a xs, Rd H a (.tup xs) → Rd H' a (.tup xs)
  f : ∀ a o u, H a = some (.frz o u) → H' a = some (.frz o u)
/-- what a piece of the run leaves alone -/
structure Go (m : List Addr) (H : Hp) (m' : List Addr) (H' : Hp) : Prop where
  pre : ∃ t, m' = m ++ t ∧ ∀ a ∈ t, H a = none
  keep : ∀ a o, H a = some o → a ∉ m → H' a = some o
  tup : TupIn H H'

section
variable {B : Base} {m m' m1 m2 : List Addr} {H H' H1 H2 : Hp} {h h' : Store}
theorem TupIn.refl : TupIn H H := ⟨fun _ _ e => e, fun _ _ _ e => e⟩
theorem TupIn.trans (a : TupIn H H1) (b : TupIn H1 H2) : TupIn H H2 := ⟨fun x xs e => b.t x xs (a.t x xs e), fun x o u e => b.f x o u (a.f x o u e)⟩
theorem Go.refl : Go m H m H := ⟨⟨[], (List.append_nil m).symm, fun _ z => nomatch z⟩, fun _ _ e _ => e, TupIn.refl⟩
theorem Go.trans (nd : m2.Nodup) (a : Go m H m1 H1) (b : Go m1 H1 m2 H2) : Go m H m2 H2 := by
  obtain ⟨t1, e1, f1⟩ := a.pre
  obtain ⟨t2, e2, f2⟩ := b.pre
  refine ⟨⟨t1 ++ t2, by rw [e2, e1, List.append_assoc], fun x hx => ?_⟩, fun x o e hm => ?_, a.tup.trans b.tup⟩
  · rcases List.mem_append.mp hx with hx | hx
    · exact f1 x hx
    · have z := f2 x hx
      cases q : H x with
      | none => rfl
      | some o =>
        by_cases hm : x ∈ m
        · exfalso
          rw [e2, e1] at nd
          exact (List.nodup_append.mp nd).2.2 x (List.mem_append_left _ hm) x hx rfl
        · rw [a.keep x o q hm] at z
          cases z
  · refine b.keep x o (a.keep x o e hm) fun z => ?_
    rw [e1] at z
    rcases List.mem_append.mp z with z | z
    · exact hm z
    · rw [f1 x z] at e
      cases e
theorem SqT.stay {K : PySem.W.Frag} {a : Addr} {xs : List V} (q : SqT K H a xs) (t : TupIn H H') : SqT K H' a xs := by
  rcases q with q | q
  · exact .inl (t.t _ _ q)
  · exact .inr q
theorem KL.stay {K : PySem.W.Frag} {a : Addr} {xs : List V} (q : KL K H a xs) (t : TupIn H H') : KL K H' a xs := by
  rcases q with ⟨o, q⟩ | q
  · exact .inl ⟨o, t.f _ _ _ q⟩
  · exact .inr q
mutual
theorem rep.stay (t : TupIn H H') (p : ∃ r, m' = m ++ r) : ∀ (w : W) (v : V), rep B m H w v → rep B m' H' w v
  | .non, v, q => by unfold rep at q ⊢; exact q
  | .bl _, v, q => by unfold rep at q ⊢; exact q
  | .int _, v, q => by unfold rep at q ⊢; exact q
  | .str _, v, q => by unfold rep at q ⊢; exact q
  | .glo _, v, q => by unfold rep at q ⊢; exact q
  | .kls ws, v, q => by
    unfold rep at q ⊢
    obtain ⟨a, vs, e, s, z⟩ := q
    exact ⟨a, vs, e, KL.stay s t, reps.stay t p ws vs z⟩
  | .ref n, v, q => by
    unfold rep at q ⊢
    obtain ⟨a, e, z⟩ := q
    obtain ⟨r, rfl⟩ := p
    exact ⟨a, e, by rw [List.getElem?_append_left (List.getElem?_eq_some_iff.mp z).1]; exact z⟩
  | .tup ws, v, q => by
    unfold rep at q ⊢
    obtain ⟨a, vs, e, s, z⟩ := q
    exact ⟨a, vs, e, SqT.stay s t, reps.stay t p ws vs z⟩
theorem reps.stay (t : TupIn H H') (p : ∃ r, m' = m ++ r) : ∀ (ws : List W) (vs : List V), reps B m H ws vs → reps B m' H' ws vs
  | [], vs, q => by unfold reps at q ⊢; exact q
  | w :: ws, vs, q => by
    unfold reps at q ⊢
    obtain ⟨v, r, e, z, zs⟩ := q
    exact ⟨v, r, e, rep.stay t p w v z, reps.stay t p ws r zs⟩
end
theorem repk.stay (t : TupIn H H') (p : ∃ r, m' = m ++ r) : ∀ (ws : List (Key × W)) (vs : List (Key × V)), repk B m H ws vs → repk B m' H' ws vs
  | [], vs, q => by unfold repk at q ⊢; exact q
  | w :: ws, vs, q => by
    unfold repk at q ⊢
    obtain ⟨v, r, e, z, zs⟩ := q
    exact ⟨v, r, e, rep.stay t p _ v z, repk.stay t p ws r zs⟩
theorem Go.rep {w : W} {v : V} (g : Go m H m' H') (q : rep B m H w v) : rep B m' H' w v := rep.stay g.tup (let ⟨t, e, _⟩ := g.pre; ⟨t, e⟩) w v q
theorem Go.reps {ws : List W} {vs : List V} (g : Go m H m' H') (q : reps B m H ws vs) : reps B m' H' ws vs := reps.stay g.tup (let ⟨t, e, _⟩ := g.pre; ⟨t, e⟩) ws vs q
theorem reps.length : ∀ {ws : List W} {vs : List V}, reps B m H ws vs → ws.length = vs.length
  | [], vs, q => by unfold Wv.reps at q; rw [q]; rfl
  | w :: ws, vs, q => by
    unfold Wv.reps at q
    obtain ⟨v, r, e, z, zs⟩ := q
    rw [e, List.length_cons, List.length_cons, reps.length zs]
theorem reps.get : ∀ {ws : List W} {vs : List V} {i : Nat} {w : W}, reps B m H ws vs → ws[i]? = some w → ∃ v, vs[i]? = some v ∧ rep B m H w v
  | [], vs, i, w, q, e => by simp at e
  | w :: ws, vs, 0, w', q, e => by
    unfold Wv.reps at q
    obtain ⟨v, r, e1, z, zs⟩ := q
    simp at e
    subst e
    exact ⟨v, by rw [e1]; rfl, z⟩
  | w :: ws, vs, i + 1, w', q, e => by
    unfold Wv.reps at q
    obtain ⟨v, r, e1, z, zs⟩ := q
    obtain ⟨u, h1, h2⟩ := reps.get zs (i := i) (by simpa using e)
    exact ⟨u, by rw [e1]; simpa using h1, h2⟩
theorem reps.nil : reps B m H [] [] := by unfold Wv.reps; rfl
theorem reps.cons {w : W} {v : V} {ws : List W} {vs : List V} (a : rep B m H w v) (b : reps B m H ws vs) : reps B m H (w :: ws) (v :: vs) := by
  unfold Wv.reps
  exact ⟨v, vs, rfl, a, b⟩
theorem reps.append : ∀ {ws ws' : List W} {vs vs' : List V}, reps B m H ws vs → reps B m H ws' vs' → reps B m H (ws ++ ws') (vs ++ vs')
  | [], ws', vs, vs', a, b => by
    unfold Wv.reps at a
    rw [a]
    exact b
  | w :: ws, ws', vs, vs', a, b => by
    unfold Wv.reps at a
    obtain ⟨v, r, e, z, zs⟩ := a
    rw [e]
    exact reps.cons z (reps.append zs b)
theorem reps.take : ∀ (n : Nat) {ws : List W} {vs : List V}, reps B m H ws vs → reps B m H (ws.take n) (vs.take n)
  | 0, ws, vs, _ => by simpa using reps.nil
  | n + 1, [], vs, a => by
    unfold Wv.reps at a
    rw [a]
    simpa using reps.nil
  | n + 1, w :: ws, vs, a => by
    unfold Wv.reps at a
    obtain ⟨v, r, e, z, zs⟩ := a
    rw [e]
    exact reps.cons z (reps.take n zs)
theorem reps.drop : ∀ (n : Nat) {ws : List W} {vs : List V}, reps B m H ws vs → reps B m H (ws.drop n) (vs.drop n)
  | 0, ws, vs, a => a
  | n + 1, [], vs, a => by
    unfold Wv.reps at a
    rw [a]
    simpa using reps.nil
  | n + 1, w :: ws, vs, a => by
    unfold Wv.reps at a
    obtain ⟨v, r, e, z, zs⟩ := a
    rw [e]
    exact reps.drop n zs
theorem reps.reverse : ∀ {ws : List W} {vs : List V}, reps B m H ws vs → reps B m H ws.reverse vs.reverse
  | [], vs, a => by
    unfold Wv.reps at a
    rw [a]
    exact reps.nil
  | w :: ws, vs, a => by
    unfold Wv.reps at a
    obtain ⟨v, r, e, z, zs⟩ := a
    rw [e, List.reverse_cons, List.reverse_cons]
    exact reps.append (reps.reverse zs) (reps.cons z reps.nil)
theorem reps.set : ∀ (i : Nat) {w : W} {v : V} {ws : List W} {vs : List V}, rep B m H w v → reps B m H ws vs → reps B m H (ws.set i w) (vs.set i v)
  | i, w, v, [], vs, _, b => by
    unfold Wv.reps at b
    rw [b]
    exact reps.nil
  | 0, w, v, _ :: ws, vs, a, b => by
    unfold Wv.reps at b
    obtain ⟨v', r, e, z, zs⟩ := b
    rw [e]
    exact reps.cons a zs
  | i + 1, w, v, _ :: ws, vs, a, b => by
    unfold Wv.reps at b
    obtain ⟨v', r, e, z, zs⟩ := b
    rw [e]
    exact reps.cons z (reps.set i a zs)
theorem obOk.stay {o : Ob} {a : Addr} (q : obOk B m H o a) (e : H' a = H a) (t : TupIn H H') (p : ∃ r, m' = m ++ r) : obOk B m' H' o a := by
  cases o with
  | lst ws => obtain ⟨vs, x, y⟩ := q; exact ⟨vs, e.trans x, reps.stay t p _ _ y⟩
  | dic ws => obtain ⟨vs, x, y⟩ := q; exact ⟨vs, e.trans x, repk.stay t p _ _ y⟩
theorem obOk.some {o : Ob} {a : Addr} (q : obOk B m H o a) : ∃ u, H a = Option.some u ∧ (∀ xs, u ≠ .tup xs) ∧ ∀ ob u', u ≠ .frz ob u' := by
  cases o with
  | lst ws => obtain ⟨vs, x, _⟩ := q; exact ⟨_, x, And.intro (fun _ z => by cases z) (fun _ _ z => by cases z)⟩
  | dic ws => obtain ⟨vs, x, _⟩ := q; exact ⟨_, x, And.intro (fun _ z => by cases z) (fun _ _ z => by cases z)⟩
theorem Sim.at_ (S : Sim B m h H) {a : Addr} (ha : a ∈ m) : ∃ (n : Nat) (o : Ob), m[n]? = some a ∧ h[n]? = some o ∧ obOk B m H o a := by
  obtain ⟨n, hn, e⟩ := List.getElem_of_mem ha
  have e1 : m[n]? = some a := by rw [List.getElem?_eq_getElem hn, e]
  have hn2 : n < h.length := by rw [← S.len]; exact hn
  exact ⟨n, h[n], e1, List.getElem?_eq_getElem hn2, S.ob n a _ e1 (List.getElem?_eq_getElem hn2)⟩
theorem Sim.there (S : Sim B m h H) {a : Addr} (ha : a ∈ m) : ∃ u, H a = Option.some u ∧ (∀ xs, u ≠ .tup xs) ∧ ∀ ob u', u ≠ .frz ob u' := by
  obtain ⟨_, _, _, _, q⟩ := S.at_ ha
  exact q.some
theorem Sim.stay (S : Sim B m h H) (e : ∀ a ∈ m, H' a = H a) (t : TupIn H H') : Sim B m h H' :=
  ⟨S.len, S.nd, fun n a o h1 h2 => (S.ob n a o h1 h2).stay (e a (List.mem_of_getElem? h1)) t ⟨[], (List.append_nil m).symm⟩⟩
theorem TupIn.upd_new {p : Addr} {o : HO} (hp : H p = none) : TupIn H (upd H p o) := ⟨fun a xs e => by
  have ne : a ≠ p := by
    rintro rfl
    rcases e with e | ⟨u, e⟩ <;> rw [hp] at e <;> cases e
  rcases e with e | ⟨u, e⟩
  · exact .inl (by rw [upd_ne ne]; exact e)
  · exact .inr ⟨u, by rw [upd_ne ne]; exact e⟩, fun a ob u e => by rw [upd_ne (ne_of_none e hp)]; exact e⟩
theorem TupIn.upd_at {p : Addr} {o u : HO} (hp : H p = some u) (hu : (∀ xs, u ≠ .tup xs) ∧ ∀ ob u', u ≠ .frz ob u') : TupIn H (upd H p o) := ⟨fun a xs e => by
  have ne : a ≠ p := by
    rintro rfl
    rcases e with e | ⟨ob, e⟩
    · rw [hp] at e; exact hu.1 xs (Option.some.inj e)
    · rw [hp] at e; exact hu.2 ob _ (Option.some.inj e)
  rcases e with e | ⟨u, e⟩
  · exact .inl (by rw [upd_ne ne]; exact e)
  · exact .inr ⟨u, by rw [upd_ne ne]; exact e⟩, fun a ob u' e => by
  have ne : a ≠ p := by
    rintro rfl
    rw [hp] at e
    exact hu.2 ob _ (Option.some.inj e)
  rw [upd_ne ne]
  exact e⟩
/-- a new object that the plain store does not name -/
theorem Sim.more (S : Sim B m h H) {p : Addr} {o : HO} (hp : H p = none) : Sim B m h (upd H p o) := S.stay (fun a ha => by
  obtain ⟨u, e, _⟩ := S.there ha
  rw [upd_ne (ne_of_none e hp)]) (TupIn.upd_new hp)
theorem Go.more {p : Addr} {o : HO} (hp : H p = none) : Go m H m (upd H p o) := ⟨⟨[], (List.append_nil m).symm, fun _ z => nomatch z⟩, fun a u e _ => by rw [upd_ne (ne_of_none e hp)]; exact e, TupIn.upd_new hp⟩
/-- an unnamed object is written -/
theorem Sim.other (S : Sim B m h H) {p : Addr} {o u : HO} (hp : H p = some u) (hu : (∀ xs, u ≠ .tup xs) ∧ ∀ ob u', u ≠ .frz ob u') (hm : p ∉ m) : Sim B m h (upd H p o) := S.stay (fun a ha => by
  have ne : a ≠ p := fun z => hm (by rw [← z]; exact ha)
  rw [upd_ne ne]) (TupIn.upd_at hp hu)
/-- a new object that the plain store names -/
theorem Sim.push (S : Sim B m h H) {p : Addr} {o : HO} {b : Ob} (hp : H p = none) (q : obOk B (m ++ [p]) (upd H p o) b p) : Sim B (m ++ [p]) (h ++ [b]) (upd H p o) := by
  have hm : p ∉ m := fun z => by
    obtain ⟨u, e, _⟩ := S.there z
    rw [hp] at e
    cases e
  refine ⟨by rw [List.length_append, List.length_append, S.len]; rfl, List.nodup_append.mpr ⟨S.nd, List.pairwise_singleton _ _, fun a ha b hb e => by
    have z : b = p := by simpa using hb
    exact hm (z ▸ e ▸ ha)⟩, fun n a ob h1 h2 => ?_⟩
  by_cases hn : n < m.length
  · rw [List.getElem?_append_left hn] at h1
    rw [List.getElem?_append_left (by rw [← S.len]; exact hn)] at h2
    have ha := List.mem_of_getElem? h1
    refine (S.ob n a ob h1 h2).stay ?_ (TupIn.upd_new hp) ⟨[p], rfl⟩
    have ne : a ≠ p := fun z => hm (by rw [← z]; exact ha)
    rw [upd_ne ne]
  · rw [List.getElem?_append_right (by omega)] at h1
    rw [List.getElem?_append_right (by rw [← S.len]; omega)] at h2
    have z : n - m.length = 0 := by
      have := (List.getElem?_eq_some_iff.mp h1).1
      simpa using this
    rw [z] at h1
    rw [← S.len, z] at h2
    simp at h1 h2
    subst h1
    subst h2
    exact q
theorem Go.push {p : Addr} {o : HO} (hp : H p = none) : Go m H (m ++ [p]) (upd H p o) := ⟨⟨[p], rfl, fun a ha => by
  have z : a = p := by simpa using ha
  rw [z]; exact hp⟩, fun a u e _ => by rw [upd_ne (ne_of_none e hp)]; exact e, TupIn.upd_new hp⟩
/-- a named object is written -/
theorem Sim.put (S : Sim B m h H) {n : Nat} {p : Addr} {o : HO} {b : Ob} (hn : m[n]? = some p) (q : obOk B m (upd H p o) b p) : Sim B m (h.set n b) (upd H p o) := by
  obtain ⟨u, e, hu⟩ := S.there (List.mem_of_getElem? hn)
  refine ⟨by rw [List.length_set]; exact S.len, S.nd, fun k a ob h1 h2 => ?_⟩
  by_cases hk : n = k
  · subst hk
    rw [hn] at h1
    cases h1
    have hl : n < h.length := by rw [← S.len]; exact (List.getElem?_eq_some_iff.mp hn).1
    rw [List.getElem?_set_self hl] at h2
    cases h2
    exact q
  · rw [List.getElem?_set_ne hk] at h2
    refine (S.ob k a ob h1 h2).stay ?_ (TupIn.upd_at e hu) ⟨[], (List.append_nil m).symm⟩
    rw [upd_ne]
    rintro rfl
    exact hk (nd_ix S.nd hn h1)
theorem Go.put (S : Sim B m h H) {n : Nat} {p : Addr} {o : HO} (hn : m[n]? = some p) : Go m H m (upd H p o) := by
  obtain ⟨u, e, hu⟩ := S.there (List.mem_of_getElem? hn)
  exact ⟨⟨[], (List.append_nil m).symm, fun _ z => nomatch z⟩, fun a ob ha hm => by rw [upd_ne fun z => hm (by rw [z]; exact List.mem_of_getElem? hn)]; exact ha, TupIn.upd_at e hu⟩
end
end Wv
end
section
set_option Elab.async false
set_option linter.all false
set_option maxRecDepth 100000
set_option maxHeartbeats 4000000
/-! Core B of ours: outcomes, operations on plain values, the judgements. -/
namespace Wv
open PySem PySem.Spec L2
open PyProof.Rows hiding St

structure Exn where
  cls : Str
  fld : Option (List (Str × W))
inductive Out (α : Type) where
  | ok (a : α) (h : Store)
  | exc (e : Exn) (h : Store)
  | bad
def Out.bind {α β : Type} (o : Out α) (k : α → Store → Out β) : Out β := match o with
  | .ok a h => k a h
  | .exc e h => .exc e h
  | .bad => .bad
@[simp] theorem Out.bind_ok {α β : Type} (a : α) (h : Store) (k : α → Store → Out β) : (Out.ok a h).bind k = k a h := id rfl
@[simp] theorem Out.bind_exc {α β : Type} (e : Exn) (h : Store) (k : α → Store → Out β) : (Out.exc e h).bind k = .exc e h := id rfl
@[simp] theorem Out.bind_bad {α β : Type} (k : α → Store → Out β) : Out.bad.bind k = .bad := id rfl
abbrev Rho := List (Option W)
abbrev Den := Rho → Store → Out W
abbrev DenA := Rho → Store → Out (List W)
abbrev DenT := Rho → Store → Out Bool

/-! ### lists, data -/
def lst? (h : Store) (n : Nat) : Option (List W) := match h[n]? with
  | some (.lst xs) => some xs
  | _ => none
def own? (h : Store) (n : Nat) : Option (List W) := match h[n]? with
  | some (.lst xs) => some xs
  | _ => none
def toPys (f : W → Option PyData) : List W → Option (List PyData)
  | [] => some []
  | w :: ws => match f w, toPys f ws with
    | some d, some ds => some (d :: ds)
    | _, _ => none
def toPy (h : Store) : Nat → W → Option PyData
  | _, .non => some .none
  | _, .bl b => some (.bool b)
  | _, .int i => some (.int i)
  | _, .str x => some (.str x)
  | n + 1, .tup ws => (toPys (toPy h n) ws).map .tuple
  | n + 1, .ref k => match lst? h k with
    | some ws => (toPys (toPy h n) ws).map .list
    | none => none
  | _, _ => none
def pyd (h : Store) (w : W) : Option PyData := match toPy h 66 w with
  | some d => if SeqAt.shaped d = true then some d else none
  | none => none

/-! ### judgements -/
def PV {α : Type} (B : Base) (m : List Addr) (H : Hp) (o : Out α) (R : α → Store → List Addr → Hp → Prop) (E : Exn → List Addr → Hp → Prop) : Prop := match o with
  | .ok a h' => ∀ m' H', Sim B m' h' H' → Go m H m' H' → R a h' m' H'
  | .exc e h' => ∀ m' H', Sim B m' h' H' → Go m H m' H' → E e m' H'
  | .bad => False
section
variable {α β : Type} {B : Base} {m m' m1 : List Addr} {H H' H1 : Hp} {o : Out α} {R R' : α → Store → List Addr → Hp → Prop} {E E' : Exn → List Addr → Hp → Prop}
theorem PV.mono (p : PV B m H o R E) (g : Go m H m' H') : PV B m' H' o R E := by
  cases o with
  | ok a h' => exact fun m2 H2 S2 G2 => p m2 H2 S2 (g.trans S2.nd G2)
  | exc e h' => exact fun m2 H2 S2 G2 => p m2 H2 S2 (g.trans S2.nd G2)
  | bad => exact p
theorem PV.imp (p : PV B m H o R E) (h : ∀ a h' m' H', Sim B m' h' H' → Go m H m' H' → R a h' m' H' → R' a h' m' H') : PV B m H o R' E := by
  cases o with
  | ok a h' => exact fun m2 H2 S2 G2 => h _ _ _ _ S2 G2 (p m2 H2 S2 G2)
  | exc e h' => exact p
  | bad => exact p
theorem PV.impE (p : PV B m H o R E) (h : ∀ e m' H', E e m' H' → E' e m' H') : PV B m H o R E' := by
  cases o with
  | ok a h' => exact p
  | exc e h' => exact fun m2 H2 S2 G2 => h _ _ _ (p m2 H2 S2 G2)
  | bad => exact p
theorem PV.bind {k : α → Store → Out β} {R : β → Store → List Addr → Hp → Prop} (p : PV B m H (o.bind k) R E) : PV B m H o (fun a h1 m1 H1 => PV B m1 H1 (k a h1) R E) E := by
  cases o with
  | ok a h' => exact fun m1 H1 S1 G1 => PV.mono (o := k a h') p G1
  | exc e h' => exact p
  | bad => exact p
theorem PV.here {a : α} {h : Store} (p : PV B m H (.ok a h) R E) (S : Sim B m h H) : R a h m H := p m H S Go.refl
end

def slots (B : Base) (m : List Addr) (H : Hp) (ρ : Rho) (σ : St) : Prop := σ.length = ρ.length ∧ ∀ (i : Nat) (w : W), ρ[i]? = some (some w) → ∃ v, σ[i]? = some (some v) ∧ rep B m H w v
theorem slots.go {B : Base} {m m' : List Addr} {H H' : Hp} {ρ : Rho} {σ : St} (s : slots B m H ρ σ) (g : Go m H m' H') : slots B m' H' ρ σ :=
  ⟨s.1, fun i w e => let ⟨v, e1, r⟩ := s.2 i w e; ⟨v, e1, g.rep r⟩⟩
theorem slots.set {B : Base} {m : List Addr} {H : Hp} {ρ : Rho} {σ : St} {w : W} {v : V} (s : slots B m H ρ σ) (i : Nat) (r : rep B m H w v) : slots B m H (ρ.set i (some w)) (σ.set i (some v)) := by
  refine ⟨by rw [List.length_set, List.length_set]; exact s.1, fun j w' e => ?_⟩
  by_cases hj : i = j
  · subst hj
    have hl : i < ρ.length := by
      have z := (List.getElem?_eq_some_iff.mp e).1
      rw [List.length_set] at z
      exact z
    rw [List.getElem?_set_self hl] at e
    cases e
    exact ⟨v, List.getElem?_set_self (by rw [s.1]; exact hl), r⟩
  · rw [List.getElem?_set_ne hj] at e
    obtain ⟨v', e1, r'⟩ := s.2 j w' e
    exact ⟨v', by rw [List.getElem?_set_ne hj]; exact e1, r'⟩
theorem slots.clear {B : Base} {m : List Addr} {H : Hp} {ρ : Rho} {σ : St} (s : slots B m H ρ σ) (i : Nat) : slots B m H (ρ.set i none) (σ.set i none) := by
  refine ⟨by rw [List.length_set, List.length_set]; exact s.1, fun j w' e => ?_⟩
  by_cases hj : i = j
  · subst hj
    by_cases hl : i < ρ.length
    · rw [List.getElem?_set_self hl] at e
      cases e
    · rw [List.getElem?_eq_none (by rw [List.length_set]; omega)] at e
      cases e
  · rw [List.getElem?_set_ne hj] at e
    obtain ⟨v', e1, r'⟩ := s.2 j w' e
    exact ⟨v', by rw [List.getElem?_set_ne hj]; exact e1, r'⟩

/-- fields of an exception's own dict -/
def repf (B : Base) (m : List Addr) (H : Hp) : List (Str × W) → List (Str × V) → Prop
  | [], vs => vs = []
  | p :: ws, vs => ∃ v r, vs = (p.1, v) :: r ∧ rep B m H p.2 v ∧ repf B m H ws r
def repX (B : Base) (m : List Addr) (H : Hp) (e : Exn) (cls : Value) (d : Option Addr) : Prop :=
  (∃ C, B.G e.cls = some (.ref C) ∧ cls = .ref C) ∧ match e.fld with
    | none => d = none
    | some fs => ∃ dx vs, d = some dx ∧ H dx = some (.xd vs) ∧ repf B m H fs vs

/-- the exceptional end at slots σ -/
abbrev XS (B : Base) (Wx : WX) (σ : St) : Exn → List Addr → Hp → Prop := fun e m' H' => ∀ cls d, repX B m' H' e cls d → Wx cls d σ H'
abbrev QE (B : Base) (Q : VK) : W → Store → List Addr → Hp → Prop := fun w _ m' H' => ∀ v, rep B m' H' w v → Q v H'
abbrev QA (B : Base) (Q : List V → Hp → Prop) : List W → Store → List Addr → Hp → Prop := fun w _ m' H' => ∀ vs, reps B m' H' w vs → Q vs H'
abbrev QT (Q : Bool → Hp → Prop) : Bool → Store → List Addr → Hp → Prop := fun b _ _ H' => Q b H'

def tD (B : Base) (Wx : WX) (f : Den) : TE := fun σ H Q => ∃ m h ρ, Sim B m h H ∧ slots B m H ρ σ ∧ PV B m H (f ρ h) (QE B Q) (XS B Wx σ)
def tDA (B : Base) (Wx : WX) (f : DenA) : TA := fun σ H Q => ∃ m h ρ, Sim B m h H ∧ slots B m H ρ σ ∧ PV B m H (f ρ h) (QA B Q) (XS B Wx σ)
def tDT (B : Base) (Wx : WX) (f : DenT) : TT := fun σ H Q => ∃ m h ρ, Sim B m h H ∧ slots B m H ρ σ ∧ PV B m H (f ρ h) (QT Q) (XS B Wx σ)
def DE (B : Base) (Wx : WX) (X : Cx) (e : Expr) (f : Den) : Prop := PE X e (tD B Wx f)
def DA (B : Base) (Wx : WX) (X : Cx) (es : List Expr) (f : DenA) : Prop := PA X es (tDA B Wx f)
def DT (B : Base) (Wx : WX) (X : Cx) (e : Expr) (f : DenT) : Prop := PT X e (tDT B Wx f)

section
variable {B : Base} {Wx : WX} {X : Cx} {e : Expr} {es : List Expr} {f : Den} {fa : DenA} {ft : DenT} {pins : List (Addr × Obj)} {s : Shared} {σ : St} {H : Hp} {m : List Addr} {h : Store} {ρ : Rho}
theorem DE.run (d : DE B Wx X e f) (I : Inv X pins σ H s) (S : Sim B m h H) (sl : slots B m H ρ σ) {R : W → Store → List Addr → Hp → Prop} (p : PV B m H (f ρ h) R (XS B Wx σ)) {post : Value → Shared → Prop}
    (k : ∀ v u s' w h' m' H', Inv X pins σ H' s' → RelV v u → Sim B m' h' H' → Go m H m' H' → rep B m' H' w v → R w h' m' H' → post u s') : wpAny (model X.prog X.w) X.A (eval e X.env) post X.xe s := by
  refine thn (PE.run d pins s σ H (fun v H' => ∃ w h' m', Sim B m' h' H' ∧ Go m H m' H' ∧ rep B m' H' w v ∧ R w h' m' H') I ⟨m, h, ρ, S, sl, ?_⟩) fun u s' ⟨v, H', I', r, w, h', m', S', G', rw, q⟩ => k v u s' w h' m' H' I' r S' G' rw q
  cases q : f ρ h with
  | ok w h' =>
    rw [q] at p
    exact fun m' H' S' G' v r => ⟨w, h', m', S', G', r, p m' H' S' G'⟩
  | exc e' h' =>
    rw [q] at p
    exact p
  | bad =>
    rw [q] at p
    exact p
theorem DA.run (d : DA B Wx X es fa) (I : Inv X pins σ H s) (S : Sim B m h H) (sl : slots B m H ρ σ) {R : List W → Store → List Addr → Hp → Prop} (p : PV B m H (fa ρ h) R (XS B Wx σ)) (pos : Pos) {post : List Value → Shared → Prop}
    (k : ∀ vs us s' ws h' m' H', Inv X pins σ H' s' → Vals vs us → Sim B m' h' H' → Go m H m' H' → reps B m' H' ws vs → R ws h' m' H' → post us s') : wpAny (model X.prog X.w) X.A (spliced (backTo pos (starEach es X.env))) post X.xe s := by
  refine thn (PA.run d pos pins s σ H (fun v H' => ∃ w h' m', Sim B m' h' H' ∧ Go m H m' H' ∧ reps B m' H' w v ∧ R w h' m' H') I ⟨m, h, ρ, S, sl, ?_⟩) fun u s' ⟨v, H', I', r, w, h', m', S', G', rw, q⟩ => k v u s' w h' m' H' I' r S' G' rw q
  cases q : fa ρ h with
  | ok w h' =>
    rw [q] at p
    exact fun m' H' S' G' v r => ⟨w, h', m', S', G', r, p m' H' S' G'⟩
  | exc e' h' =>
    rw [q] at p
    exact p
  | bad =>
    rw [q] at p
    exact p
theorem DT.run (d : DT B Wx X e ft) (I : Inv X pins σ H s) (S : Sim B m h H) (sl : slots B m H ρ σ) {R : Bool → Store → List Addr → Hp → Prop} (p : PV B m H (ft ρ h) R (XS B Wx σ)) {post : Bool → Shared → Prop}
    (k : ∀ b s' h' m' H', Inv X pins σ H' s' → Sim B m' h' H' → Go m H m' H' → R b h' m' H' → post b s') : wpAny (model X.prog X.w) X.A (isTrue e X.env (eval e X.env)) post X.xe s := by
  refine thn (PT.run d pins s σ H (fun b H' => ∃ h' m', Sim B m' h' H' ∧ Go m H m' H' ∧ R b h' m' H') I ⟨m, h, ρ, S, sl, ?_⟩) fun u s' ⟨H', I', h', m', S', G', q⟩ => k u s' h' m' H' I' S' G' q
  cases q : ft ρ h with
  | ok w h' =>
    rw [q] at p
    exact fun m' H' S' G' => ⟨h', m', S', G', p m' H' S' G'⟩
  | exc e' h' =>
    rw [q] at p
    exact p
  | bad =>
    rw [q] at p
    exact p
/-- an operation on two values -/
def VOp2 (B : Base) (X : Cx) (F : Value → Value → Sem Value) (g : W → W → Store → Out W) : Prop :=
  ∀ (pins : List (Addr × Obj)) (s : Shared) (σ : St) (m : List Addr) (h : Store) (H : Hp) (wx wy : W) (x y : V) (v u : Value) (Q : VK) (E : Exn → List Addr → Hp → Prop), Inv X pins σ H s → RelV x v → RelV y u → Sim B m h H → rep B m H wx x → rep B m H wy y →
    PV B m H (g wx wy h) (QE B Q) E → (∀ e m' H', ¬ E e m' H') → wpAny (model X.prog X.w) X.A (F v u) (EP X pins σ Q) X.xe s
end
end Wv
end
section
set_option Elab.async false
set_option linter.all false
set_option maxRecDepth 100000
set_option maxHeartbeats 4000000
/-! Core C of ours: operations by values. -/
namespace Wv
open PySem PySem.Spec L2
open PyProof.Rows hiding St

/-- an answer that never raises -/
abbrev Opt := Option (W × Store)
def Out.of : Opt → Out W
  | some (w, h) => .ok w h
  | none => .bad
@[simp] theorem Out.of_some (w : W) (h : Store) : Out.of (some (w, h)) = .ok w h := rfl
@[simp] theorem Out.of_none : Out.of none = .bad := rfl
def PO (B : Base) (m : List Addr) (H : Hp) (o : Opt) (Q : VK) : Prop := match o with
  | some (w, h') => ∀ m' H', Sim B m' h' H' → Go m H m' H' → ∀ v, rep B m' H' w v → Q v H'
  | none => False
theorem PO.of {B : Base} {m : List Addr} {H : Hp} {o : Opt} {Q : VK} {E : Exn → List Addr → Hp → Prop} (p : PV B m H (Out.of o) (QE B Q) E) : PO B m H o Q := by
  cases o with
  | none => exact p
  | some q => exact p
def VOp (B : Base) (X : Cx) (F : Value → Value → Sem Value) (g : W → W → Store → Opt) : Prop :=
  ∀ (pins : List (Addr × Obj)) (s : Shared) (σ : St) (m : List Addr) (h : Store) (H : Hp) (wx wy : W) (x y : V) (v u : Value) (Q : VK), Inv X pins σ H s → RelV x v → RelV y u → Sim B m h H → rep B m H wx x → rep B m H wy y →
    PO B m H (g wx wy h) Q → wpAny (model X.prog X.w) X.A (F v u) (EP X pins σ Q) X.xe s

section
variable {B : Base} {m : List Addr} {H : Hp} {h : Store} {Q : VK} {w : W}
theorem PO.same {o : Opt} (p : PO B m H o Q) (e : o = some (w, h)) (S : Sim B m h H) {v : V} (r : rep B m H w v) : Q v H := by
  subst e
  exact p m H S Go.refl v r
theorem PO.tup {o : Opt} {ws : List W} (p : PO B m H o Q) (e : o = some (.tup ws, h)) (S : Sim B m h H) {vs : List V} (r : reps B m H ws vs) {a : Addr} (ha : H a = none) : Q (.ref a) (upd H a (.tup vs)) := by
  subst e
  refine p m _ (S.more ha) (Go.more ha) _ ?_
  unfold rep
  exact ⟨a, vs, rfl, .inl (.inl upd_same), (Go.more ha).reps r⟩
theorem PO.lst {o : Opt} {ws : List W} (p : PO B m H o Q) (e : o = some (.ref h.length, h ++ [.lst ws])) (S : Sim B m h H) {vs : List V} (r : reps B m H ws vs) {a : Addr} (ha : H a = none) : Q (.ref a) (upd H a (.lst vs)) := by
  subst e
  have z : obOk B (m ++ [a]) (upd H a (.lst vs)) (.lst ws) a := ⟨vs, upd_same, (Go.push (m := m) ha).reps r⟩
  refine p (m ++ [a]) _ (S.push ha z) (Go.push ha) _ ?_
  unfold rep
  exact ⟨a, rfl, by rw [List.getElem?_append_right (by rw [S.len]; exact Nat.le_refl _), S.len, Nat.sub_self]; rfl⟩
theorem rep.int_ {i : Int} {v : V} (r : rep B m H (.int i) v) : v = .int i := by unfold rep at r; exact r
theorem rep.bl_ {i : Bool} {v : V} (r : rep B m H (.bl i) v) : v = .bl i := by unfold rep at r; exact r
theorem rep.str_ {i : Str} {v : V} (r : rep B m H (.str i) v) : v = .str i := by unfold rep at r; exact r
theorem rep.non_ {v : V} (r : rep B m H .non v) : v = .non := by unfold rep at r; exact r
theorem rep.tup_ {ws : List W} {v : V} (r : rep B m H (.tup ws) v) : ∃ a vs, v = .ref a ∧ SqT B.K H a vs ∧ reps B m H ws vs := by unfold rep at r; exact r
theorem rep.ref_ {n : Nat} {v : V} (r : rep B m H (.ref n) v) : ∃ a, v = .ref a ∧ m[n]? = some a := by unfold rep at r; exact r
theorem rep.int (i : Int) : rep B m H (.int i) (.int i) := by unfold rep; rfl
theorem rep.bl (i : Bool) : rep B m H (.bl i) (.bl i) := by unfold rep; rfl
theorem rep.str (i : Str) : rep B m H (.str i) (.str i) := by unfold rep; rfl
theorem rep.non : rep B m H .non .non := by unfold rep; rfl
theorem rep.kls_ {ws : List W} {v : V} (r : rep B m H (.kls ws) v) : ∃ a vs, v = .ref a ∧ KL B.K H a vs ∧ reps B m H ws vs := by unfold rep at r; exact r
theorem KL.sq {K : PySem.W.Frag} {a : Addr} {xs : List V} (q : KL K H a xs) : SqL K H a xs := by
  rcases q with ⟨o, q⟩ | q
  · exact .inl (.inr ⟨o, q⟩)
  · exact .inr q
theorem own_at (S : Sim B m h H) {n : Nat} {a : Addr} {ws : List W} (ha : m[n]? = some a) (e : own? h n = some ws) : ∃ vs, H a = some (.lst vs) ∧ reps B m H ws vs := by
  unfold own? at e
  split at e
  · rename_i xs q
    cases e
    exact S.ob n a _ ha q
  · cases e
theorem lst_at (S : Sim B m h H) {n : Nat} {a : Addr} {ws : List W} (ha : m[n]? = some a) (e : lst? h n = some ws) : ∃ vs, SqL B.K H a vs ∧ reps B m H ws vs := by
  unfold lst? at e
  split at e
  · rename_i xs q
    cases e
    obtain ⟨vs, z, r⟩ := S.ob n a _ ha q
    exact ⟨vs, .inl (.inl z), r⟩
  · cases e
theorem toPys_all (K : PySem.W.Frag) {f : W → Option PyData} (hf : ∀ w v d, rep B m H w v → f w = some d → Dp K H v d) : ∀ {ws : List W} {vs : List V} {ds : List PyData}, reps B m H ws vs → toPys f ws = some ds → DpAll K H vs ds
  | [], vs, ds, r, e => by
    unfold reps at r
    cases e
    rw [r]
    exact .nil
  | w :: ws, vs, ds, r, e => by
    unfold reps at r
    obtain ⟨v, t, e1, z, zs⟩ := r
    unfold toPys at e
    split at e
    · rename_i d ds' q1 q2
      cases e
      rw [e1]
      exact .cons (hf _ _ _ z q1) (toPys_all K hf zs q2)
    · cases e
theorem toPy_dp (S : Sim B m h H) : ∀ (n : Nat) (w : W) (v : V) (d : PyData), rep B m H w v → toPy h n w = some d → Dp B.K H v d
  | n, .non, v, d, r, e => by
    unfold toPy at e
    cases e
    rw [r.non_]
    exact .non
  | n, .bl b, v, d, r, e => by
    unfold toPy at e
    cases e
    rw [r.bl_]
    exact .bl b
  | n, .int b, v, d, r, e => by
    unfold toPy at e
    cases e
    rw [r.int_]
    exact .int b
  | n, .str b, v, d, r, e => by
    unfold toPy at e
    cases e
    rw [r.str_]
    exact .str b
  | n + 1, .tup ws, v, d, r, e => by
    unfold toPy at e
    obtain ⟨a, vs, rfl, q, rs⟩ := r.tup_
    cases z : toPys (toPy h n) ws with
    | none => rw [z] at e; cases e
    | some ds =>
      rw [z] at e
      cases e
      exact .tup q (toPys_all B.K (fun w v d r e => toPy_dp S n w v d r e) rs z)
  | n + 1, .ref k, v, d, r, e => by
    unfold toPy at e
    obtain ⟨a, rfl, ha⟩ := r.ref_
    cases q : lst? h k with
    | none => rw [q] at e; cases e
    | some ws =>
      rw [q] at e
      dsimp only at e
      obtain ⟨vs, sq, rs⟩ := lst_at S ha q
      cases z : toPys (toPy h n) ws with
      | none => rw [z] at e; cases e
      | some ds =>
        rw [z] at e
        cases e
        exact .lst sq (toPys_all B.K (fun w v d r e => toPy_dp S n w v d r e) rs z)
  | 0, .tup ws, v, d, r, e => by unfold toPy at e; cases e
  | 0, .ref ws, v, d, r, e => by unfold toPy at e; cases e
  | 0, .glo ws, v, d, r, e => by unfold toPy at e; cases e
  | 0, .kls ws, v, d, r, e => by unfold toPy at e; cases e
  | n + 1, .kls ws, v, d, r, e => by unfold toPy at e; cases e
  | n + 1, .glo ws, v, d, r, e => by unfold toPy at e; cases e
theorem pyd_dp (S : Sim B m h H) {w : W} {v : V} {d : PyData} (r : rep B m H w v) (e : pyd h w = some d) : Dp B.K H v d ∧ SeqAt.shaped d = true := by
  unfold pyd at e
  split at e
  · rename_i d' q
    split at e
    · cases e
      exact ⟨toPy_dp S 66 w v d r q, by assumption⟩
    · cases e
  · cases e
end

/-! ### arithmetic -/
def mulOk (i j : Int) : Bool := decide (i.natAbs < 2 ^ 64) || (decide (j.natAbs < 2 ^ 64) || decide (i.natAbs.log2 + j.natAbs.log2 < 134217720))
theorem mulOk_ok {i j : Int} (e : mulOk i j = true) : IntMulOk i j := by
  unfold mulOk at e
  rcases Bool.or_eq_true_iff.mp e with e | e
  · have e := of_decide_eq_true e
    exact .of_left (intBits_le_64 (by omega) (by omega))
  · rcases Bool.or_eq_true_iff.mp e with e | e
    · have e := of_decide_eq_true e
      exact .of_right (intBits_le_64 (by omega) (by omega))
    · have e := of_decide_eq_true e
      have b : ∀ n : Int, Builtin.Int.intBits n ≤ n.natAbs.log2 + 1 := fun n => by
        unfold Builtin.Int.intBits
        split
        · exact Nat.zero_le _
        · exact Nat.le_refl _
      have b1 := b i
      have b2 := b j
      intro z
      have z2 := of_decide_eq_true (p := _ > _) (Bool.and_eq_true_iff.mp z).2
      have e3 : bitsLine = 134217728 := by decide
      rw [e3] at z2
      omega
def divOk (j : Int) : Bool := (decide (j ≠ 0) && decide (j.natAbs < 1073741824)) || (decide (0 < j) && decide (j.natAbs.log2 < 9000))
def opAdd : W → W → Store → Opt
  | .int i, .int j, h => some (.int (i + j), h)
  | .str x, .str y, h => if x.length + y.length ≤ 16777216 then some (.str (x ++ y), h) else none
  | .tup xs, .tup ys, h => if xs.length + ys.length ≤ 16777216 then some (.tup (xs ++ ys), h) else none
  | .ref a, .ref b, h => match own? h a, own? h b with
    | some xs, some ys => if xs.length + ys.length ≤ 16777216 then some (.ref h.length, h ++ [.lst (xs ++ ys)]) else none
    | _, _ => none
  | _, _, _ => none
def opSub : W → W → Store → Opt
  | .int i, .int j, h => some (.int (i - j), h)
  | _, _, _ => none
def opMul : W → W → Store → Opt
  | .int i, .int j, h => if mulOk i j = true then some (.int (i * j), h) else none
  | .tup xs, .int k, h => if k = 1 then some (.tup xs, h) else if xs.isEmpty = false ∧ 2 ≤ k ∧ k ≤ 1000 ∧ xs.length ≤ 1000 then some (.tup (List.replicate k.toNat xs).flatten, h) else none
  | .ref a, .int k, h => match own? h a with
    | some xs => if -(2 ^ 63) ≤ k ∧ k < 2 ^ 63 ∧ xs.length * k.toNat ≤ 16777216 then some (.ref h.length, h ++ [.lst (List.replicate k.toNat xs).flatten]) else none
    | none => none
  | _, _, _ => none
def opDiv (big : Bool) : W → W → Store → Opt
  | .int i, .int j, h => if divOk j = true ∨ (big = true ∧ j ≠ 0) then some (.int (i.fdiv j), h) else none
  | _, _, _ => none
def opMod : W → W → Store → Opt
  | .int i, .int j, h => if j ≠ 0 then some (.int (i.fmod j), h) else none
  | _, _, _ => none
def opBin (big : Bool) : Operator → W → W → Store → Opt
  | .Add => opAdd
  | .Sub => opSub
  | .Mult => opMul
  | .FloorDiv => opDiv big
  | .Mod => opMod
  | _ => fun _ _ _ => none

theorem reps.rep_flat {B : Base} {m : List Addr} {H : Hp} {ws : List W} {vs : List V} (r : reps B m H ws vs) : ∀ n : Nat, reps B m H (List.replicate n ws).flatten (List.replicate n vs).flatten
  | 0 => by simpa using reps.nil
  | n + 1 => by
    rw [List.replicate_succ, List.replicate_succ, List.flatten_cons, List.flatten_cons]
    exact r.append (reps.rep_flat r n)
section
variable {B : Base} {X : Cx}
theorem v_add (hK : X.K = B.K) : VOp B X (binaryOp .Add) opAdd := by
  intro pins s σ m h H wx wy x y v u Q I rx ry S r1 r2 p
  cases wx with
  | int i =>
    cases wy with
    | int j =>
      rw [r1.int_] at rx
      rw [r2.int_] at ry
      exact op_add pins s σ H _ _ v u Q I rx ry ⟨i, j, rfl, rfl, p.same rfl S (.int _)⟩
    | _ => exact p.elim
  | str i =>
    cases wy with
    | str j =>
      rw [r1.str_] at rx
      rw [r2.str_] at ry
      by_cases c : i.length + j.length ≤ 16777216
      · exact op_add_str pins s σ H _ _ v u Q I rx ry ⟨i, j, rfl, rfl, by rw [sizeLine_eq]; exact c, p.same (if_pos c) S (.str _)⟩
      · have z : opAdd (.str i) (.str j) h = none := if_neg c
        rw [z] at p
        exact p.elim
    | _ => exact p.elim
  | tup xs =>
    cases wy with
    | tup ys =>
      obtain ⟨a, vs, rfl, qa, ra⟩ := r1.tup_
      obtain ⟨b, us, rfl, qb, rb⟩ := r2.tup_
      by_cases c : xs.length + ys.length ≤ 16777216
      · have e : opAdd (.tup xs) (.tup ys) h = some (.tup (xs ++ ys), h) := if_pos c
        refine op_catA pins s σ H _ _ v u Q I rx ry ⟨a, b, vs, us, rfl, rfl, by rw [hK]; exact qa, by rw [hK]; exact qb, by rw [sizeLine_eq, ← ra.length, ← rb.length]; exact c, fun e0 => ?_, fun _ e0 => ?_, fun _ _ a' ha' => ?_⟩
        · have z : xs = [] := List.eq_nil_of_length_eq_zero (by rw [ra.length, e0]; rfl)
          subst z
          exact p.same e S r2
        · have z : ys = [] := List.eq_nil_of_length_eq_zero (by rw [rb.length, e0]; rfl)
          subst z
          rw [List.append_nil] at e
          exact p.same e S r1
        · exact p.tup e S (ra.append rb) ha'
      · have z : opAdd (.tup xs) (.tup ys) h = none := if_neg c
        rw [z] at p
        exact p.elim
    | _ => exact p.elim
  | ref i =>
    cases wy with
    | ref j =>
      obtain ⟨a, rfl, ha⟩ := r1.ref_
      obtain ⟨b, rfl, hb⟩ := r2.ref_
      cases q1 : own? h i with
      | none =>
        have z : opAdd (.ref i) (.ref j) h = none := by simp only [opAdd, q1]
        rw [z] at p
        exact p.elim
      | some xs =>
        cases q2 : own? h j with
        | none =>
          have z : opAdd (.ref i) (.ref j) h = none := by simp only [opAdd, q1, q2]
          rw [z] at p
          exact p.elim
        | some ys =>
          obtain ⟨vs, ea, ra⟩ := own_at S ha q1
          obtain ⟨us, eb, rb⟩ := own_at S hb q2
          by_cases c : xs.length + ys.length ≤ 16777216
          · have e : opAdd (.ref i) (.ref j) h = some (.ref h.length, h ++ [.lst (xs ++ ys)]) := by simp only [opAdd, q1, q2, if_pos c]
            exact op_cat pins s σ H _ _ v u Q I rx ry ⟨a, b, vs, us, rfl, rfl, ea, eb, by rw [sizeLine_eq, ← ra.length, ← rb.length]; exact c, fun a' ha' => p.lst e S (ra.append rb) ha'⟩
          · have z : opAdd (.ref i) (.ref j) h = none := by simp only [opAdd, q1, q2, if_neg c]
            rw [z] at p
            exact p.elim
    | _ => exact p.elim
  | _ => exact p.elim
theorem v_sub : VOp B X (binaryOp .Sub) opSub := by
  intro pins s σ m h H wx wy x y v u Q I rx ry S r1 r2 p
  cases wx with
  | int i =>
    cases wy with
    | int j =>
      rw [r1.int_] at rx
      rw [r2.int_] at ry
      exact op_sub pins s σ H _ _ v u Q I rx ry ⟨i, j, rfl, rfl, p.same rfl S (.int _)⟩
    | _ => exact p.elim
  | _ => exact p.elim
/-- t * 1 is t itself -/
theorem tuple_one (l : Addr) (items : Array Value) (n : Nat) (dd : Option Addr) (sl : Array (Option Value)) (u : Tok) : Meets (Builtin.«tuple.__mul__» ⟨[.ref l, .int 1 u], []⟩) (fun _ R s => s.heap.get? l = some { cls := .type "tuple", dict := dd, data := .seq items n, slots := sl } ∧ R (.ok (.ret (Value.ref l))) s) :=
  .of_wp fun prog w A R s hh => by
    obtain ⟨hp, g, d, tk, os⟩ := s; obtain ⟨hl, hh⟩ := hh
    have f1 := AutoSeq1.idx_int
    wp_walk using wpAny_loadPart' hl
    all_goals (repeat (first
      | (refine wpAny_ite_false (by simp) ?_; wp_walk using wpAny_loadPart' hl)
      | (refine wpAny_ite_true (by simp) ?_; wp_walk using wpAny_loadPart' hl)))
    all_goals exact ⟨_, rfl, hh⟩
theorem op_repT1 {X : Cx} {pins : List (Addr × Obj)} {s : Shared} {σ : St} {H : Hp} {l : Addr} {xs : List V} {v u : Value} {Q : VK} (I : Inv X pins σ H s) (rx : RelV (.ref l) v) (ry : RelV (.int 1) u) (hT : SqT X.K H l xs) (q : Q (.ref l) H) : wpAny (model X.prog X.w) X.A (binaryOp .Mult v u) (EP X pins σ Q) X.xe s := by
  cases rx; obtain ⟨t, rfl⟩ := ry
  obtain ⟨its, r, ⟨⟨cls, dd, data, sl⟩, ho, hc, n, hd⟩, hs⟩ := I.tuple hT
  simp only at hc hd; subst hc hd
  refine wpAny_binaryOp_repeat_ref (T := "tuple") (U := "int") (by decide) ⟨_, ho, rfl⟩ (fun s' => typeIs_int s' 1 t) noFill_tuple_mul F.fills_int_mul F.slot_int_rmul repeat_tuple F.slot_int_index.lookup ?_
  exact call_meets F.slot_int_rmul (typeIs_int s 1 t) F.entry_int_rmul (F.args_int_rmul_2 _ _) (int_rmul_tuple 1 t l its.toArray n dd sl) ⟨ho, rfl, ⟨_, ho, rfl⟩, call_meets F.slot_tuple_mul ⟨_, ho, rfl⟩ F.entry_tuple_mul (F.args_tuple_mul_2 _ _) (tuple_one l its.toArray n dd sl t) ⟨ho, .ref l, H, I, rfl, q⟩⟩
theorem op_mulX : OpR X (binaryOp .Mult) (rI (fun i j => IntMulOk i j) fun i j => .int (i * j)) := opI fun _ _ _ _ _ _ _ hc q => mul_int q hc
theorem v_mul (hK : X.K = B.K) : VOp B X (binaryOp .Mult) opMul := by
  intro pins s σ m h H wx wy x y v u Q I rx ry S r1 r2 p
  cases wx with
  | int i =>
    cases wy with
    | int j =>
      rw [r1.int_] at rx
      rw [r2.int_] at ry
      by_cases c : mulOk i j = true
      · exact op_mulX pins s σ H _ _ v u Q I rx ry ⟨i, j, rfl, rfl, mulOk_ok c, p.same (if_pos c) S (.int _)⟩
      · have z : opMul (.int i) (.int j) h = none := if_neg c
        rw [z] at p
        exact p.elim
    | _ => exact p.elim
  | tup xs =>
    cases wy with
    | int k =>
      rw [r2.int_] at ry
      obtain ⟨a, vs, rfl, qa, ra⟩ := r1.tup_
      by_cases c1 : k = 1
      · subst c1
        exact op_repT1 I rx ry (by rw [hK]; exact qa) (p.same (show opMul (.tup xs) (.int 1) h = some (.tup xs, h) by simp [opMul]) S r1)
      by_cases c : xs.isEmpty = false ∧ 2 ≤ k ∧ k ≤ 1000 ∧ xs.length ≤ 1000
      · have e : opMul (.tup xs) (.int k) h = some (.tup (List.replicate k.toNat xs).flatten, h) := (if_neg c1).trans (if_pos c)
        obtain ⟨c0, c5, c2, c3⟩ := c
        refine op_repT pins s σ H _ _ v u Q I rx ry ⟨a, k, vs, rfl, rfl, by rw [hK]; exact qa, fun e0 => ?_, c5, c2, by rw [← ra.length]; exact c3, fun a' ha' => p.tup e S (ra.rep_flat _) ha'⟩
        have z0 : xs = [] := List.eq_nil_of_length_eq_zero (by rw [ra.length, e0]; rfl)
        rw [z0] at c0
        cases c0
      · have z : opMul (.tup xs) (.int k) h = none := (if_neg c1).trans (if_neg c)
        rw [z] at p
        exact p.elim
    | _ => exact p.elim
  | ref i =>
    cases wy with
    | int k =>
      rw [r2.int_] at ry
      obtain ⟨a, rfl, ha⟩ := r1.ref_
      cases q1 : own? h i with
      | none =>
        have z : opMul (.ref i) (.int k) h = none := by simp only [opMul, q1]
        rw [z] at p
        exact p.elim
      | some xs =>
        obtain ⟨vs, ea, ra⟩ := own_at S ha q1
        by_cases c : -(2 ^ 63) ≤ k ∧ k < 2 ^ 63 ∧ xs.length * k.toNat ≤ 16777216
        · have e : opMul (.ref i) (.int k) h = some (.ref h.length, h ++ [.lst (List.replicate k.toNat xs).flatten]) := by simp only [opMul, q1, if_pos c]
          obtain ⟨c0, c1, c2⟩ := c
          exact op_rep pins s σ H _ _ v u Q I rx ry ⟨a, k, vs, rfl, rfl, ea, c0, c1, by rw [sizeLine_eq, ← ra.length]; exact c2, fun a' ha' => p.lst e S (ra.rep_flat _) ha'⟩
        · have z : opMul (.ref i) (.int k) h = none := by simp only [opMul, q1, if_neg c]
          rw [z] at p
          exact p.elim
    | _ => exact p.elim
  | _ => exact p.elim
/-- room for a division of great ints -/
def BigRoom (big : Bool) (X : Cx) : Prop := big = true → ∀ (pins : List (Addr × Obj)) (σ : St) (H : Hp) (s : Shared), Inv X pins σ H s → PySem.PylongRoom (model X.prog X.w) X.A s
theorem v_div {big : Bool} (hb : BigRoom big X) : VOp B X (binaryOp .FloorDiv) (opDiv big) := by
  intro pins s σ m h H wx wy x y v u Q I rx ry S r1 r2 p
  cases wx with
  | int i =>
    cases wy with
    | int j =>
      rw [r1.int_] at rx
      rw [r2.int_] at ry
      obtain ⟨t1, rfl⟩ := rx
      obtain ⟨t2, rfl⟩ := ry
      by_cases c : divOk j = true ∨ (big = true ∧ j ≠ 0)
      · have q : Q (.int (i.fdiv j)) H := p.same (if_pos c) S (.int _)
        have hj : j ≠ 0 ∧ (Builtin.divisionGoesByPylong i j = false ∨ PySem.PylongRoom (model X.prog X.w) X.A s) := by
          rcases c with c | ⟨c1, c2⟩
          · unfold divOk at c
            rcases Bool.or_eq_true_iff.mp c with c | c
            · obtain ⟨d1, d2⟩ := Bool.and_eq_true_iff.mp c
              exact ⟨of_decide_eq_true d1, .inl (PyProof.noPylong_small (of_decide_eq_true d2))⟩
            · obtain ⟨d1, d2⟩ := Bool.and_eq_true_iff.mp c
              have d1 := of_decide_eq_true d1
              exact ⟨by omega, .inl (PyProof.noPylong_of_log2 (of_decide_eq_true d2))⟩
          · exact ⟨c2, .inr (hb c1 pins σ H s I)⟩
        exact floordiv_int hj.1 ⟨.int (i.fdiv j), H, I.tok _, ⟨_, rfl⟩, q⟩ hj.2
      · have z : opDiv big (.int i) (.int j) h = none := if_neg c
        rw [z] at p
        exact p.elim
    | _ => exact p.elim
  | _ => exact p.elim
theorem v_mod : VOp B X (binaryOp .Mod) opMod := by
  intro pins s σ m h H wx wy x y v u Q I rx ry S r1 r2 p
  cases wx with
  | int i =>
    cases wy with
    | int j =>
      rw [r1.int_] at rx
      rw [r2.int_] at ry
      by_cases c : j ≠ 0
      · exact op_modN pins s σ H _ _ v u Q I rx ry ⟨i, j, rfl, rfl, c, p.same (if_pos c) S (.int _)⟩
      · have z : opMod (.int i) (.int j) h = none := if_neg c
        rw [z] at p
        exact p.elim
    | _ => exact p.elim
  | _ => exact p.elim
theorem v_bin {big : Bool} (hb : BigRoom big X) (hK : X.K = B.K) (op : Operator) : VOp B X (binaryOp op) (opBin big op) := by
  cases op with
  | Add => exact v_add hK
  | Sub => exact v_sub
  | Mult => exact v_mul hK
  | FloorDiv => exact v_div hb
  | Mod => exact v_mod
  | _ => exact fun _ _ _ _ _ _ _ _ _ _ _ _ _ _ _ _ _ _ _ p => p.elim
end
end Wv
end
section
set_option Elab.async false
set_option linter.all false
set_option maxRecDepth 100000
set_option maxHeartbeats 4000000
/-! Core D of ours: comparisons, truth, items, slices by values. -/
namespace Wv
open PySem PySem.Spec L2
open PyProof.Rows hiding St

/-! ### comparisons -/
def flatW : W → Option V
  | .non => some .non
  | .bl b => some (.bl b)
  | .int i => some (.int i)
  | .str x => some (.str x)
  | _ => none
def flatWs : List W → Option (List V)
  | [] => some []
  | w :: ws => match flatW w, flatWs ws with
    | some v, some vs => some (v :: vs)
    | _, _ => none
def cmpEq (a b : W) (h : Store) : Option Bool := match pyd h a, pyd h b with
  | some d, some e => some (PyData.eqv d e)
  | _, _ => none
def cmpIn (a b : W) (h : Store) : Option Bool := match b with
  | .str y => match a with
    | .str x => some (!(Builtin.Str.occurrences y x 0 y.length 1).isEmpty)
    | _ => none
  | .tup ws => match flatW a, flatWs ws with
    | some v, some vs => some (inV v vs)
    | _, _ => none
  | .ref _ => match pyd h a, pyd h b with
    | some d, some (.list ds) => some (ds.any fun z => PyData.eqv z d)
    | _, _ => none
  | _ => none
def isNon : W → Option Bool
  | .non => some true
  | .glo _ => none
  | .kls _ => none
  | _ => some false
def cmpIs (a b : W) : Option Bool := match b with
  | .non => isNon a
  | _ => none
def cmpLt : W → W → Option Bool
  | .int i, .int j => some (decide (i < j))
  | .str x, .str y => some (decide (x.cps.toList < y.cps.toList))
  | _, _ => none
def cmpLe : W → W → Option Bool
  | .int i, .int j => some (decide (i ≤ j))
  | .str x, .str y => some (!decide (y.cps.toList < x.cps.toList))
  | _, _ => none
def cmpGt : W → W → Option Bool
  | .int i, .int j => some (decide (j < i))
  | .str x, .str y => some (decide (y.cps.toList < x.cps.toList))
  | _, _ => none
def cmpGe : W → W → Option Bool
  | .int i, .int j => some (decide (j ≤ i))
  | .str x, .str y => some (!decide (x.cps.toList < y.cps.toList))
  | _, _ => none
def cmpW : CmpOp → W → W → Store → Option Bool
  | .Eq => cmpEq
  | .NotEq => fun a b h => (cmpEq a b h).map (!·)
  | .Lt => fun a b _ => cmpLt a b
  | .LtE => fun a b _ => cmpLe a b
  | .Gt => fun a b _ => cmpGt a b
  | .GtE => fun a b _ => cmpGe a b
  | .Is => fun a b _ => cmpIs a b
  | .IsNot => fun a b _ => (cmpIs a b).map (!·)
  | .In => cmpIn
  | .NotIn => fun a b h => (cmpIn a b h).map (!·)
/-- a comparison by values: the heap stays -/
def VCmp (B : Base) (X : Cx) (op : CmpOp) : Prop :=
  ∀ (pins : List (Addr × Obj)) (s : Shared) (σ : St) (m : List Addr) (h : Store) (H : Hp) (wx wy : W) (x y : V) (v u : Value) (Q : VK) (b : Bool), Inv X pins σ H s → RelV x v → RelV y u → Sim B m h H → rep B m H wx x → rep B m H wy y →
    cmpW op wx wy h = some b → Q (.bl b) H → wpAny (model X.prog X.w) X.A (compareOp op v u) (EP X pins σ Q) X.xe s
section
variable {B : Base} {X : Cx} {m : List Addr} {H : Hp} {h : Store}
theorem flatW_rep {w : W} {v x : V} (e : flatW w = some v) (r : rep B m H w x) : x = v ∧ flatV v = true := by
  cases w with
  | non => cases e; exact ⟨r.non_, rfl⟩
  | bl b => cases e; exact ⟨r.bl_, rfl⟩
  | int b => cases e; exact ⟨r.int_, rfl⟩
  | str b => cases e; exact ⟨r.str_, rfl⟩
  | _ => cases e
theorem flatWs_rep : ∀ {ws : List W} {vs xs : List V}, flatWs ws = some vs → reps B m H ws xs → xs = vs ∧ vs.all flatV = true
  | [], vs, xs, e, r => by
    unfold reps at r
    cases e
    exact ⟨r, rfl⟩
  | w :: ws, vs, xs, e, r => by
    unfold reps at r
    obtain ⟨v, t, e1, z, zs⟩ := r
    unfold flatWs at e
    split at e
    · rename_i v' vs' q1 q2
      cases e
      obtain ⟨a1, a2⟩ := flatW_rep q1 z
      obtain ⟨b1, b2⟩ := flatWs_rep q2 zs
      rw [e1, a1, b1]
      refine ⟨rfl, ?_⟩
      rw [List.all_cons, a2, b2]
      rfl
    · cases e
theorem isNon_rep {w : W} {v : V} {b : Bool} (e : isNon w = some b) (r : rep B m H w v) : b = decide (v = .non) := by
  cases w with
  | non => cases e; rw [r.non_]; rfl
  | bl b => cases e; rw [r.bl_]; rfl
  | int b => cases e; rw [r.int_]; rfl
  | str b => cases e; rw [r.str_]; rfl
  | tup b => cases e; obtain ⟨a, vs, rfl, _⟩ := r.tup_; rfl
  | ref b => cases e; obtain ⟨a, rfl, _⟩ := r.ref_; rfl
  | glo x => cases e
  | kls x => cases e
theorem cmpEq_rep {wx wy : W} {x y : V} {b : Bool} (S : Sim B m h H) (r1 : rep B m H wx x) (r2 : rep B m H wy y) (e : cmpEq wx wy h = some b) :
    ∃ d e, Dp B.K H x d ∧ Dp B.K H y e ∧ SeqAt.shaped d = true ∧ SeqAt.shaped e = true ∧ b = PyData.eqv d e := by
  unfold cmpEq at e
  split at e
  · rename_i d1 d2 q1 q2
    cases e
    obtain ⟨a1, a2⟩ := pyd_dp S r1 q1
    obtain ⟨b1, b2⟩ := pyd_dp S r2 q2
    exact ⟨d1, d2, a1, b1, a2, b2, rfl⟩
  · cases e
theorem v_eq (hK : X.K = B.K) (hu : X.A.units + 65 < cLine) : VCmp B X .Eq := by
  intro pins s σ m h H wx wy x y v u Q b I rx ry S r1 r2 e q
  obtain ⟨d1, d2, a1, b1, a2, b2, rfl⟩ := cmpEq_rep S r1 r2 e
  exact op_eqD (by omega) pins s σ H _ _ v u Q I rx ry ⟨d1, d2, by rw [hK]; exact a1, by rw [hK]; exact b1, a2, b2, q⟩
theorem map_not {o : Option Bool} {b : Bool} (e : o.map (!·) = some b) : o = some (!b) := by
  cases o with
  | none => cases e
  | some c =>
    simp only [Option.map_some, Option.some.injEq] at e
    subst e
    simp
theorem v_ne (hK : X.K = B.K) (hu : X.A.units + 65 < cLine) : VCmp B X .NotEq := by
  intro pins s σ m h H wx wy x y v u Q b I rx ry S r1 r2 e q
  obtain ⟨d1, d2, a1, b1, a2, b2, eb⟩ := cmpEq_rep S r1 r2 (map_not e)
  exact op_neD (by omega) pins s σ H _ _ v u Q I rx ry ⟨d1, d2, by rw [hK]; exact a1, by rw [hK]; exact b1, a2, b2, by rw [← eb, Bool.not_not]; exact q⟩
theorem cmpIs_non {wx wy : W} {b : Bool} (e : cmpIs wx wy = some b) : wy = .non ∧ isNon wx = some b := by
  unfold cmpIs at e
  split at e
  · exact ⟨rfl, e⟩
  · cases e
theorem v_is : VCmp B X .Is := by
  intro pins s σ m h H wx wy x y v u Q b I rx ry S r1 r2 e q
  obtain ⟨e1, e2⟩ := cmpIs_non e
  subst e1
  have z := isNon_rep e2 r1
  exact op_isN pins s σ H _ _ v u Q I rx ry ⟨r2.non_, by rw [← z]; exact q⟩
theorem v_isnot : VCmp B X .IsNot := by
  intro pins s σ m h H wx wy x y v u Q b I rx ry S r1 r2 e q
  obtain ⟨e1, e2⟩ := cmpIs_non (map_not e)
  subst e1
  have z := isNon_rep e2 r1
  exact op_notN pins s σ H _ _ v u Q I rx ry ⟨r2.non_, by rw [← z, Bool.not_not]; exact q⟩
theorem cmpIn_rep {wx wy : W} {x y : V} {b : Bool} (S : Sim B m h H) (r1 : rep B m H wx x) (r2 : rep B m H wy y) (e : cmpIn wx wy h = some b) :
    (∃ i j, x = .str i ∧ y = .str j ∧ b = !(Builtin.Str.occurrences j i 0 j.length 1).isEmpty) ∨
    (∃ p xs, y = .ref p ∧ SqT B.K H p xs ∧ flatV x = true ∧ xs.all flatV = true ∧ b = inV x xs) ∨
    (∃ d ds, Dp B.K H x d ∧ Dp B.K H y (.list ds) ∧ SeqAt.shaped d = true ∧ SeqAt.shaped (.list ds) = true ∧ b = ds.any fun z => PyData.eqv z d) := by
  unfold cmpIn at e
  split at e
  · rename_i j
    split at e
    · rename_i i
      cases e
      exact .inl ⟨i, j, r1.str_, r2.str_, rfl⟩
    · cases e
  · rename_i ws
    split at e
    · rename_i v vs q1 q2
      cases e
      obtain ⟨a, xs, e1, qa, ra⟩ := r2.tup_
      obtain ⟨a1, a2⟩ := flatW_rep q1 r1
      obtain ⟨b1, b2⟩ := flatWs_rep q2 ra
      subst a1
      subst b1
      exact .inr (.inl ⟨a, _, e1, qa, a2, b2, rfl⟩)
    · cases e
  · split at e
    · rename_i d ds q1 q2
      cases e
      obtain ⟨a1, a2⟩ := pyd_dp S r1 q1
      obtain ⟨b1, b2⟩ := pyd_dp S r2 q2
      exact .inr (.inr ⟨d, ds, a1, b1, a2, b2, rfl⟩)
    · cases e
  · cases e
theorem v_in (hK : X.K = B.K) (hu : X.A.units + 65 < cLine) : VCmp B X .In := by
  intro pins s σ m h H wx wy x y v u Q b I rx ry S r1 r2 e q
  rcases cmpIn_rep S r1 r2 e with ⟨i, j, e1, e2, eb⟩ | ⟨p, xs, e1, qa, f1, f2, eb⟩ | ⟨d, ds, a1, b1, a2, b2, eb⟩
  · exact op_in_str pins s σ H _ _ v u Q I rx ry ⟨i, j, e1, e2, by rw [← eb]; exact q⟩
  · exact op_in_seq pins s σ H _ _ v u Q I rx ry ⟨p, xs, e1, .inr (by rw [hK]; exact qa), f1, f2, by rw [if_neg (by decide), ← eb]; exact q⟩
  · exact op_inD hu pins s σ H _ _ v u Q I rx ry ⟨d, ds, by rw [hK]; exact a1, by rw [hK]; exact b1, a2, b2, by rw [← eb]; exact q⟩
theorem v_notin (hK : X.K = B.K) (hu : X.A.units + 65 < cLine) : VCmp B X .NotIn := by
  intro pins s σ m h H wx wy x y v u Q b I rx ry S r1 r2 e q
  rcases cmpIn_rep S r1 r2 (map_not e) with ⟨i, j, e1, e2, eb⟩ | ⟨p, xs, e1, qa, f1, f2, eb⟩ | ⟨d, ds, a1, b1, a2, b2, eb⟩
  · exact op_notIn_str pins s σ H _ _ v u Q I rx ry ⟨i, j, e1, e2, by rw [← eb, Bool.not_not]; exact q⟩
  · exact op_notIn_seq pins s σ H _ _ v u Q I rx ry ⟨p, xs, e1, .inr (by rw [hK]; exact qa), f1, f2, by rw [if_pos rfl, ← eb, Bool.not_not]; exact q⟩
  · exact op_notInD hu pins s σ H _ _ v u Q I rx ry ⟨d, ds, by rw [hK]; exact a1, by rw [hK]; exact b1, a2, b2, by rw [← eb, Bool.not_not]; exact q⟩
theorem v_lt : VCmp B X .Lt := by
  intro pins s σ m h H wx wy x y v u Q b I rx ry S r1 r2 e q
  cases wx with
  | int i =>
    cases wy with
    | int j =>
      cases e
      rw [r1.int_] at rx
      rw [r2.int_] at ry
      exact op_lt pins s σ H _ _ v u Q I rx ry ⟨i, j, rfl, rfl, q⟩
    | _ => cases e
  | str i =>
    cases wy with
    | str j =>
      cases e
      rw [r1.str_] at rx
      rw [r2.str_] at ry
      exact op_lt_str pins s σ H _ _ v u Q I rx ry ⟨i, j, rfl, rfl, q⟩
    | _ => cases e
  | _ => cases e
theorem v_le : VCmp B X .LtE := by
  intro pins s σ m h H wx wy x y v u Q b I rx ry S r1 r2 e q
  cases wx with
  | int i =>
    cases wy with
    | int j =>
      cases e
      rw [r1.int_] at rx
      rw [r2.int_] at ry
      exact op_le pins s σ H _ _ v u Q I rx ry ⟨i, j, rfl, rfl, q⟩
    | _ => cases e
  | str i =>
    cases wy with
    | str j =>
      cases e
      rw [r1.str_] at rx
      rw [r2.str_] at ry
      exact op_le_str pins s σ H _ _ v u Q I rx ry ⟨i, j, rfl, rfl, q⟩
    | _ => cases e
  | _ => cases e
theorem v_gt : VCmp B X .Gt := by
  intro pins s σ m h H wx wy x y v u Q b I rx ry S r1 r2 e q
  cases wx with
  | int i =>
    cases wy with
    | int j =>
      cases e
      rw [r1.int_] at rx
      rw [r2.int_] at ry
      exact op_gt pins s σ H _ _ v u Q I rx ry ⟨i, j, rfl, rfl, q⟩
    | _ => cases e
  | str i =>
    cases wy with
    | str j =>
      cases e
      rw [r1.str_] at rx
      rw [r2.str_] at ry
      exact op_gt_str pins s σ H _ _ v u Q I rx ry ⟨i, j, rfl, rfl, q⟩
    | _ => cases e
  | _ => cases e
theorem v_ge : VCmp B X .GtE := by
  intro pins s σ m h H wx wy x y v u Q b I rx ry S r1 r2 e q
  cases wx with
  | int i =>
    cases wy with
    | int j =>
      cases e
      rw [r1.int_] at rx
      rw [r2.int_] at ry
      exact op_ge pins s σ H _ _ v u Q I rx ry ⟨i, j, rfl, rfl, q⟩
    | _ => cases e
  | str i =>
    cases wy with
    | str j =>
      cases e
      rw [r1.str_] at rx
      rw [r2.str_] at ry
      exact op_ge_str pins s σ H _ _ v u Q I rx ry ⟨i, j, rfl, rfl, q⟩
    | _ => cases e
  | _ => cases e
theorem v_cmp (hK : X.K = B.K) (hu : X.A.units + 65 < cLine) (op : CmpOp) : VCmp B X op := by
  cases op with
  | Eq => exact v_eq hK hu
  | NotEq => exact v_ne hK hu
  | Lt => exact v_lt
  | LtE => exact v_le
  | Gt => exact v_gt
  | GtE => exact v_ge
  | Is => exact v_is
  | IsNot => exact v_isnot
  | In => exact v_in hK hu
  | NotIn => exact v_notin hK hu
end

/-! ### truth -/
def truW (h : Store) : W → Option Bool
  | .non => some false
  | .bl b => some b
  | .int i => some (i != 0)
  | .str y => if y.length ≤ 16777216 then some ((y.length : Int) != 0) else none
  | .tup ws => some (!ws.isEmpty)
  | .ref n => match h[n]? with
    | some (.lst ws) => some (!ws.isEmpty)
    | some (.dic kvs) => some (!kvs.isEmpty)
    | none => none
  | .glo _ => none
  | .kls _ => none
theorem reps.isEmpty {B : Base} {m : List Addr} {H : Hp} {ws : List W} {vs : List V} (r : reps B m H ws vs) : vs.isEmpty = ws.isEmpty := by
  cases ws with
  | nil => unfold reps at r; rw [r]; rfl
  | cons w ws =>
    unfold reps at r
    obtain ⟨v, t, e, _⟩ := r
    rw [e]
    rfl
theorem repk.isEmpty {B : Base} {m : List Addr} {H : Hp} {ws : List (Key × W)} {vs : List (Key × V)} (r : repk B m H ws vs) : vs.isEmpty = ws.isEmpty := by
  cases ws with
  | nil => unfold repk at r; rw [r]; rfl
  | cons w ws =>
    unfold repk at r
    obtain ⟨v, t, e, _⟩ := r
    rw [e]
    rfl
theorem truW_ok {B : Base} {m : List Addr} {H : Hp} {h : Store} {w : W} {v : V} {b : Bool} (S : Sim B m h H) (r : rep B m H w v) (e : truW h w = some b) : TruV B.K v H b := by
  cases w with
  | non => cases e; rw [r.non_]; rfl
  | bl b => cases e; rw [r.bl_]; rfl
  | int b => cases e; rw [r.int_]; rfl
  | str y =>
    rw [r.str_]
    simp only [truW] at e
    split at e
    · rename_i c
      cases e
      exact ⟨by rw [sizeLine_eq]; exact c, rfl⟩
    · cases e
  | tup ws =>
    cases e
    obtain ⟨a, vs, rfl, qa, ra⟩ := r.tup_
    exact .inr (.inl ⟨vs, qa, by rw [ra.isEmpty]⟩)
  | ref n =>
    obtain ⟨a, rfl, ha⟩ := r.ref_
    simp only [truW] at e
    split at e
    · rename_i ws q
      cases e
      obtain ⟨vs, z, ra⟩ := S.ob n a _ ha q
      exact .inl ⟨vs, .inl (.inl z), by rw [ra.isEmpty]⟩
    · rename_i ws q
      cases e
      obtain ⟨vs, z, ra⟩ := S.ob n a _ ha q
      exact .inr (.inr ⟨vs, z, by rw [ra.isEmpty]⟩)
    · cases e
  | glo x => cases e
  | kls x => cases e

/-! ### items, slices -/
def ixW (h : Store) : W → W → Option W
  | .tup ws, .int i => atI ws i
  | .ref n, .int i => match lst? h n with
    | some ws => atI ws i
    | none => none
  | .str z, .int i => if z.length ≤ 16777216 then (atI z.cps.toList i).map fun c => .str ⟨#[c]⟩ else none
  | _, _ => none
theorem atI_rep {B : Base} {m : List Addr} {H : Hp} {ws : List W} {vs : List V} {i : Int} {w : W} (r : reps B m H ws vs) (e : atI ws i = some w) : ∃ v, atI vs i = some v ∧ rep B m H w v := by
  unfold atI at e ⊢
  rw [← r.length]
  cases q : ixN ws.length i with
  | none => rw [q] at e; cases e
  | some j =>
    rw [q] at e
    exact r.get e
def VIx (B : Base) (X : Cx) : Prop :=
  ∀ (value slice : Expr) (pins : List (Addr × Obj)) (s : Shared) (σ : St) (m : List Addr) (h : Store) (H : Hp) (wx wy : W) (x y : V) (v u : Value) (Q : VK) (w : W), Inv X pins σ H s → RelV x v → RelV y u → Sim B m h H → rep B m H wx x → rep B m H wy y →
    ixW h wx wy = some w → (∀ z, rep B m H w z → Q z H) → subscripted slice false v u = operate [v, u] (getItem v u) → wpAny (model X.prog X.w) X.A (subscriptTail value slice v u) (EP X pins σ Q) X.xe s
theorem v_ix {B : Base} {X : Cx} (hK : X.K = B.K) : VIx B X := by
  intro value slice pins s σ m h H wx wy x y v u Q w I rx ry S r1 r2 e q hs
  cases wx with
  | tup ws =>
    cases wy with
    | int i =>
      obtain ⟨a, vs, rfl, qa, ra⟩ := r1.tup_
      rw [r2.int_] at ry
      obtain ⟨z, e1, r⟩ := atI_rep ra e
      exact ix_tup value slice pins s σ H _ _ v u Q I rx ry ⟨a, vs, i, z, rfl, rfl, by rw [hK]; exact qa, e1, q z r⟩ hs
    | _ => cases e
  | ref n =>
    cases wy with
    | int i =>
      obtain ⟨a, rfl, ha⟩ := r1.ref_
      rw [r2.int_] at ry
      cases q1 : lst? h n with
      | none => simp only [ixW, q1] at e; cases e
      | some ws =>
        simp only [ixW, q1] at e
        obtain ⟨vs, qa, ra⟩ := lst_at S ha q1
        obtain ⟨z, e1, r⟩ := atI_rep ra e
        exact ix_list value slice pins s σ H _ _ v u Q I rx ry ⟨a, vs, i, z, rfl, rfl, by rw [hK]; exact qa, e1, q z r⟩ hs
    | _ => cases e
  | str z =>
    cases wy with
    | int i =>
      rw [r1.str_] at rx
      rw [r2.int_] at ry
      by_cases c : z.length ≤ 16777216
      · simp only [ixW, if_pos c] at e
        cases q1 : atI z.cps.toList i with
        | none => rw [q1] at e; cases e
        | some cc =>
          rw [q1] at e
          cases e
          exact ix_str value slice pins s σ H _ _ v u Q I rx ry ⟨z, i, cc, rfl, rfl, by rw [sizeLine_eq]; exact c, q1, q _ (.str _)⟩ hs
      · simp only [ixW, if_neg c] at e
        cases e
    | _ => cases e
  | _ => cases e
def cutW (xs : List W) (lo hi : Option Int) : List W := (xs.drop (HT.sIx xs.length 0 lo)).take (HT.sIx xs.length xs.length hi - HT.sIx xs.length 0 lo)
theorem cutW_rep {B : Base} {m : List Addr} {H : Hp} {ws : List W} {vs : List V} (r : reps B m H ws vs) (lo hi : Option Int) : reps B m H (cutW ws lo hi) (cutV vs lo hi) := by
  unfold cutW cutV
  rw [r.length]
  exact (r.drop _).take _
def slW (h : Store) (w : W) (lo hi : Option Int) : Opt := match w with
  | .tup ws => some (.tup (cutW ws lo hi), h)
  | .ref n => match lst? h n with
    | some ws => some (.ref h.length, h ++ [.lst (cutW ws lo hi)])
    | none => none
  | .str z => if z.length ≤ 16777216 then some (.str (cutS z lo hi), h) else none
  | .kls ws => some (.ref h.length, h ++ [.lst (cutW ws lo hi)])
  | _ => none
theorem cutW_whole {ws : List W} {lo hi : Option Int} (e : HT.sIx ws.length 0 lo = 0 ∧ HT.sIx ws.length ws.length hi = ws.length) : cutW ws lo hi = ws := by
  unfold cutW
  rw [e.1, e.2]
  simp
/-- slices, by values -/
def VSl (B : Base) (X : Cx) : Prop :=
  ∀ (m : List Addr) (h : Store) (w : W), SlR X (fun x lo hi H Q => Sim B m h H ∧ rep B m H w x ∧ PO B m H (slW h w lo hi) Q)
theorem v_sl {B : Base} {X : Cx} (hK : X.K = B.K) : VSl B X := by
  intro m h w pins s σ H x v vl vu lo hi sl Q I rx hs pl pu p
  obtain ⟨S, r, p⟩ := p
  cases w with
  | tup ws =>
    obtain ⟨a, vs, rfl, qa, ra⟩ := r.tup_
    refine sl_tupA pins s σ H _ v vl vu lo hi sl Q I rx hs pl pu ⟨a, vs, rfl, by rw [hK]; exact qa, fun e => ?_, fun _ b hb => p.tup rfl S (cutW_rep ra lo hi) hb⟩
    rw [← ra.length] at e
    have z : slW h (.tup ws) lo hi = some (.tup ws, h) := by
      show some (W.tup (cutW ws lo hi), h) = _
      rw [cutW_whole e]
    exact p.same z S r
  | ref n =>
    obtain ⟨a, rfl, ha⟩ := r.ref_
    cases q1 : lst? h n with
    | none =>
      simp only [slW, q1] at p
      exact p.elim
    | some ws =>
      obtain ⟨vs, qa, ra⟩ := lst_at S ha q1
      have z : slW h (.ref n) lo hi = some (.ref h.length, h ++ [.lst (cutW ws lo hi)]) := by simp only [slW, q1]
      exact sl_list pins s σ H _ v vl vu lo hi sl Q I rx hs pl pu ⟨a, vs, rfl, by rw [hK]; exact qa, fun b hb => p.lst z S (cutW_rep ra lo hi) hb⟩
  | str z =>
    rw [r.str_] at rx
    by_cases c : z.length ≤ 16777216
    · exact sl_str pins s σ H _ v vl vu lo hi sl Q I rx hs pl pu ⟨z, rfl, by rw [sizeLine_eq]; exact c, p.same (if_pos c) S (.str _)⟩
    · have e : slW h (.str z) lo hi = none := if_neg c
      rw [e] at p
      exact p.elim
  | kls ws =>
    obtain ⟨a, vs, rfl, qa, ra⟩ := r.kls_
    exact sl_list pins s σ H _ v vl vu lo hi sl Q I rx hs pl pu ⟨a, vs, rfl, by rw [hK]; exact qa.sq, fun b hb => p.lst (show slW h (.kls ws) lo hi = some (.ref h.length, h ++ [.lst (cutW ws lo hi)]) from rfl) S (cutW_rep ra lo hi) hb⟩
  | _ => exact p.elim
end Wv
end
section
set_option Elab.async false
set_option linter.all false
set_option maxRecDepth 100000
set_option maxHeartbeats 4000000
/-! Core E of ours: simple expressions as plain functions, and that they are followed. -/
namespace Wv
open PySem PySem.Spec L2
open PyProof.Rows hiding St

/-! ### plain combinators -/
def cVal (w : W) : Den := fun _ h => .ok w h
def cVar (i : Nat) : Den := fun ρ h => match ρ[i]? with
  | some (some w) => .ok w h
  | _ => .bad
def cBin (big : Bool) (op : Operator) (f g : Den) : Den := fun ρ h => (f ρ h).bind fun x h1 => (g ρ h1).bind fun y h2 => Out.of (opBin big op x y h2)
def ofB (o : Option Bool) (h : Store) : Out W := match o with
  | some b => .ok (.bl b) h
  | none => .bad
def ofT (o : Option Bool) (h : Store) : Out Bool := match o with
  | some b => .ok b h
  | none => .bad
def cNot (f : Den) : Den := fun ρ h => (f ρ h).bind fun x h1 => ofB ((truW h1 x).map (!·)) h1
def negW : W → Store → Opt
  | .int i, h => some (.int (-i), h)
  | _, _ => none
def cNeg (f : Den) : Den := fun ρ h => (f ρ h).bind fun x h1 => Out.of (negW x h1)
def cAnd (f g : Den) : Den := fun ρ h => (f ρ h).bind fun x h1 => match truW h1 x with
  | some true => g ρ h1
  | some false => .ok x h1
  | none => .bad
def cOr (f g : Den) : Den := fun ρ h => (f ρ h).bind fun x h1 => match truW h1 x with
  | some true => .ok x h1
  | some false => g ρ h1
  | none => .bad
def cCmp (op : CmpOp) (f g : Den) : Den := fun ρ h => (f ρ h).bind fun x h1 => (g ρ h1).bind fun y h2 => ofB (cmpW op x y h2) h2
def cChain (op op' : CmpOp) (f g k : Den) : Den := fun ρ h => (f ρ h).bind fun x h1 => (g ρ h1).bind fun y h2 => match cmpW op x y h2 with
  | some true => (k ρ h2).bind fun z h3 => ofB (cmpW op' y z h3) h3
  | some false => .ok (.bl false) h2
  | none => .bad
def cIf (t : DenT) (f g : Den) : Den := fun ρ h => (t ρ h).bind fun b h1 => if b = true then f ρ h1 else g ρ h1
def cNil : DenA := fun _ h => .ok [] h
def cCons (f : Den) (g : DenA) : DenA := fun ρ h => (f ρ h).bind fun x h1 => (g ρ h1).bind fun xs h2 => .ok (x :: xs) h2
def cTup (f : DenA) : Den := fun ρ h => (f ρ h).bind fun xs h1 => if xs.length ≤ 16777216 then .ok (.tup xs) h1 else .bad
def cIx (f g : Den) : Den := fun ρ h => (f ρ h).bind fun x h1 => (g ρ h1).bind fun y h2 => match ixW h2 x y with
  | some w => .ok w h2
  | none => .bad
abbrev DenO := Rho → Store → Out (Option Int)
def cNoPart : DenO := fun _ h => .ok none h
def cPart (f : Den) : DenO := fun ρ h => (f ρ h).bind fun x h1 => match x with
  | .int i => .ok (some i) h1
  | _ => .bad
def cSl (f : Den) (lo hi : DenO) : Den := fun ρ h => (f ρ h).bind fun x h1 => (lo ρ h1).bind fun l h2 => (hi ρ h2).bind fun u h3 => Out.of (slW h3 x l u)
/-! tests -/
def tcVal (f : Den) : DenT := fun ρ h => (f ρ h).bind fun x h1 => ofT (truW h1 x) h1
def tcNot (f : DenT) : DenT := fun ρ h => (f ρ h).bind fun b h1 => .ok (!b) h1
def tcAnd (f g : DenT) : DenT := fun ρ h => (f ρ h).bind fun b h1 => if b = true then g ρ h1 else .ok false h1
def tcOr (f g : DenT) : DenT := fun ρ h => (f ρ h).bind fun b h1 => if b = true then .ok true h1 else g ρ h1
def tcCmp (op : CmpOp) (f g : Den) : DenT := fun ρ h => (f ρ h).bind fun x h1 => (g ρ h1).bind fun y h2 => ofT (cmpW op x y h2) h2
def tcChain (op op' : CmpOp) (f g k : Den) : DenT := fun ρ h => (f ρ h).bind fun x h1 => (g ρ h1).bind fun y h2 => match cmpW op x y h2 with
  | some true => (k ρ h2).bind fun z h3 => ofT (cmpW op' y z h3) h3
  | some false => .ok false h2
  | none => .bad
def dBad : Den := fun _ _ => .bad
def dtBad : DenT := fun _ _ => .bad
def daBad : DenA := fun _ _ => .bad

/-! ### they are followed -/
section
variable {B : Base} {Wx : WX} {X : Cx} {a b c : Expr} {es : List Expr} {f g k : Den} {fa : DenA} {t t' : DenT} {pos : Pos}
theorem ret_ {pins : List (Addr × Obj)} {s : Shared} {σ : St} {H : Hp} {m : List Addr} {h : Store} {Q : VK} {E : Exn → List Addr → Hp → Prop} {w : W} {v : V} {u : Value} (I : Inv X pins σ H s) (r : RelV v u) (S : Sim B m h H) (rw' : rep B m H w v) (p : PV B m H (.ok w h) (QE B Q) E) : EP X pins σ Q u s :=
  ⟨v, H, I, r, p.here S v rw'⟩
theorem de_bad : DE B Wx X a dBad := ⟨fun _ _ _ _ _ _ ⟨_, _, _, _, _, p⟩ => p.elim⟩
theorem dt_bad : DT B Wx X a dtBad := ⟨fun _ _ _ _ _ _ ⟨_, _, _, _, _, p⟩ => p.elim⟩
theorem da_bad : DA B Wx X es daBad := ⟨fun _ _ _ _ _ _ _ ⟨_, _, _, _, _, p⟩ => p.elim⟩
theorem de_var {i : Nat} {x : Str} (hN : X.N[i]? = some x) (hv : Vis X.env.scope x) (hd : (x == ("__debug__" : Str)) = false) (hcd : (x == ("__classdict__" : Str)) = false) : DE B Wx X (.Name x pos) (cVar i) := by
  refine ⟨fun pins s σ H Q I ⟨m, h, ρ, S, sl, p⟩ => ?_⟩
  unfold cVar at p
  split at p
  · rename_i w e
    obtain ⟨v, e1, r⟩ := sl.2 i w e
    exact (pe_var hN hv hd hcd).run pins s σ H Q I ⟨v, e1, p.here S v r⟩
  · exact p.elim
theorem de_val {w : W} {v : V} (hp : PE X a (tC v)) (hr : ∀ m H, rep B m H w v) : DE B Wx X a (cVal w) := by
  refine ⟨fun pins s σ H Q I ⟨m, h, ρ, S, sl, p⟩ => ?_⟩
  exact hp.run pins s σ H Q I (p.here S v (hr m H))
theorem de_bin (hK : X.K = B.K) {big : Bool} (hb : BigRoom big X) {op : Operator} (da : DE B Wx X a f) (db : DE B Wx X b g) : DE B Wx X (.BinOp a op b pos) (cBin big op f g) := by
  refine ⟨fun pins s σ H Q I ⟨m, h, ρ, S, sl, p⟩ => ?_⟩
  refine wpAny_BinOp (da.run I S sl p.bind fun x v s1 wx h1 m1 H1 I1 r1 S1 G1 q1 p1 => ?_)
  refine db.run I1 S1 (sl.go G1) p1.bind fun y u s2 wy h2 m2 H2 I2 r2 S2 G2 q2 p2 => ?_
  exact v_bin hb hK op pins s2 σ m2 h2 H2 wx wy x y v u Q I2 r1 r2 S2 (G2.rep q1) q2 (PO.of p2)
theorem de_not (hK : X.K = B.K) (da : DE B Wx X a f) : DE B Wx X (.UnaryOp .Not a pos) (cNot f) := by
  refine ⟨fun pins s σ H Q I ⟨m, h, ρ, S, sl, p⟩ => ?_⟩
  refine UnaryOp_ (da.run I S sl p.bind fun x v s1 wx h1 m1 H1 I1 r1 S1 G1 q1 p1 => ?_)
  cases e : truW h1 wx with
  | none =>
    rw [e] at p1
    exact p1.elim
  | some b =>
    rw [e] at p1
    have z := truW_ok S1 q1 e
    rw [← hK] at z
    exact not_of (thn (tru_ok pins s1 σ H1 x v (fun c H2 => c = b ∧ H2 = H1) I1 r1 ⟨b, z, rfl, rfl⟩) fun c s2 ⟨H2, I2, e1, e2⟩ => by
      subst e1 e2
      exact ret_ I2 (v := .bl _) rfl S1 (.bl _) p1)
theorem de_neg (da : DE B Wx X a f) : DE B Wx X (.UnaryOp .USub a pos) (cNeg f) := by
  refine ⟨fun pins s σ H Q I ⟨m, h, ρ, S, sl, p⟩ => ?_⟩
  refine UnaryOp_ (da.run I S sl p.bind fun x v s1 wx h1 m1 H1 I1 r1 S1 G1 q1 p1 => ?_)
  cases wx with
  | int i =>
    rw [q1.int_] at r1
    exact un_neg pins s1 σ H1 _ v Q I1 r1 ⟨i, rfl, p1.here S1 _ (.int _)⟩
  | _ => exact p1.elim
theorem de_one {op : BoolOp} (da : DE B Wx X a f) : DE B Wx X (.BoolOp op [a] pos) f := pe_one da
theorem de_and (hK : X.K = B.K) (da : DE B Wx X a f) (db : DE B Wx X (.BoolOp .And (b :: es) pos) g) : DE B Wx X (.BoolOp .And (a :: b :: es) pos) (cAnd f g) := by
  refine ⟨fun pins s σ H Q I ⟨m, h, ρ, S, sl, p⟩ => ?_⟩
  refine BoolOp_and (da.run I S sl p.bind fun x v s1 wx h1 m1 H1 I1 r1 S1 G1 q1 p1 => ?_)
  cases e : truW h1 wx with
  | none =>
    rw [e] at p1
    exact p1.elim
  | some c =>
    rw [e] at p1
    have z := truW_ok S1 q1 e
    rw [← hK] at z
    refine thn (tru_ok pins s1 σ H1 x v (fun c' H2 => c' = c ∧ H2 = H1) I1 r1 ⟨c, z, rfl, rfl⟩) fun c' s2 ⟨H2, I2, e1, e2⟩ => ?_
    subst e1 e2
    cases c' with
    | true => exact db.run I2 S1 (sl.go G1) p1 fun _ _ _ _ _ _ _ I3 r3 S3 G3 q3 p3 => ⟨_, _, I3, r3, p3 _ q3⟩
    | false => exact ret_ I2 r1 S1 q1 p1
theorem de_or (hK : X.K = B.K) (da : DE B Wx X a f) (db : DE B Wx X (.BoolOp .Or (b :: es) pos) g) : DE B Wx X (.BoolOp .Or (a :: b :: es) pos) (cOr f g) := by
  refine ⟨fun pins s σ H Q I ⟨m, h, ρ, S, sl, p⟩ => ?_⟩
  refine BoolOp_or (da.run I S sl p.bind fun x v s1 wx h1 m1 H1 I1 r1 S1 G1 q1 p1 => ?_)
  cases e : truW h1 wx with
  | none =>
    rw [e] at p1
    exact p1.elim
  | some c =>
    rw [e] at p1
    have z := truW_ok S1 q1 e
    rw [← hK] at z
    refine thn (tru_ok pins s1 σ H1 x v (fun c' H2 => c' = c ∧ H2 = H1) I1 r1 ⟨c, z, rfl, rfl⟩) fun c' s2 ⟨H2, I2, e1, e2⟩ => ?_
    subst e1 e2
    cases c' with
    | false => exact db.run I2 S1 (sl.go G1) p1 fun _ _ _ _ _ _ _ I3 r3 S3 G3 q3 p3 => ⟨_, _, I3, r3, p3 _ q3⟩
    | true => exact ret_ I2 r1 S1 q1 p1
/-- two values compared, in place -/
theorem cmp_here (hK : X.K = B.K) (hu : X.A.units + 65 < cLine) {op : CmpOp} {pins : List (Addr × Obj)} {s : Shared} {σ : St} {H : Hp} {m : List Addr} {h : Store} {Q : VK} {E : Exn → List Addr → Hp → Prop} {wx wy : W} {x y : V} {v u : Value} (I : Inv X pins σ H s) (rx : RelV x v) (ry : RelV y u) (S : Sim B m h H) (qx : rep B m H wx x) (qy : rep B m H wy y)
    (p : PV B m H (ofB (cmpW op wx wy h) h) (QE B Q) E) : wpAny (model X.prog X.w) X.A (compareOp op v u) (EP X pins σ Q) X.xe s := by
  cases e : cmpW op wx wy h with
  | none =>
    rw [e] at p
    exact p.elim
  | some b =>
    rw [e] at p
    exact v_cmp hK hu op pins s σ m h H wx wy x y v u Q b I rx ry S qx qy e (p.here S _ (.bl b))
theorem de_cmp (hK : X.K = B.K) (hu : X.A.units + 65 < cLine) {op : CmpOp} (da : DE B Wx X a f) (db : DE B Wx X b g) (hm : behindInMarks op b = false) : DE B Wx X (.Compare a [op] [b] pos) (cCmp op f g) := by
  refine ⟨fun pins s σ H Q I ⟨m, h, ρ, S, sl, p⟩ => ?_⟩
  refine wpAny_Compare1 (da.run I S sl p.bind fun x v s1 wx h1 m1 H1 I1 r1 S1 G1 q1 p1 => ?_) hm
  refine db.run I1 S1 (sl.go G1) p1.bind fun y u s2 wy h2 m2 H2 I2 r2 S2 G2 q2 p2 => ?_
  exact cmp_here hK hu I2 r1 r2 S2 (G2.rep q1) q2 p2
theorem de_chain (hK : X.K = B.K) (hu : X.A.units + 65 < cLine) {op op' : CmpOp} (da : DE B Wx X a f) (db : DE B Wx X b g) (dc : DE B Wx X c k) (hm : lastMarks [op, op'] [b, c] = false) : DE B Wx X (.Compare a [op, op'] [b, c] pos) (cChain op op' f g k) := by
  refine ⟨fun pins s σ H Q I ⟨m, h, ρ, S, sl, p⟩ => ?_⟩
  refine Compare_chain (da.run I S sl p.bind fun x v s1 wx h1 m1 H1 I1 r1 S1 G1 q1 p1 => ?_) hm
  refine chain_link (db.run I1 S1 (sl.go G1) p1.bind fun y u s2 wy h2 m2 H2 I2 r2 S2 G2 q2 p2 => ?_)
  cases e : cmpW op wx wy h2 with
  | none =>
    rw [e] at p2
    exact p2.elim
  | some d =>
    rw [e] at p2
    refine thn (v_cmp hK hu op pins s2 σ m2 h2 H2 wx wy x y v u (fun z H3 => z = .bl d ∧ H3 = H2) d I2 r1 r2 S2 (G2.rep q1) q2 e ⟨rfl, rfl⟩) fun cv s3 ⟨z, H3, I3, r3, e1, e2⟩ => ?_
    subst e1 e2
    cases (show cv = Value.bool d from r3)
    refine wpAny_truthy_bool ?_
    cases d with
    | true =>
      refine ite_tt (chain_last (dc.run I3 S2 ((sl.go G1).go G2) p2.bind fun z u2 s4 wz h4 m4 H4 I4 r4 S4 G4 q4 p4 => ?_))
      exact cmp_here hK hu I4 r2 r4 S4 (G4.rep q2) q4 p4
    | false => exact ite_ff (ret_ I3 (v := .bl false) rfl S2 (.bl false) p2)
theorem de_if (dt : DT B Wx X c t) (da : DE B Wx X a f) (db : DE B Wx X b g) : DE B Wx X (.IfExp c a b pos) (cIf t f g) := by
  refine ⟨fun pins s σ H Q I ⟨m, h, ρ, S, sl, p⟩ => ?_⟩
  refine wpAny_IfExp (dt.run I S sl p.bind fun d s1 h1 m1 H1 I1 S1 G1 p1 => ?_)
  cases d with
  | true => exact da.run I1 S1 (sl.go G1) p1 fun _ _ _ _ _ _ _ I3 r3 S3 G3 q3 p3 => ⟨_, _, I3, r3, p3 _ q3⟩
  | false => exact db.run I1 S1 (sl.go G1) p1 fun _ _ _ _ _ _ _ I3 r3 S3 G3 q3 p3 => ⟨_, _, I3, r3, p3 _ q3⟩
theorem da_nil : DA B Wx X [] cNil := ⟨fun pos pins s σ H Q I ⟨m, h, ρ, S, sl, p⟩ => Calls.spliced_nil ⟨[], H, I, .nil, p.here S [] .nil⟩⟩
theorem da_cons (da : DE B Wx X a f) (db : DA B Wx X es fa) (hs : starEach (a :: es) X.env = (false, eval a X.env) :: starEach es X.env) : DA B Wx X (a :: es) (cCons f fa) := by
  refine ⟨fun pos pins s σ H Q I ⟨m, h, ρ, S, sl, p⟩ => ?_⟩
  rw [hs]
  refine Calls.spliced_cons (da.run I S sl p.bind fun x v s1 wx h1 m1 H1 I1 r1 S1 G1 q1 p1 => ?_)
  refine db.run I1 S1 (sl.go G1) p1.bind pos fun xs us s2 ws h2 m2 H2 I2 r2 S2 G2 q2 p2 => ?_
  exact ⟨x :: xs, H2, I2, .cons r1 r2, p2.here S2 _ (.cons (G2.rep q1) q2)⟩
theorem de_tup {x1 : Nat} (da : DA B Wx X es fa) : DE B Wx X (.Tuple es x1 pos) (cTup fa) := by
  refine ⟨fun pins s σ H Q I ⟨m, h, ρ, S, sl, p⟩ => ?_⟩
  refine (pe_tup (x1 := x1) (pos := pos) da).run pins s σ H Q I ⟨m, h, ρ, S, sl, p.bind.imp fun ws h1 m1 H1 S1 G1 p1 xs r1 => ?_⟩
  by_cases c : ws.length ≤ 16777216
  · rw [if_pos c] at p1
    refine ⟨by rw [sizeLine_eq, ← r1.length]; exact c, fun a ha => ?_⟩
    exact PO.tup (o := some (.tup ws, h1)) (PO.of (E := XS B Wx σ) p1) rfl S1 r1 ha
  · rw [if_neg c] at p1
    exact p1.elim
theorem de_ix (hK : X.K = B.K) (da : DE B Wx X a f) (db : DE B Wx X b g) (hs : PlainIx b) : DE B Wx X (.Subscript a b pos) (cIx f g) := by
  refine ⟨fun pins s σ H Q I ⟨m, h, ρ, S, sl, p⟩ => ?_⟩
  refine Subscript_ (da.run I S sl p.bind fun x v s1 wx h1 m1 H1 I1 r1 S1 G1 q1 p1 => ?_)
  refine db.run I1 S1 (sl.go G1) p1.bind fun y u s2 wy h2 m2 H2 I2 r2 S2 G2 q2 p2 => ?_
  cases e : ixW h2 wx wy with
  | none =>
    rw [e] at p2
    exact p2.elim
  | some w =>
    rw [e] at p2
    exact v_ix hK a b pins s2 σ m2 h2 H2 wx wy x y v u Q w I2 r1 r2 S2 (G2.rep q1) q2 e (p2.here S2) (hs _ _)
/-- a part of a slice -/
def tDO (B : Base) (Wx : WX) (f : DenO) : TO := fun σ H Q => ∃ m h ρ, Sim B m h H ∧ slots B m H ρ σ ∧ PV B m H (f ρ h) (fun o _ _ H' => Q o H') (XS B Wx σ)
def DO (B : Base) (Wx : WX) (X : Cx) (e : Option Expr) (f : DenO) : Prop := L2.PO X e (tDO B Wx f)
theorem do_none : DO B Wx X none cNoPart := ⟨fun pins s σ H Q I ⟨m, h, ρ, S, sl, p⟩ => po_none.run pins s σ H Q I (p.here S)⟩
theorem do_some (da : DE B Wx X a f) : DO B Wx X (some a) (cPart f) := by
  refine ⟨fun pins s σ H Q I ⟨m, h, ρ, S, sl, p⟩ => ?_⟩
  refine (po_some da).run pins s σ H Q I ⟨m, h, ρ, S, sl, p.bind.imp fun w h1 m1 H1 S1 G1 p1 v r => ?_⟩
  cases w with
  | int i => exact ⟨i, r.int_, p1.here S1⟩
  | _ => exact p1.elim
theorem de_sl (hK : X.K = B.K) {lo hi : Option Expr} {fl fh : DenO} {p2 : Pos} (da : DE B Wx X a f) (dl : DO B Wx X lo fl) (dh : DO B Wx X hi fh) : DE B Wx X (.Subscript a (.Slice lo hi none p2) pos) (cSl f fl fh) := by
  refine ⟨fun pins s σ H Q I ⟨m, h, ρ, S, sl, p⟩ => ?_⟩
  refine (pe_slice (r := fun x lo hi H Q => ∃ (m : List Addr) (h : Store) (w : W), Sim B m h H ∧ rep B m H w x ∧ PO B m H (slW h w lo hi) Q) (fun pins s σ H x v vl vu lo hi sl Q I rx hs pl pu ⟨m, h, w, q⟩ => v_sl hK m h w pins s σ H x v vl vu lo hi sl Q I rx hs pl pu q) da dl dh).run pins s σ H Q I ⟨m, h, ρ, S, sl, p.bind.imp fun w h1 m1 H1 S1 G1 p1 v r => ?_⟩
  refine ⟨m1, h1, ρ, S1, sl.go G1, p1.bind.imp fun l h2 m2 H2 S2 G2 p2 => ?_⟩
  refine ⟨m2, h2, ρ, S2, (sl.go G1).go G2, p2.bind.imp fun u h3 m3 H3 S3 G3 p3 => ?_⟩
  exact ⟨m3, h3, w, S3, G3.rep (G2.rep r), PO.of p3⟩

/-! tests -/
theorem dt_val (hK : X.K = B.K) (da : DE B Wx X a f) (he : ∀ whole, isTrue a X.env whole = (do let v ← whole; standAt a.pos; holding [v] (truthy v))) : DT B Wx X a (tcVal f) := by
  refine ⟨fun pins s σ H Q I ⟨m, h, ρ, S, sl, p⟩ => ?_⟩
  refine isTrue_plain (da.run I S sl p.bind fun x v s1 wx h1 m1 H1 I1 r1 S1 G1 q1 p1 => ?_) (he _)
  cases e : truW h1 wx with
  | none =>
    rw [e] at p1
    exact p1.elim
  | some b =>
    rw [e] at p1
    have z := truW_ok S1 q1 e
    rw [← hK] at z
    exact tru_ok pins s1 σ H1 x v Q I1 r1 ⟨b, z, p1.here S1⟩
theorem dt_not (da : DT B Wx X a t) : DT B Wx X (.UnaryOp .Not a pos) (tcNot t) := by
  refine ⟨fun pins s σ H Q I ⟨m, h, ρ, S, sl, p⟩ => ?_⟩
  exact isTrue_not (da.run I S sl p.bind fun b s1 h1 m1 H1 I1 S1 G1 p1 => ⟨H1, I1, p1.here S1⟩)
/-- and, or as tests, whatever the whole -/
def DW (B : Base) (Wx : WX) (X : Cx) (e : Expr) (f : DenT) : Prop := PW X e (tDT B Wx f)
theorem DW.dt (d : DW B Wx X a t) : DT B Wx X a t := PW.pt d
theorem dw_one {op : BoolOp} (da : DT B Wx X a t) : DW B Wx X (.BoolOp op [a] pos) t := by
  cases op with
  | And => exact pw_and1 da
  | Or => exact pw_or1 da
theorem dw_and (da : DT B Wx X a t) (db : DW B Wx X (.BoolOp .And (b :: es) pos) t') : DW B Wx X (.BoolOp .And (a :: b :: es) pos) (tcAnd t t') := by
  refine ⟨fun wh pins s σ H Q I ⟨m, h, ρ, S, sl, p⟩ => ?_⟩
  refine (pw_and da db).run wh pins s σ H Q I ⟨m, h, ρ, S, sl, p.bind.imp fun c h1 m1 H1 S1 G1 p1 => ?_⟩
  cases c with
  | true => exact ⟨m1, h1, ρ, S1, sl.go G1, p1⟩
  | false => exact p1.here S1
theorem dw_or (da : DT B Wx X a t) (db : DW B Wx X (.BoolOp .Or (b :: es) pos) t') : DW B Wx X (.BoolOp .Or (a :: b :: es) pos) (tcOr t t') := by
  refine ⟨fun wh pins s σ H Q I ⟨m, h, ρ, S, sl, p⟩ => ?_⟩
  refine (pw_or da db).run wh pins s σ H Q I ⟨m, h, ρ, S, sl, p.bind.imp fun c h1 m1 H1 S1 G1 p1 => ?_⟩
  cases c with
  | true => exact p1.here S1
  | false => exact ⟨m1, h1, ρ, S1, sl.go G1, p1⟩
theorem cmp_test (hK : X.K = B.K) (hu : X.A.units + 65 < cLine) {op : CmpOp} {pins : List (Addr × Obj)} {s : Shared} {σ : St} {H : Hp} {m : List Addr} {h : Store} {Q : Bool → Hp → Prop} {E : Exn → List Addr → Hp → Prop} {wx wy : W} {x y : V} {v u : Value} (I : Inv X pins σ H s) (rx : RelV x v) (ry : RelV y u) (S : Sim B m h H) (qx : rep B m H wx x) (qy : rep B m H wy y)
    (p : PV B m H (ofT (cmpW op wx wy h) h) (QT Q) E) : wpAny (model X.prog X.w) X.A (compareOp op v u) (fun c s' => wpAny (model X.prog X.w) X.A (truthy c) (TP X pins σ Q) X.xe s') X.xe s := by
  cases e : cmpW op wx wy h with
  | none =>
    rw [e] at p
    exact p.elim
  | some b =>
    rw [e] at p
    refine thn (v_cmp hK hu op pins s σ m h H wx wy x y v u (fun z H3 => z = .bl b ∧ H3 = H) b I rx ry S qx qy e ⟨rfl, rfl⟩) fun cv s3 ⟨z, H3, I3, r3, e1, e2⟩ => ?_
    subst e1 e2
    cases (show cv = Value.bool b from r3)
    exact wpAny_truthy_bool ⟨_, I3, p.here S⟩
theorem dt_cmp (hK : X.K = B.K) (hu : X.A.units + 65 < cLine) {op : CmpOp} (da : DE B Wx X a f) (db : DE B Wx X b g) (hm : behindInMarks op b = false) : DT B Wx X (.Compare a [op] [b] pos) (tcCmp op f g) := by
  refine ⟨fun pins s σ H Q I ⟨m, h, ρ, S, sl, p⟩ => ?_⟩
  refine wpAny_isTrue_Compare1 (da.run I S sl p.bind fun x v s1 wx h1 m1 H1 I1 r1 S1 G1 q1 p1 => ?_) hm
  refine db.run I1 S1 (sl.go G1) p1.bind fun y u s2 wy h2 m2 H2 I2 r2 S2 G2 q2 p2 => ?_
  exact cmp_test hK hu I2 r1 r2 S2 (G2.rep q1) q2 p2
theorem dt_chain (hK : X.K = B.K) (hu : X.A.units + 65 < cLine) {op op' : CmpOp} (da : DE B Wx X a f) (db : DE B Wx X b g) (dc : DE B Wx X c k) (hm : lastMarks [op, op'] [b, c] = false) : DT B Wx X (.Compare a [op, op'] [b, c] pos) (tcChain op op' f g k) := by
  refine ⟨fun pins s σ H Q I ⟨m, h, ρ, S, sl, p⟩ => ?_⟩
  refine isTrue_chain (da.run I S sl p.bind fun x v s1 wx h1 m1 H1 I1 r1 S1 G1 q1 p1 => ?_) hm
  refine test_link (db.run I1 S1 (sl.go G1) p1.bind fun y u s2 wy h2 m2 H2 I2 r2 S2 G2 q2 p2 => ?_)
  cases e : cmpW op wx wy h2 with
  | none =>
    rw [e] at p2
    exact p2.elim
  | some d =>
    rw [e] at p2
    refine thn (v_cmp hK hu op pins s2 σ m2 h2 H2 wx wy x y v u (fun z H3 => z = .bl d ∧ H3 = H2) d I2 r1 r2 S2 (G2.rep q1) q2 e ⟨rfl, rfl⟩) fun cv s3 ⟨z, H3, I3, r3, e1, e2⟩ => ?_
    subst e1 e2
    cases (show cv = Value.bool d from r3)
    refine wpAny_truthy_bool ?_
    cases d with
    | true =>
      refine ite_tt (test_last (dc.run I3 S2 ((sl.go G1).go G2) p2.bind fun z u2 s4 wz h4 m4 H4 I4 r4 S4 G4 q4 p4 => ?_))
      exact cmp_test hK hu I4 r2 r4 S4 (G4.rep q2) q4 p4
    | false => exact ite_ff ⟨_, I3, p2.here S2⟩
end
end Wv
end
section
set_option Elab.async false
set_option linter.all false
set_option maxRecDepth 100000
set_option maxHeartbeats 4000000
/-! Core F of ours: targets, what is walked, fresh lists, comprehensions. -/
namespace Wv
open PySem PySem.Spec L2
open PyProof.Rows hiding St

/-! ### targets -/
inductive Tgt where
  | nm (i : Nat)
  | tp (ts : List Tgt)
mutual
def Tgt.slots : Tgt → List Nat
  | .nm i => [i]
  | .tp ts => Tgt.slotsAll ts
def Tgt.slotsAll : List Tgt → List Nat
  | [] => []
  | t :: ts => t.slots ++ Tgt.slotsAll ts
end
mutual
def Tgt.bind : Tgt → W → Rho → Option Rho
  | .nm i, w, ρ => some (ρ.set i (some w))
  | .tp ts, .tup ws, ρ => Tgt.bindAll ts ws ρ
  | .tp _, _, _ => none
def Tgt.bindAll : List Tgt → List W → Rho → Option Rho
  | [], [], ρ => some ρ
  | t :: ts, w :: ws, ρ => (t.bind w ρ).bind (Tgt.bindAll ts ws)
  | _, _, _ => none
end
theorem Tgt.bindAll_length : ∀ {ts : List Tgt} {ws : List W} {ρ ρ' : Rho}, Tgt.bindAll ts ws ρ = some ρ' → ws.length = ts.length
  | [], [], _, _, _ => rfl
  | t :: ts, w :: ws, ρ, ρ', e => by
    unfold Tgt.bindAll at e
    cases q : t.bind w ρ with
    | none => rw [q] at e; cases e
    | some r =>
      rw [q] at e
      rw [List.length_cons, List.length_cons, Tgt.bindAll_length (ρ := r) e]
  | [], _ :: _, _, _, e => by unfold Tgt.bindAll at e; cases e
  | _ :: _, [], _, _, e => by unfold Tgt.bindAll at e; cases e
def tDG (B : Base) (T : Tgt) : TG := fun v σ H Q => ∃ m h ρ w ρ', Sim B m h H ∧ slots B m H ρ σ ∧ rep B m H w v ∧ T.bind w ρ = some ρ' ∧ ∀ σ', slots B m H ρ' σ' → (∀ i, i ∉ T.slots → σ'[i]? = σ[i]?) → Q σ' H
def DG (B : Base) (X : Cx) (e : Expr) (T : Tgt) : Prop := PG X e (tDG B T)
def tDGs (B : Base) (ts : List Tgt) : TGs := fun vs σ H Q => ∃ m h ρ ws ρ', Sim B m h H ∧ slots B m H ρ σ ∧ reps B m H ws vs ∧ Tgt.bindAll ts ws ρ = some ρ' ∧ ∀ σ', slots B m H ρ' σ' → (∀ i, i ∉ Tgt.slotsAll ts → σ'[i]? = σ[i]?) → Q σ' H
def DGs (B : Base) (X : Cx) (es : List Expr) (ts : List Tgt) : Prop := PGs X es (tDGs B ts)
def isStar : Expr → Bool
  | .Starred _ _ => true
  | _ => false
theorem assignEach_cons {e : Expr} {es : List Expr} {env : Env} (h : isStar e = false) : assignEach (e :: es) env = (false, assign e env) :: assignEach es env := by
  cases e <;> first | rfl | cases h
theorem starEach_cons {e : Expr} {es : List Expr} {env : Env} (h : isStar e = false) : starEach (e :: es) env = (false, eval e env) :: starEach es env := by
  cases e <;> first | rfl | cases h
section
variable {B : Base} {X : Cx} {e : Expr} {es : List Expr} {t : Tgt} {ts : List Tgt} {pos : Pos}
theorem dg_name {i : Nat} {x : Str} (hN : X.N.Nodup) (hi : X.N[i]? = some x) (hx : Loc X.env.scope x) (hf : X.fn x = true ∨ X.env.scope.names.lookup x = some .local) : DG B X (.Name x pos) (.nm i) := by
  refine ⟨fun pins s σ H v u Q I r ⟨m, h, ρ, w, ρ', S, sl, q, e, k⟩ => ?_⟩
  unfold Tgt.bind at e
  cases e
  refine (pg_name hN hi hx hf).run pins s σ H v u Q I r (k _ (sl.set i q) fun j hj => ?_)
  refine List.getElem?_set_ne fun z => hj ?_
  unfold Tgt.slots
  simp [z]
theorem dgs_nil : DGs B X [] [] := by
  refine ⟨fun pins s σ H vs us Q I r ⟨m, h, ρ, ws, ρ', S, sl, q, e, k⟩ => ?_⟩
  cases ws with
  | nil =>
    unfold Tgt.bindAll at e
    cases e
    unfold reps at q
    exact pgs_nil.run pins s σ H vs us Q I r ⟨q, k _ sl fun _ _ => rfl⟩
  | cons w ws => unfold Tgt.bindAll at e; cases e
theorem dgs_cons (hs : isStar e = false) (h1 : DG B X e t) (h2 : DGs B X es ts) : DGs B X (e :: es) (t :: ts) := by
  refine ⟨fun pins s σ H vs us Q I r ⟨m, h, ρ, ws, ρ', S, sl, q, eb, k⟩ => ?_⟩
  cases ws with
  | nil => unfold Tgt.bindAll at eb; cases eb
  | cons w ws =>
    unfold Tgt.bindAll at eb
    unfold reps at q
    obtain ⟨v, vr, e1, q1, q2⟩ := q
    cases z : t.bind w ρ with
    | none => rw [z] at eb; cases eb
    | some ρ1 =>
      rw [z] at eb
      refine (pgs_cons h1 h2 (by rw [assignEach_cons hs]; rfl)).run pins s σ H vs us Q I r ⟨v, vr, e1, m, h, ρ, w, ρ1, S, sl, q1, z, fun σ1 sl1 f1 => ?_⟩
      refine ⟨m, h, ρ1, ws, ρ', S, sl1, q2, eb, fun σ2 sl2 f2 => k σ2 sl2 fun i hi => ?_⟩
      unfold Tgt.slotsAll at hi
      rw [List.mem_append, not_or] at hi
      exact (f2 i hi.2).trans (f1 i hi.1)
/-- how many, none with a star -/
theorem assignEach_plain : ∀ {es : List Expr} {env : Env}, es.all (fun e => !isStar e) = true → (assignEach es env).length = es.length ∧ (assignEach es env).findIdx? (·.1) = none
  | [], env, _ => ⟨rfl, rfl⟩
  | e :: es, env, h => by
    rw [List.all_cons] at h
    obtain ⟨h1, h2⟩ := Bool.and_eq_true_iff.mp h
    obtain ⟨a, b⟩ := assignEach_plain (es := es) (env := env) h2
    rw [assignEach_cons (by simpa using h1)]
    refine ⟨by rw [List.length_cons, List.length_cons, a], ?_⟩
    rw [List.findIdx?_cons]
    simp [b]
theorem dg_tup (hK : X.K = B.K) (hc : X.calm = true) {k : Nat} (hs : es.all (fun e => !isStar e) = true) (hl : ts.length = es.length) (h : DGs B X es ts) : DG B X (.Tuple es k pos) (.tp ts) := by
  obtain ⟨a1, a2⟩ := assignEach_plain (env := X.env) hs
  refine ⟨fun pins s σ H v u Q I r ⟨m, h', ρ, w, ρ', S, sl, q, eb, kk⟩ => ?_⟩
  cases w with
  | tup ws =>
    unfold Tgt.bind at eb
    obtain ⟨a, vs, rfl, qa, ra⟩ := q.tup_
    refine (pg_tup (n := es.length) hc h a1 a2).run pins s σ H _ u Q I r ⟨a, vs, rfl, by rw [hK]; exact qa, ?_, m, h', ρ, ws, ρ', S, sl, ra, eb, fun σ' s' f => kk σ' s' fun i hi => f i (by unfold Tgt.slots at hi; exact hi)⟩
    rw [← ra.length, Tgt.bindAll_length eb, hl]
  | _ => unfold Tgt.bind at eb; cases eb
end

/-! ### what is walked -/
/-- the lists that must stay while they are walked -/
abbrev Gd := List (Nat × List W)
def gdOk (g : Gd) (h : Store) : Prop := ∀ p ∈ g, lst? h p.1 = some p.2
/-- what an iterator that was made between Hs and H leans on -/
structure GoF (Hs : Hp) (m : List Addr) (H : Hp) (m' : List Addr) (H' : Hp) : Prop where
  pre : ∃ t, m' = m ++ t ∧ ∀ a ∈ t, Hs a = none → H a = none
  keep : ∀ a o, Hs a = none → H a = some o → a ∉ m → H' a = some o
  tup : TupIn H H'
theorem Go.toF {Hs : Hp} {m m' : List Addr} {H H' : Hp} (G : Go m H m' H') : GoF Hs m H m' H' := ⟨let ⟨t, e, f⟩ := G.pre; ⟨t, e, fun a ha _ => f a ha⟩, fun a o _ e h => G.keep a o e h, G.tup⟩
theorem GoF.reps {B : Base} {Hs : Hp} {m m' : List Addr} {H H' : Hp} {ws : List W} {vs : List V} (G : GoF Hs m H m' H') (r : reps B m H ws vs) : reps B m' H' ws vs := reps.stay G.tup (let ⟨t, e, _⟩ := G.pre; ⟨t, e⟩) ws vs r
structure Iw (B : Base) (Hs : Hp) (m : List Addr) (H : Hp) (ws : List W) (g : Gd) (J : It) : Prop where
  go : ∀ i m2 h2 H2, GoF Hs m H m2 H2 → Sim B m2 h2 H2 → gdOk g h2 → i < ws.length → J.go i H2
  stop : ∀ m2 h2 H2, GoF Hs m H m2 H2 → Sim B m2 h2 H2 → gdOk g h2 → J.stop ws.length H2
  yld : ∀ i w m2 h2 H2 x H3, GoF Hs m H m2 H2 → Sim B m2 h2 H2 → gdOk g h2 → ws[i]? = some w → J.yld i H2 x H3 → Sim B m2 h2 H3 ∧ Go m2 H2 m2 H3 ∧ rep B m2 H3 w x
abbrev DenI := Rho → Store → Out (List W × Gd)
def tDI (B : Base) (Wx : WX) (f : DenI) : TI := fun σ H R => ∃ m h ρ, Sim B m h H ∧ slots B m H ρ σ ∧ PV B m H (f ρ h) (fun q _ m' H' => ∀ J, Iw B H m' H' q.1 q.2 J → R J H') (XS B Wx σ)
def DI (B : Base) (Wx : WX) (X : Cx) (tg e : Expr) (f : DenI) : Prop := PI X tg e (tDI B Wx f)
section
variable {B : Base} {m m' : List Addr} {Hs H H' : Hp} {ws : List W} {h : Store}
theorem Iw.range (lo : Int) (n : Nat) : Iw B Hs m H ((List.range n).map fun i => W.int (lo + (i : Nat))) [] (Itr lo n) where
  go := fun i m2 h2 H2 _ _ _ hi => by show i < n; simpa using hi
  stop := fun m2 h2 H2 _ _ _ => by show n ≤ _; simp
  yld := fun i w m2 h2 H2 x H3 _ S _ e y => by
    obtain ⟨e1, e2⟩ := y
    subst e1 e2
    refine ⟨S, Go.refl, ?_⟩
    rw [List.getElem?_map] at e
    cases z : (List.range n)[i]? with
    | none => rw [z] at e; cases e
    | some j =>
      rw [z] at e
      cases e
      have := List.getElem?_range (n := n) (i := i) (by
        have := (List.getElem?_eq_some_iff.mp z).1
        simpa using this)
      rw [this] at z
      cases z
      exact .int _
theorem Iw.rangeC (lo c : Int) (n : Nat) : Iw B Hs m H ((List.range n).map fun i => W.int (lo + (i : Nat) * c)) [] (Itc lo c n) where
  go := fun i m2 h2 H2 _ _ _ hi => by show i < n; simpa using hi
  stop := fun m2 h2 H2 _ _ _ => by show n ≤ _; simp
  yld := fun i w m2 h2 H2 x H3 _ S _ e y => by
    obtain ⟨e1, e2⟩ := y
    subst e1 e2
    refine ⟨S, Go.refl, ?_⟩
    rw [List.getElem?_map] at e
    cases z : (List.range n)[i]? with
    | none => rw [z] at e; cases e
    | some j =>
      rw [z] at e
      cases e
      have := List.getElem?_range (n := n) (i := i) (by
        have := (List.getElem?_eq_some_iff.mp z).1
        simpa using this)
      rw [this] at z
      cases z
      exact .int _
theorem Iw.tup {a : Addr} {vs : List V} (q : SqT B.K H a vs) (r : reps B m H ws vs) : Iw B Hs m H ws [] (Itt B.K a) where
  go := fun i m2 h2 H2 G _ _ hi => ⟨vs, vs[i]'(by rw [← r.length]; exact hi), SqT.stay q G.tup, List.getElem?_eq_getElem _⟩
  stop := fun m2 h2 H2 G _ _ => ⟨vs, SqT.stay q G.tup, by rw [r.length]; exact Nat.le_refl _⟩
  yld := fun i w m2 h2 H2 x H3 G S _ e y => by
    obtain ⟨e1, e2⟩ := y
    subst e1
    obtain ⟨v, e3, r3⟩ := (G.reps r).get e
    rw [e2 vs (SqT.stay q G.tup)] at e3
    cases e3
    exact ⟨S, Go.refl, r3⟩
/-- an unnamed list -/
theorem Iw.fresh {a : Addr} {vs : List V} (q : H a = some (.lst vs)) (hf : Hs a = none) (ha : a ∉ m) (r : reps B m H ws vs) : Iw B Hs m H ws [] (Itl B.K a) where
  go := fun i m2 h2 H2 G _ _ hi => ⟨vs, vs[i]'(by rw [← r.length]; exact hi), .inl (.inl (G.keep _ _ hf q ha)), List.getElem?_eq_getElem _⟩
  stop := fun m2 h2 H2 G _ _ => ⟨vs, .inl (.inl (G.keep _ _ hf q ha)), by rw [r.length]; exact Nat.le_refl _⟩
  yld := fun i w m2 h2 H2 x H3 G S _ e y => by
    obtain ⟨e1, e2⟩ := y
    subst e1
    obtain ⟨v, e3, r3⟩ := (G.reps r).get e
    rw [e2 vs (.inl (.inl (G.keep _ _ hf q ha)))] at e3
    cases e3
    exact ⟨S, Go.refl, r3⟩
/-- a named list -/
theorem Iw.named {a : Addr} {n : Nat} (ha : m[n]? = some a) : Iw B Hs m H ws [(n, ws)] (Itl B.K a) := by
  have at_ : ∀ m2 h2 H2, GoF Hs m H m2 H2 → Sim B m2 h2 H2 → gdOk [(n, ws)] h2 → ∃ vs, SqL B.K H2 a vs ∧ reps B m2 H2 ws vs := fun m2 h2 H2 G S g => by
    obtain ⟨t, e, _⟩ := G.pre
    refine lst_at S (n := n) ?_ (g (n, ws) (List.mem_singleton.mpr rfl))
    rw [e, List.getElem?_append_left (List.getElem?_eq_some_iff.mp ha).1]
    exact ha
  refine ⟨fun i m2 h2 H2 G S g hi => ?_, fun m2 h2 H2 G S g => ?_, fun i w m2 h2 H2 x H3 G S g e y => ?_⟩
  · obtain ⟨vs, q, r⟩ := at_ _ _ _ G S g
    exact ⟨vs, vs[i]'(by rw [← r.length]; exact hi), q, List.getElem?_eq_getElem _⟩
  · obtain ⟨vs, q, r⟩ := at_ _ _ _ G S g
    exact ⟨vs, q, by rw [r.length]; exact Nat.le_refl _⟩
  · obtain ⟨vs, q, r⟩ := at_ _ _ _ G S g
    obtain ⟨e1, e2⟩ := y
    subst e1
    obtain ⟨v, e3, r3⟩ := r.get e
    rw [e2 vs q] at e3
    cases e3
    exact ⟨S, Go.refl, r3⟩
theorem Iw.str (z : Str) : Iw B Hs m H (z.cps.toList.map fun c => W.str ⟨#[c]⟩) [] (Its z) where
  go := fun i m2 h2 H2 _ _ _ hi => by
    show i < z.cps.size
    simpa using hi
  stop := fun m2 h2 H2 _ _ _ => by show z.cps.size ≤ _; simp
  yld := fun i w m2 h2 H2 x H3 _ S _ e y => by
    obtain ⟨e1, c, e2, e3⟩ := y
    subst e1 e3
    refine ⟨S, Go.refl, ?_⟩
    rw [List.getElem?_map, Array.getElem?_toList, e2] at e
    cases e
    exact .str _
end

/-- two walked at once -/
def zipW : List W → List W → List W
  | a :: as, b :: bs => .tup [a, b] :: zipW as bs
  | _, _ => []
theorem zipW_length : ∀ (a b : List W), (zipW a b).length = min a.length b.length
  | [], b => by simp [zipW]
  | a :: as, [] => by simp [zipW]
  | a :: as, b :: bs => by
    rw [zipW, List.length_cons, List.length_cons, List.length_cons, zipW_length as bs]
    omega
theorem zipW_get : ∀ {a b : List W} {i : Nat} {w : W}, (zipW a b)[i]? = some w → ∃ x y, a[i]? = some x ∧ b[i]? = some y ∧ w = .tup [x, y]
  | [], b, i, w, e => by simp [zipW] at e
  | a :: as, [], i, w, e => by simp [zipW] at e
  | a :: as, b :: bs, 0, w, e => by
    simp [zipW] at e
    exact ⟨a, b, rfl, rfl, e.symm⟩
  | a :: as, b :: bs, i + 1, w, e => by
    simp only [zipW, List.getElem?_cons_succ] at e
    obtain ⟨x, y, h1, h2, h3⟩ := zipW_get e
    exact ⟨x, y, by simpa using h1, by simpa using h2, h3⟩
section
variable {B : Base} {m m' : List Addr} {Hs H H' : Hp} {ws us : List W} {h : Store}
theorem pair_rep {B : Base} {m : List Addr} {h : Store} {H2 H3 : Hp} {T : Addr} {x y : V} {a b : W} (S : Sim B m h H2) (hT : H2 T = none) (e : H3 = upd H2 T (.tup [x, y])) (ra : rep B m H2 a x) (rb : rep B m H2 b y) : Sim B m h H3 ∧ Go m H2 m H3 ∧ rep B m H3 (.tup [a, b]) (.ref T) := by
  subst e
  have G : Go m H2 m (upd H2 T (.tup [x, y])) := Go.more hT
  refine ⟨S.more hT, G, ?_⟩
  unfold rep
  exact ⟨T, [x, y], rfl, .inl (.inl upd_same), .cons (G.rep ra) (.cons (G.rep rb) .nil)⟩
theorem Iw.zipT {a b : Addr} {vs zs : List V} (qa : SqT B.K H a vs) (qb : SqT B.K H b zs) (ra : reps B m H ws vs) (rb : reps B m H us zs) : Iw B Hs m H (zipW ws us) [] (RZ.ItzT B.K a b) where
  go := fun i m2 h2 H2 G _ _ hi => by
    rw [zipW_length] at hi
    exact ⟨vs, zs, vs[i]'(by rw [← ra.length]; omega), zs[i]'(by rw [← rb.length]; omega), SqT.stay qa G.tup, SqT.stay qb G.tup, List.getElem?_eq_getElem _, List.getElem?_eq_getElem _⟩
  stop := fun m2 h2 H2 G _ _ => ⟨vs, zs, SqT.stay qa G.tup, SqT.stay qb G.tup, by rw [zipW_length, ← ra.length, ← rb.length]; omega⟩
  yld := fun i w m2 h2 H2 x H3 G S _ e y => by
    obtain ⟨T, x1, y1, e1, hT, e2, f1, f2⟩ := y
    obtain ⟨p, q, g1, g2, g3⟩ := zipW_get e
    obtain ⟨v1, k1, r1⟩ := (G.reps ra).get g1
    obtain ⟨v2, k2, r2⟩ := (G.reps rb).get g2
    rw [f1 vs (SqT.stay qa G.tup)] at k1
    rw [f2 zs (SqT.stay qb G.tup)] at k2
    cases k1
    cases k2
    subst e1 g3
    exact pair_rep S hT e2 r1 r2
theorem named_at {a : Addr} {n : Nat} (ha : m[n]? = some a) {g : Gd} (hg : (n, ws) ∈ g) : ∀ m2 h2 H2, GoF Hs m H m2 H2 → Sim B m2 h2 H2 → gdOk g h2 → ∃ vs, SqL B.K H2 a vs ∧ reps B m2 H2 ws vs := fun m2 h2 H2 G S gd => by
  obtain ⟨t, e, _⟩ := G.pre
  refine lst_at S (n := n) ?_ (gd (n, ws) hg)
  rw [e, List.getElem?_append_left (List.getElem?_eq_some_iff.mp ha).1]
  exact ha
theorem Iw.zipL {a b : Addr} {n k : Nat} (ha : m[n]? = some a) (hb : m[k]? = some b) : Iw B Hs m H (zipW ws us) [(n, ws), (k, us)] (Itz B.K a b) := by
  have at1 := named_at (B := B) (Hs := Hs) (H := H) (ws := ws) ha (g := [(n, ws), (k, us)]) (by simp)
  have at2 := named_at (B := B) (Hs := Hs) (H := H) (ws := us) hb (g := [(n, ws), (k, us)]) (by simp)
  refine ⟨fun i m2 h2 H2 G S g hi => ?_, fun m2 h2 H2 G S g => ?_, fun i w m2 h2 H2 x H3 G S g e y => ?_⟩
  · obtain ⟨vs, q, ra⟩ := at1 _ _ _ G S g
    obtain ⟨zs, q2, rb⟩ := at2 _ _ _ G S g
    rw [zipW_length] at hi
    exact ⟨vs, zs, vs[i]'(by rw [← ra.length]; omega), zs[i]'(by rw [← rb.length]; omega), q, q2, List.getElem?_eq_getElem _, List.getElem?_eq_getElem _⟩
  · obtain ⟨vs, q, ra⟩ := at1 _ _ _ G S g
    obtain ⟨zs, q2, rb⟩ := at2 _ _ _ G S g
    exact ⟨vs, zs, q, q2, by rw [zipW_length, ← ra.length, ← rb.length]; omega⟩
  · obtain ⟨vs, qa, ra⟩ := at1 _ _ _ G S g
    obtain ⟨zs, qb, rb⟩ := at2 _ _ _ G S g
    obtain ⟨T, x1, y1, e1, hT, e2, f1, f2⟩ := y
    obtain ⟨p, q, g1, g2, g3⟩ := zipW_get e
    obtain ⟨v1, k1, r1⟩ := ra.get g1
    obtain ⟨v2, k2, r2⟩ := rb.get g2
    rw [f1 vs qa] at k1
    rw [f2 zs qb] at k2
    cases k1
    cases k2
    subst e1 g3
    exact pair_rep S hT e2 r1 r2
def enumW (k : Nat) : List W → List W
  | [] => []
  | w :: ws => .tup [.int (k : Nat), w] :: enumW (k + 1) ws
theorem enumW_length : ∀ (k : Nat) (a : List W), (enumW k a).length = a.length
  | k, [] => rfl
  | k, a :: as => by rw [enumW, List.length_cons, List.length_cons, enumW_length (k + 1) as]
theorem enumW_get : ∀ {k : Nat} {a : List W} {i : Nat} {w : W}, (enumW k a)[i]? = some w → ∃ x, a[i]? = some x ∧ w = .tup [.int ((k + i : Nat) : Int), x]
  | k, [], i, w, e => by simp [enumW] at e
  | k, a :: as, 0, w, e => by
    simp [enumW] at e
    exact ⟨a, rfl, e.symm⟩
  | k, a :: as, i + 1, w, e => by
    simp only [enumW, List.getElem?_cons_succ] at e
    obtain ⟨x, h1, h2⟩ := enumW_get e
    exact ⟨x, by simpa using h1, by rw [h2, show k + 1 + i = k + (i + 1) by omega]⟩
theorem Iw.enumL {a : Addr} {n : Nat} (ha : m[n]? = some a) : Iw B Hs m H (enumW 0 ws) [(n, ws)] (Ite B.K a) := by
  have at1 := named_at (B := B) (Hs := Hs) (H := H) (ws := ws) ha (g := [(n, ws)]) (by simp)
  refine ⟨fun i m2 h2 H2 G S g hi => ?_, fun m2 h2 H2 G S g => ?_, fun i w m2 h2 H2 x H3 G S g e y => ?_⟩
  · obtain ⟨vs, q, ra⟩ := at1 _ _ _ G S g
    rw [enumW_length] at hi
    exact ⟨vs, vs[i]'(by rw [← ra.length]; omega), q, List.getElem?_eq_getElem _⟩
  · obtain ⟨vs, q, ra⟩ := at1 _ _ _ G S g
    exact ⟨vs, q, by rw [enumW_length, ra.length]; exact Nat.le_refl _⟩
  · obtain ⟨vs, qa, ra⟩ := at1 _ _ _ G S g
    obtain ⟨T, x1, e1, hT, e2, f1⟩ := y
    obtain ⟨p, g1, g3⟩ := enumW_get e
    obtain ⟨v1, k1, r1⟩ := ra.get g1
    rw [f1 vs qa] at k1
    cases k1
    subst e1 g3
    rw [Nat.zero_add]
    exact pair_rep S hT e2 (by unfold rep; rfl) r1
end
def zipOf (h : Store) : List W → Option (List W × Gd)
  | [.tup ws, .tup us] => some (zipW ws us, [])
  | [.ref n, .ref k] => match lst? h n, lst? h k with
    | some ws, some us => some (zipW ws us, [(n, ws), (k, us)])
    | _, _ => none
  | _ => none
def enumOf (h : Store) : List W → Option (List W × Gd)
  | [.ref n] => (lst? h n).map fun ws => (enumW 0 ws, [(n, ws)])
  | _ => none

/-! ### fresh lists -/
def tDL (B : Base) (Wx : WX) (f : DenA) : TE := fun σ H Q => ∃ m h ρ, Sim B m h H ∧ slots B m H ρ σ ∧ PV B m H (f ρ h) (fun ws _ m' H' => ∀ a vs, H' a = some (.lst vs) → a ∉ m' → H a = none → reps B m' H' ws vs → Q (.ref a) H') (XS B Wx σ)
def DL (B : Base) (Wx : WX) (X : Cx) (e : Expr) (f : DenA) : Prop := PE X e (tDL B Wx f)
theorem fresh_of {m m' : List Addr} {H H' : Hp} {B : Base} {h' : Store} {a : Addr} (S' : Sim B m' h' H') (G : Go m H m' H') (e : H' a = none) : H a = none := by
  cases q : H a with
  | none => rfl
  | some o =>
    by_cases ha : a ∈ m
    · obtain ⟨t, e1, _⟩ := G.pre
      obtain ⟨u, e2, _⟩ := S'.there (a := a) (by rw [e1]; exact List.mem_append_left _ ha)
      rw [e] at e2
      cases e2
    · rw [G.keep a o q ha] at e
      cases e
theorem notin_of {m : List Addr} {H : Hp} {B : Base} {h : Store} {a : Addr} (S : Sim B m h H) (e : H a = none) : a ∉ m := fun ha => by
  obtain ⟨u, e2, _⟩ := S.there ha
  rw [e] at e2
  cases e2
/-- an unnamed list gets a name -/
theorem Sim.name {B : Base} {m : List Addr} {h : Store} {H : Hp} {a : Addr} {ws : List W} {vs : List V} (S : Sim B m h H) (ha : H a = some (.lst vs)) (hm : a ∉ m) (r : reps B m H ws vs) : Sim B (m ++ [a]) (h ++ [.lst ws]) H := by
  refine ⟨by rw [List.length_append, List.length_append, S.len]; rfl, List.nodup_append.mpr ⟨S.nd, List.pairwise_singleton _ _, fun x hx b hb e => by
    have z : b = a := by simpa using hb
    rw [z] at e
    exact hm (e ▸ hx)⟩, fun n x ob h1 h2 => ?_⟩
  by_cases hn : n < m.length
  · rw [List.getElem?_append_left hn] at h1
    rw [List.getElem?_append_left (by rw [← S.len]; exact hn)] at h2
    exact (S.ob n x ob h1 h2).stay rfl TupIn.refl ⟨[a], rfl⟩
  · rw [List.getElem?_append_right (by omega)] at h1
    rw [List.getElem?_append_right (by rw [← S.len]; omega)] at h2
    have z : n - m.length = 0 := by
      have := (List.getElem?_eq_some_iff.mp h1).1
      simpa using this
    rw [z] at h1
    rw [← S.len, z] at h2
    simp at h1 h2
    subst h1
    subst h2
    exact ⟨vs, ha, reps.stay TupIn.refl ⟨[a], rfl⟩ _ _ r⟩
theorem Go.name {m m' : List Addr} {H H' : Hp} {a : Addr} (G : Go m H m' H') (ha : H a = none) : Go m H (m' ++ [a]) H' := by
  obtain ⟨t, e, f⟩ := G.pre
  refine ⟨⟨t ++ [a], by rw [e, List.append_assoc], fun x hx => ?_⟩, G.keep, G.tup⟩
  rcases List.mem_append.mp hx with hx | hx
  · exact f x hx
  · have z : x = a := by simpa using hx
    rw [z]
    exact ha
def cFresh (f : DenA) : Den := fun ρ h => (f ρ h).bind fun ws h1 => .ok (.ref h1.length) (h1 ++ [.lst ws])
/-- a sequence: a tuple or a list -/
abbrev DenQ := Rho → Store → Out (Bool × List W)
def seqAt (B : Base) (t : Bool) (H : Hp) (a : Addr) (vs : List V) : Prop := if t = true then SqT B.K H a vs else SqL B.K H a vs
def tDQ (B : Base) (Wx : WX) (f : DenQ) : TE := fun σ H Q => ∃ m h ρ, Sim B m h H ∧ slots B m H ρ σ ∧ PV B m H (f ρ h) (fun q _ m' H' => ∀ a vs, seqAt B q.1 H' a vs → reps B m' H' q.2 vs → Q (.ref a) H') (XS B Wx σ)
def DQ (B : Base) (Wx : WX) (X : Cx) (e : Expr) (f : DenQ) : Prop := PE X e (tDQ B Wx f)
def cSeqF (f : DenA) : DenQ := fun ρ h => (f ρ h).bind fun ws h1 => .ok (false, ws) h1
def seqOf (h : Store) : W → Option (Bool × List W)
  | .tup ws => some (true, ws)
  | .ref n => (lst? h n).map fun ws => (false, ws)
  | _ => none
def cSeqV (f : Den) : DenQ := fun ρ h => (f ρ h).bind fun w h1 => match seqOf h1 w with
  | some q => .ok q h1
  | none => .bad
/-- walked values -/
def cItF (f : DenA) : DenI := fun ρ h => (f ρ h).bind fun ws h1 => .ok (ws, []) h1
def itOf (h : Store) : W → Option (List W × Gd)
  | .tup ws => some (ws, [])
  | .ref n => (lst? h n).map fun ws => (ws, [(n, ws)])
  | .str z => some (z.cps.toList.map fun c => W.str ⟨#[c]⟩, [])
  | _ => none
def cItV (f : Den) : DenI := fun ρ h => (f ρ h).bind fun w h1 => match itOf h1 w with
  | some q => .ok q h1
  | none => .bad
def rngOk (i : Int) : Bool := decide (-(2 ^ 62) ≤ i) && decide (i < 2 ^ 62)
def rngC (i j c : Int) : Option Nat := if c ≠ 0 ∧ c.natAbs < 1073741824 ∧ Builtin.Range.small i j c = true ∧ 0 ≤ Builtin.Range.rangeSize i j c then some (Builtin.Range.rangeSize i j c).toNat else none
def rng1 : List W → Option (List W)
  | [.int j] => if rngOk j = true then some ((List.range j.toNat).map fun k => W.int ((0 : Int) + (k : Nat))) else none
  | _ => none
def rng2 : List W → Option (List W)
  | [.int i, .int j] => if rngOk i = true ∧ rngOk j = true then some ((List.range (j - i).toNat).map fun k => W.int (i + (k : Nat))) else none
  | _ => none
def rng3 : List W → Option (List W)
  | [.int i, .int j, .int c] => (rngC i j c).map fun n => (List.range n).map fun k => W.int (i + (k : Nat) * c)
  | _ => none
def cItR (r : List W → Option (List W)) (f : DenA) : DenI := fun ρ h => (f ρ h).bind fun ws h1 => match r ws with
  | some q => .ok (q, []) h1
  | none => .bad
section
variable {B : Base} {Wx : WX} {X : Cx} {e tg : Expr} {es : List Expr} {f : Den} {fa : DenA} {pos : Pos}
theorem de_fresh (d : DL B Wx X e fa) : DE B Wx X e (cFresh fa) := by
  refine ⟨fun pins s σ H Q I ⟨m, h, ρ, S, sl, p⟩ => ?_⟩
  cases z : fa ρ h with
  | ok ws h1 =>
    have z2 : cFresh fa ρ h = .ok (.ref h1.length) (h1 ++ [.lst ws]) := by
      unfold cFresh
      rw [z]
      rfl
    rw [z2] at p
    refine PE.run d pins s σ H Q I ⟨m, h, ρ, S, sl, ?_⟩
    rw [z]
    refine fun m1 H1 S1 G1 a vs ha hm hn r => p (m1 ++ [a]) H1 (S1.name ha hm r) (G1.name hn) _ ?_
    unfold rep
    exact ⟨a, rfl, by rw [List.getElem?_append_right (by rw [S1.len]; exact Nat.le_refl _), S1.len, Nat.sub_self]; rfl⟩
  | exc x h1 =>
    have z2 : cFresh fa ρ h = .exc x h1 := by
      unfold cFresh
      rw [z]
      rfl
    rw [z2] at p
    exact PE.run d pins s σ H Q I ⟨m, h, ρ, S, sl, by rw [z]; exact p⟩
  | bad =>
    have z2 : cFresh fa ρ h = .bad := by
      unfold cFresh
      rw [z]
      rfl
    rw [z2] at p
    exact p.elim
theorem dq_fresh (d : DL B Wx X e fa) : DQ B Wx X e (cSeqF fa) := by
  refine ⟨fun pins s σ H Q I ⟨m, h, ρ, S, sl, p⟩ => ?_⟩
  refine PE.run d pins s σ H Q I ⟨m, h, ρ, S, sl, p.bind.imp fun ws h1 m1 H1 S1 G1 p1 a vs ha hm hn r => ?_⟩
  exact p1.here S1 a vs (.inl (.inl ha)) r
theorem dq_val (d : DE B Wx X e f) : DQ B Wx X e (cSeqV f) := by
  refine ⟨fun pins s σ H Q I ⟨m, h, ρ, S, sl, p⟩ => ?_⟩
  refine PE.run d pins s σ H Q I ⟨m, h, ρ, S, sl, p.bind.imp fun w h1 m1 H1 S1 G1 p1 v r => ?_⟩
  cases w with
  | tup ws =>
    obtain ⟨a, vs, rfl, qa, ra⟩ := r.tup_
    exact p1.here S1 a vs qa ra
  | ref n =>
    obtain ⟨a, rfl, ha⟩ := r.ref_
    cases z : lst? h1 n with
    | none =>
      simp only [seqOf, z, Option.map_none] at p1
      exact p1.elim
    | some ws =>
      simp only [seqOf, z, Option.map_some] at p1
      obtain ⟨vs, qa, ra⟩ := lst_at S1 ha z
      exact p1.here S1 a vs qa ra
  | _ => exact p1.elim
theorem di_fresh (hK : X.K = B.K) (d : DL B Wx X e fa) : DI B Wx X tg e (cItF fa) := by
  refine ⟨fun pins s σ H R I ⟨m, h, ρ, S, sl, p⟩ => ?_⟩
  refine (pi_list (tg := tg) d).run pins s σ H R I ⟨m, h, ρ, S, sl, p.bind.imp fun ws h1 m1 H1 S1 G1 p1 a vs ha hm hn r => ?_⟩
  rw [hK]
  exact ⟨a, rfl, ⟨vs, .inl (.inl ha)⟩, p1.here S1 _ (.fresh ha hn hm r)⟩
theorem di_val (hK : X.K = B.K) (d : DE B Wx X e f) : DI B Wx X tg e (cItV f) := by
  refine ⟨fun pins s σ H R I ⟨m, h, ρ, S, sl, p⟩ => ?_⟩
  unfold cItV at p
  cases z : f ρ h with
  | bad =>
    rw [z] at p
    exact p.elim
  | exc x h1 =>
    rw [z] at p
    exact (pi_list (tg := tg) d).run pins s σ H R I ⟨m, h, ρ, S, sl, by rw [z]; exact p⟩
  | ok w h1 =>
    rw [z] at p
    dsimp only [Out.bind] at p
    cases w with
    | tup ws =>
      refine (pi_tup (tg := tg) d).run pins s σ H R I ⟨m, h, ρ, S, sl, ?_⟩
      rw [z]
      refine fun m1 H1 S1 G1 v r => ?_
      obtain ⟨a, vs, rfl, qa, ra⟩ := r.tup_
      rw [hK]
      exact ⟨a, rfl, ⟨vs, qa⟩, p m1 H1 S1 G1 _ (.tup qa ra)⟩
    | ref n =>
      cases y : lst? h1 n with
      | none =>
        simp only [itOf, y, Option.map_none] at p
        exact p.elim
      | some ws =>
        simp only [itOf, y, Option.map_some] at p
        refine (pi_list (tg := tg) d).run pins s σ H R I ⟨m, h, ρ, S, sl, ?_⟩
        rw [z]
        refine fun m1 H1 S1 G1 v r => ?_
        obtain ⟨a, rfl, ha⟩ := r.ref_
        obtain ⟨vs, qa, ra⟩ := lst_at S1 ha y
        rw [hK]
        exact ⟨a, rfl, ⟨vs, qa⟩, p m1 H1 S1 G1 _ (.named ha)⟩
    | str x =>
      refine (pi_str (tg := tg) d).run pins s σ H R I ⟨m, h, ρ, S, sl, ?_⟩
      rw [z]
      exact fun m1 H1 S1 G1 v r => ⟨x, r.str_, p m1 H1 S1 G1 _ (.str x)⟩
    | _ => exact p.elim
theorem rngOk_ok {i : Int} (e : rngOk i = true) : -(2 ^ 62) ≤ i ∧ i < 2 ^ 62 := by
  obtain ⟨a, b⟩ := Bool.and_eq_true_iff.mp e
  exact ⟨of_decide_eq_true a, of_decide_eq_true b⟩
theorem starEach_plain1 {a : Expr} {env : Env} (h : isStar a = false) : starEach [a] env = [(false, eval a env)] := by
  rw [starEach_cons h]
  rfl
theorem any_plain {es : List Expr} {env : Env} (pos : Pos) (h : es.all (fun e => !isStar e) = true) : (backTo pos (starEach es env)).any (·.1) = false := by
  induction es with
  | nil => rfl
  | cons e r ih =>
    rw [List.all_cons] at h
    obtain ⟨h1, h2⟩ := Bool.and_eq_true_iff.mp h
    rw [starEach_cons (by simpa using h1)]
    have z := ih h2
    first
      | exact z
      | (unfold backTo at z ⊢; simpa using z)
theorem di_range1 (hg : Gl X "range") (hm : X.mg "range" = none) {p : Pos} {a : Expr} (ha : isStar a = false) (d : DA B Wx X [a] fa) : DI B Wx X tg (.Call (.Name "range" p) [a] [] pos) (cItR rng1 fa) := by
  refine ⟨fun pins s σ H R I ⟨m, h, ρ, S, sl, q⟩ => ?_⟩
  refine (pi_range1 (tg := tg) hg hm d (starEach_plain1 ha)).run pins s σ H R I ⟨m, h, ρ, S, sl, q.bind.imp fun ws h1 m1 H1 S1 G1 p1 vs r => ?_⟩
  cases e : rng1 ws with
  | none =>
    rw [e] at p1
    exact p1.elim
  | some q =>
    rw [e] at p1
    unfold rng1 at e
    split at e
    · rename_i j
      split at e
      · rename_i c
        cases e
        obtain ⟨c1, c2⟩ := rngOk_ok c
        unfold reps at r
        obtain ⟨v, t, rfl, r1, r2⟩ := r
        unfold reps at r2
        subst r2
        exact ⟨j, by rw [r1.int_], c1, c2, p1.here S1 _ (Iw.range 0 j.toNat)⟩
      · cases e
    · cases e
theorem di_range2 (hg : Gl X "range") (hm : X.mg "range" = none) {p : Pos} {a b : Expr} (ha : isStar a = false) (hb : isStar b = false) (d : DA B Wx X [a, b] fa) : DI B Wx X tg (.Call (.Name "range" p) [a, b] [] pos) (cItR rng2 fa) := by
  refine ⟨fun pins s σ H R I ⟨m, h, ρ, S, sl, q⟩ => ?_⟩
  refine (pi_range2 (tg := tg) hg hm d (by rw [starEach_cons ha, starEach_plain1 hb]) (starEach_plain1 hb)).run pins s σ H R I ⟨m, h, ρ, S, sl, q.bind.imp fun ws h1 m1 H1 S1 G1 p1 vs r => ?_⟩
  cases e : rng2 ws with
  | none =>
    rw [e] at p1
    exact p1.elim
  | some q =>
    rw [e] at p1
    unfold rng2 at e
    split at e
    · rename_i i j
      split at e
      · rename_i c
        cases e
        obtain ⟨c1, c2⟩ := rngOk_ok c.1
        obtain ⟨c3, c4⟩ := rngOk_ok c.2
        unfold reps at r
        obtain ⟨v, t, rfl, r1, r2⟩ := r
        unfold reps at r2
        obtain ⟨v2, t2, rfl, r3, r4⟩ := r2
        unfold reps at r4
        subst r4
        exact ⟨i, j, by rw [r1.int_, r3.int_], ⟨c1, c2, c3, c4⟩, p1.here S1 _ (Iw.range i (j - i).toNat)⟩
      · cases e
    · cases e
theorem di_range3 (hg : Gl X "range") (hm : X.mg "range" = none) {p : Pos} {a b c : Expr} (ha : isStar a = false) (hb : isStar b = false) (hc : isStar c = false) (d : DA B Wx X [a, b, c] fa) : DI B Wx X tg (.Call (.Name "range" p) [a, b, c] [] pos) (cItR rng3 fa) := by
  refine ⟨fun pins s σ H R I ⟨m, h, ρ, S, sl, q⟩ => ?_⟩
  refine (pi_range3 (tg := tg) hg hm d (starEach_cons ha) (by rw [starEach_cons hb, starEach_plain1 hc]; rfl)).run pins s σ H R I ⟨m, h, ρ, S, sl, q.bind.imp fun ws h1 m1 H1 S1 G1 p1 vs r => ?_⟩
  cases e : rng3 ws with
  | none =>
    rw [e] at p1
    exact p1.elim
  | some q =>
    rw [e] at p1
    unfold rng3 at e
    split at e
    · rename_i i j k
      cases z : rngC i j k with
      | none => rw [z] at e; cases e
      | some n =>
        rw [z] at e
        cases e
        unfold rngC at z
        split at z
        · rename_i c
          obtain ⟨c1, c2, c3, c4⟩ := c
          cases z
          unfold reps at r
          obtain ⟨v, t, rfl, r1, r2⟩ := r
          unfold reps at r2
          obtain ⟨v2, t2, rfl, r3, r4⟩ := r2
          unfold reps at r4
          obtain ⟨v3, t3, rfl, r5, r6⟩ := r4
          unfold reps at r6
          subst r6
          exact ⟨i, j, k, _, by rw [r1.int_, r3.int_, r5.int_], ⟨c1, c2, c3, by omega⟩, p1.here S1 _ (Iw.rangeC i k _)⟩
        · cases z
    · cases e
/-- zip, enumerate -/
def cItS (r : Store → List W → Option (List W × Gd)) (f : DenA) : DenI := fun ρ h => (f ρ h).bind fun ws h1 => match r h1 ws with
  | some q => .ok q h1
  | none => .bad
theorem di_zip (hK : X.K = B.K) (hg : Gl X "zip") (hm : X.mg "zip" = none) {p tpos : Pos} {elts : List Expr} {kk : Nat} {a b : Expr} (ha : isStar a = false) (hb : isStar b = false) (d : DA B Wx X [a, b] fa) : DI B Wx X (.Tuple elts kk tpos) (.Call (.Name "zip" p) [a, b] [] pos) (cItS zipOf fa) := by
  refine ⟨fun pins s σ H R I ⟨m, h, ρ, S, sl, q⟩ => ?_⟩
  refine (RZ.pi_zipA (elts := elts) (kk := kk) (tpos := tpos) hg hm d (starEach_cons ha) (any_plain pos (by simp [hb]))).run pins s σ H R I ⟨m, h, ρ, S, sl, q.bind.imp fun ws h1 m1 H1 S1 G1 p1 vs r => ?_⟩
  cases e : zipOf h1 ws with
  | none => rw [e] at p1; exact p1.elim
  | some q =>
    rw [e] at p1
    unfold zipOf at e
    split at e
    · rename_i w1 w2
      cases e
      unfold reps at r
      obtain ⟨v, t, rfl, r1, r⟩ := r
      unfold reps at r
      obtain ⟨v2, t, rfl, r2, r⟩ := r
      unfold reps at r
      subst r
      obtain ⟨x, xs, rfl, qx, rx⟩ := r1.tup_
      obtain ⟨y, ys, rfl, qy, ry⟩ := r2.tup_
      rw [hK]
      exact ⟨x, y, xs, ys, rfl, .inr ⟨qx, qy, p1.here S1 _ (Iw.zipT qx qy rx ry)⟩⟩
    · rename_i n k
      split at e
      · rename_i w1 w2 z1 z2
        cases e
        unfold reps at r
        obtain ⟨v, t, rfl, r1, r⟩ := r
        unfold reps at r
        obtain ⟨v2, t, rfl, r2, r⟩ := r
        unfold reps at r
        subst r
        obtain ⟨x, rfl, hx⟩ := r1.ref_
        obtain ⟨y, rfl, hy⟩ := r2.ref_
        obtain ⟨xs, qx, rx⟩ := lst_at S1 hx z1
        obtain ⟨ys, qy, ry⟩ := lst_at S1 hy z2
        rw [hK]
        exact ⟨x, y, xs, ys, rfl, .inl ⟨qx, qy, p1.here S1 _ (Iw.zipL hx hy)⟩⟩
      · cases e
    · cases e
theorem di_enum (hK : X.K = B.K) (hg : Gl X "enumerate") (hm : X.mg "enumerate" = none) {p tpos : Pos} {elts : List Expr} {kk : Nat} {a : Expr} (ha : isStar a = false) (d : DA B Wx X [a] fa) : DI B Wx X (.Tuple elts kk tpos) (.Call (.Name "enumerate" p) [a] [] pos) (cItS enumOf fa) := by
  refine ⟨fun pins s σ H R I ⟨m, h, ρ, S, sl, q⟩ => ?_⟩
  refine (pi_enum (elts := elts) (kk := kk) (tpos := tpos) hg hm d (starEach_plain1 ha)).run pins s σ H R I ⟨m, h, ρ, S, sl, q.bind.imp fun ws h1 m1 H1 S1 G1 p1 vs r => ?_⟩
  cases e : enumOf h1 ws with
  | none => rw [e] at p1; exact p1.elim
  | some q =>
    rw [e] at p1
    unfold enumOf at e
    split at e
    · rename_i n
      cases z : lst? h1 n with
      | none => rw [z] at e; cases e
      | some us =>
        rw [z] at e
        cases e
        unfold reps at r
        obtain ⟨v, t, rfl, r1, r⟩ := r
        unfold reps at r
        subst r
        obtain ⟨x, rfl, hx⟩ := r1.ref_
        obtain ⟨xs, qx, rx⟩ := lst_at S1 hx z
        rw [hK]
        exact ⟨x, xs, rfl, qx, p1.here S1 _ (Iw.enumL hx)⟩
    · cases e
theorem dl_list (da : DA B Wx X es fa) : DL B Wx X (.List es pos) (fun ρ h => (fa ρ h).bind fun ws h1 => if ws.length ≤ 16777216 then .ok ws h1 else .bad) := by
  refine ⟨fun pins s σ H Q I ⟨m, h, ρ, S, sl, p⟩ => ?_⟩
  refine (pe_lst (pos := pos) da).run pins s σ H Q I ⟨m, h, ρ, S, sl, p.bind.imp fun ws h1 m1 H1 S1 G1 p1 xs r1 => ?_⟩
  by_cases c : ws.length ≤ 16777216
  · rw [if_pos c] at p1
    refine ⟨by rw [sizeLine_eq, ← r1.length]; exact c, fun a ha => ?_⟩
    have hn : H a = none := fresh_of S1 G1 ha
    exact p1 m1 _ (S1.more ha) (Go.more ha) a xs upd_same (notin_of S1 ha) hn ((Go.more (m := m1) ha).reps r1)
  · rw [if_neg c] at p1
    exact p1.elim
end
end Wv
end
section
set_option Elab.async false
set_option linter.all false
set_option maxRecDepth 100000
set_option maxHeartbeats 4000000
/-! Core G of ours: list comprehensions. -/
namespace Wv
open PySem PySem.Spec L2
open PyProof.Rows hiding St

abbrev WF0 : WX := fun _ _ _ _ => False
def wipeR (ρ : Rho) : List Nat → Rho
  | [] => ρ
  | v :: vs => (wipeR ρ vs).set v none
theorem slots.wipe {B : Base} {m : List Addr} {H : Hp} {ρ : Rho} {σ : St} (s : slots B m H ρ σ) : ∀ vs : List Nat, slots B m H (wipeR ρ vs) (L2.wipe σ vs)
  | [] => s
  | v :: vs => (slots.wipe s vs).clear v
theorem wipe_in {σ : St} {i : Nat} : ∀ {vs : List Nat}, i ∈ vs → (L2.wipe σ vs)[i]? = if i < σ.length then some none else none
  | v :: vs, h => by
    show ((L2.wipe σ vs).set v none)[i]? = _
    by_cases hv : v = i
    · subst hv
      rw [List.getElem?_set]
      simp [wipe_length]
    · rw [List.getElem?_set_ne hv]
      exact wipe_in ((List.mem_cons.mp h).resolve_left fun z => hv z.symm)
theorem wipe_eq {a b : St} {vs : List Nat} (hl : a.length = b.length) (h : ∀ i, i ∉ vs → a[i]? = b[i]?) : L2.wipe a vs = L2.wipe b vs := by
  apply List.ext_getElem?
  intro i
  by_cases hi : i ∈ vs
  · rw [wipe_in hi, wipe_in hi, hl]
  · rw [wipe_out hi, wipe_out hi, h i hi]
theorem wipe_wipe {σ : St} {vs : List Nat} : L2.wipe (L2.wipe σ vs) vs = L2.wipe σ vs := wipe_eq (wipe_length _ _) fun _ hi => wipe_out hi
theorem Go.upd_un {m m' : List Addr} {H H' : Hp} {D : Addr} {o : HO} (G : Go m H m' H') (hD : H D = none) : Go m H m' (upd H' D o) := by
  refine ⟨G.pre, fun a u e hm => ?_, ⟨fun a xs e => ?_, fun a ob u e => ?_⟩⟩
  · rw [upd_ne (ne_of_none e hD)]
    exact G.keep a u e hm
  · have ne : a ≠ D := by
      rintro rfl
      rcases e with e | ⟨u, e⟩ <;> rw [hD] at e <;> cases e
    rcases G.tup.t a xs e with q | ⟨u, q⟩
    · exact .inl (by rw [upd_ne ne]; exact q)
    · exact .inr ⟨u, by rw [upd_ne ne]; exact q⟩
  · rw [upd_ne (ne_of_none e hD)]
    exact G.tup.f a ob u e
theorem lst_not (vs : List V) : (∀ xs : List V, HO.lst vs ≠ .tup xs) ∧ ∀ ob u, HO.lst vs ≠ .frz ob u := And.intro (fun _ z => by cases z) (fun _ _ z => by cases z)
/-- an unnamed tracked object stays unnamed -/
theorem Go.un {m m' : List Addr} {H H' : Hp} {D : Addr} {o : HO} (G : Go m H m' H') (e : H D = some o) (hm : D ∉ m) : D ∉ m' := by
  obtain ⟨t, e1, f⟩ := G.pre
  rw [e1, List.mem_append, not_or]
  refine ⟨hm, fun z => ?_⟩
  rw [f D z] at e
  cases e

mutual
theorem Tgt.bind_len : ∀ {t : Tgt} {w : W} {ρ ρ' : Rho}, t.bind w ρ = some ρ' → ρ'.length = ρ.length
  | .nm i, w, ρ, ρ', e => by
    unfold Tgt.bind at e
    cases e
    exact List.length_set
  | .tp ts, w, ρ, ρ', e => by
    cases w with
    | tup ws =>
      unfold Tgt.bind at e
      exact Tgt.bindAll_len e
    | _ => unfold Tgt.bind at e; cases e
theorem Tgt.bindAll_len : ∀ {ts : List Tgt} {ws : List W} {ρ ρ' : Rho}, Tgt.bindAll ts ws ρ = some ρ' → ρ'.length = ρ.length
  | [], [], ρ, ρ', e => by
    unfold Tgt.bindAll at e
    cases e
    rfl
  | t :: ts, w :: ws, ρ, ρ', e => by
    unfold Tgt.bindAll at e
    cases q : t.bind w ρ with
    | none => rw [q] at e; cases e
    | some r =>
      rw [q] at e
      exact (Tgt.bindAll_len (ρ := r) e).trans (Tgt.bind_len q)
  | [], _ :: _, _, _, e => by unfold Tgt.bindAll at e; cases e
  | _ :: _, [], _, _, e => by unfold Tgt.bindAll at e; cases e
end
theorem GoF.then {Hs : Hp} {m m1 m2 : List Addr} {H H1 H2 : Hp} (nd : m2.Nodup) (F : GoF Hs m H m1 H1) (G : Go m1 H1 m2 H2) : GoF Hs m H m2 H2 := by
  obtain ⟨t, e, f⟩ := F.pre
  obtain ⟨t2, e2, f2⟩ := G.pre
  have out : ∀ a o, Hs a = none → H a = some o → a ∉ m → a ∉ m1 := fun a o h1 h2 h3 hm => by
    rw [e] at hm
    rcases List.mem_append.mp hm with hm | hm
    · exact h3 hm
    · rw [f a hm h1] at h2
      cases h2
  refine ⟨⟨t ++ t2, by rw [e2, e, List.append_assoc], fun a ha hs => ?_⟩, fun a o h1 h2 h3 => G.keep a o (F.keep a o h1 h2 h3) (out a o h1 h2 h3), F.tup.trans G.tup⟩
  rcases List.mem_append.mp ha with ha | ha
  · exact f a ha hs
  · cases q : H a with
    | none => rfl
    | some o =>
      by_cases hm : a ∈ m
      · rw [e2, e] at nd
        exact absurd rfl ((List.nodup_append.mp nd).2.2 a (List.mem_append_left _ hm) a ha)
      · have z := F.keep a o hs q hm
        rw [f2 a ha] at z
        cases z
theorem GoF.upd_un {Hs : Hp} {m m' : List Addr} {H H' : Hp} {D : Addr} {u o : HO} (F : GoF Hs m H m' H') (hD : Hs D = some u) (t : TupIn H' (upd H' D o)) : GoF Hs m H m' (upd H' D o) := by
  refine ⟨F.pre, fun a x h1 h2 h3 => ?_, F.tup.trans t⟩
  rw [upd_ne (fun z => by rw [z, hD] at h1; cases h1)]
  exact F.keep a x h1 h2 h3
open Classical in
/-- the loop of a comprehension -/
noncomputable def compL (g : Gd) (T : Tgt) (tt : DenT) (te : Den) (ρ0 : Rho) : List W → List W → Store → Out (List W)
  | [], acc, h => if gdOk g h then .ok acc h else .bad
  | w :: ws, acc, h => if gdOk g h then (match T.bind w ρ0 with
    | none => .bad
    | some ρ1 => match tt ρ1 h with
      | .ok true h1 => (match te ρ1 h1 with
        | .ok v h2 => if acc.length < 16777216 then compL g T tt te ρ0 ws (acc ++ [v]) h2 else .bad
        | _ => .bad)
      | .ok false h1 => compL g T tt te ρ0 ws acc h1
      | _ => .bad) else .bad
noncomputable def cComp (fi : DenI) (vs : List Nat) (T : Tgt) (tt : DenT) (te : Den) : DenA := fun ρ h => (fi ρ h).bind fun q h1 => compL q.2 T tt te (wipeR ρ vs) q.1 [] h1

section
variable {B : Base} {Wx : WX} {X : Cx}
/-- tests of a comprehension -/
def DTs (B : Base) (Wx : WX) (X : Cx) (ifs : List Expr) (t : DenT) : Prop := PTs X ifs (tDT B Wx t)
theorem dts_nil : DTs B Wx X [] (fun _ h => .ok true h) := ⟨fun pins s σ H Q I ⟨m, h, ρ, S, sl, p⟩ => pts_nil.run pins s σ H Q I (p.here S)⟩
theorem dts_one {c : Expr} {t : DenT} (d : DT B Wx X c t) : DTs B Wx X [c] t := pts_one d
theorem lc_read {fi : DenI} {T : Tgt} {tt : DenT} {te : Den} {vs : List Nat} (hT : ∀ i ∈ T.slots, i ∈ vs) {σ : St} {H : Hp} {Q : VK} (hh : tDL B Wx (cComp fi vs T tt te) σ H Q) : tLc (tDI B Wx fi) (tDG B T) (tDT B WF0 tt) (tD B WF0 te) vs σ H Q := by
  obtain ⟨m, h, ρ, S, sl, p⟩ := hh
  refine ⟨m, h, ρ, S, sl, p.bind.imp fun q h1 m1 H1 S1 G1 p1 J w D hD => ?_⟩
  have hDm : D ∉ m1 := notin_of S1 hD
  have hDH : H D = none := fresh_of S1 G1 hD
  have sl1 := (sl.go G1).wipe vs
  refine ⟨fun i k Hc => ∃ (m2 : List Addr) (h2 : Store) (accW : List W) (accV : List V), Sim B m2 h2 Hc ∧ Go m1 H1 m2 Hc ∧ Hc D = some (.lst accV) ∧ D ∉ m2 ∧ reps B m2 Hc accW accV ∧ i + k = q.1.length ∧
    PV B m1 H1 (compL q.2 T tt te (wipeR ρ vs) (q.1.drop i) accW h2) (fun ws _ m' H' => ∀ a vs, H' a = some (.lst vs) → a ∉ m' → H a = none → reps B m' H' ws vs → Q (.ref a) H') (XS B Wx σ),
    ⟨q.1.length, m1, h1, [], [], S1.more hD, Go.more hD, upd_same, hDm, .nil, by omega, p1⟩, fun i k Hc hW => ?_⟩
  obtain ⟨m2, h2, accW, accV, S2, G2, eD, hm2, ra, hik, pv⟩ := hW
  by_cases hlt : i < q.1.length
  · -- a turn
    rw [List.drop_eq_getElem_cons hlt] at pv
    unfold compL at pv
    by_cases hgd : gdOk q.2 h2
    · rw [if_pos hgd] at pv
      refine .inr ⟨w.go i m2 h2 Hc G2.toF S2 hgd hlt, fun H' => ∃ (m2 : List Addr) (h2 : Store) (accW : List W) (accV : List V), Sim B m2 h2 H' ∧ Go m1 H1 m2 H' ∧ H' D = some (.lst accV) ∧ D ∉ m2 ∧ reps B m2 H' accW accV ∧
        PV B m1 H1 (compL q.2 T tt te (wipeR ρ vs) (q.1.drop (i + 1)) accW h2) (fun ws _ m' H' => ∀ a vs, H' a = some (.lst vs) → a ∉ m' → H a = none → reps B m' H' ws vs → Q (.ref a) H') (XS B Wx σ),
        fun H' ⟨m3, h3, aw, av, x1, x2, x3, x4, x5, x6⟩ => ⟨k - 1, by omega, m3, h3, aw, av, x1, x2, x3, x4, x5, by omega, x6⟩, fun x H3 hy => ?_⟩
      obtain ⟨S3, G3, r3⟩ := w.yld i _ m2 h2 Hc x H3 G2.toF S2 hgd (List.getElem?_eq_getElem hlt) hy
      have sl3 := ((sl1.go G2).go G3)
      cases eb : T.bind q.1[i] (wipeR ρ vs) with
      | none =>
        rw [eb] at pv
        exact pv.elim
      | some ρ1 =>
        rw [eb] at pv
        dsimp only at pv
        refine ⟨m2, h2, _, _, ρ1, S3, sl3, r3, eb, fun σ2 sl4 f2 => ⟨?_, ?_⟩⟩
        · rw [← wipe_wipe (σ := σ)]
          refine wipe_eq ?_ fun j hj => f2 j fun z => hj (hT j z)
          have z1 := sl4.1
          have z2 := sl3.1
          rw [z2]
          rw [z1, Tgt.bind_len eb]
        · have G13 : Go m1 H1 m2 H3 := G2.trans S3.nd G3
          have eD3 : H3 D = some (.lst accV) := G3.keep _ _ eD hm2
          refine ⟨m2, h2, ρ1, S3, sl4, ?_⟩
          cases et : tt ρ1 h2 with
          | bad =>
            rw [et] at pv
            exact pv.elim
          | exc x h4 =>
            rw [et] at pv
            exact pv.elim
          | ok b h4 =>
            rw [et] at pv
            refine fun m4 H4 S4 G4 => ?_
            have eD4 : H4 D = some (.lst accV) := G4.keep _ _ eD3 hm2
            have hm4 : D ∉ m4 := G4.un eD3 hm2
            cases b with
            | false =>
              refine iteF ?_
              exact ⟨m4, h4, accW, accV, S4, G13.trans S4.nd G4, eD4, hm4, G4.reps (G3.reps ra), pv⟩
            | true =>
              refine iteT ⟨m4, h4, ρ1, S4, sl4.go G4, ?_⟩
              dsimp only at pv
              cases ee : te ρ1 h4 with
              | bad =>
                rw [ee] at pv
                exact pv.elim
              | exc x h5 =>
                rw [ee] at pv
                exact pv.elim
              | ok v h5 =>
                rw [ee] at pv
                dsimp only at pv
                refine fun m5 H5 S5 G5 y ry => ?_
                have eD5 : H5 D = some (.lst accV) := G5.keep _ _ eD4 hm4
                have hm5 : D ∉ m5 := G5.un eD4 hm4
                have r5 := G5.reps (G4.reps (G3.reps ra))
                by_cases hz : accW.length < 16777216
                · rw [if_pos hz] at pv
                  have G15 : Go m1 H1 m5 (upd H5 D (.lst (accV ++ [y]))) := ((G13.trans S4.nd G4).trans S5.nd G5).upd_un hD
                  have tu : TupIn H5 (upd H5 D (.lst (accV ++ [y]))) := TupIn.upd_at eD5 (lst_not _)
                  have st : ∀ (w : W) (u : V), rep B m5 H5 w u → rep B m5 (upd H5 D (.lst (accV ++ [y]))) w u := fun w u z => rep.stay tu ⟨[], (List.append_nil m5).symm⟩ w u z
                  have st2 : ∀ (w : List W) (u : List V), reps B m5 H5 w u → reps B m5 (upd H5 D (.lst (accV ++ [y]))) w u := fun w u z => reps.stay tu ⟨[], (List.append_nil m5).symm⟩ w u z
                  exact ⟨accV, eD5, by rw [sizeLine_eq, ← r5.length]; exact hz, m5, h5, accW ++ [v], accV ++ [y], S5.other eD5 (lst_not _) hm5, G15, upd_same, hm5, (st2 _ _ r5).append (.cons (st _ _ ry) .nil), pv⟩
                · rw [if_neg hz] at pv
                  exact pv.elim
    · rw [if_neg hgd] at pv
      exact pv.elim
  · -- the end
    have e0 : q.1.drop i = [] := List.drop_eq_nil_of_le (by omega)
    rw [e0] at pv
    unfold compL at pv
    by_cases hgd : gdOk q.2 h2
    · rw [if_pos hgd] at pv
      have z := w.stop m2 h2 Hc G2.toF S2 hgd
      have ei : i = q.1.length := by omega
      rw [ei]
      exact .inl ⟨z, pv m2 Hc S2 G2 D accV eD hm2 hDH ra⟩
    · rw [if_neg hgd] at pv
      exact pv.elim
theorem dl_comp {elt tg iter : Expr} {ifs : List Expr} {scope : Scope} {own : List (Str × Nat)} {pos : Pos} {fi : DenI} {T : Tgt} {tt : DenT} {te : Den} (hc : X.calm = true) (hN : X.N.Nodup) (hi : DI B Wx X tg iter fi) (ok : BlkOk X.N X.env.scope scope own)
    (hT : ∀ i ∈ T.slots, i ∈ own.map (·.2))
    (hg : ∀ (s : Shared) (H : Hp) (C : Addr) (cl : List (Str × Addr)) (fp : List Addr), DG B (X.blk s H scope (compEnvC scope cl C X.env) fp) tg T)
    (ht : ∀ (s : Shared) (H : Hp) (C : Addr) (cl : List (Str × Addr)) (fp : List Addr), DTs B WF0 (X.blk s H scope (compEnvC scope cl C X.env) fp) ifs tt)
    (he : ∀ (s : Shared) (H : Hp) (C : Addr) (cl : List (Str × Addr)) (fp : List Addr), DE B WF0 (X.blk s H scope (compEnvC scope cl C X.env) fp) elt te)
    (hs : ∀ x, foldedSetIterable iter X.env x = pure x) : DL B Wx X (.ListComp elt [⟨tg, iter, ifs, 0⟩] scope pos) (cComp fi (own.map (·.2)) T tt te) :=
  ⟨fun pins s σ H Q I hh => (pe_lc hc hN hi ok hg ht he hs).run pins s σ H Q I (lc_read hT hh)⟩
end
open Classical in
/-- two fors -/
noncomputable def comp2L (g : Gd) (T : Tgt) (tt : DenT) (fi1 : DenI) (vs1 : List Nat) (T1 : Tgt) (tt1 : DenT) (te : Den) (ρ0 : Rho) : List W → List W → Store → Out (List W)
  | [], acc, h => if gdOk g h then .ok acc h else .bad
  | w :: ws, acc, h => if gdOk g h then (match T.bind w ρ0 with
    | none => .bad
    | some ρ1 => match tt ρ1 h with
      | .ok true h1 => (match fi1 ρ1 h1 with
        | .ok q h2 => (match compL q.2 T1 tt1 te (wipeR ρ1 vs1) q.1 acc h2 with
          | .ok acc' h3 => comp2L g T tt fi1 vs1 T1 tt1 te ρ0 ws acc' h3
          | _ => .bad)
        | _ => .bad)
      | .ok false h1 => comp2L g T tt fi1 vs1 T1 tt1 te ρ0 ws acc h1
      | _ => .bad) else .bad
noncomputable def cComp2 (fi : DenI) (vs : List Nat) (T : Tgt) (tt : DenT) (fi1 : DenI) (vs1 : List Nat) (T1 : Tgt) (tt1 : DenT) (te : Den) : DenA := fun ρ h => (fi ρ h).bind fun q h1 => comp2L q.2 T tt fi1 vs1 T1 tt1 te (wipeR ρ vs) q.1 [] h1
section
variable {B : Base} {Wx : WX} {X : Cx}
theorem lc2_read {fi fi1 : DenI} {T T1 : Tgt} {tt tt1 : DenT} {te : Den} {vs vs1 : List Nat} (hT : ∀ i ∈ T.slots, i ∈ vs) (hT1 : ∀ i ∈ T1.slots, i ∈ vs1) {σ : St} {H : Hp} {Q : VK} (hh : tDL B Wx (cComp2 fi vs T tt fi1 vs1 T1 tt1 te) σ H Q) :
    tLc2 (tDI B Wx fi) (tDG B T) (tDT B WF0 tt) (tDI B WF0 fi1) (tDG B T1) (tDT B WF0 tt1) (tD B WF0 te) vs vs1 σ H Q := by
  obtain ⟨m, h, ρ, S, sl, p⟩ := hh
  refine ⟨m, h, ρ, S, sl, p.bind.imp fun q h1 m1 H1 S1 G1 p1 J w D hD => ?_⟩
  have hDm : D ∉ m1 := notin_of S1 hD
  have hDH : H D = none := fresh_of S1 G1 hD
  have sl1 := (sl.go G1).wipe vs
  refine ⟨fun i k Hc => ∃ (m2 : List Addr) (h2 : Store) (accW : List W) (accV : List V), Sim B m2 h2 Hc ∧ Go m1 H1 m2 Hc ∧ Hc D = some (.lst accV) ∧ D ∉ m2 ∧ reps B m2 Hc accW accV ∧ i + k = q.1.length ∧
    PV B m1 H1 (comp2L q.2 T tt fi1 vs1 T1 tt1 te (wipeR ρ vs) (q.1.drop i) accW h2) (fun ws _ m' H' => ∀ a vs, H' a = some (.lst vs) → a ∉ m' → H a = none → reps B m' H' ws vs → Q (.ref a) H') (XS B Wx σ),
    ⟨q.1.length, m1, h1, [], [], S1.more hD, Go.more hD, upd_same, hDm, .nil, by omega, p1⟩, fun i k Hc hW => ?_⟩
  obtain ⟨m2, h2, accW, accV, S2, G2, eD, hm2, ra, hik, pv⟩ := hW
  by_cases hlt : i < q.1.length
  · rw [List.drop_eq_getElem_cons hlt] at pv
    unfold comp2L at pv
    by_cases hgd : gdOk q.2 h2
    · rw [if_pos hgd] at pv
      refine .inr ⟨w.go i m2 h2 Hc G2.toF S2 hgd hlt, fun H' => ∃ (m2 : List Addr) (h2 : Store) (accW : List W) (accV : List V), Sim B m2 h2 H' ∧ Go m1 H1 m2 H' ∧ H' D = some (.lst accV) ∧ D ∉ m2 ∧ reps B m2 H' accW accV ∧
        PV B m1 H1 (comp2L q.2 T tt fi1 vs1 T1 tt1 te (wipeR ρ vs) (q.1.drop (i + 1)) accW h2) (fun ws _ m' H' => ∀ a vs, H' a = some (.lst vs) → a ∉ m' → H a = none → reps B m' H' ws vs → Q (.ref a) H') (XS B Wx σ),
        fun H' ⟨m3, h3, aw, av, x1, x2, x3, x4, x5, x6⟩ => ⟨k - 1, by omega, m3, h3, aw, av, x1, x2, x3, x4, x5, by omega, x6⟩, fun x H3 hy => ?_⟩
      obtain ⟨S3, G3, r3⟩ := w.yld i _ m2 h2 Hc x H3 G2.toF S2 hgd (List.getElem?_eq_getElem hlt) hy
      have sl3 := ((sl1.go G2).go G3)
      cases eb : T.bind q.1[i] (wipeR ρ vs) with
      | none =>
        rw [eb] at pv
        exact pv.elim
      | some ρ1 =>
        rw [eb] at pv
        dsimp only at pv
        refine ⟨m2, h2, _, _, ρ1, S3, sl3, r3, eb, fun σ2 sl4 f2 => ⟨?_, ?_⟩⟩
        · rw [← wipe_wipe (σ := σ)]
          refine wipe_eq ?_ fun j hj => f2 j fun z => hj (hT j z)
          have z1 := sl4.1
          have z2 := sl3.1
          rw [z2]
          rw [z1, Tgt.bind_len eb]
        · have G13 : Go m1 H1 m2 H3 := G2.trans S3.nd G3
          have eD3 : H3 D = some (.lst accV) := G3.keep _ _ eD hm2
          refine ⟨m2, h2, ρ1, S3, sl4, ?_⟩
          cases et : tt ρ1 h2 with
          | bad =>
            rw [et] at pv
            exact pv.elim
          | exc x h4 =>
            rw [et] at pv
            exact pv.elim
          | ok b h4 =>
            rw [et] at pv
            refine fun m4 H4 S4 G4 => ?_
            have eD4 : H4 D = some (.lst accV) := G4.keep _ _ eD3 hm2
            have hm4 : D ∉ m4 := G4.un eD3 hm2
            cases b with
            | false =>
              refine iteF ?_
              exact ⟨m4, h4, accW, accV, S4, G13.trans S4.nd G4, eD4, hm4, G4.reps (G3.reps ra), pv⟩
            | true =>
              refine iteT ⟨m4, h4, ρ1, S4, sl4.go G4, ?_⟩
              dsimp only at pv
              cases ef : fi1 ρ1 h4 with
              | bad =>
                rw [ef] at pv
                exact pv.elim
              | exc x h5 =>
                rw [ef] at pv
                exact pv.elim
              | ok q1 h5 =>
                rw [ef] at pv
                dsimp only at pv
                refine fun m5 H5 S5 G5 J1 w1 => ?_
                have eD5 : H5 D = some (.lst accV) := G5.keep _ _ eD4 hm4
                have hm5 : D ∉ m5 := G5.un eD4 hm4
                have r5 := G5.reps (G4.reps (G3.reps ra))
                have sl5 := ((sl4.go G4).go G5).wipe vs1
                have G15 : Go m1 H1 m5 H5 := (G13.trans S4.nd G4).trans S5.nd G5
                cases ec : compL q1.2 T1 tt1 te (wipeR ρ1 vs1) q1.1 accW h5 with
                | bad =>
                  rw [ec] at pv
                  exact pv.elim
                | exc x h6 =>
                  rw [ec] at pv
                  exact pv.elim
                | ok accE hE =>
                  rw [ec] at pv
                  dsimp only at pv
                  -- the inner loop, by its known outcome
                  refine ⟨fun j k Hc => ∃ (m6 : List Addr) (h6 : Store) (aW : List W) (aV : List V), Sim B m6 h6 Hc ∧ Go m1 H1 m6 Hc ∧ GoF H4 m5 H5 m6 Hc ∧ Hc D = some (.lst aV) ∧ D ∉ m6 ∧ reps B m6 Hc aW aV ∧ j + k = q1.1.length ∧
                    compL q1.2 T1 tt1 te (wipeR ρ1 vs1) (q1.1.drop j) aW h6 = .ok accE hE,
                    ⟨q1.1.length, m5, h5, accW, accV, S5, G15, Go.refl.toF, eD5, hm5, r5, by omega, ec⟩, fun j k Hc hW => ?_⟩
                  obtain ⟨m6, h6, aW, aV, S6, G16, F6, eD6, hm6, r6, hjk, ec6⟩ := hW
                  have sl6 : slots B m6 Hc (wipeR ρ1 vs1) (L2.wipe σ2 vs1) := ⟨sl5.1, fun i w e => let ⟨v, e1, r⟩ := sl5.2 i w e; ⟨v, e1, rep.stay F6.tup (let ⟨t, e, _⟩ := F6.pre; ⟨t, e⟩) w v r⟩⟩
                  by_cases hjt : j < q1.1.length
                  · rw [List.drop_eq_getElem_cons hjt] at ec6
                    unfold compL at ec6
                    by_cases hg6 : gdOk q1.2 h6
                    · rw [if_pos hg6] at ec6
                      refine .inr ⟨w1.go j m6 h6 Hc F6 S6 hg6 hjt, fun H' => ∃ (m6 : List Addr) (h6 : Store) (aW : List W) (aV : List V), Sim B m6 h6 H' ∧ Go m1 H1 m6 H' ∧ GoF H4 m5 H5 m6 H' ∧ H' D = some (.lst aV) ∧ D ∉ m6 ∧ reps B m6 H' aW aV ∧
                          compL q1.2 T1 tt1 te (wipeR ρ1 vs1) (q1.1.drop (j + 1)) aW h6 = .ok accE hE,
                        fun H' ⟨m3, h3, aw, av, x1, x2, x3, x4, x5, x6, x7⟩ => ⟨k - 1, by omega, m3, h3, aw, av, x1, x2, x3, x4, x5, x6, by omega, x7⟩, fun y H7 hy1 => ?_⟩
                      obtain ⟨S7, G7, r7⟩ := w1.yld j _ m6 h6 Hc y H7 F6 S6 hg6 (List.getElem?_eq_getElem hjt) hy1
                      have sl7 := sl6.go G7
                      have eD7 : H7 D = some (.lst aV) := G7.keep _ _ eD6 hm6
                      have F7 : GoF H4 m5 H5 m6 H7 := F6.then S7.nd G7
                      cases eb1 : T1.bind q1.1[j] (wipeR ρ1 vs1) with
                      | none =>
                        rw [eb1] at ec6
                        cases ec6
                      | some ρ2 =>
                        rw [eb1] at ec6
                        dsimp only at ec6
                        refine ⟨m6, h6, _, _, ρ2, S7, sl7, r7, eb1, fun σ3 sl8 f3 => ⟨?_, ?_⟩⟩
                        · rw [← wipe_wipe (σ := σ2)]
                          refine wipe_eq ?_ fun i hi => f3 i fun z => hi (hT1 i z)
                          have z1 := sl8.1
                          have z2 := sl7.1
                          rw [z2]
                          rw [z1, Tgt.bind_len eb1]
                        · refine ⟨m6, h6, ρ2, S7, sl8, ?_⟩
                          cases et1 : tt1 ρ2 h6 with
                          | bad =>
                            rw [et1] at ec6
                            cases ec6
                          | exc x h4 =>
                            rw [et1] at ec6
                            cases ec6
                          | ok b1 h8 =>
                            rw [et1] at ec6
                            refine fun m8 H8 S8 G8 => ?_
                            have eD8 : H8 D = some (.lst aV) := G8.keep _ _ eD7 hm6
                            have hm8 : D ∉ m8 := G8.un eD7 hm6
                            have F8 : GoF H4 m5 H5 m8 H8 := F7.then S8.nd G8
                            have G18 : Go m1 H1 m8 H8 := (G16.trans S7.nd G7).trans S8.nd G8
                            cases b1 with
                            | false => exact iteF ⟨m8, h8, aW, aV, S8, G18, F8, eD8, hm8, G8.reps (G7.reps r6), ec6⟩
                            | true =>
                              refine iteT ⟨m8, h8, ρ2, S8, sl8.go G8, ?_⟩
                              dsimp only at ec6
                              cases ee1 : te ρ2 h8 with
                              | bad =>
                                rw [ee1] at ec6
                                cases ec6
                              | exc x h4 =>
                                rw [ee1] at ec6
                                cases ec6
                              | ok v h9 =>
                                rw [ee1] at ec6
                                dsimp only at ec6
                                refine fun m9 H9 S9 G9 u ru => ?_
                                have eD9 : H9 D = some (.lst aV) := G9.keep _ _ eD8 hm8
                                have hm9 : D ∉ m9 := G9.un eD8 hm8
                                have r9 := G9.reps (G8.reps (G7.reps r6))
                                by_cases hz : aW.length < 16777216
                                · rw [if_pos hz] at ec6
                                  have tu : TupIn H9 (upd H9 D (.lst (aV ++ [u]))) := TupIn.upd_at eD9 (lst_not _)
                                  have st : ∀ (w : W) (z : V), rep B m9 H9 w z → rep B m9 (upd H9 D (.lst (aV ++ [u]))) w z := fun w u z => rep.stay tu ⟨[], (List.append_nil m9).symm⟩ w u z
                                  have st2 : ∀ (w : List W) (z : List V), reps B m9 H9 w z → reps B m9 (upd H9 D (.lst (aV ++ [u]))) w z := fun w u z => reps.stay tu ⟨[], (List.append_nil m9).symm⟩ w u z
                                  exact ⟨aV, eD9, by rw [sizeLine_eq, ← r9.length]; exact hz, m9, h9, aW ++ [v], aV ++ [u], S9.other eD9 (lst_not _) hm9, (G18.trans S9.nd G9).upd_un hD, (F8.then S9.nd G9).upd_un eD4 tu, upd_same, hm9, (st2 _ _ r9).append (.cons (st _ _ ru) .nil), ec6⟩
                                · rw [if_neg hz] at ec6
                                  cases ec6
                    · rw [if_neg hg6] at ec6
                      cases ec6
                  · have e0 : q1.1.drop j = [] := List.drop_eq_nil_of_le (by omega)
                    rw [e0] at ec6
                    unfold compL at ec6
                    by_cases hg6 : gdOk q1.2 h6
                    · rw [if_pos hg6] at ec6
                      have z := w1.stop m6 h6 Hc F6 S6 hg6
                      have ej : j = q1.1.length := by omega
                      rw [ej]
                      injection ec6 with ea eh
                      subst ea eh
                      exact .inl ⟨z, m6, _, _, aV, S6, G16, eD6, hm6, r6, pv⟩
                    · rw [if_neg hg6] at ec6
                      cases ec6
    · rw [if_neg hgd] at pv
      exact pv.elim
  · have e0 : q.1.drop i = [] := List.drop_eq_nil_of_le (by omega)
    rw [e0] at pv
    unfold comp2L at pv
    by_cases hgd : gdOk q.2 h2
    · rw [if_pos hgd] at pv
      have z := w.stop m2 h2 Hc G2.toF S2 hgd
      have ei : i = q.1.length := by omega
      rw [ei]
      exact .inl ⟨z, pv m2 Hc S2 G2 D accV eD hm2 hDH ra⟩
    · rw [if_neg hgd] at pv
      exact pv.elim
theorem dl_comp2 {elt tg iter tg1 iter1 : Expr} {ifs ifs1 : List Expr} {scope : Scope} {own : List (Str × Nat)} {vs1 : List Nat} {pos : Pos} {fi fi1 : DenI} {T T1 : Tgt} {tt tt1 : DenT} {te : Den} (hc : X.calm = true) (hN : X.N.Nodup) (hi : DI B Wx X tg iter fi) (ok : BlkOk X.N X.env.scope scope own)
    (hT : ∀ i ∈ T.slots, i ∈ own.map (·.2)) (hT1 : ∀ i ∈ T1.slots, i ∈ vs1) (hv1 : ∀ i ∈ vs1, i ∈ own.map (·.2))
    (hg : ∀ (s : Shared) (H : Hp) (C : Addr) (cl : List (Str × Addr)) (fp : List Addr), DG B (X.blk s H scope (compEnvC scope cl C X.env) fp) tg T)
    (ht : ∀ (s : Shared) (H : Hp) (C : Addr) (cl : List (Str × Addr)) (fp : List Addr), DTs B WF0 (X.blk s H scope (compEnvC scope cl C X.env) fp) ifs tt)
    (hi1 : ∀ (s : Shared) (H : Hp) (C : Addr) (cl : List (Str × Addr)) (fp : List Addr), DI B WF0 (X.blk s H scope (compEnvC scope cl C X.env) fp) tg1 iter1 fi1)
    (hg1 : ∀ (s : Shared) (H : Hp) (C : Addr) (cl : List (Str × Addr)) (fp : List Addr), DG B (X.blk s H scope (compEnvC scope cl C X.env) fp) tg1 T1)
    (ht1 : ∀ (s : Shared) (H : Hp) (C : Addr) (cl : List (Str × Addr)) (fp : List Addr), DTs B WF0 (X.blk s H scope (compEnvC scope cl C X.env) fp) ifs1 tt1)
    (he : ∀ (s : Shared) (H : Hp) (C : Addr) (cl : List (Str × Addr)) (fp : List Addr), DE B WF0 (X.blk s H scope (compEnvC scope cl C X.env) fp) elt te)
    (hs : ∀ x, foldedSetIterable iter X.env x = pure x) (hs1 : ∀ env x, foldedSetIterable iter1 env x = pure x) :
    DL B Wx X (.ListComp elt [⟨tg, iter, ifs, 0⟩, ⟨tg1, iter1, ifs1, 0⟩] scope pos) (cComp2 fi (own.map (·.2)) T tt fi1 vs1 T1 tt1 te) :=
  ⟨fun pins s σ H Q I hh => (pe_lc2 hc hN hi ok hv1 hg ht hi1 hg1 ht1 he hs hs1).run pins s σ H Q I (lc2_read hT hT1 hh)⟩
end
end Wv
end
section
set_option Elab.async false
set_option linter.all false
set_option maxRecDepth 100000
set_option maxHeartbeats 4000000
/-! Core H of ours: calls of defs, of builtins, of methods. -/
namespace Wv
open PySem PySem.Spec L2
open PyProof.Rows hiding St

abbrev CallT := Str → List W → Store → Out W
/-- a def's promise by the plain call -/
def spD (B : Base) (call : CallT) (n : Nat) (f : Str) : Sp := fun vs H Q E => ∃ m h ws, Sim B m h H ∧ reps B m H ws vs ∧ ws.length = n ∧ PV B m H (call f ws h) (QE B Q) (fun e m' H' => ∀ cls d, repX B m' H' e cls d → E cls d H')
structure FnAt (B : Base) (call : CallT) (P : Program) (w : World) (mg : Str → Option Value) (base : Heap) (k : Nat) (f : Str) (n : Nat) : Prop where
  ex : ∃ (fa : Addr) (fd : FuncData) (ps : List Str), mg f = some (.ref fa) ∧ B.G f = some (.ref fa) ∧ PySem.W.keepIn B.K (.ref fa) = true ∧ Binds B.K fd ps [] ∧ FnOk P w B.K mg base (L2.CX P w) k fa fd ps (spD B call n f)

def cArgs (call : CallT) (n : Nat) (f : Str) (ws : List W) (h : Store) : Out W := if ws.length = n then call f ws h else .bad
def cCall (call : CallT) (n : Nat) (f : Str) (fa : DenA) : Den := fun ρ h => (fa ρ h).bind fun ws h1 => cArgs call n f ws h1
def cCallV (call : CallT) (defs : Str → Option Nat) (fc : Den) (fa : DenA) : Den := fun ρ h => (fc ρ h).bind fun w h1 => match w with
  | .glo f => (match defs f with
    | some n => (fa ρ h1).bind fun ws h2 => cArgs call n f ws h2
    | none => .bad)
  | _ => .bad
section
variable {B : Base} {Wx : WX} {X : Cx} {call : CallT} {defs : Str → Option Nat} {k n : Nat} {f : Str} {e c : Expr} {es : List Expr} {fa : DenA} {fc : Den} {p pos : Pos}
/-- the callee runs, in place -/
theorem run_call (hK : X.K = B.K) (tk : Takes X Wx) (hr : Room k X.A) (F : FnAt B call X.prog X.w X.mg X.base k f n) {pins : List (Addr × Obj)} {s : Shared} {σ : St} {H : Hp} {m : List Addr} {h : Store} {Q : VK} {us : List Value} {vs : List V} {ws : List W} {a : Addr} (ha : B.G f = some (.ref a))
    (I : Inv X pins σ H s) (S : Sim B m h H) (r : Vals vs us) (q : reps B m H ws vs) (pv : PV B m H (cArgs call n f ws h) (QE B Q) (XS B Wx σ)) : wpAny (model X.prog X.w) X.A (PySem.call (.ref a) us) (EP X pins σ Q) X.xe s := by
  obtain ⟨fa, fd, ps, hm, hg, hk, hb, F⟩ := F.ex
  rw [hg] at ha
  cases ha
  rw [← hK] at hb F
  unfold cArgs at pv
  by_cases c : ws.length = n
  · rw [if_pos c] at pv
    exact run_fnS (E := WE Wx) F hr hb (passAt tk σ) I r ⟨m, h, ws, S, q, c, pv⟩
  · rw [if_neg c] at pv
    exact pv.elim
theorem de_call (hK : X.K = B.K) (tk : Takes X Wx) (hr : Room k X.A) (F : FnAt B call X.prog X.w X.mg X.base k f n) (hg : Gl X f) (hd : (f == ("__debug__" : Str)) = false) (hs : (e :: es).all (fun e => !isStar e) = true) (da : DA B Wx X (e :: es) fa) :
    DE B Wx X (.Call (.Name f p) (e :: es) [] pos) (cCall call n f fa) := by
  refine ⟨fun pins s σ H Q I ⟨m, h, ρ, S, sl, pv⟩ => ?_⟩
  obtain ⟨a, fd, ps, hm, hgg, hk, hb, _⟩ := F.ex
  rw [List.all_cons] at hs
  obtain ⟨h1, h2⟩ := Bool.and_eq_true_iff.mp hs
  refine wpAny_Call_Name_kw (ld_glob I hg hm ?_ hd)
  refine PySem.W.callWith_K (h₀ := X.base) I.ok.mod.kin (by rw [hK]; exact hk) (da.run I S sl pv.bind pos fun vs us s1 ws h3 m1 H1 I1 r1 S1 G1 q1 p1 => ⟨I1.kIn, ?_⟩) (starEach_cons (by simpa using h1)) (any_plain pos h2)
  exact run_call hK tk hr F hgg I1 S1 r1 q1 p1
theorem de_call0 (hK : X.K = B.K) (tk : Takes X Wx) (hr : Room k X.A) (F : FnAt B call X.prog X.w X.mg X.base k f n) (hg : Gl X f) (hd : (f == ("__debug__" : Str)) = false) : DE B Wx X (.Call (.Name f p) [] [] pos) (cCall call n f cNil) := by
  refine ⟨fun pins s σ H Q I ⟨m, h, ρ, S, sl, pv⟩ => ?_⟩
  obtain ⟨a, fd, ps, hm, hgg, hk, hb, _⟩ := F.ex
  refine wpAny_Call_Name_kw (ld_glob I hg hm ?_ hd)
  exact PySem.W.callWith_K0 I.kIn (by rw [hK]; exact hk) (run_call hK tk hr F hgg I S .nil .nil pv)
theorem de_callV (hK : X.K = B.K) (tk : Takes X Wx) (hr : Room k X.A) (F : ∀ f n, defs f = some n → FnAt B call X.prog X.w X.mg X.base k f n) (hs : (e :: es).all (fun e => !isStar e) = true) (dc : DE B Wx X c fc) (da : DA B Wx X (e :: es) fa)
    (he : eval (.Call c (e :: es) [] pos) X.env = (do callWith pos (← eval c X.env) [] (backTo pos (starEach (e :: es) X.env)) (backToKw pos (keywordEach [] X.env)))) :
    DE B Wx X (.Call c (e :: es) [] pos) (cCallV call defs fc fa) := by
  refine ⟨fun pins s σ H Q I ⟨m, h, ρ, S, sl, pv⟩ => ?_⟩
  rw [List.all_cons] at hs
  obtain ⟨h1, h2⟩ := Bool.and_eq_true_iff.mp hs
  refine Call_ (dc.run I S sl pv.bind fun v u s1 w h3 m1 H1 I1 r1 S1 G1 q1 p1 => ?_) he
  cases w with
  | glo f =>
    unfold rep at q1
    dsimp only at p1
    cases z : defs f with
    | none =>
      rw [z] at p1
      exact p1.elim
    | some n =>
      rw [z] at p1
      dsimp only at p1
      have F1 := F f n z
      obtain ⟨a, fd, ps, hm, hgg, hk, hb, _⟩ := F1.ex
      rw [hgg] at q1
      cases q1
      cases (show u = Value.ref a from r1)
      refine PySem.W.callWith_K (h₀ := X.base) I.ok.mod.kin (by rw [hK]; exact hk) (da.run I1 S1 (sl.go G1) p1.bind pos fun vs us s2 ws h4 m2 H2 I2 r2 S2 G2 q2 p2 => ⟨I2.kIn, ?_⟩) (starEach_cons (by simpa using h1)) (any_plain pos h2)
      exact run_call hK tk hr F1 hgg I2 S2 r2 q2 p2
  | _ => exact p1.elim

/-! ### builtins by values: one sequence -/
/-- a builtin or a built-in class f of one value that may be a sequence -/
def VC1 (B : Base) (X : Cx) (f : Value) (g : Bool → List W → Store → Opt) : Prop :=
  ∀ (t : Bool) (ws : List W) (m : List Addr) (h : Store) (H : Hp) (a : Addr) (vs : List V), Sim B m h H → seqAt B t H a vs → reps B m H ws vs → ∀ (pins : List (Addr × Obj)) (s : Shared) (σ : St) (us : List Value) (Q : VK), Inv X pins σ H s → Vals [.ref a] us → PO B m H (g t ws h) Q → wpAny (model X.prog X.w) X.A (PySem.call f us) (EP X pins σ Q) X.xe s
def cQ1 (g : Bool → List W → Store → Opt) (f : DenQ) : Den := fun ρ h => (f ρ h).bind fun q h1 => Out.of (g q.1 q.2 h1)
def tupQ (_ : Bool) (ws : List W) (h : Store) : Opt := some (.tup ws, h)
def lenQ (_ : Bool) (ws : List W) (h : Store) : Opt := some (.int ws.length, h)
def bls : List W → Option (List Bool)
  | [] => some []
  | .bl b :: ws => (bls ws).map (b :: ·)
  | _ => none
def intsW : List W → Option (List Int)
  | [] => some []
  | .int b :: ws => (intsW ws).map (b :: ·)
  | _ => none
def allQ (t : Bool) (ws : List W) (h : Store) : Opt := if t = true then none else (bls ws).map fun bs => (.bl (bs.all id), h)
def anyQ (t : Bool) (ws : List W) (h : Store) : Opt := if t = true then none else (bls ws).map fun bs => (.bl (bs.any id), h)
def sumQ (t : Bool) (ws : List W) (h : Store) : Opt := if t = true then none else (intsW ws).map fun ns => (.int ns.sum, h)
theorem bls_rep {m : List Addr} {H : Hp} : ∀ {ws : List W} {vs : List V} {bs : List Bool}, bls ws = some bs → reps B m H ws vs → vs = bs.map V.bl
  | [], vs, bs, e, r => by
    unfold bls at e
    cases e
    unfold reps at r
    exact r
  | .bl b :: ws, vs, bs, e, r => by
    unfold bls at e
    cases z : bls ws with
    | none => rw [z] at e; cases e
    | some bs' =>
      rw [z] at e
      cases e
      unfold reps at r
      obtain ⟨v, t, e1, r1, r2⟩ := r
      rw [e1, r1.bl_, bls_rep z r2]
      rfl
  | .non :: ws, vs, bs, e, r => by unfold bls at e; cases e
  | .int _ :: ws, vs, bs, e, r => by unfold bls at e; cases e
  | .str _ :: ws, vs, bs, e, r => by unfold bls at e; cases e
  | .tup _ :: ws, vs, bs, e, r => by unfold bls at e; cases e
  | .ref _ :: ws, vs, bs, e, r => by unfold bls at e; cases e
  | .glo _ :: ws, vs, bs, e, r => by unfold bls at e; cases e
  | .kls _ :: ws, vs, bs, e, r => by unfold bls at e; cases e
theorem intsW_rep {m : List Addr} {H : Hp} : ∀ {ws : List W} {vs : List V} {bs : List Int}, intsW ws = some bs → reps B m H ws vs → vs = bs.map V.int
  | [], vs, bs, e, r => by
    unfold intsW at e
    cases e
    unfold reps at r
    exact r
  | .int b :: ws, vs, bs, e, r => by
    unfold intsW at e
    cases z : intsW ws with
    | none => rw [z] at e; cases e
    | some bs' =>
      rw [z] at e
      cases e
      unfold reps at r
      obtain ⟨v, t, e1, r1, r2⟩ := r
      rw [e1, r1.int_, intsW_rep z r2]
      rfl
  | .non :: ws, vs, bs, e, r => by unfold intsW at e; cases e
  | .bl _ :: ws, vs, bs, e, r => by unfold intsW at e; cases e
  | .str _ :: ws, vs, bs, e, r => by unfold intsW at e; cases e
  | .tup _ :: ws, vs, bs, e, r => by unfold intsW at e; cases e
  | .ref _ :: ws, vs, bs, e, r => by unfold intsW at e; cases e
  | .glo _ :: ws, vs, bs, e, r => by unfold intsW at e; cases e
  | .kls _ :: ws, vs, bs, e, r => by unfold intsW at e; cases e
theorem seqAt_or {t : Bool} {H : Hp} {a : Addr} {vs : List V} (q : seqAt B t H a vs) : (t = false ∧ SqL B.K H a vs) ∨ (t = true ∧ SqT B.K H a vs) := by
  unfold seqAt at q
  cases t with
  | true => exact .inr ⟨rfl, by simpa using q⟩
  | false => exact .inl ⟨rfl, by simpa using q⟩
theorem vc_tup (hK : X.K = B.K) : VC1 B X (.type "tuple") tupQ := by
  intro t ws m h H a vs S q r pins s σ us Q I ru p
  rcases seqAt_or q with ⟨_, q⟩ | ⟨_, q⟩
  · exact call_tuple_of pins s σ H _ us Q I ru ⟨a, vs, rfl, .inl ⟨by rw [hK]; exact q, fun b hb => p.tup rfl S r hb⟩⟩
  · exact call_tuple_of pins s σ H _ us Q I ru ⟨a, vs, rfl, .inr ⟨by rw [hK]; exact q, p.same rfl S (by unfold rep; exact ⟨a, vs, rfl, q, r⟩)⟩⟩
theorem vc_len (hK : X.K = B.K) : VC1 B X (.builtin "len") lenQ := by
  intro t ws m h H a vs S q r pins s σ us Q I ru p
  have z : Q (.int (vs.length : Nat)) H := p.same (w := .int (ws.length : Nat)) rfl S (by rw [← r.length]; exact .int _)
  refine call_len pins s σ H _ us Q I ru ⟨.ref a, vs.length, rfl, ?_, z⟩
  rw [hK]
  rcases seqAt_or q with ⟨_, q⟩ | ⟨_, q⟩
  · exact .inl ⟨vs, q, rfl⟩
  · exact .inr ⟨vs, q, rfl⟩
theorem vc_all (hK : X.K = B.K) (hc : X.calm = true) : VC1 B X (.builtin "all") allQ := by
  intro t ws m h H a vs S q r pins s σ us Q I ru p
  rcases seqAt_or q with ⟨e, q⟩ | ⟨e, q⟩
  · subst e
    cases z : bls ws with
    | none => simp only [allQ, z] at p; exact p.elim
    | some bs =>
      have e := bls_rep z r
      refine cr_all hc pins s σ H _ us Q I ru ⟨a, bs, rfl, by rw [hK, ← e]; exact q, p.same (w := .bl (bs.all id)) (by simp only [allQ, z]; rfl) S (.bl _)⟩
  · subst e
    exact p.elim
theorem vc_any (hK : X.K = B.K) (hc : X.calm = true) : VC1 B X (.builtin "any") anyQ := by
  intro t ws m h H a vs S q r pins s σ us Q I ru p
  rcases seqAt_or q with ⟨e, q⟩ | ⟨e, q⟩
  · subst e
    cases z : bls ws with
    | none => simp only [anyQ, z] at p; exact p.elim
    | some bs =>
      have e := bls_rep z r
      refine cr_any hc pins s σ H _ us Q I ru ⟨a, bs, rfl, by rw [hK, ← e]; exact q, p.same (w := .bl (bs.any id)) (by simp only [anyQ, z]; rfl) S (.bl _)⟩
  · subst e
    exact p.elim
theorem vc_sum (hK : X.K = B.K) (hc : X.calm = true) : VC1 B X (.builtin "sum") sumQ := by
  intro t ws m h H a vs S q r pins s σ us Q I ru p
  rcases seqAt_or q with ⟨e, q⟩ | ⟨e, q⟩
  · subst e
    cases z : intsW ws with
    | none => simp only [sumQ, z] at p; exact p.elim
    | some bs =>
      have e := intsW_rep z r
      refine cr_sum hc pins s σ H _ us Q I ru ⟨a, bs, rfl, by rw [hK, ← e]; exact q, p.same (w := .int bs.sum) (by simp only [sumQ, z]; rfl) S (.int _)⟩
  · subst e
    exact p.elim
/-- a single argument, then the call -/
theorem q1_run {fq : DenQ} {g : Bool → List W → Store → Opt} {fv : Value} (V1 : VC1 B X fv g) (hs : isStar e = false) (d : DQ B Wx X e fq) {pins : List (Addr × Obj)} {s : Shared} {σ : St} {H : Hp} {m : List Addr} {h : Store} {ρ : Rho} {Q : VK} (I : Inv X pins σ H s) (S : Sim B m h H) (sl : slots B m H ρ σ)
    (pv : PV B m H (cQ1 g fq ρ h) (QE B Q) (XS B Wx σ)) : wpAny (model X.prog X.w) X.A (spliced (backTo pos (starEach [e] X.env))) (fun us s' => wpAny (model X.prog X.w) X.A (PySem.call fv us) (EP X pins σ Q) X.xe s') X.xe s := by
  rw [starEach_plain1 hs]
  show wpAny _ _ (spliced ((false, eval e X.env) :: backTo pos [])) _ _ s
  refine Calls.spliced_cons (thn (PE.run d pins s σ H (fun v H1 => ∃ a vs m1 h1 q, v = .ref a ∧ Sim B m1 h1 H1 ∧ seqAt B q.1 H1 a vs ∧ reps B m1 H1 q.2 vs ∧ PV B m1 H1 (Out.of (g q.1 q.2 h1)) (QE B Q) (XS B Wx σ)) I ⟨m, h, ρ, S, sl, pv.bind.imp fun q h1 m1 H1 S1 G1 p1 a vs sq r => ⟨a, vs, m1, h1, q, rfl, S1, sq, r, p1⟩⟩) fun u s1 ⟨v, H1, I1, r1, a, vs, m1, h1, q, ev, S1, sq, rr, p1⟩ => ?_)
  subst ev
  refine Calls.spliced_nil ?_
  exact V1 q.1 q.2 m1 h1 H1 a vs S1 sq rr pins s1 σ [u] Q I1 (.cons r1 .nil) (PO.of p1)
theorem de_q1B {fq : DenQ} {g : Bool → List W → Store → Opt} {id : String} {x : Str} (V1 : VC1 B X (.builtin id) g) (hg : Gl X x) (hm : X.mg x = none) (hv : bootBuiltins x = some (.builtin id)) (hn : x ≠ "__name__") (hd : (x == ("__debug__" : Str)) = false) (hs : isStar e = false) (d : DQ B Wx X e fq) : DE B Wx X (.Call (.Name x p) [e] [] pos) (cQ1 g fq) := by
  refine ⟨fun pins s σ H Q I ⟨m, h, ρ, S, sl, pv⟩ => ?_⟩
  refine wpAny_Call_Name_kw (ld_blt I hg hm hv ?_ hn hd)
  exact PyProof.Rows.callWith_builtin1 (q1_run V1 hs d I S sl pv) (starEach_cons hs) rfl
theorem de_q1T {fq : DenQ} {g : Bool → List W → Store → Opt} {T : String} {x : Str} (V1 : VC1 B X (.type T) g) (hg : Gl X x) (hm : X.mg x = none) (hv : bootBuiltins x = some (.type T)) (hn : x ≠ "__name__") (hd : (x == ("__debug__" : Str)) = false) (hs : isStar e = false) (d : DQ B Wx X e fq) : DE B Wx X (.Call (.Name x p) [e] [] pos) (cQ1 g fq) := by
  refine ⟨fun pins s σ H Q I ⟨m, h, ρ, S, sl, pv⟩ => ?_⟩
  refine wpAny_Call_Name_kw (ld_blt I hg hm hv ?_ hn hd)
  exact PyProof.Rows.callWith_type1 (q1_run V1 hs d I S sl pv) (starEach_cons hs) rfl
end
end Wv
end
section
set_option Elab.async false
set_option linter.all false
set_option maxRecDepth 100000
set_option maxHeartbeats 4000000
/-! Core I of ours: more calls. -/
namespace Wv
open PySem PySem.Spec L2
open PyProof.Rows hiding St

def cListQ (f : DenQ) : DenA := fun ρ h => (f ρ h).bind fun q h1 => .ok q.2 h1
/-- a builtin of one plain value -/
def cV1 (g : W → Store → Opt) (f : Den) : Den := fun ρ h => (f ρ h).bind fun w h1 => Out.of (g w h1)
def cV2 (g : W → W → Store → Opt) (f f2 : Den) : Den := fun ρ h => (f ρ h).bind fun w h1 => (f2 ρ h1).bind fun u h2 => Out.of (g w u h2)
def intV : W → Store → Opt
  | .int i, h => some (.int i, h)
  | .bl k, h => some (.int (if k then 1 else 0), h)
  | _, _ => none
def absV1 : W → Store → Opt
  | .int i, h => some (.int (if i < 0 then -i else i), h)
  | _, _ => none
def strV : W → Store → Opt
  | .int i, h => if i.natAbs.log2 < 1920 then some (.str (toString i), h) else none
  | _, _ => none
def lenV : W → Store → Opt
  | .str y, h => if y.length ≤ 16777216 then some (.int y.length, h) else none
  | .tup ws, h => some (.int ws.length, h)
  | .ref n, h => (lst? h n).map fun ws => (.int ws.length, h)
  | _, _ => none
def maxV : W → W → Store → Opt
  | .int i, .int j, h => some (.int (if j > i then j else i), h)
  | _, _, _ => none
def minV : W → W → Store → Opt
  | .int i, .int j, h => some (.int (if j < i then j else i), h)
  | _, _, _ => none
def VV1 (B : Base) (X : Cx) (f : Value) (g : W → Store → Opt) : Prop :=
  ∀ (w : W) (m : List Addr) (h : Store) (H : Hp) (v : V), Sim B m h H → rep B m H w v → ∀ (pins : List (Addr × Obj)) (s : Shared) (σ : St) (us : List Value) (Q : VK), Inv X pins σ H s → Vals [v] us → PO B m H (g w h) Q → wpAny (model X.prog X.w) X.A (PySem.call f us) (EP X pins σ Q) X.xe s
def VV2 (B : Base) (X : Cx) (f : Value) (g : W → W → Store → Opt) : Prop :=
  ∀ (w w2 : W) (m : List Addr) (h : Store) (H : Hp) (v v2 : V), Sim B m h H → rep B m H w v → rep B m H w2 v2 → ∀ (pins : List (Addr × Obj)) (s : Shared) (σ : St) (us : List Value) (Q : VK), Inv X pins σ H s → Vals [v, v2] us → PO B m H (g w w2 h) Q → wpAny (model X.prog X.w) X.A (PySem.call f us) (EP X pins σ Q) X.xe s
/-- the type's name of a plain value -/
def tyW (h : Store) : W → Option String
  | .non => some "NoneType"
  | .bl _ => some "bool"
  | .int _ => some "int"
  | .str _ => some "str"
  | .tup _ => some "tuple"
  | .ref n => match h[n]? with
    | some (.lst _) => some "list"
    | some (.dic _) => some "dict"
    | none => none
  | .glo _ => none
  | .kls _ => none
def isOne (t c : String) : Option Bool := kitB t c
def isAny (t : String) : List String → Option Bool
  | [] => some false
  | c :: cs => match kitB t c with
    | some true => some true
    | some false => isAny t cs
    | none => none
def cIsi1 (c : String) (f : Den) : Den := fun ρ h => (f ρ h).bind fun w h1 => match tyW h1 w with
  | some t => ofB (isOne t c) h1
  | none => .bad
def cIsiT (cs : List String) (f : Den) : Den := fun ρ h => (f ρ h).bind fun w h1 => match tyW h1 w with
  | some t => ofB (isAny t cs) h1
  | none => .bad
section
variable {B : Base} {Wx : WX} {X : Cx} {e e2 : Expr} {es : List Expr} {fq : DenQ} {f f2 : Den} {p pos : Pos}
theorem dl_listQ (hK : X.K = B.K) (hg : Gl X "list") (hm : X.mg "list" = none) (hs : isStar e = false) (d : DQ B Wx X e fq) : DL B Wx X (.Call (.Name "list" p) [e] [] pos) (cListQ fq) := by
  refine ⟨fun pins s σ H Q I ⟨m, h, ρ, S, sl, pv⟩ => ?_⟩
  refine wpAny_Call_Name_kw (ld_blt I hg hm boot_list ?_ (by decide) (by decide))
  refine PyProof.Rows.callWith_type1 ?_ (starEach_cons hs) rfl
  rw [starEach_plain1 hs]
  show wpAny _ _ (spliced ((false, eval e X.env) :: backTo pos [])) _ _ s
  refine Calls.spliced_cons (thn (PE.run d pins s σ H (fun v H1 => ∃ a vs m1 h1 q, v = .ref a ∧ Sim B m1 h1 H1 ∧ Go m H m1 H1 ∧ seqAt B q.1 H1 a vs ∧ reps B m1 H1 q.2 vs ∧ PV B m1 H1 (.ok q.2 h1) (fun ws _ m' H' => ∀ a vs, H' a = some (.lst vs) → a ∉ m' → H a = none → reps B m' H' ws vs → Q (.ref a) H') (XS B Wx σ)) I ⟨m, h, ρ, S, sl, pv.bind.imp fun q h1 m1 H1 S1 G1 p1 a vs sq r => ⟨a, vs, m1, h1, q, rfl, S1, G1, sq, r, p1⟩⟩) fun u s1 ⟨v, H1, I1, r1, a, vs, m1, h1, q, ev, S1, G1, sq, rr, p1⟩ => ?_)
  subst ev
  refine Calls.spliced_nil ?_
  refine call_list_of pins s1 σ H1 _ [u] Q I1 (.cons r1 .nil) ⟨a, vs, rfl, ?_, fun l hl => ?_⟩
  · rw [hK]
    rcases seqAt_or sq with ⟨_, z⟩ | ⟨_, z⟩
    · exact .inl z
    · exact .inr z
  · exact p1 m1 _ (S1.more hl) (Go.more hl) l vs upd_same (notin_of S1 hl) (fresh_of S1 G1 hl) ((Go.more (m := m1) hl).reps rr)
theorem vv_int : VV1 B X (.type "int") intV := by
  intro w m h H v S r pins s σ us Q I ru p
  cases w with
  | int i =>
    have z := r.int_
    exact call_int1 pins s σ H _ us Q I ru (.inl ⟨i, by rw [z], p.same rfl S (.int i)⟩)
  | bl k =>
    have z := r.bl_
    exact call_int1 pins s σ H _ us Q I ru (.inr ⟨k, by rw [z], p.same rfl S (.int _)⟩)
  | _ => exact p.elim
theorem vv_abs : VV1 B X (.builtin "abs") absV1 := by
  intro w m h H v S r pins s σ us Q I ru p
  cases w with
  | int i =>
    have z := r.int_
    exact call_abs pins s σ H _ us Q I ru ⟨i, by rw [z], p.same rfl S (.int _)⟩
  | _ => exact p.elim
theorem vv_str : VV1 B X (.type "str") strV := by
  intro w m h H v S r pins s σ us Q I ru p
  cases w with
  | int i =>
    have z := r.int_
    by_cases c : i.natAbs.log2 < 1920
    · exact call_str_int pins s σ H _ us Q I ru ⟨i, by rw [z], c, p.same (if_pos c) S (.str _)⟩
    · have e : strV (.int i) h = none := if_neg c
      rw [e] at p
      exact p.elim
  | _ => exact p.elim
theorem vv_len (hK : X.K = B.K) : VV1 B X (.builtin "len") lenV := by
  intro w m h H v S r pins s σ us Q I ru p
  cases w with
  | str y =>
    have z := r.str_
    by_cases c : y.length ≤ 16777216
    · exact call_len pins s σ H _ us Q I ru ⟨v, y.length, rfl, by rw [z]; exact ⟨by rw [sizeLine_eq]; exact c, rfl⟩, p.same (if_pos c) S (.int _)⟩
    · have e : lenV (.str y) h = none := if_neg c
      rw [e] at p
      exact p.elim
  | tup ws =>
    obtain ⟨a, vs, e, qa, ra⟩ := r.tup_
    have z : Q (.int (vs.length : Nat)) H := p.same (w := .int (ws.length : Nat)) rfl S (by rw [← ra.length]; exact .int _)
    exact call_len pins s σ H _ us Q I ru ⟨v, vs.length, rfl, by rw [e]; exact .inr ⟨vs, by rw [hK]; exact qa, rfl⟩, z⟩
  | ref n =>
    obtain ⟨a, e, ha⟩ := r.ref_
    cases q1 : lst? h n with
    | none => simp only [lenV, q1] at p; exact p.elim
    | some ws =>
      obtain ⟨vs, qa, ra⟩ := lst_at S ha q1
      have z : Q (.int (vs.length : Nat)) H := p.same (w := .int (ws.length : Nat)) (by simp only [lenV, q1]; rfl) S (by rw [← ra.length]; exact .int _)
      exact call_len pins s σ H _ us Q I ru ⟨v, vs.length, rfl, by rw [e]; exact .inl ⟨vs, by rw [hK]; exact qa, rfl⟩, z⟩
  | _ => exact p.elim
theorem vv_max (hc : X.calm = true) : VV2 B X (.builtin "max") maxV := by
  intro w w2 m h H v v2 S r r2 pins s σ us Q I ru p
  cases w with
  | int i =>
    cases w2 with
    | int j =>
      have z := r.int_
      have z2 := r2.int_
      exact call_max2 hc pins s σ H _ us Q I ru ⟨i, j, by rw [z, z2], p.same rfl S (.int _)⟩
    | _ => exact p.elim
  | _ => exact p.elim
theorem vv_min (hc : X.calm = true) : VV2 B X (.builtin "min") minV := by
  intro w w2 m h H v v2 S r r2 pins s σ us Q I ru p
  cases w with
  | int i =>
    cases w2 with
    | int j =>
      have z := r.int_
      have z2 := r2.int_
      exact call_min2 hc pins s σ H _ us Q I ru ⟨i, j, by rw [z, z2], p.same rfl S (.int _)⟩
    | _ => exact p.elim
  | _ => exact p.elim
theorem v1_run {g : W → Store → Opt} {fv : Value} (V1 : VV1 B X fv g) (hs : isStar e = false) (d : DE B Wx X e f) {pins : List (Addr × Obj)} {s : Shared} {σ : St} {H : Hp} {m : List Addr} {h : Store} {ρ : Rho} {Q : VK} (I : Inv X pins σ H s) (S : Sim B m h H) (sl : slots B m H ρ σ)
    (pv : PV B m H (cV1 g f ρ h) (QE B Q) (XS B Wx σ)) : wpAny (model X.prog X.w) X.A (spliced (backTo pos (starEach [e] X.env))) (fun us s' => wpAny (model X.prog X.w) X.A (PySem.call fv us) (EP X pins σ Q) X.xe s') X.xe s := by
  rw [starEach_plain1 hs]
  show wpAny _ _ (spliced ((false, eval e X.env) :: backTo pos [])) _ _ s
  refine Calls.spliced_cons (d.run I S sl pv.bind fun v u s1 w h1 m1 H1 I1 r1 S1 G1 q1 p1 => ?_)
  exact Calls.spliced_nil (V1 w m1 h1 H1 v S1 q1 pins s1 σ [u] Q I1 (.cons r1 .nil) (PO.of p1))
theorem v2_run {g : W → W → Store → Opt} {fv : Value} (V1 : VV2 B X fv g) (hs : isStar e = false) (hs2 : isStar e2 = false) (d : DE B Wx X e f) (d2 : DE B Wx X e2 f2) {pins : List (Addr × Obj)} {s : Shared} {σ : St} {H : Hp} {m : List Addr} {h : Store} {ρ : Rho} {Q : VK} (I : Inv X pins σ H s) (S : Sim B m h H) (sl : slots B m H ρ σ)
    (pv : PV B m H (cV2 g f f2 ρ h) (QE B Q) (XS B Wx σ)) : wpAny (model X.prog X.w) X.A (spliced (backTo pos (starEach [e, e2] X.env))) (fun us s' => wpAny (model X.prog X.w) X.A (PySem.call fv us) (EP X pins σ Q) X.xe s') X.xe s := by
  rw [starEach_cons hs, starEach_plain1 hs2]
  show wpAny _ _ (spliced ((false, eval e X.env) :: (false, eval e2 X.env) :: backTo pos [])) _ _ s
  refine Calls.spliced_cons (d.run I S sl pv.bind fun v u s1 w h1 m1 H1 I1 r1 S1 G1 q1 p1 => ?_)
  refine Calls.spliced_cons (d2.run I1 S1 (sl.go G1) p1.bind fun v2 u2 s2 w2 h2 m2 H2 I2 r2 S2 G2 q2 p2 => ?_)
  exact Calls.spliced_nil (V1 w w2 m2 h2 H2 v v2 S2 (G2.rep q1) q2 pins s2 σ [u, u2] Q I2 (.cons r1 (.cons r2 .nil)) (PO.of p2))
theorem de_v1B {g : W → Store → Opt} {id : String} {x : Str} (V1 : VV1 B X (.builtin id) g) (hg : Gl X x) (hm : X.mg x = none) (hv : bootBuiltins x = some (.builtin id)) (hn : x ≠ "__name__") (hd : (x == ("__debug__" : Str)) = false) (hs : isStar e = false) (d : DE B Wx X e f) : DE B Wx X (.Call (.Name x p) [e] [] pos) (cV1 g f) := by
  refine ⟨fun pins s σ H Q I ⟨m, h, ρ, S, sl, pv⟩ => ?_⟩
  refine wpAny_Call_Name_kw (ld_blt I hg hm hv ?_ hn hd)
  exact PyProof.Rows.callWith_builtin1 (v1_run V1 hs d I S sl pv) (starEach_cons hs) rfl
theorem de_v1T {g : W → Store → Opt} {T : String} {x : Str} (V1 : VV1 B X (.type T) g) (hg : Gl X x) (hm : X.mg x = none) (hv : bootBuiltins x = some (.type T)) (hn : x ≠ "__name__") (hd : (x == ("__debug__" : Str)) = false) (hs : isStar e = false) (d : DE B Wx X e f) : DE B Wx X (.Call (.Name x p) [e] [] pos) (cV1 g f) := by
  refine ⟨fun pins s σ H Q I ⟨m, h, ρ, S, sl, pv⟩ => ?_⟩
  refine wpAny_Call_Name_kw (ld_blt I hg hm hv ?_ hn hd)
  exact PyProof.Rows.callWith_type1 (v1_run V1 hs d I S sl pv) (starEach_cons hs) rfl
theorem de_v2B {g : W → W → Store → Opt} {id : String} {x : Str} (V1 : VV2 B X (.builtin id) g) (hg : Gl X x) (hm : X.mg x = none) (hv : bootBuiltins x = some (.builtin id)) (hn : x ≠ "__name__") (hd : (x == ("__debug__" : Str)) = false) (hs : isStar e = false) (hs2 : isStar e2 = false) (d : DE B Wx X e f) (d2 : DE B Wx X e2 f2) : DE B Wx X (.Call (.Name x p) [e, e2] [] pos) (cV2 g f f2) := by
  refine ⟨fun pins s σ H Q I ⟨m, h, ρ, S, sl, pv⟩ => ?_⟩
  refine wpAny_Call_Name_kw (ld_blt I hg hm hv ?_ hn hd)
  exact PyProof.Rows.callWith_builtin1 (v2_run V1 hs hs2 d d2 I S sl pv) (starEach_cons hs) (any_plain pos (by simp [hs2]))

/-! isinstance -/
theorem tyW_ok {m : List Addr} {H : Hp} {h : Store} {w : W} {v : V} {t : String} (S : Sim B m h H) (r : rep B m H w v) (e : tyW h w = some t) : TyX B.K H v (.type t) := by
  cases w with
  | non => cases e; rw [r.non_]; exact .base .non
  | bl b => cases e; rw [r.bl_]; exact .base (.bl b)
  | int b => cases e; rw [r.int_]; exact .base (.int b)
  | str b => cases e; rw [r.str_]; exact .base (.str b)
  | tup ws =>
    cases e
    obtain ⟨a, vs, rfl, qa, ra⟩ := r.tup_
    rcases qa with (q | ⟨o, q⟩) | ⟨o, its, n, q1, q2, _⟩
    · exact .base (.tup q)
    · exact .fTuple q
    · exact .kTuple q1 q2
  | ref n =>
    obtain ⟨a, rfl, ha⟩ := r.ref_
    simp only [tyW] at e
    split at e
    · rename_i ws q
      cases e
      obtain ⟨vs, z, _⟩ := S.ob n a _ ha q
      exact .base (.lst z)
    · rename_i ws q
      cases e
      obtain ⟨vs, z, _⟩ := S.ob n a _ ha q
      exact .base (.dK z)
    · cases e
  | glo x => cases e
  | kls x => cases e
/-- a built-in class by its name -/
def TyName (X : Cx) (x : Str) (c : String) : Prop := Gl X x ∧ X.mg x = none ∧ bootBuiltins x = some (.type c) ∧ x ≠ "__name__" ∧ (x == ("__debug__" : Str)) = false
theorem TyName.pe {x : Str} {c : String} {q : Pos} (T : TyName X x c) : PE X (.Name x q) (tC (.ty c)) := by
  obtain ⟨a, b, d, e, f⟩ := T
  exact pe_bltn a b d rfl e f
theorem de_isi1 (hK : X.K = B.K) (hg : Gl X "isinstance") (hm : X.mg "isinstance" = none) {x : Str} {c : String} {q : Pos} (T : TyName X x c) (hs : isStar e = false) (d : DE B Wx X e f) : DE B Wx X (.Call (.Name "isinstance" p) [e, .Name x q] [] pos) (cIsi1 c f) := by
  refine ⟨fun pins s σ H Q I ⟨m, h, ρ, S, sl, pv⟩ => ?_⟩
  refine (pe_callB (p := p) (pos := pos) call_isi hg hm boot_isinstance (pa_cons d (pa_cons T.pe pa_nil) (starEach_cons hs)) (by decide) (by decide) (starEach_cons hs) rfl).run pins s σ H Q I ⟨m, h, ρ, S, sl, pv.bind.imp fun w h1 m1 H1 S1 G1 p1 v r => ?_⟩
  cases z : tyW h1 w with
  | none => rw [z] at p1; exact p1.elim
  | some t =>
    rw [z] at p1
    dsimp only at p1
    cases y : isOne t c with
    | none => rw [y] at p1; exact p1.elim
    | some b =>
      rw [y] at p1
      exact ⟨v, .ty c, .type t, .type c, b, rfl, .ty c, by rw [hK]; exact tyW_ok S1 r z, kit_ty y, p1.here S1 _ (.bl b)⟩
theorem isAny_ok {K : PySem.W.Frag} {t : String} : ∀ {cs : List String} {b : Bool}, isAny t cs = some b → PySem.W.kitAny K (.type t) (cs.map Value.type) = some b
  | [], b, e => by unfold isAny at e; cases e; exact kitAny_nil
  | c :: cs, b, e => by
    unfold isAny at e
    cases z : kitB t c with
    | none => rw [z] at e; cases e
    | some d =>
      rw [z] at e
      cases d with
      | true =>
        cases e
        exact kitAny_cons (kit_ty z) (fun q => by cases q) (fun _ => rfl)
      | false => exact kitAny_cons (kit_ty z) (fun _ => isAny_ok e) (fun q => by cases q)
theorem pa_types : ∀ {xs : List (Str × String × Pos)}, (∀ q ∈ xs, TyName X q.1 q.2.1) → PA X (xs.map fun q => Expr.Name q.1 q.2.2) (fun _ H Q => Q (xs.map fun q => V.ty q.2.1) H)
  | [], _ => pa_nil
  | q :: xs, h => by
    refine ⟨fun pos pins s σ H Q I p => ?_⟩
    exact (pa_cons (h q List.mem_cons_self).pe (pa_types fun z hz => h z (List.mem_cons_of_mem _ hz)) rfl).run pos pins s σ H Q I p
theorem clsV_all : ∀ cs : List String, Paired ClsV (cs.map V.ty) (cs.map Value.type)
  | [] => .nil
  | c :: cs => .cons (.ty c) (clsV_all cs)
theorem de_isiT (hK : X.K = B.K) (hg : Gl X "isinstance") (hm : X.mg "isinstance" = none) {xs : List (Str × String × Pos)} {kk : Nat} {q : Pos} (T : ∀ q ∈ xs, TyName X q.1 q.2.1) (hl : xs.length ≤ 100) (hs : isStar e = false) (d : DE B Wx X e f) :
    DE B Wx X (.Call (.Name "isinstance" p) [e, .Tuple (xs.map fun q => Expr.Name q.1 q.2.2) kk q] [] pos) (cIsiT (xs.map (·.2.1)) f) := by
  refine ⟨fun pins s σ H Q I ⟨m, h, ρ, S, sl, pv⟩ => ?_⟩
  refine (pe_callB (p := p) (pos := pos) call_isiT hg hm boot_isinstance (pa_cons d (pa_cons (pe_tup (pa_types T)) pa_nil) (starEach_cons hs)) (by decide) (by decide) (starEach_cons hs) rfl).run pins s σ H Q I ⟨m, h, ρ, S, sl, pv.bind.imp fun w h1 m1 H1 S1 G1 p1 v r => ?_⟩
  refine ⟨by rw [List.length_map, sizeLine_eq]; omega, fun a ha => ?_⟩
  cases z : tyW h1 w with
  | none => rw [z] at p1; exact p1.elim
  | some t =>
    rw [z] at p1
    dsimp only at p1
    cases y : isAny t (xs.map (·.2.1)) with
    | none => rw [y] at p1; exact p1.elim
    | some b =>
      rw [y] at p1
      refine ⟨v, a, xs.map fun q => V.ty q.2.1, .type t, (xs.map (·.2.1)).map Value.type, b, rfl, upd_same, ?_, by rw [hK]; exact tyW_ok (S1.more ha) ((Go.more (m := m1) ha).rep r) z, isAny_ok y, p1 m1 _ (S1.more ha) (Go.more ha) _ (.bl b)⟩
      have z := clsV_all (xs.map (·.2.1))
      rw [List.map_map] at z
      exact z
end
end Wv
end
section
set_option Elab.async false
set_option linter.all false
set_option maxRecDepth 100000
set_option maxHeartbeats 4000000
/-! Core J of ours: statements. -/
namespace Wv
open PySem PySem.Spec L2
open PyProof.Rows hiding St

inductive SO where
  | next (ρ : Rho) (h : Store)
  | ret (w : W) (h : Store)
  | brk (ρ : Rho) (h : Store)
  | cont (ρ : Rho) (h : Store)
  | exc (e : Exn) (ρ : Rho) (h : Store)
  | bad
abbrev DenS := Rho → Store → SO
abbrev KR := Rho → List Addr → Hp → Prop
structure KS where
  nx : KR
  bk : KR
  ct : KR
  rt : W → List Addr → Hp → Prop
  xc : Exn → KR
def PSV (B : Base) (m : List Addr) (H : Hp) (o : SO) (K : KS) : Prop := match o with
  | .next ρ h' => ∀ m' H', Sim B m' h' H' → Go m H m' H' → K.nx ρ m' H'
  | .ret w h' => ∀ m' H', Sim B m' h' H' → Go m H m' H' → K.rt w m' H'
  | .brk ρ h' => ∀ m' H', Sim B m' h' H' → Go m H m' H' → K.bk ρ m' H'
  | .cont ρ h' => ∀ m' H', Sim B m' h' H' → Go m H m' H' → K.ct ρ m' H'
  | .exc e ρ h' => ∀ m' H', Sim B m' h' H' → Go m H m' H' → K.xc e ρ m' H'
  | .bad => False
theorem PSV.mono {B : Base} {m m' : List Addr} {H H' : Hp} {o : SO} {K : KS} (p : PSV B m H o K) (g : Go m H m' H') : PSV B m' H' o K := by
  cases o with
  | bad => exact p
  | _ => exact fun m2 H2 S2 G2 => p m2 H2 S2 (g.trans S2.nd G2)
/-- what is wanted of a statement -/
def ksOf (B : Base) (Wx : WX) (D : Ends) : KS where
  nx := fun ρ m' H' => ∀ σ', slots B m' H' ρ σ' → D.nx σ' H'
  bk := fun ρ m' H' => ∀ σ', slots B m' H' ρ σ' → D.bk σ' H'
  ct := fun ρ m' H' => ∀ σ', slots B m' H' ρ σ' → D.ct σ' H'
  rt := fun w m' H' => ∀ v, rep B m' H' w v → D.rt v H'
  xc := fun e ρ m' H' => ∀ σ' cls d, slots B m' H' ρ σ' → repX B m' H' e cls d → Wx cls d σ' H'
def tDS (B : Base) (Wx : WX) (f : DenS) : TS := fun D σ H => ∃ m h ρ, Sim B m h H ∧ slots B m H ρ σ ∧ PSV B m H (f ρ h) (ksOf B Wx D)
def DS (B : Base) (Wx : WX) (X : Cx) (st : Stmt) (f : DenS) : Prop := PS X st (tDS B Wx f)
def DSs (B : Base) (Wx : WX) (X : Cx) (sts : List Stmt) (f : DenS) : Prop := PSs X sts (tDS B Wx f)

/-- an expression's outcome, as a statement goes on -/
def Out.th {α : Type} (o : Out α) (ρ : Rho) (k : α → Store → SO) : SO := match o with
  | .ok a h => k a h
  | .exc e h => .exc e ρ h
  | .bad => .bad
@[simp] theorem Out.th_ok {α : Type} (a : α) (h : Store) (ρ : Rho) (k : α → Store → SO) : (Out.ok a h).th ρ k = k a h := id rfl
@[simp] theorem Out.th_exc {α : Type} (e : Exn) (h : Store) (ρ : Rho) (k : α → Store → SO) : (Out.exc e h : Out α).th ρ k = .exc e ρ h := id rfl
@[simp] theorem Out.th_bad {α : Type} (ρ : Rho) (k : α → Store → SO) : (Out.bad : Out α).th ρ k = .bad := id rfl
theorem PSV.th {α : Type} {B : Base} {m : List Addr} {H : Hp} {o : Out α} {ρ : Rho} {σ : St} {k : α → Store → SO} {Wx : WX} {D : Ends} (sl : slots B m H ρ σ) (p : PSV B m H (o.th ρ k) (ksOf B Wx D)) : PV B m H o (fun a h1 m1 H1 => PSV B m1 H1 (k a h1) (ksOf B Wx D)) (XS B Wx σ) := by
  cases o with
  | ok a h => exact fun m1 H1 S1 G1 => PSV.mono (o := k a h) p G1
  | exc e h => exact fun m1 H1 S1 G1 cls d r => p m1 H1 S1 G1 σ cls d (sl.go G1) r
  | bad => exact p
def SO.seq (o : SO) (g : DenS) : SO := match o with
  | .next ρ h => g ρ h
  | o => o
@[simp] theorem SO.seq_next (ρ : Rho) (h : Store) (g : DenS) : (SO.next ρ h).seq g = g ρ h := id rfl
@[simp] theorem SO.seq_ret (w : W) (h : Store) (g : DenS) : (SO.ret w h).seq g = .ret w h := id rfl
@[simp] theorem SO.seq_brk (ρ : Rho) (h : Store) (g : DenS) : (SO.brk ρ h).seq g = .brk ρ h := id rfl
@[simp] theorem SO.seq_cont (ρ : Rho) (h : Store) (g : DenS) : (SO.cont ρ h).seq g = .cont ρ h := id rfl
@[simp] theorem SO.seq_exc (e : Exn) (ρ : Rho) (h : Store) (g : DenS) : (SO.exc e ρ h).seq g = .exc e ρ h := id rfl
@[simp] theorem SO.seq_bad (g : DenS) : SO.bad.seq g = .bad := id rfl
theorem PSV.seq {B : Base} {m : List Addr} {H : Hp} {o : SO} {g : DenS} {K : KS} (p : PSV B m H (o.seq g) K) : PSV B m H o { K with nx := fun ρ m1 H1 => ∃ h1, Sim B m1 h1 H1 ∧ PSV B m1 H1 (g ρ h1) K } := by
  cases o with
  | next ρ h => exact fun m1 H1 S1 G1 => ⟨h, S1, PSV.mono (o := g ρ h) p G1⟩
  | bad => exact p
  | _ => exact p

/-! ### plain statements -/
def sSeq (f g : DenS) : DenS := fun ρ h => (f ρ h).seq g
def sSkip : DenS := fun ρ h => .next ρ h
def sBrk : DenS := fun ρ h => .brk ρ h
def sCont : DenS := fun ρ h => .cont ρ h
def sRet (f : Den) : DenS := fun ρ h => (f ρ h).th ρ fun w h1 => .ret w h1
def sRetN : DenS := fun _ h => .ret .non h
def sExpr (f : Den) : DenS := fun ρ h => (f ρ h).th ρ fun _ h1 => .next ρ h1
def sIf (t : DenT) (f g : DenS) : DenS := fun ρ h => (t ρ h).th ρ fun b h1 => if b = true then f ρ h1 else g ρ h1
def sBad : DenS := fun _ _ => .bad
section
variable {B : Base} {Wx : WX} {X : Cx} {e : Expr} {st : Stmt} {sts sts2 : List Stmt} {f : Den} {t : DenT} {g g2 : DenS} {pos : Pos}
theorem ds_bad : DS B Wx X st sBad := ⟨fun _ _ _ _ _ _ ⟨_, _, _, _, _, p⟩ => p.elim⟩
theorem dss_bad : DSs B Wx X sts sBad := ⟨fun _ _ _ _ _ _ ⟨_, _, _, _, _, p⟩ => p.elim⟩
theorem dss_nil : DSs B Wx X [] sSkip := ⟨fun pins s σ H D I ⟨m, h, ρ, S, sl, p⟩ => pss_nil.run pins s σ H D I (p m H S Go.refl σ sl)⟩
theorem dss_cons (h1 : DS B Wx X st g) (h2 : DSs B Wx X sts g2) : DSs B Wx X (st :: sts) (sSeq g g2) := by
  refine ⟨fun pins s σ H D I ⟨m, h, ρ, S, sl, p⟩ => ?_⟩
  refine (pss_cons h1 h2).run pins s σ H D I ⟨m, h, ρ, S, sl, ?_⟩
  have q := PSV.seq (o := g ρ h) p
  cases z : g ρ h with
  | next ρ' h' =>
    rw [z] at q
    refine fun m1 H1 S1 G1 σ' sl' => ?_
    obtain ⟨h2, S2, q2⟩ := q m1 H1 S1 G1
    exact ⟨m1, h2, ρ', S2, sl', q2⟩
  | bad =>
    rw [z] at q
    exact q
  | _ =>
    rw [z] at q
    exact q
theorem ds_pass : DS B Wx X (.Pass pos) sSkip := ⟨fun pins s σ H D I ⟨m, h, ρ, S, sl, p⟩ => ps_pass.run pins s σ H D I (p m H S Go.refl σ sl)⟩
theorem ds_break : DS B Wx X (.Break pos) sBrk := ⟨fun pins s σ H D I ⟨m, h, ρ, S, sl, p⟩ => ps_break.run pins s σ H D I (p m H S Go.refl σ sl)⟩
theorem ds_cont : DS B Wx X (.Continue pos) sCont := ⟨fun pins s σ H D I ⟨m, h, ρ, S, sl, p⟩ => ps_continue.run pins s σ H D I (p m H S Go.refl σ sl)⟩
theorem ds_ret (d : DE B Wx X e f) : DS B Wx X (.Return (some e) pos) (sRet f) := by
  refine ⟨fun pins s σ H D I ⟨m, h, ρ, S, sl, p⟩ => ?_⟩
  exact (ps_ret d).run pins s σ H D I ⟨m, h, ρ, S, sl, (PSV.th sl p).imp fun w h1 m1 H1 S1 G1 p1 v r => p1 m1 H1 S1 Go.refl v r⟩
theorem ds_retN : DS B Wx X (.Return none pos) sRetN := ⟨fun pins s σ H D I ⟨m, h, ρ, S, sl, p⟩ => ps_retN.run pins s σ H D I (p m H S Go.refl _ .non)⟩
theorem ds_expr (d : DE B Wx X e f) (hs : swapsWith e none pos.line X.env = pure false) : DS B Wx X (.Expr e pos) (sExpr f) := by
  refine ⟨fun pins s σ H D I ⟨m, h, ρ, S, sl, p⟩ => ?_⟩
  exact (ps_expr d hs).run pins s σ H D I ⟨m, h, ρ, S, sl, (PSV.th sl p).imp fun w h1 m1 H1 S1 G1 p1 v r => p1 m1 H1 S1 Go.refl σ (sl.go G1)⟩
theorem ds_if (d : DT B Wx X e t) (h1 : DSs B Wx X sts g) (h2 : DSs B Wx X sts2 g2) : DS B Wx X (.If e sts sts2 pos) (sIf t g g2) := by
  refine ⟨fun pins s σ H D I ⟨m, h, ρ, S, sl, p⟩ => ?_⟩
  refine (ps_if d h1 h2).run pins s σ H D I ⟨m, h, ρ, S, sl, (PSV.th sl p).imp fun b h1 m1 H1 S1 G1 p1 => ?_⟩
  cases b with
  | true => exact iteT ⟨m1, h1, ρ, S1, sl.go G1, p1⟩
  | false => exact iteF ⟨m1, h1, ρ, S1, sl.go G1, p1⟩
end

/-! ### targets of assignments -/
abbrev DenG := W → Rho → Store → SO
abbrev DenGs := List W → Rho → Store → SO
def gNm (i : Nat) : DenG := fun w ρ h => .next (ρ.set i (some w)) h
def gSx (fo fi : Den) : DenG := fun w ρ h => (fo ρ h).th ρ fun o h1 => (fi ρ h1).th ρ fun i h2 => match o, i with
  | .ref n, .int k => (match own? h2 n with
    | some ws => (match ixN ws.length k with
      | some j => .next ρ (h2.set n (.lst (ws.set j w)))
      | none => .bad)
    | none => .bad)
  | _, _ => .bad
def gTp (n : Nat) (gs : DenGs) : DenG := fun w ρ h => match w with
  | .tup ws => if ws.length = n then gs ws ρ h else .bad
  | _ => .bad
def gsNil : DenGs := fun ws ρ h => match ws with
  | [] => .next ρ h
  | _ => .bad
def gsCons (g : DenG) (gs : DenGs) : DenGs := fun ws ρ h => match ws with
  | w :: ws => (g w ρ h).seq (gs ws)
  | [] => .bad
def gBad : DenG := fun _ _ _ => .bad
/-- only 'next' and what is raised come of a target -/
def tGG (B : Base) (Wx : WX) (g : DenG) : TG := fun v σ H Q => ∃ m h ρ w, Sim B m h H ∧ slots B m H ρ σ ∧ rep B m H w v ∧ PSV B m H (g w ρ h) (ksOf B Wx ⟨Q, fun _ _ => False, fun _ _ => False, fun _ _ => False⟩)
def tGGs (B : Base) (Wx : WX) (g : DenGs) : TGs := fun vs σ H Q => ∃ m h ρ ws, Sim B m h H ∧ slots B m H ρ σ ∧ reps B m H ws vs ∧ PSV B m H (g ws ρ h) (ksOf B Wx ⟨Q, fun _ _ => False, fun _ _ => False, fun _ _ => False⟩)
def GG (B : Base) (Wx : WX) (X : Cx) (e : Expr) (g : DenG) : Prop := PG X e (tGG B Wx g)
def GGs (B : Base) (Wx : WX) (X : Cx) (es : List Expr) (g : DenGs) : Prop := PGs X es (tGGs B Wx g)
section
variable {B : Base} {Wx : WX} {X : Cx} {e o i : Expr} {es : List Expr} {fo fi f : Den} {g : DenG} {gs : DenGs} {pos : Pos}
theorem gg_bad : GG B Wx X e gBad := ⟨fun _ _ _ _ _ _ _ _ _ ⟨_, _, _, _, _, _, _, p⟩ => p.elim⟩
theorem gg_name {i : Nat} {x : Str} (hN : X.N.Nodup) (hi : X.N[i]? = some x) (hx : Loc X.env.scope x) (hf : X.fn x = true ∨ X.env.scope.names.lookup x = some .local) : GG B Wx X (.Name x pos) (gNm i) := by
  refine ⟨fun pins s σ H v u Q I r ⟨m, h, ρ, w, S, sl, q, p⟩ => ?_⟩
  exact (pg_name hN hi hx hf).run pins s σ H v u Q I r (p m H S Go.refl _ (sl.set i q))
theorem gg_sub (d1 : DE B Wx X o fo) (d2 : DE B Wx X i fi) (ha : ∀ v, assign (.Subscript o i pos) X.env v = (do
      let ov ← holding [v] (eval o X.env)
      let iv ← holding [v, ov] (eval i X.env)
      standAt pos
      holding [v, ov, iv] (setItem ov iv v)
      release [v, ov, iv] [])) : GG B Wx X (.Subscript o i pos) (gSx fo fi) := by
  refine ⟨fun pins s σ H v u Q I r ⟨m, h, ρ, w, S, sl, q, p⟩ => ?_⟩
  refine (pg_sub d1 d2 set_list ha).run pins s σ H v u Q I r ⟨m, h, ρ, S, sl, (PSV.th sl p).imp fun wo h1 m1 H1 S1 G1 p1 ov ro => ?_⟩
  refine ⟨m1, h1, ρ, S1, sl.go G1, (PSV.th (sl.go G1) p1).imp fun wi h2 m2 H2 S2 G2 p2 iv ri => ?_⟩
  cases wo with
  | ref n =>
    cases wi with
    | int k =>
      dsimp only at p2
      cases z : own? h2 n with
      | none => rw [z] at p2; exact p2.elim
      | some ws =>
        rw [z] at p2
        dsimp only at p2
        cases y : ixN ws.length k with
        | none => rw [y] at p2; exact p2.elim
        | some j =>
          rw [y] at p2
          obtain ⟨a, e1, ha⟩ := (G2.rep ro).ref_
          obtain ⟨vs, ea, ra⟩ := own_at S2 ha z
          have rw2 := G2.rep (G1.rep q)
          have G3 : Go m2 H2 m2 (upd H2 a (.lst (vs.set j v))) := Go.put S2 ha
          refine ⟨a, vs, k, j, e1, ri.int_, ea, by rw [← ra.length]; exact y, ?_⟩
          exact p2 m2 _ (S2.put ha ⟨_, upd_same, G3.reps (ra.set j rw2)⟩) G3 σ (((sl.go G1).go G2).go G3)
    | _ => exact p2.elim
  | _ => exact p2.elim
theorem ggs_nil : GGs B Wx X [] gsNil := by
  refine ⟨fun pins s σ H vs us Q I r ⟨m, h, ρ, ws, S, sl, q, p⟩ => ?_⟩
  cases ws with
  | nil =>
    unfold reps at q
    exact pgs_nil.run pins s σ H vs us Q I r ⟨q, p m H S Go.refl σ sl⟩
  | cons w ws => exact p.elim
theorem ggs_cons (hs : isStar e = false) (h1 : GG B Wx X e g) (h2 : GGs B Wx X es gs) : GGs B Wx X (e :: es) (gsCons g gs) := by
  refine ⟨fun pins s σ H vs us Q I r ⟨m, h, ρ, ws, S, sl, q, p⟩ => ?_⟩
  cases ws with
  | nil => exact p.elim
  | cons w ws =>
    unfold reps at q
    obtain ⟨v, vr, e1, q1, q2⟩ := q
    have p' := PSV.seq (o := g w ρ h) (g := gs ws) p
    refine (pgs_cons h1 h2 (by rw [assignEach_cons hs]; rfl)).run pins s σ H vs us Q I r ⟨v, vr, e1, m, h, ρ, w, S, sl, q1, ?_⟩
    cases z : g w ρ h with
    | next ρ' h' =>
      rw [z] at p'
      refine fun m1 H1 S1 G1 σ' sl' => ?_
      obtain ⟨h2, S2, p2⟩ := p' m1 H1 S1 G1
      exact ⟨m1, h2, ρ', ws, S2, sl', G1.reps q2, p2⟩
    | bad =>
      rw [z] at p'
      exact p'
    | _ =>
      rw [z] at p'
      exact p'
theorem gg_tup (hK : X.K = B.K) (hc : X.calm = true) {k n : Nat} (hs : es.all (fun e => !isStar e) = true) (hl : n = es.length) (h : GGs B Wx X es gs) : GG B Wx X (.Tuple es k pos) (gTp n gs) := by
  obtain ⟨a1, a2⟩ := assignEach_plain (env := X.env) hs
  refine ⟨fun pins s σ H v u Q I r ⟨m, h', ρ, w, S, sl, q, p⟩ => ?_⟩
  cases w with
  | tup ws =>
    obtain ⟨a, vs, rfl, qa, ra⟩ := q.tup_
    unfold gTp at p
    by_cases c : ws.length = n
    · dsimp only at p
      rw [if_pos c] at p
      exact (pg_tup (n := es.length) hc h a1 a2).run pins s σ H _ u Q I r ⟨a, vs, rfl, by rw [hK]; exact qa, by rw [← ra.length, c, hl], m, h', ρ, ws, S, sl, ra, p⟩
    · dsimp only at p
      rw [if_neg c] at p
      exact p.elim
  | _ => exact p.elim
def sAsg (f : Den) (g : DenG) : DenS := fun ρ h => (f ρ h).th ρ fun w h1 => g w ρ h1
/-- a target never leaves otherwise -/
def Tame (g : DenG) : Prop := ∀ w ρ h, (∃ ρ' h', g w ρ h = .next ρ' h') ∨ (∃ e ρ' h', g w ρ h = .exc e ρ' h') ∨ g w ρ h = .bad
theorem Tame.psv {B : Base} {m : List Addr} {H : Hp} {g : DenG} (t : Tame g) {w : W} {ρ : Rho} {h : Store} {D : Ends} (p : PSV B m H (g w ρ h) (ksOf B Wx D)) : PSV B m H (g w ρ h) (ksOf B Wx ⟨D.nx, fun _ _ => False, fun _ _ => False, fun _ _ => False⟩) := by
  rcases t w ρ h with ⟨ρ', h', e⟩ | ⟨x, ρ', h', e⟩ | e
  · rw [e] at p ⊢
    exact p
  · rw [e] at p ⊢
    exact p
  · rw [e] at p
    exact p.elim
theorem ds_asg {tg : Expr} (t : Tame g) (d : DE B Wx X e f) (hg : GG B Wx X tg g) (hs : swapsWithSole [tg] e pos.line X.env = pure false) (hw : swappedStores [tg] e X.env = pure none) (h1 : (assignEach [tg] X.env).map (·.2) = [assign tg X.env]) : DS B Wx X (.Assign [tg] e pos) (sAsg f g) := by
  refine ⟨fun pins s σ H D I ⟨m, h, ρ, S, sl, p⟩ => ?_⟩
  refine (ps_asg d hg hs hw h1).run pins s σ H D I ⟨m, h, ρ, S, sl, (PSV.th sl p).imp fun w h1 m1 H1 S1 G1 p1 v r => ?_⟩
  exact ⟨m1, h1, ρ, w, S1, sl.go G1, r, t.psv p1⟩
end
end Wv
end
section
set_option Elab.async false
set_option linter.all false
set_option maxRecDepth 100000
set_option maxHeartbeats 4000000
/-! Core K of ours: loops, raise, several names at once, methods of lists. -/
namespace Wv
open PySem PySem.Spec L2
open PyProof.Rows hiding St

open Classical in
noncomputable def forL (g : Gd) (T : Tgt) (body : DenS) : List W → Rho → Store → SO
  | [], ρ, h => if gdOk g h then .next ρ h else .bad
  | w :: ws, ρ, h => if gdOk g h then (match T.bind w ρ with
    | none => .bad
    | some ρ1 => match body ρ1 h with
      | .next ρ2 h2 => forL g T body ws ρ2 h2
      | .cont ρ2 h2 => forL g T body ws ρ2 h2
      | .brk ρ2 h2 => .next ρ2 h2
      | .ret w h2 => .ret w h2
      | .exc e ρ2 h2 => .exc e ρ2 h2
      | .bad => .bad) else .bad
noncomputable def sFor (fi : DenI) (T : Tgt) (body : DenS) : DenS := fun ρ h => (fi ρ h).th ρ fun q h1 => forL q.2 T body q.1 ρ h1
def whileL (t : DenT) (body : DenS) : Nat → Rho → Store → SO
  | 0, _, _ => .bad
  | n + 1, ρ, h => (t ρ h).th ρ fun b h1 => if b = true then (match body ρ h1 with
    | .next ρ2 h2 => whileL t body n ρ2 h2
    | .cont ρ2 h2 => whileL t body n ρ2 h2
    | .brk ρ2 h2 => .next ρ2 h2
    | .ret w h2 => .ret w h2
    | .exc e ρ2 h2 => .exc e ρ2 h2
    | .bad => .bad) else .next ρ h1
def wFuel : Nat := 18446744073709551616
def sWhile (t : DenT) (body : DenS) : DenS := fun ρ h => whileL t body wFuel ρ h
def sRaise (cls : Str) : DenS := fun ρ h => .exc ⟨cls, none⟩ ρ h
section
variable {B : Base} {Wx : WX} {X : Cx} {tg iter c : Expr} {sts : List Stmt} {fi : DenI} {T : Tgt} {t : DenT} {g : DenS} {pos : Pos}
theorem ds_for (hp : PassesOwn (model X.prog X.w) X.A X.env X.xe) (hc : X.calm = true) (hs : ∀ x, foldedSetIterable iter X.env x = pure x) (di : DI B Wx X tg iter fi) (dg : DG B X tg T) (db : DSs B Wx X sts g) : DS B Wx X (.For tg iter sts [] pos) (sFor fi T g) := by
  refine ⟨fun pins s σ H D I ⟨m, h, ρ, S, sl, p⟩ => ?_⟩
  refine (ps_for hp hc di dg db hs).run pins s σ H D I ⟨m, h, ρ, S, sl, (PSV.th sl p).imp fun q h1 m1 H1 S1 G1 p1 J w => ?_⟩
  refine ⟨fun i k σc Hc => ∃ (m2 : List Addr) (h2 : Store) (ρ2 : Rho), Sim B m2 h2 Hc ∧ Go m1 H1 m2 Hc ∧ slots B m2 Hc ρ2 σc ∧ i + k = q.1.length ∧ PSV B m1 H1 (forL q.2 T g (q.1.drop i) ρ2 h2) (ksOf B Wx D),
    ⟨q.1.length, m1, h1, ρ, S1, Go.refl, sl.go G1, by omega, p1⟩, fun i k σc Hc hW => ?_⟩
  obtain ⟨m2, h2, ρ2, S2, G2, sl2, hik, pv⟩ := hW
  by_cases hlt : i < q.1.length
  · rw [List.drop_eq_getElem_cons hlt] at pv
    unfold forL at pv
    by_cases hgd : gdOk q.2 h2
    · rw [if_pos hgd] at pv
      refine .inr ⟨w.go i m2 h2 Hc G2.toF S2 hgd hlt, fun σn Hn => ∃ (m2 : List Addr) (h2 : Store) (ρ2 : Rho), Sim B m2 h2 Hn ∧ Go m1 H1 m2 Hn ∧ slots B m2 Hn ρ2 σn ∧ PSV B m1 H1 (forL q.2 T g (q.1.drop (i + 1)) ρ2 h2) (ksOf B Wx D),
        fun σn Hn ⟨m3, h3, ρ3, x1, x2, x3, x4⟩ => ⟨k - 1, by omega, m3, h3, ρ3, x1, x2, x3, by omega, x4⟩, fun x H3 hy => ?_⟩
      obtain ⟨S3, G3, r3⟩ := w.yld i _ m2 h2 Hc x H3 G2.toF S2 hgd (List.getElem?_eq_getElem hlt) hy
      cases eb : T.bind q.1[i] ρ2 with
      | none =>
        rw [eb] at pv
        exact pv.elim
      | some ρ3 =>
        rw [eb] at pv
        dsimp only at pv
        have G13 : Go m1 H1 m2 H3 := G2.trans S3.nd G3
        refine ⟨m2, h2, ρ2, _, ρ3, S3, sl2.go G3, r3, eb, fun σ4 sl4 f4 => ⟨m2, h2, ρ3, S3, sl4, ?_⟩⟩
        cases ez : g ρ3 h2 with
        | next ρ5 h5 =>
          rw [ez] at pv
          exact fun m5 H5 S5 G5 σ5 sl5 => ⟨m5, h5, ρ5, S5, G13.trans S5.nd G5, sl5, pv⟩
        | cont ρ5 h5 =>
          rw [ez] at pv
          exact fun m5 H5 S5 G5 σ5 sl5 => ⟨m5, h5, ρ5, S5, G13.trans S5.nd G5, sl5, pv⟩
        | brk ρ5 h5 =>
          rw [ez] at pv
          exact fun m5 H5 S5 G5 σ5 sl5 => pv m5 H5 S5 (G13.trans S5.nd G5) σ5 sl5
        | ret v h5 =>
          rw [ez] at pv
          exact fun m5 H5 S5 G5 u ru => pv m5 H5 S5 (G13.trans S5.nd G5) u ru
        | exc e ρ5 h5 =>
          rw [ez] at pv
          exact fun m5 H5 S5 G5 σ5 cls d sl5 re => pv m5 H5 S5 (G13.trans S5.nd G5) σ5 cls d sl5 re
        | bad =>
          rw [ez] at pv
          exact pv.elim
    · rw [if_neg hgd] at pv
      exact pv.elim
  · have e0 : q.1.drop i = [] := List.drop_eq_nil_of_le (by omega)
    rw [e0] at pv
    unfold forL at pv
    by_cases hgd : gdOk q.2 h2
    · rw [if_pos hgd] at pv
      have z := w.stop m2 h2 Hc G2.toF S2 hgd
      have ei : i = q.1.length := by omega
      rw [ei]
      exact .inl ⟨z, pv m2 Hc S2 G2 σc sl2⟩
    · rw [if_neg hgd] at pv
      exact pv.elim
theorem ds_while (hp : PassesOwn (model X.prog X.w) X.A X.env X.xe) (dt : DT B Wx X c t) (db : DSs B Wx X sts g) : DS B Wx X (.While c sts [] pos) (sWhile t g) := by
  refine ⟨fun pins s σ H D I ⟨m, h, ρ, S, sl, p⟩ => ?_⟩
  refine (ps_while hp dt db).run pins s σ H D I ⟨fun k σc Hc => ∃ (m2 : List Addr) (h2 : Store) (ρ2 : Rho), Sim B m2 h2 Hc ∧ Go m H m2 Hc ∧ slots B m2 Hc ρ2 σc ∧ PSV B m H (whileL t g k ρ2 h2) (ksOf B Wx D),
    ⟨wFuel, m, h, ρ, S, Go.refl, sl, p⟩, fun k σc Hc hW => ?_⟩
  obtain ⟨m2, h2, ρ2, S2, G2, sl2, pv⟩ := hW
  cases k with
  | zero =>
    unfold whileL at pv
    exact pv.elim
  | succ k =>
    unfold whileL at pv
    refine ⟨m2, h2, ρ2, S2, sl2, ?_⟩
    cases et : t ρ2 h2 with
    | bad =>
      rw [et] at pv
      exact pv.elim
    | exc e h3 =>
      rw [et] at pv
      exact fun m3 H3 S3 G3 cls d re => pv m3 H3 S3 (G2.trans S3.nd G3) σc cls d (sl2.go G3) re
    | ok b h3 =>
      rw [et] at pv
      rw [Out.th_ok] at pv
      refine fun m3 H3 S3 G3 => ?_
      have G13 : Go m H m3 H3 := G2.trans S3.nd G3
      cases b with
      | false =>
        rw [if_neg Bool.false_ne_true] at pv
        exact iteF (pv m3 H3 S3 G13 σc (sl2.go G3))
      | true =>
        rw [if_pos rfl] at pv
        refine iteT ⟨fun σn Hn => ∃ (m2 : List Addr) (h2 : Store) (ρ2 : Rho), Sim B m2 h2 Hn ∧ Go m H m2 Hn ∧ slots B m2 Hn ρ2 σn ∧ PSV B m H (whileL t g k ρ2 h2) (ksOf B Wx D), fun σn Hn hn => ⟨k, Nat.lt_succ_self k, hn⟩, m3, h3, ρ2, S3, sl2.go G3, ?_⟩
        cases ez : g ρ2 h3 with
        | next ρ5 h5 =>
          rw [ez] at pv
          exact fun m5 H5 S5 G5 σ5 sl5 => ⟨m5, h5, ρ5, S5, G13.trans S5.nd G5, sl5, pv⟩
        | cont ρ5 h5 =>
          rw [ez] at pv
          exact fun m5 H5 S5 G5 σ5 sl5 => ⟨m5, h5, ρ5, S5, G13.trans S5.nd G5, sl5, pv⟩
        | brk ρ5 h5 =>
          rw [ez] at pv
          exact fun m5 H5 S5 G5 σ5 sl5 => pv m5 H5 S5 (G13.trans S5.nd G5) σ5 sl5
        | ret v h5 =>
          rw [ez] at pv
          exact fun m5 H5 S5 G5 u ru => pv m5 H5 S5 (G13.trans S5.nd G5) u ru
        | exc e ρ5 h5 =>
          rw [ez] at pv
          exact fun m5 H5 S5 G5 σ5 cls d sl5 re => pv m5 H5 S5 (G13.trans S5.nd G5) σ5 cls d sl5 re
        | bad =>
          rw [ez] at pv
          exact pv.elim
end

/-! ### raise -/
/-- an own error class without an own __init__ -/
structure ExcAt (B : Base) (mg : Str → Option Value) (cls : Str) : Prop where
  ex : ∃ C : Addr, mg cls = some (.ref C) ∧ B.G cls = some (.ref C) ∧ PySem.W.excIn B.K C He.veBase "ValueError.__new__" = true ∧ PySem.W.keepIn B.K (.ref C) = true ∧ PySem.W.subIn B.K (.ref C) (.type "BaseException") = some true ∧ PySem.W.typeIn B.K (.ref C) = some (.type "type")
section
variable {B : Base} {Wx : WX} {X : Cx}
theorem ds_raise (hK : X.K = B.K) (hc : X.calm = true) (tk : Takes X Wx) {cls m : Str} {j : Nat} {p p2 pos pos2 : Pos} (C : ExcAt B X.mg cls) (hg : Gl X cls) (hd : (cls == ("__debug__" : Str)) = false) : DS B Wx X (.Raise (some (.Call (.Name cls p) [.Constant (.str m) j p2] [] pos)) none pos2) (sRaise cls) := by
  refine ⟨fun pins s σ H D I ⟨m', h, ρ, S, sl, pv⟩ => ?_⟩
  obtain ⟨C, e1, e2, e3, e4, e5, e6⟩ := C.ex
  rw [← hK] at e3 e4 e5 e6
  exact (ps_raise (pos := pos2) hc tk (pmk_own PySem.F.excBase_ValueError e3 e1 e4 (raises_own e5 e6) hg hd)).run pins s σ H D I (pv m' H S Go.refl σ _ _ sl ⟨⟨C, e2, rfl⟩, rfl⟩)
end

/-! ### several names at once -/
def sPar2 (i j : Nat) (fa : DenA) : DenS := fun ρ h => (fa ρ h).th ρ fun ws h1 => match ws with
  | [v, w] => .next ((ρ.set i (some v)).set j (some w)) h1
  | _ => .bad
def sPar3 (i j l : Nat) (fa : DenA) : DenS := fun ρ h => (fa ρ h).th ρ fun ws h1 => match ws with
  | [u, v, w] => .next (((ρ.set i (some u)).set j (some v)).set l (some w)) h1
  | _ => .bad
section
variable {B : Base} {Wx : WX} {X : Cx} {fa : DenA}
theorem ds_par2 {i j : Nat} {x y : Str} {a b : Expr} {px py pt pos : Pos} {kt k2 pt2} (hc : X.calm = true) (hN : X.N.Nodup) (hi : X.N[i]? = some x) (hj : X.N[j]? = some y) (hij : i ≠ j) (hx : X.env.scope.names.lookup x = some .local) (hy : X.env.scope.names.lookup y = some .local)
    (da : DA B Wx X [a, b] fa) (hw : swappedStores [.Tuple [.Name x px, .Name y py] kt pt] (.Tuple [a, b] k2 pt2) X.env = pure (some [x, y])) : DS B Wx X (.Assign [.Tuple [.Name x px, .Name y py] kt pt] (.Tuple [a, b] k2 pt2) pos) (sPar2 i j fa) := by
  refine ⟨fun pins s σ H D I ⟨m, h, ρ, S, sl, p⟩ => ?_⟩
  refine (ps_par hc hN hi hj hij hx hy da hw).run pins s σ H D I ⟨m, h, ρ, S, sl, (PSV.th sl p).imp fun ws h1 m1 H1 S1 G1 p1 vs r => ?_⟩
  split at p1
  · unfold reps at r
    obtain ⟨v, t, rfl, r1, r⟩ := r
    unfold reps at r
    obtain ⟨w, t, rfl, r2, r⟩ := r
    unfold reps at r
    subst r
    exact ⟨v, w, rfl, p1 m1 H1 S1 Go.refl _ (((sl.go G1).set i r1).set j r2)⟩
  · exact p1.elim
theorem ds_par3 {i j l : Nat} {x y z : Str} {a b c : Expr} {px py pz pt pos : Pos} {kt k2 pt2} (hc : X.calm = true) (hN : X.N.Nodup) (hi : X.N[i]? = some x) (hj : X.N[j]? = some y) (hl : X.N[l]? = some z) (hij : i ≠ j) (hil : i ≠ l) (hjl : j ≠ l) (hx : X.env.scope.names.lookup x = some .local) (hy : X.env.scope.names.lookup y = some .local) (hz : X.env.scope.names.lookup z = some .local)
    (da : DA B Wx X [a, b, c] fa) (hw : swappedStores [.Tuple [.Name x px, .Name y py, .Name z pz] kt pt] (.Tuple [a, b, c] k2 pt2) X.env = pure (some [x, y, z])) : DS B Wx X (.Assign [.Tuple [.Name x px, .Name y py, .Name z pz] kt pt] (.Tuple [a, b, c] k2 pt2) pos) (sPar3 i j l fa) := by
  refine ⟨fun pins s σ H D I ⟨m, h, ρ, S, sl, p⟩ => ?_⟩
  refine (ps_par3 hc hN hi hj hl hij hil hjl hx hy hz da hw).run pins s σ H D I ⟨m, h, ρ, S, sl, (PSV.th sl p).imp fun ws h1 m1 H1 S1 G1 p1 vs r => ?_⟩
  split at p1
  · unfold reps at r
    obtain ⟨u, t, rfl, r0, r⟩ := r
    unfold reps at r
    obtain ⟨v, t, rfl, r1, r⟩ := r
    unfold reps at r
    obtain ⟨w, t, rfl, r2, r⟩ := r
    unfold reps at r
    subst r
    exact ⟨u, v, w, rfl, p1 m1 H1 S1 Go.refl _ ((((sl.go G1).set i r0).set j r1).set l r2)⟩
  · exact p1.elim
theorem fresh_asg {m : List Addr} {H : Hp} {h : Store} {ρ : Rho} {σ : St} {D : Ends} {i : Nat} (sl : slots B m H ρ σ) (p : PSV B m H (sAsg (cFresh fa) (gNm i) ρ h) (ksOf B Wx D)) :
    PV B m H (fa ρ h) (fun ws _ m' H' => ∀ a vs, H' a = some (.lst vs) → a ∉ m' → H a = none → reps B m' H' ws vs → gName i (.ref a) σ H' D.nx) (XS B Wx σ) := by
  unfold sAsg cFresh at p
  cases z : fa ρ h with
  | ok ws h1 =>
    rw [z] at p
    refine fun m1 H1 S1 G1 a vs ha hm hn r => ?_
    have G2 := G1.name hn
    refine p (m1 ++ [a]) H1 (S1.name ha hm r) G2 _ ((sl.go G2).set i ?_)
    unfold rep
    exact ⟨a, rfl, by rw [List.getElem?_append_right (by rw [S1.len]; exact Nat.le_refl _), S1.len, Nat.sub_self]; rfl⟩
  | exc x h1 =>
    rw [z] at p
    exact fun m1 H1 S1 G1 cls d r => p m1 H1 S1 G1 σ cls d (sl.go G1) r
  | bad =>
    rw [z] at p
    exact p.elim
/-- name = [..] where the store is exchanged with the comprehension's own -/
theorem ds_setLc {i : Nat} {y : Str} {py : Pos} {elt tg iter : Expr} {ifs : List Expr} {scope : Scope} {own : List (Str × Nat)} {pos spos : Pos} {fi : DenI} {T : Tgt} {tt : DenT} {te : Den} (hc : X.calm = true) (hN : X.N.Nodup) (hy : X.N[i]? = some y) (hyl : X.env.scope.names.lookup y = some .local)
    (hsw : swapsWith (.ListComp elt [⟨tg, iter, ifs, 0⟩] scope pos) (some (.Name y py)) spos.line X.env = pure true) (hi : DI B Wx X tg iter fi) (ok : BlkOk X.N X.env.scope scope own) (hT : ∀ i ∈ T.slots, i ∈ own.map (·.2))
    (hg : ∀ (s : Shared) (H : Hp) (C : Addr) (cl : List (Str × Addr)) (fp : List Addr), DG B (X.blk s H scope (compEnvC scope cl C X.env) fp) tg T)
    (ht : ∀ (s : Shared) (H : Hp) (C : Addr) (cl : List (Str × Addr)) (fp : List Addr), DTs B WF0 (X.blk s H scope (compEnvC scope cl C X.env) fp) ifs tt)
    (he : ∀ (s : Shared) (H : Hp) (C : Addr) (cl : List (Str × Addr)) (fp : List Addr), DE B WF0 (X.blk s H scope (compEnvC scope cl C X.env) fp) elt te)
    (hs : ∀ x, foldedSetIterable iter X.env x = pure x) : DS B Wx X (.Assign [.Name y py] (.ListComp elt [⟨tg, iter, ifs, 0⟩] scope pos) spos) (sAsg (cFresh (cComp fi (own.map (·.2)) T tt te)) (gNm i)) := by
  refine ⟨fun pins s σ H D I ⟨m, h, ρ, S, sl, p⟩ => ?_⟩
  refine (ps_setLc hc hN hy hyl hsw hi ok hg ht he hs).run pins s σ H D I (lc_read (Wx := Wx) hT ⟨m, h, ρ, S, sl, ?_⟩)
  exact fresh_asg sl p
theorem ds_setLc2 {i : Nat} {y : Str} {py : Pos} {elt tg iter tg1 iter1 : Expr} {ifs ifs1 : List Expr} {scope : Scope} {own : List (Str × Nat)} {vs1 : List Nat} {pos spos : Pos} {fi fi1 : DenI} {T T1 : Tgt} {tt tt1 : DenT} {te : Den} (hc : X.calm = true) (hN : X.N.Nodup) (hy : X.N[i]? = some y) (hyl : X.env.scope.names.lookup y = some .local)
    (hsw : swapsWith (.ListComp elt [⟨tg, iter, ifs, 0⟩, ⟨tg1, iter1, ifs1, 0⟩] scope pos) (some (.Name y py)) spos.line X.env = pure true) (hi : DI B Wx X tg iter fi) (ok : BlkOk X.N X.env.scope scope own) (hT : ∀ i ∈ T.slots, i ∈ own.map (·.2)) (hT1 : ∀ i ∈ T1.slots, i ∈ vs1) (hv1 : ∀ i ∈ vs1, i ∈ own.map (·.2))
    (hg : ∀ (s : Shared) (H : Hp) (C : Addr) (cl : List (Str × Addr)) (fp : List Addr), DG B (X.blk s H scope (compEnvC scope cl C X.env) fp) tg T)
    (ht : ∀ (s : Shared) (H : Hp) (C : Addr) (cl : List (Str × Addr)) (fp : List Addr), DTs B WF0 (X.blk s H scope (compEnvC scope cl C X.env) fp) ifs tt)
    (hi1 : ∀ (s : Shared) (H : Hp) (C : Addr) (cl : List (Str × Addr)) (fp : List Addr), DI B WF0 (X.blk s H scope (compEnvC scope cl C X.env) fp) tg1 iter1 fi1)
    (hg1 : ∀ (s : Shared) (H : Hp) (C : Addr) (cl : List (Str × Addr)) (fp : List Addr), DG B (X.blk s H scope (compEnvC scope cl C X.env) fp) tg1 T1)
    (ht1 : ∀ (s : Shared) (H : Hp) (C : Addr) (cl : List (Str × Addr)) (fp : List Addr), DTs B WF0 (X.blk s H scope (compEnvC scope cl C X.env) fp) ifs1 tt1)
    (he : ∀ (s : Shared) (H : Hp) (C : Addr) (cl : List (Str × Addr)) (fp : List Addr), DE B WF0 (X.blk s H scope (compEnvC scope cl C X.env) fp) elt te)
    (hs : ∀ x, foldedSetIterable iter X.env x = pure x) (hs1 : ∀ env x, foldedSetIterable iter1 env x = pure x) : DS B Wx X (.Assign [.Name y py] (.ListComp elt [⟨tg, iter, ifs, 0⟩, ⟨tg1, iter1, ifs1, 0⟩] scope pos) spos) (sAsg (cFresh (cComp2 fi (own.map (·.2)) T tt fi1 vs1 T1 tt1 te)) (gNm i)) := by
  refine ⟨fun pins s σ H D I ⟨m, h, ρ, S, sl, p⟩ => ?_⟩
  refine (ps_setLc2 hc hN hy hyl hsw hi ok hv1 hg ht hi1 hg1 ht1 he hs hs1).run pins s σ H D I (lc2_read (Wx := Wx) hT hT1 ⟨m, h, ρ, S, sl, ?_⟩)
  exact fresh_asg sl p
end

/-! ### methods of lists -/
def lstRef (h : Store) : W → Option Nat
  | .ref n => (lst? h n).map fun _ => n
  | _ => none
def cApp (fo fe : Den) : Den := fun ρ h => (fo ρ h).bind fun o h1 => match lstRef h1 o with
  | some n => (fe ρ h1).bind fun w h2 => (match own? h2 n with
    | some ws => if ws.length < 16777216 then .ok .non (h2.set n (.lst (ws ++ [w]))) else .bad
    | none => .bad)
  | none => .bad
/-- the place of the first equal item -/
def firstEq (d : PyData) : List PyData → Option Nat
  | [] => none
  | z :: ds => if PyData.eqv z d = true then some 0 else (firstEq d ds).map (· + 1)
theorem firstEq_ok {d : PyData} : ∀ {ds : List PyData} {j : Nat}, firstEq d ds = some j → (∃ z, ds[j]? = some z ∧ PyData.eqv z d = true) ∧ ∀ (m : Nat) (z' : PyData), m < j → ds[m]? = some z' → PyData.eqv z' d = false
  | [], j, e => by unfold firstEq at e; cases e
  | z :: ds, j, e => by
    unfold firstEq at e
    by_cases c : PyData.eqv z d = true
    · rw [if_pos c] at e
      cases e
      exact ⟨⟨z, rfl, c⟩, fun m z' h => absurd h (Nat.not_lt_zero m)⟩
    · rw [if_neg c] at e
      cases q : firstEq d ds with
      | none => rw [q] at e; cases e
      | some k =>
        rw [q] at e
        cases e
        obtain ⟨⟨y, h1, h2⟩, h3⟩ := firstEq_ok q
        refine ⟨⟨y, by simpa using h1, h2⟩, fun m z' hm hz => ?_⟩
        cases m with
        | zero =>
          have z2 : z = z' := by simpa using hz
          subst z2
          exact Bool.eq_false_iff.mpr c
        | succ m => exact h3 m z' (Nat.lt_of_succ_lt_succ hm) (by simpa using hz)
def cIndex (fo fe : Den) : Den := fun ρ h => (fo ρ h).bind fun o h1 => match lstRef h1 o with
  | some n => (fe ρ h1).bind fun w h2 => (match pyd h2 (.ref n), pyd h2 w with
    | some (.list ds), some d => (match firstEq d ds with
      | some j => .ok (.int (j : Nat)) h2
      | none => .bad)
    | _, _ => .bad)
  | none => .bad
section
variable {B : Base} {Wx : WX} {X : Cx} {o e : Expr} {fo fe : Den} {apos cpos : Pos}
/-- the side of a method's call: the receiver is no call, one line -/
structure MthOk (X : Cx) (o e : Expr) (name : Str) (apos cpos : Pos) : Prop where
  base : attributeBase o name X.env (eval o X.env) = eval o X.env
  few : ((backTo cpos (starEach [e] X.env)).all (fun x => !x.1) && (backToKw cpos (keywordEach [] X.env)).all (fun x => x.1.isSome) && decide ([e].length + ([] : List Keyword).length + (if ([] : List Keyword).isEmpty then 0 else 1) < 30)) = true
  line : (apos.endLine == cpos.line) = true
  star : isStar e = false
theorem lstRef_ok {m : List Addr} {H : Hp} {h : Store} {w : W} {v : V} {n : Nat} (S : Sim B m h H) (r : rep B m H w v) (e : lstRef h w = some n) : ∃ a, w = .ref n ∧ v = .ref a ∧ m[n]? = some a ∧ tyV B.K "list" v H := by
  cases w with
  | ref k =>
    obtain ⟨a, rfl, ha⟩ := r.ref_
    cases z : lst? h k with
    | none => simp only [lstRef, z, Option.map_none] at e; cases e
    | some ws =>
      simp only [lstRef, z, Option.map_some] at e
      cases e
      obtain ⟨vs, q, _⟩ := lst_at S ha z
      exact ⟨a, rfl, rfl, ha, .inl ⟨rfl, vs, q⟩⟩
  | _ => unfold lstRef at e; cases e
theorem de_app (hK : X.K = B.K) (M : MthOk X o e "append" apos cpos) (d1 : DE B Wx X o fo) (d2 : DE B Wx X e fe) : DE B Wx X (.Call (.Attribute o "append" apos) [e] [] cpos) (cApp fo fe) := by
  refine ⟨fun pins s σ H Q I ⟨m, h, ρ, S, sl, p⟩ => ?_⟩
  refine (pe_bm PySem.F.plainAttrs_list PySem.F.slot_list_append PySem.F.type_list_append mt_append d1 (pa_cons d2 pa_nil (starEach_cons M.star)) M.base M.few M.line (starEach_cons M.star) rfl).run pins s σ H Q I ⟨m, h, ρ, S, sl, p.bind.imp fun wo h1 m1 H1 S1 G1 p1 v r => ?_⟩
  cases z : lstRef h1 wo with
  | none => rw [z] at p1; exact p1.elim
  | some n =>
    rw [z] at p1
    dsimp only at p1
    obtain ⟨a, rfl, rfl, ha, ty⟩ := lstRef_ok S1 r z
    refine ⟨by rw [hK]; exact ty, m1, h1, ρ, S1, sl.go G1, p1.bind.imp fun w h2 m2 H2 S2 G2 p2 u ru => ?_⟩
    cases y : own? h2 n with
    | none => rw [y] at p2; exact p2.elim
    | some ws =>
      rw [y] at p2
      dsimp only at p2
      obtain ⟨a2, e2, ha2⟩ := (G2.rep r).ref_
      cases e2
      obtain ⟨vs, ea, ra⟩ := own_at S2 ha2 y
      by_cases c : ws.length < 16777216
      · rw [if_pos c] at p2
        have G3 : Go m2 H2 m2 (upd H2 a (.lst (vs ++ [u]))) := Go.put S2 ha2
        exact ⟨a, vs, u, rfl, rfl, ea, by rw [sizeLine_eq, ← ra.length]; exact c, p2 m2 _ (S2.put ha2 ⟨_, upd_same, G3.reps (ra.append (.cons ru .nil))⟩) G3 _ .non⟩
      · rw [if_neg c] at p2
        exact p2.elim
theorem de_index (hK : X.K = B.K) (hu : X.A.units + 65 < cLine) (M : MthOk X o e "index" apos cpos) (d1 : DE B Wx X o fo) (d2 : DE B Wx X e fe) : DE B Wx X (.Call (.Attribute o "index" apos) [e] [] cpos) (cIndex fo fe) := by
  refine ⟨fun pins s σ H Q I ⟨m, h, ρ, S, sl, p⟩ => ?_⟩
  refine (pe_bm PySem.F.plainAttrs_list PySem.F.slot_list_index PySem.F.type_list_index (mt_indexD hu) d1 (pa_cons d2 pa_nil (starEach_cons M.star)) M.base M.few M.line (starEach_cons M.star) rfl).run pins s σ H Q I ⟨m, h, ρ, S, sl, p.bind.imp fun wo h1 m1 H1 S1 G1 p1 v r => ?_⟩
  cases z : lstRef h1 wo with
  | none => rw [z] at p1; exact p1.elim
  | some n =>
    rw [z] at p1
    dsimp only at p1
    obtain ⟨a, rfl, rfl, ha, ty⟩ := lstRef_ok S1 r z
    refine ⟨by rw [hK]; exact ty, m1, h1, ρ, S1, sl.go G1, p1.bind.imp fun w h2 m2 H2 S2 G2 p2 u ru => ?_⟩
    split at p2
    · rename_i ds d q1 q2
      cases y : firstEq d ds with
      | none => rw [y] at p2; exact p2.elim
      | some j =>
        rw [y] at p2
        obtain ⟨a1, a2⟩ := pyd_dp S2 (G2.rep r) q1
        obtain ⟨b1, b2⟩ := pyd_dp S2 ru q2
        obtain ⟨⟨y1, y2, y3⟩, y4⟩ := firstEq_ok y
        exact ⟨a, u, d, ds, j, y1, rfl, rfl, by rw [hK]; exact a1, by rw [hK]; exact b1, a2, b2, y2, y3, y4, p2.here S2 _ (.int _)⟩
    · exact p2.elim
end
end Wv
end
section
set_option Elab.async false
set_option linter.all false
set_option maxRecDepth 100000
set_option maxHeartbeats 4000000
/-! Core L of ours: try, the first clause catches. -/
namespace Wv
open PySem PySem.Spec L2
open PyProof.Rows hiding St

section
variable {X : Cx} {x : Str} {c : Value} {body suite : List Stmt} {b0 : Stmt} {np pos pos' : Pos} {rest : List ExceptHandler} {tb : WX → TS} {ts : Addr → Value → Option Addr → TS} {Wout : WX}
/-- what the first clause wishes of an exception -/
def wFirst (K : PySem.W.Frag) (c : Value) (ts : Addr → Value → Option Addr → TS) (D : Ends) : WX := fun cls d σ H => PySem.W.exmOne K cls c = some true ∧ ∀ a, H a = none → ts a cls d D σ H
theorem ps_try_first (hs : X.stack = X.env :: X.outer) (hf : X.env.frame = some X.env.locals) (hc : Names X x c)
    (hb : ∀ (W : WX) (pn : List (Addr × Obj)) (xe : Value → Shared → Prop), Takes (X.tr pn xe) W → PassesOwn (model X.prog X.w) X.A X.env xe → PSs (X.tr pn xe) body (tb W))
    (hsu : ∀ (a : Addr) (oe : Obj) (cls : Value) (d : Option Addr) (pn : List (Addr × Obj)), Zc cls d oe → (∃ vs, oe.data = .fields vs) → PSs (X.suite a ((a, oe) :: pn)) (b0 :: suite) (ts a cls d)) :
    PS X (.Try body (.ExceptHandler (some (.Name x np)) none (b0 :: suite) pos' :: rest) [] [] pos) (fun D σ H => tb (wFirst X.K c ts D) D σ H) := by
  refine ⟨fun pins s σ H D I h => ?_⟩
  have ok := I.ok
  have hfr : X.A.frames = some (X.env :: X.outer) := by rw [ok.frames, hs]
  refine wpAny_Try_except ?_
  refine wpAny_mono ((hb (wFirst X.K c ts D) (X.pn ++ pins) (fun e s1 => wpAny (model X.prog X.w) X.A (noteFrame e X.env) (fun _ s2 => wpAny (model X.prog X.w) X.A (setFlight e none) (fun _ s3 =>
    wpAny (model X.prog X.w) X.A (handleBy e X.env (.ExceptHandler (some (.Name x np)) none (b0 :: suite) pos' :: rest)) (SP X pins D) X.xe s3) X.xe s2) X.xe s1) (fun u s' xx => ?_) PassesOwn.looking).run [] s σ H D (I.toTry _) h) (fun f s1 hsp => ?_) (fun _ _ z => z)
  · obtain ⟨a, G, sI, ps2, σ2, H2, cls, d, rfl, J2, nb, up, sky, na, os, ag, hw, hsuite⟩ := xx
    have J : Inv X pins σ2 H2 sI := J2.ofTry ok
    rw [hs] at sky
    show wpAny (model X.prog X.w) X.A (noteFrame (.ref a) X.env) _ _ _
    refine Sky.land Zc.steady hfr hf sky fun h3 fl up3 => ?_
    have J3 : Inv X pins σ2 H2 { s' with heap := h3 } := J.landed nb fl.1 (up.trans up3) os ag
    obtain ⟨oe, fs, he, hz, hd⟩ := fl.there
    have out : a ∉ frs (X.env :: X.outer) := fun hm => by
      obtain ⟨_, o2, e2, hno⟩ := fl.2.2.1.mem hm
      rw [he] at e2
      cases e2
      exact hno _ hd
    have nL : a ≠ X.env.locals := fun z => out (List.mem_filterMap.mpr ⟨X.env, List.mem_cons_self, by rw [hf, z]⟩)
    have nF : a ∉ X.fs := fun hm => by
      obtain ⟨e2, m2, q2⟩ := List.mem_filterMap.mp hm
      exact out (List.mem_filterMap.mpr ⟨e2, List.mem_cons_of_mem _ m2, q2⟩)
    have S3 := J3.suite he hd na nL nF
    refine wpAny_handleBy_cons (codeAny_handlers_test ?_) (by intro q; cases q)
    have LT : PySem.W.Looks (model X.prog X.w) h3 (typeOf (.ref a)) cls := fun A Q E s k q => wpAny_typeOf_ref (k _ _ he) (by rw [hz.1]; exact q)
    have LM := PySem.W.exm_one (M := model X.prog X.w) J3.kIn LT hw
    have ask : ∀ {Q : Value → Shared → Prop} {E : Value → Shared → Prop}, Q c { s' with heap := h3 } → wpAny (model X.prog X.w) (X.A.mark (some (.ref a))) (eval (.Name x np) X.env) Q E { s' with heap := h3 } := fun {Q E} q => by
      obtain ⟨g1, g2, g3 | ⟨g3, g4, g5⟩⟩ := hc
      · exact ld_glob (X := X.suite a ((a, oe) :: (X.pn ++ pins))) S3 g1 g3 q g2
      · exact ld_blt (X := X.suite a ((a, oe) :: (X.pn ++ pins))) S3 g1 g3 g4 q g5 g2
    refine ask (LM.here ?_)
    refine codeAny_handlers_suite ?_
    refine HandSPX.lands_againZ fl fun h4 fl4 up4 => ?_
    have J4 : Inv X pins σ2 H2 { s' with heap := h4 } := J.landed nb fl4.1 ((up.trans up3).trans up4) os ag
    obtain ⟨oe4, fs4, he4, hz4, hd4⟩ := fl4.there
    have S4 := J4.suite he4 hd4 na nL nF
    refine wpAny_mono ((hsu a oe4 cls d (X.pn ++ pins) hz4 ⟨_, hd4⟩).run [] _ _ H2 _ S4 (hsuite a na)) (fun f s6 q6 => ?_) (fun _ _ z => False.elim z)
    cases f with
    | ret u =>
      obtain ⟨v, σ6, H6, T6, r6, z6⟩ := q6
      exact ⟨v, σ6, H6, T6.unsuite ok, r6, z6⟩
    | next =>
      obtain ⟨σ6, H6, T6, z6⟩ := q6
      exact ⟨σ6, H6, T6.unsuite ok, z6⟩
    | brk =>
      obtain ⟨σ6, H6, T6, z6⟩ := q6
      exact ⟨σ6, H6, T6.unsuite ok, z6⟩
    | cont =>
      obtain ⟨σ6, H6, T6, z6⟩ := q6
      exact ⟨σ6, H6, T6.unsuite ok, z6⟩
  · cases f with
    | ret u =>
      obtain ⟨v, σ6, H6, T6, r6, z6⟩ := hsp
      exact ⟨v, σ6, H6, T6.ofTry ok, r6, z6⟩
    | next =>
      obtain ⟨σ6, H6, T6, z6⟩ := hsp
      exact wpAny_execs_nil ⟨σ6, H6, T6.ofTry ok, z6⟩
    | brk =>
      obtain ⟨σ6, H6, T6, z6⟩ := hsp
      exact ⟨σ6, H6, T6.ofTry ok, z6⟩
    | cont =>
      obtain ⟨σ6, H6, T6, z6⟩ := hsp
      exact ⟨σ6, H6, T6.ofTry ok, z6⟩
end
/-- is the raised class caught by the clause's? exc: the raised, c: the clause's -/
abbrev Catch := Str → Str → Option Bool
def sTry (ct : Catch) (c : Str) (body suite : DenS) : DenS := fun ρ h => match body ρ h with
  | .exc e ρ2 h2 => (match ct e.cls c with
    | some true => (match suite ρ2 h2 with
      | .exc _ _ _ => .bad
      | o => o)
    | _ => .bad)
  | o => o
/-- class names, their match in the written part -/
def CatchOk (B : Base) (ct : Catch) : Prop := ∀ e c b, ct e c = some b → ∀ E C : Addr, B.G e = some (.ref E) → B.G c = some (.ref C) → PySem.W.exmOne B.K (.ref E) (.ref C) = some b
section
variable {B : Base} {Wx : WX} {X : Cx}
theorem ds_try (hK : X.K = B.K) (hs : X.stack = X.env :: X.outer) (hf : X.env.frame = some X.env.locals) {ct : Catch} (hct : CatchOk B ct) {x : Str} {C : Addr} (hC : B.G x = some (.ref C)) (hc : Names X x (.ref C)) {body suite : List Stmt} {b0 : Stmt} {np pos pos' : Pos} {rest : List ExceptHandler} {f g : DenS}
    (hb : ∀ (W : WX) (pn : List (Addr × Obj)) (xe : Value → Shared → Prop), Takes (X.tr pn xe) W → PassesOwn (model X.prog X.w) X.A X.env xe → DSs B W (X.tr pn xe) body f)
    (hsu : ∀ (a : Addr) (pn : List (Addr × Obj)), DSs B WF0 (X.suite a pn) (b0 :: suite) g) :
    DS B Wx X (.Try body (.ExceptHandler (some (.Name x np)) none (b0 :: suite) pos' :: rest) [] [] pos) (sTry ct x f g) := by
  refine ⟨fun pins s σ H D I ⟨m, h, ρ, S, sl, p⟩ => ?_⟩
  refine (ps_try_first (tb := fun W => tDS B W f) (ts := fun _ _ _ => tDS B WF0 g) hs hf hc hb (fun a oe cls d pn _ _ => hsu a ((a, oe) :: pn))).run pins s σ H D I ⟨m, h, ρ, S, sl, ?_⟩
  unfold sTry at p
  cases z : f ρ h with
  | exc e ρ2 h2 =>
    rw [z] at p
    dsimp only at p
    refine fun m2 H2 S2 G2 σ2 cls d sl2 re => ?_
    obtain ⟨⟨E, hE, rfl⟩, _⟩ := re
    cases y : ct e.cls x with
    | none => rw [y] at p; exact p.elim
    | some b =>
      rw [y] at p
      cases b with
      | false => exact p.elim
      | true =>
        refine ⟨by rw [hK]; exact hct _ _ _ y E C hE hC, fun a ha => ⟨m2, h2, ρ2, S2, sl2, ?_⟩⟩
        dsimp only at p
        cases y2 : g ρ2 h2 with
        | exc e3 ρ3 h3 => rw [y2] at p; exact p.elim
        | bad => rw [y2] at p; exact p.elim
        | next ρ3 h3 => rw [y2] at p; exact PSV.mono (o := .next ρ3 h3) p G2
        | ret w h3 => rw [y2] at p; exact PSV.mono (o := .ret w h3) p G2
        | brk ρ3 h3 => rw [y2] at p; exact PSV.mono (o := .brk ρ3 h3) p G2
        | cont ρ3 h3 => rw [y2] at p; exact PSV.mono (o := .cont ρ3 h3) p G2
  | bad =>
    rw [z] at p
    exact p.elim
  | _ =>
    rw [z] at p
    exact p
end
end Wv
end
section
set_option Elab.async false
set_option linter.all false
set_option maxRecDepth 100000
set_option maxHeartbeats 4000000
/-! Core Lb of ours: t[::-1] of a tuple. -/
namespace Wv
open PySem PySem.Spec L2 HT
open PyProof.Rows hiding St

section
variable {prog : Program} {w : World} {A : Around} {E : Value → Shared → Prop} {s : Shared}
theorem places_back (n : Nat) : Builtin.Slice.slicePlaces ((n : Int) - 1) (-1) (-1) = n := by
  unfold Builtin.Slice.slicePlaces
  rw [if_neg (by omega)]
  by_cases hn : n = 0
  · subst hn
    simp
  · have z : (-1 : Int) < (n : Int) - 1 := by omega
    rw [if_pos (by simpa using z), show -(-1 : Int) = 1 from rfl, Int.ediv_one]
    omega
theorem applied_back {sl : Addr} {n : Nat} {vl vu vs : Value} {Q : Int × Int × Nat → Shared → Prop} (hs : s.heap.IsSliceOf sl vl vu vs) (pl : IsPart vl none) (pu : IsPart vu none) (ps : IsPart vs (some (-1))) (h : Q ((n : Int) - 1, -1, n) s) : wpAny (model prog w) A (Builtin.Slice.sliceApplied (.ref sl) (pure (n : Int))) Q E s := by
  obtain ⟨os, hos, hcs, hds⟩ := id hs
  unfold Builtin.Slice.sliceApplied Builtin.Slice.sliceFields
  refine wpAny_bind (wpAny_bind (wpAny_field hos hds (x := vl) rfl (wpAny_bind (wpAny_field hos hds (x := vu) rfl (wpAny_bind (wpAny_field hos hds (x := vs) rfl (wpAny_pure ?_)))))))
  refine wpAny_bind (slicePart_ ps ?_); show wpAny _ _ (if ((-1 : Int) == 0) = true then _ else _) _ _ s
  rw [if_neg (by decide)]
  refine wpAny_bind (slicePart_ pl (wpAny_bind (slicePart_ pu (wpAny_bind (wpAny_pure ?_)))))
  have e : Builtin.Slice.sliceAdjust none none (-1) (n : Int) = ((n : Int) - 1, -1) := by
    unfold Builtin.Slice.sliceAdjust
    simp
  show wpAny _ _ (match Builtin.Slice.sliceAdjust none none (-1) (n : Int) with | (lo, hi) => pure (lo, (-1 : Int), Builtin.Slice.slicePlaces lo hi (-1))) _ _ s
  rw [e]
  show wpAny _ _ (pure ((n : Int) - 1, (-1 : Int), Builtin.Slice.slicePlaces ((n : Int) - 1) (-1) (-1))) _ _ s
  rw [places_back]; exact wpAny_pure h
theorem pick_back (xs : Array Value) : ((List.range xs.size).filterMap fun (k : Nat) => xs[(((xs.size : Nat) : Int) - 1 + (k : Int) * (-1)).toNat]?) = xs.toList.reverse := by
  have e : ∀ m, m ≤ xs.size → ((List.range m).filterMap fun (k : Nat) => xs[(((xs.size : Nat) : Int) - 1 + (k : Int) * (-1)).toNat]?) = xs.toList.reverse.take m := by
    intro m
    induction m with
    | zero => intro _; simp
    | succ m ih =>
      intro hm
      have z : (((xs.size : Nat) : Int) - 1 + (m : Int) * (-1)).toNat = xs.size - 1 - m := by omega
      rw [List.range_succ, List.filterMap_append, ih (by omega), List.take_add_one, List.getElem?_reverse (by rw [Array.length_toList]; omega)]
      rw [List.filterMap_cons, List.filterMap_nil, z, Array.length_toList, Array.getElem?_toList]
      cases xs[xs.size - 1 - m]? <;> rfl
  have := e xs.size (Nat.le_refl _)
  rw [this, List.take_of_length_le (by simp)]
theorem getItem_tuple_back {t sl : Addr} {items : Array Value} {vl vu vs : Value} {Q : Value → Shared → Prop} (ht : IsTup s.heap t items) (hs : s.heap.IsSliceOf sl vl vu vs) (pl : IsPart vl none) (pu : IsPart vu none) (ps : IsPart vs (some (-1)))
    (h : Q (.ref s.heap.objs.size) { s with heap := s.heap.push { cls := .type "tuple", data := .seq items.toList.reverse.toArray } }) (hsz : items.size ≤ sizeLine) : wpAny (model prog w) A (getItem (.ref t) (.ref sl)) Q E s := by
  have hrev : sizeOk (.seq items.toList.reverse.toArray) := by
    show items.toList.reverse.toArray.size ≤ sizeLine
    simpa using hsz
  obtain ⟨os, hos, hcs, hds⟩ := id hs
  have hTs : s.TypeIs (.ref sl) "slice" := ⟨os, hos, hcs⟩
  unfold getItem
  try with_reducible refine wpAny_holding ?_
  first | refine wpAny_bind (wpAny_pure ?_) | skip
  refine wpAny_bind (wpAny_sequenceKey ht.typeIs (by decide) ?_)
  refine wpAny_bind (wpAny_callSpecial?_slot (name := Str.ofString "__getitem__") ht.typeIs PyProof.Rows.slot_tuple_getitem (wpAny_call_entry PyProof.Rows.slot_tuple_getitem ht.typeIs entry_tuple_getitem ?_ (args_tuple_getitem _ _)))
  show wpAny _ _ (Builtin.Tuple.tupleItemsOf (.ref t) >>= _) _ _ s
  refine wpAny_bind (tupleItemsOf_ ht (wpAny_bind (wpAny_typeOf hTs ?_)))
  rw [if_pos (by decide)]
  refine wpAny_bind (applied_back hs pl pu ps ?_)
  show wpAny _ _ (if (((items.size : Nat) : Int) - 1 == 0 && (-1 : Int) == 1 && items.size == items.size) = true then _ else _) _ _ s
  rw [if_neg (by simp), pick_back]
  first
    | exact wpAny_bind (m := Builtin.Tuple.tupleExact _) (wpAny_newObj_type (wpAny_pure ⟨_, rfl, wpAny_pure h⟩) hrev)
    | exact wpAny_bind (m := Builtin.Tuple.tupleExact _) (wpAny_newObj_type (wpAny_bind (wpAny_pure (wpAny_pure ⟨_, rfl, wpAny_pure h⟩))) hrev)
    | exact wpAny_bind (wpAny_bind (m := Builtin.Tuple.tupleExact _) (wpAny_newObj_type (wpAny_pure (wpAny_pure ⟨_, rfl, wpAny_pure h⟩)) hrev))
    | exact wpAny_bind (wpAny_bind (m := Builtin.Tuple.tupleExact _) (wpAny_newObj_type (wpAny_pure ⟨_, rfl, wpAny_pure h⟩) hrev))
end
def cRev (f : Den) : Den := fun ρ h => (f ρ h).bind fun w h1 => match w with
  | .tup ws => .ok (.tup ws.reverse) h1
  | _ => .bad
theorem de_rev {B : Base} {Wx : WX} {X : Cx} (hK : X.K = B.K) {e : Expr} {f : Den} {k : Nat} {p1 p2 p3 pos : Pos} (d : DE B Wx X e f) : DE B Wx X (.Subscript e (.Slice none none (some (.UnaryOp .USub (.Constant (.int 1) k p1) p2)) p3) pos) (cRev f) := by
  refine ⟨fun pins s σ H Q I ⟨m, h, ρ, S, sl, p⟩ => ?_⟩
  refine Subscript_ (d.run I S sl p.bind fun v u s1 w h1 m1 H1 I1 r1 S1 G1 q1 pv => ?_)
  cases w with
  | tup ws =>
    obtain ⟨a, xs, rfl, qa, ra⟩ := q1.tup_
    rw [← hK] at qa
    cases r1
    have part : L2.PO X (some (.UnaryOp .USub (.Constant (.int 1) k p1) p2)) (tPart (tUn (rU fun i => .int (-i)) (tC (.int 1)))) := po_some (pe_un un_neg pe_int)
    refine wpAny_Slice (thn (po_none.run pins s1 σ H1 (fun o H2 => o = none ∧ H2 = H1) I1 ⟨rfl, rfl⟩) fun vl s2 ⟨l, H2, I2, pl, el, e2⟩ => ?_)
    subst el e2
    refine thn (po_none.run pins s2 σ H2 (fun o H3 => o = none ∧ H3 = H2) I2 ⟨rfl, rfl⟩) fun vu s3 ⟨l2, H3, I3, pu, eu, e3⟩ => ?_
    subst eu e3
    refine thn (part.run pins s3 σ H3 (fun o H4 => o = some (-1) ∧ H4 = H3) I3 ⟨1, rfl, -1, rfl, rfl, rfl⟩) fun vs s4 ⟨o, H4, I4, ps, eo, e4⟩ => ?_
    subst eo e4
    have I5 : Inv X pins σ H4 { s4 with heap := s4.heap.push { cls := .type "slice", data := .fields #[vl, vu, vs] } } := I4.kept (t' := s4.toks) fun b ob q => Heap.get?_push_of_some _ q
    obtain ⟨its, r, ht, hz⟩ := I5.tuple qa
    have hlen := r.length
    show wpAny (model X.prog X.w) X.A (subscriptTail e (.Slice none none (some (.UnaryOp .USub (.Constant (.int 1) k p1) p2)) p3) (.ref a) (.ref s4.heap.objs.size)) (EP X pins σ Q) X.xe { s4 with heap := s4.heap.push { cls := .type "slice", data := .fields #[vl, vu, vs] } }
    refine tail_any (ops := [.ref a, .ref s4.heap.objs.size]) ht.typeIs (PyProof.Rows.slot_tuple_getitem.lookup) ?_ (by with_unfolding_all rfl)
    refine getItem_tuple_back ht (Heap.IsSliceOf.new _ vl vu vs) pl pu ps ?_ (by rw [List.size_toArray]; omega)
    refine ⟨.ref _, _, I5.laid (t' := s4.toks) (o := .tup xs.reverse) (fun b ob q => Heap.get?_push_of_some _ q) (Nat.le_refl _) ?_, rfl, ?_⟩
    · exact ⟨by rw [List.length_reverse]; exact hz, its.reverse, r.reverse, by first | exact IsTup.new _ _ | exact ⟨_, Heap.get?_push_size _ rfl, rfl, _, rfl⟩⟩
    · have hf : H4 s4.heap.objs.size = none := I4.hok.fresh (Nat.le_refl _)
      have hf2 := I5.hok.fresh (Nat.le_refl _)
      exact (PO.of (E := XS B Wx σ) (show PV B m1 H4 (Out.of (some (.tup ws.reverse, h1))) (QE B Q) (XS B Wx σ) from pv)).tup rfl S1 ra.reverse hf2
  | _ => exact pv.elim
end Wv
end
section
set_option Elab.async false
set_option linter.all false
set_option maxRecDepth 100000
set_option maxHeartbeats 4000000
/-! Core M of ours: one evaluator for the written bodies, and its looks. -/
namespace Wv
open PySem PySem.Spec L2
open PyProof.Rows hiding St

/-- what the names mean where a text stands -/
structure Gam where
  sc : Scope
  mine : Str → Bool
structure Setup where
  N : List Str
  defs : Str → Option Nat
  cst : Str → Option W
  free : Str → Bool
  exc : Str → Bool
  cls : Str → Bool
  ct : Catch
  big : Bool
  call : CallT
def kOf (Γ : Gam) (x : Str) : Option NameKind := Γ.sc.names.lookup x
def isGl (Γ : Gam) (x : Str) : Bool := decide (kOf Γ x = some .globalImplicit) && !(x == ("__debug__" : Str))
def isVis (Γ : Gam) (x : Str) : Bool := (match kOf Γ x with
  | some .local => true
  | some .cell => true
  | some .free => true
  | _ => false) && (!(x == ("__debug__" : Str)) && !(x == ("__classdict__" : Str)))
def isLoc (Γ : Gam) (x : Str) : Bool := decide (kOf Γ x = some .local)
def isTg (Γ : Gam) (x : Str) : Bool := match kOf Γ x with
  | some .local => true
  | some .cell => Γ.mine x
  | _ => false
def place (x : Str) : List Str → Option Nat
  | [] => none
  | y :: l => if y = x then some 0 else (place x l).map (· + 1)
def slotOf (U : Setup) (Γ : Gam) (x : Str) : Option Nat := if isVis Γ x = true then place x U.N else none
def isFree (U : Setup) (Γ : Gam) (x : Str) : Bool := isGl Γ x && U.free x
structure Ev where
  E : Gam → Expr → Den
  T : Gam → Expr → DenT
  A : Gam → List Expr → DenA
  L : Gam → Expr → DenA
  I : Gam → Expr → Expr → DenI
  S : Gam → List Stmt → DenS
def evBad : Ev := ⟨fun _ _ => dBad, fun _ _ => dtBad, fun _ _ => daBad, fun _ _ => daBad, fun _ _ _ _ _ => .bad, fun _ _ => sBad⟩

/-! ### targets -/
def tgts (f : Expr → Option Tgt) : List Expr → Option (List Tgt)
  | [] => some []
  | e :: es => match isStar e, f e, tgts f es with
    | false, some t, some ts => some (t :: ts)
    | _, _, _ => none
def tgOf (U : Setup) (Γ : Gam) : Nat → Expr → Option Tgt
  | n + 1, .Name x _ => if isTg Γ x = true then (place x U.N).map .nm else none
  | n + 1, .Tuple es _ _ => (tgts (tgOf U Γ n) es).map .tp
  | _, _ => none
def gsOf (f : Expr → DenG) : List Expr → DenGs
  | [] => gsNil
  | e :: es => if isStar e = true then (fun _ _ _ => .bad) else gsCons (f e) (gsOf f es)
def isSlice : Expr → Bool
  | .Slice _ _ _ _ => true
  | _ => false
def gOf (U : Setup) (r : Ev) (Γ : Gam) : Nat → Expr → DenG
  | n + 1, .Name x _ => if isTg Γ x = true then (match place x U.N with
    | some i => gNm i
    | none => gBad) else gBad
  | n + 1, .Subscript o i _ => if isSlice i = false then gSx (r.E Γ o) (r.E Γ i) else gBad
  | n + 1, .Tuple es _ _ => if es.all (fun e => !isStar e) = true then gTp es.length (gsOf (gOf U r Γ n) es) else gBad
  | _, _ => gBad

/-! ### comprehensions, fresh lists -/
def ownOf (U : Setup) (scope : Scope) : List (Str × Nat) := scope.names.filterMap fun y => match y.2 with
  | .local => (place y.1 U.N).map fun i => (y.1, i)
  | .cell => (place y.1 U.N).map fun i => (y.1, i)
  | _ => none
def inner (Γ : Gam) (scope : Scope) : Gam := ⟨relS scope Γ.sc, fun x => scope.names.lookup x == some .cell⟩
def cTrue : DenT := fun _ h => .ok true h
def ifsOf (r : Ev) (Γ : Gam) : List Expr → DenT
  | [] => cTrue
  | [c] => r.T Γ c
  | _ => dtBad
def isSet : Expr → Bool
  | .Set _ _ _ => true
  | _ => false
noncomputable def comp1 (U : Setup) (r : Ev) (Γ : Gam) (elt : Expr) (scope : Scope) (g : Comprehension) : DenA :=
  let own := ownOf U scope
  let Δ := inner Γ scope
  if blkC U.N Γ.sc scope own = true ∧ isSet g.iter = false then (match tgOf U Δ 5 g.target with
    | some T => if T.slots.all (fun i => (own.map (·.2)).contains i) = true then cComp (r.I Γ g.target g.iter) (own.map (·.2)) T (ifsOf r Δ g.ifs) (r.E Δ elt) else daBad
    | none => daBad) else daBad
noncomputable def comp2 (U : Setup) (r : Ev) (Γ : Gam) (elt : Expr) (scope : Scope) (g g1 : Comprehension) : DenA :=
  let own := ownOf U scope
  let Δ := inner Γ scope
  if blkC U.N Γ.sc scope own = true ∧ isSet g.iter = false ∧ isSet g1.iter = false then (match tgOf U Δ 5 g.target, tgOf U Δ 5 g1.target with
    | some T, some T1 => if T.slots.all (fun i => (own.map (·.2)).contains i) = true ∧ T1.slots.all (fun i => (own.map (·.2)).contains i) = true then
        cComp2 (r.I Γ g.target g.iter) (own.map (·.2)) T (ifsOf r Δ g.ifs) (r.I Δ g1.target g1.iter) T1.slots T1 (ifsOf r Δ g1.ifs) (r.E Δ elt) else daBad
    | _, _ => daBad) else daBad
noncomputable def compO (U : Setup) (r : Ev) (Γ : Gam) (elt : Expr) (scope : Scope) : List Comprehension → DenA
  | [g] => if g.is_async = 0 then comp1 U r Γ elt scope g else daBad
  | [g, g1] => if g.is_async = 0 ∧ g1.is_async = 0 then comp2 U r Γ elt scope g g1 else daBad
  | _ => daBad
def cLst (fa : DenA) : DenA := fun ρ h => (fa ρ h).bind fun ws h1 => if ws.length ≤ 16777216 then .ok ws h1 else .bad
def isL (U : Setup) (Γ : Gam) : Expr → Bool
  | .ListComp _ _ _ _ => true
  | .List _ _ => true
  | .Call (.Name x _) [e] [] _ => x == ("list" : Str) && isFree U Γ x && !isStar e
  | _ => false
def qE (U : Setup) (r : Ev) (Γ : Gam) (e : Expr) : DenQ := if isL U Γ e = true then cSeqF (r.L Γ e) else cSeqV (r.E Γ e)
noncomputable def lE (U : Setup) (r : Ev) (Γ : Gam) : Expr → DenA
  | .ListComp elt gens scope _ => compO U r Γ elt scope gens
  | .List es _ => cLst (r.A Γ es)
  | .Call (.Name x _) [e] [] _ => if (x == ("list" : Str) && isFree U Γ x && !isStar e) = true then cListQ (qE U r Γ e) else daBad
  | _ => daBad

/-! ### what is walked -/
def isTupE : Expr → Bool
  | .Tuple _ _ _ => true
  | _ => false
def iPl (U : Setup) (r : Ev) (Γ : Gam) (e : Expr) : DenI := if isL U Γ e = true then cItF (r.L Γ e) else cItV (r.E Γ e)
def iE (U : Setup) (r : Ev) (Γ : Gam) (tg : Expr) : Expr → DenI
  | .Call (.Name x p) [a] [] pos => if isFree U Γ x = true ∧ isStar a = false then (if x = "range" then cItR rng1 (r.A Γ [a]) else if x = "enumerate" ∧ isTupE tg = true then cItS enumOf (r.A Γ [a]) else iPl U r Γ (.Call (.Name x p) [a] [] pos)) else iPl U r Γ (.Call (.Name x p) [a] [] pos)
  | .Call (.Name x p) [a, b] [] pos => if isFree U Γ x = true ∧ isStar a = false ∧ isStar b = false then (if x = "range" then cItR rng2 (r.A Γ [a, b]) else if x = "zip" ∧ isTupE tg = true then cItS zipOf (r.A Γ [a, b]) else iPl U r Γ (.Call (.Name x p) [a, b] [] pos)) else iPl U r Γ (.Call (.Name x p) [a, b] [] pos)
  | .Call (.Name x p) [a, b, c] [] pos => if isFree U Γ x = true ∧ isStar a = false ∧ isStar b = false ∧ isStar c = false ∧ x = "range" then cItR rng3 (r.A Γ [a, b, c]) else iPl U r Γ (.Call (.Name x p) [a, b, c] [] pos)
  | e => iPl U r Γ e

/-! ### calls -/
def tyN : Str → Option String := fun x => if x = "int" then some "int" else if x = "bool" then some "bool" else if x = "str" then some "str" else if x = "tuple" then some "tuple" else if x = "list" then some "list" else if x = "dict" then some "dict" else none
def tyNs (U : Setup) (Γ : Gam) : List Expr → Option (List (Str × String × Pos))
  | [] => some []
  | .Name x p :: es => match isFree U Γ x, tyN x, tyNs U Γ es with
    | true, some t, some l => some ((x, t, p) :: l)
    | _, _, _ => none
  | _ => none
/-- builtins of one argument -/
def call1 (U : Setup) (r : Ev) (Γ : Gam) (x : Str) (e : Expr) : Den :=
  if x = "len" then (if isL U Γ e = true then cQ1 lenQ (cSeqF (r.L Γ e)) else cV1 lenV (r.E Γ e))
  else if x = "tuple" then cQ1 tupQ (qE U r Γ e)
  else if x = "all" then cQ1 allQ (qE U r Γ e)
  else if x = "any" then cQ1 anyQ (qE U r Γ e)
  else if x = "sum" then cQ1 sumQ (qE U r Γ e)
  else if x = "int" then cV1 intV (r.E Γ e)
  else if x = "abs" then cV1 absV1 (r.E Γ e)
  else if x = "str" then cV1 strV (r.E Γ e)
  else dBad
def call2 (U : Setup) (r : Ev) (Γ : Gam) (x : Str) (a b : Expr) : Den :=
  if x = "max" then cV2 maxV (r.E Γ a) (r.E Γ b)
  else if x = "min" then cV2 minV (r.E Γ a) (r.E Γ b)
  else if x = "isinstance" then (match b with
    | .Name y _ => if isFree U Γ y = true then (match tyN y with
      | some c => cIsi1 c (r.E Γ a)
      | none => dBad) else dBad
    | .Tuple es _ _ => (match tyNs U Γ es with
      | some l => if l.length ≤ 100 then cIsiT (l.map (·.2.1)) (r.E Γ a) else dBad
      | none => dBad)
    | _ => dBad)
  else dBad
def callF (U : Setup) (r : Ev) (Γ : Gam) (x : Str) (es : List Expr) : Den :=
  if es.all (fun e => !isStar e) = true then
    (if isGl Γ x = true then (match U.defs x with
      | some n => cCall U.call n x (match es with
        | [] => cNil
        | e :: es => r.A Γ (e :: es))
      | none => if U.free x = true then (match es with
        | [a] => call1 U r Γ x a
        | [a, b] => call2 U r Γ x a b
        | _ => dBad) else dBad)
    else match slotOf U Γ x, es with
      | some i, e :: es => cCallV U.call U.defs (cVar i) (r.A Γ (e :: es))
      | _, _ => dBad)
  else dBad
def plainO : Expr → Bool
  | .Name _ _ => true
  | .Subscript _ _ _ => true
  | _ => false
def mth (r : Ev) (Γ : Gam) (o : Expr) (name : Str) (apos cpos : Pos) (e : Expr) : Den :=
  if plainO o = true ∧ isStar e = false ∧ apos.endLine = cpos.line then
    (if name = "append" then cApp (r.E Γ o) (r.E Γ e) else if name = "index" then cIndex (r.E Γ o) (r.E Γ e) else dBad)
  else dBad

/-! ### expressions -/
def boE (r : Ev) (Γ : Gam) : BoolOp → List Expr → Den
  | _, [] => dBad
  | _, [a] => r.E Γ a
  | .And, a :: b :: es => cAnd (r.E Γ a) (boE r Γ .And (b :: es))
  | .Or, a :: b :: es => cOr (r.E Γ a) (boE r Γ .Or (b :: es))
def boT (r : Ev) (Γ : Gam) : BoolOp → List Expr → DenT
  | _, [] => dtBad
  | _, [a] => r.T Γ a
  | .And, a :: b :: es => tcAnd (r.T Γ a) (boT r Γ .And (b :: es))
  | .Or, a :: b :: es => tcOr (r.T Γ a) (boT r Γ .Or (b :: es))
def partE (r : Ev) (Γ : Gam) : Option Expr → DenO
  | none => cNoPart
  | some e => cPart (r.E Γ e)
def eE (U : Setup) (r : Ev) (Γ : Gam) : Expr → Den
  | .Constant (.int i) _ _ => cVal (.int i)
  | .Constant (.bool b) _ _ => cVal (.bl b)
  | .Constant (.str x) _ _ => cVal (.str x)
  | .Constant .none _ _ => cVal .non
  | .Name x _ => (match slotOf U Γ x with
    | some i => cVar i
    | none => if isGl Γ x = true then (match U.cst x with
      | some w => cVal w
      | none => dBad) else dBad)
  | .BinOp a op b _ => cBin U.big op (r.E Γ a) (r.E Γ b)
  | .UnaryOp .Not a _ => cNot (r.E Γ a)
  | .UnaryOp .USub a _ => cNeg (r.E Γ a)
  | .BoolOp op es _ => boE r Γ op es
  | .Compare a [op] [b] _ => if behindInMarks op b = false then cCmp op (r.E Γ a) (r.E Γ b) else dBad
  | .Compare a [op, op'] [b, c] _ => if lastMarks [op, op'] [b, c] = false then cChain op op' (r.E Γ a) (r.E Γ b) (r.E Γ c) else dBad
  | .IfExp c a b _ => cIf (r.T Γ c) (r.E Γ a) (r.E Γ b)
  | .Tuple es _ _ => cTup (r.A Γ es)
  | .Subscript a b _ => (match b with
    | .Slice lo hi none _ => cSl (r.E Γ a) (partE r Γ lo) (partE r Γ hi)
    | .Slice none none (some (.UnaryOp .USub (.Constant (.int 1) _ _) _)) _ => cRev (r.E Γ a)
    | .Slice _ _ _ _ => dBad
    | b => cIx (r.E Γ a) (r.E Γ b))
  | .ListComp elt gens scope pos => cFresh (r.L Γ (.ListComp elt gens scope pos))
  | .List es pos => cFresh (r.L Γ (.List es pos))
  | .Call (.Name x p) es [] pos => if isL U Γ (.Call (.Name x p) es [] pos) = true then cFresh (r.L Γ (.Call (.Name x p) es [] pos)) else callF U r Γ x es
  | .Call (.Attribute o name apos) [e] [] cpos => mth r Γ o name apos cpos e
  | _ => dBad
def tE (r : Ev) (Γ : Gam) : Expr → DenT
  | .UnaryOp .Not a _ => tcNot (r.T Γ a)
  | .BoolOp op es _ => boT r Γ op es
  | .Compare a [op] [b] _ => if behindInMarks op b = false then tcCmp op (r.E Γ a) (r.E Γ b) else dtBad
  | .Compare a [op, op'] [b, c] _ => if lastMarks [op, op'] [b, c] = false then tcChain op op' (r.E Γ a) (r.E Γ b) (r.E Γ c) else dtBad
  | .Compare _ _ _ _ => dtBad
  | .IfExp _ _ _ _ => dtBad
  | e => tcVal (r.E Γ e)
def aE (r : Ev) (Γ : Gam) : List Expr → DenA
  | [] => cNil
  | e :: es => if isStar e = true then daBad else cCons (r.E Γ e) (r.A Γ es)

/-! ### statements -/
def isComp : Expr → Bool
  | .ListComp _ _ _ _ => true
  | .SetComp _ _ _ _ => true
  | .DictComp _ _ _ _ _ => true
  | _ => false
def swNames (Γ : Gam) (line : Nat) (ts : List Expr) : List Str := ts.filterMap fun
  | .Name id pos => if kOf Γ id == some .local && pos.line == line then some id else none
  | _ => none
/-- the stores of a swap: not known, none, or the names -/
def swOf (Γ : Gam) : Expr → Expr → Option (Option (List Str))
  | .Tuple ts _ _, .Tuple vs _ _ =>
    if (!(ts.length == 2 || ts.length == 3) || vs.length != ts.length) = true then some none
    else if vs.any isStar = true then some none
    else
      let names := swNames Γ ((ts.head?.map (·.pos.line)).getD 0) ts
      if (names.length != ts.length || names.eraseDups.length != names.length) = true then some none
      else if vs.all (foldedForSure 8) = true then some none
      else if vs.all (constantsAlone 8) = true then none
      else some (some names)
  | .Tuple _ _ _, _ => some none
  | .Name _ _, _ => some none
  | .Subscript _ _ _, _ => some none
  | _, _ => none
/-- does name = [..] swap? -/
def swB (Γ : Gam) (tg : Expr) (scope : Scope) (vline : Nat) : Bool := match tg with
  | .Name t pos => (ScopeKind.function == .function && kOf Γ t == some .local && pos.line == vline) && !(scope.names.any fun (n, k) => n == t && (k == .local || k == .cell))
  | _ => false
def parS (U : Setup) (r : Ev) (Γ : Gam) (ns : List Str) : Expr → Expr → DenS
  | .Tuple [.Name x _, .Name y _] _ _, .Tuple [a, b] _ _ => (match place x U.N, place y U.N with
    | some i, some j => if ns = [x, y] ∧ i ≠ j ∧ isLoc Γ x = true ∧ isLoc Γ y = true then sPar2 i j (r.A Γ [a, b]) else sBad
    | _, _ => sBad)
  | .Tuple [.Name x _, .Name y _, .Name z _] _ _, .Tuple [a, b, c] _ _ => (match place x U.N, place y U.N, place z U.N with
    | some i, some j, some l => if ns = [x, y, z] ∧ (i ≠ j ∧ i ≠ l ∧ j ≠ l) ∧ isLoc Γ x = true ∧ isLoc Γ y = true ∧ isLoc Γ z = true then sPar3 i j l (r.A Γ [a, b, c]) else sBad
    | _, _, _ => sBad)
  | _, _ => sBad
noncomputable def asgS (U : Setup) (r : Ev) (Γ : Gam) (tg e : Expr) : DenS := match e with
  | .ListComp elt gens scope pos => if swB Γ tg scope pos.line = true then (match tg with
      | .Name y _ => (match place y U.N with
        | some i => sAsg (cFresh (compO U r Γ elt scope gens)) (gNm i)
        | none => sBad)
      | _ => sBad)
    else if swOf Γ tg e = some none then sAsg (r.E Γ e) (gOf U r Γ 5 tg) else sBad
  | .SetComp _ _ _ _ => sBad
  | .DictComp _ _ _ _ _ => sBad
  | _ => match swOf Γ tg e with
    | some none => sAsg (r.E Γ e) (gOf U r Γ 5 tg)
    | some (some ns) => parS U r Γ ns tg e
    | none => sBad
/-- a suite of an except clause: a return of written values -/
def cold : Nat → Expr → Option W
  | _, .Constant (.int i) _ _ => some (.int i)
  | _, .Constant (.bool i) _ _ => some (.bl i)
  | _, .Constant (.str i) _ _ => some (.str i)
  | _, .Constant .none _ _ => some .non
  | _, _ => none
def colds : List Expr → Option (List W)
  | [] => some []
  | e :: es => match isStar e, cold 0 e, colds es with
    | false, some w, some ws => some (w :: ws)
    | _, _, _ => none
def coldS : List Stmt → Option W
  | [.Return (some (.Tuple es _ _)) _] => (match colds es with
    | some ws => if ws.length ≤ 16777216 then some (.tup ws) else none
    | none => none)
  | [.Return (some e) _] => cold 0 e
  | _ => none
noncomputable def sE (U : Setup) (r : Ev) (Γ : Gam) : Stmt → DenS
  | .Return (some e) _ => sRet (r.E Γ e)
  | .Return none _ => sRetN
  | .Pass _ => sSkip
  | .Break _ => sBrk
  | .Continue _ => sCont
  | .Expr e _ => if isComp e = false then sExpr (r.E Γ e) else sBad
  | .If c a b _ => sIf (r.T Γ c) (r.S Γ a) (r.S Γ b)
  | .While c b [] _ => sWhile (r.T Γ c) (r.S Γ b)
  | .For tg it b [] _ => if isSet it = false then (match tgOf U Γ 5 tg with
    | some T => sFor (r.I Γ tg it) T (r.S Γ b)
    | none => sBad) else sBad
  | .Raise (some (.Call (.Name c _) [.Constant (.str _) _ _] [] _)) none _ => if isGl Γ c = true ∧ U.exc c = true then sRaise c else sBad
  | .Try body (.ExceptHandler (some (.Name x _)) none (b0 :: suite) _ :: _) [] [] _ => if isGl Γ x = true ∧ U.cls x = true then (match coldS (b0 :: suite) with
    | some w => sTry U.ct x (r.S Γ body) (sRet (cVal w))
    | none => sBad) else sBad
  | .Assign [tg] e _ => asgS U r Γ tg e
  | _ => sBad
noncomputable def ssE (U : Setup) (r : Ev) (Γ : Gam) : List Stmt → DenS
  | [] => sSkip
  | st :: sts => sSeq (sE U r Γ st) (r.S Γ sts)
noncomputable def step (U : Setup) (r : Ev) : Ev := ⟨eE U r, tE r, aE r, lE U r, iE U r, ssE U r⟩
noncomputable def ev (U : Setup) (n : Nat) : Ev := Nat.rec evBad (fun _ r => step U r) n
end Wv
end
section
set_option Elab.async false
set_option linter.all false
set_option maxRecDepth 100000
set_option maxHeartbeats 4000000
/-! Core N of ours: the evaluator is followed. -/
namespace Wv
open PySem PySem.Spec L2
open PyProof.Rows hiding St

structure Cok (B : Base) (U : Setup) (k : Nat) (Γ : Gam) (Wx : WX) (X : Cx) : Prop where
  K : X.K = B.K
  un : X.A.units + 65 < cLine
  N : X.N = U.N
  nd : U.N.Nodup
  sc : X.env.scope = Γ.sc
  mine : ∀ x, Γ.mine x = true → X.fn x = true
  calm : X.calm = true
  tk : Takes X Wx
  room : Room k X.A
  defs : ∀ f n, U.defs f = some n → FnAt B U.call X.prog X.w X.mg X.base k f n
  cst : ∀ x w, U.cst x = some w → ∃ u v, X.mg x = some u ∧ RelV v u ∧ ∀ m H, rep B m H w v
  free : ∀ x, U.free x = true → X.mg x = none
  exc : ∀ x, U.exc x = true → ExcAt B X.mg x
  cls : ∀ x, U.cls x = true → ∃ C : Addr, B.G x = some (.ref C) ∧ X.mg x = some (.ref C)
  ct : CatchOk B U.ct
  big : U.big = true → X.base.NoSeer ∧ X.prog.given.tree = none ∧ X.A.depth + Builtin.pylongFrames < recursionLimit ∧ ∃ env l, X.stack = env :: l ∧ env.scope.isGenerator = false ∧ env.scope.isCoroutine = false ∧ env.builtins = builtinsNs ∧ env.globals = mainGlobals
structure Fok (X : Cx) : Prop where
  pass : PassesOwn (model X.prog X.w) X.A X.env X.xe
  stk : X.stack = X.env :: X.outer
  fr : X.env.frame = some X.env.locals
  bk : X.env.blockKind = .function

section
variable {B : Base} {U : Setup} {k : Nat} {Γ : Gam} {Wx : WX} {X : Cx} {r : Ev}
theorem Cok.room' (c : Cok B U k Γ Wx X) : BigRoom U.big X := fun hb pins σ H s I => by
  obtain ⟨a, t, d, env, l, f, g1, g2, g3, g4⟩ := c.big hb
  exact PySem.PylongRoom.of I.nolimit d (PySem.SeerAt.of (PySem.Heap.NoSeer.keeps a I.bk) t (by rw [I.ok.frames, f]) g1 g2 g3 g4)
theorem Cok.blk (c : Cok B U k Γ Wx X) (s : Shared) (H : Hp) (scope : Scope) (cl : List (Str × Addr)) (C : Addr) (fp : List Addr) : Cok B U k (inner Γ scope) WF0 (X.blk s H scope (compEnvC scope cl C X.env) fp) where
  K := c.K
  un := c.un
  N := c.N
  nd := c.nd
  sc := by
    show relS scope X.env.scope = relS scope Γ.sc
    rw [c.sc]
  mine := fun x h => h
  calm := c.calm
  tk := takes0
  room := c.room
  defs := c.defs
  cst := c.cst
  free := c.free
  exc := c.exc
  cls := c.cls
  ct := c.ct
  big := c.big
theorem Cok.tr (c : Cok B U k Γ Wx X) {W : WX} {pn : List (Addr × Obj)} {xe : Value → Shared → Prop} (tk : Takes (X.tr pn xe) W) : Cok B U k Γ W (X.tr pn xe) :=
  ⟨c.K, c.un, c.N, c.nd, c.sc, c.mine, c.calm, tk, c.room, c.defs, c.cst, c.free, c.exc, c.cls, c.ct, c.big⟩
theorem Fok.tr (f : Fok X) {pn : List (Addr × Obj)} {xe : Value → Shared → Prop} (p : PassesOwn (model X.prog X.w) X.A X.env xe) : Fok (X.tr pn xe) := ⟨p, f.stk, f.fr, f.bk⟩

theorem place_ok : ∀ {N : List Str} {x : Str} {i : Nat}, place x N = some i → N[i]? = some x
  | [], x, i, h => by unfold place at h; cases h
  | y :: l, x, i, h => by
    unfold place at h
    split at h
    · rename_i e
      cases h
      rw [e]
      rfl
    · cases q : place x l with
      | none => rw [q] at h; cases h
      | some j =>
        rw [q] at h
        cases h
        show (y :: l)[j + 1]? = some x
        rw [List.getElem?_cons_succ]
        exact place_ok q
theorem isGl_ok {x : Str} (c : Cok B U k Γ Wx X) (h : isGl Γ x = true) : Gl X x ∧ (x == ("__debug__" : Str)) = false := by
  unfold isGl at h
  obtain ⟨h1, h2⟩ := Bool.and_eq_true_iff.mp h
  refine ⟨?_, by simpa using h2⟩
  have h1 := of_decide_eq_true h1
  unfold Gl Env.kindOf
  rw [c.sc]
  exact h1
theorem isVis_ok {x : Str} (c : Cok B U k Γ Wx X) (h : isVis Γ x = true) : Vis X.env.scope x ∧ (x == ("__debug__" : Str)) = false ∧ (x == ("__classdict__" : Str)) = false := by
  unfold isVis at h
  obtain ⟨h1, h2⟩ := Bool.and_eq_true_iff.mp h
  obtain ⟨h2, h3⟩ := Bool.and_eq_true_iff.mp h2
  refine ⟨?_, by simpa using h2, by simpa using h3⟩
  rw [c.sc]
  unfold Vis
  unfold kOf at h1
  split at h1 <;> first | (rename_i e; simp only [e, true_or, or_true]) | cases h1
theorem isTg_ok {x : Str} (c : Cok B U k Γ Wx X) (h : isTg Γ x = true) : Loc X.env.scope x ∧ (X.fn x = true ∨ X.env.scope.names.lookup x = some .local) := by
  unfold isTg at h
  rw [c.sc]
  unfold kOf at h
  unfold L2.Loc
  split at h
  · rename_i e
    exact ⟨.inl e, .inr e⟩
  · rename_i e
    exact ⟨.inr e, .inl (c.mine x h)⟩
  · cases h
theorem isLoc_ok {x : Str} (c : Cok B U k Γ Wx X) (h : isLoc Γ x = true) : X.env.scope.names.lookup x = some .local := by
  rw [c.sc]
  exact of_decide_eq_true h
theorem slotOf_ok {x : Str} {i : Nat} (c : Cok B U k Γ Wx X) (h : slotOf U Γ x = some i) : X.N[i]? = some x ∧ Vis X.env.scope x ∧ (x == ("__debug__" : Str)) = false ∧ (x == ("__classdict__" : Str)) = false := by
  unfold slotOf at h
  split at h
  · rename_i e
    exact ⟨by rw [c.N]; exact place_ok h, isVis_ok c e⟩
  · cases h
theorem isFree_ok {x : Str} (c : Cok B U k Γ Wx X) (h : isFree U Γ x = true) : Gl X x ∧ (x == ("__debug__" : Str)) = false ∧ X.mg x = none := by
  unfold isFree at h
  obtain ⟨h1, h2⟩ := Bool.and_eq_true_iff.mp h
  exact ⟨(isGl_ok c h1).1, (isGl_ok c h1).2, c.free x h2⟩

/-! ### targets -/
theorem tgts_ok {f : Expr → Option Tgt} (hf : ∀ e T, f e = some T → DG B X e T) : ∀ {es : List Expr} {ts : List Tgt}, tgts f es = some ts → DGs B X es ts ∧ es.all (fun e => !isStar e) = true ∧ ts.length = es.length
  | [], ts, h => by
    unfold tgts at h
    cases h
    exact ⟨dgs_nil, rfl, rfl⟩
  | e :: es, ts, h => by
    unfold tgts at h
    split at h
    · rename_i t ts' e1 e2 e3
      cases h
      obtain ⟨a, b, d⟩ := tgts_ok hf e3
      exact ⟨dgs_cons e1 (hf e t e2) a, by rw [List.all_cons, e1, b]; rfl, by rw [List.length_cons, List.length_cons, d]⟩
    · cases h
theorem tg_ok (c : Cok B U k Γ Wx X) : ∀ (n : Nat) (e : Expr) (T : Tgt), tgOf U Γ n e = some T → DG B X e T
  | 0, e, T, h => by unfold tgOf at h; cases h
  | n + 1, e, T, h => by
    unfold tgOf at h
    split at h
    · rename_i x p hh
      split at h
      · rename_i ht
        cases q : place x U.N with
        | none => rw [q] at h; cases h
        | some i =>
          rw [q] at h
          cases h
          obtain ⟨a, b⟩ := isTg_ok c ht
          exact dg_name (by rw [c.N]; exact c.nd) (by rw [c.N]; exact place_ok q) a b
      · cases h
    · rename_i es kk p hh
      cases q : tgts (tgOf U Γ n) es with
      | none =>
        have h' : (tgts (tgOf U Γ n) es).map Tgt.tp = some T := by
          first | exact h | (cases hh; exact h)
        rw [q] at h'
        cases h'
      | some ts =>
        have h' : (tgts (tgOf U Γ n) es).map Tgt.tp = some T := by
          first | exact h | (cases hh; exact h)
        rw [q] at h'
        cases h'
        obtain ⟨a, b, d⟩ := tgts_ok (tg_ok c n) q
        exact dg_tup c.K c.calm b d a
    · cases h
theorem gsOf_ok {f : Expr → DenG} (hf : ∀ e, GG B Wx X e (f e)) : ∀ es : List Expr, GGs B Wx X es (gsOf f es)
  | [] => ggs_nil
  | e :: es => by
    unfold gsOf
    split
    · exact ⟨fun _ _ _ _ _ _ _ _ _ ⟨_, _, _, _, _, _, _, p⟩ => p.elim⟩
    · rename_i h
      exact ggs_cons (by simpa using h) (hf e) (gsOf_ok hf es)
theorem tame_bad : Tame gBad := fun w ρ h => .inr (.inr rfl)
theorem tame_nm (i : Nat) : Tame (gNm i) := fun w ρ h => .inl ⟨_, _, rfl⟩
theorem tame_sx (fo fi : Den) : Tame (gSx fo fi) := fun w ρ h => by
  unfold gSx
  cases fo ρ h with
  | bad => exact .inr (.inr rfl)
  | exc e h1 => exact .inr (.inl ⟨_, _, _, rfl⟩)
  | ok o h1 =>
    rw [Out.th_ok]
    cases fi ρ h1 with
    | bad => exact .inr (.inr rfl)
    | exc e h2 => exact .inr (.inl ⟨_, _, _, rfl⟩)
    | ok i h2 =>
      rw [Out.th_ok]
      split
      · split
        · split
          · exact .inl ⟨_, _, rfl⟩
          · exact .inr (.inr rfl)
        · exact .inr (.inr rfl)
      · exact .inr (.inr rfl)
def TameS (g : DenGs) : Prop := ∀ ws ρ h, (∃ ρ' h', g ws ρ h = .next ρ' h') ∨ (∃ e ρ' h', g ws ρ h = .exc e ρ' h') ∨ g ws ρ h = .bad
theorem tames_of {f : Expr → DenG} (hf : ∀ e, Tame (f e)) : ∀ es : List Expr, TameS (gsOf f es)
  | [] => fun ws ρ h => by
    unfold gsOf gsNil
    cases ws with
    | nil => exact .inl ⟨_, _, rfl⟩
    | cons _ _ => exact .inr (.inr rfl)
  | e :: es => fun ws ρ h => by
    unfold gsOf
    split
    · exact .inr (.inr rfl)
    · unfold gsCons
      cases ws with
      | nil => exact .inr (.inr rfl)
      | cons w ws =>
        dsimp only
        rcases hf e w ρ h with ⟨ρ', h', q⟩ | ⟨x, ρ', h', q⟩ | q
        · rw [q, SO.seq_next]
          exact tames_of hf es ws ρ' h'
        · rw [q, SO.seq_exc]
          exact .inr (.inl ⟨_, _, _, rfl⟩)
        · rw [q, SO.seq_bad]
          exact .inr (.inr rfl)
theorem tame_tp {n : Nat} {gs : DenGs} (h : TameS gs) : Tame (gTp n gs) := fun w ρ h0 => by
  unfold gTp
  split
  · split
    · exact h _ _ _
    · exact .inr (.inr rfl)
  · exact .inr (.inr rfl)
theorem g_tame : ∀ (n : Nat) (e : Expr), Tame (gOf U r Γ n e)
  | 0, e => by unfold gOf; exact tame_bad
  | n + 1, e => by
    unfold gOf
    split
    · split
      · split
        · exact tame_nm _
        · exact tame_bad
      · exact tame_bad
    · split
      · exact tame_sx _ _
      · exact tame_bad
    · rename_i hh
      first
        | (split
           · exact tame_tp (tames_of (g_tame n) _)
           · exact tame_bad)
        | (cases hh
           split
           · exact tame_tp (tames_of (g_tame n) _)
           · exact tame_bad)
    · exact tame_bad

/-! ### a level follows -/
structure Snd (B : Base) (U : Setup) (k : Nat) (r : Ev) : Prop where
  E : ∀ {Γ : Gam} {Wx : WX} {X : Cx}, Cok B U k Γ Wx X → ∀ e, DE B Wx X e (r.E Γ e)
  T : ∀ {Γ : Gam} {Wx : WX} {X : Cx}, Cok B U k Γ Wx X → ∀ e, DT B Wx X e (r.T Γ e)
  A : ∀ {Γ : Gam} {Wx : WX} {X : Cx}, Cok B U k Γ Wx X → ∀ es, DA B Wx X es (r.A Γ es)
  L : ∀ {Γ : Gam} {Wx : WX} {X : Cx}, Cok B U k Γ Wx X → ∀ e, DL B Wx X e (r.L Γ e)
  I : ∀ {Γ : Gam} {Wx : WX} {X : Cx}, Cok B U k Γ Wx X → ∀ tg e, DI B Wx X tg e (r.I Γ tg e)
  S : ∀ {Γ : Gam} {Wx : WX} {X : Cx}, Cok B U k Γ Wx X → Fok X → ∀ sts, DSs B Wx X sts (r.S Γ sts)
theorem dl_bad {e : Expr} : DL B Wx X e daBad := ⟨fun _ _ _ _ _ _ ⟨_, _, _, _, _, p⟩ => p.elim⟩
theorem di_bad {tg e : Expr} : DI B Wx X tg e (fun _ _ => .bad) := ⟨fun _ _ _ _ _ _ ⟨_, _, _, _, _, p⟩ => p.elim⟩
theorem ds_dead {st : Stmt} {f : DenS} (h : ∀ ρ s, f ρ s = .bad) : DS B Wx X st f := ⟨fun _ _ _ _ _ _ ⟨_, _, _, _, _, p⟩ => by
  rw [h] at p
  exact p.elim⟩
theorem snd_bad : Snd B U k evBad := ⟨fun _ _ => de_bad, fun _ _ => dt_bad, fun _ _ => da_bad, fun _ _ => dl_bad, fun _ _ _ => di_bad, fun _ _ _ => dss_bad⟩

theorem gg_subE (R : Snd B U k r) (c : Cok B U k Γ Wx X) {o i : Expr} {pos : Pos} (hs : isSlice i = false) : GG B Wx X (.Subscript o i pos) (gSx (r.E Γ o) (r.E Γ i)) := by
  refine gg_sub (R.E c _) (R.E c _) (fun v => ?_)
  cases i <;> first | rfl | cases hs
theorem gg_ok (R : Snd B U k r) (c : Cok B U k Γ Wx X) : ∀ (n : Nat) (e : Expr), GG B Wx X e (gOf U r Γ n e)
  | 0, e => by unfold gOf; exact gg_bad
  | n + 1, e => by
    unfold gOf
    split
    · rename_i x p hh
      split
      · rename_i ht
        split
        · rename_i i q
          obtain ⟨a, b⟩ := isTg_ok c ht
          exact gg_name (by rw [c.N]; exact c.nd) (by rw [c.N]; exact place_ok q) a b
        · exact gg_bad
      · exact gg_bad
    · split
      · rename_i hs
        exact gg_subE R c hs
      · exact gg_bad
    · rename_i hh
      first
        | (split
           · rename_i h
             exact gg_tup c.K c.calm h rfl (gsOf_ok (gg_ok R c n) _)
           · exact gg_bad)
        | (cases hh
           split
           · rename_i h
             exact gg_tup c.K c.calm h rfl (gsOf_ok (gg_ok R c n) _)
           · exact gg_bad)
    · exact gg_bad

/-! ### sequences, comprehensions -/
theorem q_ok (R : Snd B U k r) (c : Cok B U k Γ Wx X) (e : Expr) : DQ B Wx X e (qE U r Γ e) := by
  unfold qE
  split
  · exact dq_fresh (R.L c e)
  · exact dq_val (R.E c e)
theorem ifs_ok (R : Snd B U k r) (c : Cok B U k Γ Wx X) (ifs : List Expr) : DTs B Wx X ifs (ifsOf r Γ ifs) := by
  unfold ifsOf
  split
  · exact dts_nil
  · exact dts_one (R.T c _)
  · exact ⟨fun _ _ _ _ _ _ ⟨_, _, _, _, _, p⟩ => p.elim⟩
theorem noset {e : Expr} (h : isSet e = false) (env : Env) (x : Value) : foldedSetIterable e env x = pure x := by
  cases e <;> first | rfl | cases h
theorem mem_of_all {T : Tgt} {own : List (Str × Nat)} (h : T.slots.all (fun i => (own.map (·.2)).contains i) = true) : ∀ i ∈ T.slots, i ∈ own.map (·.2) := fun i hi => by
  have := List.all_eq_true.mp h i hi
  exact List.contains_iff_mem.mp this
structure C1 (U : Setup) (r : Ev) (Γ : Gam) (elt : Expr) (scope : Scope) (g : Comprehension) (T : Tgt) : Prop where
  blk : blkC U.N Γ.sc scope (ownOf U scope) = true
  ns : isSet g.iter = false
  tg : tgOf U (inner Γ scope) 5 g.target = some T
  sl : ∀ i ∈ T.slots, i ∈ (ownOf U scope).map (·.2)
  eq : comp1 U r Γ elt scope g = cComp (r.I Γ g.target g.iter) ((ownOf U scope).map (·.2)) T (ifsOf r (inner Γ scope) g.ifs) (r.E (inner Γ scope) elt)
theorem comp1_or {elt : Expr} {scope : Scope} {g : Comprehension} : comp1 U r Γ elt scope g = daBad ∨ ∃ T, C1 U r Γ elt scope g T := by
  by_cases h : blkC U.N Γ.sc scope (ownOf U scope) = true ∧ isSet g.iter = false
  · cases q : tgOf U (inner Γ scope) 5 g.target with
    | none => exact .inl (by unfold comp1; simp only [h, q, and_self, if_true])
    | some T =>
      by_cases z : T.slots.all (fun i => ((ownOf U scope).map (·.2)).contains i) = true
      · exact .inr ⟨T, h.1, h.2, q, mem_of_all z, by unfold comp1; simp only [h, q, and_self, if_true]; rw [if_pos z]⟩
      · exact .inl (by unfold comp1; simp only [h, q, and_self, if_true]; rw [if_neg z])
  · exact .inl (by unfold comp1; simp only []; rw [if_neg h])
structure C2 (U : Setup) (r : Ev) (Γ : Gam) (elt : Expr) (scope : Scope) (g g1 : Comprehension) (T T1 : Tgt) : Prop where
  blk : blkC U.N Γ.sc scope (ownOf U scope) = true
  ns : isSet g.iter = false
  ns1 : isSet g1.iter = false
  tg : tgOf U (inner Γ scope) 5 g.target = some T
  tg1 : tgOf U (inner Γ scope) 5 g1.target = some T1
  sl : ∀ i ∈ T.slots, i ∈ (ownOf U scope).map (·.2)
  sl1 : ∀ i ∈ T1.slots, i ∈ (ownOf U scope).map (·.2)
  eq : comp2 U r Γ elt scope g g1 = cComp2 (r.I Γ g.target g.iter) ((ownOf U scope).map (·.2)) T (ifsOf r (inner Γ scope) g.ifs) (r.I (inner Γ scope) g1.target g1.iter) T1.slots T1 (ifsOf r (inner Γ scope) g1.ifs) (r.E (inner Γ scope) elt)
theorem comp2_or {elt : Expr} {scope : Scope} {g g1 : Comprehension} : comp2 U r Γ elt scope g g1 = daBad ∨ ∃ T T1, C2 U r Γ elt scope g g1 T T1 := by
  by_cases h : blkC U.N Γ.sc scope (ownOf U scope) = true ∧ isSet g.iter = false ∧ isSet g1.iter = false
  · cases q : tgOf U (inner Γ scope) 5 g.target with
    | none => exact .inl (by unfold comp2; simp only [h, q, and_self, if_true])
    | some T =>
      cases q1 : tgOf U (inner Γ scope) 5 g1.target with
      | none => exact .inl (by unfold comp2; simp only [h, q, q1, and_self, if_true])
      | some T1 =>
        by_cases z : T.slots.all (fun i => ((ownOf U scope).map (·.2)).contains i) = true ∧ T1.slots.all (fun i => ((ownOf U scope).map (·.2)).contains i) = true
        · exact .inr ⟨T, T1, h.1, h.2.1, h.2.2, q, q1, mem_of_all z.1, mem_of_all z.2, by unfold comp2; simp only [h, q, q1, and_self, if_true]; rw [if_pos z]⟩
        · exact .inl (by unfold comp2; simp only [h, q, q1, and_self, if_true]; rw [if_neg z])
  · exact .inl (by unfold comp2; simp only []; rw [if_neg h])
theorem comp_ok (R : Snd B U k r) (c : Cok B U k Γ Wx X) (elt : Expr) (gens : List Comprehension) (scope : Scope) (pos : Pos) : DL B Wx X (.ListComp elt gens scope pos) (compO U r Γ elt scope gens) := by
  unfold compO
  split
  · rename_i g
    split
    · rename_i ha
      obtain ⟨tg, iter, ifs, as⟩ := g
      have ha' : as = 0 := ha
      clear ha
      subst ha'
      rcases comp1_or (U := U) (r := r) (Γ := Γ) (elt := elt) (scope := scope) (g := ⟨tg, iter, ifs, 0⟩) with h | ⟨T, h⟩
      · rw [h]
        exact dl_bad
      · rw [h.eq]
        exact dl_comp c.calm (by rw [c.N]; exact c.nd) (R.I c _ _) (blkOk_by (by rw [c.N, c.sc]; exact h.blk)) h.sl (fun s H C cl fp => tg_ok (c.blk s H scope cl C fp) 5 _ _ h.tg) (fun s H C cl fp => ifs_ok R (c.blk s H scope cl C fp) _) (fun s H C cl fp => R.E (c.blk s H scope cl C fp) _) (noset h.ns _)
    · exact dl_bad
  · rename_i g g1
    split
    · rename_i ha
      obtain ⟨tg, iter, ifs, as⟩ := g
      obtain ⟨tg1, iter1, ifs1, as1⟩ := g1
      have ha' : as = 0 := ha.1
      have hb' : as1 = 0 := ha.2
      clear ha
      subst ha' hb'
      rcases comp2_or (U := U) (r := r) (Γ := Γ) (elt := elt) (scope := scope) (g := ⟨tg, iter, ifs, 0⟩) (g1 := ⟨tg1, iter1, ifs1, 0⟩) with h | ⟨T, T1, h⟩
      · rw [h]
        exact dl_bad
      · rw [h.eq]
        exact dl_comp2 c.calm (by rw [c.N]; exact c.nd) (R.I c _ _) (blkOk_by (by rw [c.N, c.sc]; exact h.blk)) h.sl (fun i hi => hi) h.sl1 (fun s H C cl fp => tg_ok (c.blk s H scope cl C fp) 5 _ _ h.tg) (fun s H C cl fp => ifs_ok R (c.blk s H scope cl C fp) _)
          (fun s H C cl fp => R.I (c.blk s H scope cl C fp) _ _) (fun s H C cl fp => tg_ok (c.blk s H scope cl C fp) 5 _ _ h.tg1) (fun s H C cl fp => ifs_ok R (c.blk s H scope cl C fp) _) (fun s H C cl fp => R.E (c.blk s H scope cl C fp) _) (noset h.ns _) (fun env => noset h.ns1 env)
    · exact dl_bad
  · exact dl_bad
theorem l_ok (R : Snd B U k r) (c : Cok B U k Γ Wx X) (e : Expr) : DL B Wx X e (lE U r Γ e) := by
  unfold lE
  split
  · exact comp_ok R c _ _ _ _
  · exact dl_list (R.A c _)
  · split
    · rename_i x p e pos h
      obtain ⟨h1, h3⟩ := Bool.and_eq_true_iff.mp h
      obtain ⟨h1, h2⟩ := Bool.and_eq_true_iff.mp h1
      have hx : x = "list" := eq_of_beq h1
      subst hx
      obtain ⟨a, b, d⟩ := isFree_ok c h2
      exact dl_listQ c.K a d (by simpa using h3) (q_ok R c _)
    · exact dl_bad
  · exact dl_bad

/-! ### what is walked -/
theorem ip_ok (R : Snd B U k r) (c : Cok B U k Γ Wx X) (tg e : Expr) : DI B Wx X tg e (iPl U r Γ e) := by
  unfold iPl
  split
  · exact di_fresh c.K (R.L c e)
  · exact di_val c.K (R.E c e)
theorem tup_of {tg : Expr} (h : isTupE tg = true) : ∃ es kk p, tg = .Tuple es kk p := by
  cases tg <;> first | exact ⟨_, _, _, rfl⟩ | cases h
theorem i_ok (R : Snd B U k r) (c : Cok B U k Γ Wx X) (tg e : Expr) : DI B Wx X tg e (iE U r Γ tg e) := by
  unfold iE
  split
  · split
    · rename_i h
      obtain ⟨h1, h2⟩ := h
      obtain ⟨a, b, d⟩ := isFree_ok c h1
      split
      · rename_i hx
        subst hx
        exact di_range1 a d h2 (R.A c _)
      · split
        · rename_i hx
          obtain ⟨hx, ht⟩ := hx
          subst hx
          obtain ⟨es, kk, p, rfl⟩ := tup_of ht
          exact di_enum c.K a d h2 (R.A c _)
        · exact ip_ok R c _ _
    · exact ip_ok R c _ _
  · split
    · rename_i h
      obtain ⟨h1, h2, h3⟩ := h
      obtain ⟨a, b, d⟩ := isFree_ok c h1
      split
      · rename_i hx
        subst hx
        exact di_range2 a d h2 h3 (R.A c _)
      · split
        · rename_i hx
          obtain ⟨hx, ht⟩ := hx
          subst hx
          obtain ⟨es, kk, p, rfl⟩ := tup_of ht
          exact di_zip c.K a d h2 h3 (R.A c _)
        · exact ip_ok R c _ _
    · exact ip_ok R c _ _
  · split
    · rename_i h
      obtain ⟨h1, h2, h3, h4, hx⟩ := h
      obtain ⟨a, b, d⟩ := isFree_ok c h1
      subst hx
      exact di_range3 a d h2 h3 h4 (R.A c _)
    · exact ip_ok R c _ _
  · exact ip_ok R c _ _
end
end Wv
end
section
set_option Elab.async false
set_option linter.all false
set_option maxRecDepth 100000
set_option maxHeartbeats 4000000
/-! Core O of ours: the evaluator is followed: calls, expressions, statements, all levels. -/
namespace Wv
open PySem PySem.Spec L2
open PyProof.Rows hiding St

section
variable {B : Base} {U : Setup} {k : Nat} {Γ : Gam} {Wx : WX} {X : Cx} {r : Ev}
theorem tyN_ok {x : Str} {t : String} (c : Cok B U k Γ Wx X) (h : isFree U Γ x = true) (e : tyN x = some t) : TyName X x t := by
  obtain ⟨a, b, d⟩ := isFree_ok c h
  unfold tyN at e
  split at e
  · rename_i hx
    cases e
    subst hx
    exact ⟨a, d, boot_int, by decide, b⟩
  · split at e
    · rename_i hx
      cases e
      subst hx
      exact ⟨a, d, boot_bool, by decide, b⟩
    · split at e
      · rename_i hx
        cases e
        subst hx
        exact ⟨a, d, boot_str, by decide, b⟩
      · split at e
        · rename_i hx
          cases e
          subst hx
          exact ⟨a, d, boot_tuple, by decide, b⟩
        · split at e
          · rename_i hx
            cases e
            subst hx
            exact ⟨a, d, boot_list, by decide, b⟩
          · split at e
            · rename_i hx
              cases e
              subst hx
              exact ⟨a, d, PyProof.Rows.boot_dict, by decide, b⟩
            · cases e
theorem tyNs_ok (c : Cok B U k Γ Wx X) : ∀ {es : List Expr} {l : List (Str × String × Pos)}, tyNs U Γ es = some l → es = l.map (fun q => Expr.Name q.1 q.2.2) ∧ ∀ q ∈ l, TyName X q.1 q.2.1
  | [], l, h => by
    unfold tyNs at h
    cases h
    exact ⟨rfl, fun q hq => nomatch hq⟩
  | .Name x p :: es, l, h => by
    unfold tyNs at h
    split at h
    · rename_i t l' e1 e2 e3
      cases h
      obtain ⟨a, b⟩ := tyNs_ok c e3
      refine ⟨by rw [List.map_cons, ← a], fun q hq => ?_⟩
      rcases List.mem_cons.mp hq with e | hq
      · rw [e]
        exact tyN_ok c e1 e2
      · exact b q hq
    · cases h
  | .BoolOp _ _ _ :: es, l, h | .NamedExpr _ _ _ :: es, l, h | .BinOp _ _ _ _ :: es, l, h | .UnaryOp _ _ _ :: es, l, h | .Lambda _ _ _ _ :: es, l, h | .IfExp _ _ _ _ :: es, l, h | .Dict _ _ _ :: es, l, h | .Set _ _ _ :: es, l, h
  | .ListComp _ _ _ _ :: es, l, h | .SetComp _ _ _ _ :: es, l, h | .DictComp _ _ _ _ _ :: es, l, h | .GeneratorExp _ _ _ _ :: es, l, h | .Await _ _ :: es, l, h | .Yield _ _ :: es, l, h | .YieldFrom _ _ :: es, l, h | .Compare _ _ _ _ :: es, l, h
  | .Call _ _ _ _ :: es, l, h | .FormattedValue _ _ _ _ :: es, l, h | .JoinedStr _ _ :: es, l, h | .Constant _ _ _ :: es, l, h | .Attribute _ _ _ :: es, l, h | .Subscript _ _ _ :: es, l, h | .Starred _ _ :: es, l, h | .List _ _ :: es, l, h
  | .Tuple _ _ _ :: es, l, h | .Slice _ _ _ _ :: es, l, h => by unfold tyNs at h; cases h
theorem c1_ok (R : Snd B U k r) (c : Cok B U k Γ Wx X) {x : Str} {e : Expr} {p pos : Pos} (hg : Gl X x) (hd : (x == ("__debug__" : Str)) = false) (hm : X.mg x = none) (hs : isStar e = false) : DE B Wx X (.Call (.Name x p) [e] [] pos) (call1 U r Γ x e) := by
  unfold call1
  split
  · rename_i hx
    subst hx
    split
    · exact de_q1B (vc_len c.K) hg hm boot_len (by decide) hd hs (dq_fresh (R.L c e))
    · exact de_v1B (vv_len c.K) hg hm boot_len (by decide) hd hs (R.E c e)
  · split
    · rename_i hx
      subst hx
      exact de_q1T (vc_tup c.K) hg hm boot_tuple (by decide) hd hs (q_ok R c e)
    · split
      · rename_i hx
        subst hx
        exact de_q1B (vc_all c.K c.calm) hg hm boot_all (by decide) hd hs (q_ok R c e)
      · split
        · rename_i hx
          subst hx
          exact de_q1B (vc_any c.K c.calm) hg hm boot_any (by decide) hd hs (q_ok R c e)
        · split
          · rename_i hx
            subst hx
            exact de_q1B (vc_sum c.K c.calm) hg hm boot_sum (by decide) hd hs (q_ok R c e)
          · split
            · rename_i hx
              subst hx
              exact de_v1T vv_int hg hm boot_int (by decide) hd hs (R.E c e)
            · split
              · rename_i hx
                subst hx
                exact de_v1B vv_abs hg hm boot_abs (by decide) hd hs (R.E c e)
              · split
                · rename_i hx
                  subst hx
                  exact de_v1T vv_str hg hm boot_str (by decide) hd hs (R.E c e)
                · exact de_bad
theorem c2_ok (R : Snd B U k r) (c : Cok B U k Γ Wx X) {x : Str} {a b : Expr} {p pos : Pos} (hg : Gl X x) (hd : (x == ("__debug__" : Str)) = false) (hm : X.mg x = none) (hs : isStar a = false) (hs2 : isStar b = false) : DE B Wx X (.Call (.Name x p) [a, b] [] pos) (call2 U r Γ x a b) := by
  unfold call2
  split
  · rename_i hx
    subst hx
    exact de_v2B (vv_max c.calm) hg hm boot_max (by decide) hd hs hs2 (R.E c a) (R.E c b)
  · split
    · rename_i hx
      subst hx
      exact de_v2B (vv_min c.calm) hg hm boot_min (by decide) hd hs hs2 (R.E c a) (R.E c b)
    · split
      · rename_i hx
        subst hx
        split
        · split
          · rename_i hf
            split
            · rename_i t ht
              exact de_isi1 c.K hg hm (tyN_ok c hf ht) hs (R.E c a)
            · exact de_bad
          · exact de_bad
        · split
          · rename_i l hl
            split
            · rename_i hz
              obtain ⟨e1, e2⟩ := tyNs_ok c hl
              rw [e1]
              exact de_isiT c.K hg hm e2 hz hs (R.E c a)
            · exact de_bad
          · exact de_bad
        · exact de_bad
      · exact de_bad
theorem cf_ok (R : Snd B U k r) (c : Cok B U k Γ Wx X) {x : Str} {es : List Expr} {p pos : Pos} : DE B Wx X (.Call (.Name x p) es [] pos) (callF U r Γ x es) := by
  unfold callF
  split
  · rename_i hs
    split
    · rename_i hgl
      obtain ⟨a, b⟩ := isGl_ok c hgl
      split
      · rename_i n hn
        cases es with
        | nil => exact de_call0 c.K c.tk c.room (c.defs _ _ hn) a b
        | cons e es => exact de_call c.K c.tk c.room (c.defs _ _ hn) a b hs (R.A c _)
      · split
        · rename_i hf
          split
          · rename_i e
            exact c1_ok R c a b (c.free _ hf) (by simpa using hs)
          · rename_i e1 e2
            have hs' : isStar e1 = false ∧ isStar e2 = false := by simpa using hs
            exact c2_ok R c a b (c.free _ hf) hs'.1 hs'.2
          · exact de_bad
        · exact de_bad
    · split
      · rename_i i e es hi
        obtain ⟨a, b, d, f⟩ := slotOf_ok c hi
        exact de_callV c.K c.tk c.room c.defs hs (de_var a b d f) (R.A c _) rfl
      · exact de_bad
  · exact de_bad
theorem mth_ok (R : Snd B U k r) (c : Cok B U k Γ Wx X) {o e : Expr} {name : Str} {apos cpos : Pos} : DE B Wx X (.Call (.Attribute o name apos) [e] [] cpos) (mth r Γ o name apos cpos e) := by
  unfold mth
  split
  · rename_i h
    obtain ⟨h1, h2, h3⟩ := h
    have M1 : attributeBase o name X.env (eval o X.env) = eval o X.env := by
      cases o <;> first | rfl | cases h1
    have M : MthOk X o e name apos cpos := ⟨M1, by rw [starEach_plain1 h2]; rfl, by rw [h3]; exact beq_self_eq_true _, h2⟩
    split
    · rename_i hx
      subst hx
      exact de_app c.K M (R.E c _) (R.E c _)
    · split
      · rename_i hx
        subst hx
        exact de_index c.K c.un M (R.E c _) (R.E c _)
      · exact de_bad
  · exact de_bad

/-! ### expressions -/
theorem bo_ok (R : Snd B U k r) (c : Cok B U k Γ Wx X) : ∀ (op : BoolOp) (es : List Expr) (pos : Pos), DE B Wx X (.BoolOp op es pos) (boE r Γ op es)
  | op, [], pos => by
    have : boE r Γ op [] = dBad := by cases op <;> rfl
    rw [this]
    exact de_bad
  | op, [a], pos => by
    have : boE r Γ op [a] = r.E Γ a := by cases op <;> rfl
    rw [this]
    exact de_one (R.E c a)
  | .And, a :: b :: es, pos => de_and c.K (R.E c a) (bo_ok R c .And (b :: es) pos)
  | .Or, a :: b :: es, pos => de_or c.K (R.E c a) (bo_ok R c .Or (b :: es) pos)
theorem bt_ok (R : Snd B U k r) (c : Cok B U k Γ Wx X) : ∀ (op : BoolOp) (es : List Expr) (pos : Pos), es ≠ [] → DW B Wx X (.BoolOp op es pos) (boT r Γ op es)
  | op, [], pos, h => absurd rfl h
  | op, [a], pos, _ => by
    have : boT r Γ op [a] = r.T Γ a := by cases op <;> rfl
    rw [this]
    exact dw_one (R.T c a)
  | .And, a :: b :: es, pos, _ => dw_and (R.T c a) (bt_ok R c .And (b :: es) pos (fun h => nomatch h))
  | .Or, a :: b :: es, pos, _ => dw_or (R.T c a) (bt_ok R c .Or (b :: es) pos (fun h => nomatch h))
theorem part_ok (R : Snd B U k r) (c : Cok B U k Γ Wx X) (o : Option Expr) : DO B Wx X o (partE r Γ o) := by
  unfold partE
  split
  · exact do_none
  · exact do_some (R.E c _)
theorem ix_ok (R : Snd B U k r) (c : Cok B U k Γ Wx X) {a b : Expr} {pos : Pos} (h : isSlice b = false) : DE B Wx X (.Subscript a b pos) (cIx (r.E Γ a) (r.E Γ b)) := by
  refine de_ix c.K (R.E c a) (R.E c b) ?_
  cases b <;> first | exact fun o i => rfl | cases h
theorem name_ok (c : Cok B U k Γ Wx X) {x : Str} {p : Pos} : DE B Wx X (.Name x p) (match slotOf U Γ x with
    | some i => cVar i
    | none => if isGl Γ x = true then (match U.cst x with
      | some w => cVal w
      | none => dBad) else dBad) := by
  split
  · rename_i i hi
    obtain ⟨a, b, d, f⟩ := slotOf_ok c hi
    exact de_var a b d f
  · split
    · rename_i hg
      obtain ⟨a, b⟩ := isGl_ok c hg
      split
      · rename_i w hw
        obtain ⟨u, v, e1, e2, e3⟩ := c.cst _ _ hw
        exact de_val (pe_glob a e1 e2 b) e3
      · exact de_bad
    · exact de_bad
theorem notslice {b : Expr} (h : ∀ a x c d, b = .Slice a x c d → False) : isSlice b = false := by
  cases b <;> first | rfl | exact (h _ _ _ _ rfl).elim
theorem e_ok (R : Snd B U k r) (c : Cok B U k Γ Wx X) (e : Expr) : DE B Wx X e (eE U r Γ e) := by
  unfold eE
  split
  · exact de_val pe_int fun _ _ => .int _
  · exact de_val pe_bl fun _ _ => .bl _
  · exact de_val pe_str fun _ _ => .str _
  · exact de_val pe_non fun _ _ => .non
  · exact name_ok c
  · exact de_bin c.K c.room' (R.E c _) (R.E c _)
  · exact de_not c.K (R.E c _)
  · exact de_neg (R.E c _)
  · exact bo_ok R c _ _ _
  · split
    · rename_i h
      exact de_cmp c.K c.un (R.E c _) (R.E c _) h
    · exact de_bad
  · split
    · rename_i h
      exact de_chain c.K c.un (R.E c _) (R.E c _) (R.E c _) h
    · exact de_bad
  · exact de_if (R.T c _) (R.E c _) (R.E c _)
  · exact de_tup (R.A c _)
  · split
    · exact de_sl c.K (R.E c _) (part_ok R c _) (part_ok R c _)
    · exact de_rev c.K (R.E c _)
    · exact de_bad
    · rename_i h3
      exact ix_ok R c (notslice h3)
  · exact de_fresh (R.L c _)
  · exact de_fresh (R.L c _)
  · split
    · exact de_fresh (R.L c _)
    · exact cf_ok R c
  · exact mth_ok R c
  · exact de_bad
theorem t_ok (R : Snd B U k r) (c : Cok B U k Γ Wx X) (e : Expr) : DT B Wx X e (tE r Γ e) := by
  cases e with
  | UnaryOp op a p =>
    cases op with
    | Not => exact dt_not (R.T c _)
    | _ => exact dt_val c.K (R.E c _) fun _ => rfl
  | BoolOp op es p =>
    cases es with
    | nil =>
      have : tE r Γ (.BoolOp op [] p) = dtBad := by cases op <;> rfl
      rw [this]
      exact dt_bad
    | cons a es => exact (bt_ok R c op (a :: es) p (fun h => nomatch h)).dt
  | Compare a ops es p =>
    unfold tE
    split
    · rename_i h
      cases h
    · rename_i h
      cases h
    · rename_i h
      cases h
      split
      · rename_i h
        exact dt_cmp c.K c.un (R.E c _) (R.E c _) h
      · exact dt_bad
    · rename_i h
      cases h
      split
      · rename_i h
        exact dt_chain c.K c.un (R.E c _) (R.E c _) (R.E c _) h
      · exact dt_bad
    · exact dt_bad
    · exact dt_bad
    · rename_i hc hi
      exact (hc _ _ _ _ rfl).elim
  | IfExp _ _ _ _ => exact dt_bad
  | _ => exact dt_val c.K (R.E c _) fun _ => rfl
theorem a_ok (R : Snd B U k r) (c : Cok B U k Γ Wx X) (es : List Expr) : DA B Wx X es (aE r Γ es) := by
  unfold aE
  split
  · exact da_nil
  · split
    · exact da_bad
    · rename_i h
      have h : isStar _ = false := Bool.eq_false_iff.mpr h
      exact da_cons (R.E c _) (R.A c _) (starEach_cons h)
end
end Wv
end
section
set_option Elab.async false
set_option linter.all false
set_option maxRecDepth 100000
set_option maxHeartbeats 4000000
/-! Core P of ours: statements, all levels. -/
namespace Wv
open PySem PySem.Spec L2
open PyProof.Rows hiding St

section
variable {B : Base} {U : Setup} {k : Nat} {Γ : Gam} {Wx : WX} {X : Cx} {r : Ev}
theorem any_star (vs : List Expr) (g : Expr → Bool) (h : ∀ y, g y = isStar y) : vs.any g = vs.any isStar := congrArg (fun f => vs.any f) (funext h)
theorem swNames_eq (line : Nat) (ts : List Expr) (g : Expr → Option Str) (h : ∀ y, g y = (match y with
    | .Name id pos => if kOf Γ id == some .local && pos.line == line then some id else none
    | _ => none)) : ts.filterMap g = swNames Γ line ts := congrArg (fun f => ts.filterMap f) (funext fun y => by
  rw [h]
  all_goals (cases y <;> rfl))
theorem swOf_ok (hs : X.env.scope = Γ.sc) (hb : X.env.blockKind = .function) {tg e : Expr} {o : Option (List Str)} (h : swOf Γ tg e = some o) : swappedStores [tg] e X.env = pure o := by
  unfold swOf at h
  split at h
  · rename_i ts k1 p1 vs k2 p2
    unfold swappedStores
    dsimp only
    rw [hb]
    split at h
    · rename_i z
      cases h
      have z' : (!(ts.length == 2 || ts.length == 3) || vs.length != ts.length || ScopeKind.function != ScopeKind.function) = true := by rw [z]; rfl
      rw [if_pos z']
    · rename_i z
      have z' : ¬ (!(ts.length == 2 || ts.length == 3) || vs.length != ts.length || ScopeKind.function != ScopeKind.function) = true := by
        have e2 : (ScopeKind.function != ScopeKind.function) = false := by decide
        rw [e2, Bool.or_false]
        exact z
      rw [if_neg z']
      rw [any_star]
      rotate_left
      · intro y
        cases y <;> rfl
      split at h
      · rename_i y
        cases h
        rw [if_pos y]
      · rename_i y
        rw [if_neg y]
        dsimp only at h ⊢
        rw [swNames_eq (Γ := Γ) ((ts.head?.map (·.pos.line)).getD 0)]
        rotate_left
        · intro y
          cases y <;> first | rfl | (dsimp only; unfold Env.kindOf kOf; rw [hs])
        split at h
        · rename_i q
          cases h
          rw [if_pos q]
        · rename_i q
          rw [if_neg q]
          split at h
          · rename_i q2
            cases h
            rw [if_pos q2]
          · rename_i q2
            rw [if_neg q2]
            split at h
            · cases h
            · rename_i q3
              cases h
              rw [if_neg q3]
  · rename_i hn
    cases h
    cases e <;> first | rfl | exact (hn _ _ _ rfl).elim
  · cases h
    rfl
  · cases h
    rfl
  · cases h
theorem swB_eq (hs : X.env.scope = Γ.sc) (hb : X.env.blockKind = .function) {tg elt : Expr} {gens : List Comprehension} {scope : Scope} {pos : Pos} {line : Nat} (ht : tg = tg) : swapsWith (.ListComp elt gens scope pos) (some tg) line X.env = pure (swB Γ tg scope pos.line) := by
  cases tg with
  | Name t p =>
    unfold swapsWith swB kOf Env.kindOf
    dsimp only
    rw [hb, hs]
    rfl
  | _ => rfl
theorem nosw {e : Expr} (h : isComp e = false) (t : Option Expr) (line : Nat) (env : Env) : swapsWith e t line env = pure false := by
  cases e <;> first | rfl | cases h
theorem noswS {e tg : Expr} (h : isComp e = false) (line : Nat) (env : Env) : swapsWithSole [tg] e line env = pure false := nosw h _ _ _
theorem asg1 {tg : Expr} (h : isStar tg = false) (env : Env) : (assignEach [tg] env).map (·.2) = [assign tg env] := by
  rw [assignEach_cons h]
  rfl
theorem swOf_star {tg e : Expr} {o : Option (List Str)} (h : swOf Γ tg e = some o) : isStar tg = false := by
  cases tg <;> first | rfl | (unfold swOf at h; cases h)
theorem par_ok (R : Snd B U k r) (c : Cok B U k Γ Wx X) (f : Fok X) {tg e : Expr} {ns : List Str} {pos : Pos} (h : swOf Γ tg e = some (some ns)) : DS B Wx X (.Assign [tg] e pos) (parS U r Γ ns tg e) := by
  have hw := swOf_ok c.sc f.bk h
  unfold parS
  split
  · split
    · rename_i i j e1 e2
      split
      · rename_i z
        obtain ⟨z1, z2, z3, z4⟩ := z
        subst z1
        exact ds_par2 c.calm (by rw [c.N]; exact c.nd) (by rw [c.N]; exact place_ok e1) (by rw [c.N]; exact place_ok e2) z2 (isLoc_ok c z3) (isLoc_ok c z4) (R.A c _) hw
      · exact ds_bad
    · exact ds_bad
  · split
    · rename_i i j l e1 e2 e3
      split
      · rename_i z
        obtain ⟨z1, ⟨z2, z3, z4⟩, z5, z6, z7⟩ := z
        subst z1
        exact ds_par3 c.calm (by rw [c.N]; exact c.nd) (by rw [c.N]; exact place_ok e1) (by rw [c.N]; exact place_ok e2) (by rw [c.N]; exact place_ok e3) z2 z3 z4 (isLoc_ok c z5) (isLoc_ok c z6) (isLoc_ok c z7) (R.A c _) hw
      · exact ds_bad
    · exact ds_bad
  · exact ds_bad
theorem dead_comp (i : Nat) : ∀ ρ s, sAsg (cFresh daBad) (gNm i) ρ s = .bad := fun _ _ => rfl
theorem swB_loc {y : Str} {py : Pos} {scope : Scope} {l : Nat} (c : Cok B U k Γ Wx X) (h : swB Γ (.Name y py) scope l = true) : X.env.scope.names.lookup y = some .local := by
  unfold swB at h
  simp only [Bool.and_eq_true] at h
  rw [c.sc]
  exact eq_of_beq h.1.1.2
theorem lc_ok (R : Snd B U k r) (c : Cok B U k Γ Wx X) (f : Fok X) {elt : Expr} {gens : List Comprehension} {scope : Scope} {cpos spos py : Pos} {y : Str} {i : Nat} (hy : place y U.N = some i) (h : swB Γ (.Name y py) scope cpos.line = true) :
    DS B Wx X (.Assign [.Name y py] (.ListComp elt gens scope cpos) spos) (sAsg (cFresh (compO U r Γ elt scope gens)) (gNm i)) := by
  have hsw : swapsWith (.ListComp elt gens scope cpos) (some (.Name y py)) spos.line X.env = pure true := by rw [swB_eq c.sc f.bk rfl, h]
  have hN : X.N.Nodup := by rw [c.N]; exact c.nd
  have hy' : X.N[i]? = some y := by rw [c.N]; exact place_ok hy
  have hyl := swB_loc c h
  unfold compO
  split
  · rename_i g
    split
    · rename_i ha
      obtain ⟨tg, iter, ifs, as⟩ := g
      have ha' : as = 0 := ha
      clear ha
      subst ha'
      rcases comp1_or (U := U) (r := r) (Γ := Γ) (elt := elt) (scope := scope) (g := ⟨tg, iter, ifs, 0⟩) with q | ⟨T, q⟩
      · rw [q]
        exact ds_dead (dead_comp i)
      · rw [q.eq]
        exact ds_setLc c.calm hN hy' hyl hsw (R.I c _ _) (blkOk_by (by rw [c.N, c.sc]; exact q.blk)) q.sl (fun s H C cl fp => tg_ok (c.blk s H scope cl C fp) 5 _ _ q.tg) (fun s H C cl fp => ifs_ok R (c.blk s H scope cl C fp) _) (fun s H C cl fp => R.E (c.blk s H scope cl C fp) _) (noset q.ns _)
    · exact ds_dead (dead_comp i)
  · rename_i g g1
    split
    · rename_i ha
      obtain ⟨tg, iter, ifs, as⟩ := g
      obtain ⟨tg1, iter1, ifs1, as1⟩ := g1
      have ha' : as = 0 := ha.1
      have hb' : as1 = 0 := ha.2
      clear ha
      subst ha' hb'
      rcases comp2_or (U := U) (r := r) (Γ := Γ) (elt := elt) (scope := scope) (g := ⟨tg, iter, ifs, 0⟩) (g1 := ⟨tg1, iter1, ifs1, 0⟩) with q | ⟨T, T1, q⟩
      · rw [q]
        exact ds_dead (dead_comp i)
      · rw [q.eq]
        exact ds_setLc2 c.calm hN hy' hyl hsw (R.I c _ _) (blkOk_by (by rw [c.N, c.sc]; exact q.blk)) q.sl (fun i hi => hi) q.sl1 (fun s H C cl fp => tg_ok (c.blk s H scope cl C fp) 5 _ _ q.tg) (fun s H C cl fp => ifs_ok R (c.blk s H scope cl C fp) _)
          (fun s H C cl fp => R.I (c.blk s H scope cl C fp) _ _) (fun s H C cl fp => tg_ok (c.blk s H scope cl C fp) 5 _ _ q.tg1) (fun s H C cl fp => ifs_ok R (c.blk s H scope cl C fp) _) (fun s H C cl fp => R.E (c.blk s H scope cl C fp) _) (noset q.ns _) (fun env => noset q.ns1 env)
    · exact ds_dead (dead_comp i)
  · exact ds_dead (dead_comp i)
theorem asg_gen (R : Snd B U k r) (c : Cok B U k Γ Wx X) (f : Fok X) {tg e : Expr} {pos : Pos} (hw : swOf Γ tg e = some none) (hs : swapsWithSole [tg] e pos.line X.env = pure false) : DS B Wx X (.Assign [tg] e pos) (sAsg (r.E Γ e) (gOf U r Γ 5 tg)) :=
  ds_asg (g_tame 5 tg) (R.E c e) (gg_ok R c 5 tg) hs (swOf_ok c.sc f.bk hw) (asg1 (swOf_star hw) _)
theorem asg_ok (R : Snd B U k r) (c : Cok B U k Γ Wx X) (f : Fok X) {tg e : Expr} {pos : Pos} : DS B Wx X (.Assign [tg] e pos) (asgS U r Γ tg e) := by
  unfold asgS
  split
  · rename_i elt gens scope cpos
    split
    · rename_i h
      split
      · split
        · rename_i hy
          exact lc_ok R c f hy h
        · exact ds_bad
      · exact ds_bad
    · rename_i h
      split
      · rename_i hw
        have z := swB_eq (tg := tg) (elt := elt) (gens := gens) (scope := scope) (pos := cpos) (line := pos.line) c.sc f.bk rfl
        rw [Bool.eq_false_iff.mpr h] at z
        exact asg_gen R c f hw z
      · exact ds_bad
  · exact ds_bad
  · exact ds_bad
  · rename_i h1 h2 h3
    have hc : isComp e = false := by
      cases e <;> first | rfl | exact (h1 _ _ _ _ rfl).elim | exact (h2 _ _ _ _ rfl).elim | exact (h3 _ _ _ _ _ rfl).elim
    split
    · rename_i hw
      exact asg_gen R c f hw (noswS hc _ _)
    · rename_i hw
      exact par_ok R c f hw
    · exact ds_bad

/-! ### suites of except clauses -/
theorem cold_ok {n : Nat} {e : Expr} {w : W} (h : cold n e = some w) : DE B Wx X e (cVal w) := by
  unfold cold at h
  split at h
  · cases h
    exact de_val pe_int fun _ _ => .int _
  · cases h
    exact de_val pe_bl fun _ _ => .bl _
  · cases h
    exact de_val pe_str fun _ _ => .str _
  · cases h
    exact de_val pe_non fun _ _ => .non
  · cases h
theorem colds_ok : ∀ {es : List Expr} {ws : List W}, colds es = some ws → DA B Wx X es (fun _ h => .ok ws h)
  | [], ws, h => by
    unfold colds at h
    cases h
    exact da_nil
  | e :: es, ws, h => by
    unfold colds at h
    split at h
    · rename_i w ws' e1 e2 e3
      cases h
      exact da_cons (cold_ok e2) (colds_ok e3) (starEach_cons e1)
    · cases h
theorem one_ret {e : Expr} {p : Pos} {w : W} (d : DE B Wx X e (cVal w)) : DSs B Wx X [.Return (some e) p] (sRet (cVal w)) := dss_cons (ds_ret d) dss_nil
theorem coldS_ok {sts : List Stmt} {w : W} (h : coldS sts = some w) : DSs B Wx X sts (sRet (cVal w)) := by
  unfold coldS at h
  split at h
  · split at h
    · rename_i ws hws
      split at h
      · rename_i hz
        cases h
        have e : cTup (fun _ h => .ok ws h) = cVal (.tup ws) := by
          funext ρ s
          show (if ws.length ≤ 16777216 then Out.ok (W.tup ws) s else .bad) = _
          rw [if_pos hz]
          rfl
        have d : ∀ (x1 : Nat) (pos : Pos), DE B Wx X (.Tuple _ x1 pos) (cVal (.tup ws)) := fun x1 pos => e ▸ de_tup (x1 := x1) (pos := pos) (colds_ok (B := B) (Wx := Wx) (X := X) hws)
        exact one_ret (d _ _)
      · cases h
    · cases h
  · exact one_ret (cold_ok h)
  · cases h

/-! ### statements -/
theorem s_ok (R : Snd B U k r) (c : Cok B U k Γ Wx X) (f : Fok X) (st : Stmt) : DS B Wx X st (sE U r Γ st) := by
  unfold sE
  split
  · exact ds_ret (R.E c _)
  · exact ds_retN
  · exact ds_pass
  · exact ds_break
  · exact ds_cont
  · split
    · rename_i h
      exact ds_expr (R.E c _) (nosw h _ _ _)
    · exact ds_bad
  · exact ds_if (R.T c _) (R.S c f _) (R.S c f _)
  · exact ds_while f.pass (R.T c _) (R.S c f _)
  · split
    · rename_i h
      split
      · rename_i T hT
        exact ds_for f.pass c.calm (noset h _) (R.I c _ _) (tg_ok c 5 _ _ hT) (R.S c f _)
      · exact ds_bad
    · exact ds_bad
  · split
    · rename_i h
      obtain ⟨a, b⟩ := isGl_ok c h.1
      exact ds_raise c.K c.calm c.tk (c.exc _ h.2) a b
    · exact ds_bad
  · split
    · rename_i h
      obtain ⟨a, b⟩ := isGl_ok c h.1
      obtain ⟨C, e1, e2⟩ := c.cls _ h.2
      split
      · rename_i w hw
        exact ds_try c.K f.stk f.fr c.ct e1 ⟨a, b, .inl e2⟩ (fun W pn xe tk p => R.S (c.tr tk) (f.tr p) _) (fun a pn => coldS_ok hw)
      · exact ds_bad
    · exact ds_bad
  · exact asg_ok R c f
  · exact ds_bad
theorem ss_ok (R : Snd B U k r) (c : Cok B U k Γ Wx X) (f : Fok X) (sts : List Stmt) : DSs B Wx X sts (ssE U r Γ sts) := by
  unfold ssE
  split
  · exact dss_nil
  · exact dss_cons (s_ok R c f _) (R.S c f _)
theorem snd_step (R : Snd B U k r) : Snd B U k (step U r) := ⟨fun c e => e_ok R c e, fun c e => t_ok R c e, fun c e => a_ok R c e, fun c e => l_ok R c e, fun c tg e => i_ok R c tg e, fun c f sts => ss_ok R c f sts⟩
theorem snd_ev : ∀ n : Nat, Snd B U k (ev U n)
  | 0 => snd_bad
  | n + 1 => snd_step (snd_ev n)
end
end Wv
end
section
set_option Elab.async false
set_option linter.all false
set_option maxRecDepth 100000
set_option maxHeartbeats 4000000
/-! Core Q of ours: defs that call one another, as one plain function. -/
namespace Wv
open PySem PySem.Spec L2
open PyProof.Rows hiding St

structure Fn where
  name : Str
  n : Nat
  N : List Str
  scope : Scope
  body : List Stmt
structure Prg where
  fns : List Fn
  cst : Str → Option W
  free : Str → Bool
  exc : Str → Bool
  cls : Str → Bool
  ct : Catch
def findF (f : Str) : List Fn → Option Fn
  | [] => none
  | F :: l => if F.name = f then some F else findF f l
theorem findF_mem {f : Str} {F : Fn} : ∀ {l : List Fn}, findF f l = some F → F ∈ l ∧ F.name = f
  | [], h => by unfold findF at h; cases h
  | G :: l, h => by
    unfold findF at h
    split at h
    · rename_i e
      cases h
      exact ⟨List.mem_cons_self, e⟩
    · obtain ⟨a, b⟩ := findF_mem h
      exact ⟨List.mem_cons_of_mem _ a, b⟩

/-! ### what is new may be forgotten -/
mutual
def belowW (n : Nat) : W → Bool
  | .ref k => decide (k < n)
  | .tup ws => belowWs n ws
  | .kls ws => belowWs n ws
  | _ => true
def belowWs (n : Nat) : List W → Bool
  | [] => true
  | w :: ws => belowW n w && belowWs n ws
end
def belowK (n : Nat) : List (Key × W) → Bool
  | [] => true
  | p :: ws => belowW n p.2 && belowK n ws
def belowO (n : Nat) : Ob → Bool
  | .lst ws => belowWs n ws
  | .dic ws => belowK n ws
def keepOk (h0 h1 : Store) : Prop := h0.length ≤ h1.length ∧ ∀ (i : Nat) (o : Ob), i < h0.length → h1[i]? = some o → h0[i]? = some o ∨ belowO h0.length o = true
section
variable {B : Base} {m t : List Addr} {H H' : Hp}
mutual
theorem rep_cut : ∀ (w : W) (v : V), rep B (m ++ t) H w v → belowW m.length w = true → rep B m H w v
  | .non, v, q, _ => by unfold rep at q ⊢; exact q
  | .bl _, v, q, _ => by unfold rep at q ⊢; exact q
  | .int _, v, q, _ => by unfold rep at q ⊢; exact q
  | .str _, v, q, _ => by unfold rep at q ⊢; exact q
  | .glo _, v, q, _ => by unfold rep at q ⊢; exact q
  | .kls ws, v, q, b => by
    unfold rep at q ⊢
    unfold belowW at b
    obtain ⟨a, vs, e, s, z⟩ := q
    exact ⟨a, vs, e, s, reps_cut ws vs z b⟩
  | .ref n, v, q, b => by
    unfold rep at q ⊢
    unfold belowW at b
    obtain ⟨a, e, z⟩ := q
    exact ⟨a, e, by rw [List.getElem?_append_left (of_decide_eq_true b)] at z; exact z⟩
  | .tup ws, v, q, b => by
    unfold rep at q ⊢
    unfold belowW at b
    obtain ⟨a, vs, e, s, z⟩ := q
    exact ⟨a, vs, e, s, reps_cut ws vs z b⟩
theorem reps_cut : ∀ (ws : List W) (vs : List V), reps B (m ++ t) H ws vs → belowWs m.length ws = true → reps B m H ws vs
  | [], vs, q, _ => by unfold reps at q ⊢; exact q
  | w :: ws, vs, q, b => by
    unfold reps at q ⊢
    unfold belowWs at b
    obtain ⟨b1, b2⟩ := Bool.and_eq_true_iff.mp b
    obtain ⟨v, r, e, z, zs⟩ := q
    exact ⟨v, r, e, rep_cut w v z b1, reps_cut ws r zs b2⟩
end
theorem repk_cut : ∀ (ws : List (Key × W)) (vs : List (Key × V)), repk B (m ++ t) H ws vs → belowK m.length ws = true → repk B m H ws vs
  | [], vs, q, _ => by unfold repk at q ⊢; exact q
  | w :: ws, vs, q, b => by
    unfold repk at q ⊢
    unfold belowK at b
    obtain ⟨b1, b2⟩ := Bool.and_eq_true_iff.mp b
    obtain ⟨v, r, e, z, zs⟩ := q
    exact ⟨v, r, e, rep_cut _ v z b1, repk_cut ws r zs b2⟩
mutual
theorem rep_below : ∀ (w : W) (v : V), rep B m H w v → belowW m.length w = true
  | .non, v, q => rfl
  | .bl _, v, q => rfl
  | .int _, v, q => rfl
  | .str _, v, q => rfl
  | .glo _, v, q => rfl
  | .kls ws, v, q => by
    unfold rep at q
    obtain ⟨a, vs, e, s, z⟩ := q
    unfold belowW
    exact reps_below ws vs z
  | .ref n, v, q => by
    unfold rep at q
    obtain ⟨a, e, z⟩ := q
    unfold belowW
    exact decide_eq_true (List.getElem?_eq_some_iff.mp z).1
  | .tup ws, v, q => by
    unfold rep at q
    obtain ⟨a, vs, e, s, z⟩ := q
    unfold belowW
    exact reps_below ws vs z
theorem reps_below : ∀ (ws : List W) (vs : List V), reps B m H ws vs → belowWs m.length ws = true
  | [], vs, q => rfl
  | w :: ws, vs, q => by
    unfold reps at q
    obtain ⟨v, r, e, z, zs⟩ := q
    unfold belowWs
    rw [rep_below w v z, reps_below ws r zs]
    rfl
end
theorem repk_below : ∀ (ws : List (Key × W)) (vs : List (Key × V)), repk B m H ws vs → belowK m.length ws = true
  | [], vs, q => rfl
  | w :: ws, vs, q => by
    unfold repk at q
    obtain ⟨v, r, e, z, zs⟩ := q
    unfold belowK
    rw [rep_below _ v z, repk_below ws r zs]
    rfl
theorem obOk.below {o : Ob} {a : Addr} (q : obOk B m H o a) : belowO m.length o = true := by
  cases o with
  | lst ws => obtain ⟨vs, _, r⟩ := q; exact reps_below ws vs r
  | dic ws => obtain ⟨vs, _, r⟩ := q; exact repk_below ws vs r
theorem obOk.cut {o : Ob} {a : Addr} (q : obOk B (m ++ t) H o a) (b : belowO m.length o = true) : obOk B m H o a := by
  cases o with
  | lst ws => obtain ⟨vs, e, r⟩ := q; exact ⟨vs, e, reps_cut ws vs r b⟩
  | dic ws => obtain ⟨vs, e, r⟩ := q; exact ⟨vs, e, repk_cut ws vs r b⟩
theorem cut_sim {m' : List Addr} {h h' : Store} (S : Sim B m h H) (S' : Sim B m' h' H') (G : Go m H m' H') (k : keepOk h h') : Sim B m (h'.take h.length) H' ∧ Go m H m H' ∧ ∀ w v, belowW h.length w = true → rep B m' H' w v → rep B m H' w v := by
  obtain ⟨t, e, f⟩ := G.pre
  subst e
  refine ⟨⟨by rw [List.length_take, S.len, Nat.min_eq_left k.1], S.nd, fun n a o h1 h2 => ?_⟩, ⟨⟨[], (List.append_nil m).symm, fun _ z => nomatch z⟩, G.keep, G.tup⟩, fun w v hb r => rep_cut w v r (by rw [S.len]; exact hb)⟩
  have hn : n < m.length := (List.getElem?_eq_some_iff.mp h1).1
  have hn' : n < h.length := by rw [← S.len]; exact hn
  rw [List.getElem?_take_of_lt hn'] at h2
  have q := S'.ob n a o (by rw [List.getElem?_append_left hn]; exact h1) h2
  refine q.cut ?_
  rcases k.2 n o hn' h2 with z | z
  · exact (S.ob n a o h1 z).below
  · rw [S.len]
    exact z
end
open Classical in
noncomputable def cutR (h0 : Store) (w : W) (h1 : Store) : Out W := if belowW h0.length w = true ∧ keepOk h0 h1 then .ok w (h1.take h0.length) else .ok w h1
open Classical in
noncomputable def cutX (h0 : Store) (e : Exn) (h1 : Store) : Out W := if e.fld = none ∧ keepOk h0 h1 then .exc e (h1.take h0.length) else .exc e h1
noncomputable def finish (h0 : Store) : SO → Out W
  | .ret w h1 => cutR h0 w h1
  | .next _ h1 => cutR h0 .non h1
  | .exc e _ h1 => cutX h0 e h1
  | _ => .bad
def startR (N : List Str) (ws : List W) : Rho := ws.map some ++ List.replicate (N.length - ws.length) none
def evFuel : Nat := 40
def setOf (P : Prg) (F : Fn) (k : Nat) (call : CallT) : Setup := ⟨F.N, fun f => (findF f P.fns).map (·.n), P.cst, P.free, P.exc, P.cls, P.ct, decide (32 ≤ k), call⟩
noncomputable def bodyOf (P : Prg) (F : Fn) (k : Nat) (call : CallT) : DenS := (ev (setOf P F k call) evFuel).S ⟨F.scope, fun _ => true⟩ F.body
noncomputable def callK (P : Prg) : Nat → CallT
  | 0 => fun _ _ _ => .bad
  | k + 1 => fun f ws h => match findF f P.fns with
    | some F => if ws.length = F.n then finish h (bodyOf P F k (callK P k) (startR F.N ws) h) else .bad
    | none => .bad
section
variable {B : Base} {m : List Addr} {H : Hp} {h : Store}
theorem slots_start {N : List Str} {ws : List W} {vs : List V} (r : reps B m H ws vs) : slots B m H (startR N ws) (L2.start N vs) := by
  have hl := r.length
  unfold startR L2.start
  refine ⟨by simp [hl], fun i w e => ?_⟩
  by_cases hi : i < ws.length
  · rw [List.getElem?_append_left (by simpa using hi), List.getElem?_map] at e
    cases q : ws[i]? with
    | none => rw [q] at e; cases e
    | some w' =>
      rw [q] at e
      cases e
      obtain ⟨v, e2, r2⟩ := r.get q
      exact ⟨v, by rw [List.getElem?_append_left (by simpa [← hl] using hi), List.getElem?_map, e2]; rfl, r2⟩
  · rw [List.getElem?_append_right (by simpa using hi), List.getElem?_replicate] at e
    split at e <;> cases e
theorem PV.cutR {m' : List Addr} {H' : Hp} {w : W} {h1 : Store} {Q : VK} {E : Exn → List Addr → Hp → Prop} (S : Sim B m h H) (p : PV B m H (cutR h w h1) (QE B Q) E) (S' : Sim B m' h1 H') (G : Go m H m' H') {v : V} (r : rep B m' H' w v) : Q v H' := by
  unfold Wv.cutR at p
  split at p
  · rename_i c
    obtain ⟨a, b, d⟩ := cut_sim S S' G c.2
    exact p m H' a b v (d w v c.1 r)
  · exact p m' H' S' G v r
theorem repX_cut {m' : List Addr} {H' : Hp} {e : Exn} {cls : Value} {d : Option Addr} (hf : e.fld = none) (r : repX B m' H' e cls d) : repX B m H' e cls d := by
  unfold repX at r ⊢
  rw [hf] at r ⊢
  exact r
theorem PV.cutX {m' : List Addr} {H' : Hp} {e : Exn} {h1 : Store} {Q : W → Store → List Addr → Hp → Prop} {E : XK} (S : Sim B m h H) (p : PV B m H (cutX h e h1) Q (fun e m' H' => ∀ cls d, repX B m' H' e cls d → E cls d H')) (S' : Sim B m' h1 H') (G : Go m H m' H') {cls : Value} {d : Option Addr} (r : repX B m' H' e cls d) : E cls d H' := by
  unfold Wv.cutX at p
  split at p
  · rename_i c
    obtain ⟨a, b, _⟩ := cut_sim S S' G c.2
    exact p m H' a b cls d (repX_cut c.1 r)
  · exact p m' H' S' G cls d r
end

/-! ### each def keeps its promise -/
/-- what the head tells of the program's names -/
structure World1 (B : Base) (P : Prg) (Q : Program) (w : World) (mg : Str → Option Value) (base : Heap) : Prop where
  fns : ∀ F ∈ P.fns, ∃ (fa : Addr) (fd : FuncData) (pa : Arguments), mg F.name = some (.ref fa) ∧ B.G F.name = some (.ref fa) ∧ FunD B.K F.name F.name pa F.body F.scope [] [] fa fd ∧ Binds B.K fd (F.N.take F.n) []
  sc : ∀ F ∈ P.fns, FnScope F.N (F.N.take F.n) F.scope ∧ (F.N.take F.n).length = F.n
  cst : ∀ x w, P.cst x = some w → ∃ u v, mg x = some u ∧ RelV v u ∧ ∀ m H, rep B m H w v
  free : ∀ x, P.free x = true → mg x = none
  exc : ∀ x, P.exc x = true → ExcAt B mg x
  cls : ∀ x, P.cls x = true → ∃ C : Addr, B.G x = some (.ref C) ∧ mg x = some (.ref C)
  ct : CatchOk B P.ct
  seer : base.NoSeer
  tree : Q.given.tree = none
theorem fnAt {B : Base} {P : Prg} {Q : Program} {w : World} {mg : Str → Option Value} {base : Heap} (Z : World1 B P Q w mg base) : ∀ (k : Nat) (f : Str) (n : Nat), (findF f P.fns).map (·.n) = some n → FnAt B (callK P k) Q w mg base k f n
  | 0, f, n, h => by
    cases q : findF f P.fns with
    | none => rw [q] at h; cases h
    | some F =>
      rw [q] at h
      cases h
      obtain ⟨hm, rfl⟩ := findF_mem q
      obtain ⟨fa, fd, pa, e1, e2, e3, e4⟩ := Z.fns F hm
      refine ⟨fa, fd, F.N.take F.n, e1, e2, e3.kp, e4, ⟨fun vs H Q E sp => ?_, fun A outer s H args us vs Q E _ _ _ _ sp => ?_⟩⟩
      · obtain ⟨m, h, ws, _, r, hl, _⟩ := sp
        exact r.length.symm.trans (hl.trans (Z.sc F hm).2.symm)
      · obtain ⟨m, h, ws, _, r, hl, p⟩ := sp
        exact p.elim
  | k + 1, f, n, h => by
    cases q : findF f P.fns with
    | none => rw [q] at h; cases h
    | some F =>
      rw [q] at h
      cases h
      obtain ⟨hm, hf⟩ := findF_mem q
      subst hf
      obtain ⟨fa, fd, pa, e1, e2, e3, e4⟩ := Z.fns F hm
      obtain ⟨S1, S2⟩ := Z.sc F hm
      refine ⟨fa, fd, F.N.take F.n, e1, e2, e3.kp, e4, e3.ok S1 (fun vs H Q E sp => ?_) (fun cdv A outer s H vs Qv E hr sp => ?_)⟩
      · obtain ⟨m, h, ws, _, r, hl, _⟩ := sp
        exact r.length.symm.trans (hl.trans S2.symm)
      · obtain ⟨m, h, ws, S, r, hl, p⟩ := sp
        have tk : Takes (cxOf (L2.CX Q w) Q w B.K mg base F.N F.name F.scope fa cdv A outer s H E) (fun cls d _ H' => E cls d H') := takes_of rfl rfl rfl rfl
        have fk : Fok (cxOf (L2.CX Q w) Q w B.K mg base F.N F.name F.scope fa cdv A outer s H E) := ⟨passes_of rfl, rfl, rfl, by
          show (if F.scope.kind.isAnnotationScope = true then ScopeKind.function else F.scope.kind) = .function
          rw [S1.kind]
          rfl⟩
        have ck : Cok B (setOf P F k (callK P k)) k ⟨F.scope, fun _ => true⟩ (fun cls d _ H' => E cls d H') (cxOf (L2.CX Q w) Q w B.K mg base F.N F.name F.scope fa cdv A outer s H E) := ⟨rfl, by have := hr.un; show (A.deeper _).units + 65 < cLine; omega, rfl, S1.nd, rfl, fun _ _ => rfl, rfl, tk, hr, fun f n h => fnAt Z k f n h, Z.cst, Z.free, Z.exc, Z.cls, Z.ct,
          fun hb => ⟨Z.seer, Z.tree, by
            have hk : 32 ≤ k := of_decide_eq_true hb
            have := hr.dp
            show (A.deeper _).depth + Builtin.pylongFrames < recursionLimit
            have e : Builtin.pylongFrames = 100 := rfl
            rw [e]
            omega, _, _, rfl, S1.gen, S1.co, rfl, rfl⟩⟩
        have d := (snd_ev (B := B) (k := k) (U := setOf P F k (callK P k)) evFuel).S ck fk F.body
        refine ⟨_, d, m, h, startR F.N ws, S, slots_start r, ?_⟩
        show PSV B m H (bodyOf P F k (callK P k) (startR F.N ws) h) _
        have p : PV B m H (callK P (k + 1) F.name ws h) (QE B Qv) (fun e m' H' => ∀ cls d, repX B m' H' e cls d → E cls d H') := p
        unfold callK at p
        rw [q] at p
        dsimp only at p
        rw [if_pos hl] at p
        cases z : bodyOf P F k (callK P k) (startR F.N ws) h with
        | next ρ h1 =>
          rw [z] at p
          exact fun m' H' S' G' σ' _ => p.cutR S S' G' .non
        | ret w h1 =>
          rw [z] at p
          exact fun m' H' S' G' v rv => p.cutR S S' G' rv
        | exc e ρ h1 =>
          rw [z] at p
          exact fun m' H' S' G' σ' cls d _ rx => p.cutX S S' G' rx
        | brk ρ h1 =>
          rw [z] at p
          exact p.elim
        | cont ρ h1 =>
          rw [z] at p
          exact p.elim
        | bad =>
          rw [z] at p
          exact p.elim
end Wv
end
section
set_option Elab.async false
set_option linter.all false
set_option maxRecDepth 100000
set_option maxHeartbeats 4000000
/-! Core R of ours: written constants, the law's call. -/
namespace Wv
open PySem PySem.Spec L2
open PyProof.Rows hiding St

/-- a written value as it lies in the module's part -/
def litA (f : W → Value → Bool) : List W → List Value → Bool
  | [], [] => true
  | w :: ws, u :: us => f w u && litA f ws us
  | _, _ => false
def litB (K : PySem.W.Frag) : Nat → W → Value → Bool
  | _, .non, .none => true
  | _, .bl b, .bool c => decide (b = c)
  | _, .int i, .int j _ => decide (i = j)
  | _, .str x, .str y _ => decide (x = y)
  | n + 1, .tup ws, .ref a => (match K.lookup a with
    | some ⟨.type c, _, .seq its _, _⟩ => decide (c = "tuple") && (decide (its.size ≤ 1000) && litA (litB K n) ws its.toList)
    | _ => false)
  | _, _, _ => false
theorem litA_ok {B : Base} {f : W → Value → Bool} (hf : ∀ w u, f w u = true → ∃ v, RelV v u ∧ ∀ m H, rep B m H w v) : ∀ {ws : List W} {us : List Value}, litA f ws us = true → ∃ vs, Vals vs us ∧ ∀ m H, reps B m H ws vs
  | [], [], _ => ⟨[], .nil, fun _ _ => .nil⟩
  | w :: ws, u :: us, h => by
    unfold litA at h
    obtain ⟨h1, h2⟩ := Bool.and_eq_true_iff.mp h
    obtain ⟨v, r, k⟩ := hf w u h1
    obtain ⟨vs, rs, ks⟩ := litA_ok hf h2
    exact ⟨v :: vs, .cons r rs, fun m H => .cons (k m H) (ks m H)⟩
  | [], _ :: _, h => by unfold litA at h; cases h
  | _ :: _, [], h => by unfold litA at h; cases h
theorem litB_ok {B : Base} : ∀ (n : Nat) (w : W) (u : Value), litB B.K n w u = true → ∃ v, RelV v u ∧ ∀ m H, rep B m H w v
  | n, w, u, h => by
    unfold litB at h
    split at h
    · exact ⟨.non, rfl, fun _ _ => .non⟩
    · cases of_decide_eq_true h
      exact ⟨.bl _, rfl, fun _ _ => .bl _⟩
    · cases of_decide_eq_true h
      exact ⟨.int _, ⟨_, rfl⟩, fun _ _ => .int _⟩
    · cases of_decide_eq_true h
      exact ⟨.str _, ⟨_, rfl⟩, fun _ _ => .str _⟩
    · rename_i n ws a
      split at h
      · rename_i c od its k sl q
        obtain ⟨h1, h2⟩ := Bool.and_eq_true_iff.mp h
        obtain ⟨h2, h3⟩ := Bool.and_eq_true_iff.mp h2
        obtain ⟨vs, r, ks⟩ := litA_ok (litB_ok n) h3
        have hc : c = "tuple" := of_decide_eq_true h1
        have hz := of_decide_eq_true h2
        refine ⟨.ref a, rfl, fun m H => ?_⟩
        unfold rep
        exact ⟨a, vs, rfl, .inr ⟨_, its, k, q, by rw [hc], rfl, by rw [sizeLine_eq]; omega, r⟩, ks m H⟩
      · cases h
    · cases h
/-- the constant x of the module is w -/
def cstB (K : PySem.W.Frag) (p : Str × W) : Bool := match PySem.W.nsIn K mainGlobals p.1 with
  | some (some u) => litB K 6 p.2 u
  | _ => false
theorem cstB_ok {B : Base} {h : Heap} {mg : Str → Option Value} (X : B.K.In h) (G : h.Ns mainGlobals mg) {p : Str × W} (e : cstB B.K p = true) : ∃ u v, mg p.1 = some u ∧ RelV v u ∧ ∀ m H, rep B m H p.2 v := by
  unfold cstB at e
  split at e
  · rename_i u q
    obtain ⟨v, r, k⟩ := litB_ok 6 _ _ e
    exact ⟨u, v, PySem.W.mg_of X G q, r, k⟩
  · cases e

/-! ### the law's own call, with what a division of great ints asks of the ground -/
theorem call_here {P : Prg} {Q : Program} {w : World} {B : Base} {mg mb : Str → Option Value} {k : Nat} {f a : Addr} {x : Str} {s1 : Shared} {us : List Value} {ns : List Int}
    (hK : B.K.In s1.heap) (hmg : s1.heap.Ns mainGlobals mg) (hmb : s1.heap.Ns builtinsNs mb) (hbt : ∀ y : Str, y ≠ "__name__" → mb y = bootBuiltins y) (hno : s1.heap.NoLimit) (hse : s1.heap.NoSeer) (hge : s1.gens = #[])
    (hob : s1.heap.get? a = some { cls := .type "list", data := .seq us.toArray }) (hin : IntsAre us ns) (hsz : ns.length ≤ sizeLine) (room : Room k callerA)
    (Z : ∀ base : Heap, B.K.In base → base.Ns mainGlobals mg → base.NoSeer → World1 B P Q w mg base) (hf : B.G x = some (.ref f)) (hx : (findF x P.fns).map (·.n) = some 1)
    (law : callK P k x [.kls (ns.map W.int)] [] = .ok (.bl true) []) :
    codeAny (model Q w) callerA (.call (.ref f) ⟨[.ref a], []⟩) (fun r s2 => r = .ok (.ret (.bool true)) ∧ OldK s1.heap s2.heap ∧ s2.os = s1.os ∧ AllBare s2.gens) s1 := by
  have rel : Vals (ns.map V.int) us := vals_ints hin
  have same := hin.length
  have main : ∀ T : Hp, (∀ b, T b = none ∨ (b = a ∧ ∃ o xs, T b = some (.frz o (.lst xs)))) → KL B.K T a (ns.map V.int) → HOk Q w T s1.heap → (T a ≠ none → B.K.lookup a = none) →
      codeAny (model Q w) callerA (.call (.ref f) ⟨[.ref a], []⟩) (fun r s2 => r = .ok (.ret (.bool true)) ∧ OldK s1.heap s2.heap ∧ s2.os = s1.os ∧ AllBare s2.gens) s1 := by
    intro T only kl good apart
    have clear : ∀ {b : Addr} {o : Obj}, s1.heap.get? b = some o → (∀ u n, o.data ≠ .seq u n) → T b = none := fun {b o} e d => by
      rcases only b with z | ⟨z, _⟩
      · exact z
      · rw [z, hob] at e
        cases e
        exact (d _ _ rfl).elim
    have stay : ∀ {b : Addr} {o : Obj}, s1.heap.get? b = some o → (∀ u n, o.data ≠ .seq u n) → (hidT s1.heap T).get? b = some o := fun e d => hidT_get e (clear e d)
    have names : ∀ {b : Addr} {m : Str → Option Value}, s1.heap.Ns b m → (hidT s1.heap T).Ns b m := fun {b m} ⟨o, es, ep, e, d, r⟩ => ⟨o, es, ep, stay e (fun u n z => by rw [d] at z; cases z), d, r⟩
    have ground : B.K.In (hidT s1.heap T) := fun b o e => hidT_get (hK b o e) (by
      rcases only b with z | ⟨z, _⟩
      · exact z
      · cases q : T b with
        | none => rfl
        | some v =>
          have zz := apart (by rw [← z, q]; simp)
          rw [z, zz] at e
          cases e)
    have seer : (hidT s1.heap T).NoSeer := by
      obtain ⟨mc, c1, c2, c3⟩ := hse.statics
      obtain ⟨mm, m1, m2⟩ := hse.mods
      obtain ⟨mi, i1, i2⟩ := hse.imp
      obtain ⟨mm2, bm, ob, g1, g2, g3, g4, g5⟩ := hse.main
      refine ⟨⟨mc, names c1, c2, c3⟩, ⟨mm, names m1, m2⟩, ⟨mi, names i1, i2⟩, ⟨mm2, bm, ob, names g1, g2, hidT_get g3 ?_, g4, g5⟩⟩
      rcases only bm with z | ⟨z, _⟩
      · exact z
      · rw [z, hob] at g3
        cases g3
        exact absurd (Value.type.inj g4) (by decide)
    have place : Mod B.K mg (hidT s1.heap T) := ⟨ground, names hmg, ⟨mb, names hmb, hbt⟩, let ⟨mc, h1, h2⟩ := hno; ⟨mc, names h1, h2⟩⟩
    have start : Env0 Q w B.K mg (hidT s1.heap T) callerA [] s1 T := ⟨rfl, place, fun b o e => of_hidT e, Nat.le_of_eq (hidT_size _ _), trivial, fun b hb => (List.not_mem_nil hb).elim, good, .of_eq hge⟩
    obtain ⟨f2, fd, ps, _, hg, _, hb, ok⟩ := (fnAt (Z _ ground (names hmg) seer) k x 1 hx).ex
    have ef : f2 = f := by
      rw [hf] at hg
      cases hg
      rfl
    subst ef
    have sp : spD B (callK P k) 1 x [.ref a] T (fun v _ => v = .bl true) (fun _ _ _ => False) := by
      refine ⟨[], [], [.kls (ns.map W.int)], ⟨rfl, List.nodup_nil, fun n a o e => by simp at e⟩, .cons ?_ .nil, rfl, ?_⟩
      · unfold rep
        refine ⟨a, ns.map V.int, rfl, kl, ?_⟩
        have go : ∀ l : List Int, reps B [] T (l.map W.int) (l.map V.int) := fun l => by
          induction l with
          | nil => exact .nil
          | cons i l ih => exact .cons (.int i) ih
        exact go ns
      · rw [law]
        exact fun m' H' S' G' v r => r.bl_
    have hl := ok.len _ _ _ _ sp
    refine codeAny_mono (ok.run callerA [] s1 T ⟨[.ref a], []⟩ [.ref a] [.ref a] _ _ room start (hb s1 [.ref a] hK (by simpa using hl)) (.cons rfl .nil) sp) fun r s2 h => ?_
    cases r with
    | error e =>
      obtain ⟨_, _, _, _, _, _, _, _, _, _, _, _, z⟩ := h
      exact z.elim
    | ok fl =>
      cases fl with
      | ret u =>
        obtain ⟨v, T', os, bare, un, good', r', q⟩ := h
        have q' : v = .bl true := q
        subst q'
        obtain rfl : u = Value.bool true := r'
        refine ⟨rfl, OldK.of_keep fun b o e => ?_, os, bare⟩
        rcases only b with z | ⟨_, ob, xs, z⟩
        · exact un.keep b o e z (fun z => (List.not_mem_nil z).elim) (fun z => (List.not_mem_nil z).elim)
        · have z2 := un.frzs b ob _ z
          obtain ⟨e1, _⟩ := good b _ z
          obtain ⟨e2, _⟩ := good' b _ z2
          rw [e] at e1
          cases e1
          exact e2
      | _ => exact False.elim h
  cases hk : B.K.lookup a with
  | some o =>
    have e := hK a o hk
    rw [hob] at e
    cases e
    exact main (fun _ => none) (fun _ => .inl rfl) (.inr ⟨_, us.toArray, _, hk, rfl, rfl, rfl, by rw [List.size_toArray, same]; exact hsz, by simpa using rel⟩) (fun b u z => by cases z) fun z => (z rfl).elim
  | none =>
    refine main (fun b => if b = a then some (.frz { cls := .type "list", data := .seq us.toArray } (.lst (ns.map V.int))) else none) (fun b => ?_) (.inl ⟨_, if_pos rfl⟩) (fun b u z => ?_) fun _ => hk
    · by_cases hb : b = a
      · exact .inr ⟨hb, _, _, if_pos hb⟩
      · exact .inl (if_neg hb)
    · by_cases hb : b = a
      · have z' := (if_pos hb).symm.trans z
        cases z'
        subst hb
        exact ⟨hob, by rw [List.length_map]; exact hsz, us, _, rel, hob⟩
      · have z' := (if_neg hb).symm.trans z
        cases z'
/-- the goal behind the head -/
theorem walkW {l : PySem.W.OpenLaw} {n k : Nat} {q : Program} {loose : List Str} {XP : (Str → Option Value) → Heap → Prop} {YP : World → Heap → Prop} {d : DefRec} {P : Prg} (hn : l.most = some n) (hn2 : n ≤ sizeLine) (hdf : d.params.defaults = []) (room : Room k callerA) (hq : importsNone q = true)
    (F : ∀ (w : World) (mg : Str → Option Value) (f : Addr) (h : Heap), YP w h → h.Ns mainGlobals mg → mg d.name = some (.ref f) → ∃ B : Base, B.K.In h ∧ (∀ base : Heap, B.K.In base → base.Ns mainGlobals mg → base.NoSeer → World1 B P l.prog w mg base) ∧ B.G d.name = some (.ref f))
    (hx : (findF d.name P.fns).map (·.n) = some 1) (law : ∀ ns : List Int, ns.length ≤ n → callK P k d.name [.kls (ns.map W.int)] [] = .ok (.bl true) []) :
    PySem.W.WalkO q loose XP YP l.row.toRowW d [] (fun f vs => PySem.call f vs) := by
  refine Att.attach_call hn hdf fun w s0 s1 mg mb f o pm cd doc a vs ns G Y ho hd hcd hmg hobj hints hlen hg => ?_
  obtain ⟨B, b1, b2, b3⟩ := F w mg f _ Y G.T.g hmg
  exact call_here b1 G.T.g G.T.b G.T.builtins G.T.nolimit (G.T.seer hq) hg hobj hints (Nat.le_trans hlen hn2) room b2 b3 hx (law ns hlen)
end Wv
end
section
set_option Elab.async false
set_option linter.all false
set_option maxRecDepth 100000
set_option maxHeartbeats 4000000
/-! Core S of ours: a program by its lists, and what the head tells of it. -/
namespace Wv
open PySem PySem.Spec L2
open PyProof.Rows hiding St

def assoc {α : Type} (x : Str) : List (Str × α) → Option α
  | [] => none
  | p :: l => if p.1 = x then some p.2 else assoc x l
theorem assoc_mem {α : Type} {x : Str} {a : α} : ∀ {l : List (Str × α)}, assoc x l = some a → (x, a) ∈ l
  | [], h => by unfold assoc at h; cases h
  | p :: l, h => by
    unfold assoc at h
    split at h
    · rename_i e
      cases h
      subst e
      exact List.mem_cons_self
    · exact List.mem_cons_of_mem _ (assoc_mem h)
def memS (x : Str) : List Str → Bool
  | [] => false
  | y :: l => if y = x then true else memS x l
theorem memS_mem {x : Str} : ∀ {l : List Str}, memS x l = true → x ∈ l
  | [], h => by unfold memS at h; cases h
  | y :: l, h => by
    unfold memS at h
    split at h
    · rename_i e
      rw [e]
      exact List.mem_cons_self
    · exact List.mem_cons_of_mem _ (memS_mem h)
def exmL (e c : Str) : List (Str × Str × Bool) → Option Bool
  | [] => none
  | p :: l => if p.1 = e ∧ p.2.1 = c then some p.2.2 else exmL e c l
theorem exmL_mem {e c : Str} {b : Bool} : ∀ {l : List (Str × Str × Bool)}, exmL e c l = some b → (e, c, b) ∈ l
  | [], h => by unfold exmL at h; cases h
  | p :: l, h => by
    unfold exmL at h
    split at h
    · rename_i q
      cases h
      obtain ⟨q1, q2⟩ := q
      subst q1 q2
      exact List.mem_cons_self
    · exact List.mem_cons_of_mem _ (exmL_mem h)
def mkPrg (fns : List Fn) (gn fr ex cl : List Str) (em : List (Str × Str × Bool)) (cs : List (Str × W)) : Prg :=
  ⟨fns, fun x => match assoc x cs with
    | some w => some w
    | none => if memS x gn = true then some (.glo x) else none, fun x => memS x fr, fun x => memS x ex, fun x => memS x cl, fun e c => exmL e c em⟩
def mkFa (gn fr ex : List Str) (em : List (Str × Str × Bool)) : List He.Fa := gn.map He.Fa.glo ++ (fr.map He.Fa.free ++ (ex.map He.Fa.exc ++ em.map fun p => He.Fa.exm p.1 p.2.1 p.2.2))
def AllF (p : Fn → Prop) : List Fn → Prop
  | [] => True
  | F :: l => p F ∧ AllF p l
theorem AllF.mem {p : Fn → Prop} : ∀ {l : List Fn}, AllF p l → ∀ F ∈ l, p F
  | [], _, F, h => nomatch h
  | G :: l, a, F, h => by
    rcases List.mem_cons.mp h with e | h
    · rw [e]
      exact a.1
    · exact AllF.mem a.2 F h
/-- the names' ground -/
def gB (K : PySem.W.Frag) : Base := ⟨K, fun x => some (.ref (He.ga K x))⟩
def FnTold (K : PySem.W.Frag) (mg : Str → Option Value) (F : Fn) : Prop := ∃ (fa : Addr) (fd : FuncData) (pa : Arguments), mg F.name = some (.ref fa) ∧ (gB K).G F.name = some (.ref fa) ∧ FunD K F.name F.name pa F.body F.scope [] [] fa fd ∧ Binds K fd (F.N.take F.n) []
def scAll (fns : List Fn) : Bool := fns.all fun F => C8.scC F.N (F.N.take F.n) F.scope && decide ((F.N.take F.n).length = F.n)
theorem world_of {fns : List Fn} {gn fr ex cl : List Str} {em : List (Str × Str × Bool)} {cs : List (Str × W)} {fn : List He.DefD} {K : PySem.W.Frag} {h base : Heap} {mg : Str → Option Value} {Q : Program} {w : World}
    (X : K.In h) (G : h.Ns mainGlobals mg) (c : He.SaysD (mkFa gn fr ex em) fn K) (more : cs.all (cstB K) = true) (hcl : ∀ x ∈ cl, x ∈ gn) (hex : ∀ x ∈ ex, x ∈ gn) (told : AllF (FnTold K mg) fns) (sc : scAll fns = true) (tree : Q.given.tree = none) (seer : base.NoSeer) :
    World1 (gB K) (mkPrg fns gn fr ex cl em cs) Q w mg base := by
  have glo : ∀ x ∈ gn, mg x = some (.ref (He.ga K x)) := fun x hx => He.glo_ok X G (c.facts (List.mem_append_left _ (List.mem_map.mpr ⟨x, hx, rfl⟩)))
  have fre : ∀ x ∈ fr, mg x = none := fun x hx => He.free_ok X G (c.facts (List.mem_append_right _ (List.mem_append_left _ (List.mem_map.mpr ⟨x, hx, rfl⟩))))
  have exc : ∀ x ∈ ex, (He.Fa.exc x).ok K = true := fun x hx => c.facts (List.mem_append_right _ (List.mem_append_right _ (List.mem_append_left _ (List.mem_map.mpr ⟨x, hx, rfl⟩))))
  have exm : ∀ p ∈ em, (He.Fa.exm p.1 p.2.1 p.2.2).ok K = true := fun p hp => c.facts (List.mem_append_right _ (List.mem_append_right _ (List.mem_append_right _ (List.mem_map.mpr ⟨p, hp, rfl⟩))))
  refine ⟨fun F hF => told.mem F hF, fun F hF => ?_, fun x u hx => ?_, fun x hx => fre x (memS_mem hx), fun x hx => ?_, fun x hx => ?_, fun e d b hb E C hE hC => ?_, seer, tree⟩
  · have z := List.all_eq_true.mp sc F hF
    obtain ⟨z1, z2⟩ := Bool.and_eq_true_iff.mp z
    exact ⟨C8.fnScope_by z1, of_decide_eq_true z2⟩
  · have hx' : (match assoc x cs with
      | some w => some w
      | none => if memS x gn = true then some (W.glo x) else none) = some u := hx
    split at hx'
    · rename_i w' q
      cases hx'
      exact cstB_ok (B := gB K) X G (List.all_eq_true.mp more _ (assoc_mem q))
    · split at hx'
      · rename_i q
        cases hx'
        refine ⟨_, .ref (He.ga K x), glo x (memS_mem q), rfl, fun m H => ?_⟩
        unfold rep
        rfl
      · cases hx'
  · have hx := memS_mem hx
    obtain ⟨a, b, d, e⟩ := He.exc_ok (exc x hx)
    exact ⟨He.ga K x, glo x (hex x hx), rfl, a, b, d, e⟩
  · exact ⟨He.ga K x, rfl, glo x (hcl x (memS_mem hx))⟩
  · cases hE
    cases hC
    exact He.exm_ok (exm _ (exmL_mem hb))
end Wv
end
section
set_option Elab.async false
set_option linter.all false
set_option maxRecDepth 100000
set_option maxHeartbeats 4000000
/-! Core T of ours: tools for the plain part. -/
namespace Wv
open PySem L2

/-! ### the end of a def -/
theorem cutR_same (w : W) (h : Store) : cutR h w h = .ok w h := by
  unfold cutR
  split
  · rw [List.take_length]
  · rfl
theorem keep_app (h t : Store) : keepOk h (h ++ t) := ⟨by simp, fun i o hi e => by
  rw [List.getElem?_append_left hi] at e
  exact .inl e⟩
theorem cutR_app {w : W} {h t : Store} (b : belowW h.length w = true) : cutR h w (h ++ t) = .ok w h := by
  unfold cutR
  rw [if_pos ⟨b, keep_app h t⟩, List.take_left']
  rfl
theorem cutR_of {w : W} {h h1 h2 : Store} (b : belowW h.length w = true) (l : h2.length = h.length) (k : h1.take h.length = h2) (o : ∀ (i : Nat) (x : Ob), h2[i]? = some x → h[i]? = some x ∨ belowO h.length x = true) : cutR h w h1 = .ok w h2 := by
  have hl : h.length ≤ h1.length := by
    have := congrArg List.length k
    rw [List.length_take, l] at this
    omega
  unfold cutR
  rw [if_pos ⟨b, hl, fun i x hi e => o i x (by rw [← k, List.getElem?_take_of_lt hi]; exact e)⟩, k]
theorem cutX_same (e : Exn) (h : Store) : cutX h e h = .exc e h := by
  unfold cutX
  split
  · rw [List.take_length]
  · rfl
theorem cutX_app {e : Exn} {h t : Store} (b : e.fld = none) : cutX h e (h ++ t) = .exc e h := by
  unfold cutX
  rw [if_pos ⟨b, keep_app h t⟩, List.take_left']
  rfl
/-! ### values without names of lists -/
mutual
def flatR : W → Bool
  | .ref _ => false
  | .tup ws => flatRs ws
  | .kls ws => flatRs ws
  | _ => true
def flatRs : List W → Bool
  | [] => true
  | w :: ws => flatR w && flatRs ws
end
mutual
theorem flat_below (n : Nat) : ∀ w : W, flatR w = true → belowW n w = true
  | .non, _ => rfl
  | .bl _, _ => rfl
  | .int _, _ => rfl
  | .str _, _ => rfl
  | .glo _, _ => rfl
  | .ref _, h => by unfold flatR at h; cases h
  | .tup ws, h => by
    unfold flatR at h
    unfold belowW
    exact flats_below n ws h
  | .kls ws, h => by
    unfold flatR at h
    unfold belowW
    exact flats_below n ws h
theorem flats_below (n : Nat) : ∀ ws : List W, flatRs ws = true → belowWs n ws = true
  | [], _ => rfl
  | w :: ws, h => by
    unfold flatRs at h
    obtain ⟨h1, h2⟩ := Bool.and_eq_true_iff.mp h
    unfold belowWs
    rw [flat_below n w h1, flats_below n ws h2]
    rfl
end
theorem flatRs_map {α : Type} {f : α → W} (hf : ∀ a, flatR (f a) = true) : ∀ l : List α, flatRs (l.map f) = true
  | [] => rfl
  | a :: l => by
    rw [List.map_cons]
    unfold flatRs
    rw [hf a, flatRs_map hf l]
    rfl
theorem flatR_tup {α : Type} {f : α → W} (hf : ∀ a, flatR (f a) = true) (l : List α) : flatR (.tup (l.map f)) = true := by
  unfold flatR
  exact flatRs_map hf l
theorem gdOk_nil (h : Store) : gdOk [] h := fun p hp => nomatch hp
theorem gdOk_one {n : Nat} {ws : List W} {h : Store} (e : lst? h n = some ws) : gdOk [(n, ws)] h := fun p hp => by
  rw [List.mem_singleton.mp hp]
  exact e

/-! ### loops -/
theorem forL_inv {g : Gd} {T : Tgt} {body : DenS} (J : List W → Rho → Store → Prop) (hg : ∀ ws ρ h, J ws ρ h → gdOk g h)
    (hs : ∀ w ws ρ h, J (w :: ws) ρ h → ∃ ρ1, T.bind w ρ = some ρ1 ∧ ∃ ρ2 h2, (body ρ1 h = .next ρ2 h2 ∨ body ρ1 h = .cont ρ2 h2) ∧ J ws ρ2 h2) :
    ∀ (ws : List W) (ρ : Rho) (h : Store), J ws ρ h → ∃ ρ2 h2, forL g T body ws ρ h = .next ρ2 h2 ∧ J [] ρ2 h2
  | [], ρ, h, j => ⟨ρ, h, by unfold forL; rw [if_pos (hg _ _ _ j)], j⟩
  | w :: ws, ρ, h, j => by
    obtain ⟨ρ1, e1, ρ2, h2, e2, j2⟩ := hs w ws ρ h j
    obtain ⟨ρ3, h3, e3, j3⟩ := forL_inv J hg hs ws ρ2 h2 j2
    refine ⟨ρ3, h3, ?_, j3⟩
    unfold forL
    rw [if_pos (hg _ _ _ j), e1]
    rcases e2 with e2 | e2
    · dsimp only
      rw [e2]
      exact e3
    · dsimp only
      rw [e2]
      exact e3
theorem compL_inv {g : Gd} {T : Tgt} {tt : DenT} {te : Den} {ρ0 : Rho} (J : List W → List W → Store → Prop) (hg : ∀ ws acc h, J ws acc h → gdOk g h)
    (hs : ∀ w ws acc h, J (w :: ws) acc h → ∃ ρ1, T.bind w ρ0 = some ρ1 ∧ ((∃ h1, tt ρ1 h = .ok false h1 ∧ J ws acc h1) ∨ ∃ h1 v h2, tt ρ1 h = .ok true h1 ∧ te ρ1 h1 = .ok v h2 ∧ acc.length < 16777216 ∧ J ws (acc ++ [v]) h2)) :
    ∀ (ws acc : List W) (h : Store), J ws acc h → ∃ acc2 h2, compL g T tt te ρ0 ws acc h = .ok acc2 h2 ∧ J [] acc2 h2
  | [], acc, h, j => ⟨acc, h, by unfold compL; rw [if_pos (hg _ _ _ j)], j⟩
  | w :: ws, acc, h, j => by
    obtain ⟨ρ1, e1, ⟨h1, e2, j2⟩ | ⟨h1, v, h2, e2, e3, e4, j2⟩⟩ := hs w ws acc h j
    · obtain ⟨a3, h3, e5, j3⟩ := compL_inv J hg hs ws acc h1 j2
      refine ⟨a3, h3, ?_, j3⟩
      unfold compL
      rw [if_pos (hg _ _ _ j), e1]
      dsimp only
      rw [e2]
      exact e5
    · obtain ⟨a3, h3, e5, j3⟩ := compL_inv J hg hs ws (acc ++ [v]) h2 j2
      refine ⟨a3, h3, ?_, j3⟩
      unfold compL
      rw [if_pos (hg _ _ _ j), e1]
      dsimp only
      rw [e2]
      dsimp only
      rw [e3]
      dsimp only
      rw [if_pos e4]
      exact e5
/-- elements that change nothing -/
theorem compL_map {g : Gd} {T : Tgt} {tt : DenT} {te : Den} {ρ0 : Rho} {α : Type} {enc : α → W} {f : α → W} {p : α → Bool} {h : Store} (hg : gdOk g h) : ∀ (xs : List α) (acc : List W), acc.length + xs.length ≤ 16777216 →
    (∀ x ∈ xs, ∃ ρ1, T.bind (enc x) ρ0 = some ρ1 ∧ tt ρ1 h = .ok (p x) h ∧ (p x = true → te ρ1 h = .ok (f x) h)) → compL g T tt te ρ0 (xs.map enc) acc h = .ok (acc ++ (xs.filter p).map f) h
  | [], acc, _, _ => by
    rw [List.map_nil]
    unfold compL
    rw [if_pos hg]
    simp
  | x :: xs, acc, hl, hx => by
    obtain ⟨ρ1, e1, e2, e3⟩ := hx x List.mem_cons_self
    have ih := fun acc hl => compL_map (f := f) (p := p) hg xs acc hl fun y hy => hx y (List.mem_cons_of_mem _ hy)
    rw [List.length_cons] at hl
    rw [List.map_cons]
    unfold compL
    rw [if_pos hg, e1]
    dsimp only
    rw [e2]
    cases q : p x with
    | false =>
      dsimp only
      rw [ih acc (by omega), List.filter_cons_of_neg (by rw [q]; exact Bool.false_ne_true)]
    | true =>
      dsimp only
      rw [e3 q]
      dsimp only
      rw [if_pos (by omega), ih (acc ++ [f x]) (by rw [List.length_append]; simp; omega), List.filter_cons_of_pos q]
      simp
theorem filter_true {α : Type} (xs : List α) : xs.filter (fun _ => true) = xs := List.filter_eq_self.mpr fun _ _ => rfl
/-- while, by a measure -/
theorem whileL_inv {t : DenT} {body : DenS} (J : Nat → Rho → Store → Prop)
    (hs : ∀ n ρ h, J n ρ h → (∃ h1, t ρ h = .ok false h1 ∧ J 0 ρ h1) ∨ (0 < n ∧ ∃ h1 ρ2 h2, t ρ h = .ok true h1 ∧ body ρ h1 = .next ρ2 h2 ∧ J (n - 1) ρ2 h2)) :
    ∀ (n f : Nat) (ρ : Rho) (h : Store), n < f → J n ρ h → ∃ ρ2 h1 h2, whileL t body f ρ h = .next ρ2 h2 ∧ t ρ2 h1 = .ok false h2 ∧ J 0 ρ2 h2
  | n, 0, ρ, h, hf, j => by omega
  | n, f + 1, ρ, h, hf, j => by
    rcases hs n ρ h j with ⟨h1, e1, j1⟩ | ⟨h0, h1, ρ2, h2, e1, e2, j2⟩
    · refine ⟨ρ, h, h1, ?_, e1, j1⟩
      unfold whileL
      rw [e1, Out.th_ok, if_neg Bool.false_ne_true]
    · obtain ⟨ρ3, h3, h4, e3, e4, j3⟩ := whileL_inv J hs (n - 1) f ρ2 h2 (by omega) j2
      refine ⟨ρ3, h3, h4, ?_, e4, j3⟩
      unfold whileL
      rw [e1, Out.th_ok, if_pos rfl, e2]
      exact e3
end Wv
end
section
set_option Elab.async false
set_option linter.all false
set_option maxRecDepth 100000
set_option maxHeartbeats 4000000
/-! Core U of ours: the combinators, applied; a tactic that steps. -/
namespace Wv
open PySem L2
section
variable (f g k : Den) (t t' : DenT) (fa : DenA) (fq : DenQ) (fi : DenI) (fo fo' : DenO) (s s' : DenS) (gg : DenG) (gs : DenGs) (ρ : Rho) (h : Store) (w : W) (op op' : Operator) (c c' : CmpOp) (big : Bool) (call : CallT)
@[simp] theorem a_val : cVal w ρ h = .ok w h := id rfl
@[simp] theorem a_var (i : Nat) : cVar i ρ h = match ρ[i]? with
  | some (some w) => .ok w h
  | _ => .bad := id rfl
@[simp] theorem a_bin : cBin big op f g ρ h = (f ρ h).bind fun x h1 => (g ρ h1).bind fun y h2 => Out.of (opBin big op x y h2) := id rfl
@[simp] theorem a_not : cNot f ρ h = (f ρ h).bind fun x h1 => ofB ((truW h1 x).map (!·)) h1 := id rfl
@[simp] theorem a_neg : cNeg f ρ h = (f ρ h).bind fun x h1 => Out.of (negW x h1) := id rfl
@[simp] theorem a_and : cAnd f g ρ h = (f ρ h).bind fun x h1 => match truW h1 x with
  | some true => g ρ h1
  | some false => .ok x h1
  | none => .bad := id rfl
@[simp] theorem a_or : cOr f g ρ h = (f ρ h).bind fun x h1 => match truW h1 x with
  | some true => .ok x h1
  | some false => g ρ h1
  | none => .bad := id rfl
@[simp] theorem a_cmp : cCmp c f g ρ h = (f ρ h).bind fun x h1 => (g ρ h1).bind fun y h2 => ofB (cmpW c x y h2) h2 := id rfl
@[simp] theorem a_chain : cChain c c' f g k ρ h = (f ρ h).bind fun x h1 => (g ρ h1).bind fun y h2 => match cmpW c x y h2 with
  | some true => (k ρ h2).bind fun z h3 => ofB (cmpW c' y z h3) h3
  | some false => .ok (.bl false) h2
  | none => .bad := id rfl
@[simp] theorem a_if : cIf t f g ρ h = (t ρ h).bind fun b h1 => if b = true then f ρ h1 else g ρ h1 := id rfl
@[simp] theorem a_nil : cNil ρ h = .ok [] h := id rfl
@[simp] theorem a_cons : cCons f fa ρ h = (f ρ h).bind fun x h1 => (fa ρ h1).bind fun xs h2 => .ok (x :: xs) h2 := id rfl
@[simp] theorem a_tup : cTup fa ρ h = (fa ρ h).bind fun xs h1 => if xs.length ≤ 16777216 then .ok (.tup xs) h1 else .bad := id rfl
@[simp] theorem a_ix : cIx f g ρ h = (f ρ h).bind fun x h1 => (g ρ h1).bind fun y h2 => match ixW h2 x y with
  | some w => .ok w h2
  | none => .bad := id rfl
@[simp] theorem a_nopart : cNoPart ρ h = .ok none h := id rfl
@[simp] theorem a_part : cPart f ρ h = (f ρ h).bind fun x h1 => match x with
  | .int i => .ok (some i) h1
  | _ => .bad := id rfl
@[simp] theorem a_sl : cSl f fo fo' ρ h = (f ρ h).bind fun x h1 => (fo ρ h1).bind fun l h2 => (fo' ρ h2).bind fun u h3 => Out.of (slW h3 x l u) := id rfl
@[simp] theorem a_rev : cRev f ρ h = (f ρ h).bind fun w h1 => match w with
  | .tup ws => .ok (.tup ws.reverse) h1
  | _ => .bad := id rfl
@[simp] theorem a_tval : tcVal f ρ h = (f ρ h).bind fun x h1 => ofT (truW h1 x) h1 := id rfl
@[simp] theorem a_tnot : tcNot t ρ h = (t ρ h).bind fun b h1 => .ok (!b) h1 := id rfl
@[simp] theorem a_tand : tcAnd t t' ρ h = (t ρ h).bind fun b h1 => if b = true then t' ρ h1 else .ok false h1 := id rfl
@[simp] theorem a_tor : tcOr t t' ρ h = (t ρ h).bind fun b h1 => if b = true then .ok true h1 else t' ρ h1 := id rfl
@[simp] theorem a_tcmp : tcCmp c f g ρ h = (f ρ h).bind fun x h1 => (g ρ h1).bind fun y h2 => ofT (cmpW c x y h2) h2 := id rfl
@[simp] theorem a_tchain : tcChain c c' f g k ρ h = (f ρ h).bind fun x h1 => (g ρ h1).bind fun y h2 => match cmpW c x y h2 with
  | some true => (k ρ h2).bind fun z h3 => ofT (cmpW c' y z h3) h3
  | some false => .ok false h2
  | none => .bad := id rfl
@[simp] theorem a_true : cTrue ρ h = .ok true h := id rfl
@[simp] theorem a_call (n : Nat) (x : Str) : cCall call n x fa ρ h = (fa ρ h).bind fun ws h1 => cArgs call n x ws h1 := id rfl
@[simp] theorem a_args (n : Nat) (x : Str) (ws : List W) : cArgs call n x ws h = if ws.length = n then call x ws h else .bad := id rfl
@[simp] theorem a_callV (d : Str → Option Nat) : cCallV call d f fa ρ h = (f ρ h).bind fun w h1 => match w with
  | .glo f => (match d f with
    | some n => (fa ρ h1).bind fun ws h2 => cArgs call n f ws h2
    | none => .bad)
  | _ => .bad := id rfl
@[simp] theorem a_q1 (q : Bool → List W → Store → Opt) : cQ1 q fq ρ h = (fq ρ h).bind fun z h1 => Out.of (q z.1 z.2 h1) := id rfl
@[simp] theorem a_v1 (q : W → Store → Opt) : cV1 q f ρ h = (f ρ h).bind fun w h1 => Out.of (q w h1) := id rfl
@[simp] theorem a_v2 (q : W → W → Store → Opt) : cV2 q f g ρ h = (f ρ h).bind fun w h1 => (g ρ h1).bind fun u h2 => Out.of (q w u h2) := id rfl
@[simp] theorem a_isi1 (x : String) : cIsi1 x f ρ h = (f ρ h).bind fun w h1 => match tyW h1 w with
  | some t => ofB (isOne t x) h1
  | none => .bad := id rfl
@[simp] theorem a_isiT (x : List String) : cIsiT x f ρ h = (f ρ h).bind fun w h1 => match tyW h1 w with
  | some t => ofB (isAny t x) h1
  | none => .bad := id rfl
@[simp] theorem a_seqF : cSeqF fa ρ h = (fa ρ h).bind fun ws h1 => .ok (false, ws) h1 := id rfl
@[simp] theorem a_seqV : cSeqV f ρ h = (f ρ h).bind fun w h1 => match seqOf h1 w with
  | some q => .ok q h1
  | none => .bad := id rfl
@[simp] theorem a_itF : cItF fa ρ h = (fa ρ h).bind fun ws h1 => .ok (ws, []) h1 := id rfl
@[simp] theorem a_itV : cItV f ρ h = (f ρ h).bind fun w h1 => match itOf h1 w with
  | some q => .ok q h1
  | none => .bad := id rfl
@[simp] theorem a_itR (r : List W → Option (List W)) : cItR r fa ρ h = (fa ρ h).bind fun ws h1 => match r ws with
  | some xs => .ok (xs, []) h1
  | none => .bad := id rfl
@[simp] theorem a_itS (r : Store → List W → Option (List W × Gd)) : cItS r fa ρ h = (fa ρ h).bind fun ws h1 => match r h1 ws with
  | some q => .ok q h1
  | none => .bad := id rfl
@[simp] theorem a_fresh : cFresh fa ρ h = (fa ρ h).bind fun ws h1 => .ok (.ref h1.length) (h1 ++ [.lst ws]) := id rfl
@[simp] theorem a_lst : cLst fa ρ h = (fa ρ h).bind fun ws h1 => if ws.length ≤ 16777216 then .ok ws h1 else .bad := id rfl
@[simp] theorem a_listQ : cListQ fq ρ h = (fq ρ h).bind fun q h1 => .ok q.2 h1 := id rfl
@[simp] theorem a_comp (vs : List Nat) (T : Tgt) : cComp fi vs T t f ρ h = (fi ρ h).bind fun q h1 => compL q.2 T t f (wipeR ρ vs) q.1 [] h1 := id rfl
@[simp] theorem a_app : cApp f g ρ h = (f ρ h).bind fun o h1 => match lstRef h1 o with
  | some n => (g ρ h1).bind fun w h2 => (match own? h2 n with
    | some ws => if ws.length < 16777216 then .ok .non (h2.set n (.lst (ws ++ [w]))) else .bad
    | none => .bad)
  | none => .bad := id rfl
@[simp] theorem a_seq : sSeq s s' ρ h = (s ρ h).seq s' := id rfl
@[simp] theorem a_skip : sSkip ρ h = .next ρ h := id rfl
@[simp] theorem a_ret : sRet f ρ h = (f ρ h).th ρ fun w h1 => .ret w h1 := id rfl
@[simp] theorem a_retN : sRetN ρ h = .ret .non h := id rfl
@[simp] theorem a_expr : sExpr f ρ h = (f ρ h).th ρ fun _ h1 => .next ρ h1 := id rfl
@[simp] theorem a_sif : sIf t s s' ρ h = (t ρ h).th ρ fun b h1 => if b = true then s ρ h1 else s' ρ h1 := id rfl
@[simp] theorem a_asg : sAsg f gg ρ h = (f ρ h).th ρ fun w h1 => gg w ρ h1 := id rfl
@[simp] theorem a_nm (i : Nat) : gNm i w ρ h = .next (ρ.set i (some w)) h := id rfl
@[simp] theorem a_sx : gSx f g w ρ h = (f ρ h).th ρ fun o h1 => (g ρ h1).th ρ fun i h2 => match o, i with
  | .ref n, .int k => (match own? h2 n with
    | some ws => (match ixN ws.length k with
      | some j => .next ρ (h2.set n (.lst (ws.set j w)))
      | none => .bad)
    | none => .bad)
  | _, _ => .bad := id rfl
@[simp] theorem a_tp (n : Nat) (ws : List W) : gTp n gs (.tup ws) ρ h = if ws.length = n then gs ws ρ h else .bad := id rfl
@[simp] theorem a_gsnil : gsNil [] ρ h = .next ρ h := id rfl
@[simp] theorem a_gscons (ws : List W) : gsCons gg gs (w :: ws) ρ h = (gg w ρ h).seq (gs ws) := id rfl
@[simp] theorem a_par2 (i j : Nat) : sPar2 i j fa ρ h = (fa ρ h).th ρ fun ws h1 => match ws with
  | [v, w] => .next ((ρ.set i (some v)).set j (some w)) h1
  | _ => .bad := id rfl
@[simp] theorem a_par3 (i j l : Nat) : sPar3 i j l fa ρ h = (fa ρ h).th ρ fun ws h1 => match ws with
  | [u, v, w] => .next (((ρ.set i (some u)).set j (some v)).set l (some w)) h1
  | _ => .bad := id rfl
@[simp] theorem a_for (T : Tgt) : sFor fi T s ρ h = (fi ρ h).th ρ fun q h1 => forL q.2 T s q.1 ρ h1 := id rfl
@[simp] theorem a_while : sWhile t s ρ h = whileL t s wFuel ρ h := id rfl
@[simp] theorem a_raise (x : Str) : sRaise x ρ h = .exc ⟨x, none⟩ ρ h := id rfl
@[simp] theorem a_of (w : W) : Out.of (some (w, h)) = .ok w h := id rfl
@[simp] theorem a_ofB (b : Bool) : ofB (some b) h = .ok (.bl b) h := id rfl
@[simp] theorem a_ofT (b : Bool) : ofT (some b) h = .ok b h := id rfl
end
theorem bind_cg {α β : Type} {o o' : Out α} {k : α → Store → Out β} (e : o = o') : o.bind k = o'.bind k := by rw [e]
theorem th_cg {α : Type} {o o' : Out α} {ρ : Rho} {k : α → Store → SO} (e : o = o') : o.th ρ k = o'.th ρ k := by rw [e]
theorem seq_cg {o o' : SO} {g : DenS} (e : o = o') : o.seq g = o'.seq g := by rw [e]
end Wv
end
section
set_option Elab.async false
set_option linter.all false
set_option maxRecDepth 100000
set_option maxHeartbeats 4000000
/-! Core V of ours: values, looked at. -/
namespace Wv
open PySem L2
section
variable (h h1 : Store) (i j : Int) (b c : Bool) (x y : Str) (ws us : List W) (f : Str) (n : Nat) (w : W) (ρ : Rho) (e : Exn) (big : Bool)
@[simp] theorem s_ty_n : tyW h .non = some "NoneType" := id rfl
@[simp] theorem s_ty_b : tyW h (.bl b) = some "bool" := id rfl
@[simp] theorem s_ty_i : tyW h (.int i) = some "int" := id rfl
@[simp] theorem s_ty_s : tyW h (.str x) = some "str" := id rfl
@[simp] theorem s_ty_t : tyW h (.tup ws) = some "tuple" := id rfl
@[simp] theorem s_tr_n : truW h .non = some false := id rfl
@[simp] theorem s_tr_b : truW h (.bl b) = some b := id rfl
@[simp] theorem s_tr_i : truW h (.int i) = some (i != 0) := id rfl
@[simp] theorem s_tr_t : truW h (.tup ws) = some (!ws.isEmpty) := id rfl
@[simp] theorem s_eq_i : cmpW .Eq (.int i) (.int j) h = some (i == j) := id rfl
@[simp] theorem s_ne_i : cmpW .NotEq (.int i) (.int j) h = some (!(i == j)) := id rfl
@[simp] theorem s_eq_b : cmpW .Eq (.bl b) (.bl c) h = some (b == c) := id rfl
@[simp] theorem s_lt : cmpW .Lt (.int i) (.int j) h = some (decide (i < j)) := id rfl
@[simp] theorem s_le : cmpW .LtE (.int i) (.int j) h = some (decide (i ≤ j)) := id rfl
@[simp] theorem s_gt : cmpW .Gt (.int i) (.int j) h = some (decide (j < i)) := id rfl
@[simp] theorem s_ge : cmpW .GtE (.int i) (.int j) h = some (decide (j ≤ i)) := id rfl
@[simp] theorem s_is_n : cmpW .Is .non .non h = some true := id rfl
@[simp] theorem s_is_t : cmpW .Is (.tup ws) .non h = some false := id rfl
@[simp] theorem s_is_i : cmpW .Is (.int i) .non h = some false := id rfl
@[simp] theorem s_is_b : cmpW .Is (.bl b) .non h = some false := id rfl
@[simp] theorem s_is_s : cmpW .Is (.str x) .non h = some false := id rfl
@[simp] theorem s_add : opBin big .Add (.int i) (.int j) h = some (.int (i + j), h) := id rfl
@[simp] theorem s_sub : opBin big .Sub (.int i) (.int j) h = some (.int (i - j), h) := id rfl
@[simp] theorem s_mul : opBin big .Mult (.int i) (.int j) h = if mulOk i j = true then some (.int (i * j), h) else none := id rfl
@[simp] theorem s_div : opBin big .FloorDiv (.int i) (.int j) h = if divOk j = true ∨ (big = true ∧ j ≠ 0) then some (.int (i.fdiv j), h) else none := id rfl
@[simp] theorem s_mod : opBin big .Mod (.int i) (.int j) h = if j ≠ 0 then some (.int (i.fmod j), h) else none := id rfl
@[simp] theorem s_addt : opBin big .Add (.tup ws) (.tup us) h = if ws.length + us.length ≤ 16777216 then some (.tup (ws ++ us), h) else none := id rfl
@[simp] theorem s_neg : negW (.int i) h = some (.int (-i), h) := id rfl
@[simp] theorem s_abs : absV1 (.int i) h = some (.int (if i < 0 then -i else i), h) := id rfl
@[simp] theorem s_int : intV (.int i) h = some (.int i, h) := id rfl
@[simp] theorem s_lent : lenV (.tup ws) h = some (.int ws.length, h) := id rfl
@[simp] theorem s_ixt : ixW h (.tup ws) (.int i) = atI ws i := id rfl
@[simp] theorem s_ix0 : atI (w :: ws) 0 = some w := by
  unfold atI ixN
  simp [show ∀ a : Nat, ¬ ((a : Int) + 1 + 1 ≤ 1) from fun a => by omega, show ∀ a : Nat, ¬ ((a : Int) + 1 + 1 + 1 ≤ 2) from fun a => by omega, show ∀ a : Nat, 1 < ((a : Int) + 1 + 1) from fun a => by omega, show ∀ a : Nat, 2 < ((a : Int) + 1 + 1 + 1) from fun a => by omega]
@[simp] theorem s_ix1 (w' : W) : atI (w' :: w :: ws) 1 = some w := by
  unfold atI ixN
  simp [show ∀ a : Nat, ¬ ((a : Int) + 1 + 1 ≤ 1) from fun a => by omega, show ∀ a : Nat, ¬ ((a : Int) + 1 + 1 + 1 ≤ 2) from fun a => by omega, show ∀ a : Nat, 1 < ((a : Int) + 1 + 1) from fun a => by omega, show ∀ a : Nat, 2 < ((a : Int) + 1 + 1 + 1) from fun a => by omega]
@[simp] theorem s_ix2 (w1 w2 : W) : atI (w1 :: w2 :: w :: ws) 2 = some w := by
  unfold atI ixN
  simp [show ∀ a : Nat, ¬ ((a : Int) + 1 + 1 ≤ 1) from fun a => by omega, show ∀ a : Nat, ¬ ((a : Int) + 1 + 1 + 1 ≤ 2) from fun a => by omega, show ∀ a : Nat, 1 < ((a : Int) + 1 + 1) from fun a => by omega, show ∀ a : Nat, 2 < ((a : Int) + 1 + 1 + 1) from fun a => by omega]
theorem atI_nat {α : Type} {l : List α} {j : Nat} (hj : j < l.length) : atI l (j : Int) = l[j]? := by
  unfold atI ixN
  rw [if_pos (by omega), if_pos (by omega)]
  simp
@[simp] theorem s_isl_f (q : Bool × List W) : Out.of (tupQ b ws h) = .ok (.tup ws) h := id rfl
@[simp] theorem s_len_q : Out.of (lenQ b ws h) = .ok (.int ws.length) h := id rfl
@[simp] theorem f_ret : Wv.finish h (.ret w h1) = cutR h w h1 := id rfl
@[simp] theorem f_next : Wv.finish h (.next ρ h1) = cutR h .non h1 := id rfl
@[simp] theorem f_exc : Wv.finish h (.exc e ρ h1) = cutX h e h1 := id rfl
@[simp] theorem f_bad : Wv.finish h .bad = .bad := id rfl
@[simp] theorem s_sqt : seqOf h (.tup ws) = some (true, ws) := id rfl
@[simp] theorem s_itt : itOf h (.tup ws) = some (ws, []) := id rfl
@[simp] theorem o_NoneType_bool : isOne "NoneType" "bool" = some false := by decide +kernel
@[simp] theorem o_NoneType_int : isOne "NoneType" "int" = some false := by decide +kernel
@[simp] theorem o_NoneType_str : isOne "NoneType" "str" = some false := by decide +kernel
@[simp] theorem o_NoneType_tuple : isOne "NoneType" "tuple" = some false := by decide +kernel
@[simp] theorem o_NoneType_list : isOne "NoneType" "list" = some false := by decide +kernel
@[simp] theorem o_bool_bool : isOne "bool" "bool" = some true := by decide +kernel
@[simp] theorem o_bool_int : isOne "bool" "int" = some true := by decide +kernel
@[simp] theorem o_bool_str : isOne "bool" "str" = some false := by decide +kernel
@[simp] theorem o_bool_tuple : isOne "bool" "tuple" = some false := by decide +kernel
@[simp] theorem o_bool_list : isOne "bool" "list" = some false := by decide +kernel
@[simp] theorem o_int_bool : isOne "int" "bool" = some false := by decide +kernel
@[simp] theorem o_int_int : isOne "int" "int" = some true := by decide +kernel
@[simp] theorem o_int_str : isOne "int" "str" = some false := by decide +kernel
@[simp] theorem o_int_tuple : isOne "int" "tuple" = some false := by decide +kernel
@[simp] theorem o_int_list : isOne "int" "list" = some false := by decide +kernel
@[simp] theorem o_str_bool : isOne "str" "bool" = some false := by decide +kernel
@[simp] theorem o_str_int : isOne "str" "int" = some false := by decide +kernel
@[simp] theorem o_str_str : isOne "str" "str" = some true := by decide +kernel
@[simp] theorem o_str_tuple : isOne "str" "tuple" = some false := by decide +kernel
@[simp] theorem o_str_list : isOne "str" "list" = some false := by decide +kernel
@[simp] theorem o_tuple_bool : isOne "tuple" "bool" = some false := by decide +kernel
@[simp] theorem o_tuple_int : isOne "tuple" "int" = some false := by decide +kernel
@[simp] theorem o_tuple_str : isOne "tuple" "str" = some false := by decide +kernel
@[simp] theorem o_tuple_tuple : isOne "tuple" "tuple" = some true := by decide +kernel
@[simp] theorem o_tuple_list : isOne "tuple" "list" = some false := by decide +kernel
@[simp] theorem o_list_bool : isOne "list" "bool" = some false := by decide +kernel
@[simp] theorem o_list_int : isOne "list" "int" = some false := by decide +kernel
@[simp] theorem o_list_str : isOne "list" "str" = some false := by decide +kernel
@[simp] theorem o_list_tuple : isOne "list" "tuple" = some false := by decide +kernel
@[simp] theorem o_list_list : isOne "list" "list" = some true := by decide +kernel
@[simp] theorem o_dict_bool : isOne "dict" "bool" = some false := by decide +kernel
@[simp] theorem o_dict_int : isOne "dict" "int" = some false := by decide +kernel
@[simp] theorem o_dict_str : isOne "dict" "str" = some false := by decide +kernel
@[simp] theorem o_dict_tuple : isOne "dict" "tuple" = some false := by decide +kernel
@[simp] theorem o_dict_list : isOne "dict" "list" = some false := by decide +kernel
end
end Wv
end
section
set_option Elab.async false
set_option linter.all false
set_option maxRecDepth 100000
set_option maxHeartbeats 4000000
/-! Core X of ours: comprehensions, looked at. -/
namespace Wv
open PySem L2
@[simp] theorem wipe_nil (ρ : Rho) : wipeR ρ [] = ρ := id rfl
@[simp] theorem wipe_cons (ρ : Rho) (v : Nat) (vs : List Nat) : wipeR ρ (v :: vs) = (wipeR ρ vs).set v none := id rfl
@[simp] theorem bind_nm (i : Nat) (w : W) (ρ : Rho) : Tgt.bind (.nm i) w ρ = some (ρ.set i (some w)) := by unfold Tgt.bind; rfl
@[simp] theorem bind_tp2 (i j : Nat) (u w : W) (ρ : Rho) : Tgt.bind (.tp [.nm i, .nm j]) (.tup [u, w]) ρ = some ((ρ.set i (some u)).set j (some w)) := by
  simp [Tgt.bind, Tgt.bindAll]
@[simp] theorem bind_tp3 (i j k : Nat) (u w z : W) (ρ : Rho) : Tgt.bind (.tp [.nm i, .nm j, .nm k]) (.tup [u, w, z]) ρ = some (((ρ.set i (some u)).set j (some w)).set k (some z)) := by
  simp [Tgt.bind, Tgt.bindAll]
theorem comp_map {T : Tgt} {tt : DenT} {te : Den} {ρ0 : Rho} {α : Type} {enc : α → W} {f : α → W} {h : Store} (xs : List α) (hl : xs.length ≤ 16777216)
    (hx : ∀ x ∈ xs, ∃ ρ1, T.bind (enc x) ρ0 = some ρ1 ∧ tt ρ1 h = .ok true h ∧ te ρ1 h = .ok (f x) h) : compL [] T tt te ρ0 (xs.map enc) [] h = .ok (xs.map f) h := by
  rw [compL_map (f := f) (p := fun _ => true) (gdOk_nil h) xs [] (by simpa using hl) fun x hm => by
    obtain ⟨ρ1, a, b, c⟩ := hx x hm
    exact ⟨ρ1, a, b, fun _ => c⟩]
  rw [filter_true]
  rfl
theorem comp_filter {T : Tgt} {tt : DenT} {te : Den} {ρ0 : Rho} {α : Type} {enc : α → W} {f : α → W} {p : α → Bool} {h : Store} (xs : List α) (hl : xs.length ≤ 16777216)
    (hx : ∀ x ∈ xs, ∃ ρ1, T.bind (enc x) ρ0 = some ρ1 ∧ tt ρ1 h = .ok (p x) h ∧ (p x = true → te ρ1 h = .ok (f x) h)) : compL [] T tt te ρ0 (xs.map enc) [] h = .ok ((xs.filter p).map f) h := by
  rw [compL_map (f := f) (p := p) (gdOk_nil h) xs [] (by simpa using hl) hx]
  rfl
/-- over a named list -/
theorem comp_mapG {g : Gd} {T : Tgt} {tt : DenT} {te : Den} {ρ0 : Rho} {α : Type} {enc : α → W} {f : α → W} {h : Store} (hg : gdOk g h) (xs : List α) (hl : xs.length ≤ 16777216)
    (hx : ∀ x ∈ xs, ∃ ρ1, T.bind (enc x) ρ0 = some ρ1 ∧ tt ρ1 h = .ok true h ∧ te ρ1 h = .ok (f x) h) : compL g T tt te ρ0 (xs.map enc) [] h = .ok (xs.map f) h := by
  rw [compL_map (f := f) (p := fun _ => true) hg xs [] (by simpa using hl) fun x hm => by
    obtain ⟨ρ1, a, b, c⟩ := hx x hm
    exact ⟨ρ1, a, b, fun _ => c⟩]
  rw [filter_true]
  rfl
theorem bls_map {α : Type} (f : α → Bool) : ∀ xs : List α, bls (xs.map fun x => .bl (f x)) = some (xs.map f)
  | [] => rfl
  | x :: xs => by
    rw [List.map_cons]
    unfold bls
    rw [bls_map f xs]
    rfl
theorem all_map {α : Type} (f : α → Bool) (xs : List α) (h : Store) : Out.of (allQ false (xs.map fun x => .bl (f x)) h) = .ok (.bl (xs.all f)) h := by
  unfold allQ
  rw [if_neg Bool.false_ne_true, bls_map]
  show Out.ok (W.bl ((xs.map f).all id)) h = _
  rw [List.all_map]
  rfl
theorem atI_map {α : Type} {f : α → W} {l : List α} {j : Nat} {x : α} (e : l[j]? = some x) : atI (l.map f) (j : Int) = some (f x) := by
  have hj : j < l.length := (List.getElem?_eq_some_iff.mp e).1
  rw [atI_nat (by rw [List.length_map]; exact hj), List.getElem?_map, e]
  rfl
/-! ### looking into a store -/
theorem lst_own {h : Store} {n : Nat} {ws : List W} (e : own? h n = some ws) : lst? h n = some ws := by
  exact e
theorem own_app {h t : Store} {n : Nat} {ws : List W} (e : own? h n = some ws) : own? (h ++ t) n = some ws := by
  unfold own? at *
  split at e
  · rename_i xs q
    rw [List.getElem?_append_left (List.getElem?_eq_some_iff.mp q).1, q]
    exact e
  · cases e
theorem own_lt {h : Store} {n : Nat} {ws : List W} (e : own? h n = some ws) : n < h.length := by
  unfold own? at e
  split at e
  · rename_i xs q
    exact (List.getElem?_eq_some_iff.mp q).1
  · cases e
theorem own_new (h : Store) (ws : List W) : own? (h ++ [.lst ws]) h.length = some ws := by
  unfold own?
  simp
theorem own_set {h : Store} {n : Nat} {ws us : List W} (e : own? h n = some us) : own? (h.set n (.lst ws)) n = some ws := by
  unfold own?
  rw [List.getElem?_set_self (own_lt e)]
theorem own_other {h : Store} {n m : Nat} {o : Ob} {ws : List W} (e : own? h m = some ws) (ne : n ≠ m) : own? (h.set n o) m = some ws := by
  unfold own? at *
  rw [List.getElem?_set_ne ne]
  exact e
end Wv
end
section
set_option Elab.async false
set_option linter.all false
set_option maxRecDepth 100000
set_option maxHeartbeats 4000000
/-! Core Y of ours: data compared. -/
namespace Wv
open PySem L2
theorem toPys_map {α : Type} {f : W → Option PyData} {enc : α → W} {d : α → PyData} : ∀ (xs : List α), (∀ x ∈ xs, f (enc x) = some (d x)) → toPys f (xs.map enc) = some (xs.map d)
  | [], _ => rfl
  | x :: xs, h => by
    rw [List.map_cons, List.map_cons]
    unfold toPys
    rw [h x List.mem_cons_self, toPys_map xs fun y hy => h y (List.mem_cons_of_mem _ hy)]
theorem lay_map {α : Type} {d : α → PyData} : ∀ (xs : List α), (∀ x ∈ xs, (d x).canLay0 = true) → PyData.canLayAll0 (xs.map d) = true
  | [], _ => by unfold PyData.canLayAll0; rfl
  | x :: xs, h => by
    rw [List.map_cons]
    unfold PyData.canLayAll0
    rw [h x List.mem_cons_self, lay_map xs fun y hy => h y (List.mem_cons_of_mem _ hy)]
    rfl
theorem depth_map {α : Type} {d : α → PyData} {n : Nat} : ∀ (xs : List α), (∀ x ∈ xs, (d x).depth ≤ n) → PyData.depthAll (xs.map d) ≤ n
  | [], _ => by unfold PyData.depthAll; exact Nat.zero_le _
  | x :: xs, h => by
    rw [List.map_cons]
    unfold PyData.depthAll
    exact Nat.max_le.mpr ⟨h x List.mem_cons_self, depth_map xs fun y hy => h y (List.mem_cons_of_mem _ hy)⟩
theorem eqvAll_map {α : Type} [DecidableEq α] {d : α → PyData} (hd : ∀ x y, PyData.eqv (d x) (d y) = decide (x = y)) : ∀ xs ys : List α, PyData.eqvAll (xs.map d) (ys.map d) = decide (xs = ys)
  | [], [] => by unfold PyData.eqvAll; simp
  | [], _ :: _ => by
    rw [List.map_cons, List.map_nil]
    unfold PyData.eqvAll
    simp
  | _ :: _, [] => by
    rw [List.map_cons, List.map_nil]
    unfold PyData.eqvAll
    simp
  | x :: xs, y :: ys => by
    rw [List.map_cons, List.map_cons]
    unfold PyData.eqvAll
    rw [hd, eqvAll_map hd xs ys]
    simp
theorem eqv_int (i j : Int) : PyData.eqv (.int i) (.int j) = decide (i = j) := by
  unfold PyData.eqv
  by_cases h : i = j <;> simp [h]
theorem shaped_of {d : PyData} (h1 : d.canLay0 = true) (h2 : d.depth ≤ 64) : SeqAt.shaped d = true := by
  unfold SeqAt.shaped
  rw [h1, decide_eq_true h2]
  rfl
theorem pyd_of {h : Store} {w : W} {d : PyData} (e : toPy h 66 w = some d) (h1 : d.canLay0 = true) (h2 : d.depth ≤ 64) : pyd h w = some d := by
  unfold pyd
  rw [e]
  dsimp only
  rw [if_pos (shaped_of h1 h2)]
theorem pyd_int (h : Store) (i : Int) : pyd h (.int i) = some (.int i) := pyd_of (by unfold toPy; rfl) (by unfold PyData.canLay0; rfl) (by unfold PyData.depth; exact Nat.zero_le _)
def nw (i : Nat) : W := .int (i : Int)
def nd (i : Nat) : PyData := .int (i : Int)
theorem pyd_nats {h : Store} {P : Nat} {ps : List Nat} (e : own? h P = some (ps.map nw)) : pyd h (.ref P) = some (.list (ps.map nd)) := by
  refine pyd_of ?_ ?_ ?_
  · unfold toPy
    rw [lst_own e]
    dsimp only
    rw [toPys_map (d := nd) ps fun x _ => by unfold nw toPy; rfl]
    rfl
  · unfold PyData.canLay0
    exact lay_map ps fun x _ => by unfold nd PyData.canLay0; rfl
  · unfold PyData.depth
    exact Nat.succ_le_succ (Nat.le_trans (depth_map (n := 0) ps fun x _ => by unfold nd PyData.depth; exact Nat.le_refl _) (by decide))
theorem in_nats {h : Store} {P j : Nat} {ps : List Nat} (e : own? h P = some (ps.map nw)) : cmpW .In (.int (j : Int)) (.ref P) h = some (decide (j ∈ ps)) := by
  have z : cmpW .In (.int (j : Int)) (.ref P) h = cmpIn (.int (j : Int)) (.ref P) h := by
    unfold cmpW
    rfl
  rw [z]
  unfold cmpIn
  dsimp only
  rw [pyd_int, pyd_nats e]
  dsimp only
  refine congrArg some ?_
  rw [List.any_map]
  refine Bool.eq_iff_iff.mpr ?_
  rw [List.any_eq_true, decide_eq_true_iff]
  constructor
  · rintro ⟨x, hx, q⟩
    simp only [Function.comp, nd, eqv_int, decide_eq_true_eq] at q
    have : x = j := by omega
    rw [← this]
    exact hx
  · intro hj
    exact ⟨j, hj, by simp [nd, eqv_int]⟩
theorem notin_nats {h : Store} {P j : Nat} {ps : List Nat} (e : own? h P = some (ps.map nw)) : cmpW .NotIn (.int (j : Int)) (.ref P) h = some (!decide (j ∈ ps)) := by
  have := in_nats (j := j) e
  have z : cmpW .In (.int (j : Int)) (.ref P) h = cmpIn (.int (j : Int)) (.ref P) h := by
    unfold cmpW
    rfl
  have y : cmpW .NotIn (.int (j : Int)) (.ref P) h = (cmpIn (.int (j : Int)) (.ref P) h).map (!·) := by
    unfold cmpW
    rfl
  rw [y, ← z, this]
  rfl
/-- the place of j among ps -/
def spot (j : Nat) : List Nat → Option Nat
  | [] => none
  | p :: ps => if p = j then some 0 else (spot j ps).map (· + 1)
theorem firstEq_nats (j : Nat) : ∀ ps : List Nat, firstEq (.int (j : Int)) (ps.map nd) = spot j ps
  | [] => rfl
  | p :: ps => by
    rw [List.map_cons]
    unfold firstEq spot
    rw [firstEq_nats j ps]
    by_cases h : p = j
    · rw [if_pos h, if_pos (by simp [nd, eqv_int, h])]
    · rw [if_neg h, if_neg (by simp [nd, eqv_int]; omega)]
theorem spot_mem {j : Nat} : ∀ {ps : List Nat}, j ∈ ps → ∃ i, spot j ps = some i ∧ ps[i]? = some j
  | [], h => nomatch h
  | p :: ps, h => by
    unfold spot
    by_cases e : p = j
    · exact ⟨0, by rw [if_pos e], by rw [e]; rfl⟩
    · have hm : j ∈ ps := by
        rcases List.mem_cons.mp h with q | q
        · exact absurd q.symm e
        · exact q
      obtain ⟨i, a, b⟩ := spot_mem hm
      exact ⟨i + 1, by rw [if_neg e, a]; rfl, b⟩
end Wv
end
section
set_option Elab.async false
set_option linter.all false
set_option maxRecDepth 100000
set_option maxHeartbeats 4000000
/-! Core Z of ours: loops that fold. -/
namespace Wv
open PySem L2
theorem forL_fold {g : Gd} {T : Tgt} {body : DenS} {α σ : Type} {enc : α → W} {st : σ → Store} {Sh : Rho → Prop} {Iv : σ → Prop} {f : σ → α → σ} (hg : ∀ s, Iv s → gdOk g (st s)) :
    ∀ (xs : List α) (s : σ) (ρ : Rho), (∀ a ∈ xs, ∀ s ρ, Iv s → Sh ρ → ∃ ρ1, T.bind (enc a) ρ = some ρ1 ∧ ∃ ρ2, body ρ1 (st s) = .next ρ2 (st (f s a)) ∧ Sh ρ2 ∧ Iv (f s a)) → Iv s → Sh ρ →
      ∃ ρ2, forL g T body (xs.map enc) ρ (st s) = .next ρ2 (st (xs.foldl f s)) ∧ Sh ρ2 ∧ Iv (xs.foldl f s)
  | [], s, ρ, _, i, h => ⟨ρ, by
    rw [List.map_nil]
    unfold forL
    rw [if_pos (hg s i)]
    rfl, h, i⟩
  | x :: xs, s, ρ, hx, i, h => by
    obtain ⟨ρ1, e1, ρ2, e2, h2, i2⟩ := hx x List.mem_cons_self s ρ i h
    obtain ⟨ρ3, e3, h3, i3⟩ := forL_fold hg xs (f s x) ρ2 (fun a ha => hx a (List.mem_cons_of_mem _ ha)) i2 h2
    refine ⟨ρ3, ?_, h3, i3⟩
    rw [List.map_cons]
    unfold forL
    rw [if_pos (hg s i), e1]
    dsimp only
    rw [e2]
    exact e3
theorem set_same {h : Store} {n : Nat} {ws : List W} (e : own? h n = some ws) : h.set n (.lst ws) = h := by
  unfold own? at e
  split at e
  · rename_i xs q
    cases e
    refine List.ext_getElem? fun i => ?_
    by_cases hi : n = i
    · subst hi
      rw [List.getElem?_set_self (List.getElem?_eq_some_iff.mp q).1, q]
    · rw [List.getElem?_set_ne hi]
  · cases e
/-- two sequences walked together -/
theorem zipW_two {α β : Type} (f : α → W) (g : β → W) : ∀ (xs : List α) (ys : List β), zipW (xs.map f) (ys.map g) = (List.zip xs ys).map fun p => .tup [f p.1, g p.2]
  | [], ys => by simp [zipW]
  | x :: xs, [] => by simp [zipW]
  | x :: xs, y :: ys => by simp [zipW, zipW_two f g xs ys]
theorem gdOk_two {n k : Nat} {ws us : List W} {h : Store} (e : lst? h n = some ws) (e2 : lst? h k = some us) : gdOk [(n, ws), (k, us)] h := fun p hp => by
  rcases List.mem_cons.mp hp with q | hp
  · rw [q]
    exact e
  · rw [List.mem_singleton.mp hp]
    exact e2
theorem lst_of_own {h : Store} {n : Nat} {ws : List W} (e : own? h n = some ws) : itOf h (.ref n) = some (ws, [(n, ws)]) ∧ seqOf h (.ref n) = some (false, ws) ∧ lenV (.ref n) h = some (.int (ws.length : Int), h) ∧ lstRef h (.ref n) = some n ∧ ∀ i, ixW h (.ref n) (.int i) = atI ws i := by
  have l := lst_own e
  refine ⟨?_, ?_, ?_, ?_, fun i => ?_⟩
  · show (lst? h n).map _ = _
    rw [l]
    rfl
  · show (lst? h n).map _ = _
    rw [l]
    rfl
  · show (lst? h n).map _ = _
    rw [l]
    rfl
  · show (lst? h n).map _ = _
    rw [l]
    rfl
  · show (match lst? h n with
      | some ws => atI ws i
      | none => none) = _
    rw [l]
@[simp] theorem s_tupq (b : Bool) (ws : List W) (h : Store) : Out.of (tupQ b ws h) = .ok (.tup ws) h := id rfl
@[simp] theorem s_lenq (b : Bool) (ws : List W) (h : Store) : Out.of (lenQ b ws h) = .ok (.int ws.length) h := id rfl
theorem ixN_at {n j : Nat} (hj : j < n) : ixN n (j : Int) = some j := by
  unfold ixN
  rw [if_pos (by omega), if_pos (by omega)]
  simp
end Wv
end
section
set_option Elab.async false
set_option linter.all false
set_option maxRecDepth 100000
set_option maxHeartbeats 0
namespace K03
open PySem PySem.Spec PyProof.Rows L2
abbrev pr : Program := PySem.Challenge.pw_wireroads_k03_whole_reduced_tables_ranks
def top (i : Nat) : Stmt := pr.main.body.getD i (.Pass ⟨0, 0, 0, 0⟩)
def dd (x : Str) (i : Nat) : He.DefD := ⟨(x, none), x, x, defArgs (top i), defBody (top i), defScope (top i), [], []⟩
def fn : List He.DefD := [dd "is_integer" 5, dd "greatest_common" 6, dd "lowest" 7, dd "is_ratio" 8, dd "ratio_less" 9, dd "ratio_product" 10, dd "ratio_over" 11, dd "is_any_table" 16, dd "width_of" 17, dd "check_table" 18, dd "reduced_of" 19, dd "table_rank" 20, dd "table_reduced" 21, dd "table_kernel" 22, dd "solution_of" 23, dd "table_solved" 24, dd "spans_alike" 25, dd "_law_state" 27, dd "_law_take" 28, dd "_law_same" 29, dd "_law_told" 30, dd "_law_is_told" 31, dd "_law_is_raised" 32, dd "_law_tells" 33, dd "_law_raises" 34, dd "_law_frac" 35, dd "_law_add" 36, dd "_law_less" 37, dd "_law_mul" 38, dd "_law_over" 39] ++ [dd "_law_total" 40, dd "_law_dot" 41, dd "_law_drawn" 42, dd "_law_others" 43, dd "_law_table" 44, dd "_law_product" 45, dd "_law_steps" 46, dd "_law_solution" 47, dd "_law_kernel" 48, dd "_law_holds" 49, dd "_law_spans_hold" 50, dd "_law_malformed_holds" 51, dd "law" 52]
def gnames : List Str := (["is_integer", "greatest_common", "lowest", "is_ratio", "ratio_less", "ratio_product", "ratio_over", "is_any_table", "width_of", "check_table", "reduced_of", "table_rank", "table_reduced", "table_kernel", "solution_of", "table_solved", "spans_alike", "_law_state", "_law_take", "_law_same", "_law_told", "_law_is_told", "_law_is_raised", "_law_tells", "_law_raises", "_law_frac", "_law_add", "_law_less", "_law_mul", "_law_over"] : List Str) ++ (["_law_total", "_law_dot", "_law_drawn", "_law_others", "_law_table", "_law_product", "_law_steps", "_law_solution", "_law_kernel", "_law_holds", "_law_spans_hold", "_law_malformed_holds", "law", "Fault", "Malformed", "Refused"] : List Str)
def frees : List Str := (["abs", "all", "bool", "int", "isinstance", "len", "list", "range", "str", "tuple", "zip"] : List Str)
def excs : List Str := (["Fault", "Malformed"] : List Str)
def clss : List Str := (["Fault", "Malformed", "Refused"] : List Str)
def exms : List (Str × Str × Bool) := [("Fault", "Fault", true), ("Fault", "Malformed", false), ("Fault", "Refused", false), ("Malformed", "Fault", true), ("Malformed", "Malformed", true), ("Malformed", "Refused", false), ("Refused", "Fault", true), ("Refused", "Malformed", false), ("Refused", "Refused", true)]
def fa : List He.Fa := Wv.mkFa gnames frees excs exms
def loose : List Str := (["Fault", "Malformed", "Refused", "is_integer", "greatest_common", "lowest", "is_ratio", "ratio_less", "ratio_product", "ratio_over", "MOST_ROWS", "ZERO", "ONE", "is_any_table", "width_of", "check_table", "reduced_of", "table_rank", "table_reduced", "table_kernel", "solution_of", "table_solved", "spans_alike", "_law_state", "_law_take", "_law_same", "_law_told", "_law_is_told", "_law_is_raised", "_law_tells"] : List Str) ++ (["_law_raises", "_law_frac", "_law_add", "_law_less", "_law_mul", "_law_over", "_law_total", "_law_dot", "_law_drawn", "_law_others", "_law_table", "_law_product", "_law_steps", "_law_solution", "_law_kernel", "_law_holds", "_law_spans_hold", "_law_malformed_holds"] : List Str)
abbrev R : PySem.W.OpenRow := PySem.W.OpenLaw.row PySem.Challenge.rw_wireroads_k03_whole_reduced_tables_ranks
abbrev qv : Program := PySem.W.view R.prog [52]
def csl : List (Str × Wv.W) := [("MOST_ROWS", (.int 40)), ("ZERO", (.tup [(.int 0), (.int 1)])), ("ONE", (.tup [(.int 1), (.int 1)]))]
def ex (K : PySem.W.Frag) : Bool := csl.all (Wv.cstB K)
abbrev hk : PySem.W.Hook := He.hookX 4 fa fn [] [] ex
def ob (s : PySem.W.SharedT) : He.AlX := He.obsX 4 fa fn [] [] ex (HandSHeadRun.getT s)
theorem ob_eq (s : PySem.W.SharedT) : ob s = hk.obs s.abs := He.obsX_eq (HandSHeadRun.getT_eq s)
theorem run (w : World) : HandSHeadRun.RunEq R qv hk ob 4000 loose w := by
  intro os
  kernel_rfl
end K03
end
section
set_option Elab.async false
set_option linter.all false
set_option maxRecDepth 100000
set_option maxHeartbeats 0
namespace K03
open PySem PySem.Spec Wv L2
def fns : List Fn := ([⟨"is_integer", 1, ["value"], defScope (top 5), defBody (top 5)⟩, ⟨"greatest_common", 2, ["a", "b"], defScope (top 6), defBody (top 6)⟩, ⟨"lowest", 2, ["n", "d", "g"], defScope (top 7), defBody (top 7)⟩, ⟨"is_ratio", 1, ["value"], defScope (top 8), defBody (top 8)⟩, ⟨"ratio_less", 2, ["a", "b"], defScope (top 9), defBody (top 9)⟩, ⟨"ratio_product", 2, ["a", "b"], defScope (top 10), defBody (top 10)⟩, ⟨"ratio_over", 2, ["a", "b"], defScope (top 11), defBody (top 11)⟩, ⟨"is_any_table", 1, ["value", "row", "item"], defScope (top 16), defBody (top 16)⟩] : List Fn) ++
  ([⟨"width_of", 1, ["T"], defScope (top 17), defBody (top 17)⟩, ⟨"check_table", 1, ["T"], defScope (top 18), defBody (top 18)⟩, ⟨"reduced_of", 1, ["T", "rows", "pivots", "j", "k", "i", "at", "c", "row", "item", "a", "b"], defScope (top 19), defBody (top 19)⟩, ⟨"table_rank", 1, ["T"], defScope (top 20), defBody (top 20)⟩, ⟨"table_reduced", 1, ["T", "row"], defScope (top 21), defBody (top 21)⟩, ⟨"table_kernel", 1, ["T", "rows", "pivots", "q", "found", "j", "x", "row", "p"], defScope (top 22), defBody (top 22)⟩, ⟨"solution_of", 2, ["T", "b", "row", "rows", "pivots", "q", "x", "p", "c"], defScope (top 23), defBody (top 23)⟩, ⟨"table_solved", 2, ["T", "b", "c"], defScope (top 24), defBody (top 24)⟩] : List Fn) ++
  ([⟨"spans_alike", 2, ["S", "T"], defScope (top 25), defBody (top 25)⟩, ⟨"_law_state", 1, ["script", "seed", "total", "cell"], defScope (top 27), defBody (top 27)⟩, ⟨"_law_take", 2, ["state", "m", "value"], defScope (top 28), defBody (top 28)⟩, ⟨"_law_same", 2, ["value", "due", "k"], defScope (top 29), defBody (top 29)⟩, ⟨"_law_told", 2, ["f", "given", "error"], defScope (top 30), defBody (top 30)⟩, ⟨"_law_is_told", 2, ["pair", "due"], defScope (top 31), defBody (top 31)⟩, ⟨"_law_is_raised", 2, ["pair", "reason"], defScope (top 32), defBody (top 32)⟩, ⟨"_law_tells", 3, ["f", "given", "due"], defScope (top 33), defBody (top 33)⟩] : List Fn) ++
  ([⟨"_law_raises", 3, ["f", "given", "reason"], defScope (top 34), defBody (top 34)⟩, ⟨"_law_frac", 2, ["n", "d", "a", "b"], defScope (top 35), defBody (top 35)⟩, ⟨"_law_add", 2, ["x", "y"], defScope (top 36), defBody (top 36)⟩, ⟨"_law_less", 2, ["x", "y"], defScope (top 37), defBody (top 37)⟩, ⟨"_law_mul", 2, ["x", "y"], defScope (top 38), defBody (top 38)⟩, ⟨"_law_over", 2, ["x", "y"], defScope (top 39), defBody (top 39)⟩, ⟨"_law_total", 1, ["items", "found", "x"], defScope (top 40), defBody (top 40)⟩, ⟨"_law_dot", 2, ["one", "two", "k"], defScope (top 41), defBody (top 41)⟩] : List Fn) ++
  ([⟨"_law_drawn", 1, ["state"], defScope (top 42), defBody (top 42)⟩, ⟨"_law_others", 2, ["n", "chosen", "x"], defScope (top 43), defBody (top 43)⟩, ⟨"_law_table", 3, ["state", "p", "q", "rows", "i", "j"], defScope (top 44), defBody (top 44)⟩, ⟨"_law_product", 2, ["S", "T", "row", "j", "line"], defScope (top 45), defBody (top 45)⟩, ⟨"_law_steps", 1, ["T", "rows", "pivots", "j", "k", "i", "at", "line", "c", "row", "x", "t"], defScope (top 46), defBody (top 46)⟩, ⟨"_law_solution", 2, ["T", "b", "rows", "pivots", "q", "j", "i"], defScope (top 47), defBody (top 47)⟩, ⟨"_law_kernel", 1, ["T", "rows", "pivots", "found", "j", "x", "k", "t"], defScope (top 48), defBody (top 48)⟩, ⟨"_law_holds", 2, ["state", "T", "rows", "pivots", "p", "q", "x", "reached", "i", "b", "j", "row"], defScope (top 49), defBody (top 49)⟩] : List Fn) ++
  ([⟨"_law_spans_hold", 2, ["state", "T", "p", "q", "mixed", "more", "turned", "bent", "i", "j", "one", "two", "row", "a"], defScope (top 50), defBody (top 50)⟩, ⟨"_law_malformed_holds", 1, ["T", "row", "bad", "asked", "good", "b", "empty", "f", "given", "due", "line"], defScope (top 51), defBody (top 51)⟩, ⟨"law", 1, ["script", "state", "p", "q", "T", "r", "thin", "gap", "with_gap", "one", "wide", "long", "high", "row"], defScope (top 52), defBody (top 52)⟩] : List Fn)
def prg : Prg := mkPrg fns gnames frees excs clss exms csl
def dfs : Str → Option Nat := fun f => (findF f prg.fns).map (·.n)
noncomputable def b_is_integer (call : CallT) (big : Bool) : DenS :=
    (sSeq (sRet (cAnd (cIsi1 "int" (cVar 0)) (cNot (cIsi1 "bool" (cVar 0)))))
    sSkip)
theorem e_is_integer (k : Nat) (call : CallT) : bodyOf prg ⟨"is_integer", 1, ["value"], defScope (top 5), defBody (top 5)⟩ k call = b_is_integer call (decide (32 ≤ k)) := by kernel_rfl
theorem k_is_integer (k : Nat) (ws : List W) (h : Store) : callK prg (k + 1) "is_integer" ws h = if ws.length = 1 then finish h (b_is_integer (callK prg k) (decide (32 ≤ k)) (startR ["value"] ws) h) else .bad := by
  rw [← e_is_integer]
  rfl
noncomputable def b_greatest_common (call : CallT) (big : Bool) : DenS :=
    (sSeq (sPar2 0 1 (cCons (cV1 absV1 (cVar 0)) (cCons (cV1 absV1 (cVar 1)) cNil)))
    (sSeq (sWhile (tcCmp .NotEq (cVar 1) (cVal (.int 0))) (sSeq (sPar2 0 1 (cCons (cVar 1) (cCons (cBin big .Mod (cVar 0) (cVar 1)) cNil)))
    sSkip))
    (sSeq (sRet (cVar 0))
    sSkip)))
theorem e_greatest_common (k : Nat) (call : CallT) : bodyOf prg ⟨"greatest_common", 2, ["a", "b"], defScope (top 6), defBody (top 6)⟩ k call = b_greatest_common call (decide (32 ≤ k)) := by kernel_rfl
theorem k_greatest_common (k : Nat) (ws : List W) (h : Store) : callK prg (k + 1) "greatest_common" ws h = if ws.length = 2 then finish h (b_greatest_common (callK prg k) (decide (32 ≤ k)) (startR ["a", "b"] ws) h) else .bad := by
  rw [← e_greatest_common]
  rfl
noncomputable def b_lowest (call : CallT) (big : Bool) : DenS :=
    (sSeq (sAsg (cCall call 2 "greatest_common" (cCons (cVar 0) (cCons (cVar 1) cNil))) (gNm 2))
    (sSeq (sIf (tcCmp .Lt (cVar 1) (cVal (.int 0))) (sSeq (sAsg (cNeg (cVar 2)) (gNm 2))
    sSkip) sSkip)
    (sSeq (sRet (cTup (cCons (cBin big .FloorDiv (cVar 0) (cVar 2)) (cCons (cBin big .FloorDiv (cVar 1) (cVar 2)) cNil))))
    sSkip)))
theorem e_lowest (k : Nat) (call : CallT) : bodyOf prg ⟨"lowest", 2, ["n", "d", "g"], defScope (top 7), defBody (top 7)⟩ k call = b_lowest call (decide (32 ≤ k)) := by kernel_rfl
theorem k_lowest (k : Nat) (ws : List W) (h : Store) : callK prg (k + 1) "lowest" ws h = if ws.length = 2 then finish h (b_lowest (callK prg k) (decide (32 ≤ k)) (startR ["n", "d", "g"] ws) h) else .bad := by
  rw [← e_lowest]
  rfl
noncomputable def b_is_ratio (call : CallT) (big : Bool) : DenS :=
    (sSeq (sIf (tcOr (tcNot (tcVal (cIsi1 "tuple" (cVar 0)))) (tcOr (tcCmp .NotEq (cV1 lenV (cVar 0)) (cVal (.int 2))) (tcOr (tcNot (tcVal (cCall call 1 "is_integer" (cCons (cIx (cVar 0) (cVal (.int 0))) cNil)))) (tcNot (tcVal (cCall call 1 "is_integer" (cCons (cIx (cVar 0) (cVal (.int 1))) cNil))))))) (sSeq (sRet (cVal (.bl false)))
    sSkip) sSkip)
    (sSeq (sRet (cAnd (cCmp .Gt (cIx (cVar 0) (cVal (.int 1))) (cVal (.int 0))) (cCmp .Eq (cCall call 2 "greatest_common" (cCons (cIx (cVar 0) (cVal (.int 0))) (cCons (cIx (cVar 0) (cVal (.int 1))) cNil))) (cVal (.int 1)))))
    sSkip))
theorem e_is_ratio (k : Nat) (call : CallT) : bodyOf prg ⟨"is_ratio", 1, ["value"], defScope (top 8), defBody (top 8)⟩ k call = b_is_ratio call (decide (32 ≤ k)) := by kernel_rfl
theorem k_is_ratio (k : Nat) (ws : List W) (h : Store) : callK prg (k + 1) "is_ratio" ws h = if ws.length = 1 then finish h (b_is_ratio (callK prg k) (decide (32 ≤ k)) (startR ["value"] ws) h) else .bad := by
  rw [← e_is_ratio]
  rfl
noncomputable def b_ratio_less (call : CallT) (big : Bool) : DenS :=
    (sSeq (sRet (cCall call 2 "lowest" (cCons (cBin big .Sub (cBin big .Mult (cIx (cVar 0) (cVal (.int 0))) (cIx (cVar 1) (cVal (.int 1)))) (cBin big .Mult (cIx (cVar 1) (cVal (.int 0))) (cIx (cVar 0) (cVal (.int 1))))) (cCons (cBin big .Mult (cIx (cVar 0) (cVal (.int 1))) (cIx (cVar 1) (cVal (.int 1)))) cNil))))
    sSkip)
theorem e_ratio_less (k : Nat) (call : CallT) : bodyOf prg ⟨"ratio_less", 2, ["a", "b"], defScope (top 9), defBody (top 9)⟩ k call = b_ratio_less call (decide (32 ≤ k)) := by kernel_rfl
theorem k_ratio_less (k : Nat) (ws : List W) (h : Store) : callK prg (k + 1) "ratio_less" ws h = if ws.length = 2 then finish h (b_ratio_less (callK prg k) (decide (32 ≤ k)) (startR ["a", "b"] ws) h) else .bad := by
  rw [← e_ratio_less]
  rfl
noncomputable def b_ratio_product (call : CallT) (big : Bool) : DenS :=
    (sSeq (sRet (cCall call 2 "lowest" (cCons (cBin big .Mult (cIx (cVar 0) (cVal (.int 0))) (cIx (cVar 1) (cVal (.int 0)))) (cCons (cBin big .Mult (cIx (cVar 0) (cVal (.int 1))) (cIx (cVar 1) (cVal (.int 1)))) cNil))))
    sSkip)
theorem e_ratio_product (k : Nat) (call : CallT) : bodyOf prg ⟨"ratio_product", 2, ["a", "b"], defScope (top 10), defBody (top 10)⟩ k call = b_ratio_product call (decide (32 ≤ k)) := by kernel_rfl
theorem k_ratio_product (k : Nat) (ws : List W) (h : Store) : callK prg (k + 1) "ratio_product" ws h = if ws.length = 2 then finish h (b_ratio_product (callK prg k) (decide (32 ≤ k)) (startR ["a", "b"] ws) h) else .bad := by
  rw [← e_ratio_product]
  rfl
noncomputable def b_ratio_over (call : CallT) (big : Bool) : DenS :=
    (sSeq (sIf (tcCmp .Eq (cIx (cVar 1) (cVal (.int 0))) (cVal (.int 0))) (sSeq (sRaise "Malformed")
    sSkip) sSkip)
    (sSeq (sRet (cCall call 2 "lowest" (cCons (cBin big .Mult (cIx (cVar 0) (cVal (.int 0))) (cIx (cVar 1) (cVal (.int 1)))) (cCons (cBin big .Mult (cIx (cVar 0) (cVal (.int 1))) (cIx (cVar 1) (cVal (.int 0)))) cNil))))
    sSkip))
theorem e_ratio_over (k : Nat) (call : CallT) : bodyOf prg ⟨"ratio_over", 2, ["a", "b"], defScope (top 11), defBody (top 11)⟩ k call = b_ratio_over call (decide (32 ≤ k)) := by kernel_rfl
theorem k_ratio_over (k : Nat) (ws : List W) (h : Store) : callK prg (k + 1) "ratio_over" ws h = if ws.length = 2 then finish h (b_ratio_over (callK prg k) (decide (32 ≤ k)) (startR ["a", "b"] ws) h) else .bad := by
  rw [← e_ratio_over]
  rfl
noncomputable def b_is_any_table (call : CallT) (big : Bool) : DenS :=
    (sSeq (sIf (tcOr (tcNot (tcVal (cIsi1 "tuple" (cVar 0)))) (tcCmp .Gt (cV1 lenV (cVar 0)) (cVal (.int 40)))) (sSeq (sRet (cVal (.bl false)))
    sSkip) sSkip)
    (sSeq (sIf (tcNot (tcVal (cQ1 allQ (cSeqF (cComp (cItV (cVar 0)) [1] (.nm 1) cTrue (cAnd (cIsi1 "tuple" (cVar 1)) (cChain .LtE .LtE (cVal (.int 1)) (cV1 lenV (cVar 1)) (cVal (.int 40))))))))) (sSeq (sRet (cVal (.bl false)))
    sSkip) sSkip)
    (sSeq (sRet (cQ1 allQ (cSeqF (cComp (cItV (cVar 0)) [1] (.nm 1) cTrue (cAnd (cCmp .Eq (cV1 lenV (cVar 1)) (cV1 lenV (cIx (cVar 0) (cVal (.int 0))))) (cQ1 allQ (cSeqF (cComp (cItV (cVar 1)) [2] (.nm 2) cTrue (cCall call 1 "is_ratio" (cCons (cVar 2) cNil))))))))))
    sSkip)))
theorem e_is_any_table (k : Nat) (call : CallT) : bodyOf prg ⟨"is_any_table", 1, ["value", "row", "item"], defScope (top 16), defBody (top 16)⟩ k call = b_is_any_table call (decide (32 ≤ k)) := by kernel_rfl
theorem k_is_any_table (k : Nat) (ws : List W) (h : Store) : callK prg (k + 1) "is_any_table" ws h = if ws.length = 1 then finish h (b_is_any_table (callK prg k) (decide (32 ≤ k)) (startR ["value", "row", "item"] ws) h) else .bad := by
  rw [← e_is_any_table]
  rfl
noncomputable def b_width_of (call : CallT) (big : Bool) : DenS :=
    (sSeq (sRet (cIf (tcCmp .Gt (cV1 lenV (cVar 0)) (cVal (.int 0))) (cV1 lenV (cIx (cVar 0) (cVal (.int 0)))) (cVal (.int 0))))
    sSkip)
theorem e_width_of (k : Nat) (call : CallT) : bodyOf prg ⟨"width_of", 1, ["T"], defScope (top 17), defBody (top 17)⟩ k call = b_width_of call (decide (32 ≤ k)) := by kernel_rfl
theorem k_width_of (k : Nat) (ws : List W) (h : Store) : callK prg (k + 1) "width_of" ws h = if ws.length = 1 then finish h (b_width_of (callK prg k) (decide (32 ≤ k)) (startR ["T"] ws) h) else .bad := by
  rw [← e_width_of]
  rfl
noncomputable def b_check_table (call : CallT) (big : Bool) : DenS :=
    (sSeq (sIf (tcNot (tcVal (cCall call 1 "is_any_table" (cCons (cVar 0) cNil)))) (sSeq (sRaise "Malformed")
    sSkip) sSkip)
    sSkip)
theorem e_check_table (k : Nat) (call : CallT) : bodyOf prg ⟨"check_table", 1, ["T"], defScope (top 18), defBody (top 18)⟩ k call = b_check_table call (decide (32 ≤ k)) := by kernel_rfl
theorem k_check_table (k : Nat) (ws : List W) (h : Store) : callK prg (k + 1) "check_table" ws h = if ws.length = 1 then finish h (b_check_table (callK prg k) (decide (32 ≤ k)) (startR ["T"] ws) h) else .bad := by
  rw [← e_check_table]
  rfl
noncomputable def b_reduced_of (call : CallT) (big : Bool) : DenS :=
    (sSeq (sAsg (cTup (cCons (cFresh (cComp (cItV (cVar 0)) [8] (.nm 8) cTrue (cFresh (cListQ (cSeqV (cVar 8)))))) (cCons (cFresh (cLst cNil)) cNil))) (gTp 2 (gsCons (gNm 1) (gsCons (gNm 2) gsNil))))
    (sSeq (sFor (cItR rng1 (cCons (cCall call 1 "width_of" (cCons (cVar 0) cNil)) cNil)) (.nm 3) (sSeq (sAsg (cV1 lenV (cVar 2)) (gNm 4))
    (sSeq (sAsg (cFresh (cComp (cItR rng2 (cCons (cVar 4) (cCons (cV1 lenV (cVar 1)) cNil))) [5] (.nm 5) (tcCmp .NotEq (cIx (cIx (cIx (cVar 1) (cVar 5)) (cVar 3)) (cVal (.int 0))) (cVal (.int 0))) (cVar 5))) (gNm 6))
    (sSeq (sIf (tcCmp .Gt (cV1 lenV (cVar 6)) (cVal (.int 0))) (sSeq (sAsg (cTup (cCons (cIx (cVar 1) (cIx (cVar 6) (cVal (.int 0)))) (cCons (cIx (cVar 1) (cVar 4)) cNil))) (gTp 2 (gsCons (gSx (cVar 1) (cVar 4)) (gsCons (gSx (cVar 1) (cIx (cVar 6) (cVal (.int 0)))) gsNil))))
    (sSeq (sAsg (cFresh (cComp (cItV (cIx (cVar 1) (cVar 4))) [9] (.nm 9) cTrue (cCall call 2 "ratio_over" (cCons (cVar 9) (cCons (cIx (cIx (cVar 1) (cVar 4)) (cVar 3)) cNil))))) (gSx (cVar 1) (cVar 4)))
    (sSeq (sFor (cItR rng1 (cCons (cV1 lenV (cVar 1)) cNil)) (.nm 5) (sSeq (sIf (tcAnd (tcCmp .NotEq (cVar 5) (cVar 4)) (tcCmp .NotEq (cIx (cIx (cIx (cVar 1) (cVar 5)) (cVar 3)) (cVal (.int 0))) (cVal (.int 0)))) (sSeq (sAsg (cIx (cIx (cVar 1) (cVar 5)) (cVar 3)) (gNm 7))
    (sSeq (sAsg (cFresh (cComp (cItS zipOf (cCons (cIx (cVar 1) (cVar 5)) (cCons (cIx (cVar 1) (cVar 4)) cNil))) [10, 11] (.tp [(.nm 10), (.nm 11)]) cTrue (cCall call 2 "ratio_less" (cCons (cVar 10) (cCons (cCall call 2 "ratio_product" (cCons (cVar 7) (cCons (cVar 11) cNil))) cNil))))) (gSx (cVar 1) (cVar 5)))
    sSkip)) sSkip)
    sSkip))
    (sSeq (sExpr (cApp (cVar 2) (cVar 3)))
    sSkip)))) sSkip)
    sSkip))))
    (sSeq (sRet (cTup (cCons (cSl (cVar 1) cNoPart (cPart (cV1 lenV (cVar 2)))) (cCons (cVar 2) cNil))))
    sSkip)))
theorem e_reduced_of (k : Nat) (call : CallT) : bodyOf prg ⟨"reduced_of", 1, ["T", "rows", "pivots", "j", "k", "i", "at", "c", "row", "item", "a", "b"], defScope (top 19), defBody (top 19)⟩ k call = b_reduced_of call (decide (32 ≤ k)) := by kernel_rfl
theorem k_reduced_of (k : Nat) (ws : List W) (h : Store) : callK prg (k + 1) "reduced_of" ws h = if ws.length = 1 then finish h (b_reduced_of (callK prg k) (decide (32 ≤ k)) (startR ["T", "rows", "pivots", "j", "k", "i", "at", "c", "row", "item", "a", "b"] ws) h) else .bad := by
  rw [← e_reduced_of]
  rfl
noncomputable def b_table_rank (call : CallT) (big : Bool) : DenS :=
    (sSeq (sExpr (cCall call 1 "check_table" (cCons (cVar 0) cNil)))
    (sSeq (sRet (cV1 lenV (cIx (cCall call 1 "reduced_of" (cCons (cVar 0) cNil)) (cVal (.int 1)))))
    sSkip))
theorem e_table_rank (k : Nat) (call : CallT) : bodyOf prg ⟨"table_rank", 1, ["T"], defScope (top 20), defBody (top 20)⟩ k call = b_table_rank call (decide (32 ≤ k)) := by kernel_rfl
theorem k_table_rank (k : Nat) (ws : List W) (h : Store) : callK prg (k + 1) "table_rank" ws h = if ws.length = 1 then finish h (b_table_rank (callK prg k) (decide (32 ≤ k)) (startR ["T"] ws) h) else .bad := by
  rw [← e_table_rank]
  rfl
noncomputable def b_table_reduced (call : CallT) (big : Bool) : DenS :=
    (sSeq (sExpr (cCall call 1 "check_table" (cCons (cVar 0) cNil)))
    (sSeq (sRet (cQ1 tupQ (cSeqF (cComp (cItV (cIx (cCall call 1 "reduced_of" (cCons (cVar 0) cNil)) (cVal (.int 0)))) [1] (.nm 1) cTrue (cQ1 tupQ (cSeqV (cVar 1)))))))
    sSkip))
theorem e_table_reduced (k : Nat) (call : CallT) : bodyOf prg ⟨"table_reduced", 1, ["T", "row"], defScope (top 21), defBody (top 21)⟩ k call = b_table_reduced call (decide (32 ≤ k)) := by kernel_rfl
theorem k_table_reduced (k : Nat) (ws : List W) (h : Store) : callK prg (k + 1) "table_reduced" ws h = if ws.length = 1 then finish h (b_table_reduced (callK prg k) (decide (32 ≤ k)) (startR ["T", "row"] ws) h) else .bad := by
  rw [← e_table_reduced]
  rfl
noncomputable def b_table_kernel (call : CallT) (big : Bool) : DenS :=
    (sSeq (sExpr (cCall call 1 "check_table" (cCons (cVar 0) cNil)))
    (sSeq (sAsg (cCall call 1 "reduced_of" (cCons (cVar 0) cNil)) (gTp 2 (gsCons (gNm 1) (gsCons (gNm 2) gsNil))))
    (sSeq (sPar2 3 4 (cCons (cCall call 1 "width_of" (cCons (cVar 0) cNil)) (cCons (cFresh (cLst cNil)) cNil)))
    (sSeq (sFor (cItR rng1 (cCons (cVar 3) cNil)) (.nm 5) (sSeq (sIf (tcCmp .NotIn (cVar 5) (cVar 2)) (sSeq (sAsg (cBin big .Mult (cFresh (cLst (cCons (cVal (.tup [(.int 0), (.int 1)])) cNil))) (cVar 3)) (gNm 6))
    (sSeq (sAsg (cVal (.tup [(.int 1), (.int 1)])) (gSx (cVar 6) (cVar 5)))
    (sSeq (sFor (cItS zipOf (cCons (cVar 1) (cCons (cVar 2) cNil))) (.tp [(.nm 7), (.nm 8)]) (sSeq (sAsg (cCall call 2 "ratio_less" (cCons (cVal (.tup [(.int 0), (.int 1)])) (cCons (cIx (cVar 7) (cVar 5)) cNil))) (gSx (cVar 6) (cVar 8)))
    sSkip))
    (sSeq (sExpr (cApp (cVar 4) (cQ1 tupQ (cSeqV (cVar 6)))))
    sSkip)))) sSkip)
    sSkip))
    (sSeq (sRet (cQ1 tupQ (cSeqV (cVar 4))))
    sSkip)))))
theorem e_table_kernel (k : Nat) (call : CallT) : bodyOf prg ⟨"table_kernel", 1, ["T", "rows", "pivots", "q", "found", "j", "x", "row", "p"], defScope (top 22), defBody (top 22)⟩ k call = b_table_kernel call (decide (32 ≤ k)) := by kernel_rfl
theorem k_table_kernel (k : Nat) (ws : List W) (h : Store) : callK prg (k + 1) "table_kernel" ws h = if ws.length = 1 then finish h (b_table_kernel (callK prg k) (decide (32 ≤ k)) (startR ["T", "rows", "pivots", "q", "found", "j", "x", "row", "p"] ws) h) else .bad := by
  rw [← e_table_kernel]
  rfl
noncomputable def b_solution_of (call : CallT) (big : Bool) : DenS :=
    (sSeq (sAsg (cCall call 1 "reduced_of" (cCons (cFresh (cComp (cItS zipOf (cCons (cVar 0) (cCons (cVar 1) cNil))) [2, 8] (.tp [(.nm 2), (.nm 8)]) cTrue (cBin big .Add (cVar 2) (cTup (cCons (cVar 8) cNil))))) cNil)) (gTp 2 (gsCons (gNm 3) (gsCons (gNm 4) gsNil))))
    (sSeq (sAsg (cCall call 1 "width_of" (cCons (cVar 0) cNil)) (gNm 5))
    (sSeq (sIf (tcCmp .In (cVar 5) (cVar 4)) (sSeq (sRet (cVal .non))
    sSkip) sSkip)
    (sSeq (sAsg (cBin big .Mult (cFresh (cLst (cCons (cVal (.tup [(.int 0), (.int 1)])) cNil))) (cVar 5)) (gNm 6))
    (sSeq (sFor (cItS zipOf (cCons (cVar 3) (cCons (cVar 4) cNil))) (.tp [(.nm 2), (.nm 7)]) (sSeq (sAsg (cIx (cVar 2) (cVar 5)) (gSx (cVar 6) (cVar 7)))
    sSkip))
    (sSeq (sRet (cQ1 tupQ (cSeqV (cVar 6))))
    sSkip))))))
theorem e_solution_of (k : Nat) (call : CallT) : bodyOf prg ⟨"solution_of", 2, ["T", "b", "row", "rows", "pivots", "q", "x", "p", "c"], defScope (top 23), defBody (top 23)⟩ k call = b_solution_of call (decide (32 ≤ k)) := by kernel_rfl
theorem k_solution_of (k : Nat) (ws : List W) (h : Store) : callK prg (k + 1) "solution_of" ws h = if ws.length = 2 then finish h (b_solution_of (callK prg k) (decide (32 ≤ k)) (startR ["T", "b", "row", "rows", "pivots", "q", "x", "p", "c"] ws) h) else .bad := by
  rw [← e_solution_of]
  rfl
noncomputable def b_table_solved (call : CallT) (big : Bool) : DenS :=
    (sSeq (sExpr (cCall call 1 "check_table" (cCons (cVar 0) cNil)))
    (sSeq (sIf (tcOr (tcNot (tcVal (cIsi1 "tuple" (cVar 1)))) (tcOr (tcCmp .NotEq (cV1 lenV (cVar 1)) (cV1 lenV (cVar 0))) (tcNot (tcVal (cQ1 allQ (cSeqF (cComp (cItV (cVar 1)) [2] (.nm 2) cTrue (cCall call 1 "is_ratio" (cCons (cVar 2) cNil))))))))) (sSeq (sRaise "Malformed")
    sSkip) sSkip)
    (sSeq (sRet (cCall call 2 "solution_of" (cCons (cVar 0) (cCons (cVar 1) cNil))))
    sSkip)))
theorem e_table_solved (k : Nat) (call : CallT) : bodyOf prg ⟨"table_solved", 2, ["T", "b", "c"], defScope (top 24), defBody (top 24)⟩ k call = b_table_solved call (decide (32 ≤ k)) := by kernel_rfl
theorem k_table_solved (k : Nat) (ws : List W) (h : Store) : callK prg (k + 1) "table_solved" ws h = if ws.length = 2 then finish h (b_table_solved (callK prg k) (decide (32 ≤ k)) (startR ["T", "b", "c"] ws) h) else .bad := by
  rw [← e_table_solved]
  rfl
noncomputable def b_spans_alike (call : CallT) (big : Bool) : DenS :=
    (sSeq (sExpr (cCall call 1 "check_table" (cCons (cVar 0) cNil)))
    (sSeq (sExpr (cCall call 1 "check_table" (cCons (cVar 1) cNil)))
    (sSeq (sIf (tcCmp .NotEq (cCall call 1 "width_of" (cCons (cVar 0) cNil)) (cCall call 1 "width_of" (cCons (cVar 1) cNil))) (sSeq (sRaise "Malformed")
    sSkip) sSkip)
    (sSeq (sRet (cCmp .Eq (cIx (cCall call 1 "reduced_of" (cCons (cVar 0) cNil)) (cVal (.int 0))) (cIx (cCall call 1 "reduced_of" (cCons (cVar 1) cNil)) (cVal (.int 0)))))
    sSkip))))
theorem e_spans_alike (k : Nat) (call : CallT) : bodyOf prg ⟨"spans_alike", 2, ["S", "T"], defScope (top 25), defBody (top 25)⟩ k call = b_spans_alike call (decide (32 ≤ k)) := by kernel_rfl
theorem k_spans_alike (k : Nat) (ws : List W) (h : Store) : callK prg (k + 1) "spans_alike" ws h = if ws.length = 2 then finish h (b_spans_alike (callK prg k) (decide (32 ≤ k)) (startR ["S", "T"] ws) h) else .bad := by
  rw [← e_spans_alike]
  rfl
noncomputable def b__law_state (call : CallT) (big : Bool) : DenS :=
    (sSeq (sAsg (cVal (.int 0)) (gNm 1))
    (sSeq (sAsg (cVal (.int 1)) (gNm 2))
    (sSeq (sFor (cItV (cSl (cVar 0) cNoPart (cPart (cVal (.int 63))))) (.nm 3) (sSeq (sAsg (cBin big .Add (cBin big .Mult (cVar 1) (cVal (.int 1000003))) (cV1 absV1 (cVar 3))) (gNm 1))
    (sSeq (sAsg (cBin big .Mod (cV1 intV (cBin big .Add (cBin big .Mult (cVar 2) (cVal (.int 48271))) (cVar 3))) (cVal (.int 2147483647))) (gNm 2))
    sSkip)))
    (sSeq (sRet (cFresh (cLst (cCons (cVar 1) (cCons (cVar 2) cNil)))))
    sSkip))))
theorem e__law_state (k : Nat) (call : CallT) : bodyOf prg ⟨"_law_state", 1, ["script", "seed", "total", "cell"], defScope (top 27), defBody (top 27)⟩ k call = b__law_state call (decide (32 ≤ k)) := by kernel_rfl
theorem k__law_state (k : Nat) (ws : List W) (h : Store) : callK prg (k + 1) "_law_state" ws h = if ws.length = 1 then finish h (b__law_state (callK prg k) (decide (32 ≤ k)) (startR ["script", "seed", "total", "cell"] ws) h) else .bad := by
  rw [← e__law_state]
  rfl
noncomputable def b__law_take (call : CallT) (big : Bool) : DenS :=
    (sSeq (sIf (tcCmp .Gt (cIx (cVar 0) (cVal (.int 0))) (cVal (.int 0))) (sSeq (sAsg (cBin big .Mod (cV1 intV (cIx (cVar 0) (cVal (.int 0)))) (cVar 1)) (gNm 2))
    (sSeq (sAsg (cBin big .FloorDiv (cIx (cVar 0) (cVal (.int 0))) (cVar 1)) (gSx (cVar 0) (cVal (.int 0))))
    (sSeq (sRet (cVar 2))
    sSkip))) sSkip)
    (sSeq (sAsg (cBin big .Mod (cV1 intV (cBin big .Add (cBin big .Mult (cIx (cVar 0) (cVal (.int 1))) (cVal (.int 48271))) (cVal (.int 11)))) (cVal (.int 2147483647))) (gSx (cVar 0) (cVal (.int 1))))
    (sSeq (sRet (cBin big .Mod (cV1 intV (cBin big .FloorDiv (cIx (cVar 0) (cVal (.int 1))) (cVal (.int 7)))) (cVar 1)))
    sSkip)))
theorem e__law_take (k : Nat) (call : CallT) : bodyOf prg ⟨"_law_take", 2, ["state", "m", "value"], defScope (top 28), defBody (top 28)⟩ k call = b__law_take call (decide (32 ≤ k)) := by kernel_rfl
theorem k__law_take (k : Nat) (ws : List W) (h : Store) : callK prg (k + 1) "_law_take" ws h = if ws.length = 2 then finish h (b__law_take (callK prg k) (decide (32 ≤ k)) (startR ["state", "m", "value"] ws) h) else .bad := by
  rw [← e__law_take]
  rfl
noncomputable def b__law_same (call : CallT) (big : Bool) : DenS :=
    (sSeq (sIf (tcVal (cIsi1 "tuple" (cVar 1))) (sSeq (sRet (cAnd (cIsi1 "tuple" (cVar 0)) (cAnd (cCmp .Eq (cV1 lenV (cVar 0)) (cV1 lenV (cVar 1))) (cQ1 allQ (cSeqF (cComp (cItR rng1 (cCons (cV1 lenV (cVar 1)) cNil)) [2] (.nm 2) cTrue (cCall call 2 "_law_same" (cCons (cIx (cVar 0) (cVar 2)) (cCons (cIx (cVar 1) (cVar 2)) cNil)))))))))
    sSkip) sSkip)
    (sSeq (sIf (tcCmp .Is (cVar 1) (cVal .non)) (sSeq (sRet (cCmp .Is (cVar 0) (cVal .non)))
    sSkip) sSkip)
    (sSeq (sIf (tcVal (cIsi1 "bool" (cVar 1))) (sSeq (sRet (cAnd (cIsi1 "bool" (cVar 0)) (cCmp .Eq (cVar 0) (cVar 1))))
    sSkip) sSkip)
    (sSeq (sIf (tcVal (cIsi1 "str" (cVar 1))) (sSeq (sRet (cAnd (cIsi1 "str" (cVar 0)) (cCmp .Eq (cVar 0) (cVar 1))))
    sSkip) sSkip)
    (sSeq (sRet (cAnd (cIsi1 "int" (cVar 0)) (cAnd (cNot (cIsi1 "bool" (cVar 0))) (cCmp .Eq (cVar 0) (cVar 1)))))
    sSkip)))))
theorem e__law_same (k : Nat) (call : CallT) : bodyOf prg ⟨"_law_same", 2, ["value", "due", "k"], defScope (top 29), defBody (top 29)⟩ k call = b__law_same call (decide (32 ≤ k)) := by kernel_rfl
theorem k__law_same (k : Nat) (ws : List W) (h : Store) : callK prg (k + 1) "_law_same" ws h = if ws.length = 2 then finish h (b__law_same (callK prg k) (decide (32 ≤ k)) (startR ["value", "due", "k"] ws) h) else .bad := by
  rw [← e__law_same]
  rfl
noncomputable def b__law_told (call : CallT) (big : Bool) : DenS :=
    (sSeq (sTry prg.ct "Malformed" (sSeq (sIf (tcCmp .Eq (cV1 lenV (cVar 1)) (cVal (.int 1))) (sSeq (sRet (cTup (cCons (cVal (.str "told")) (cCons (cCallV call dfs (cVar 0) (cCons (cIx (cVar 1) (cVal (.int 0))) cNil)) cNil))))
    sSkip) sSkip)
    (sSeq (sIf (tcCmp .Eq (cV1 lenV (cVar 1)) (cVal (.int 2))) (sSeq (sRet (cTup (cCons (cVal (.str "told")) (cCons (cCallV call dfs (cVar 0) (cCons (cIx (cVar 1) (cVal (.int 0))) (cCons (cIx (cVar 1) (cVal (.int 1))) cNil))) cNil))))
    sSkip) sSkip)
    (sSeq (sIf (tcCmp .Eq (cV1 lenV (cVar 1)) (cVal (.int 3))) (sSeq (sRet (cTup (cCons (cVal (.str "told")) (cCons (cCallV call dfs (cVar 0) (cCons (cIx (cVar 1) (cVal (.int 0))) (cCons (cIx (cVar 1) (cVal (.int 1))) (cCons (cIx (cVar 1) (cVal (.int 2))) cNil)))) cNil))))
    sSkip) sSkip)
    (sSeq (sIf (tcCmp .Eq (cV1 lenV (cVar 1)) (cVal (.int 4))) (sSeq (sRet (cTup (cCons (cVal (.str "told")) (cCons (cCallV call dfs (cVar 0) (cCons (cIx (cVar 1) (cVal (.int 0))) (cCons (cIx (cVar 1) (cVal (.int 1))) (cCons (cIx (cVar 1) (cVal (.int 2))) (cCons (cIx (cVar 1) (cVal (.int 3))) cNil))))) cNil))))
    sSkip) sSkip)
    (sSeq (sRet (cTup (cCons (cVal (.str "told")) (cCons (cCallV call dfs (cVar 0) (cCons (cIx (cVar 1) (cVal (.int 0))) (cCons (cIx (cVar 1) (cVal (.int 1))) (cCons (cIx (cVar 1) (cVal (.int 2))) (cCons (cIx (cVar 1) (cVal (.int 3))) (cCons (cIx (cVar 1) (cVal (.int 4))) cNil)))))) cNil))))
    sSkip))))) (sRet (cVal (.tup [(.str "raised"), (.str "malformed")]))))
    sSkip)
theorem e__law_told (k : Nat) (call : CallT) : bodyOf prg ⟨"_law_told", 2, ["f", "given", "error"], defScope (top 30), defBody (top 30)⟩ k call = b__law_told call (decide (32 ≤ k)) := by kernel_rfl
theorem k__law_told (k : Nat) (ws : List W) (h : Store) : callK prg (k + 1) "_law_told" ws h = if ws.length = 2 then finish h (b__law_told (callK prg k) (decide (32 ≤ k)) (startR ["f", "given", "error"] ws) h) else .bad := by
  rw [← e__law_told]
  rfl
noncomputable def b__law_is_told (call : CallT) (big : Bool) : DenS :=
    (sSeq (sRet (cAnd (cCmp .Eq (cIx (cVar 0) (cVal (.int 0))) (cVal (.str "told"))) (cCall call 2 "_law_same" (cCons (cIx (cVar 0) (cVal (.int 1))) (cCons (cVar 1) cNil)))))
    sSkip)
theorem e__law_is_told (k : Nat) (call : CallT) : bodyOf prg ⟨"_law_is_told", 2, ["pair", "due"], defScope (top 31), defBody (top 31)⟩ k call = b__law_is_told call (decide (32 ≤ k)) := by kernel_rfl
theorem k__law_is_told (k : Nat) (ws : List W) (h : Store) : callK prg (k + 1) "_law_is_told" ws h = if ws.length = 2 then finish h (b__law_is_told (callK prg k) (decide (32 ≤ k)) (startR ["pair", "due"] ws) h) else .bad := by
  rw [← e__law_is_told]
  rfl
noncomputable def b__law_is_raised (call : CallT) (big : Bool) : DenS :=
    (sSeq (sRet (cAnd (cCmp .Eq (cIx (cVar 0) (cVal (.int 0))) (cVal (.str "raised"))) (cCall call 2 "_law_same" (cCons (cIx (cVar 0) (cVal (.int 1))) (cCons (cVar 1) cNil)))))
    sSkip)
theorem e__law_is_raised (k : Nat) (call : CallT) : bodyOf prg ⟨"_law_is_raised", 2, ["pair", "reason"], defScope (top 32), defBody (top 32)⟩ k call = b__law_is_raised call (decide (32 ≤ k)) := by kernel_rfl
theorem k__law_is_raised (k : Nat) (ws : List W) (h : Store) : callK prg (k + 1) "_law_is_raised" ws h = if ws.length = 2 then finish h (b__law_is_raised (callK prg k) (decide (32 ≤ k)) (startR ["pair", "reason"] ws) h) else .bad := by
  rw [← e__law_is_raised]
  rfl
noncomputable def b__law_tells (call : CallT) (big : Bool) : DenS :=
    (sSeq (sRet (cCall call 2 "_law_is_told" (cCons (cCall call 2 "_law_told" (cCons (cVar 0) (cCons (cVar 1) cNil))) (cCons (cVar 2) cNil))))
    sSkip)
theorem e__law_tells (k : Nat) (call : CallT) : bodyOf prg ⟨"_law_tells", 3, ["f", "given", "due"], defScope (top 33), defBody (top 33)⟩ k call = b__law_tells call (decide (32 ≤ k)) := by kernel_rfl
theorem k__law_tells (k : Nat) (ws : List W) (h : Store) : callK prg (k + 1) "_law_tells" ws h = if ws.length = 3 then finish h (b__law_tells (callK prg k) (decide (32 ≤ k)) (startR ["f", "given", "due"] ws) h) else .bad := by
  rw [← e__law_tells]
  rfl
noncomputable def b__law_raises (call : CallT) (big : Bool) : DenS :=
    (sSeq (sRet (cCall call 2 "_law_is_raised" (cCons (cCall call 2 "_law_told" (cCons (cVar 0) (cCons (cVar 1) cNil))) (cCons (cVar 2) cNil))))
    sSkip)
theorem e__law_raises (k : Nat) (call : CallT) : bodyOf prg ⟨"_law_raises", 3, ["f", "given", "reason"], defScope (top 34), defBody (top 34)⟩ k call = b__law_raises call (decide (32 ≤ k)) := by kernel_rfl
theorem k__law_raises (k : Nat) (ws : List W) (h : Store) : callK prg (k + 1) "_law_raises" ws h = if ws.length = 3 then finish h (b__law_raises (callK prg k) (decide (32 ≤ k)) (startR ["f", "given", "reason"] ws) h) else .bad := by
  rw [← e__law_raises]
  rfl
noncomputable def b__law_frac (call : CallT) (big : Bool) : DenS :=
    (sSeq (sPar2 2 3 (cCons (cV1 absV1 (cVar 0)) (cCons (cV1 absV1 (cVar 1)) cNil)))
    (sSeq (sWhile (tcCmp .NotEq (cVar 3) (cVal (.int 0))) (sSeq (sPar2 2 3 (cCons (cVar 3) (cCons (cBin big .Mod (cV1 intV (cVar 2)) (cVar 3)) cNil)))
    sSkip))
    (sSeq (sAsg (cIf (tcCmp .Gt (cVar 1) (cVal (.int 0))) (cVar 2) (cNeg (cVar 2))) (gNm 2))
    (sSeq (sRet (cTup (cCons (cBin big .FloorDiv (cVar 0) (cVar 2)) (cCons (cBin big .FloorDiv (cVar 1) (cVar 2)) cNil))))
    sSkip))))
theorem e__law_frac (k : Nat) (call : CallT) : bodyOf prg ⟨"_law_frac", 2, ["n", "d", "a", "b"], defScope (top 35), defBody (top 35)⟩ k call = b__law_frac call (decide (32 ≤ k)) := by kernel_rfl
theorem k__law_frac (k : Nat) (ws : List W) (h : Store) : callK prg (k + 1) "_law_frac" ws h = if ws.length = 2 then finish h (b__law_frac (callK prg k) (decide (32 ≤ k)) (startR ["n", "d", "a", "b"] ws) h) else .bad := by
  rw [← e__law_frac]
  rfl
noncomputable def b__law_add (call : CallT) (big : Bool) : DenS :=
    (sSeq (sRet (cCall call 2 "_law_frac" (cCons (cBin big .Add (cBin big .Mult (cIx (cVar 0) (cVal (.int 0))) (cIx (cVar 1) (cVal (.int 1)))) (cBin big .Mult (cIx (cVar 1) (cVal (.int 0))) (cIx (cVar 0) (cVal (.int 1))))) (cCons (cBin big .Mult (cIx (cVar 0) (cVal (.int 1))) (cIx (cVar 1) (cVal (.int 1)))) cNil))))
    sSkip)
theorem e__law_add (k : Nat) (call : CallT) : bodyOf prg ⟨"_law_add", 2, ["x", "y"], defScope (top 36), defBody (top 36)⟩ k call = b__law_add call (decide (32 ≤ k)) := by kernel_rfl
theorem k__law_add (k : Nat) (ws : List W) (h : Store) : callK prg (k + 1) "_law_add" ws h = if ws.length = 2 then finish h (b__law_add (callK prg k) (decide (32 ≤ k)) (startR ["x", "y"] ws) h) else .bad := by
  rw [← e__law_add]
  rfl
noncomputable def b__law_less (call : CallT) (big : Bool) : DenS :=
    (sSeq (sRet (cCall call 2 "_law_frac" (cCons (cBin big .Sub (cBin big .Mult (cIx (cVar 0) (cVal (.int 0))) (cIx (cVar 1) (cVal (.int 1)))) (cBin big .Mult (cIx (cVar 1) (cVal (.int 0))) (cIx (cVar 0) (cVal (.int 1))))) (cCons (cBin big .Mult (cIx (cVar 0) (cVal (.int 1))) (cIx (cVar 1) (cVal (.int 1)))) cNil))))
    sSkip)
theorem e__law_less (k : Nat) (call : CallT) : bodyOf prg ⟨"_law_less", 2, ["x", "y"], defScope (top 37), defBody (top 37)⟩ k call = b__law_less call (decide (32 ≤ k)) := by kernel_rfl
theorem k__law_less (k : Nat) (ws : List W) (h : Store) : callK prg (k + 1) "_law_less" ws h = if ws.length = 2 then finish h (b__law_less (callK prg k) (decide (32 ≤ k)) (startR ["x", "y"] ws) h) else .bad := by
  rw [← e__law_less]
  rfl
noncomputable def b__law_mul (call : CallT) (big : Bool) : DenS :=
    (sSeq (sRet (cCall call 2 "_law_frac" (cCons (cBin big .Mult (cIx (cVar 0) (cVal (.int 0))) (cIx (cVar 1) (cVal (.int 0)))) (cCons (cBin big .Mult (cIx (cVar 0) (cVal (.int 1))) (cIx (cVar 1) (cVal (.int 1)))) cNil))))
    sSkip)
theorem e__law_mul (k : Nat) (call : CallT) : bodyOf prg ⟨"_law_mul", 2, ["x", "y"], defScope (top 38), defBody (top 38)⟩ k call = b__law_mul call (decide (32 ≤ k)) := by kernel_rfl
theorem k__law_mul (k : Nat) (ws : List W) (h : Store) : callK prg (k + 1) "_law_mul" ws h = if ws.length = 2 then finish h (b__law_mul (callK prg k) (decide (32 ≤ k)) (startR ["x", "y"] ws) h) else .bad := by
  rw [← e__law_mul]
  rfl
noncomputable def b__law_over (call : CallT) (big : Bool) : DenS :=
    (sSeq (sRet (cCall call 2 "_law_frac" (cCons (cBin big .Mult (cIx (cVar 0) (cVal (.int 0))) (cIx (cVar 1) (cVal (.int 1)))) (cCons (cBin big .Mult (cIx (cVar 0) (cVal (.int 1))) (cIx (cVar 1) (cVal (.int 0)))) cNil))))
    sSkip)
theorem e__law_over (k : Nat) (call : CallT) : bodyOf prg ⟨"_law_over", 2, ["x", "y"], defScope (top 39), defBody (top 39)⟩ k call = b__law_over call (decide (32 ≤ k)) := by kernel_rfl
theorem k__law_over (k : Nat) (ws : List W) (h : Store) : callK prg (k + 1) "_law_over" ws h = if ws.length = 2 then finish h (b__law_over (callK prg k) (decide (32 ≤ k)) (startR ["x", "y"] ws) h) else .bad := by
  rw [← e__law_over]
  rfl
noncomputable def b__law_total (call : CallT) (big : Bool) : DenS :=
    (sSeq (sAsg (cTup (cCons (cVal (.int 0)) (cCons (cVal (.int 1)) cNil))) (gNm 1))
    (sSeq (sFor (cItV (cVar 0)) (.nm 2) (sSeq (sAsg (cCall call 2 "_law_add" (cCons (cVar 1) (cCons (cVar 2) cNil))) (gNm 1))
    sSkip))
    (sSeq (sRet (cVar 1))
    sSkip)))
theorem e__law_total (k : Nat) (call : CallT) : bodyOf prg ⟨"_law_total", 1, ["items", "found", "x"], defScope (top 40), defBody (top 40)⟩ k call = b__law_total call (decide (32 ≤ k)) := by kernel_rfl
theorem k__law_total (k : Nat) (ws : List W) (h : Store) : callK prg (k + 1) "_law_total" ws h = if ws.length = 1 then finish h (b__law_total (callK prg k) (decide (32 ≤ k)) (startR ["items", "found", "x"] ws) h) else .bad := by
  rw [← e__law_total]
  rfl
noncomputable def b__law_dot (call : CallT) (big : Bool) : DenS :=
    (sSeq (sRet (cCall call 1 "_law_total" (cCons (cFresh (cComp (cItR rng1 (cCons (cV1 lenV (cVar 0)) cNil)) [2] (.nm 2) cTrue (cCall call 2 "_law_mul" (cCons (cIx (cVar 0) (cVar 2)) (cCons (cIx (cVar 1) (cVar 2)) cNil))))) cNil)))
    sSkip)
theorem e__law_dot (k : Nat) (call : CallT) : bodyOf prg ⟨"_law_dot", 2, ["one", "two", "k"], defScope (top 41), defBody (top 41)⟩ k call = b__law_dot call (decide (32 ≤ k)) := by kernel_rfl
theorem k__law_dot (k : Nat) (ws : List W) (h : Store) : callK prg (k + 1) "_law_dot" ws h = if ws.length = 2 then finish h (b__law_dot (callK prg k) (decide (32 ≤ k)) (startR ["one", "two", "k"] ws) h) else .bad := by
  rw [← e__law_dot]
  rfl
noncomputable def b__law_drawn (call : CallT) (big : Bool) : DenS :=
    (sSeq (sRet (cCall call 2 "_law_frac" (cCons (cBin big .Sub (cCall call 2 "_law_take" (cCons (cVar 0) (cCons (cVal (.int 13)) cNil))) (cVal (.int 6))) (cCons (cBin big .Add (cVal (.int 1)) (cCall call 2 "_law_take" (cCons (cVar 0) (cCons (cVal (.int 4)) cNil)))) cNil))))
    sSkip)
theorem e__law_drawn (k : Nat) (call : CallT) : bodyOf prg ⟨"_law_drawn", 1, ["state"], defScope (top 42), defBody (top 42)⟩ k call = b__law_drawn call (decide (32 ≤ k)) := by kernel_rfl
theorem k__law_drawn (k : Nat) (ws : List W) (h : Store) : callK prg (k + 1) "_law_drawn" ws h = if ws.length = 1 then finish h (b__law_drawn (callK prg k) (decide (32 ≤ k)) (startR ["state"] ws) h) else .bad := by
  rw [← e__law_drawn]
  rfl
noncomputable def b__law_others (call : CallT) (big : Bool) : DenS :=
    (sSeq (sRet (cFresh (cComp (cItR rng1 (cCons (cVar 0) cNil)) [2] (.nm 2) (tcCmp .NotIn (cVar 2) (cVar 1)) (cVar 2))))
    sSkip)
theorem e__law_others (k : Nat) (call : CallT) : bodyOf prg ⟨"_law_others", 2, ["n", "chosen", "x"], defScope (top 43), defBody (top 43)⟩ k call = b__law_others call (decide (32 ≤ k)) := by kernel_rfl
theorem k__law_others (k : Nat) (ws : List W) (h : Store) : callK prg (k + 1) "_law_others" ws h = if ws.length = 2 then finish h (b__law_others (callK prg k) (decide (32 ≤ k)) (startR ["n", "chosen", "x"] ws) h) else .bad := by
  rw [← e__law_others]
  rfl
noncomputable def b__law_table (call : CallT) (big : Bool) : DenS :=
    (sSeq (sAsg (cFresh (cLst cNil)) (gNm 3))
    (sSeq (sFor (cItR rng1 (cCons (cVar 1) cNil)) (.nm 4) (sSeq (sExpr (cApp (cVar 3) (cQ1 tupQ (cSeqF (cComp (cItR rng1 (cCons (cVar 2) cNil)) [5] (.nm 5) cTrue (cIf (tcCmp .Gt (cCall call 2 "_law_take" (cCons (cVar 0) (cCons (cVal (.int 3)) cNil))) (cVal (.int 0))) (cCall call 1 "_law_drawn" (cCons (cVar 0) cNil)) (cTup (cCons (cVal (.int 0)) (cCons (cVal (.int 1)) cNil)))))))))
    sSkip))
    (sSeq (sRet (cQ1 tupQ (cSeqV (cVar 3))))
    sSkip)))
theorem e__law_table (k : Nat) (call : CallT) : bodyOf prg ⟨"_law_table", 3, ["state", "p", "q", "rows", "i", "j"], defScope (top 44), defBody (top 44)⟩ k call = b__law_table call (decide (32 ≤ k)) := by kernel_rfl
theorem k__law_table (k : Nat) (ws : List W) (h : Store) : callK prg (k + 1) "_law_table" ws h = if ws.length = 3 then finish h (b__law_table (callK prg k) (decide (32 ≤ k)) (startR ["state", "p", "q", "rows", "i", "j"] ws) h) else .bad := by
  rw [← e__law_table]
  rfl
noncomputable def b__law_product (call : CallT) (big : Bool) : DenS :=
    (sSeq (sRet (cQ1 tupQ (cSeqF (cComp (cItV (cVar 0)) [2] (.nm 2) cTrue (cQ1 tupQ (cSeqF (cComp (cItR rng1 (cCons (cV1 lenV (cIx (cVar 1) (cVal (.int 0)))) cNil)) [3] (.nm 3) cTrue (cCall call 2 "_law_dot" (cCons (cVar 2) (cCons (cFresh (cComp (cItV (cVar 1)) [4] (.nm 4) cTrue (cIx (cVar 4) (cVar 3)))) cNil))))))))))
    sSkip)
theorem e__law_product (k : Nat) (call : CallT) : bodyOf prg ⟨"_law_product", 2, ["S", "T", "row", "j", "line"], defScope (top 45), defBody (top 45)⟩ k call = b__law_product call (decide (32 ≤ k)) := by kernel_rfl
theorem k__law_product (k : Nat) (ws : List W) (h : Store) : callK prg (k + 1) "_law_product" ws h = if ws.length = 2 then finish h (b__law_product (callK prg k) (decide (32 ≤ k)) (startR ["S", "T", "row", "j", "line"] ws) h) else .bad := by
  rw [← e__law_product]
  rfl
noncomputable def b__law_steps (call : CallT) (big : Bool) : DenS :=
    (sSeq (sAsg (cTup (cCons (cFresh (cComp (cItV (cVar 0)) [9] (.nm 9) cTrue (cFresh (cListQ (cSeqV (cVar 9)))))) (cCons (cFresh (cLst cNil)) cNil))) (gTp 2 (gsCons (gNm 1) (gsCons (gNm 2) gsNil))))
    (sSeq (sFor (cItR rng1 (cCons (cV1 lenV (cIx (cVar 0) (cVal (.int 0)))) cNil)) (.nm 3) (sSeq (sAsg (cV1 lenV (cVar 2)) (gNm 4))
    (sSeq (sAsg (cFresh (cComp (cItR rng2 (cCons (cVar 4) (cCons (cV1 lenV (cVar 1)) cNil))) [5] (.nm 5) (tcCmp .NotEq (cIx (cIx (cIx (cVar 1) (cVar 5)) (cVar 3)) (cVal (.int 0))) (cVal (.int 0))) (cVar 5))) (gNm 6))
    (sSeq (sIf (tcCmp .Gt (cV1 lenV (cVar 6)) (cVal (.int 0))) (sSeq (sAsg (cFresh (cComp (cItV (cIx (cVar 1) (cIx (cVar 6) (cVal (.int 0))))) [10] (.nm 10) cTrue (cCall call 2 "_law_over" (cCons (cVar 10) (cCons (cIx (cIx (cVar 1) (cIx (cVar 6) (cVal (.int 0)))) (cVar 3)) cNil))))) (gNm 7))
    (sSeq (sAsg (cIx (cVar 1) (cVar 4)) (gSx (cVar 1) (cIx (cVar 6) (cVal (.int 0)))))
    (sSeq (sAsg (cVar 7) (gSx (cVar 1) (cVar 4)))
    (sSeq (sFor (cItR rng1 (cCons (cV1 lenV (cVar 1)) cNil)) (.nm 5) (sSeq (sAsg (cIx (cIx (cVar 1) (cVar 5)) (cVar 3)) (gNm 8))
    (sSeq (sIf (tcAnd (tcCmp .NotEq (cVar 5) (cVar 4)) (tcCmp .NotEq (cIx (cVar 8) (cVal (.int 0))) (cVal (.int 0)))) (sSeq (sAsg (cFresh (cComp (cItR rng1 (cCons (cV1 lenV (cVar 7)) cNil)) [11] (.nm 11) cTrue (cCall call 2 "_law_less" (cCons (cIx (cIx (cVar 1) (cVar 5)) (cVar 11)) (cCons (cCall call 2 "_law_mul" (cCons (cVar 8) (cCons (cIx (cVar 7) (cVar 11)) cNil))) cNil))))) (gSx (cVar 1) (cVar 5)))
    sSkip) sSkip)
    sSkip)))
    (sSeq (sExpr (cApp (cVar 2) (cVar 3)))
    sSkip))))) sSkip)
    sSkip))))
    (sSeq (sRet (cTup (cCons (cQ1 tupQ (cSeqF (cComp (cItV (cSl (cVar 1) cNoPart (cPart (cV1 lenV (cVar 2))))) [9] (.nm 9) cTrue (cQ1 tupQ (cSeqV (cVar 9)))))) (cCons (cVar 2) cNil))))
    sSkip)))
theorem e__law_steps (k : Nat) (call : CallT) : bodyOf prg ⟨"_law_steps", 1, ["T", "rows", "pivots", "j", "k", "i", "at", "line", "c", "row", "x", "t"], defScope (top 46), defBody (top 46)⟩ k call = b__law_steps call (decide (32 ≤ k)) := by kernel_rfl
theorem k__law_steps (k : Nat) (ws : List W) (h : Store) : callK prg (k + 1) "_law_steps" ws h = if ws.length = 1 then finish h (b__law_steps (callK prg k) (decide (32 ≤ k)) (startR ["T", "rows", "pivots", "j", "k", "i", "at", "line", "c", "row", "x", "t"] ws) h) else .bad := by
  rw [← e__law_steps]
  rfl
noncomputable def b__law_solution (call : CallT) (big : Bool) : DenS :=
    (sSeq (sAsg (cCall call 1 "_law_steps" (cCons (cQ1 tupQ (cSeqF (cComp (cItR rng1 (cCons (cV1 lenV (cVar 0)) cNil)) [6] (.nm 6) cTrue (cBin big .Add (cIx (cVar 0) (cVar 6)) (cTup (cCons (cIx (cVar 1) (cVar 6)) cNil)))))) cNil)) (gTp 2 (gsCons (gNm 2) (gsCons (gNm 3) gsNil))))
    (sSeq (sAsg (cV1 lenV (cIx (cVar 0) (cVal (.int 0)))) (gNm 4))
    (sSeq (sIf (tcCmp .In (cVar 4) (cVar 3)) (sSeq (sRet (cVal .non))
    sSkip) sSkip)
    (sSeq (sRet (cQ1 tupQ (cSeqF (cComp (cItR rng1 (cCons (cVar 4) cNil)) [5] (.nm 5) cTrue (cIf (tcCmp .In (cVar 5) (cVar 3)) (cIx (cIx (cVar 2) (cIndex (cVar 3) (cVar 5))) (cVar 4)) (cTup (cCons (cVal (.int 0)) (cCons (cVal (.int 1)) cNil))))))))
    sSkip))))
theorem e__law_solution (k : Nat) (call : CallT) : bodyOf prg ⟨"_law_solution", 2, ["T", "b", "rows", "pivots", "q", "j", "i"], defScope (top 47), defBody (top 47)⟩ k call = b__law_solution call (decide (32 ≤ k)) := by kernel_rfl
theorem k__law_solution (k : Nat) (ws : List W) (h : Store) : callK prg (k + 1) "_law_solution" ws h = if ws.length = 2 then finish h (b__law_solution (callK prg k) (decide (32 ≤ k)) (startR ["T", "b", "rows", "pivots", "q", "j", "i"] ws) h) else .bad := by
  rw [← e__law_solution]
  rfl
noncomputable def b__law_kernel (call : CallT) (big : Bool) : DenS :=
    (sSeq (sAsg (cCall call 1 "_law_steps" (cCons (cVar 0) cNil)) (gTp 2 (gsCons (gNm 1) (gsCons (gNm 2) gsNil))))
    (sSeq (sAsg (cFresh (cLst cNil)) (gNm 3))
    (sSeq (sFor (cItV (cCall call 2 "_law_others" (cCons (cV1 lenV (cIx (cVar 0) (cVal (.int 0)))) (cCons (cVar 2) cNil)))) (.nm 4) (sSeq (sAsg (cFresh (cComp (cItV (cIx (cVar 0) (cVal (.int 0)))) [7] (.nm 7) cTrue (cTup (cCons (cVal (.int 0)) (cCons (cVal (.int 1)) cNil))))) (gNm 5))
    (sSeq (sAsg (cTup (cCons (cVal (.int 1)) (cCons (cVal (.int 1)) cNil))) (gSx (cVar 5) (cVar 4)))
    (sSeq (sFor (cItR rng1 (cCons (cV1 lenV (cVar 2)) cNil)) (.nm 6) (sSeq (sAsg (cCall call 2 "_law_less" (cCons (cTup (cCons (cVal (.int 0)) (cCons (cVal (.int 1)) cNil))) (cCons (cIx (cIx (cVar 1) (cVar 6)) (cVar 4)) cNil))) (gSx (cVar 5) (cIx (cVar 2) (cVar 6))))
    sSkip))
    (sSeq (sExpr (cApp (cVar 3) (cQ1 tupQ (cSeqV (cVar 5)))))
    sSkip)))))
    (sSeq (sRet (cQ1 tupQ (cSeqV (cVar 3))))
    sSkip))))
theorem e__law_kernel (k : Nat) (call : CallT) : bodyOf prg ⟨"_law_kernel", 1, ["T", "rows", "pivots", "found", "j", "x", "k", "t"], defScope (top 48), defBody (top 48)⟩ k call = b__law_kernel call (decide (32 ≤ k)) := by kernel_rfl
theorem k__law_kernel (k : Nat) (ws : List W) (h : Store) : callK prg (k + 1) "_law_kernel" ws h = if ws.length = 1 then finish h (b__law_kernel (callK prg k) (decide (32 ≤ k)) (startR ["T", "rows", "pivots", "found", "j", "x", "k", "t"] ws) h) else .bad := by
  rw [← e__law_kernel]
  rfl
noncomputable def b__law_holds (call : CallT) (big : Bool) : DenS :=
    (sSeq (sAsg (cCall call 1 "_law_steps" (cCons (cVar 1) cNil)) (gTp 2 (gsCons (gNm 2) (gsCons (gNm 3) gsNil))))
    (sSeq (sPar2 4 5 (cCons (cV1 lenV (cVar 1)) (cCons (cV1 lenV (cIx (cVar 1) (cVal (.int 0)))) cNil)))
    (sSeq (sIf (tcOr (tcNot (tcVal (cCall call 3 "_law_tells" (cCons (cVal (.glo "table_reduced")) (cCons (cTup (cCons (cVar 1) cNil)) (cCons (cVar 2) cNil)))))) (tcOr (tcNot (tcVal (cCall call 3 "_law_tells" (cCons (cVal (.glo "table_rank")) (cCons (cTup (cCons (cVar 1) cNil)) (cCons (cV1 lenV (cVar 3)) cNil)))))) (tcNot (tcVal (cCall call 3 "_law_tells" (cCons (cVal (.glo "table_kernel")) (cCons (cTup (cCons (cVar 1) cNil)) (cCons (cCall call 1 "_law_kernel" (cCons (cVar 1) cNil)) cNil)))))))) (sSeq (sRet (cVal (.bl false)))
    sSkip) sSkip)
    (sSeq (sAsg (cQ1 tupQ (cSeqF (cComp (cItR rng1 (cCons (cVar 5) cNil)) [10] (.nm 10) cTrue (cCall call 1 "_law_drawn" (cCons (cVar 0) cNil))))) (gNm 6))
    (sSeq (sAsg (cQ1 tupQ (cSeqF (cComp (cItV (cVar 1)) [11] (.nm 11) cTrue (cCall call 2 "_law_dot" (cCons (cVar 11) (cCons (cVar 6) cNil)))))) (gNm 7))
    (sSeq (sAsg (cCall call 2 "_law_take" (cCons (cVar 0) (cCons (cVar 4) cNil))) (gNm 8))
    (sSeq (sFor (cItF (cLst (cCons (cVar 7) (cCons (cBin big .Mult (cTup (cCons (cTup (cCons (cVal (.int 0)) (cCons (cVal (.int 1)) cNil))) cNil)) (cVar 4)) (cCons (cBin big .Add (cBin big .Add (cSl (cVar 7) cNoPart (cPart (cVar 8))) (cTup (cCons (cCall call 2 "_law_add" (cCons (cIx (cVar 7) (cVar 8)) (cCons (cTup (cCons (cVal (.int 1)) (cCons (cVal (.int 3)) cNil))) cNil))) cNil))) (cSl (cVar 7) (cPart (cBin big .Add (cVar 8) (cVal (.int 1)))) cNoPart)) (cCons (cQ1 tupQ (cSeqF (cComp (cItV (cVar 1)) [11] (.nm 11) cTrue (cCall call 1 "_law_drawn" (cCons (cVar 0) cNil))))) cNil)))))) (.nm 9) (sSeq (sIf (tcNot (tcVal (cCall call 3 "_law_tells" (cCons (cVal (.glo "table_solved")) (cCons (cTup (cCons (cVar 1) (cCons (cVar 9) cNil))) (cCons (cCall call 2 "_law_solution" (cCons (cVar 1) (cCons (cVar 9) cNil))) cNil)))))) (sSeq (sRet (cVal (.bl false)))
    sSkip) sSkip)
    sSkip))
    (sSeq (sRet (cVal (.bl true)))
    sSkip))))))))
theorem e__law_holds (k : Nat) (call : CallT) : bodyOf prg ⟨"_law_holds", 2, ["state", "T", "rows", "pivots", "p", "q", "x", "reached", "i", "b", "j", "row"], defScope (top 49), defBody (top 49)⟩ k call = b__law_holds call (decide (32 ≤ k)) := by kernel_rfl
theorem k__law_holds (k : Nat) (ws : List W) (h : Store) : callK prg (k + 1) "_law_holds" ws h = if ws.length = 2 then finish h (b__law_holds (callK prg k) (decide (32 ≤ k)) (startR ["state", "T", "rows", "pivots", "p", "q", "x", "reached", "i", "b", "j", "row"] ws) h) else .bad := by
  rw [← e__law_holds]
  rfl
noncomputable def b__law_spans_hold (call : CallT) (big : Bool) : DenS :=
    (sSeq (sPar2 2 3 (cCons (cV1 lenV (cVar 1)) (cCons (cV1 lenV (cIx (cVar 1) (cVal (.int 0)))) cNil)))
    (sSeq (sAsg (cCall call 2 "_law_product" (cCons (cCall call 3 "_law_table" (cCons (cVar 0) (cCons (cBin big .Add (cVal (.int 1)) (cCall call 2 "_law_take" (cCons (cVar 0) (cCons (cVal (.int 6)) cNil)))) (cCons (cVar 2) cNil)))) (cCons (cVar 1) cNil))) (gNm 4))
    (sSeq (sAsg (cBin big .Add (cVar 4) (cVar 1)) (gNm 5))
    (sSeq (sAsg (cBin big .Add (cRev (cVar 1)) (cTup (cCons (cQ1 tupQ (cSeqF (cComp (cItV (cIx (cVar 1) (cVal (.int 0)))) [13] (.nm 13) cTrue (cCall call 2 "_law_mul" (cCons (cVar 13) (cCons (cTup (cCons (cVal (.int 3)) (cCons (cVal (.int 2)) cNil))) cNil)))))) cNil))) (gNm 6))
    (sSeq (sAsg (cFresh (cComp (cItV (cVar 1)) [12] (.nm 12) cTrue (cFresh (cListQ (cSeqV (cVar 12)))))) (gNm 7))
    (sSeq (sPar2 8 9 (cCons (cCall call 2 "_law_take" (cCons (cVar 0) (cCons (cVar 2) cNil))) (cCons (cCall call 2 "_law_take" (cCons (cVar 0) (cCons (cVar 3) cNil))) cNil)))
    (sSeq (sAsg (cCall call 2 "_law_add" (cCons (cIx (cIx (cVar 7) (cVar 8)) (cVar 9)) (cCons (cTup (cCons (cVal (.int 1)) (cCons (cVal (.int 5)) cNil))) cNil))) (gSx (cIx (cVar 7) (cVar 8)) (cVar 9)))
    (sSeq (sAsg (cQ1 tupQ (cSeqF (cComp (cItV (cVar 7)) [12] (.nm 12) cTrue (cQ1 tupQ (cSeqV (cVar 12)))))) (gNm 7))
    (sSeq (sFor (cItF (cLst (cCons (cTup (cCons (cVar 1) (cCons (cVar 4) cNil))) (cCons (cTup (cCons (cVar 4) (cCons (cVar 1) cNil))) (cCons (cTup (cCons (cVar 1) (cCons (cVar 5) cNil))) (cCons (cTup (cCons (cVar 5) (cCons (cVar 1) cNil))) (cCons (cTup (cCons (cVar 6) (cCons (cVar 1) cNil))) (cCons (cTup (cCons (cVar 1) (cCons (cVar 7) cNil))) (cCons (cTup (cCons (cVar 7) (cCons (cVar 1) cNil))) (cCons (cTup (cCons (cVar 1) (cCons (cTup (cCons (cBin big .Mult (cTup (cCons (cTup (cCons (cVal (.int 0)) (cCons (cVal (.int 1)) cNil))) cNil)) (cVar 3)) cNil)) cNil))) (cCons (cTup (cCons (cVar 1) (cCons (cSl (cVar 1) cNoPart (cPart (cVal (.int 1)))) cNil))) (cCons (cTup (cCons (cSl (cVar 1) cNoPart (cPart (cVal (.int 1)))) (cCons (cVar 1) cNil))) cNil)))))))))))) (.tp [(.nm 10), (.nm 11)]) (sSeq (sIf (tcNot (tcVal (cCall call 3 "_law_tells" (cCons (cVal (.glo "spans_alike")) (cCons (cTup (cCons (cVar 10) (cCons (cVar 11) cNil))) (cCons (cCmp .Eq (cIx (cCall call 1 "_law_steps" (cCons (cVar 10) cNil)) (cVal (.int 0))) (cIx (cCall call 1 "_law_steps" (cCons (cVar 11) cNil)) (cVal (.int 0)))) cNil)))))) (sSeq (sRet (cVal (.bl false)))
    sSkip) sSkip)
    sSkip))
    (sSeq (sRet (cVal (.bl true)))
    sSkip))))))))))
theorem e__law_spans_hold (k : Nat) (call : CallT) : bodyOf prg ⟨"_law_spans_hold", 2, ["state", "T", "p", "q", "mixed", "more", "turned", "bent", "i", "j", "one", "two", "row", "a"], defScope (top 50), defBody (top 50)⟩ k call = b__law_spans_hold call (decide (32 ≤ k)) := by kernel_rfl
theorem k__law_spans_hold (k : Nat) (ws : List W) (h : Store) : callK prg (k + 1) "_law_spans_hold" ws h = if ws.length = 2 then finish h (b__law_spans_hold (callK prg k) (decide (32 ≤ k)) (startR ["state", "T", "p", "q", "mixed", "more", "turned", "bent", "i", "j", "one", "two", "row", "a"] ws) h) else .bad := by
  rw [← e__law_spans_hold]
  rfl
noncomputable def b__law_malformed_holds (call : CallT) (big : Bool) : DenS :=
    (sSeq (sAsg (cIx (cVar 0) (cVal (.int 0))) (gNm 1))
    (sSeq (sFor (cItF (cLst (cCons (cVal .non) (cCons (cVal (.int 3)) (cCons (cVal (.str "T")) (cCons (cFresh (cListQ (cSeqV (cVar 0)))) (cCons (cBin big .Add (cVar 0) (cTup (cCons (cBin big .Add (cVar 1) (cVar 1)) cNil))) (cCons (cTup (cCons (cVar 1) (cCons (cVal .non) cNil))) (cCons (cTup (cCons (cBin big .Add (cSl (cVar 1) cNoPart (cPart (cNeg (cVal (.int 1))))) (cTup (cCons (cTup (cCons (cVal (.int 2)) (cCons (cVal (.int 4)) cNil))) cNil))) cNil)) (cCons (cTup (cCons (cBin big .Add (cSl (cVar 1) cNoPart (cPart (cNeg (cVal (.int 1))))) (cTup (cCons (cVal (.int 1)) cNil))) cNil)) (cCons (cTup (cCons (cTup cNil) cNil)) cNil))))))))))) (.nm 2) (sSeq (sAsg (cFresh (cLst (cCons (cTup (cCons (cVal (.glo "table_reduced")) (cCons (cTup (cCons (cVar 2) cNil)) cNil))) (cCons (cTup (cCons (cVal (.glo "table_rank")) (cCons (cTup (cCons (cVar 2) cNil)) cNil))) (cCons (cTup (cCons (cVal (.glo "table_kernel")) (cCons (cTup (cCons (cVar 2) cNil)) cNil))) (cCons (cTup (cCons (cVal (.glo "table_solved")) (cCons (cTup (cCons (cVar 2) (cCons (cTup cNil) cNil))) cNil))) (cCons (cTup (cCons (cVal (.glo "spans_alike")) (cCons (cTup (cCons (cVar 2) (cCons (cVar 0) cNil))) cNil))) (cCons (cTup (cCons (cVal (.glo "spans_alike")) (cCons (cTup (cCons (cVar 0) (cCons (cVar 2) cNil))) cNil))) cNil)))))))) (gNm 3))
    (sSeq (sIf (tcNot (tcVal (cQ1 allQ (cSeqF (cComp (cItV (cVar 3)) [7, 8] (.tp [(.nm 7), (.nm 8)]) cTrue (cCall call 3 "_law_raises" (cCons (cVar 7) (cCons (cVar 8) (cCons (cVal (.str "malformed")) cNil))))))))) (sSeq (sRet (cVal (.bl false)))
    sSkip) sSkip)
    sSkip)))
    (sSeq (sAsg (cBin big .Mult (cTup (cCons (cTup (cCons (cVal (.int 1)) (cCons (cVal (.int 2)) cNil))) cNil)) (cV1 lenV (cVar 0))) (gNm 4))
    (sSeq (sFor (cItF (cLst (cCons (cVal .non) (cCons (cFresh (cListQ (cSeqV (cVar 4)))) (cCons (cBin big .Add (cVar 4) (cTup (cCons (cTup (cCons (cVal (.int 1)) (cCons (cVal (.int 1)) cNil))) cNil))) (cCons (cSl (cVar 4) cNoPart (cPart (cNeg (cVal (.int 1))))) (cCons (cBin big .Add (cSl (cVar 4) cNoPart (cPart (cNeg (cVal (.int 1))))) (cTup (cCons (cVal (.int 1)) cNil))) (cCons (cBin big .Add (cSl (cVar 4) cNoPart (cPart (cNeg (cVal (.int 1))))) (cTup (cCons (cTup (cCons (cVal (.int 2)) (cCons (cVal (.int 4)) cNil))) cNil))) (cCons (cBin big .Add (cSl (cVar 4) cNoPart (cPart (cNeg (cVal (.int 1))))) (cTup (cCons (cTup (cCons (cVal (.bl true)) (cCons (cVal (.int 1)) cNil))) cNil))) (cCons (cVal (.str "b")) (cCons (cVal (.int 5)) cNil))))))))))) (.nm 5) (sSeq (sIf (tcNot (tcVal (cCall call 3 "_law_raises" (cCons (cVal (.glo "table_solved")) (cCons (cTup (cCons (cVar 0) (cCons (cVar 5) cNil))) (cCons (cVal (.str "malformed")) cNil)))))) (sSeq (sRet (cVal (.bl false)))
    sSkip) sSkip)
    sSkip))
    (sSeq (sIf (tcNot (tcVal (cCall call 3 "_law_raises" (cCons (cVal (.glo "spans_alike")) (cCons (cTup (cCons (cVar 0) (cCons (cQ1 tupQ (cSeqF (cComp (cItV (cVar 0)) [10] (.nm 10) cTrue (cBin big .Add (cVar 10) (cSl (cVar 10) cNoPart (cPart (cVal (.int 1)))))))) cNil))) (cCons (cVal (.str "malformed")) cNil)))))) (sSeq (sRet (cVal (.bl false)))
    sSkip) sSkip)
    (sSeq (sAsg (cFresh (cLst (cCons (cTup (cCons (cVal (.glo "table_reduced")) (cCons (cTup (cCons (cTup cNil) cNil)) (cCons (cTup cNil) cNil)))) (cCons (cTup (cCons (cVal (.glo "table_rank")) (cCons (cTup (cCons (cTup cNil) cNil)) (cCons (cVal (.int 0)) cNil)))) (cCons (cTup (cCons (cVal (.glo "table_kernel")) (cCons (cTup (cCons (cTup cNil) cNil)) (cCons (cTup cNil) cNil)))) (cCons (cTup (cCons (cVal (.glo "table_solved")) (cCons (cTup (cCons (cTup cNil) (cCons (cTup cNil) cNil))) (cCons (cTup cNil) cNil)))) (cCons (cTup (cCons (cVal (.glo "spans_alike")) (cCons (cTup (cCons (cTup cNil) (cCons (cTup cNil) cNil))) (cCons (cVal (.bl true)) cNil)))) cNil))))))) (gNm 6))
    (sSeq (sRet (cQ1 allQ (cSeqF (cComp (cItV (cVar 6)) [7, 8, 9] (.tp [(.nm 7), (.nm 8), (.nm 9)]) cTrue (cCall call 3 "_law_tells" (cCons (cVar 7) (cCons (cVar 8) (cCons (cVar 9) cNil))))))))
    sSkip)))))))
theorem e__law_malformed_holds (k : Nat) (call : CallT) : bodyOf prg ⟨"_law_malformed_holds", 1, ["T", "row", "bad", "asked", "good", "b", "empty", "f", "given", "due", "line"], defScope (top 51), defBody (top 51)⟩ k call = b__law_malformed_holds call (decide (32 ≤ k)) := by kernel_rfl
theorem k__law_malformed_holds (k : Nat) (ws : List W) (h : Store) : callK prg (k + 1) "_law_malformed_holds" ws h = if ws.length = 1 then finish h (b__law_malformed_holds (callK prg k) (decide (32 ≤ k)) (startR ["T", "row", "bad", "asked", "good", "b", "empty", "f", "given", "due", "line"] ws) h) else .bad := by
  rw [← e__law_malformed_holds]
  rfl
noncomputable def b_law (call : CallT) (big : Bool) : DenS :=
    (sSeq (sAsg (cCall call 1 "_law_state" (cCons (cVar 0) cNil)) (gNm 1))
    (sSeq (sPar2 2 3 (cCons (cBin big .Add (cVal (.int 1)) (cCall call 2 "_law_take" (cCons (cVar 1) (cCons (cVal (.int 7)) cNil)))) (cCons (cBin big .Add (cVal (.int 1)) (cCall call 2 "_law_take" (cCons (cVar 1) (cCons (cVal (.int 7)) cNil)))) cNil)))
    (sSeq (sAsg (cCall call 3 "_law_table" (cCons (cVar 1) (cCons (cVar 2) (cCons (cVar 3) cNil)))) (gNm 4))
    (sSeq (sAsg (cBin big .Add (cVal (.int 1)) (cCall call 2 "_law_take" (cCons (cVar 1) (cCons (cVal (.int 3)) cNil)))) (gNm 5))
    (sSeq (sAsg (cCall call 2 "_law_product" (cCons (cCall call 3 "_law_table" (cCons (cVar 1) (cCons (cVar 2) (cCons (cVar 5) cNil)))) (cCons (cCall call 3 "_law_table" (cCons (cVar 1) (cCons (cVar 5) (cCons (cVar 3) cNil)))) cNil))) (gNm 6))
    (sSeq (sAsg (cCall call 2 "_law_take" (cCons (cVar 1) (cCons (cVar 3) cNil))) (gNm 7))
    (sSeq (sAsg (cQ1 tupQ (cSeqF (cComp (cItV (cVar 6)) [13] (.nm 13) cTrue (cBin big .Add (cBin big .Add (cSl (cVar 13) cNoPart (cPart (cVar 7))) (cTup (cCons (cTup (cCons (cVal (.int 0)) (cCons (cVal (.int 1)) cNil))) cNil))) (cSl (cVar 13) (cPart (cBin big .Add (cVar 7) (cVal (.int 1)))) cNoPart))))) (gNm 8))
    (sSeq (sFor (cItV (cTup (cCons (cVar 4) (cCons (cVar 6) (cCons (cVar 8) cNil))))) (.nm 9) (sSeq (sIf (tcOr (tcNot (tcVal (cCall call 2 "_law_holds" (cCons (cVar 1) (cCons (cVar 9) cNil))))) (tcNot (tcVal (cCall call 2 "_law_spans_hold" (cCons (cVar 1) (cCons (cVar 9) cNil)))))) (sSeq (sRet (cVal (.bl false)))
    sSkip) sSkip)
    sSkip))
    (sSeq (sAsg (cCall call 2 "_law_take" (cCons (cVar 1) (cCons (cVal (.int 8)) cNil))) (gNm 10))
    (sSeq (sIf (tcCmp .Eq (cVar 10) (cVal (.int 0))) (sSeq (sAsg (cCall call 2 "_law_product" (cCons (cCall call 3 "_law_table" (cCons (cVar 1) (cCons (cVal (.int 3)) (cCons (cVal (.int 2)) cNil)))) (cCons (cCall call 3 "_law_table" (cCons (cVar 1) (cCons (cVal (.int 2)) (cCons (cVal (.int 40)) cNil)))) cNil))) (gNm 11))
    (sSeq (sIf (tcNot (tcVal (cCall call 2 "_law_holds" (cCons (cVar 1) (cCons (cVar 11) cNil))))) (sSeq (sRet (cVal (.bl false)))
    sSkip) sSkip)
    sSkip)) sSkip)
    (sSeq (sIf (tcCmp .Eq (cVar 10) (cVal (.int 1))) (sSeq (sAsg (cCall call 2 "_law_product" (cCons (cCall call 3 "_law_table" (cCons (cVar 1) (cCons (cVal (.int 40)) (cCons (cVal (.int 2)) cNil)))) (cCons (cCall call 3 "_law_table" (cCons (cVar 1) (cCons (cVal (.int 2)) (cCons (cVal (.int 4)) cNil)))) cNil))) (gNm 12))
    (sSeq (sIf (tcNot (tcVal (cCall call 2 "_law_holds" (cCons (cVar 1) (cCons (cVar 12) cNil))))) (sSeq (sRet (cVal (.bl false)))
    sSkip) sSkip)
    sSkip)) sSkip)
    (sSeq (sRet (cCall call 1 "_law_malformed_holds" (cCons (cVar 4) cNil)))
    sSkip))))))))))))
theorem e_law (k : Nat) (call : CallT) : bodyOf prg ⟨"law", 1, ["script", "state", "p", "q", "T", "r", "thin", "gap", "with_gap", "one", "wide", "long", "high", "row"], defScope (top 52), defBody (top 52)⟩ k call = b_law call (decide (32 ≤ k)) := by kernel_rfl
theorem k_law (k : Nat) (ws : List W) (h : Store) : callK prg (k + 1) "law" ws h = if ws.length = 1 then finish h (b_law (callK prg k) (decide (32 ≤ k)) (startR ["script", "state", "p", "q", "T", "r", "thin", "gap", "with_gap", "one", "wide", "long", "high", "row"] ws) h) else .bad := by
  rw [← e_law]
  rfl
end K03
end
section
set_option Elab.async false
set_option linter.all false
set_option maxRecDepth 100000
set_option maxHeartbeats 0
namespace K03
open PySem PySem.Spec PyProof.Rows Wv L2
section
variable {K : PySem.W.Frag} {h : Heap} {mg : Str → Option Value}
theorem w_is_integer (X : K.In h) (G : h.Ns mainGlobals mg) (c : He.SaysD fa fn K) : FnTold K mg ⟨"is_integer", 1, ["value"], defScope (top 5), defBody (top 5)⟩ := by
  obtain ⟨fd, F⟩ := c.def_ 0 (d := dd "is_integer" 5) rfl
  exact ⟨_, fd, _, He.glo_ok X G (c.fact 0 (f := .glo "is_integer") rfl), rfl, F, FunD.bindsN (ps := ["value"]) F fun _ _ _ _ _ _ us hl => match us, hl with | [_], _ => rfl⟩
theorem w_greatest_common (X : K.In h) (G : h.Ns mainGlobals mg) (c : He.SaysD fa fn K) : FnTold K mg ⟨"greatest_common", 2, ["a", "b"], defScope (top 6), defBody (top 6)⟩ := by
  obtain ⟨fd, F⟩ := c.def_ 1 (d := dd "greatest_common" 6) rfl
  exact ⟨_, fd, _, He.glo_ok X G (c.fact 1 (f := .glo "greatest_common") rfl), rfl, F, FunD.bindsN (ps := ["a", "b"]) F fun _ _ _ _ _ _ us hl => match us, hl with | [_, _], _ => rfl⟩
theorem w_lowest (X : K.In h) (G : h.Ns mainGlobals mg) (c : He.SaysD fa fn K) : FnTold K mg ⟨"lowest", 2, ["n", "d", "g"], defScope (top 7), defBody (top 7)⟩ := by
  obtain ⟨fd, F⟩ := c.def_ 2 (d := dd "lowest" 7) rfl
  exact ⟨_, fd, _, He.glo_ok X G (c.fact 2 (f := .glo "lowest") rfl), rfl, F, FunD.bindsN (ps := ["n", "d"]) F fun _ _ _ _ _ _ us hl => match us, hl with | [_, _], _ => rfl⟩
theorem w_is_ratio (X : K.In h) (G : h.Ns mainGlobals mg) (c : He.SaysD fa fn K) : FnTold K mg ⟨"is_ratio", 1, ["value"], defScope (top 8), defBody (top 8)⟩ := by
  obtain ⟨fd, F⟩ := c.def_ 3 (d := dd "is_ratio" 8) rfl
  exact ⟨_, fd, _, He.glo_ok X G (c.fact 3 (f := .glo "is_ratio") rfl), rfl, F, FunD.bindsN (ps := ["value"]) F fun _ _ _ _ _ _ us hl => match us, hl with | [_], _ => rfl⟩
theorem w_ratio_less (X : K.In h) (G : h.Ns mainGlobals mg) (c : He.SaysD fa fn K) : FnTold K mg ⟨"ratio_less", 2, ["a", "b"], defScope (top 9), defBody (top 9)⟩ := by
  obtain ⟨fd, F⟩ := c.def_ 4 (d := dd "ratio_less" 9) rfl
  exact ⟨_, fd, _, He.glo_ok X G (c.fact 4 (f := .glo "ratio_less") rfl), rfl, F, FunD.bindsN (ps := ["a", "b"]) F fun _ _ _ _ _ _ us hl => match us, hl with | [_, _], _ => rfl⟩
theorem w_ratio_product (X : K.In h) (G : h.Ns mainGlobals mg) (c : He.SaysD fa fn K) : FnTold K mg ⟨"ratio_product", 2, ["a", "b"], defScope (top 10), defBody (top 10)⟩ := by
  obtain ⟨fd, F⟩ := c.def_ 5 (d := dd "ratio_product" 10) rfl
  exact ⟨_, fd, _, He.glo_ok X G (c.fact 5 (f := .glo "ratio_product") rfl), rfl, F, FunD.bindsN (ps := ["a", "b"]) F fun _ _ _ _ _ _ us hl => match us, hl with | [_, _], _ => rfl⟩
theorem w_ratio_over (X : K.In h) (G : h.Ns mainGlobals mg) (c : He.SaysD fa fn K) : FnTold K mg ⟨"ratio_over", 2, ["a", "b"], defScope (top 11), defBody (top 11)⟩ := by
  obtain ⟨fd, F⟩ := c.def_ 6 (d := dd "ratio_over" 11) rfl
  exact ⟨_, fd, _, He.glo_ok X G (c.fact 6 (f := .glo "ratio_over") rfl), rfl, F, FunD.bindsN (ps := ["a", "b"]) F fun _ _ _ _ _ _ us hl => match us, hl with | [_, _], _ => rfl⟩
theorem w_is_any_table (X : K.In h) (G : h.Ns mainGlobals mg) (c : He.SaysD fa fn K) : FnTold K mg ⟨"is_any_table", 1, ["value", "row", "item"], defScope (top 16), defBody (top 16)⟩ := by
  obtain ⟨fd, F⟩ := c.def_ 7 (d := dd "is_any_table" 16) rfl
  exact ⟨_, fd, _, He.glo_ok X G (c.fact 7 (f := .glo "is_any_table") rfl), rfl, F, FunD.bindsN (ps := ["value"]) F fun _ _ _ _ _ _ us hl => match us, hl with | [_], _ => rfl⟩
theorem w_width_of (X : K.In h) (G : h.Ns mainGlobals mg) (c : He.SaysD fa fn K) : FnTold K mg ⟨"width_of", 1, ["T"], defScope (top 17), defBody (top 17)⟩ := by
  obtain ⟨fd, F⟩ := c.def_ 8 (d := dd "width_of" 17) rfl
  exact ⟨_, fd, _, He.glo_ok X G (c.fact 8 (f := .glo "width_of") rfl), rfl, F, FunD.bindsN (ps := ["T"]) F fun _ _ _ _ _ _ us hl => match us, hl with | [_], _ => rfl⟩
theorem w_check_table (X : K.In h) (G : h.Ns mainGlobals mg) (c : He.SaysD fa fn K) : FnTold K mg ⟨"check_table", 1, ["T"], defScope (top 18), defBody (top 18)⟩ := by
  obtain ⟨fd, F⟩ := c.def_ 9 (d := dd "check_table" 18) rfl
  exact ⟨_, fd, _, He.glo_ok X G (c.fact 9 (f := .glo "check_table") rfl), rfl, F, FunD.bindsN (ps := ["T"]) F fun _ _ _ _ _ _ us hl => match us, hl with | [_], _ => rfl⟩
theorem w_reduced_of (X : K.In h) (G : h.Ns mainGlobals mg) (c : He.SaysD fa fn K) : FnTold K mg ⟨"reduced_of", 1, ["T", "rows", "pivots", "j", "k", "i", "at", "c", "row", "item", "a", "b"], defScope (top 19), defBody (top 19)⟩ := by
  obtain ⟨fd, F⟩ := c.def_ 10 (d := dd "reduced_of" 19) rfl
  exact ⟨_, fd, _, He.glo_ok X G (c.fact 10 (f := .glo "reduced_of") rfl), rfl, F, FunD.bindsN (ps := ["T"]) F fun _ _ _ _ _ _ us hl => match us, hl with | [_], _ => rfl⟩
theorem w_table_rank (X : K.In h) (G : h.Ns mainGlobals mg) (c : He.SaysD fa fn K) : FnTold K mg ⟨"table_rank", 1, ["T"], defScope (top 20), defBody (top 20)⟩ := by
  obtain ⟨fd, F⟩ := c.def_ 11 (d := dd "table_rank" 20) rfl
  exact ⟨_, fd, _, He.glo_ok X G (c.fact 11 (f := .glo "table_rank") rfl), rfl, F, FunD.bindsN (ps := ["T"]) F fun _ _ _ _ _ _ us hl => match us, hl with | [_], _ => rfl⟩
theorem w_table_reduced (X : K.In h) (G : h.Ns mainGlobals mg) (c : He.SaysD fa fn K) : FnTold K mg ⟨"table_reduced", 1, ["T", "row"], defScope (top 21), defBody (top 21)⟩ := by
  obtain ⟨fd, F⟩ := c.def_ 12 (d := dd "table_reduced" 21) rfl
  exact ⟨_, fd, _, He.glo_ok X G (c.fact 12 (f := .glo "table_reduced") rfl), rfl, F, FunD.bindsN (ps := ["T"]) F fun _ _ _ _ _ _ us hl => match us, hl with | [_], _ => rfl⟩
theorem w_table_kernel (X : K.In h) (G : h.Ns mainGlobals mg) (c : He.SaysD fa fn K) : FnTold K mg ⟨"table_kernel", 1, ["T", "rows", "pivots", "q", "found", "j", "x", "row", "p"], defScope (top 22), defBody (top 22)⟩ := by
  obtain ⟨fd, F⟩ := c.def_ 13 (d := dd "table_kernel" 22) rfl
  exact ⟨_, fd, _, He.glo_ok X G (c.fact 13 (f := .glo "table_kernel") rfl), rfl, F, FunD.bindsN (ps := ["T"]) F fun _ _ _ _ _ _ us hl => match us, hl with | [_], _ => rfl⟩
theorem w_solution_of (X : K.In h) (G : h.Ns mainGlobals mg) (c : He.SaysD fa fn K) : FnTold K mg ⟨"solution_of", 2, ["T", "b", "row", "rows", "pivots", "q", "x", "p", "c"], defScope (top 23), defBody (top 23)⟩ := by
  obtain ⟨fd, F⟩ := c.def_ 14 (d := dd "solution_of" 23) rfl
  exact ⟨_, fd, _, He.glo_ok X G (c.fact 14 (f := .glo "solution_of") rfl), rfl, F, FunD.bindsN (ps := ["T", "b"]) F fun _ _ _ _ _ _ us hl => match us, hl with | [_, _], _ => rfl⟩
theorem w_table_solved (X : K.In h) (G : h.Ns mainGlobals mg) (c : He.SaysD fa fn K) : FnTold K mg ⟨"table_solved", 2, ["T", "b", "c"], defScope (top 24), defBody (top 24)⟩ := by
  obtain ⟨fd, F⟩ := c.def_ 15 (d := dd "table_solved" 24) rfl
  exact ⟨_, fd, _, He.glo_ok X G (c.fact 15 (f := .glo "table_solved") rfl), rfl, F, FunD.bindsN (ps := ["T", "b"]) F fun _ _ _ _ _ _ us hl => match us, hl with | [_, _], _ => rfl⟩
theorem w_spans_alike (X : K.In h) (G : h.Ns mainGlobals mg) (c : He.SaysD fa fn K) : FnTold K mg ⟨"spans_alike", 2, ["S", "T"], defScope (top 25), defBody (top 25)⟩ := by
  obtain ⟨fd, F⟩ := c.def_ 16 (d := dd "spans_alike" 25) rfl
  exact ⟨_, fd, _, He.glo_ok X G (c.fact 16 (f := .glo "spans_alike") rfl), rfl, F, FunD.bindsN (ps := ["S", "T"]) F fun _ _ _ _ _ _ us hl => match us, hl with | [_, _], _ => rfl⟩
theorem w__law_state (X : K.In h) (G : h.Ns mainGlobals mg) (c : He.SaysD fa fn K) : FnTold K mg ⟨"_law_state", 1, ["script", "seed", "total", "cell"], defScope (top 27), defBody (top 27)⟩ := by
  obtain ⟨fd, F⟩ := c.def_ 17 (d := dd "_law_state" 27) rfl
  exact ⟨_, fd, _, He.glo_ok X G (c.fact 17 (f := .glo "_law_state") rfl), rfl, F, FunD.bindsN (ps := ["script"]) F fun _ _ _ _ _ _ us hl => match us, hl with | [_], _ => rfl⟩
theorem w__law_take (X : K.In h) (G : h.Ns mainGlobals mg) (c : He.SaysD fa fn K) : FnTold K mg ⟨"_law_take", 2, ["state", "m", "value"], defScope (top 28), defBody (top 28)⟩ := by
  obtain ⟨fd, F⟩ := c.def_ 18 (d := dd "_law_take" 28) rfl
  exact ⟨_, fd, _, He.glo_ok X G (c.fact 18 (f := .glo "_law_take") rfl), rfl, F, FunD.bindsN (ps := ["state", "m"]) F fun _ _ _ _ _ _ us hl => match us, hl with | [_, _], _ => rfl⟩
theorem w__law_same (X : K.In h) (G : h.Ns mainGlobals mg) (c : He.SaysD fa fn K) : FnTold K mg ⟨"_law_same", 2, ["value", "due", "k"], defScope (top 29), defBody (top 29)⟩ := by
  obtain ⟨fd, F⟩ := c.def_ 19 (d := dd "_law_same" 29) rfl
  exact ⟨_, fd, _, He.glo_ok X G (c.fact 19 (f := .glo "_law_same") rfl), rfl, F, FunD.bindsN (ps := ["value", "due"]) F fun _ _ _ _ _ _ us hl => match us, hl with | [_, _], _ => rfl⟩
theorem w__law_told (X : K.In h) (G : h.Ns mainGlobals mg) (c : He.SaysD fa fn K) : FnTold K mg ⟨"_law_told", 2, ["f", "given", "error"], defScope (top 30), defBody (top 30)⟩ := by
  obtain ⟨fd, F⟩ := c.def_ 20 (d := dd "_law_told" 30) rfl
  exact ⟨_, fd, _, He.glo_ok X G (c.fact 20 (f := .glo "_law_told") rfl), rfl, F, FunD.bindsN (ps := ["f", "given"]) F fun _ _ _ _ _ _ us hl => match us, hl with | [_, _], _ => rfl⟩
theorem w__law_is_told (X : K.In h) (G : h.Ns mainGlobals mg) (c : He.SaysD fa fn K) : FnTold K mg ⟨"_law_is_told", 2, ["pair", "due"], defScope (top 31), defBody (top 31)⟩ := by
  obtain ⟨fd, F⟩ := c.def_ 21 (d := dd "_law_is_told" 31) rfl
  exact ⟨_, fd, _, He.glo_ok X G (c.fact 21 (f := .glo "_law_is_told") rfl), rfl, F, FunD.bindsN (ps := ["pair", "due"]) F fun _ _ _ _ _ _ us hl => match us, hl with | [_, _], _ => rfl⟩
theorem w__law_is_raised (X : K.In h) (G : h.Ns mainGlobals mg) (c : He.SaysD fa fn K) : FnTold K mg ⟨"_law_is_raised", 2, ["pair", "reason"], defScope (top 32), defBody (top 32)⟩ := by
  obtain ⟨fd, F⟩ := c.def_ 22 (d := dd "_law_is_raised" 32) rfl
  exact ⟨_, fd, _, He.glo_ok X G (c.fact 22 (f := .glo "_law_is_raised") rfl), rfl, F, FunD.bindsN (ps := ["pair", "reason"]) F fun _ _ _ _ _ _ us hl => match us, hl with | [_, _], _ => rfl⟩
theorem w__law_tells (X : K.In h) (G : h.Ns mainGlobals mg) (c : He.SaysD fa fn K) : FnTold K mg ⟨"_law_tells", 3, ["f", "given", "due"], defScope (top 33), defBody (top 33)⟩ := by
  obtain ⟨fd, F⟩ := c.def_ 23 (d := dd "_law_tells" 33) rfl
  exact ⟨_, fd, _, He.glo_ok X G (c.fact 23 (f := .glo "_law_tells") rfl), rfl, F, FunD.bindsN (ps := ["f", "given", "due"]) F fun _ _ _ _ _ _ us hl => match us, hl with | [_, _, _], _ => rfl⟩
theorem w__law_raises (X : K.In h) (G : h.Ns mainGlobals mg) (c : He.SaysD fa fn K) : FnTold K mg ⟨"_law_raises", 3, ["f", "given", "reason"], defScope (top 34), defBody (top 34)⟩ := by
  obtain ⟨fd, F⟩ := c.def_ 24 (d := dd "_law_raises" 34) rfl
  exact ⟨_, fd, _, He.glo_ok X G (c.fact 24 (f := .glo "_law_raises") rfl), rfl, F, FunD.bindsN (ps := ["f", "given", "reason"]) F fun _ _ _ _ _ _ us hl => match us, hl with | [_, _, _], _ => rfl⟩
theorem w__law_frac (X : K.In h) (G : h.Ns mainGlobals mg) (c : He.SaysD fa fn K) : FnTold K mg ⟨"_law_frac", 2, ["n", "d", "a", "b"], defScope (top 35), defBody (top 35)⟩ := by
  obtain ⟨fd, F⟩ := c.def_ 25 (d := dd "_law_frac" 35) rfl
  exact ⟨_, fd, _, He.glo_ok X G (c.fact 25 (f := .glo "_law_frac") rfl), rfl, F, FunD.bindsN (ps := ["n", "d"]) F fun _ _ _ _ _ _ us hl => match us, hl with | [_, _], _ => rfl⟩
theorem w__law_add (X : K.In h) (G : h.Ns mainGlobals mg) (c : He.SaysD fa fn K) : FnTold K mg ⟨"_law_add", 2, ["x", "y"], defScope (top 36), defBody (top 36)⟩ := by
  obtain ⟨fd, F⟩ := c.def_ 26 (d := dd "_law_add" 36) rfl
  exact ⟨_, fd, _, He.glo_ok X G (c.fact 26 (f := .glo "_law_add") rfl), rfl, F, FunD.bindsN (ps := ["x", "y"]) F fun _ _ _ _ _ _ us hl => match us, hl with | [_, _], _ => rfl⟩
theorem w__law_less (X : K.In h) (G : h.Ns mainGlobals mg) (c : He.SaysD fa fn K) : FnTold K mg ⟨"_law_less", 2, ["x", "y"], defScope (top 37), defBody (top 37)⟩ := by
  obtain ⟨fd, F⟩ := c.def_ 27 (d := dd "_law_less" 37) rfl
  exact ⟨_, fd, _, He.glo_ok X G (c.fact 27 (f := .glo "_law_less") rfl), rfl, F, FunD.bindsN (ps := ["x", "y"]) F fun _ _ _ _ _ _ us hl => match us, hl with | [_, _], _ => rfl⟩
theorem w__law_mul (X : K.In h) (G : h.Ns mainGlobals mg) (c : He.SaysD fa fn K) : FnTold K mg ⟨"_law_mul", 2, ["x", "y"], defScope (top 38), defBody (top 38)⟩ := by
  obtain ⟨fd, F⟩ := c.def_ 28 (d := dd "_law_mul" 38) rfl
  exact ⟨_, fd, _, He.glo_ok X G (c.fact 28 (f := .glo "_law_mul") rfl), rfl, F, FunD.bindsN (ps := ["x", "y"]) F fun _ _ _ _ _ _ us hl => match us, hl with | [_, _], _ => rfl⟩
theorem w__law_over (X : K.In h) (G : h.Ns mainGlobals mg) (c : He.SaysD fa fn K) : FnTold K mg ⟨"_law_over", 2, ["x", "y"], defScope (top 39), defBody (top 39)⟩ := by
  obtain ⟨fd, F⟩ := c.def_ 29 (d := dd "_law_over" 39) rfl
  exact ⟨_, fd, _, He.glo_ok X G (c.fact 29 (f := .glo "_law_over") rfl), rfl, F, FunD.bindsN (ps := ["x", "y"]) F fun _ _ _ _ _ _ us hl => match us, hl with | [_, _], _ => rfl⟩
theorem w__law_total (X : K.In h) (G : h.Ns mainGlobals mg) (c : He.SaysD fa fn K) : FnTold K mg ⟨"_law_total", 1, ["items", "found", "x"], defScope (top 40), defBody (top 40)⟩ := by
  obtain ⟨fd, F⟩ := c.def_ 30 (d := dd "_law_total" 40) rfl
  exact ⟨_, fd, _, He.glo_ok X G (c.fact 30 (f := .glo "_law_total") rfl), rfl, F, FunD.bindsN (ps := ["items"]) F fun _ _ _ _ _ _ us hl => match us, hl with | [_], _ => rfl⟩
theorem w__law_dot (X : K.In h) (G : h.Ns mainGlobals mg) (c : He.SaysD fa fn K) : FnTold K mg ⟨"_law_dot", 2, ["one", "two", "k"], defScope (top 41), defBody (top 41)⟩ := by
  obtain ⟨fd, F⟩ := c.def_ 31 (d := dd "_law_dot" 41) rfl
  exact ⟨_, fd, _, He.glo_ok X G (c.fact 31 (f := .glo "_law_dot") rfl), rfl, F, FunD.bindsN (ps := ["one", "two"]) F fun _ _ _ _ _ _ us hl => match us, hl with | [_, _], _ => rfl⟩
theorem w__law_drawn (X : K.In h) (G : h.Ns mainGlobals mg) (c : He.SaysD fa fn K) : FnTold K mg ⟨"_law_drawn", 1, ["state"], defScope (top 42), defBody (top 42)⟩ := by
  obtain ⟨fd, F⟩ := c.def_ 32 (d := dd "_law_drawn" 42) rfl
  exact ⟨_, fd, _, He.glo_ok X G (c.fact 32 (f := .glo "_law_drawn") rfl), rfl, F, FunD.bindsN (ps := ["state"]) F fun _ _ _ _ _ _ us hl => match us, hl with | [_], _ => rfl⟩
theorem w__law_others (X : K.In h) (G : h.Ns mainGlobals mg) (c : He.SaysD fa fn K) : FnTold K mg ⟨"_law_others", 2, ["n", "chosen", "x"], defScope (top 43), defBody (top 43)⟩ := by
  obtain ⟨fd, F⟩ := c.def_ 33 (d := dd "_law_others" 43) rfl
  exact ⟨_, fd, _, He.glo_ok X G (c.fact 33 (f := .glo "_law_others") rfl), rfl, F, FunD.bindsN (ps := ["n", "chosen"]) F fun _ _ _ _ _ _ us hl => match us, hl with | [_, _], _ => rfl⟩
theorem w__law_table (X : K.In h) (G : h.Ns mainGlobals mg) (c : He.SaysD fa fn K) : FnTold K mg ⟨"_law_table", 3, ["state", "p", "q", "rows", "i", "j"], defScope (top 44), defBody (top 44)⟩ := by
  obtain ⟨fd, F⟩ := c.def_ 34 (d := dd "_law_table" 44) rfl
  exact ⟨_, fd, _, He.glo_ok X G (c.fact 34 (f := .glo "_law_table") rfl), rfl, F, FunD.bindsN (ps := ["state", "p", "q"]) F fun _ _ _ _ _ _ us hl => match us, hl with | [_, _, _], _ => rfl⟩
theorem w__law_product (X : K.In h) (G : h.Ns mainGlobals mg) (c : He.SaysD fa fn K) : FnTold K mg ⟨"_law_product", 2, ["S", "T", "row", "j", "line"], defScope (top 45), defBody (top 45)⟩ := by
  obtain ⟨fd, F⟩ := c.def_ 35 (d := dd "_law_product" 45) rfl
  exact ⟨_, fd, _, He.glo_ok X G (c.fact 35 (f := .glo "_law_product") rfl), rfl, F, FunD.bindsN (ps := ["S", "T"]) F fun _ _ _ _ _ _ us hl => match us, hl with | [_, _], _ => rfl⟩
theorem w__law_steps (X : K.In h) (G : h.Ns mainGlobals mg) (c : He.SaysD fa fn K) : FnTold K mg ⟨"_law_steps", 1, ["T", "rows", "pivots", "j", "k", "i", "at", "line", "c", "row", "x", "t"], defScope (top 46), defBody (top 46)⟩ := by
  obtain ⟨fd, F⟩ := c.def_ 36 (d := dd "_law_steps" 46) rfl
  exact ⟨_, fd, _, He.glo_ok X G (c.fact 36 (f := .glo "_law_steps") rfl), rfl, F, FunD.bindsN (ps := ["T"]) F fun _ _ _ _ _ _ us hl => match us, hl with | [_], _ => rfl⟩
theorem w__law_solution (X : K.In h) (G : h.Ns mainGlobals mg) (c : He.SaysD fa fn K) : FnTold K mg ⟨"_law_solution", 2, ["T", "b", "rows", "pivots", "q", "j", "i"], defScope (top 47), defBody (top 47)⟩ := by
  obtain ⟨fd, F⟩ := c.def_ 37 (d := dd "_law_solution" 47) rfl
  exact ⟨_, fd, _, He.glo_ok X G (c.fact 37 (f := .glo "_law_solution") rfl), rfl, F, FunD.bindsN (ps := ["T", "b"]) F fun _ _ _ _ _ _ us hl => match us, hl with | [_, _], _ => rfl⟩
theorem w__law_kernel (X : K.In h) (G : h.Ns mainGlobals mg) (c : He.SaysD fa fn K) : FnTold K mg ⟨"_law_kernel", 1, ["T", "rows", "pivots", "found", "j", "x", "k", "t"], defScope (top 48), defBody (top 48)⟩ := by
  obtain ⟨fd, F⟩ := c.def_ 38 (d := dd "_law_kernel" 48) rfl
  exact ⟨_, fd, _, He.glo_ok X G (c.fact 38 (f := .glo "_law_kernel") rfl), rfl, F, FunD.bindsN (ps := ["T"]) F fun _ _ _ _ _ _ us hl => match us, hl with | [_], _ => rfl⟩
theorem w__law_holds (X : K.In h) (G : h.Ns mainGlobals mg) (c : He.SaysD fa fn K) : FnTold K mg ⟨"_law_holds", 2, ["state", "T", "rows", "pivots", "p", "q", "x", "reached", "i", "b", "j", "row"], defScope (top 49), defBody (top 49)⟩ := by
  obtain ⟨fd, F⟩ := c.def_ 39 (d := dd "_law_holds" 49) rfl
  exact ⟨_, fd, _, He.glo_ok X G (c.fact 39 (f := .glo "_law_holds") rfl), rfl, F, FunD.bindsN (ps := ["state", "T"]) F fun _ _ _ _ _ _ us hl => match us, hl with | [_, _], _ => rfl⟩
theorem w__law_spans_hold (X : K.In h) (G : h.Ns mainGlobals mg) (c : He.SaysD fa fn K) : FnTold K mg ⟨"_law_spans_hold", 2, ["state", "T", "p", "q", "mixed", "more", "turned", "bent", "i", "j", "one", "two", "row", "a"], defScope (top 50), defBody (top 50)⟩ := by
  obtain ⟨fd, F⟩ := c.def_ 40 (d := dd "_law_spans_hold" 50) rfl
  exact ⟨_, fd, _, He.glo_ok X G (c.fact 40 (f := .glo "_law_spans_hold") rfl), rfl, F, FunD.bindsN (ps := ["state", "T"]) F fun _ _ _ _ _ _ us hl => match us, hl with | [_, _], _ => rfl⟩
theorem w__law_malformed_holds (X : K.In h) (G : h.Ns mainGlobals mg) (c : He.SaysD fa fn K) : FnTold K mg ⟨"_law_malformed_holds", 1, ["T", "row", "bad", "asked", "good", "b", "empty", "f", "given", "due", "line"], defScope (top 51), defBody (top 51)⟩ := by
  obtain ⟨fd, F⟩ := c.def_ 41 (d := dd "_law_malformed_holds" 51) rfl
  exact ⟨_, fd, _, He.glo_ok X G (c.fact 41 (f := .glo "_law_malformed_holds") rfl), rfl, F, FunD.bindsN (ps := ["T"]) F fun _ _ _ _ _ _ us hl => match us, hl with | [_], _ => rfl⟩
theorem w_law (X : K.In h) (G : h.Ns mainGlobals mg) (c : He.SaysD fa fn K) : FnTold K mg ⟨"law", 1, ["script", "state", "p", "q", "T", "r", "thin", "gap", "with_gap", "one", "wide", "long", "high", "row"], defScope (top 52), defBody (top 52)⟩ := by
  obtain ⟨fd, F⟩ := c.def_ 42 (d := dd "law" 52) rfl
  exact ⟨_, fd, _, He.glo_ok X G (c.fact 42 (f := .glo "law") rfl), rfl, F, FunD.bindsN (ps := ["script"]) F fun _ _ _ _ _ _ us hl => match us, hl with | [_], _ => rfl⟩
theorem told (X : K.In h) (G : h.Ns mainGlobals mg) (c : He.SaysD fa fn K) : AllF (FnTold K mg) fns := ⟨w_is_integer X G c, ⟨w_greatest_common X G c, ⟨w_lowest X G c, ⟨w_is_ratio X G c, ⟨w_ratio_less X G c, ⟨w_ratio_product X G c, ⟨w_ratio_over X G c, ⟨w_is_any_table X G c, ⟨w_width_of X G c, ⟨w_check_table X G c, ⟨w_reduced_of X G c, ⟨w_table_rank X G c, ⟨w_table_reduced X G c, ⟨w_table_kernel X G c, ⟨w_solution_of X G c, ⟨w_table_solved X G c, ⟨w_spans_alike X G c, ⟨w__law_state X G c, ⟨w__law_take X G c, ⟨w__law_same X G c, ⟨w__law_told X G c, ⟨w__law_is_told X G c, ⟨w__law_is_raised X G c, ⟨w__law_tells X G c, ⟨w__law_raises X G c, ⟨w__law_frac X G c, ⟨w__law_add X G c, ⟨w__law_less X G c, ⟨w__law_mul X G c, ⟨w__law_over X G c, ⟨w__law_total X G c, ⟨w__law_dot X G c, ⟨w__law_drawn X G c, ⟨w__law_others X G c, ⟨w__law_table X G c, ⟨w__law_product X G c, ⟨w__law_steps X G c, ⟨w__law_solution X G c, ⟨w__law_kernel X G c, ⟨w__law_holds X G c, ⟨w__law_spans_hold X G c, ⟨w__law_malformed_holds X G c, ⟨w_law X G c, trivial⟩⟩⟩⟩⟩⟩⟩⟩⟩⟩⟩⟩⟩⟩⟩⟩⟩⟩⟩⟩⟩⟩⟩⟩⟩⟩⟩⟩⟩⟩⟩⟩⟩⟩⟩⟩⟩⟩⟩⟩⟩⟩⟩
theorem scs : scAll fns = true := by kernel_rfl
end
end K03
end
section
set_option Elab.async false
set_option linter.all false
set_option maxRecDepth 100000
set_option maxHeartbeats 1000000
namespace K03
open PySem PySem.Spec Wv L2
theorem c_isint (k : Nat) (i : Int) (h : Store) : callK prg (k + 1) "is_integer" [.int i] h = .ok (.bl true) h := by
  rw [k_is_integer]
  simp [b_is_integer, startR, cutR_same]
theorem fmod_nat (a b : Nat) : Int.fmod (a : Int) (b : Int) = ((a % b : Nat) : Int) := by
  rw [Int.fmod_eq_emod_of_nonneg _ (by omega)]
  rfl
theorem gcd_loop {t : DenT} {body : DenS} {mk : Int → Int → Rho} (ht : ∀ a b h, t (mk a b) h = .ok (!(b == 0)) h) (hb : ∀ a b h, b ≠ 0 → body (mk a b) h = .next (mk b (a.fmod b)) h) (h : Store) :
    ∀ (n f : Nat) (a b : Nat), b < 2 ^ n → 2 * n + 1 ≤ f → whileL t body f (mk a b) h = .next (mk (Nat.gcd a b) (0 : Nat)) h
  | n, 0, a, b, _, hf => by omega
  | 0, f + 1, a, b, hb0, _ => by
    have e : b = 0 := by simpa using hb0
    subst e
    unfold whileL
    rw [ht, Out.th_ok]
    simp
  | n + 1, 1, a, b, _, hf => by omega
  | n + 1, 2, a, b, _, hf => by omega
  | n + 1, f + 3, a, b, hb0, hf => by
    by_cases e : b = 0
    · subst e
      unfold whileL
      rw [ht, Out.th_ok]
      simp
    · have e1 : ((b : Nat) : Int) ≠ 0 := by omega
      unfold whileL
      rw [ht, Out.th_ok, if_pos (by simpa using e1), hb _ _ _ e1, fmod_nat]
      dsimp only
      by_cases e2 : a % b = 0
      · rw [e2]
        unfold whileL
        rw [ht, Out.th_ok]
        have g : Nat.gcd a b = b := by rw [Nat.gcd_comm, Nat.gcd_rec, e2, Nat.gcd_zero_left]
        simp [g]
      · have e3 : ((a % b : Nat) : Int) ≠ 0 := by omega
        unfold whileL
        rw [ht, Out.th_ok, if_pos (by simpa using e3), hb _ _ _ e3, fmod_nat]
        dsimp only
        have lt : a % b < b := Nat.mod_lt _ (by omega)
        have lt2 : b % (a % b) < a % b := Nat.mod_lt _ (by omega)
        have half : b % (a % b) < 2 ^ n := by
          have q := Nat.div_add_mod b (a % b)
          have q1 : 1 ≤ b / (a % b) := Nat.div_pos (by omega) (by omega)
          have q2 : a % b ≤ (a % b) * (b / (a % b)) := Nat.le_mul_of_pos_right _ q1
          have q3 : 2 ^ (n + 1) = 2 ^ n + 2 ^ n := by rw [Nat.pow_succ]; omega
          omega
        rw [gcd_loop ht hb h n (f + 1) (a % b) (b % (a % b)) half (by omega)]
        have g : Nat.gcd a b = Nat.gcd (a % b) (b % (a % b)) := by
          rw [Nat.gcd_comm a b, Nat.gcd_rec b a, Nat.gcd_comm (a % b) b, Nat.gcd_comm (a % b), ← Nat.gcd_rec, Nat.gcd_comm]
        rw [g]
/-- sizes: below 2 ^ L -/
def sz (L : Nat) (n : Int) : Prop := n.natAbs < 2 ^ L
theorem abs_nat (n : Int) : (if n < 0 then -n else n) = ((n.natAbs : Nat) : Int) := by
  split <;> omega
theorem c_gcd (k : Nat) {L : Nat} {a b : Int} (h : Store) (hL : L ≤ 1000000000) (hb : sz L b) : callK prg (k + 1) "greatest_common" [.int a, .int b] h = .ok (.int (Int.gcd a b)) h := by
  rw [k_greatest_common]
  have z := gcd_loop (t := tcCmp .NotEq (cVar 1) (cVal (.int 0))) (body := sSeq (sPar2 0 1 (cCons (cVar 1) (cCons (cBin (decide (32 ≤ k)) .Mod (cVar 0) (cVar 1)) cNil))) sSkip) (mk := fun a b => [some (.int a), some (.int b)])
    (fun a b h => by simp) (fun a b h hb => by simp [hb]) h L wFuel a.natAbs b.natAbs hb (by unfold wFuel; omega)
  simp [b_greatest_common, startR, abs_nat, z, cutR_same, Int.gcd]
/-- a fraction in lowest terms, the lower number above 0 -/
def gg (n d : Int) : Int := if d < 0 then -(Int.gcd n d : Int) else Int.gcd n d
def low (n d : Int) : Int × Int := (n.fdiv (gg n d), d.fdiv (gg n d))
theorem gg_ne {n d : Int} (h : d ≠ 0) : gg n d ≠ 0 := by
  have : Int.gcd n d ≠ 0 := fun e => h (Int.gcd_eq_zero_iff.mp e).2
  unfold gg
  split <;> omega
abbrev Fr := Int × Int
def fw (x : Fr) : W := .tup [.int x.1, .int x.2]
theorem c_lowest (k : Nat) {L : Nat} {n d : Int} (h : Store) (hk : 33 ≤ k) (hL : L ≤ 1000000000) (hb : sz L d) (hd : d ≠ 0) : callK prg (k + 1) "lowest" [.int n, .int d] h = .ok (fw (low n d)) h := by
  obtain ⟨k, rfl⟩ : ∃ j, k = j + 1 := ⟨k - 1, by omega⟩
  rw [k_lowest]
  have g := gg_ne (n := n) hd
  have hk' : 32 ≤ k + 1 := by omega
  by_cases hn : d < 0
  · have e : gg n d = -(Int.gcd n d : Int) := by unfold gg; rw [if_pos hn]
    rw [e] at g
    simp [b_lowest, startR, c_gcd k h hL hb, hn, hk', cutR_same, fw, low, e, show Int.gcd n d ≠ 0 by omega]
  · have e : gg n d = (Int.gcd n d : Int) := by unfold gg; rw [if_neg hn]
    rw [e] at g
    simp [b_lowest, startR, c_gcd k h hL hb, hn, hk', cutR_same, fw, low, e, show Int.gcd n d ≠ 0 by omega]
end K03
end
section
set_option Elab.async false
set_option linter.all false
set_option maxRecDepth 100000
set_option maxHeartbeats 1000000
namespace K03
open PySem PySem.Spec Wv L2
/-! ### sizes -/
theorem sz.mono {L M : Nat} {n : Int} (h : sz L n) (le : L ≤ M) : sz M n := Nat.lt_of_lt_of_le h (Nat.pow_le_pow_right (by omega) le)
theorem sz.mul {L M : Nat} {a b : Int} (ha : sz L a) (hb : sz M b) : sz (L + M) (a * b) := by
  unfold sz at *
  rw [Int.natAbs_mul, Nat.pow_add]
  exact Nat.mul_lt_mul'' ha hb
theorem sz.add {L : Nat} {a b : Int} (ha : sz L a) (hb : sz L b) : sz (L + 1) (a + b) := by
  unfold sz at *
  rw [Nat.pow_succ]
  have := Int.natAbs_add_le a b
  omega
theorem sz.sub {L : Nat} {a b : Int} (ha : sz L a) (hb : sz L b) : sz (L + 1) (a - b) := by
  unfold sz at *
  rw [Nat.pow_succ]
  have := Int.natAbs_sub_le a b
  omega
theorem log_sz {L : Nat} {a : Int} (ha : sz L a) : a.natAbs.log2 ≤ L := by
  by_cases e : a.natAbs = 0
  · rw [e]
    exact Nat.zero_le _
  · exact Nat.le_of_lt ((Nat.log2_lt e).mpr ha)
theorem mul_sz {L M : Nat} {a b : Int} (ha : sz L a) (hb : sz M b) (hl : L + M ≤ 100000000) : mulOk a b = true := by
  unfold mulOk
  have h1 := log_sz ha
  have h2 := log_sz hb
  have : decide (a.natAbs.log2 + b.natAbs.log2 < 134217720) = true := decide_eq_true (by omega)
  rw [this]
  simp
/-! ### fractions -/
structure Good (L : Nat) (x : Fr) : Prop where
  n : sz L x.1
  d : sz L x.2
  pos : 0 < x.2
  one : Int.gcd x.1 x.2 = 1
theorem Good.mono {L M : Nat} {x : Fr} (g : Good L x) (le : L ≤ M) : Good M x := ⟨g.n.mono le, g.d.mono le, g.pos, g.one⟩
theorem gg_dvd (n d : Int) : gg n d ∣ n ∧ gg n d ∣ d := by
  unfold gg
  split
  · exact ⟨Int.neg_dvd.mpr (Int.gcd_dvd_left n d), Int.neg_dvd.mpr (Int.gcd_dvd_right n d)⟩
  · exact ⟨Int.gcd_dvd_left n d, Int.gcd_dvd_right n d⟩
theorem gg_abs (n d : Int) : (gg n d).natAbs = Int.gcd n d := by
  unfold gg
  split <;> simp
theorem low_eq {n d : Int} (hd : d ≠ 0) : n = gg n d * (low n d).1 ∧ d = gg n d * (low n d).2 := by
  obtain ⟨h1, h2⟩ := gg_dvd n d
  have g := gg_ne (n := n) hd
  unfold low
  exact ⟨(Int.mul_fdiv_cancel' h1).symm, (Int.mul_fdiv_cancel' h2).symm⟩
theorem sz_div {L : Nat} {g a b : Int} (e : a = g * b) (hg : g ≠ 0) (h : sz L a) : sz L b := by
  unfold sz at *
  rw [e, Int.natAbs_mul] at h
  have : 1 ≤ g.natAbs := by omega
  exact Nat.lt_of_le_of_lt (Nat.le_mul_of_pos_left _ this) h
theorem pos_of {g d q : Int} (hg : g ≠ 0) (e : d = g * q) (h : 0 < g * d) : 0 < q := by
  have sq : 0 < g * g := by
    rcases Int.lt_or_gt_of_ne hg with z | z
    · exact Int.mul_pos_of_neg_of_neg z z
    · exact Int.mul_pos z z
  rcases Int.lt_or_le 0 q with z | z
  · exact z
  · have y := Int.mul_le_mul_of_nonneg_left z (Int.le_of_lt sq)
    rw [e, ← Int.mul_assoc] at h
    omega
theorem low_good {L : Nat} {n d : Int} (hd : d ≠ 0) (hn : sz L n) (hs : sz L d) : Good L (low n d) := by
  obtain ⟨e1, e2⟩ := low_eq (n := n) hd
  have g := gg_ne (n := n) hd
  refine ⟨sz_div e1 g hn, sz_div e2 g hs, ?_, ?_⟩
  · have pos : 0 < gg n d * d := by
      have gn : Int.gcd n d ≠ 0 := fun e => hd (Int.gcd_eq_zero_iff.mp e).2
      unfold gg
      split
      · rename_i h
        exact Int.mul_pos_of_neg_of_neg (by omega) h
      · rename_i h
        exact Int.mul_pos (by omega) (by omega)
    exact pos_of g e2 pos
  · have q := Int.gcd_mul_left (gg n d) (low n d).1 (low n d).2
    rw [← e1, ← e2, gg_abs] at q
    have gn : 0 < Int.gcd n d := Nat.pos_of_ne_zero fun e => hd (Int.gcd_eq_zero_iff.mp e).2
    exact Nat.eq_of_mul_eq_mul_left gn (by rw [← q, Nat.mul_one])
def addF (x y : Fr) : Fr := low (x.1 * y.2 + y.1 * x.2) (x.2 * y.2)
def lessF (x y : Fr) : Fr := low (x.1 * y.2 - y.1 * x.2) (x.2 * y.2)
def mulF (x y : Fr) : Fr := low (x.1 * y.1) (x.2 * y.2)
def overF (x y : Fr) : Fr := low (x.1 * y.2) (x.2 * y.1)
section
variable {L M : Nat} {x y : Fr}
theorem dd_ne (hx : Good L x) (hy : Good M y) : x.2 * y.2 ≠ 0 := Int.ne_of_gt (Int.mul_pos hx.pos hy.pos)
theorem over_ne (hx : Good L x) (hy : y.1 ≠ 0) : x.2 * y.1 ≠ 0 := Int.mul_ne_zero (Int.ne_of_gt hx.pos) hy
theorem add_sz (hx : Good L x) (hy : Good M y) : sz (L + M + 1) (x.1 * y.2 + y.1 * x.2) := (hx.n.mul hy.d).add ((hy.n.mul hx.d).mono (by omega))
theorem sub_sz (hx : Good L x) (hy : Good M y) : sz (L + M + 1) (x.1 * y.2 - y.1 * x.2) := (hx.n.mul hy.d).sub ((hy.n.mul hx.d).mono (by omega))
theorem addF_good (hx : Good L x) (hy : Good M y) : Good (L + M + 1) (addF x y) := low_good (dd_ne hx hy) (add_sz hx hy) ((hx.d.mul hy.d).mono (by omega))
theorem lessF_good (hx : Good L x) (hy : Good M y) : Good (L + M + 1) (lessF x y) := low_good (dd_ne hx hy) (sub_sz hx hy) ((hx.d.mul hy.d).mono (by omega))
theorem mulF_good (hx : Good L x) (hy : Good M y) : Good (L + M) (mulF x y) := low_good (dd_ne hx hy) (hx.n.mul hy.n) (hx.d.mul hy.d)
theorem overF_good (hx : Good L x) (hy : Good M y) (h0 : y.1 ≠ 0) : Good (L + M) (overF x y) := low_good (over_ne hx h0) (hx.n.mul hy.d) (hx.d.mul hy.n)
end
/-! ### the program's and the law's fractions -/
theorem c_frac (k : Nat) {L : Nat} {n d : Int} (h : Store) (hk : 32 ≤ k) (hL : L ≤ 1000000000) (hb : sz L d) (hd : d ≠ 0) : callK prg (k + 1) "_law_frac" [.int n, .int d] h = .ok (fw (low n d)) h := by
  rw [k__law_frac, decide_eq_true hk]
  have g := gg_ne (n := n) hd
  have z := gcd_loop (t := tcCmp .NotEq (cVar 3) (cVal (.int 0))) (body := sSeq (sPar2 2 3 (cCons (cVar 3) (cCons (cBin true .Mod (cV1 intV (cVar 2)) (cVar 3)) cNil))) sSkip) (mk := fun a b => [some (.int n), some (.int d), some (.int a), some (.int b)])
    (fun a b h => by simp) (fun a b h hb => by simp [hb]) h L wFuel n.natAbs d.natAbs hb (by unfold wFuel; omega)
  by_cases hn : d < 0
  · have e : gg n d = -(Int.gcd n d : Int) := by unfold gg; rw [if_pos hn]
    rw [e] at g
    have hn' : ¬ 0 < d := by omega
    have g' : Nat.gcd n.natAbs d.natAbs ≠ 0 := by
      have : Int.gcd n d ≠ 0 := by omega
      exact this
    have e' : gg n d = -(Nat.gcd n.natAbs d.natAbs : Int) := e
    simp [b__law_frac, startR, abs_nat, z, hn', hk, cutR_same, fw, low, e', g']
  · have e : gg n d = (Int.gcd n d : Int) := by unfold gg; rw [if_neg hn]
    rw [e] at g
    have hn' : 0 < d := by omega
    have g' : Nat.gcd n.natAbs d.natAbs ≠ 0 := by
      have : Int.gcd n d ≠ 0 := by omega
      exact this
    have e' : gg n d = (Nat.gcd n.natAbs d.natAbs : Int) := e
    simp [b__law_frac, startR, abs_nat, z, hn', hk, cutR_same, fw, low, e', g']
section
variable {L M : Nat} {x y : Fr} (k : Nat) (h : Store) (hk : 34 ≤ k) (hx : Good L x) (hy : Good M y) (hl : L + M ≤ 100000000)
include hk hx hy hl
theorem c_add : callK prg (k + 1) "_law_add" [fw x, fw y] h = .ok (fw (addF x y)) h := by
  obtain ⟨k, rfl⟩ : ∃ j, k = j + 1 := ⟨k - 1, by omega⟩
  rw [k__law_add]
  simp [b__law_add, startR, fw, mul_sz hx.n hy.d (by omega), mul_sz hy.n hx.d (by omega), mul_sz hx.d hy.d (by omega), c_frac k h (by omega) (by omega) (hx.d.mul hy.d) (dd_ne hx hy), cutR_same, addF]
theorem c_lless : callK prg (k + 1) "_law_less" [fw x, fw y] h = .ok (fw (lessF x y)) h := by
  obtain ⟨k, rfl⟩ : ∃ j, k = j + 1 := ⟨k - 1, by omega⟩
  rw [k__law_less]
  simp [b__law_less, startR, fw, mul_sz hx.n hy.d (by omega), mul_sz hy.n hx.d (by omega), mul_sz hx.d hy.d (by omega), c_frac k h (by omega) (by omega) (hx.d.mul hy.d) (dd_ne hx hy), cutR_same, lessF]
theorem c_lmul : callK prg (k + 1) "_law_mul" [fw x, fw y] h = .ok (fw (mulF x y)) h := by
  obtain ⟨k, rfl⟩ : ∃ j, k = j + 1 := ⟨k - 1, by omega⟩
  rw [k__law_mul]
  simp [b__law_mul, startR, fw, mul_sz hx.n hy.n (by omega), mul_sz hx.d hy.d (by omega), c_frac k h (by omega) (by omega) (hx.d.mul hy.d) (dd_ne hx hy), cutR_same, mulF]
theorem c_lover (h0 : y.1 ≠ 0) : callK prg (k + 1) "_law_over" [fw x, fw y] h = .ok (fw (overF x y)) h := by
  obtain ⟨k, rfl⟩ : ∃ j, k = j + 1 := ⟨k - 1, by omega⟩
  rw [k__law_over]
  simp [b__law_over, startR, fw, mul_sz hx.n hy.d (by omega), mul_sz hx.d hy.n (by omega), c_frac k h (by omega) (by omega) (hx.d.mul hy.n) (over_ne hx h0), cutR_same, overF]
theorem c_less : callK prg (k + 1) "ratio_less" [fw x, fw y] h = .ok (fw (lessF x y)) h := by
  obtain ⟨k, rfl⟩ : ∃ j, k = j + 1 := ⟨k - 1, by omega⟩
  rw [k_ratio_less]
  simp [b_ratio_less, startR, fw, mul_sz hx.n hy.d (by omega), mul_sz hy.n hx.d (by omega), mul_sz hx.d hy.d (by omega), c_lowest k h (by omega) (by omega) (hx.d.mul hy.d) (dd_ne hx hy), cutR_same, lessF]
theorem c_prod : callK prg (k + 1) "ratio_product" [fw x, fw y] h = .ok (fw (mulF x y)) h := by
  obtain ⟨k, rfl⟩ : ∃ j, k = j + 1 := ⟨k - 1, by omega⟩
  rw [k_ratio_product]
  simp [b_ratio_product, startR, fw, mul_sz hx.n hy.n (by omega), mul_sz hx.d hy.d (by omega), c_lowest k h (by omega) (by omega) (hx.d.mul hy.d) (dd_ne hx hy), cutR_same, mulF]
theorem c_over (h0 : y.1 ≠ 0) : callK prg (k + 1) "ratio_over" [fw x, fw y] h = .ok (fw (overF x y)) h := by
  obtain ⟨k, rfl⟩ : ∃ j, k = j + 1 := ⟨k - 1, by omega⟩
  rw [k_ratio_over]
  simp [b_ratio_over, startR, fw, h0, mul_sz hx.n hy.d (by omega), mul_sz hx.d hy.n (by omega), c_lowest k h (by omega) (by omega) (hx.d.mul hy.n) (over_ne hx h0), cutR_same, overF]
end
end K03
end
section
set_option Elab.async false
set_option linter.all false
set_option maxRecDepth 100000
set_option maxHeartbeats 1000000
namespace K03
open PySem PySem.Spec Wv L2
def rw (r : List Fr) : W := .tup (r.map fw)
def tw (T : List (List Fr)) : W := .tup (T.map rw)
/-- a table: L bits, q columns -/
structure Tab (L q : Nat) (T : List (List Fr)) : Prop where
  few : T.length ≤ 40
  q1 : 1 ≤ q
  q40 : q ≤ 40
  len : ∀ r ∈ T, r.length = q
  good : ∀ r ∈ T, ∀ x ∈ r, Good L x
theorem c_ratio (k : Nat) {L : Nat} {x : Fr} (h : Store) (hL : L ≤ 1000000000) (g : Good L x) : callK prg (k + 2) "is_ratio" [fw x] h = .ok (.bl true) h := by
  rw [k_is_ratio]
  simp [b_is_ratio, startR, fw, c_isint, c_gcd k h hL g.d, g.pos, g.one, cutR_same]
theorem c_width (k : Nat) {r : List Fr} {T : List (List Fr)} (h : Store) : callK prg (k + 1) "width_of" [tw (r :: T)] h = .ok (.int r.length) h := by
  rw [k_width_of]
  simp [b_width_of, startR, tw, rw, cutR_same]
theorem c_anytab (k : Nat) {L q : Nat} {T : List (List Fr)} (h : Store) (hL : L ≤ 1000000000) (t : Tab L q T) : callK prg (k + 3) "is_any_table" [tw T] h = .ok (.bl true) h := by
  have few := t.few
  rw [k_is_any_table]
  have c1 : compL [] (.nm 1) cTrue (cAnd (cIsi1 "tuple" (cVar 1)) (cChain .LtE .LtE (cVal (.int 1)) (cV1 lenV (cVar 1)) (cVal (.int 40)))) [some (tw T), none, none] (T.map rw) [] h = .ok (T.map fun _ => .bl true) h := by
    refine comp_map T (by omega) fun r hr => ⟨[some (tw T), some (rw r), none], by simp, rfl, ?_⟩
    have l1 := t.len r hr
    have q1 := t.q1
    have q40 := t.q40
    simp [rw, l1, show (1 : Int) ≤ (q : Int) by omega, show (q : Int) ≤ 40 by omega]
  have c2 : compL [] (.nm 1) cTrue (cAnd (cCmp .Eq (cV1 lenV (cVar 1)) (cV1 lenV (cIx (cVar 0) (cVal (.int 0))))) (cQ1 allQ (cSeqF (cComp (cItV (cVar 1)) [2] (.nm 2) cTrue (cCall (callK prg (k + 2)) 1 "is_ratio" (cCons (cVar 2) cNil)))))) [some (tw T), none, none] (T.map rw) [] h = .ok (T.map fun _ => .bl true) h := by
    refine comp_map T (by omega) fun r hr => ⟨[some (tw T), some (rw r), none], by simp, rfl, ?_⟩
    obtain ⟨r0, T0, e⟩ : ∃ r0 T0, T = r0 :: T0 := by
      cases T with
      | nil => cases hr
      | cons a b => exact ⟨a, b, rfl⟩
    have l1 := t.len r hr
    have l0 := t.len r0 (by rw [e]; exact List.mem_cons_self)
    have q40 := t.q40
    have c3 : compL [] (.nm 2) cTrue (cCall (callK prg (k + 2)) 1 "is_ratio" (cCons (cVar 2) cNil)) [some (tw T), some (rw r), none] (r.map fw) [] h = .ok (r.map fun _ => .bl true) h := by
      refine comp_map r (by omega) fun x hx => ⟨[some (tw T), some (rw r), some (fw x)], by simp, rfl, ?_⟩
      simp [c_ratio k h hL (t.good r hr x hx)]
    subst e
    simp only [tw, rw, List.map_cons] at c3 ⊢
    simp [rw, c3, l1, l0, all_map]
  simp only [tw] at c1 c2 ⊢
  simp [b_is_any_table, startR, c1, c2, all_map, cutR_same, show ¬ (40 < (T.length : Int)) by omega]
theorem c_check (k : Nat) {L q : Nat} {T : List (List Fr)} (h : Store) (hL : L ≤ 1000000000) (t : Tab L q T) : callK prg (k + 4) "check_table" [tw T] h = .ok .non h := by
  rw [k_check_table]
  simp [b_check_table, startR, c_anytab k h hL t, cutR_same]
end K03
end
section
set_option Elab.async false
set_option linter.all false
set_option maxRecDepth 100000
set_option maxHeartbeats 1000000
namespace K03
open PySem PySem.Spec Wv L2
def iw (i : Nat) : W := .int (i : Int)
theorem rng1_nat {n : Nat} (h : n < 1000000) : rng1 [.int (n : Int)] = some ((List.range n).map iw) := by
  unfold rng1
  have : rngOk (n : Int) = true := by
    unfold rngOk
    simp
    omega
  dsimp only
  rw [if_pos this]
  refine congrArg some ?_
  refine List.map_congr_left fun k _ => ?_
  simp [iw]
theorem rng2_nat {k n : Nat} (hk : k ≤ n) (h : n < 1000000) : rng2 [.int (k : Int), .int (n : Int)] = some ((List.range' k (n - k)).map iw) := by
  unfold rng2
  have h1 : rngOk (n : Int) = true := by
    unfold rngOk
    simp
    omega
  have h2 : rngOk (k : Int) = true := by
    unfold rngOk
    simp
    omega
  dsimp only
  rw [if_pos ⟨h2, h1⟩, List.range'_eq_map_range]
  refine congrArg some ?_
  rw [List.map_map]
  have e : ((n : Int) - (k : Int)).toNat = n - k := by omega
  rw [e]
  refine List.map_congr_left fun i _ => ?_
  simp [iw]
/-! ### the one function that both reckon -/
def ent (M : List (List Fr)) (i j : Nat) : Fr := ((M[i]?).getD [])[j]?.getD (0, 1)
def nz (M : List (List Fr)) (j i : Nat) : Bool := !((ent M i j).1 == 0)
def pivs (M : List (List Fr)) (j k : Nat) : List Nat := (List.range' k (M.length - k)).filter (nz M j)
def clearR (row prow : List Fr) (c : Fr) : List Fr := List.zipWith (fun a b => lessF a (mulF c b)) row prow
def cl (prow : List Fr) (j k : Nat) (A : List (List Fr)) (i : Nat) : List (List Fr) := if i ≠ k ∧ nz A j i = true then A.set i (clearR ((A[i]?).getD []) prow (ent A i j)) else A
def prowOf (M : List (List Fr)) (j p : Nat) : List Fr := ((M[p]?).getD []).map fun x => overF x (ent M p j)
def swapM (M : List (List Fr)) (j k p : Nat) : List (List Fr) := (M.set p ((M[k]?).getD [])).set k (prowOf M j p)
def elimS (M : List (List Fr)) (j k p : Nat) : List (List Fr) := (List.range M.length).foldl (cl (prowOf M j p) j k) (swapM M j k p)
def elim1 (s : List (List Fr) × List Nat) (j : Nat) : List (List Fr) × List Nat := match pivs s.1 j s.2.length with
  | [] => s
  | p :: _ => (elimS s.1 j s.2.length p, s.2 ++ [j])
def elim (M : List (List Fr)) (q : Nat) : List (List Fr) × List Nat := (List.range q).foldl elim1 (M, [])
/-! ### rows of one width -/
structure Mat (L q : Nat) (M : List (List Fr)) : Prop where
  len : ∀ r ∈ M, r.length = q
  good : ∀ r ∈ M, ∀ x ∈ r, Good L x
theorem Mat.mono {L L' q : Nat} {M : List (List Fr)} (m : Mat L q M) (h : L ≤ L') : Mat L' q M := ⟨m.len, fun r hr x hx => (m.good r hr x hx).mono h⟩
theorem mem_set {α : Type} {l : List α} {i : Nat} {a x : α} (h : x ∈ l.set i a) : x = a ∨ x ∈ l := by
  rcases List.mem_or_eq_of_mem_set h with h | h
  · exact .inr h
  · exact .inl h
theorem Mat.set {L q : Nat} {M : List (List Fr)} (m : Mat L q M) {i : Nat} {r : List Fr} (hl : r.length = q) (hg : ∀ x ∈ r, Good L x) : Mat L q (M.set i r) :=
  ⟨fun s hs => by
    rcases mem_set hs with e | hs
    · rw [e]
      exact hl
    · exact m.len s hs, fun s hs => by
    rcases mem_set hs with e | hs
    · rw [e]
      exact hg
    · exact m.good s hs⟩
section
variable {L q : Nat} {M : List (List Fr)}
theorem Mat.row (m : Mat L q M) {i : Nat} (hi : i < M.length) : ∃ r, M[i]? = some r ∧ (M[i]?).getD [] = r ∧ r.length = q ∧ ∀ x ∈ r, Good L x := by
  have e := List.getElem?_eq_getElem hi
  exact ⟨M[i], e, by rw [e]; rfl, m.len _ (List.getElem_mem hi), m.good _ (List.getElem_mem hi)⟩
theorem Mat.at_ (m : Mat L q M) {i j : Nat} {r : List Fr} (hr : M[i]? = some r) (hj : j < q) : r[j]? = some (ent M i j) ∧ Good L (ent M i j) := by
  have hm : r ∈ M := List.mem_of_getElem? hr
  have hl : j < r.length := by rw [m.len r hm]; exact hj
  have e : r[j]? = some r[j] := List.getElem?_eq_getElem hl
  have e2 : ent M i j = r[j] := by
    unfold ent
    rw [hr]
    show r[j]?.getD (0, 1) = _
    rw [e]
    rfl
  rw [e2]
  exact ⟨e, m.good r hm _ (List.getElem_mem hl)⟩
theorem pivs_mem {j k p : Nat} (h : p ∈ pivs M j k) : k ≤ p ∧ p < M.length ∧ nz M j p = true := by
  unfold pivs at h
  obtain ⟨h1, h2⟩ := List.mem_filter.mp h
  rw [List.mem_range'_1] at h1
  exact ⟨h1.1, by omega, h2⟩
theorem prow_good (m : Mat L q M) {j p : Nat} (hp : p < M.length) (hj : j < q) (hz : nz M j p = true) : (prowOf M j p).length = q ∧ ∀ x ∈ prowOf M j p, Good (2 * L) x := by
  obtain ⟨r, e1, e2, e3, e4⟩ := m.row hp
  obtain ⟨e5, e6⟩ := m.at_ e1 hj
  have h0 : (ent M p j).1 ≠ 0 := by
    unfold nz at hz
    simpa using hz
  unfold prowOf
  rw [e2]
  refine ⟨by rw [List.length_map, e3], fun x hx => ?_⟩
  obtain ⟨y, hy, rfl⟩ := List.mem_map.mp hx
  exact (overF_good (e4 y hy) e6 h0).mono (by omega)
theorem swap_mat (m : Mat L q M) {j k p : Nat} (hk : k ≤ p) (hp : p < M.length) (hj : j < q) (hz : nz M j p = true) : Mat (2 * L) q (swapM M j k p) := by
  obtain ⟨r, e1, e2, e3, e4⟩ := m.row (show k < M.length by omega)
  obtain ⟨g1, g2⟩ := prow_good m hp hj hz
  unfold swapM
  rw [e2]
  exact ((m.mono (by omega)).set e3 fun x hx => (e4 x hx).mono (by omega)).set g1 g2
theorem clear_good {L N : Nat} {row prow : List Fr} {c : Fr} (h1 : ∀ x ∈ row, Good L x) (h2 : ∀ x ∈ prow, Good N x) (h3 : Good L c) : ∀ x ∈ clearR row prow c, Good (2 * L + N + 1) x := fun x hx => by
  unfold clearR at hx
  obtain ⟨i, hi, e⟩ := List.getElem_of_mem hx
  rw [List.getElem_zipWith] at e
  subst e
  have a := h1 _ (List.getElem_mem (show i < row.length by rw [List.length_zipWith] at hi; omega))
  have b := h2 _ (List.getElem_mem (show i < prow.length by rw [List.length_zipWith] at hi; omega))
  exact (lessF_good a (mulF_good h3 b)).mono (by omega)
end
/-! ### rows in the store -/
structure At (n0 : Nat) (h : Store) (R P : Nat) (rs : List Nat) (M : List (List Fr)) (ps : List Nat) : Prop where
  rows : own? h R = some (rs.map W.ref)
  len : rs.length = M.length
  row : ∀ (i r : Nat) (m : List Fr), rs[i]? = some r → M[i]? = some m → own? h r = some (m.map fw)
  piv : own? h P = some (ps.map iw)
  rp : R ≠ P
  rr : R ∉ rs
  pr : P ∉ rs
  rn : n0 ≤ R
  pn : n0 ≤ P
section
variable {n0 R P : Nat} {h : Store} {rs : List Nat} {M : List (List Fr)} {ps : List Nat}
theorem At.app (a : At n0 h R P rs M ps) (t : Store) : At n0 (h ++ t) R P rs M ps :=
  ⟨own_app a.rows, a.len, fun i r m h1 h2 => own_app (a.row i r m h1 h2), own_app a.piv, a.rp, a.rr, a.pr, a.rn, a.pn⟩
theorem At.ref (a : At n0 h R P rs M ps) {i : Nat} (hi : i < M.length) : ∃ r, rs[i]? = some r ∧ ixW h (.ref R) (.int (i : Int)) = some (.ref r) := by
  have e := List.getElem?_eq_getElem (show i < rs.length by rw [a.len]; exact hi)
  refine ⟨_, e, ?_⟩
  show (match lst? h R with
    | some ws => atI ws (i : Int)
    | none => none) = _
  rw [lst_own a.rows]
  exact atI_map e
theorem At.item (a : At n0 h R P rs M ps) {i r j : Nat} {m : List Fr} {x : Fr} (hr : rs[i]? = some r) (hm : M[i]? = some m) (hx : m[j]? = some x) : ixW h (.ref r) (.int (j : Int)) = some (fw x) := by
  show (match lst? h r with
    | some ws => atI ws (j : Int)
    | none => none) = _
  rw [lst_own (a.row i r m hr hm)]
  exact atI_map hx
theorem At.lenR (a : At n0 h R P rs M ps) : lenV (.ref R) h = some (.int (M.length : Int), h) := by
  show (lst? h R).map _ = _
  rw [lst_own a.rows]
  simp [a.len]
theorem At.lenP (a : At n0 h R P rs M ps) : lenV (.ref P) h = some (.int (ps.length : Int), h) := by
  show (lst? h P).map _ = _
  rw [lst_own a.piv]
  simp
theorem map_set_ref (rs : List Nat) (i r : Nat) : (rs.map W.ref).set i (.ref r) = (rs.set i r).map W.ref := by rw [List.map_set]
/-- rows[i] = what stands at r with the content m -/
theorem At.put (a : At n0 h R P rs M ps) {i r : Nat} {m : List Fr} (hi : i < M.length) (hr : own? h r = some (m.map fw)) (n1 : R ≠ r) (n2 : P ≠ r) : At n0 (h.set R (.lst ((rs.map W.ref).set i (.ref r)))) R P (rs.set i r) (M.set i m) ps := by
  refine ⟨?_, by rw [List.length_set, List.length_set]; exact a.len, fun i2 r2 m2 h1 h2 => ?_, own_other a.piv a.rp, a.rp, fun z => ?_, fun z => ?_, a.rn, a.pn⟩
  · rw [map_set_ref]
    exact own_set a.rows
  · by_cases e : i = i2
    · subst e
      rw [List.getElem?_set_self (by rw [a.len]; exact hi)] at h1
      rw [List.getElem?_set_self hi] at h2
      cases h1
      cases h2
      exact own_other hr n1
    · rw [List.getElem?_set_ne e] at h1 h2
      exact own_other (a.row i2 r2 m2 h1 h2) fun z => a.rr (by rw [z]; exact List.mem_of_getElem? h1)
  · rcases mem_set z with z | z
    · exact n1 z
    · exact a.rr z
  · rcases mem_set z with z | z
    · exact n2 z
    · exact a.pr z
theorem At.ne (a : At n0 h R P rs M ps) {i r : Nat} (hr : rs[i]? = some r) : R ≠ r ∧ P ≠ r :=
  ⟨fun z => a.rr (by rw [z]; exact List.mem_of_getElem? hr), fun z => a.pr (by rw [z]; exact List.mem_of_getElem? hr)⟩
/-- a new row -/
theorem At.new (a : At n0 h R P rs M ps) {i : Nat} {m : List Fr} (hi : i < M.length) : At n0 ((h ++ [Ob.lst (m.map fw)]).set R (.lst ((rs.map W.ref).set i (.ref h.length)))) R P (rs.set i h.length) (M.set i m) ps :=
  (a.app _).put hi (own_new h _) (Nat.ne_of_lt (own_lt a.rows)) (Nat.ne_of_lt (own_lt a.piv))
theorem At.push (a : At n0 h R P rs M ps) (j : Nat) : At n0 (h.set P (.lst (ps.map iw ++ [iw j]))) R P rs M (ps ++ [j]) := by
  refine ⟨own_other a.rows a.rp.symm, a.len, fun i r m h1 h2 => own_other (a.row i r m h1 h2) (a.ne h1).2, ?_, a.rp, a.rr, a.pr, a.rn, a.pn⟩
  rw [List.map_append]
  exact own_set a.piv
end
/-- the old store lies ahead -/
def Old (h0 h : Store) : Prop := ∃ t, h = h0 ++ t
theorem Old.app {h0 h : Store} (o : Old h0 h) (t : Store) : Old h0 (h ++ t) := by
  obtain ⟨u, rfl⟩ := o
  exact ⟨u ++ t, by rw [List.append_assoc]⟩
theorem Old.set {h0 h : Store} (o : Old h0 h) {n : Nat} (hn : h0.length ≤ n) (x : Ob) : Old h0 (h.set n x) := by
  obtain ⟨u, rfl⟩ := o
  exact ⟨u.set (n - h0.length) x, by rw [List.set_append_right _ _ hn]⟩
end K03
end
section
set_option Elab.async false
set_option linter.all false
set_option maxRecDepth 100000
set_option maxHeartbeats 1000000
namespace K03
open PySem PySem.Spec Wv L2
/-- in the midst of clearing a column -/
structure Mid (L q k i0 : Nat) (prow : List Fr) (A : List (List Fr)) : Prop where
  len : ∀ (i : Nat) (r : List Fr), A[i]? = some r → r.length = q
  todo : ∀ (i : Nat) (r : List Fr), i0 ≤ i → i ≠ k → A[i]? = some r → ∀ x ∈ r, Good L x
  all : ∀ (i : Nat) (r : List Fr), A[i]? = some r → ∀ x ∈ r, Good (4 * L + 1) x
  pk : A[k]? = some prow
  pg : ∀ x ∈ prow, Good (2 * L) x
section
variable {L q k i0 j : Nat} {prow : List Fr} {A : List (List Fr)}
theorem cl_length (i : Nat) : (cl prow j k A i).length = A.length := by
  unfold cl
  split
  · rw [List.length_set]
  · rfl
theorem Mid.at_ (m : Mid L q k i0 prow A) {i : Nat} {r : List Fr} (hr : A[i]? = some r) (hj : j < q) : r[j]? = some (ent A i j) ∧ ent A i j ∈ r := by
  have hl : j < r.length := by rw [m.len i r hr]; exact hj
  have e : r[j]? = some r[j] := List.getElem?_eq_getElem hl
  have e2 : ent A i j = r[j] := by
    unfold ent
    rw [hr]
    show r[j]?.getD (0, 1) = _
    rw [e]
    rfl
  rw [e2]
  exact ⟨e, List.getElem_mem hl⟩
theorem Mid.step (m : Mid L q k i0 prow A) (hi : i0 < A.length) (hj : j < q) : Mid L q k (i0 + 1) prow (cl prow j k A i0) := by
  unfold cl
  split
  · rename_i h
    obtain ⟨h1, h2⟩ := h
    obtain ⟨r, hr⟩ : ∃ r, A[i0]? = some r := ⟨_, List.getElem?_eq_getElem hi⟩
    have g := m.todo i0 r (Nat.le_refl _) h1 hr
    obtain ⟨e1, e2⟩ := m.at_ hr hj
    have new : ∀ x ∈ clearR r prow (ent A i0 j), Good (4 * L + 1) x := fun x hx => (clear_good g m.pg (g _ e2) x hx).mono (by omega)
    have nl : (clearR r prow (ent A i0 j)).length = q := by
      unfold clearR
      rw [List.length_zipWith, m.len i0 r hr, m.len k prow m.pk, Nat.min_self]
    rw [hr]
    dsimp only [Option.getD_some]
    refine ⟨fun i s hs => ?_, fun i s h3 h4 hs => ?_, fun i s hs => ?_, ?_, m.pg⟩
    · by_cases e : i0 = i
      · subst e
        rw [List.getElem?_set_self hi] at hs
        cases hs
        exact nl
      · rw [List.getElem?_set_ne e] at hs
        exact m.len i s hs
    · rw [List.getElem?_set_ne (by omega)] at hs
      exact m.todo i s (by omega) h4 hs
    · by_cases e : i0 = i
      · subst e
        rw [List.getElem?_set_self hi] at hs
        cases hs
        exact new
      · rw [List.getElem?_set_ne e] at hs
        exact m.all i s hs
    · rw [List.getElem?_set_ne h1]
      exact m.pk
  · exact ⟨m.len, fun i s h3 h4 hs => m.todo i s (by omega) h4 hs, m.all, m.pk, m.pg⟩
theorem zipW_map (xs ys : List Fr) : zipW (xs.map fw) (ys.map fw) = (List.zip xs ys).map fun p => .tup [fw p.1, fw p.2] := by
  induction xs generalizing ys with
  | nil => simp [zipW]
  | cons x xs ih =>
    cases ys with
    | nil => simp [zipW]
    | cons y ys => simp [zipW, ih]
theorem mem_zip {xs ys : List Fr} {p : Fr × Fr} (h : p ∈ List.zip xs ys) : p.1 ∈ xs ∧ p.2 ∈ ys := List.of_mem_zip h
end
noncomputable def bodyA (call : CallT) : DenS := sSeq (sIf (tcAnd (tcCmp .NotEq (cVar 5) (cVar 4)) (tcCmp .NotEq (cIx (cIx (cIx (cVar 1) (cVar 5)) (cVar 3)) (cVal (.int 0))) (cVal (.int 0)))) (sSeq (sAsg (cIx (cIx (cVar 1) (cVar 5)) (cVar 3)) (gNm 7))
    (sSeq (sAsg (cFresh (cComp (cItS zipOf (cCons (cIx (cVar 1) (cVar 5)) (cCons (cIx (cVar 1) (cVar 4)) cNil))) [10, 11] (.tp [(.nm 10), (.nm 11)]) cTrue (cCall call 2 "ratio_less" (cCons (cVar 10) (cCons (cCall call 2 "ratio_product" (cCons (cVar 7) (cCons (cVar 11) cNil))) cNil))))) (gSx (cVar 1) (cVar 5)))
    sSkip)) sSkip)
    sSkip
def ShA (wT : Option W) (R P j k : Nat) (ρ : Rho) : Prop := ∃ a5 a6 a7 a8 a9 a10 a11, ρ = [wT, some (.ref R), some (.ref P), some (iw j), some (iw k), a5, a6, a7, a8, a9, a10, a11]
theorem lstRef_ix {h : Store} {R : Nat} : ixN (List.length ([] : List W)) 0 = none := rfl
theorem ixN_nat' {n j : Nat} (hj : j < n) : ixN n (j : Int) = some j := by
  unfold ixN
  rw [if_pos (by omega), if_pos (by omega)]
  simp
theorem inA {K : Nat} (hK : 35 ≤ K) {h0 h : Store} {R P i j k L q : Nat} {rs ps : List Nat} {A : List (List Fr)} {prow : List Fr} {wT : Option W} {ρ : Rho} (a : At h0.length h R P rs A ps) (o : Old h0 h) (m : Mid L q k i prow A) (hi : i < A.length) (hk : k < A.length) (hj : j < q) (hq : q ≤ 100) (hL : L ≤ 20000000)
    (s : ShA wT R P j k ρ) (hρ : ρ[5]? = some (some (iw i))) : ∃ ρ2 h2 rs2, bodyA (callK prg K) ρ h = .next ρ2 h2 ∧ ShA wT R P j k ρ2 ∧ At h0.length h2 R P rs2 (cl prow j k A i) ps ∧ Old h0 h2 := by
  obtain ⟨K, rfl⟩ : ∃ z, K = z + 1 := ⟨K - 1, by omega⟩
  obtain ⟨a5, a6, a7, a8, a9, a10, a11, rfl⟩ := s
  have e5 : a5 = some (iw i) := by simpa using hρ
  subst e5
  obtain ⟨r, hr, x1⟩ := a.ref hi
  obtain ⟨rk, hrk, xk⟩ := a.ref hk
  obtain ⟨row, hrow⟩ : ∃ row, A[i]? = some row := ⟨_, List.getElem?_eq_getElem hi⟩
  obtain ⟨e1, e2⟩ := m.at_ (j := j) hrow hj
  have x2 := a.item hr hrow e1
  by_cases c1 : i = k
  · subst c1
    refine ⟨[wT, some (.ref R), some (.ref P), some (iw j), some (iw i), some (iw i), a6, a7, a8, a9, a10, a11], h, rs, ?_, ⟨_, _, _, _, _, _, _, rfl⟩, ?_, o⟩
    · simp [bodyA, iw]
    · unfold cl
      rw [if_neg (by simp)]
      exact a
  · by_cases c2 : (ent A i j).1 = 0
    · refine ⟨[wT, some (.ref R), some (.ref P), some (iw j), some (iw k), some (iw i), a6, a7, a8, a9, a10, a11], h, rs, ?_, ⟨_, _, _, _, _, _, _, rfl⟩, ?_, o⟩
      · simp [bodyA, iw, x1, x2, c1, c2, fw, Int.natCast_inj]
      · unfold cl
        rw [if_neg (by simp [nz, c2])]
        exact a
    · have g := m.todo i row (Nat.le_refl _) c1 hrow
      have hrl := m.len i row hrow
      have hpl := m.len k prow m.pk
      have cm : compL [(r, row.map fw), (rk, prow.map fw)] (.tp [.nm 10, .nm 11]) cTrue (cCall (callK prg (K + 1)) 2 "ratio_less" (cCons (cVar 10) (cCons (cCall (callK prg (K + 1)) 2 "ratio_product" (cCons (cVar 7) (cCons (cVar 11) cNil))) cNil)))
          [wT, some (.ref R), some (.ref P), some (iw j), some (iw k), some (iw i), a6, some (fw (ent A i j)), a8, a9, none, none] (zipW (row.map fw) (prow.map fw)) [] h = .ok ((clearR row prow (ent A i j)).map fw) h := by
        rw [zipW_map]
        have hg : gdOk [(r, row.map fw), (rk, prow.map fw)] h := fun p hp => by
          rcases List.mem_cons.mp hp with e | hp
          · rw [e]
            exact lst_own (a.row i r row hr hrow)
          · rw [List.mem_singleton.mp hp]
            exact lst_own (a.row k rk prow hrk m.pk)
        rw [comp_mapG (f := fun p => fw (lessF p.1 (mulF (ent A i j) p.2))) hg (List.zip row prow) (by rw [List.length_zip]; omega) fun p hp => ?_]
        · unfold clearR
          rw [← List.map_uncurry_zip_eq_zipWith, List.map_map]
          rfl
        · obtain ⟨p1, p2⟩ := mem_zip hp
          have gp := g _ p1
          have gm := mulF_good (g _ e2) (m.pg _ p2)
          refine ⟨_, bind_tp2 _ _ _ _ _, rfl, ?_⟩
          simp [c_prod K h (by omega) (g _ e2) (m.pg _ p2) (by omega), c_less K h (by omega) gp gm (by omega)]
      have own := a.rows
      refine ⟨[wT, some (.ref R), some (.ref P), some (iw j), some (iw k), some (iw i), a6, some (fw (ent A i j)), a8, a9, a10, a11], (h ++ [Ob.lst ((clearR row prow (ent A i j)).map fw)]).set R (.lst ((rs.map W.ref).set i (.ref h.length))), rs.set i h.length, ?_, ⟨_, _, _, _, _, _, _, rfl⟩, ?_, ?_⟩
      · have z1 : zipOf h [.ref r, .ref rk] = some (zipW (row.map fw) (prow.map fw), [(r, row.map fw), (rk, prow.map fw)]) := by
          simp [zipOf, lst_own (a.row i r row hr hrow), lst_own (a.row k rk prow hrk m.pk)]
        have z2 := own_app (t := [Ob.lst ((clearR row prow (ent A i j)).map fw)]) own
        have z3 : ixN rs.length (i : Int) = some i := ixN_nat' (by rw [a.len]; exact hi)
        simp only [iw] at cm ⊢
        simp [bodyA, x1, x2, xk, c1, c2, fw, Int.natCast_inj, z1]
        simp only [fw] at cm
        simp [cm, z2, z3]
      · unfold cl
        rw [if_pos ⟨c1, by simp [nz, c2]⟩, hrow]
        exact a.new hi
      · exact (o.app _).set a.rn _
end K03
end
section
set_option Elab.async false
set_option linter.all false
set_option maxRecDepth 100000
set_option maxHeartbeats 2000000
namespace K03
open PySem PySem.Spec Wv L2
theorem clear_loop {body : DenS} {Sh : Rho → Prop} {h0 : Store} {R P j k L q : Nat} {prow : List Fr} {ps : List Nat} (hj : j < q)
    (sh5 : ∀ ρ w, Sh ρ → Sh (ρ.set 5 (some w)) ∧ (ρ.set 5 (some w))[5]? = some (some w))
    (step : ∀ {h : Store} {rs : List Nat} {A : List (List Fr)} {i : Nat} {ρ : Rho}, At h0.length h R P rs A ps → Old h0 h → Mid L q k i prow A → i < A.length → k < A.length → Sh ρ → ρ[5]? = some (some (iw i)) →
      ∃ ρ2 h2 rs2, body ρ h = .next ρ2 h2 ∧ Sh ρ2 ∧ At h0.length h2 R P rs2 (cl prow j k A i) ps ∧ Old h0 h2)
    {h : Store} {rs : List Nat} {A : List (List Fr)} {ρ : Rho} (a : At h0.length h R P rs A ps) (o : Old h0 h) (m : Mid L q k 0 prow A) (hk : k < A.length) (s : Sh ρ) :
    ∃ ρ2 h2 rs2, forL [] (.nm 5) body ((List.range A.length).map iw) ρ h = .next ρ2 h2 ∧ Sh ρ2 ∧ At h0.length h2 R P rs2 ((List.range A.length).foldl (cl prow j k) A) ps ∧ Old h0 h2 ∧ Mid L q k A.length prow ((List.range A.length).foldl (cl prow j k) A) := by
  have len : ∀ i, ((List.range i).foldl (cl prow j k) A).length = A.length := fun i => by
    induction i with
    | zero => rfl
    | succ i ih => rw [List.range_succ, List.foldl_append, List.foldl_cons, List.foldl_nil, cl_length, ih]
  obtain ⟨ρ2, h2, e, J⟩ := forL_inv (g := []) (T := .nm 5) (body := body)
    (fun ws ρ h => ∃ (i : Nat) (rs : List Nat), i ≤ A.length ∧ ws = (List.range' i (A.length - i)).map iw ∧ Sh ρ ∧ At h0.length h R P rs ((List.range i).foldl (cl prow j k) A) ps ∧ Old h0 h ∧ Mid L q k i prow ((List.range i).foldl (cl prow j k) A))
    (fun ws ρ h _ => gdOk_nil h)
    (fun w ws ρ h ⟨i, rs, hi, e, s, a, o, m⟩ => by
      have hlt : i < A.length := by
        rcases Nat.lt_or_ge i A.length with z | z
        · exact z
        · rw [show A.length - i = 0 by omega] at e
          cases e
      rw [show A.length - i = (A.length - (i + 1)) + 1 by omega, List.range'_succ, List.map_cons] at e
      injection e with e1 e2
      subst e1
      obtain ⟨s1, s2⟩ := sh5 ρ (iw i) s
      refine ⟨_, bind_nm 5 (iw i) ρ, ?_⟩
      obtain ⟨ρ2, h2, rs2, b1, b2, b3, b4⟩ := step a o m (by rw [len]; exact hlt) (by rw [len]; exact hk) s1 s2
      refine ⟨ρ2, h2, .inl b1, i + 1, rs2, by omega, e2, b2, ?_, b4, ?_⟩
      · rw [List.range_succ, List.foldl_append, List.foldl_cons, List.foldl_nil]
        exact b3
      · rw [List.range_succ, List.foldl_append, List.foldl_cons, List.foldl_nil]
        exact m.step (by rw [len]; exact hlt) hj)
    ((List.range A.length).map iw) ρ h ⟨0, rs, by omega, by rw [Nat.sub_zero, List.range_eq_range'], s, a, o, m⟩
  obtain ⟨i, rs2, hi, e2, s2, a2, o2, m2⟩ := J
  have z : i = A.length := by
    have q := congrArg List.length e2
    rw [List.length_map, List.length_range'] at q
    simp at q
    omega
  subst z
  exact ⟨ρ2, h2, rs2, e, s2, a2, o2, m2⟩
/-- from the exchanged rows to the midst -/
theorem mid0 {L q j k p : Nat} {M : List (List Fr)} (m : Mat L q M) (hk : k ≤ p) (hp : p < M.length) (hj : j < q) (hz : nz M j p = true) : Mid L q k 0 (prowOf M j p) (swapM M j k p) := by
  obtain ⟨g1, g2⟩ := prow_good m hp hj hz
  obtain ⟨r, e1, e2, e3, e4⟩ := m.row (show k < M.length by omega)
  have sm := swap_mat m hk hp hj hz
  have pk : (swapM M j k p)[k]? = some (prowOf M j p) := by
    unfold swapM
    rw [List.getElem?_set_self (by rw [List.length_set]; omega)]
  refine ⟨fun i s hs => sm.len s (List.mem_of_getElem? hs), fun i s _ hi hs x hx => ?_, fun i s hs x hx => (sm.good s (List.mem_of_getElem? hs) x hx).mono (by omega), pk, g2⟩
  unfold swapM at hs
  rw [List.getElem?_set_ne (by omega), e2] at hs
  rcases mem_set (List.mem_of_getElem? hs) with z | z
  · rw [z] at hx
    exact e4 x hx
  · exact m.good s z x hx
theorem mid_mat {L q k n : Nat} {prow : List Fr} {A : List (List Fr)} (m : Mid L q k n prow A) : Mat (4 * L + 1) q A :=
  ⟨fun r hr => by
    obtain ⟨i, hi, e⟩ := List.getElem_of_mem hr
    exact m.len i r (by rw [List.getElem?_eq_getElem hi, e]), fun r hr => by
    obtain ⟨i, hi, e⟩ := List.getElem_of_mem hr
    exact m.all i r (by rw [List.getElem?_eq_getElem hi, e])⟩
theorem swap_len {M : List (List Fr)} {j k p : Nat} : (swapM M j k p).length = M.length := by
  unfold swapM
  rw [List.length_set, List.length_set]
/-- the outer body, the program's -/
noncomputable def outA (call : CallT) : DenS := sSeq (sAsg (cV1 lenV (cVar 2)) (gNm 4))
    (sSeq (sAsg (cFresh (cComp (cItR rng2 (cCons (cVar 4) (cCons (cV1 lenV (cVar 1)) cNil))) [5] (.nm 5) (tcCmp .NotEq (cIx (cIx (cIx (cVar 1) (cVar 5)) (cVar 3)) (cVal (.int 0))) (cVal (.int 0))) (cVar 5))) (gNm 6))
    (sSeq (sIf (tcCmp .Gt (cV1 lenV (cVar 6)) (cVal (.int 0))) (sSeq (sAsg (cTup (cCons (cIx (cVar 1) (cIx (cVar 6) (cVal (.int 0)))) (cCons (cIx (cVar 1) (cVar 4)) cNil))) (gTp 2 (gsCons (gSx (cVar 1) (cVar 4)) (gsCons (gSx (cVar 1) (cIx (cVar 6) (cVal (.int 0)))) gsNil))))
    (sSeq (sAsg (cFresh (cComp (cItV (cIx (cVar 1) (cVar 4))) [9] (.nm 9) cTrue (cCall call 2 "ratio_over" (cCons (cVar 9) (cCons (cIx (cIx (cVar 1) (cVar 4)) (cVar 3)) cNil))))) (gSx (cVar 1) (cVar 4)))
    (sSeq (sFor (cItR rng1 (cCons (cV1 lenV (cVar 1)) cNil)) (.nm 5) (bodyA call))
    (sSeq (sExpr (cApp (cVar 2) (cVar 3)))
    sSkip)))) sSkip)
    sSkip))
def ShO (wT : Option W) (R P : Nat) (ρ : Rho) : Prop := ∃ a3 a4 a5 a6 a7 a8 a9 a10 a11, ρ = [wT, some (.ref R), some (.ref P), a3, a4, a5, a6, a7, a8, a9, a10, a11]
/-- looking for a pivot -/
theorem at_comp {h : Store} {n0 R P j k L q : Nat} {rs ps : List Nat} {M : List (List Fr)} {wT : Option W} {a6 a7 a8 a9 a10 a11 : Option W} (a : At n0 h R P rs M ps) (m : Mat L q M) (hj : j < q) (hn : M.length ≤ 1000) :
    compL [] (.nm 5) (tcCmp .NotEq (cIx (cIx (cIx (cVar 1) (cVar 5)) (cVar 3)) (cVal (.int 0))) (cVal (.int 0))) (cVar 5) [wT, some (.ref R), some (.ref P), some (iw j), some (iw k), none, a6, a7, a8, a9, a10, a11] ((List.range' k (M.length - k)).map iw) [] h = .ok ((pivs M j k).map iw) h := by
  have hl : (List.range' k (M.length - k)).length ≤ 16777216 := by
    have z : (List.range' k (M.length - k)).length = M.length - k := List.length_range'
    exact Nat.le_trans (Nat.le_of_eq z) (Nat.le_trans (Nat.sub_le _ _) (Nat.le_trans hn (by decide)))
  refine comp_filter (p := nz M j) (f := iw) _ hl fun i hi => ?_
  rw [List.mem_range'_1] at hi
  obtain ⟨r, hr, x1⟩ := a.ref (show i < M.length by omega)
  obtain ⟨row, e1, e2, e3, e4⟩ := m.row (show i < M.length by omega)
  obtain ⟨e5, e6⟩ := m.at_ e1 hj
  have x2 := a.item hr e1 e5
  exact ⟨_, bind_nm _ _ _, by simp [iw, x1, x2, fw, nz], fun _ => by simp⟩
end K03
end
section
set_option Elab.async false
set_option linter.all false
set_option maxRecDepth 100000
set_option maxHeartbeats 2000000
namespace K03
open PySem PySem.Spec Wv L2
theorem in_outA {K : Nat} (hK : 35 ≤ K) {h0' h : Store} {R P j L q : Nat} {rs ps : List Nat} {M : List (List Fr)} {wT : Option W} {ρ : Rho} (a : At h0'.length h R P rs M ps) (o : Old h0' h) (m : Mat L q M) (hj : j < q) (hq : q ≤ 100) (hn : M.length ≤ 1000) (hk : ps.length ≤ M.length)
    (hL : pivs M j ps.length ≠ [] → L ≤ 20000000) (s : ShO wT R P ρ) (hρ : ρ[3]? = some (some (iw j))) :
    ∃ ρ2 h2 rs2, outA (callK prg K) ρ h = .next ρ2 h2 ∧ ShO wT R P ρ2 ∧ At h0'.length h2 R P rs2 (elim1 (M, ps) j).1 (elim1 (M, ps) j).2 ∧ Old h0' h2 ∧ (elim1 (M, ps) j).1.length = M.length ∧ (elim1 (M, ps) j).2.length ≤ M.length ∧
      ((elim1 (M, ps) j).2.length = ps.length ∧ Mat L q (elim1 (M, ps) j).1 ∨ (elim1 (M, ps) j).2.length = ps.length + 1 ∧ Mat (4 * L + 1) q (elim1 (M, ps) j).1) := by
  obtain ⟨a3, a4, a5, a6, a7, a8, a9, a10, a11, rfl⟩ := s
  have e3 : a3 = some (iw j) := by simpa using hρ
  subst e3
  have c1 := at_comp (wT := wT) (k := ps.length) (a6 := a6) (a7 := a7) (a8 := a8) (a9 := a9) (a10 := a10) (a11 := a11) a m hj hn
  have r2 : rng2 [.int (ps.length : Int), .int (M.length : Int)] = some ((List.range' ps.length (M.length - ps.length)).map iw) := rng2_nat hk (by omega)
  have lR := a.lenR
  have lP := a.lenP
  simp only [iw] at c1
  cases q1 : pivs M j ps.length with
  | nil =>
    have el : elim1 (M, ps) j = (M, ps) := by
      unfold elim1
      dsimp only
      rw [q1]
    rw [el]
    rw [q1] at c1
    refine ⟨[wT, some (.ref R), some (.ref P), some (iw j), some (iw ps.length), a5, some (.ref h.length), a7, a8, a9, a10, a11], h ++ [Ob.lst []], rs, ?_, ⟨_, _, _, _, _, _, _, _, _, rfl⟩, a.app _, o.app _, rfl, hk, .inl ⟨rfl, m⟩⟩
    have l6 : lenV (.ref h.length) (h ++ [Ob.lst []]) = some (.int 0, h ++ [Ob.lst []]) := by
      show (lst? _ _).map _ = _
      rw [lst_own (own_new h [])]
      rfl
    simp only [List.map_nil] at c1
    simp only [iw]
    simp [outA, lP, lR, r2, c1, l6]
  | cons p t =>
    have pm : p ∈ pivs M j ps.length := by rw [q1]; exact List.mem_cons_self
    obtain ⟨p1, p2, p3⟩ := pivs_mem pm
    have hL := hL (by rw [q1]; simp)
    have hkM : ps.length < M.length := by omega
    have el : elim1 (M, ps) j = (elimS M j ps.length p, ps ++ [j]) := by
      unfold elim1
      dsimp only
      rw [q1]
    rw [el]
    obtain ⟨mk, k1, k2, k3, k4⟩ := m.row hkM
    obtain ⟨mp, v1, v2, v3, v4⟩ := m.row p2
    obtain ⟨v5, v6⟩ := m.at_ v1 hj
    obtain ⟨rk, hrk, xk⟩ := a.ref hkM
    obtain ⟨rp, hrp, xp⟩ := a.ref p2
    -- the list of places
    have b0 := a.app [Ob.lst ((p :: t).map iw)]
    have ow := own_new h ((p :: t).map iw)
    have nR : R ≠ h.length := Nat.ne_of_lt (own_lt a.rows)
    have nP : P ≠ h.length := Nat.ne_of_lt (own_lt a.piv)
    -- the exchange
    have b1 := b0.put hkM (b0.row p rp mp hrp v1) (b0.ne hrp).1 (b0.ne hrp).2
    have own1 := own_other (o := .lst ((rs.map W.ref).set ps.length (.ref rp))) (b0.row ps.length rk mk hrk k1) (b0.ne hrk).1
    have b2 := b1.put (i := p) (r := rk) (m := mk) (by rw [List.length_set]; exact p2) own1 (b0.ne hrk).1 (b0.ne hrk).2
    have M2k : ((M.set ps.length mp).set p mk)[ps.length]? = some mp := by
      by_cases e : p = ps.length
      · subst e
        rw [v1] at k1
        cases k1
        rw [List.getElem?_set_self (by rw [List.length_set]; exact hkM)]
      · rw [List.getElem?_set_ne e, List.getElem?_set_self hkM]
    have M2l : ((M.set ps.length mp).set p mk).length = M.length := by rw [List.length_set, List.length_set]
    have M3 : ((M.set ps.length mp).set p mk).set ps.length (prowOf M j p) = swapM M j ps.length p := by
      unfold swapM
      rw [k2]
      by_cases e : p = ps.length
      · subst e
        rw [List.set_set, List.set_set, List.set_set]
      · rw [List.set_comm _ _ e, List.set_set, List.set_comm _ _ (Ne.symm e)]
    generalize hh2 : ((h ++ [Ob.lst ((p :: t).map iw)]).set R (.lst ((rs.map W.ref).set ps.length (.ref rp)))).set R (.lst (((rs.set ps.length rp).map W.ref).set p (.ref rk))) = h2 at b2
    obtain ⟨r2', hr2, xr2⟩ := b2.ref (i := ps.length) (by rw [M2l]; exact hkM)
    have y1 := b2.item hr2 M2k v5
    have y2 := lst_own (b2.row _ _ _ hr2 M2k)
    have y3 : itOf h2 (.ref r2') = some (mp.map fw, [(r2', mp.map fw)]) := by
      show (lst? h2 r2').map _ = _
      rw [y2]
      rfl
    have h0 : (ent M p j).1 ≠ 0 := by
      unfold nz at p3
      simpa using p3
    obtain ⟨K, rfl⟩ : ∃ z, K = z + 1 := ⟨K - 1, by omega⟩
    have hmp : mp.length ≤ 16777216 := by rw [v3]; exact Nat.le_trans hq (by decide)
    have cm : compL [(r2', mp.map fw)] (.nm 9) cTrue (cCall (callK prg (K + 1)) 2 "ratio_over" (cCons (cVar 9) (cCons (cIx (cIx (cVar 1) (cVar 4)) (cVar 3)) cNil))) [wT, some (.ref R), some (.ref P), some (iw j), some (iw ps.length), a5, some (.ref h.length), a7, a8, none, a10, a11] (mp.map fw) [] h2 = .ok ((prowOf M j p).map fw) h2 := by
      rw [comp_mapG (f := fun x => fw (overF x (ent M p j))) (gdOk_one y2) mp hmp fun x hx => ?_]
      · unfold prowOf
        rw [v2, List.map_map]
        rfl
      · refine ⟨_, bind_nm _ _ _, rfl, ?_⟩
        simp only [iw] at *
        simp [xr2, y1, c_over K h2 (by omega) (v4 x hx) v6 (by omega) h0]
    have b3 := b2.new (i := ps.length) (m := prowOf M j p) (by rw [M2l]; exact hkM)
    rw [M3] at b3
    have o2 : Old h0' h2 := by
      rw [← hh2]
      exact ((o.app _).set a.rn _).set a.rn _
    have o3 := (o2.app [Ob.lst ((prowOf M j p).map fw)]).set a.rn (.lst ((((rs.set ps.length rp).set p rk).map W.ref).set ps.length (.ref h2.length)))
    have z2 := own_app (t := [Ob.lst ((prowOf M j p).map fw)]) b2.rows
    have z3 : ixN ((rs.set ps.length rp).set p rk).length (ps.length : Int) = some ps.length := ixN_nat' (by rw [b2.len, M2l]; exact hkM)
    generalize hh3 : (h2 ++ [Ob.lst ((prowOf M j p).map fw)]).set R (.lst ((((rs.set ps.length rp).set p rk).map W.ref).set ps.length (.ref h2.length))) = h3 at b3 o3
    obtain ⟨ρ4, h4, rs4, f1, f2, f3, f4, f5⟩ := clear_loop (Sh := ShA wT R P j ps.length) hj (fun ρ w ⟨a5, a6, a7, a8, a9, a10, a11, e⟩ => by
        subst e
        exact ⟨⟨_, _, _, _, _, _, _, rfl⟩, rfl⟩)
      (fun {h rs A i ρ} a o m hi hk s hρ => inA hK a o m hi hk hj hq hL s hρ) b3 o3 (mid0 m p1 p2 hj p3) (by rw [swap_len]; exact hkM) (ρ := [wT, some (.ref R), some (.ref P), some (iw j), some (iw ps.length), a5, some (.ref h.length), a7, a8, a9, a10, a11]) ⟨_, _, _, _, _, _, _, rfl⟩
    obtain ⟨d5, d6, d7, d8, d9, d10, d11, rfl⟩ := f2
    have f6 := f3.push j
    have ll := f3.piv
    have l3 := b3.lenR
    rw [swap_len] at l3 f1 f3 f5 f6
    have r1 : rng1 [.int (M.length : Int)] = some ((List.range M.length).map iw) := rng1_nat (by omega)
    have l6 : lenV (.ref h.length) (h ++ [Ob.lst ((p :: t).map iw)]) = some (.int ((p :: t).length : Int), h ++ [Ob.lst ((p :: t).map iw)]) := by
      show (lst? _ _).map _ = _
      rw [lst_own ow]
      simp
    have i6 : ixW (h ++ [Ob.lst ((p :: t).map iw)]) (.ref h.length) (.int 0) = some (iw p) := by
      show (match lst? _ _ with
        | some ws => atI ws 0
        | none => none) = _
      rw [lst_own ow]
      exact s_ix0 _ _
    have ow1 := own_other (o := .lst ((rs.map W.ref).set ps.length (.ref rp))) ow nR
    have i7 : ixW ((h ++ [Ob.lst ((p :: t).map iw)]).set R (.lst ((rs.map W.ref).set ps.length (.ref rp)))) (.ref h.length) (.int 0) = some (iw p) := by
      show (match lst? _ _ with
        | some ws => atI ws 0
        | none => none) = _
      rw [lst_own ow1]
      exact s_ix0 _ _
    obtain ⟨rk', hrk', xk'⟩ := b0.ref hkM
    rw [hrk] at hrk'
    cases hrk'
    obtain ⟨rp', hrp', xp'⟩ := b0.ref p2
    rw [hrp] at hrp'
    cases hrp'
    have w1 := b0.rows
    have w2 := b1.rows
    have n1 : ixN rs.length (ps.length : Int) = some ps.length := ixN_nat' (by rw [a.len]; exact hkM)
    have n2 : ixN rs.length (p : Int) = some p := ixN_nat' (by rw [a.len]; exact p2)
    have hh2' : (h ++ [Ob.lst ((p :: t).map iw)]).set R (.lst (((rs.map W.ref).set ps.length (.ref rp)).set p (.ref rk))) = h2 := by rw [← hh2, List.set_set, map_set_ref]
    have hh3' : (h2 ++ [Ob.lst ((prowOf M j p).map fw)]).set R (.lst ((((rs.map W.ref).set ps.length (.ref rp)).set p (.ref rk)).set ps.length (.ref h2.length))) = h3 := by rw [← hh3, map_set_ref, map_set_ref]
    have lr : lstRef h4 (.ref P) = some P := by
      show (lst? h4 P).map _ = _
      rw [lst_own ll]
      rfl
    have z3' : ixN rs.length (ps.length : Int) = some ps.length := n1
    have pl : ps.length < 16777216 := Nat.lt_of_le_of_lt hk (Nat.lt_of_le_of_lt hn (by decide))
    refine ⟨[wT, some (.ref R), some (.ref P), some (iw j), some (iw ps.length), d5, d6, d7, d8, d9, d10, d11], h4.set P (.lst (ps.map iw ++ [iw j])), rs4, ?_, ⟨_, _, _, _, _, _, _, _, _, rfl⟩, f6, f4.set a.pn _, ?_, ?_, .inr ⟨by simp, mid_mat f5⟩⟩
    · rw [q1] at c1
      simp only [iw] at *
      simp only [List.map_cons] at *
      simp [outA, lP, lR, r2, c1, l6, i6, i7, xk', xp', w1, w2, n1, n2, hh2', y3, cm, z2, z3, hh3', l3, r1, f1, xr2, lr, ll, pl]
    · show ((List.range M.length).foldl (cl (prowOf M j p) j ps.length) (swapM M j ps.length p)).length = M.length
      have len : ∀ i, ((List.range i).foldl (cl (prowOf M j p) j ps.length) (swapM M j ps.length p)).length = M.length := fun i => by
        induction i with
        | zero => exact swap_len
        | succ i ih => rw [List.range_succ, List.foldl_append, List.foldl_cons, List.foldl_nil, cl_length, ih]
      exact len _
    · show (ps ++ [j]).length ≤ M.length
      rw [List.length_append]
      exact hkM
end K03
end
section
set_option Elab.async false
set_option linter.all false
set_option maxRecDepth 100000
set_option maxHeartbeats 2000000
namespace K03
open PySem PySem.Spec Wv L2
theorem clear_loopB {body : DenS} {Sh : Rho → List Nat → Prop} {h0 : Store} {R P j k L q : Nat} {prow : List Fr} {ps : List Nat} (hj : j < q)
    (sh5 : ∀ ρ rs w, Sh ρ rs → Sh (ρ.set 5 (some w)) rs ∧ (ρ.set 5 (some w))[5]? = some (some w))
    (step : ∀ {h : Store} {rs : List Nat} {A : List (List Fr)} {i : Nat} {ρ : Rho}, At h0.length h R P rs A ps → Old h0 h → Mid L q k i prow A → i < A.length → k < A.length → Sh ρ rs → ρ[5]? = some (some (iw i)) →
      ∃ ρ2 h2 rs2, body ρ h = .next ρ2 h2 ∧ Sh ρ2 rs2 ∧ At h0.length h2 R P rs2 (cl prow j k A i) ps ∧ Old h0 h2)
    {h : Store} {rs : List Nat} {A : List (List Fr)} {ρ : Rho} (a : At h0.length h R P rs A ps) (o : Old h0 h) (m : Mid L q k 0 prow A) (hk : k < A.length) (s : Sh ρ rs) :
    ∃ ρ2 h2 rs2, forL [] (.nm 5) body ((List.range A.length).map iw) ρ h = .next ρ2 h2 ∧ Sh ρ2 rs2 ∧ At h0.length h2 R P rs2 ((List.range A.length).foldl (cl prow j k) A) ps ∧ Old h0 h2 ∧ Mid L q k A.length prow ((List.range A.length).foldl (cl prow j k) A) := by
  have len : ∀ i, ((List.range i).foldl (cl prow j k) A).length = A.length := fun i => by
    induction i with
    | zero => rfl
    | succ i ih => rw [List.range_succ, List.foldl_append, List.foldl_cons, List.foldl_nil, cl_length, ih]
  obtain ⟨ρ2, h2, e, J⟩ := forL_inv (g := []) (T := .nm 5) (body := body)
    (fun ws ρ h => ∃ (i : Nat) (rs : List Nat), i ≤ A.length ∧ ws = (List.range' i (A.length - i)).map iw ∧ Sh ρ rs ∧ At h0.length h R P rs ((List.range i).foldl (cl prow j k) A) ps ∧ Old h0 h ∧ Mid L q k i prow ((List.range i).foldl (cl prow j k) A))
    (fun ws ρ h _ => gdOk_nil h)
    (fun w ws ρ h ⟨i, rs, hi, e, s, a, o, m⟩ => by
      have hlt : i < A.length := by
        rcases Nat.lt_or_ge i A.length with z | z
        · exact z
        · rw [show A.length - i = 0 by omega] at e
          cases e
      rw [show A.length - i = (A.length - (i + 1)) + 1 by omega, List.range'_succ, List.map_cons] at e
      injection e with e1 e2
      subst e1
      obtain ⟨s1, s2⟩ := sh5 ρ rs (iw i) s
      refine ⟨_, bind_nm 5 (iw i) ρ, ?_⟩
      obtain ⟨ρ2, h2, rs2, b1, b2, b3, b4⟩ := step a o m (by rw [len]; exact hlt) (by rw [len]; exact hk) s1 s2
      refine ⟨ρ2, h2, .inl b1, i + 1, rs2, by omega, e2, b2, ?_, b4, ?_⟩
      · rw [List.range_succ, List.foldl_append, List.foldl_cons, List.foldl_nil]
        exact b3
      · rw [List.range_succ, List.foldl_append, List.foldl_cons, List.foldl_nil]
        exact m.step (by rw [len]; exact hlt) hj)
    ((List.range A.length).map iw) ρ h ⟨0, rs, by omega, by rw [Nat.sub_zero, List.range_eq_range'], s, a, o, m⟩
  obtain ⟨i, rs2, hi, e2, s2, a2, o2, m2⟩ := J
  have z : i = A.length := by
    have q := congrArg List.length e2
    rw [List.length_map, List.length_range'] at q
    simp at q
    omega
  subst z
  exact ⟨ρ2, h2, rs2, e, s2, a2, o2, m2⟩
noncomputable def bodyB (call : CallT) : DenS := sSeq (sAsg (cIx (cIx (cVar 1) (cVar 5)) (cVar 3)) (gNm 8))
    (sSeq (sIf (tcAnd (tcCmp .NotEq (cVar 5) (cVar 4)) (tcCmp .NotEq (cIx (cVar 8) (cVal (.int 0))) (cVal (.int 0)))) (sSeq (sAsg (cFresh (cComp (cItR rng1 (cCons (cV1 lenV (cVar 7)) cNil)) [11] (.nm 11) cTrue (cCall call 2 "_law_less" (cCons (cIx (cIx (cVar 1) (cVar 5)) (cVar 11)) (cCons (cCall call 2 "_law_mul" (cCons (cVar 8) (cCons (cIx (cVar 7) (cVar 11)) cNil))) cNil))))) (gSx (cVar 1) (cVar 5)))
    sSkip) sSkip)
    sSkip)
def ShB (wT : Option W) (R P j k : Nat) (ρ : Rho) (rs : List Nat) : Prop := ∃ rl a5 a6 a8 a9 a10 a11, ρ = [wT, some (.ref R), some (.ref P), some (iw j), some (iw k), a5, a6, some (.ref rl), a8, a9, a10, a11] ∧ rs[k]? = some rl
theorem zip_range {n : Nat} {xs ys : List Fr} {F : Fr → Fr → Fr} (hx : xs.length = n) (hy : ys.length = n) : (List.range n).map (fun t => F (xs[t]?.getD (0, 1)) (ys[t]?.getD (0, 1))) = List.zipWith F xs ys := by
  refine List.ext_getElem (by simp [hx, hy]) fun i h1 h2 => ?_
  rw [List.getElem_map, List.getElem_range, List.getElem_zipWith]
  rw [List.length_map, List.length_range] at h1
  rw [List.getElem?_eq_getElem (by omega), List.getElem?_eq_getElem (by omega)]
  rfl
theorem get_d {xs : List Fr} {t : Nat} (h : t < xs.length) : xs[t]? = some (xs[t]?.getD (0, 1)) ∧ xs[t]?.getD (0, 1) ∈ xs := by
  rw [List.getElem?_eq_getElem h]
  exact ⟨rfl, List.getElem_mem h⟩
theorem inB {K : Nat} (hK : 35 ≤ K) {h0 h : Store} {R P i j k L q : Nat} {rs ps : List Nat} {A : List (List Fr)} {prow : List Fr} {wT : Option W} {ρ : Rho} (a : At h0.length h R P rs A ps) (o : Old h0 h) (m : Mid L q k i prow A) (hi : i < A.length) (hk : k < A.length) (hj : j < q) (hq : q ≤ 100) (hL : L ≤ 20000000)
    (s : ShB wT R P j k ρ rs) (hρ : ρ[5]? = some (some (iw i))) : ∃ ρ2 h2 rs2, bodyB (callK prg K) ρ h = .next ρ2 h2 ∧ ShB wT R P j k ρ2 rs2 ∧ At h0.length h2 R P rs2 (cl prow j k A i) ps ∧ Old h0 h2 := by
  obtain ⟨K, rfl⟩ : ∃ z, K = z + 1 := ⟨K - 1, by omega⟩
  obtain ⟨rl, a5, a6, a8, a9, a10, a11, rfl, hrl⟩ := s
  have e5 : a5 = some (iw i) := by simpa using hρ
  subst e5
  obtain ⟨r, hr, x1⟩ := a.ref hi
  obtain ⟨row, hrow⟩ : ∃ row, A[i]? = some row := ⟨_, List.getElem?_eq_getElem hi⟩
  obtain ⟨e1, e2⟩ := m.at_ (j := j) hrow hj
  have x2 := a.item hr hrow e1
  by_cases c1 : i = k
  · subst c1
    refine ⟨[wT, some (.ref R), some (.ref P), some (iw j), some (iw i), some (iw i), a6, some (.ref rl), some (fw (ent A i j)), a9, a10, a11], h, rs, ?_, ⟨_, _, _, _, _, _, _, rfl, hrl⟩, ?_, o⟩
    · simp [bodyB, iw, x1, x2]
    · unfold cl
      rw [if_neg (by simp)]
      exact a
  · by_cases c2 : (ent A i j).1 = 0
    · refine ⟨[wT, some (.ref R), some (.ref P), some (iw j), some (iw k), some (iw i), a6, some (.ref rl), some (fw (ent A i j)), a9, a10, a11], h, rs, ?_, ⟨_, _, _, _, _, _, _, rfl, hrl⟩, ?_, o⟩
      · simp [bodyB, iw, x1, x2, c1, c2, fw, Int.natCast_inj]
      · unfold cl
        rw [if_neg (by simp [nz, c2])]
        exact a
    · have g := m.todo i row (Nat.le_refl _) c1 hrow
      have hrl2 := m.len i row hrow
      have hpl := m.len k prow m.pk
      have lw := lst_own (a.row k rl prow hrl m.pk)
      have ll : lenV (.ref rl) h = some (.int (q : Int), h) := by
        show (lst? h rl).map _ = _
        rw [lw]
        simp [hpl]
      have cm : compL [] (.nm 11) cTrue (cCall (callK prg (K + 1)) 2 "_law_less" (cCons (cIx (cIx (cVar 1) (cVar 5)) (cVar 11)) (cCons (cCall (callK prg (K + 1)) 2 "_law_mul" (cCons (cVar 8) (cCons (cIx (cVar 7) (cVar 11)) cNil))) cNil)))
          [wT, some (.ref R), some (.ref P), some (iw j), some (iw k), some (iw i), a6, some (.ref rl), some (fw (ent A i j)), a9, a10, none] ((List.range q).map iw) [] h = .ok ((clearR row prow (ent A i j)).map fw) h := by
        have hl : (List.range q).length ≤ 16777216 := by
          rw [List.length_range]
          exact Nat.le_trans hq (by decide)
        rw [comp_map (f := fun t => fw (lessF (row[t]?.getD (0, 1)) (mulF (ent A i j) (prow[t]?.getD (0, 1))))) (List.range q) hl fun t ht => ?_]
        · unfold clearR
          rw [← zip_range (F := fun a b => lessF a (mulF (ent A i j) b)) hrl2 hpl, List.map_map]
          rfl
        · have ht := List.mem_range.mp ht
          obtain ⟨t1, t2⟩ := get_d (show t < row.length by rw [hrl2]; exact ht)
          obtain ⟨t3, t4⟩ := get_d (show t < prow.length by rw [hpl]; exact ht)
          have x3 := a.item hr hrow t1
          have x4 := a.item hrl m.pk t3
          have gp := g _ t2
          have gm := mulF_good (g _ e2) (m.pg _ t4)
          refine ⟨_, bind_nm _ _ _, rfl, ?_⟩
          simp only [iw]
          simp [x1, x3, x4, c_lmul K h (by omega) (g _ e2) (m.pg _ t4) (by omega), c_lless K h (by omega) gp gm (by omega)]
      have own := a.rows
      refine ⟨[wT, some (.ref R), some (.ref P), some (iw j), some (iw k), some (iw i), a6, some (.ref rl), some (fw (ent A i j)), a9, a10, a11], (h ++ [Ob.lst ((clearR row prow (ent A i j)).map fw)]).set R (.lst ((rs.map W.ref).set i (.ref h.length))), rs.set i h.length, ?_, ⟨_, _, _, _, _, _, _, rfl, by rw [List.getElem?_set_ne c1]; exact hrl⟩, ?_, ?_⟩
      · have z2 := own_app (t := [Ob.lst ((clearR row prow (ent A i j)).map fw)]) own
        have z3 : ixN rs.length (i : Int) = some i := ixN_nat' (by rw [a.len]; exact hi)
        have r1 : rng1 [.int (q : Int)] = some ((List.range q).map iw) := rng1_nat (Nat.lt_of_le_of_lt hq (by decide))
        simp only [iw] at cm r1 ⊢
        simp [bodyB, x1, x2, c1, c2, fw, Int.natCast_inj, ll, r1]
        simp only [fw] at cm
        simp [cm, z2, z3]
      · unfold cl
        rw [if_pos ⟨c1, by simp [nz, c2]⟩, hrow]
        exact a.new hi
      · exact (o.app _).set a.rn _
end K03
end
section
set_option Elab.async false
set_option linter.all false
set_option maxRecDepth 100000
set_option maxHeartbeats 2000000
namespace K03
open PySem PySem.Spec Wv L2
/-- the outer body, the law's -/
noncomputable def outB (call : CallT) : DenS := sSeq (sAsg (cV1 lenV (cVar 2)) (gNm 4))
    (sSeq (sAsg (cFresh (cComp (cItR rng2 (cCons (cVar 4) (cCons (cV1 lenV (cVar 1)) cNil))) [5] (.nm 5) (tcCmp .NotEq (cIx (cIx (cIx (cVar 1) (cVar 5)) (cVar 3)) (cVal (.int 0))) (cVal (.int 0))) (cVar 5))) (gNm 6))
    (sSeq (sIf (tcCmp .Gt (cV1 lenV (cVar 6)) (cVal (.int 0))) (sSeq (sAsg (cFresh (cComp (cItV (cIx (cVar 1) (cIx (cVar 6) (cVal (.int 0))))) [10] (.nm 10) cTrue (cCall call 2 "_law_over" (cCons (cVar 10) (cCons (cIx (cIx (cVar 1) (cIx (cVar 6) (cVal (.int 0)))) (cVar 3)) cNil))))) (gNm 7))
    (sSeq (sAsg (cIx (cVar 1) (cVar 4)) (gSx (cVar 1) (cIx (cVar 6) (cVal (.int 0)))))
    (sSeq (sAsg (cVar 7) (gSx (cVar 1) (cVar 4)))
    (sSeq (sFor (cItR rng1 (cCons (cV1 lenV (cVar 1)) cNil)) (.nm 5) (bodyB call))
    (sSeq (sExpr (cApp (cVar 2) (cVar 3)))
    sSkip))))) sSkip)
    sSkip))
theorem in_outB {K : Nat} (hK : 35 ≤ K) {h0' h : Store} {R P j L q : Nat} {rs ps : List Nat} {M : List (List Fr)} {wT : Option W} {ρ : Rho} (a : At h0'.length h R P rs M ps) (o : Old h0' h) (m : Mat L q M) (hj : j < q) (hq : q ≤ 100) (hn : M.length ≤ 1000) (hk : ps.length ≤ M.length)
    (hL : pivs M j ps.length ≠ [] → L ≤ 20000000) (s : ShO wT R P ρ) (hρ : ρ[3]? = some (some (iw j))) :
    ∃ ρ2 h2 rs2, outB (callK prg K) ρ h = .next ρ2 h2 ∧ ShO wT R P ρ2 ∧ At h0'.length h2 R P rs2 (elim1 (M, ps) j).1 (elim1 (M, ps) j).2 ∧ Old h0' h2 ∧ (elim1 (M, ps) j).1.length = M.length ∧ (elim1 (M, ps) j).2.length ≤ M.length ∧
      ((elim1 (M, ps) j).2.length = ps.length ∧ Mat L q (elim1 (M, ps) j).1 ∨ (elim1 (M, ps) j).2.length = ps.length + 1 ∧ Mat (4 * L + 1) q (elim1 (M, ps) j).1) := by
  obtain ⟨a3, a4, a5, a6, a7, a8, a9, a10, a11, rfl⟩ := s
  have e3 : a3 = some (iw j) := by simpa using hρ
  subst e3
  have c1 := at_comp (wT := wT) (k := ps.length) (a6 := a6) (a7 := a7) (a8 := a8) (a9 := a9) (a10 := a10) (a11 := a11) a m hj hn
  have r2 : rng2 [.int (ps.length : Int), .int (M.length : Int)] = some ((List.range' ps.length (M.length - ps.length)).map iw) := rng2_nat hk (by omega)
  have lR := a.lenR
  have lP := a.lenP
  simp only [iw] at c1
  cases q1 : pivs M j ps.length with
  | nil =>
    have el : elim1 (M, ps) j = (M, ps) := by
      unfold elim1
      dsimp only
      rw [q1]
    rw [el]
    rw [q1] at c1
    refine ⟨[wT, some (.ref R), some (.ref P), some (iw j), some (iw ps.length), a5, some (.ref h.length), a7, a8, a9, a10, a11], h ++ [Ob.lst []], rs, ?_, ⟨_, _, _, _, _, _, _, _, _, rfl⟩, a.app _, o.app _, rfl, hk, .inl ⟨rfl, m⟩⟩
    have l6 : lenV (.ref h.length) (h ++ [Ob.lst []]) = some (.int 0, h ++ [Ob.lst []]) := by
      show (lst? _ _).map _ = _
      rw [lst_own (own_new h [])]
      rfl
    simp only [List.map_nil] at c1
    simp only [iw]
    simp [outB, lP, lR, r2, c1, l6]
  | cons p t =>
    have pm : p ∈ pivs M j ps.length := by rw [q1]; exact List.mem_cons_self
    obtain ⟨p1, p2, p3⟩ := pivs_mem pm
    have hL := hL (by rw [q1]; simp)
    have hkM : ps.length < M.length := by omega
    have el : elim1 (M, ps) j = (elimS M j ps.length p, ps ++ [j]) := by
      unfold elim1
      dsimp only
      rw [q1]
    rw [el]
    obtain ⟨mk, k1, k2, k3, k4⟩ := m.row hkM
    obtain ⟨mp, v1, v2, v3, v4⟩ := m.row p2
    obtain ⟨v5, v6⟩ := m.at_ v1 hj
    obtain ⟨rk, hrk, xk⟩ := a.ref hkM
    obtain ⟨rp, hrp, xp⟩ := a.ref p2
    -- the list of places
    have b0 := a.app [Ob.lst ((p :: t).map iw)]
    have ow := own_new h ((p :: t).map iw)
    have nR : R ≠ h.length := Nat.ne_of_lt (own_lt a.rows)
    have nP : P ≠ h.length := Nat.ne_of_lt (own_lt a.piv)
    -- the new row
    have y2 := lst_own (b0.row p rp mp hrp v1)
    have y3 : itOf (h ++ [Ob.lst ((p :: t).map iw)]) (.ref rp) = some (mp.map fw, [(rp, mp.map fw)]) := by
      show (lst? _ rp).map _ = _
      rw [y2]
      rfl
    have h0 : (ent M p j).1 ≠ 0 := by
      unfold nz at p3
      simpa using p3
    obtain ⟨K, rfl⟩ : ∃ z, K = z + 1 := ⟨K - 1, by omega⟩
    have hmp : mp.length ≤ 16777216 := by rw [v3]; exact Nat.le_trans hq (by decide)
    have l6 : lenV (.ref h.length) (h ++ [Ob.lst ((p :: t).map iw)]) = some (.int ((p :: t).length : Int), h ++ [Ob.lst ((p :: t).map iw)]) := by
      show (lst? _ _).map _ = _
      rw [lst_own ow]
      simp
    have i6 : ixW (h ++ [Ob.lst ((p :: t).map iw)]) (.ref h.length) (.int 0) = some (iw p) := by
      show (match lst? _ _ with
        | some ws => atI ws 0
        | none => none) = _
      rw [lst_own ow]
      exact s_ix0 _ _
    obtain ⟨rp', hrp', xp'⟩ := b0.ref p2
    rw [hrp] at hrp'
    cases hrp'
    have y1 := b0.item hrp v1 v5
    have cm : compL [(rp, mp.map fw)] (.nm 10) cTrue (cCall (callK prg (K + 1)) 2 "_law_over" (cCons (cVar 10) (cCons (cIx (cIx (cVar 1) (cIx (cVar 6) (cVal (.int 0)))) (cVar 3)) cNil))) [wT, some (.ref R), some (.ref P), some (iw j), some (iw ps.length), a5, some (.ref h.length), a7, a8, a9, none, a11] (mp.map fw) [] (h ++ [Ob.lst ((p :: t).map iw)]) = .ok ((prowOf M j p).map fw) (h ++ [Ob.lst ((p :: t).map iw)]) := by
      rw [comp_mapG (f := fun x => fw (overF x (ent M p j))) (gdOk_one y2) mp hmp fun x hx => ?_]
      · unfold prowOf
        rw [v2, List.map_map]
        rfl
      · refine ⟨_, bind_nm _ _ _, rfl, ?_⟩
        simp only [iw] at *
        simp only [List.map_cons] at *
        simp [i6, xp', y1, c_lover K _ (by omega) (v4 x hx) v6 (by omega) h0]
    generalize hh1 : h ++ [Ob.lst ((p :: t).map iw)] = h1 at *
    have o1 : Old h0' h1 := by
      rw [← hh1]
      exact o.app _
    have l1 : h1.length = h.length + 1 := by
      rw [← hh1]
      simp
    have b1 := b0.app [Ob.lst ((prowOf M j p).map fw)]
    have ol := own_new h1 ((prowOf M j p).map fw)
    have nR1 : R ≠ h1.length := by
      have := own_lt a.rows
      omega
    have nP1 : P ≠ h1.length := by
      have := own_lt a.piv
      omega
    have b2 := b1.put p2 (b1.row ps.length rk mk hrk k1) (b1.ne hrk).1 (b1.ne hrk).2
    have ol2 := own_other (o := .lst ((rs.map W.ref).set p (.ref rk))) ol nR1
    have b3 := b2.put (i := ps.length) (r := h1.length) (m := prowOf M j p) (by rw [List.length_set]; exact hkM) ol2 nR1 nP1
    have M3 : (M.set p mk).set ps.length (prowOf M j p) = swapM M j ps.length p := by
      unfold swapM
      rw [k2]
    rw [M3] at b3
    have ow1 := own_app (t := [Ob.lst ((prowOf M j p).map fw)]) ow
    have i7 : ixW (h1 ++ [Ob.lst ((prowOf M j p).map fw)]) (.ref h.length) (.int 0) = some (iw p) := by
      show (match lst? _ _ with
        | some ws => atI ws 0
        | none => none) = _
      rw [lst_own ow1]
      exact s_ix0 _ _
    obtain ⟨rk', hrk', xk'⟩ := b1.ref hkM
    rw [hrk] at hrk'
    cases hrk'
    have w1 := b1.rows
    have w2 := b2.rows
    have n1 : ixN rs.length (ps.length : Int) = some ps.length := ixN_nat' (by rw [a.len]; exact hkM)
    have n2 : ixN rs.length (p : Int) = some p := ixN_nat' (by rw [a.len]; exact p2)
    have o3 : Old h0' (((h1 ++ [Ob.lst ((prowOf M j p).map fw)]).set R (.lst ((rs.map W.ref).set p (.ref rk)))).set R (.lst (((rs.set p rk).map W.ref).set ps.length (.ref h1.length)))) := ((o1.app _).set a.rn _).set a.rn _
    have hlk : ((rs.set p rk).set ps.length h1.length)[ps.length]? = some h1.length := by
      rw [List.getElem?_set_self (by rw [List.length_set, a.len]; exact hkM)]
    generalize hh3 : ((h1 ++ [Ob.lst ((prowOf M j p).map fw)]).set R (.lst ((rs.map W.ref).set p (.ref rk)))).set R (.lst (((rs.set p rk).map W.ref).set ps.length (.ref h1.length))) = h3 at b3 o3
    have hh3' : (h1 ++ [Ob.lst ((prowOf M j p).map fw)]).set R (.lst (((rs.map W.ref).set p (.ref rk)).set ps.length (.ref h1.length))) = h3 := by rw [← hh3, List.set_set, map_set_ref]
    obtain ⟨ρ4, h4, rs4, f1, f2, f3, f4, f5⟩ := clear_loopB (Sh := ShB wT R P j ps.length) hj (fun ρ rs w ⟨rl, a5, a6, a8, a9, a10, a11, e, e2⟩ => by
        subst e
        exact ⟨⟨_, _, _, _, _, _, _, rfl, e2⟩, rfl⟩)
      (fun {h rs A i ρ} a o m hi hk s hρ => inB hK a o m hi hk hj hq hL s hρ) b3 o3 (mid0 m p1 p2 hj p3) (by rw [swap_len]; exact hkM) (ρ := [wT, some (.ref R), some (.ref P), some (iw j), some (iw ps.length), a5, some (.ref h.length), some (.ref h1.length), a8, a9, a10, a11]) ⟨_, _, _, _, _, _, _, rfl, hlk⟩
    obtain ⟨rl, d5, d6, d8, d9, d10, d11, rfl, _⟩ := f2
    have f6 := f3.push j
    have ll := f3.piv
    have l3 := b3.lenR
    rw [swap_len] at l3 f1 f3 f5 f6
    have r1 : rng1 [.int (M.length : Int)] = some ((List.range M.length).map iw) := rng1_nat (Nat.lt_of_le_of_lt hn (by decide))
    have lr : lstRef h4 (.ref P) = some P := by
      show (lst? h4 P).map _ = _
      rw [lst_own ll]
      rfl
    have pl : ps.length < 16777216 := Nat.lt_of_le_of_lt hk (Nat.lt_of_le_of_lt hn (by decide))
    refine ⟨[wT, some (.ref R), some (.ref P), some (iw j), some (iw ps.length), d5, d6, some (.ref rl), d8, d9, d10, d11], h4.set P (.lst (ps.map iw ++ [iw j])), rs4, ?_, ⟨_, _, _, _, _, _, _, _, _, rfl⟩, f6, f4.set a.pn _, ?_, ?_, .inr ⟨by simp, mid_mat f5⟩⟩
    · rw [q1] at c1
      simp only [iw] at *
      simp only [List.map_cons] at *
      simp [outB, lP, lR, r2, c1, hh1, l6, i6, xp', y3, cm, xk', i7, w1, w2, n1, n2, hh3', l3, r1, f1, lr, ll, pl]
    · show ((List.range M.length).foldl (cl (prowOf M j p) j ps.length) (swapM M j ps.length p)).length = M.length
      have len : ∀ i, ((List.range i).foldl (cl (prowOf M j p) j ps.length) (swapM M j ps.length p)).length = M.length := fun i => by
        induction i with
        | zero => exact swap_len
        | succ i ih => rw [List.range_succ, List.foldl_append, List.foldl_cons, List.foldl_nil, cl_length, ih]
      exact len _
    · show (ps ++ [j]).length ≤ M.length
      rw [List.length_append]
      exact hkM
end K03
end
section
set_option Elab.async false
set_option linter.all false
set_option maxRecDepth 100000
set_option maxHeartbeats 2000000
namespace K03
open PySem PySem.Spec Wv L2
def bits (L : Nat) : Nat → Nat
  | 0 => L
  | s + 1 => 4 * bits L s + 1
def elimT (M : List (List Fr)) (i : Nat) : List (List Fr) × List Nat := (List.range i).foldl elim1 (M, [])
theorem elimT_succ (M : List (List Fr)) (i : Nat) : elimT M (i + 1) = elim1 (elimT M i) i := by
  unfold elimT
  rw [List.range_succ, List.foldl_append, List.foldl_cons, List.foldl_nil]
theorem pivs_lt {M : List (List Fr)} {j k : Nat} (h : pivs M j k ≠ []) : k < M.length := by
  obtain ⟨p, t, e⟩ := List.exists_cons_of_ne_nil h
  obtain ⟨a, b, _⟩ := pivs_mem (show p ∈ pivs M j k by rw [e]; exact List.mem_cons_self)
  omega
/-- what one turn does, and all turns -/
theorem elim_loop {body : DenS} {h0 : Store} {R P L q : Nat} {wT : Option W} {M : List (List Fr)} (hn : M.length ≤ 1000) (hB : ∀ s, s < M.length → s < q → bits L s ≤ 20000000)
    (step : ∀ {h : Store} {j L : Nat} {rs ps : List Nat} {M : List (List Fr)} {ρ : Rho}, At h0.length h R P rs M ps → Old h0 h → Mat L q M → j < q → M.length ≤ 1000 → ps.length ≤ M.length → (pivs M j ps.length ≠ [] → L ≤ 20000000) → ShO wT R P ρ → ρ[3]? = some (some (iw j)) →
      ∃ ρ2 h2 rs2, body ρ h = .next ρ2 h2 ∧ ShO wT R P ρ2 ∧ At h0.length h2 R P rs2 (elim1 (M, ps) j).1 (elim1 (M, ps) j).2 ∧ Old h0 h2 ∧ (elim1 (M, ps) j).1.length = M.length ∧ (elim1 (M, ps) j).2.length ≤ M.length ∧
        ((elim1 (M, ps) j).2.length = ps.length ∧ Mat L q (elim1 (M, ps) j).1 ∨ (elim1 (M, ps) j).2.length = ps.length + 1 ∧ Mat (4 * L + 1) q (elim1 (M, ps) j).1))
    {h : Store} {rs : List Nat} {ρ : Rho} (a : At h0.length h R P rs M []) (o : Old h0 h) (m : Mat L q M) (s : ShO wT R P ρ) :
    ∃ ρ2 h2 rs2, forL [] (.nm 3) body ((List.range q).map iw) ρ h = .next ρ2 h2 ∧ ShO wT R P ρ2 ∧ At h0.length h2 R P rs2 (elimT M q).1 (elimT M q).2 ∧ Old h0 h2 ∧ (elimT M q).1.length = M.length ∧ (elimT M q).2.length ≤ M.length ∧ (elimT M q).2.length ≤ q ∧ Mat (bits L (elimT M q).2.length) q (elimT M q).1 := by
  obtain ⟨ρ2, h2, e, J⟩ := forL_inv (g := []) (T := .nm 3) (body := body)
    (fun ws ρ h => ∃ (i : Nat) (rs : List Nat), i ≤ q ∧ ws = (List.range' i (q - i)).map iw ∧ ShO wT R P ρ ∧ At h0.length h R P rs (elimT M i).1 (elimT M i).2 ∧ Old h0 h ∧ (elimT M i).1.length = M.length ∧ (elimT M i).2.length ≤ M.length ∧ (elimT M i).2.length ≤ i ∧ Mat (bits L (elimT M i).2.length) q (elimT M i).1)
    (fun ws ρ h _ => gdOk_nil h)
    (fun w ws ρ h ⟨i, rs, hi, e, s, a, o, n1, n2, n3, m⟩ => by
      have hlt : i < q := by
        rcases Nat.lt_or_ge i q with z | z
        · exact z
        · rw [show q - i = 0 by omega] at e
          cases e
      rw [show q - i = (q - (i + 1)) + 1 by omega, List.range'_succ, List.map_cons] at e
      injection e with e1 e2
      subst e1
      obtain ⟨a3, a4, a5, a6, a7, a8, a9, a10, a11, rfl⟩ := s
      refine ⟨_, bind_nm 3 (iw i) _, ?_⟩
      obtain ⟨ρ2, h2, rs2, b1, b2, b3, b4, b5, b6, b7⟩ := step a o m hlt (by rw [n1]; exact hn) (by rw [n1]; exact n2) (fun hp => by
        have := pivs_lt hp
        exact hB _ (by omega) (by omega)) (ρ := [wT, some (.ref R), some (.ref P), a3, a4, a5, a6, a7, a8, a9, a10, a11].set 3 (some (iw i))) ⟨_, _, _, _, _, _, _, _, _, rfl⟩ rfl
      have es : elim1 ((elimT M i).1, (elimT M i).2) i = elimT M (i + 1) := (elimT_succ M i).symm
      rw [es] at b3 b5 b6 b7
      refine ⟨ρ2, h2, .inl b1, i + 1, rs2, by omega, e2, b2, b3, b4, b5.trans n1, by rw [n1] at b6; exact b6, ?_, ?_⟩
      · rcases b7 with ⟨z, _⟩ | ⟨z, _⟩ <;> omega
      · rcases b7 with ⟨z, y⟩ | ⟨z, y⟩
        · rw [z]
          exact y
        · rw [z]
          exact y)
    ((List.range q).map iw) ρ h ⟨0, rs, by omega, by rw [Nat.sub_zero, List.range_eq_range'], s, a, o, rfl, Nat.zero_le _, Nat.zero_le _, m⟩
  obtain ⟨i, rs2, hi, e2, s2, a2, o2, n1, n2, n3, m2⟩ := J
  have z : i = q := by
    have y := congrArg List.length e2
    rw [List.length_map, List.length_range'] at y
    simp at y
    omega
  subst z
  exact ⟨ρ2, h2, rs2, e, s2, a2, o2, n1, n2, n3, m2⟩
/-- rows copied into lists -/
theorem comp_copy {g : Gd} {s : Nat} {ρ0 : Rho} (hs : s < ρ0.length) {h : Store} (hg : ∀ t, gdOk g (h ++ t)) : ∀ (xs : List (List Fr)) (acc : List W) (t : Store), acc.length + xs.length ≤ 1000 →
    compL g (.nm s) cTrue (cFresh (cListQ (cSeqV (cVar s)))) ρ0 (xs.map rw) acc (h ++ t) = .ok (acc ++ (List.range' (h ++ t).length xs.length).map W.ref) (h ++ t ++ xs.map fun r => Ob.lst (r.map fw))
  | [], acc, t, _ => by
    rw [List.map_nil]
    unfold compL
    rw [if_pos (hg t)]
    simp
  | r :: xs, acc, t, hl => by
    rw [List.length_cons] at hl
    rw [List.map_cons]
    unfold compL
    rw [if_pos (hg t), bind_nm]
    have e : cFresh (cListQ (cSeqV (cVar s))) (ρ0.set s (some (rw r))) (h ++ t) = .ok (.ref (h ++ t).length) (h ++ t ++ [Ob.lst (r.map fw)]) := by
      simp [rw, List.getElem?_set_self hs]
    dsimp only
    rw [a_true]
    dsimp only
    rw [e]
    dsimp only
    rw [if_pos (by omega), List.append_assoc h t, comp_copy hs hg xs (acc ++ [W.ref (h ++ t).length]) (t ++ [Ob.lst (r.map fw)]) (by rw [List.length_append]; simp; omega)]
    rw [List.length_cons, List.range'_succ, List.map_cons, List.map_cons]
    simp [Nat.add_assoc]
/-- at the start -/
theorem at_start (h : Store) (M : List (List Fr)) : At h.length (h ++ (M.map fun r => Ob.lst (r.map fw)) ++ [Ob.lst ((List.range' h.length M.length).map W.ref)] ++ [Ob.lst []]) (h.length + M.length) (h.length + M.length + 1) (List.range' h.length M.length) M [] := by
  refine ⟨?_, by rw [List.length_range'], fun i r m h1 h2 => ?_, ?_, by omega, fun z => ?_, fun z => ?_, by omega, by omega⟩
  · refine own_app ?_
    have := own_new (h ++ (M.map fun r => Ob.lst (r.map fw))) ((List.range' h.length M.length).map W.ref)
    rw [List.length_append, List.length_map] at this
    exact this
  · have hi : i < M.length := (List.getElem?_eq_some_iff.mp h2).1
    rw [List.getElem?_range' hi] at h1
    have e : h.length + 1 * i = r := Option.some.inj h1
    refine own_app (own_app ?_)
    unfold own?
    rw [← e, Nat.one_mul, List.getElem?_append_right (by omega), Nat.add_sub_cancel_left, List.getElem?_map, h2]
    rfl
  · have := own_new (h ++ (M.map fun r => Ob.lst (r.map fw)) ++ [Ob.lst ((List.range' h.length M.length).map W.ref)]) []
    rw [List.length_append, List.length_append, List.length_map] at this
    exact this
  · rw [List.mem_range'_1] at z
    omega
  · rw [List.mem_range'_1] at z
    omega
end K03
end
section
set_option Elab.async false
set_option linter.all false
set_option maxRecDepth 100000
set_option maxHeartbeats 2000000
namespace K03
open PySem PySem.Spec Wv L2
/-- what may be reduced: a table, or a fresh list of rows -/
structure InT (K : Nat) (w : W) (h : Store) (M : List (List Fr)) (q : Nat) : Prop where
  it : ∃ g, itOf h w = some (M.map rw, g) ∧ ∀ t, gdOk g (h ++ t)
  wd : ∀ t, callK prg K "width_of" [w] (h ++ t) = .ok (.int (q : Int)) (h ++ t)
theorem inT_tab {K q : Nat} (hK : 1 ≤ K) {h : Store} {r : List Fr} {M : List (List Fr)} (hr : r.length = q) : InT K (tw (r :: M)) h (r :: M) q := by
  obtain ⟨K, rfl⟩ : ∃ z, K = z + 1 := ⟨K - 1, by omega⟩
  exact ⟨⟨[], rfl, fun t => gdOk_nil _⟩, fun t => by rw [c_width, hr]⟩
theorem inT_lst {K q n : Nat} (hK : 1 ≤ K) {h : Store} {r : List Fr} {M : List (List Fr)} (hr : r.length = q) (e : own? h n = some ((r :: M).map rw)) : InT K (.ref n) h (r :: M) q := by
  obtain ⟨K, rfl⟩ : ∃ z, K = z + 1 := ⟨K - 1, by omega⟩
  refine ⟨⟨[(n, (r :: M).map rw)], by show (lst? h n).map _ = _; rw [lst_own e]; rfl, fun t => gdOk_one (lst_own (own_app e))⟩, fun t => ?_⟩
  have l := lst_own (own_app (t := t) e)
  have l1 : lenV (.ref n) (h ++ t) = some (.int ((r :: M).length : Int), h ++ t) := by
    show (lst? _ _).map _ = _
    rw [l]
    simp
  have l2 : ixW (h ++ t) (.ref n) (.int 0) = some (rw r) := by
    show (match lst? _ _ with
      | some ws => atI ws 0
      | none => none) = _
    rw [l]
    exact s_ix0 _ _
  rw [k_width_of]
  simp [b_width_of, startR, l1, l2, rw, hr, cutR_same]
/-- the reduced rows and the pivots, as the program leaves them -/
structure Red (h h2 : Store) (N P : Nat) (A : List (List Fr)) (ps : List Nat) : Prop where
  old : Old h h2
  rows : ∃ rs : List Nat, own? h2 N = some (rs.map W.ref) ∧ rs.length = A.length ∧ ∀ (i r : Nat) (m : List Fr), rs[i]? = some r → A[i]? = some m → own? h2 r = some (m.map fw)
  piv : own? h2 P = some (ps.map iw)
  nn : h.length ≤ N
  np : h.length ≤ P
theorem cutR_keep {w : W} {h h1 : Store} (b : belowW h.length w = false) : cutR h w h1 = .ok w h1 := by
  unfold cutR
  rw [if_neg (by rw [b]; simp)]
theorem c_reduced {K L q : Nat} (hK : 35 ≤ K) {w : W} {h : Store} {M : List (List Fr)} (hin : InT K w h M q) (m : Mat L q M) (hq : q ≤ 100) (hn : M.length ≤ 100) (hB : ∀ s, s < M.length → s < q → bits L s ≤ 20000000) :
    ∃ h2 N P, callK prg (K + 1) "reduced_of" [w] h = .ok (.tup [.ref N, .ref P]) h2 ∧ Red h h2 N P ((elimT M q).1.take (elimT M q).2.length) (elimT M q).2 ∧ (elimT M q).2.length ≤ M.length ∧ (elimT M q).1.length = M.length ∧ (elimT M q).2.length ≤ q ∧ Mat (bits L (elimT M q).2.length) q (elimT M q).1 := by
  obtain ⟨⟨g, i1, i2⟩, wd⟩ := hin
  have hn' : M.length ≤ 1000 := Nat.le_trans hn (by decide)
  have c0 := comp_copy (s := 8) (ρ0 := [some w, none, none, none, none, none, none, none, none, none, none, none]) (by simp) i2 M [] [] (by rw [List.length_nil]; omega)
  simp only [List.append_nil, List.nil_append] at c0
  have st := at_start h M
  have wd1 := wd (M.map (fun r => Ob.lst (r.map fw)) ++ ([Ob.lst ((List.range' h.length M.length).map W.ref)] ++ [Ob.lst []]))
  simp only [List.append_assoc, List.cons_append, List.nil_append] at st wd1
  generalize hs : h ++ (M.map (fun r => Ob.lst (r.map fw)) ++ [Ob.lst ((List.range' h.length M.length).map W.ref), Ob.lst []]) = h3 at st wd1
  obtain ⟨R', hR⟩ : ∃ R', h.length + M.length = R' := ⟨_, rfl⟩
  obtain ⟨P', hP⟩ : ∃ P', h.length + M.length + 1 = P' := ⟨_, rfl⟩
  have hP' : h.length + (M.length + 1) = P' := hP
  rw [hP, hR] at st
  obtain ⟨ρ2, h4, rs2, f1, f2, f3, f4, f5, f6, f7, f8⟩ := elim_loop (body := outA (callK prg K)) (wT := some w) (h0 := h) hn' hB (fun {h j L rs ps M ρ} a o m hj hn hk hL s hρ => in_outA hK a o m hj hq hn hk hL s hρ) st ⟨_, hs.symm⟩ m (ρ := [some w, some (.ref R'), some (.ref P'), none, none, none, none, none, none, none, none, none]) ⟨_, _, _, _, _, _, _, _, _, rfl⟩
  obtain ⟨a3, a4, a5, a6, a7, a8, a9, a10, a11, rfl⟩ := f2
  have r1 : rng1 [.int (q : Int)] = some ((List.range q).map iw) := rng1_nat (Nat.lt_of_le_of_lt hq (by decide))
  have lP := f3.lenP
  have sl : slW h4 (.ref R') none (some ((elimT M q).2.length : Int)) = some (.ref h4.length, h4 ++ [Ob.lst ((rs2.take (elimT M q).2.length).map W.ref)]) := by
    show (match lst? h4 _ with
      | some ws => some (W.ref h4.length, h4 ++ [Ob.lst (cutW ws none (some _))])
      | none => none) = _
    rw [lst_own f3.rows]
    have e1 : HT.sIx (rs2.map W.ref).length (rs2.map W.ref).length (some ((elimT M q).2.length : Int)) = (elimT M q).2.length := by
      rw [HT.sIx_nat, List.length_map, f3.len, f5]
      exact Nat.min_eq_left f6
    simp only [cutW, e1, HT.sIx_none, List.drop_zero, Nat.sub_zero, List.map_take]
  have hl4 : R' < h4.length := own_lt f3.rows
  refine ⟨h4 ++ [Ob.lst ((rs2.take (elimT M q).2.length).map W.ref)], h4.length, P', ?_, ⟨f4.app _, ⟨rs2.take (elimT M q).2.length, own_new _ _, ?_, fun i r m h1 h2 => ?_⟩, own_app f3.piv, by omega, by omega⟩, f6, f5, f7, f8⟩
  · rw [k_reduced_of]
    have eb : b_reduced_of (callK prg K) (decide (32 ≤ K)) = sSeq (sAsg (cTup (cCons (cFresh (cComp (cItV (cVar 0)) [8] (.nm 8) cTrue (cFresh (cListQ (cSeqV (cVar 8)))))) (cCons (cFresh (cLst cNil)) cNil))) (gTp 2 (gsCons (gNm 1) (gsCons (gNm 2) gsNil))))
        (sSeq (sFor (cItR rng1 (cCons (cCall (callK prg K) 1 "width_of" (cCons (cVar 0) cNil)) cNil)) (.nm 3) (outA (callK prg K)))
        (sSeq (sRet (cTup (cCons (cSl (cVar 1) cNoPart (cPart (cV1 lenV (cVar 2)))) (cCons (cVar 2) cNil)))) sSkip)) := rfl
    rw [eb]
    simp [startR, i1, c0, hs, wd1, r1, hR, hP', f1, lP]
    simp only [List.map_take] at sl
    simp [sl]
    rw [cutR_keep]
    simp [belowW, belowWs]
    omega
  · rw [List.length_take, List.length_take, f3.len]
  · rw [List.getElem?_take] at h1 h2
    split at h1
    · rename_i c
      rw [if_pos c] at h2
      exact own_app (f3.row i r m h1 h2)
    · cases h1
end K03
end
section
set_option Elab.async false
set_option linter.all false
set_option maxRecDepth 100000
set_option maxHeartbeats 2000000
namespace K03
open PySem PySem.Spec Wv L2
/-- the pivots, as the law leaves them -/
structure RedB (h h2 : Store) (P : Nat) (ps : List Nat) : Prop where
  old : Old h h2
  piv : own? h2 P = some (ps.map iw)
  np : h.length ≤ P
theorem tq (b : Bool) (ws : List W) (h : Store) : Out.of (tupQ b ws h) = .ok (.tup ws) h := id rfl
def tupAt (h : Store) (r : Nat) : W := match lst? h r with
  | some ws => .tup ws
  | none => .non
/-- rows told as tuples -/
theorem comp_tell {s N : Nat} {ρ0 : Rho} (hs : s < ρ0.length) {h : Store} {rs : List Nat} {A : List (List Fr)} (e : own? h N = some (rs.map W.ref)) (hl : rs.length = A.length) (h1000 : A.length ≤ 1000) (ha : ∀ (i r : Nat) (m : List Fr), rs[i]? = some r → A[i]? = some m → own? h r = some (m.map fw)) :
    compL [(N, rs.map W.ref)] (.nm s) cTrue (cQ1 tupQ (cSeqV (cVar s))) ρ0 (rs.map W.ref) [] h = .ok (A.map rw) h := by
  have hl2 : rs.length ≤ 16777216 := by
    rw [hl]
    exact Nat.le_trans h1000 (by decide)
  rw [comp_mapG (f := tupAt h) (gdOk_one (lst_own e)) rs hl2 fun r hr => ?_]
  · refine congrArg (fun z => Out.ok z h) (List.ext_getElem (by simp [hl]) fun i h1 h2 => ?_)
    rw [List.getElem_map, List.getElem_map]
    rw [List.length_map] at h1 h2
    have := ha i rs[i] A[i] (List.getElem?_eq_getElem h1) (List.getElem?_eq_getElem h2)
    unfold tupAt
    rw [lst_own this]
    rfl
  · obtain ⟨i, hi, e2⟩ := List.getElem_of_mem hr
    have hA : i < A.length := by rw [← hl]; exact hi
    have l := lst_own (ha i r A[i] (by rw [List.getElem?_eq_getElem hi, e2]) (List.getElem?_eq_getElem hA))
    refine ⟨_, bind_nm _ _ _, rfl, ?_⟩
    have sq : seqOf h (.ref r) = some (false, A[i].map fw) := by
      show (lst? h r).map _ = _
      rw [l]
      rfl
    have ta : tupAt h r = .tup (A[i].map fw) := by
      unfold tupAt
      rw [l]
    rw [ta]
    simp [List.getElem?_set_self hs, sq, tq]
theorem c_lsteps {K L q : Nat} (hK : 35 ≤ K) {h : Store} {r0 : List Fr} {M0 : List (List Fr)} (m : Mat L q (r0 :: M0)) (hq : q ≤ 100) (hn : (r0 :: M0).length ≤ 100) (hB : ∀ s, s < (r0 :: M0).length → s < q → bits L s ≤ 20000000) :
    ∃ h2 P, callK prg (K + 1) "_law_steps" [tw (r0 :: M0)] h = .ok (.tup [tw ((elimT (r0 :: M0) q).1.take (elimT (r0 :: M0) q).2.length), .ref P]) h2 ∧ RedB h h2 P (elimT (r0 :: M0) q).2 := by
  have hr0 : r0.length = q := m.len r0 List.mem_cons_self
  generalize hM : r0 :: M0 = M at *
  have hn' : M.length ≤ 1000 := Nat.le_trans hn (by decide)
  have ix : atI (M.map rw) 0 = some (rw r0) := by
    rw [← hM]
    exact s_ix0 _ _
  have c0 := comp_copy (g := []) (h := h) (s := 9) (ρ0 := [some (tw M), none, none, none, none, none, none, none, none, none, none, none]) (by simp) (fun t => gdOk_nil _) M [] [] (by rw [List.length_nil]; omega)
  simp only [List.append_nil, List.nil_append] at c0
  have st := at_start h M
  simp only [List.append_assoc, List.cons_append, List.nil_append] at st
  generalize hs : h ++ (M.map (fun r => Ob.lst (r.map fw)) ++ [Ob.lst ((List.range' h.length M.length).map W.ref), Ob.lst []]) = h3 at st
  obtain ⟨R', hR⟩ : ∃ R', h.length + M.length = R' := ⟨_, rfl⟩
  obtain ⟨P', hP⟩ : ∃ P', h.length + M.length + 1 = P' := ⟨_, rfl⟩
  have hP' : h.length + (M.length + 1) = P' := hP
  rw [hP, hR] at st
  obtain ⟨ρ2, h4, rs2, f1, f2, f3, f4, f5, f6, f7, f8⟩ := elim_loop (body := outB (callK prg K)) (wT := some (tw M)) (h0 := h) hn' hB (fun {h j L rs ps M ρ} a o m hj hn hk hL s hρ => in_outB hK a o m hj hq hn hk hL s hρ) st ⟨_, hs.symm⟩ m (ρ := [some (tw M), some (.ref R'), some (.ref P'), none, none, none, none, none, none, none, none, none]) ⟨_, _, _, _, _, _, _, _, _, rfl⟩
  obtain ⟨a3, a4, a5, a6, a7, a8, a9, a10, a11, rfl⟩ := f2
  have r1 : rng1 [.int (q : Int)] = some ((List.range q).map iw) := rng1_nat (Nat.lt_of_le_of_lt hq (by decide))
  have lP := f3.lenP
  have sl : slW h4 (.ref R') none (some ((elimT M q).2.length : Int)) = some (.ref h4.length, h4 ++ [Ob.lst ((rs2.take (elimT M q).2.length).map W.ref)]) := by
    show (match lst? h4 _ with
      | some ws => some (W.ref h4.length, h4 ++ [Ob.lst (cutW ws none (some _))])
      | none => none) = _
    rw [lst_own f3.rows]
    have e1 : HT.sIx (rs2.map W.ref).length (rs2.map W.ref).length (some ((elimT M q).2.length : Int)) = (elimT M q).2.length := by
      rw [HT.sIx_nat, List.length_map, f3.len, f5]
      exact Nat.min_eq_left f6
    simp only [cutW, e1, HT.sIx_none, List.drop_zero, Nat.sub_zero, List.map_take]
  have hl4 : R' < h4.length := own_lt f3.rows
  have on := own_new h4 ((rs2.take (elimT M q).2.length).map W.ref)
  have tell := comp_tell (s := 9) (ρ0 := [some (tw M), some (.ref R'), some (.ref P'), a3, a4, a5, a6, a7, a8, none, a10, a11]) (by simp) on (A := (elimT M q).1.take (elimT M q).2.length) (by rw [List.length_take, List.length_take, f3.len]) (by rw [List.length_take, f5]; exact Nat.le_trans (Nat.min_le_right _ _) hn') (fun i r m h1 h2 => by
    rw [List.getElem?_take] at h1 h2
    split at h1
    · rename_i c
      rw [if_pos c] at h2
      exact own_app (f3.row i r m h1 h2)
    · cases h1)
  have it : itOf (h4 ++ [Ob.lst ((rs2.take (elimT M q).2.length).map W.ref)]) (.ref h4.length) = some ((rs2.take (elimT M q).2.length).map W.ref, [(h4.length, (rs2.take (elimT M q).2.length).map W.ref)]) := by
    show (lst? _ _).map _ = _
    rw [lst_own on]
    rfl
  refine ⟨h4 ++ [Ob.lst ((rs2.take (elimT M q).2.length).map W.ref)], P', ?_, ⟨f4.app _, own_app f3.piv, by omega⟩⟩
  rw [k__law_steps]
  have eb : b__law_steps (callK prg K) (decide (32 ≤ K)) = sSeq (sAsg (cTup (cCons (cFresh (cComp (cItV (cVar 0)) [9] (.nm 9) cTrue (cFresh (cListQ (cSeqV (cVar 9)))))) (cCons (cFresh (cLst cNil)) cNil))) (gTp 2 (gsCons (gNm 1) (gsCons (gNm 2) gsNil))))
      (sSeq (sFor (cItR rng1 (cCons (cV1 lenV (cIx (cVar 0) (cVal (.int 0)))) cNil)) (.nm 3) (outB (callK prg K)))
      (sSeq (sRet (cTup (cCons (cQ1 tupQ (cSeqF (cComp (cItV (cSl (cVar 1) cNoPart (cPart (cV1 lenV (cVar 2))))) [9] (.nm 9) cTrue (cQ1 tupQ (cSeqV (cVar 9)))))) (cCons (cVar 2) cNil)))) sSkip)) := rfl
  rw [eb]
  simp only [tw] at c0 f1 tell ⊢
  simp [startR, c0, hs, ix, rw, hr0, r1, hR, hP', f1, lP]
  simp only [List.map_take] at sl it tell ⊢
  simp [sl, it, tell, tq]
  rw [cutR_keep]
  simp [belowW, belowWs]
  omega
end K03
end
section
set_option Elab.async false
set_option linter.all false
set_option maxRecDepth 100000
set_option maxHeartbeats 2000000
namespace K03
open PySem PySem.Spec Wv L2
theorem tab_mat {L q : Nat} {T : List (List Fr)} (t : Tab L q T) : Mat L q T := ⟨t.len, t.good⟩
/-- a table whose reduction stays within the bounds -/
structure Fit (L q : Nat) (T : List (List Fr)) : Prop where
  tab : Tab L q T
  few : L ≤ 1000000000
  bits : ∀ s, s < T.length → s < q → bits L s ≤ 20000000
abbrev rkOf (T : List (List Fr)) (q : Nat) : Nat := (elimT T q).2.length
abbrev redOf (T : List (List Fr)) (q : Nat) : List (List Fr) := (elimT T q).1.take (elimT T q).2.length
section
variable {K L q : Nat} (hK : 40 ≤ K) {r : List Fr} {T : List (List Fr)} (f : Fit L q (r :: T)) (h : Store)
include hK f
theorem red_here {j : Nat} (hj : 36 ≤ j) : ∃ h2 N P, callK prg j "reduced_of" [tw (r :: T)] h = .ok (.tup [.ref N, .ref P]) h2 ∧ Red h h2 N P (redOf (r :: T) q) (elimT (r :: T) q).2 ∧ rkOf (r :: T) q ≤ (r :: T).length ∧ (elimT (r :: T) q).1.length = (r :: T).length ∧ rkOf (r :: T) q ≤ q ∧ Mat (bits L (rkOf (r :: T) q)) q (elimT (r :: T) q).1 := by
  obtain ⟨j, rfl⟩ : ∃ z, j = z + 1 := ⟨j - 1, by omega⟩
  have q40 := f.tab.q40
  have few := f.tab.few
  exact c_reduced (by omega) (inT_tab (by omega) (f.tab.len r List.mem_cons_self)) (tab_mat f.tab) (by omega) (by omega) f.bits
theorem c_rank : callK prg (K + 1) "table_rank" [tw (r :: T)] h = .ok (iw (rkOf (r :: T) q)) h := by
  obtain ⟨k, rfl⟩ : ∃ z, K = z + 4 := ⟨K - 4, by omega⟩
  obtain ⟨h2, N, P, e, R, _⟩ := red_here (by omega) f h (j := k + 4) (by omega) (K := k + 4)
  have l : lenV (.ref P) h2 = some (iw (rkOf (r :: T) q), h2) := by
    show (lst? h2 P).map _ = _
    rw [lst_own R.piv]
    simp [iw]
  obtain ⟨t, rfl⟩ := R.old
  rw [k_table_rank]
  simp [b_table_rank, startR, c_check k h f.few f.tab, e, l]
  exact cutR_app rfl
theorem c_tred : callK prg (K + 1) "table_reduced" [tw (r :: T)] h = .ok (tw (redOf (r :: T) q)) h := by
  obtain ⟨k, rfl⟩ : ∃ z, K = z + 4 := ⟨K - 4, by omega⟩
  obtain ⟨h2, N, P, e, R, n1, n2, _⟩ := red_here (by omega) f h (j := k + 4) (by omega) (K := k + 4)
  obtain ⟨rs, a1, a2, a3⟩ := R.rows
  have few := f.tab.few
  have tell := comp_tell (s := 1) (ρ0 := [some (tw (r :: T)), none]) (by simp) a1 a2 (by
    rw [List.length_take, n2]
    exact Nat.le_trans (Nat.min_le_right _ _) (Nat.le_trans few (by decide))) a3
  have it : itOf h2 (.ref N) = some (rs.map W.ref, [(N, rs.map W.ref)]) := by
    show (lst? h2 N).map _ = _
    rw [lst_own a1]
    rfl
  obtain ⟨t, rfl⟩ := R.old
  rw [k_table_reduced]
  simp [b_table_reduced, startR, c_check k h f.few f.tab, e, it, tell, tq]
  rw [cutR_app]
  · simp [tw, redOf]
  · refine flat_below _ _ ?_
    simp only [← List.map_take]
    exact flatR_tup (fun m => flatR_tup (fun x => rfl) m) _
end
end K03
end
section
set_option Elab.async false
set_option linter.all false
set_option maxRecDepth 100000
set_option maxHeartbeats 2000000
namespace K03
open PySem PySem.Spec Wv L2
def setK (j : Nat) (x : List Fr) (p : List Fr × Nat) : List Fr := x.set p.2 (lessF (0, 1) ((p.1[j]?).getD (0, 1)))
def startK (q j : Nat) : List Fr := (List.replicate q (0, 1)).set j (1, 1)
def kvec (A : List (List Fr)) (ps : List Nat) (q j : Nat) : List Fr := (List.zip A ps).foldl (setK j) (startK q j)
def kern (A : List (List Fr)) (ps : List Nat) (q : Nat) : List (List Fr) := ((List.range q).filter fun j => !decide (j ∈ ps)).map (kvec A ps q)
theorem setK_length (j : Nat) : ∀ (l : List (List Fr × Nat)) (x : List Fr), (l.foldl (setK j) x).length = x.length
  | [], x => rfl
  | p :: l, x => by
    rw [List.foldl_cons, setK_length j l]
    unfold setK
    rw [List.length_set]
theorem startK_length (q j : Nat) : (startK q j).length = q := by
  unfold startK
  rw [List.length_set, List.length_replicate]
theorem good_zero : Good 1 (0, 1) := ⟨by unfold sz; decide, by unfold sz; decide, by decide, by decide⟩
/-- the rows and the pivots, to be read -/
structure Rd2 (h : Store) (N P : Nat) (rs : List Nat) (A : List (List Fr)) (ps : List Nat) : Prop where
  rows : own? h N = some (rs.map W.ref)
  len : rs.length = A.length
  row : ∀ (i r : Nat) (m : List Fr), rs[i]? = some r → A[i]? = some m → own? h r = some (m.map fw)
  piv : own? h P = some (ps.map iw)
theorem Rd2.app {h : Store} {N P : Nat} {rs : List Nat} {A : List (List Fr)} {ps : List Nat} (a : Rd2 h N P rs A ps) (t : Store) : Rd2 (h ++ t) N P rs A ps :=
  ⟨own_app a.rows, a.len, fun i r m h1 h2 => own_app (a.row i r m h1 h2), own_app a.piv⟩
/-- an object that is none of these is written -/
structure Off (X N P : Nat) (rs : List Nat) : Prop where
  n : X ≠ N
  p : X ≠ P
  r : X ∉ rs
theorem Rd2.set {h : Store} {N P X : Nat} {rs : List Nat} {A : List (List Fr)} {ps : List Nat} (a : Rd2 h N P rs A ps) (o : Off X N P rs) (x : Ob) : Rd2 (h.set X x) N P rs A ps :=
  ⟨own_other a.rows o.n, a.len, fun i r m h1 h2 => own_other (a.row i r m h1 h2) fun z => o.r (by rw [z]; exact List.mem_of_getElem? h1), own_other a.piv o.p⟩
theorem Rd2.off {h : Store} {N P : Nat} {rs : List Nat} {A : List (List Fr)} {ps : List Nat} (a : Rd2 h N P rs A ps) {X : Nat} (hX : h.length ≤ X) : Off X N P rs := by
  refine ⟨fun z => ?_, fun z => ?_, fun z => ?_⟩
  · have := own_lt a.rows
    omega
  · have := own_lt a.piv
    omega
  · obtain ⟨i, hi, e⟩ := List.getElem_of_mem z
    have hA : i < A.length := by rw [← a.len]; exact hi
    have := own_lt (a.row i rs[i] A[i] (List.getElem?_eq_getElem hi) (List.getElem?_eq_getElem hA))
    omega
noncomputable def fillA (call : CallT) : DenS := sSeq (sAsg (cCall call 2 "ratio_less" (cCons (cVal (.tup [(.int 0), (.int 1)])) (cCons (cIx (cVar 7) (cVar 5)) cNil))) (gSx (cVar 6) (cVar 8)))
    sSkip
def ShK (wT : Option W) (N P q F j X : Nat) (ρ : Rho) : Prop := ∃ a7 a8, ρ = [wT, some (.ref N), some (.ref P), some (iw q), some (.ref F), some (iw j), some (.ref X), a7, a8]
theorem zip_range2 {α β : Type} {l1 : List α} {l2 : List β} {n : Nat} (d1 : α) (d2 : β) (h1 : l1.length = n) (h2 : l2.length = n) : List.zip l1 l2 = (List.range n).map fun i => ((l1[i]?).getD d1, (l2[i]?).getD d2) := by
  refine List.ext_getElem (by simp [h1, h2]) fun i a b => ?_
  rw [List.getElem_zip, List.getElem_map, List.getElem_range]
  rw [List.length_zip] at a
  rw [List.getElem?_eq_getElem (by omega), List.getElem?_eq_getElem (by omega)]
  rfl
theorem get_dd {α : Type} {l : List α} {i : Nat} (d : α) (h : i < l.length) : l[i]? = some ((l[i]?).getD d) ∧ (l[i]?).getD d ∈ l := by
  rw [List.getElem?_eq_getElem h]
  exact ⟨rfl, List.getElem_mem h⟩
theorem fill_A {K : Nat} (hK : 35 ≤ K) {h : Store} {N P X F q j B n : Nat} {rs ps : List Nat} {A : List (List Fr)} {x0 : List Fr} {wT : Option W} {ρ : Rho} (a : Rd2 h N P rs A ps) (o : Off X N P rs) (e : own? h X = some (x0.map fw)) (hx : x0.length = q) (hA : A.length = n) (hp : ps.length = n) (hps : ∀ p ∈ ps, p < q) (hj : j < q)
    (m : Mat B q A) (hB : B ≤ 90000000) (s : ShK wT N P q F j X ρ) :
    ∃ ρ2, forL [(N, rs.map W.ref), (P, ps.map iw)] (.tp [.nm 7, .nm 8]) (fillA (callK prg K)) (zipW (rs.map W.ref) (ps.map iw)) ρ h = .next ρ2 (h.set X (.lst (((List.zip A ps).foldl (setK j) x0).map fw))) ∧ ShK wT N P q F j X ρ2 := by
  obtain ⟨K, rfl⟩ : ∃ z, K = z + 1 := ⟨K - 1, by omega⟩
  have hr : rs.length = n := a.len.trans hA
  rw [zipW_two, zip_range2 0 0 hr hp, zip_range2 [] 0 hA hp, List.map_map, List.foldl_map]
  have st0 : h = h.set X (.lst (x0.map fw)) := (set_same e).symm
  have key := forL_fold (g := [(N, rs.map W.ref), (P, ps.map iw)]) (T := .tp [.nm 7, .nm 8]) (body := fillA (callK prg (K + 1))) (enc := fun i => W.tup [.ref ((rs[i]?).getD 0), iw ((ps[i]?).getD 0)]) (st := fun x : List Fr => h.set X (.lst (x.map fw))) (Sh := ShK wT N P q F j X) (Iv := fun x => x.length = q)
    (f := fun x i => setK j x ((A[i]?).getD [], (ps[i]?).getD 0)) (fun x _ => gdOk_two (lst_own (own_other a.rows o.n)) (lst_own (own_other a.piv o.p))) (List.range n) x0 ρ (fun i hi x ρ hx ⟨a7, a8, e2⟩ => by
      subst e2
      have hi := List.mem_range.mp hi
      obtain ⟨r1, r2⟩ := get_dd 0 (show i < rs.length by omega)
      obtain ⟨p1, p2⟩ := get_dd 0 (show i < ps.length by omega)
      obtain ⟨m1, m2⟩ := get_dd ([] : List Fr) (show i < A.length by omega)
      have a2 := a.set o (.lst (x.map fw))
      have row := a2.row i _ _ r1 m1
      obtain ⟨t1, t2⟩ := get_d (show j < ((A[i]?).getD []).length by rw [m.len _ m2]; exact hj)
      have ix : ixW (h.set X (.lst (x.map fw))) (.ref ((rs[i]?).getD 0)) (.int (j : Int)) = some (fw (((A[i]?).getD [])[j]?.getD (0, 1))) := by
        rw [(lst_of_own row).2.2.2.2]
        exact atI_map t1
      have ow := own_set (ws := x.map fw) e
      have n1 : ixN x.length (((ps[i]?).getD 0 : Nat) : Int) = some ((ps[i]?).getD 0) := ixN_at (by rw [hx]; exact hps _ p2)
      have cl := c_less K (h.set X (.lst (x.map fw))) (by omega) good_zero (m.good _ m2 _ t2) (by omega)
      refine ⟨_, bind_tp2 _ _ _ _ _, [wT, some (.ref N), some (.ref P), some (iw q), some (.ref F), some (iw j), some (.ref X), some (.ref ((rs[i]?).getD 0)), some (iw ((ps[i]?).getD 0))], ?_, ⟨_, _, rfl⟩, by unfold setK; rw [List.length_set]; exact hx⟩
      simp only [fw] at cl ix ow ⊢
      simp only [iw] at *
      simp [fillA, ix, cl, ow, n1, setK, List.map_set]
      rfl) hx s
  obtain ⟨ρ2, k1, k2, _⟩ := key
  rw [← st0] at k1
  exact ⟨ρ2, k1, k2⟩
end K03
end
section
set_option Elab.async false
set_option linter.all false
set_option maxRecDepth 100000
set_option maxHeartbeats 2000000
namespace K03
open PySem PySem.Spec Wv L2
noncomputable def kerA (call : CallT) (big : Bool) : DenS := sSeq (sIf (tcCmp .NotIn (cVar 5) (cVar 2)) (sSeq (sAsg (cBin big .Mult (cFresh (cLst (cCons (cVal (.tup [(.int 0), (.int 1)])) cNil))) (cVar 3)) (gNm 6))
    (sSeq (sAsg (cVal (.tup [(.int 1), (.int 1)])) (gSx (cVar 6) (cVar 5)))
    (sSeq (sFor (cItS zipOf (cCons (cVar 1) (cCons (cVar 2) cNil))) (.tp [(.nm 7), (.nm 8)]) (fillA call))
    (sSeq (sExpr (cApp (cVar 4) (cQ1 tupQ (cSeqV (cVar 6)))))
    sSkip)))) sSkip)
    sSkip
def ShF (wT : Option W) (N P q F : Nat) (ρ : Rho) : Prop := ∃ a5 a6 a7 a8, ρ = [wT, some (.ref N), some (.ref P), some (iw q), some (.ref F), a5, a6, a7, a8]
theorem flat_rep (q : Nat) (z : W) : (List.replicate q [z]).flatten = List.replicate q z := by
  induction q with
  | zero => rfl
  | succ q ih => rw [List.replicate_succ, List.flatten_cons, ih, List.replicate_succ]; rfl
theorem in_kerA {K : Nat} {big : Bool} (hK : 35 ≤ K) {h0 h : Store} {N P F q j B n : Nat} {rs ps : List Nat} {A : List (List Fr)} {found : List (List Fr)} {wT : Option W} {ρ : Rho} (a : Rd2 h N P rs A ps) (o : Off F N P rs) (e : own? h F = some (found.map rw)) (hf : found.length ≤ 1000) (hA : A.length = n) (hp : ps.length = n) (hps : ∀ p ∈ ps, p < q) (hj : j < q) (hq : q ≤ 100)
    (m : Mat B q A) (hB : B ≤ 90000000) (ol : Old h0 h) (hF : h0.length ≤ F) (s : ShF wT N P q F ρ) (hρ : ρ[5]? = some (some (iw j))) :
    ∃ ρ2 h2, kerA (callK prg K) big ρ h = .next ρ2 h2 ∧ ShF wT N P q F ρ2 ∧ Rd2 h2 N P rs A ps ∧ own? h2 F = some ((found ++ (if j ∈ ps then [] else [kvec A ps q j])).map rw) ∧ Old h0 h2 := by
  obtain ⟨a5, a6, a7, a8, rfl⟩ := s
  have e5 : a5 = some (iw j) := by simpa using hρ
  subst e5
  have ni := notin_nats (j := j) a.piv
  by_cases c : j ∈ ps
  · refine ⟨[wT, some (.ref N), some (.ref P), some (iw q), some (.ref F), some (iw j), a6, a7, a8], h, ?_, ⟨_, _, _, _, rfl⟩, a, by rw [if_pos c, List.append_nil]; exact e, ol⟩
    simp only [iw] at *
    simp [kerA, ni, c]
  · have b1 := a.app [Ob.lst [fw (0, 1)]]
    have w1 := own_new h [fw (0, 1)]
    have len1 : (h ++ [Ob.lst [fw (0, 1)]]).length = h.length + 1 := by simp
    generalize hh1 : h ++ [Ob.lst [fw (0, 1)]] = h1 at b1 w1 len1
    have w2 := own_new h1 ((List.replicate q ((0, 1) : Fr)).map fw)
    have b2 := b1.app [Ob.lst ((List.replicate q ((0, 1) : Fr)).map fw)]
    have oX := b1.off (X := h1.length) (Nat.le_refl _)
    have b3 := b2.set oX (.lst ((startK q j).map fw))
    have w3 := own_set (ws := (startK q j).map fw) w2
    have e1 : own? h1 F = some (found.map rw) := by
      rw [← hh1]
      exact own_app e
    have nF : h1.length ≠ F := by
      have := own_lt e1
      omega
    have e3 := own_other (o := .lst ((startK q j).map fw)) (own_app (t := [Ob.lst ((List.replicate q ((0, 1) : Fr)).map fw)]) e1) nF
    have o1 : Old h0 h1 := by
      rw [← hh1]
      exact ol.app _
    have X0 : h0.length ≤ h1.length := by
      obtain ⟨t, rfl⟩ := o1
      simp
    have o3 := (o1.app [Ob.lst ((List.replicate q ((0, 1) : Fr)).map fw)]).set X0 (.lst ((startK q j).map fw))
    have opm : opBin big .Mult (.ref h.length) (.int (q : Int)) h1 = some (.ref h1.length, h1 ++ [Ob.lst ((List.replicate q ((0, 1) : Fr)).map fw)]) := by
      have z : opBin big .Mult = opMul := rfl
      rw [z]
      unfold opMul
      dsimp only
      rw [w1]
      dsimp only
      rw [if_pos ⟨by omega, by omega, by simp; exact Nat.le_trans hq (by decide)⟩, Int.toNat_natCast, flat_rep, List.map_replicate]
    generalize hh3 : (h1 ++ [Ob.lst ((List.replicate q ((0, 1) : Fr)).map fw)]).set h1.length (.lst ((startK q j).map fw)) = h3 at b3 w3 e3 o3
    have hh3' : (h1 ++ [Ob.lst ((List.replicate q ((0, 1) : Fr)).map fw)]).set h1.length (.lst (((List.replicate q ((0, 1) : Fr)).map fw).set j (fw (1, 1)))) = h3 := by
      rw [← hh3]
      unfold startK
      rw [List.map_set]
    obtain ⟨ρ4, f1, f2⟩ := fill_A hK b3 oX w3 (startK_length q j) hA hp hps hj m hB (wT := wT) (F := F) (ρ := [wT, some (.ref N), some (.ref P), some (iw q), some (.ref F), some (iw j), some (.ref h1.length), a7, a8]) ⟨_, _, rfl⟩
    obtain ⟨d7, d8, rfl⟩ := f2
    have b4 := b3.set oX (.lst (((List.zip A ps).foldl (setK j) (startK q j)).map fw))
    have w4 := own_set (ws := ((List.zip A ps).foldl (setK j) (startK q j)).map fw) w3
    have e4 := own_other (o := .lst (((List.zip A ps).foldl (setK j) (startK q j)).map fw)) e3 nF
    have o4 := o3.set X0 (.lst (((List.zip A ps).foldl (setK j) (startK q j)).map fw))
    generalize hh4 : h3.set h1.length (.lst (((List.zip A ps).foldl (setK j) (startK q j)).map fw)) = h4 at b4 w4 e4 o4 f1
    have b5 := b4.set o (.lst (found.map rw ++ [rw (kvec A ps q j)]))
    have e5 := own_set (ws := found.map rw ++ [rw (kvec A ps q j)]) e4
    refine ⟨[wT, some (.ref N), some (.ref P), some (iw q), some (.ref F), some (iw j), some (.ref h1.length), d7, d8], h4.set F (.lst (found.map rw ++ [rw (kvec A ps q j)])), ?_, ⟨_, _, _, _, rfl⟩, b5, ?_, o4.set hF _⟩
    · have z1 : zipOf h3 [.ref N, .ref P] = some (zipW (rs.map W.ref) (ps.map iw), [(N, rs.map W.ref), (P, ps.map iw)]) := by
        simp [zipOf, lst_own b3.rows, lst_own b3.piv]
      have n1 : ixN q (j : Int) = some j := ixN_at hj
      obtain ⟨y1, y2, y3, y4, y5⟩ := lst_of_own w4
      obtain ⟨x1, x2, x3, x4, x5⟩ := lst_of_own e4
      have hl : found.length < 16777216 := Nat.lt_of_le_of_lt hf (by decide)
      have hq2 : (List.replicate q ((0, 1) : Fr)).length = q := List.length_replicate
      have hh3'' : h1 ++ [Ob.lst ((List.replicate q (fw (0, 1))).set j (.tup [.int 1, .int 1]))] = h3 := by
        rw [← hh3', List.map_replicate]
        simp [fw]
      simp only [List.map_replicate] at opm w2
      have hh1' : h ++ [Ob.lst [W.tup [.int 0, .int 1]]] = h1 := hh1
      simp only [iw] at *
      simp [kerA, ni, c, hh1', opm, w2, n1, hh3'', z1, f1, y2, x4, e4, hl]
      rfl
    · rw [if_neg c, List.map_append]
      exact e5
end K03
end
section
set_option Elab.async false
set_option linter.all false
set_option maxRecDepth 100000
set_option maxHeartbeats 2000000
namespace K03
open PySem PySem.Spec Wv L2
theorem elimT_lt (M : List (List Fr)) : ∀ (i : Nat), ∀ p ∈ (elimT M i).2, p < i
  | 0, p, h => nomatch h
  | i + 1, p, h => by
    rw [elimT_succ] at h
    unfold elim1 at h
    split at h
    · exact Nat.lt_succ_of_lt (elimT_lt M i p h)
    · rcases List.mem_append.mp h with z | z
      · exact Nat.lt_succ_of_lt (elimT_lt M i p z)
      · rw [List.mem_singleton.mp z]
        exact Nat.lt_succ_self i
theorem bits_le {L n q : Nat} (hn : 0 < n) (hq : 0 < q) (hB : ∀ s, s < n → s < q → bits L s ≤ 20000000) {s : Nat} (h1 : s ≤ n) (h2 : s ≤ q) : bits L s ≤ 80000001 := by
  cases s with
  | zero => exact Nat.le_trans (hB 0 hn hq) (by decide)
  | succ s =>
    have := hB s (by omega) (by omega)
    show 4 * bits L s + 1 ≤ _
    omega
theorem Mat.take {L q : Nat} {M : List (List Fr)} (m : Mat L q M) (n : Nat) : Mat L q (M.take n) := ⟨fun r hr => m.len r (List.mem_of_mem_take hr), fun r hr => m.good r (List.mem_of_mem_take hr)⟩
theorem Red.rd {h h2 : Store} {N P : Nat} {A : List (List Fr)} {ps : List Nat} (r : Red h h2 N P A ps) : ∃ rs, Rd2 h2 N P rs A ps := by
  obtain ⟨rs, a, b, c⟩ := r.rows
  exact ⟨rs, a, b, c, r.piv⟩
theorem filt_succ (p : Nat → Bool) (i : Nat) : (List.range (i + 1)).filter p = (List.range i).filter p ++ (if p i then [i] else []) := by
  rw [List.range_succ, List.filter_append]
  congr 1
  cases h : p i <;> simp [h]
theorem c_kern {K L q : Nat} (hK : 40 ≤ K) {r : List Fr} {T : List (List Fr)} (f : Fit L q (r :: T)) (h : Store) : callK prg (K + 1) "table_kernel" [tw (r :: T)] h = .ok (tw (kern (redOf (r :: T) q) (elimT (r :: T) q).2 q)) h := by
  obtain ⟨k, rfl⟩ : ∃ z, K = z + 4 := ⟨K - 4, by omega⟩
  obtain ⟨h2, N, P, e, R, n1, n2, n3, m⟩ := red_here (by omega) f h (j := k + 4) (by omega) (K := k + 4)
  have q1 := f.tab.q1
  have q40 := f.tab.q40
  have hr : r.length = q := f.tab.len r List.mem_cons_self
  have hb := bits_le (by simp) (by omega) f.bits n1 n3
  obtain ⟨rs, rd⟩ := R.rd
  have lA : (redOf (r :: T) q).length = (elimT (r :: T) q).2.length := by
    show (List.take _ _).length = _
    rw [List.length_take, n2]
    exact Nat.min_eq_left n1
  have hps : ∀ p ∈ (elimT (r :: T) q).2, p < q := elimT_lt _ q
  have mA : Mat (bits L (rkOf (r :: T) q)) q (redOf (r :: T) q) := m.take _
  have rd3 := rd.app [Ob.lst []]
  have oF := rd.off (X := h2.length) (Nat.le_refl _)
  have wF := own_new h2 []
  have ol : Old h (h2 ++ [Ob.lst []]) := R.old.app _
  have hF : h.length ≤ h2.length := by
    obtain ⟨t, rfl⟩ := R.old
    simp
  generalize redOf (r :: T) q = A at *
  generalize hps' : (elimT (r :: T) q).2 = ps at *
  obtain ⟨ρ2, h4, f1, J⟩ := forL_inv (g := []) (T := .nm 5) (body := kerA (callK prg (k + 4)) true)
    (fun ws ρ h4 => ∃ i, i ≤ q ∧ ws = (List.range' i (q - i)).map iw ∧ ShF (some (tw (r :: T))) N P q h2.length ρ ∧ Rd2 h4 N P rs A ps ∧ own? h4 h2.length = some ((((List.range i).filter fun j => !decide (j ∈ ps)).map (kvec A ps q)).map rw) ∧ Old h h4)
    (fun _ _ _ _ => gdOk_nil _)
    (fun w ws ρ h4 ⟨i, hi, e, s, a, o, ol⟩ => by
      have hlt : i < q := by
        rcases Nat.lt_or_ge i q with z | z
        · exact z
        · rw [show q - i = 0 by omega] at e
          cases e
      rw [show q - i = (q - (i + 1)) + 1 by omega, List.range'_succ, List.map_cons] at e
      injection e with e1 e2
      subst e1
      obtain ⟨a5, a6, a7, a8, rfl⟩ := s
      refine ⟨_, bind_nm 5 (iw i) _, ?_⟩
      have fl : (((List.range i).filter fun j => !decide (j ∈ ps)).map (kvec A ps q)).length ≤ 1000 := by
        rw [List.length_map]
        refine Nat.le_trans (List.length_filter_le _ _) ?_
        rw [List.length_range]
        omega
      obtain ⟨ρ2, h5, b1, b2, b3, b4, b5⟩ := in_kerA (big := true) (K := k + 4) (by omega) a oF o fl lA rfl hps hlt (by omega) mA (by omega) ol hF (wT := some (tw (r :: T))) (ρ := [some (tw (r :: T)), some (.ref N), some (.ref P), some (iw q), some (.ref h2.length), a5, a6, a7, a8].set 5 (some (iw i))) ⟨_, _, _, _, rfl⟩ rfl
      refine ⟨ρ2, h5, .inl b1, i + 1, by omega, e2, b2, b3, ?_, b5⟩
      rw [b4, filt_succ, List.map_append]
      by_cases c : i ∈ ps <;> simp [c])
    ((List.range q).map iw) [some (tw (r :: T)), some (.ref N), some (.ref P), some (iw q), some (.ref h2.length), none, none, none, none] (h2 ++ [Ob.lst []]) ⟨0, by omega, by rw [Nat.sub_zero, List.range_eq_range'], ⟨_, _, _, _, rfl⟩, rd3, wF, ol⟩
  obtain ⟨i, hi, e2, s2, _, wF2, ol2⟩ := J
  have z : i = q := by
    have y := congrArg List.length e2
    rw [List.length_map, List.length_range'] at y
    simp at y
    omega
  subst z
  obtain ⟨a5, a6, a7, a8, rfl⟩ := s2
  obtain ⟨y1, y2, y3, y4, y5⟩ := lst_of_own wF2
  have r1 : rng1 [.int (i : Int)] = some ((List.range i).map iw) := rng1_nat (Nat.lt_of_le_of_lt q40 (by decide))
  have wd := c_width (k + 3) (r := r) (T := T) h2
  rw [hr] at wd
  have eb : b_table_kernel (callK prg (k + 4)) true = (sSeq (sExpr (cCall (callK prg (k + 4)) 1 "check_table" (cCons (cVar 0) cNil)))
    (sSeq (sAsg (cCall (callK prg (k + 4)) 1 "reduced_of" (cCons (cVar 0) cNil)) (gTp 2 (gsCons (gNm 1) (gsCons (gNm 2) gsNil))))
    (sSeq (sPar2 3 4 (cCons (cCall (callK prg (k + 4)) 1 "width_of" (cCons (cVar 0) cNil)) (cCons (cFresh (cLst cNil)) cNil)))
    (sSeq (sFor (cItR rng1 (cCons (cVar 3) cNil)) (.nm 5) (kerA (callK prg (k + 4)) true))
    (sSeq (sRet (cQ1 tupQ (cSeqV (cVar 4)))) sSkip))))) := rfl
  rw [k_table_kernel, decide_eq_true (show 32 ≤ k + 4 by omega), eb]
  obtain ⟨t, rfl⟩ := ol2
  simp only [iw] at f1 r1
  simp [startR, c_check k h f.few f.tab, e, wd, r1, f1, y2]
  rw [cutR_app]
  · simp [tw, kern]
  · refine flat_below _ _ ?_
    have : (W.tup (List.map (rw ∘ kvec A ps i) ((List.range i).filter fun j => !decide (j ∈ ps)))) = tw (kern A ps i) := by simp [tw, kern]
    first
      | (rw [this]; exact flatR_tup (fun m => flatR_tup (fun x => rfl) m) _)
      | exact flatR_tup (fun m => flatR_tup (fun x => rfl) _) _
end K03
end
section
set_option Elab.async false
set_option linter.all false
set_option maxRecDepth 100000
set_option maxHeartbeats 2000000
namespace K03
open PySem PySem.Spec Wv L2
theorem c_others {K q P : Nat} {h : Store} {ps : List Nat} (hq : q ≤ 1000) (e : own? h P = some (ps.map iw)) : callK prg (K + 1) "_law_others" [.int (q : Int), .ref P] h = .ok (.ref h.length) (h ++ [Ob.lst (((List.range q).filter fun j => !decide (j ∈ ps)).map iw)]) := by
  have hl : (List.range q).length ≤ 16777216 := by
    rw [List.length_range]
    exact Nat.le_trans hq (by decide)
  have c := comp_filter (T := .nm 2) (tt := tcCmp .NotIn (cVar 2) (cVar 1)) (te := cVar 2) (ρ0 := [some (.int (q : Int)), some (.ref P), none]) (enc := iw) (f := iw) (p := fun j => !decide (j ∈ ps)) (h := h) (List.range q) hl (fun j hj => by
    have ni := notin_nats (j := j) e
    exact ⟨_, bind_nm _ _ _, by simp [iw, ni], fun _ => by simp⟩)
  have r1 : rng1 [.int (q : Int)] = some ((List.range q).map iw) := rng1_nat (Nat.lt_of_le_of_lt hq (by decide))
  rw [k__law_others]
  simp [b__law_others, startR, r1, c]
  rw [cutR_keep]
  unfold belowW
  simp
noncomputable def fillB (call : CallT) : DenS := sSeq (sAsg (cCall call 2 "_law_less" (cCons (cTup (cCons (cVal (.int 0)) (cCons (cVal (.int 1)) cNil))) (cCons (cIx (cIx (cVar 1) (cVar 6)) (cVar 4)) cNil))) (gSx (cVar 5) (cIx (cVar 2) (cVar 6))))
    sSkip
noncomputable def kerB (call : CallT) : DenS := sSeq (sAsg (cFresh (cComp (cItV (cIx (cVar 0) (cVal (.int 0)))) [7] (.nm 7) cTrue (cTup (cCons (cVal (.int 0)) (cCons (cVal (.int 1)) cNil))))) (gNm 5))
    (sSeq (sAsg (cTup (cCons (cVal (.int 1)) (cCons (cVal (.int 1)) cNil))) (gSx (cVar 5) (cVar 4)))
    (sSeq (sFor (cItR rng1 (cCons (cV1 lenV (cVar 2)) cNil)) (.nm 6) (fillB call))
    (sSeq (sExpr (cApp (cVar 3) (cQ1 tupQ (cSeqV (cVar 5)))))
    sSkip)))
def ShKB (wT : Option W) (A : List (List Fr)) (P F j X : Nat) (ρ : Rho) : Prop := ∃ a6 a7, ρ = [wT, some (tw A), some (.ref P), some (.ref F), some (iw j), some (.ref X), a6, a7]
theorem fill_B {K : Nat} (hK : 35 ≤ K) {h : Store} {P X F q j B n : Nat} {ps : List Nat} {A : List (List Fr)} {x0 : List Fr} {wT : Option W} {ρ : Rho} (eP : own? h P = some (ps.map iw)) (nP : X ≠ P) (e : own? h X = some (x0.map fw)) (hx : x0.length = q) (hA : A.length = n) (hp : ps.length = n) (hps : ∀ p ∈ ps, p < q) (hj : j < q)
    (m : Mat B q A) (hB : B ≤ 90000000) (s : ShKB wT A P F j X ρ) :
    ∃ ρ2, forL [] (.nm 6) (fillB (callK prg K)) ((List.range n).map iw) ρ h = .next ρ2 (h.set X (.lst (((List.zip A ps).foldl (setK j) x0).map fw))) ∧ ShKB wT A P F j X ρ2 := by
  obtain ⟨K, rfl⟩ : ∃ z, K = z + 1 := ⟨K - 1, by omega⟩
  rw [zip_range2 [] 0 hA hp, List.foldl_map]
  have st0 : h = h.set X (.lst (x0.map fw)) := (set_same e).symm
  have key := forL_fold (g := []) (T := .nm 6) (body := fillB (callK prg (K + 1))) (enc := iw) (st := fun x : List Fr => h.set X (.lst (x.map fw))) (Sh := ShKB wT A P F j X) (Iv := fun x => x.length = q)
    (f := fun x i => setK j x ((A[i]?).getD [], (ps[i]?).getD 0)) (fun x _ => gdOk_nil _) (List.range n) x0 ρ (fun i hi x ρ hx ⟨a6, a7, e2⟩ => by
      subst e2
      have hi := List.mem_range.mp hi
      obtain ⟨p1, p2⟩ := get_dd 0 (show i < ps.length by omega)
      obtain ⟨m1, m2⟩ := get_dd ([] : List Fr) (show i < A.length by omega)
      obtain ⟨t1, t2⟩ := get_d (show j < ((A[i]?).getD []).length by rw [m.len _ m2]; exact hj)
      have i1 : atI (A.map rw) (i : Int) = some (rw ((A[i]?).getD [])) := atI_map m1
      have i2 : atI (((A[i]?).getD []).map fw) (j : Int) = some (fw (((A[i]?).getD [])[j]?.getD (0, 1))) := atI_map t1
      have oP := own_other (o := .lst (x.map fw)) eP nP
      have i3 : ixW (h.set X (.lst (x.map fw))) (.ref P) (.int (i : Int)) = some (iw ((ps[i]?).getD 0)) := by
        rw [(lst_of_own oP).2.2.2.2]
        exact atI_map p1
      have ow := own_set (ws := x.map fw) e
      have n1 : ixN x.length (((ps[i]?).getD 0 : Nat) : Int) = some ((ps[i]?).getD 0) := ixN_at (by rw [hx]; exact hps _ p2)
      have cl := c_lless K (h.set X (.lst (x.map fw))) (by omega) good_zero (m.good _ m2 _ t2) (by omega)
      refine ⟨_, bind_nm _ _ _, [wT, some (tw A), some (.ref P), some (.ref F), some (iw j), some (.ref X), some (iw i), a7], ?_, ⟨_, _, rfl⟩, by unfold setK; rw [List.length_set]; exact hx⟩
      simp only [tw]
      simp only [fw] at cl i2 ow ⊢
      simp only [iw] at *
      simp [fillB, i1, rw, fw, i2, i3, cl, ow, n1, setK, List.map_set]) hx s
  obtain ⟨ρ2, k1, k2, _⟩ := key
  rw [← st0] at k1
  exact ⟨ρ2, k1, k2⟩
end K03
end
section
set_option Elab.async false
set_option linter.all false
set_option maxRecDepth 100000
set_option maxHeartbeats 2000000
namespace K03
open PySem PySem.Spec Wv L2
theorem map_const (q : Nat) (r : List Fr) (h : r.length = q) : (r.map fun _ => W.tup [.int 0, .int 1]) = (List.replicate q ((0, 1) : Fr)).map fw := by
  rw [List.map_replicate]
  refine List.ext_getElem (by simp [h]) fun i a b => ?_
  simp [fw]
theorem ix_tw0 (h : Store) (r : List Fr) (T : List (List Fr)) : ixW h (tw (r :: T)) (.int 0) = some (rw r) := s_ix0 _ _
theorem it_rw (h : Store) (r : List Fr) : itOf h (rw r) = some (r.map fw, []) := id rfl
theorem in_kerB {K : Nat} (hK : 35 ≤ K) {h0 h : Store} {P F On q j B n : Nat} {ps others : List Nat} {A : List (List Fr)} {found : List (List Fr)} {r : List Fr} {T : List (List Fr)} {ρ : Rho} (hr : r.length = q) (eP : own? h P = some (ps.map iw)) (eO : own? h On = some (others.map iw)) (e : own? h F = some (found.map rw)) (nFP : F ≠ P) (nFO : F ≠ On) (hf : found.length ≤ 1000) (hA : A.length = n) (hp : ps.length = n) (hn : n ≤ 1000) (hps : ∀ p ∈ ps, p < q) (hj : j < q) (hq : q ≤ 100)
    (m : Mat B q A) (hB : B ≤ 90000000) (ol : Old h0 h) (hF : h0.length ≤ F) (s : ∃ a5 a6 a7, ρ = [some (tw (r :: T)), some (tw A), some (.ref P), some (.ref F), some (iw j), a5, a6, a7]) :
    ∃ ρ2 h2, kerB (callK prg K) ρ h = .next ρ2 h2 ∧ (∃ a4 a5 a6 a7, ρ2 = [some (tw (r :: T)), some (tw A), some (.ref P), some (.ref F), a4, a5, a6, a7]) ∧ own? h2 P = some (ps.map iw) ∧ own? h2 On = some (others.map iw) ∧ own? h2 F = some ((found ++ [kvec A ps q j]).map rw) ∧ Old h0 h2 := by
  obtain ⟨a5, a6, a7, rfl⟩ := s
  have cm : compL [] (.nm 7) cTrue (cTup (cCons (cVal (.int 0)) (cCons (cVal (.int 1)) cNil))) [some (tw (r :: T)), some (tw A), some (.ref P), some (.ref F), some (iw j), a5, a6, none] (r.map fw) [] h = .ok ((List.replicate q ((0, 1) : Fr)).map fw) h := by
    have hl : r.length ≤ 16777216 := by
      rw [hr]
      exact Nat.le_trans hq (by decide)
    rw [comp_map (f := fun _ => W.tup [.int 0, .int 1]) r hl fun x hx => ⟨_, bind_nm _ _ _, rfl, by simp⟩, map_const q r hr]
  have w2 := own_new h ((List.replicate q ((0, 1) : Fr)).map fw)
  have w3 := own_set (ws := (startK q j).map fw) w2
  have lt1 := own_lt eP
  have lt2 := own_lt eO
  have lt3 := own_lt e
  have nXP : h.length ≠ P := by omega
  have nXO : h.length ≠ On := by omega
  have nXF : h.length ≠ F := by omega
  have P3 := own_other (o := .lst ((startK q j).map fw)) (own_app (t := [Ob.lst ((List.replicate q ((0, 1) : Fr)).map fw)]) eP) nXP
  have O3 := own_other (o := .lst ((startK q j).map fw)) (own_app (t := [Ob.lst ((List.replicate q ((0, 1) : Fr)).map fw)]) eO) nXO
  have F3 := own_other (o := .lst ((startK q j).map fw)) (own_app (t := [Ob.lst ((List.replicate q ((0, 1) : Fr)).map fw)]) e) nXF
  have X0 : h0.length ≤ h.length := by
    obtain ⟨t, rfl⟩ := ol
    simp
  have o3 := (ol.app [Ob.lst ((List.replicate q ((0, 1) : Fr)).map fw)]).set X0 (.lst ((startK q j).map fw))
  have hh3' : h ++ [Ob.lst ((List.replicate q (fw (0, 1))).set j (.tup [.int 1, .int 1]))] = (h ++ [Ob.lst ((List.replicate q ((0, 1) : Fr)).map fw)]).set h.length (.lst ((startK q j).map fw)) := by
    unfold startK
    rw [List.map_set, List.map_replicate]
    simp [fw]
  generalize hh3 : (h ++ [Ob.lst ((List.replicate q ((0, 1) : Fr)).map fw)]).set h.length (.lst ((startK q j).map fw)) = h3 at w3 P3 O3 F3 o3 hh3'
  obtain ⟨ρ4, f1, f2⟩ := fill_B hK P3 nXP w3 (startK_length q j) hA hp hps hj m hB (wT := some (tw (r :: T))) (F := F) (ρ := [some (tw (r :: T)), some (tw A), some (.ref P), some (.ref F), some (iw j), some (.ref h.length), a6, a7]) ⟨_, _, rfl⟩
  obtain ⟨d6, d7, rfl⟩ := f2
  have w4 := own_set (ws := ((List.zip A ps).foldl (setK j) (startK q j)).map fw) w3
  have P4 := own_other (o := .lst (((List.zip A ps).foldl (setK j) (startK q j)).map fw)) P3 nXP
  have O4 := own_other (o := .lst (((List.zip A ps).foldl (setK j) (startK q j)).map fw)) O3 nXO
  have F4 := own_other (o := .lst (((List.zip A ps).foldl (setK j) (startK q j)).map fw)) F3 nXF
  have o4 := o3.set X0 (.lst (((List.zip A ps).foldl (setK j) (startK q j)).map fw))
  generalize hh4 : h3.set h.length (.lst (((List.zip A ps).foldl (setK j) (startK q j)).map fw)) = h4 at w4 P4 O4 F4 o4 f1
  have P5 := own_other (o := .lst (found.map rw ++ [rw (kvec A ps q j)])) P4 nFP
  have O5 := own_other (o := .lst (found.map rw ++ [rw (kvec A ps q j)])) O4 nFO
  have F5 := own_set (ws := found.map rw ++ [rw (kvec A ps q j)]) F4
  refine ⟨[some (tw (r :: T)), some (tw A), some (.ref P), some (.ref F), some (iw j), some (.ref h.length), d6, d7], h4.set F (.lst (found.map rw ++ [rw (kvec A ps q j)])), ?_, ⟨_, _, _, _, rfl⟩, P5, O5, ?_, o4.set hF _⟩
  · have n1 : ixN q (j : Int) = some j := ixN_at hj
    obtain ⟨y1, y2, y3, y4, y5⟩ := lst_of_own w4
    obtain ⟨x1, x2, x3, x4, x5⟩ := lst_of_own F4
    have lP : lenV (.ref P) h3 = some (.int (n : Int), h3) := by
      rw [(lst_of_own P3).2.2.1]
      simp [hp]
    have r1 : rng1 [.int (n : Int)] = some ((List.range n).map iw) := rng1_nat (Nat.lt_of_le_of_lt hn (by decide))
    have ix : atI ((r :: T).map rw) 0 = some (rw r) := s_ix0 _ _
    have hl : found.length < 16777216 := Nat.lt_of_le_of_lt hf (by decide)
    simp only [List.map_replicate] at cm w2
    simp only [iw] at *
    simp [kerB, ix_tw0, it_rw, cm, w2, n1, hh3', lP, r1, f1, y2, x4, F4, hl]
    rfl
  · rw [List.map_append]
    exact F5
end K03
end
section
set_option Elab.async false
set_option linter.all false
set_option maxRecDepth 100000
set_option maxHeartbeats 2000000
namespace K03
open PySem PySem.Spec Wv L2
section
variable {K L q : Nat} (hK : 40 ≤ K) {r : List Fr} {T : List (List Fr)} (f : Fit L q (r :: T)) (h : Store)
include hK f
theorem steps_here {j : Nat} (hj : 36 ≤ j) : ∃ h2 P, callK prg j "_law_steps" [tw (r :: T)] h = .ok (.tup [tw (redOf (r :: T) q), .ref P]) h2 ∧ RedB h h2 P (elimT (r :: T) q).2 := by
  obtain ⟨j, rfl⟩ : ∃ z, j = z + 1 := ⟨j - 1, by omega⟩
  have q40 := f.tab.q40
  have few := f.tab.few
  exact c_lsteps (by omega) (tab_mat f.tab) (by omega) (by omega) f.bits
/-- what is known of the numbers -/
theorem red_facts : rkOf (r :: T) q ≤ (r :: T).length ∧ rkOf (r :: T) q ≤ q ∧ (redOf (r :: T) q).length = (elimT (r :: T) q).2.length ∧ Mat (bits L (rkOf (r :: T) q)) q (redOf (r :: T) q) ∧ bits L (rkOf (r :: T) q) ≤ 80000001 ∧ ∀ p ∈ (elimT (r :: T) q).2, p < q := by
  obtain ⟨h2, N, P, e, R, n1, n2, n3, m⟩ := red_here hK f [] (j := 40) (by omega)
  have q1 := f.tab.q1
  refine ⟨n1, n3, ?_, m.take _, bits_le (by simp) (by omega) f.bits n1 n3, elimT_lt _ q⟩
  show (List.take _ _).length = _
  rw [List.length_take, n2]
  exact Nat.min_eq_left n1
theorem c_lkern : callK prg (K + 1) "_law_kernel" [tw (r :: T)] h = .ok (tw (kern (redOf (r :: T) q) (elimT (r :: T) q).2 q)) h := by
  obtain ⟨k, rfl⟩ : ∃ z, K = z + 1 := ⟨K - 1, by omega⟩
  obtain ⟨h2, P, e, R⟩ := steps_here hK f h (j := k + 1) (by omega)
  obtain ⟨n1, n3, lA, mA, hb, hps⟩ := red_facts hK f
  have q40 := f.tab.q40
  have few := f.tab.few
  have hr : r.length = q := f.tab.len r List.mem_cons_self
  have eP := R.piv
  have wF := own_new h2 []
  have hF : h.length ≤ h2.length := by
    obtain ⟨t, rfl⟩ := R.old
    simp
  have P3 := own_app (t := [Ob.lst []]) eP
  have ltP := own_lt eP
  have oth := c_others (K := k) (q := q) (by omega) P3
  have rk40 : (elimT (r :: T) q).2.length ≤ 1000 := Nat.le_trans n3 (by omega)
  generalize redOf (r :: T) q = A at *
  generalize hps' : (elimT (r :: T) q).2 = ps at *
  have l1 : (h2 ++ [Ob.lst []]).length = h2.length + 1 := by simp
  have ol1 : Old h (h2 ++ [Ob.lst []]) := R.old.app _
  generalize hh1 : h2 ++ [Ob.lst []] = h1 at *
  have wO := own_new h1 (((List.range q).filter fun j => !decide (j ∈ ps)).map iw)
  have P4 := own_app (t := [Ob.lst (((List.range q).filter fun j => !decide (j ∈ ps)).map iw)]) P3
  have F4 := own_app (t := [Ob.lst (((List.range q).filter fun j => !decide (j ∈ ps)).map iw)]) wF
  have ol4 := ol1.app [Ob.lst (((List.range q).filter fun j => !decide (j ∈ ps)).map iw)]
  have ho : ∀ j ∈ (List.range q).filter (fun j => !decide (j ∈ ps)), j < q := fun j hj => List.mem_range.mp (List.mem_filter.mp hj).1
  have lo : ((List.range q).filter fun j => !decide (j ∈ ps)).length ≤ 1000 := by
    refine Nat.le_trans (List.length_filter_le _ _) ?_
    rw [List.length_range]
    omega
  have kd : kern A ps q = ((List.range q).filter fun j => !decide (j ∈ ps)).map (kvec A ps q) := rfl
  rw [kd]
  generalize (List.range q).filter (fun j => !decide (j ∈ ps)) = others at *
  generalize hh4 : h1 ++ [Ob.lst (others.map iw)] = h4 at *
  obtain ⟨ρ2, h5, f1, J⟩ := forL_inv (g := [(h1.length, others.map iw)]) (T := .nm 4) (body := kerB (callK prg (k + 1)))
    (fun ws ρ h5 => ∃ done rest, others = done ++ rest ∧ ws = rest.map iw ∧ (∃ a4 a5 a6 a7, ρ = [some (tw (r :: T)), some (tw A), some (.ref P), some (.ref h2.length), a4, a5, a6, a7]) ∧ own? h5 P = some (ps.map iw) ∧ own? h5 h1.length = some (others.map iw) ∧ own? h5 h2.length = some ((done.map (kvec A ps q)).map rw) ∧ Old h h5)
    (fun ws ρ h5 ⟨_, _, _, _, _, _, eO, _⟩ => gdOk_one (lst_own eO))
    (fun w ws ρ h5 ⟨done, rest, e1, e2, ⟨a4, a5, a6, a7, e3⟩, eP, eO, eF, ol⟩ => by
      cases rest with
      | nil => cases e2
      | cons j rest =>
        injection e2 with e4 e5
        subst e4 e3
        refine ⟨_, bind_nm 4 (iw j) _, ?_⟩
        have fl : (done.map (kvec A ps q)).length ≤ 1000 := by
          have z := congrArg List.length e1
          rw [List.length_append] at z
          rw [List.length_map]
          omega
        obtain ⟨ρ2, h6, b1, b2, b3, b4, b5, b6⟩ := in_kerB (K := k + 1) (by omega) hr eP eO eF (by omega) (by omega) fl lA rfl rk40 hps (ho j (by rw [e1]; simp)) (by omega) mA (by omega) ol hF (r := r) (T := T) (ρ := [some (tw (r :: T)), some (tw A), some (.ref P), some (.ref h2.length), a4, a5, a6, a7].set 4 (some (iw j))) ⟨_, _, _, rfl⟩
        exact ⟨ρ2, h6, .inl b1, done ++ [j], rest, by rw [e1]; simp, e5, b2, b3, b4, by rw [b5]; simp, b6⟩)
    (others.map iw) [some (tw (r :: T)), some (tw A), some (.ref P), some (.ref h2.length), none, none, none, none] h4 ⟨[], others, rfl, rfl, ⟨_, _, _, _, rfl⟩, P4, wO, F4, ol4⟩
  obtain ⟨done, rest, e1, e2, ⟨a4, a5, a6, a7, rfl⟩, _, _, eF, ol5⟩ := J
  have z : rest = [] := by
    cases rest with
    | nil => rfl
    | cons _ _ => cases e2
  subst z
  rw [List.append_nil] at e1
  subst e1
  obtain ⟨y1, y2, y3, y4, y5⟩ := lst_of_own eF
  obtain ⟨x1, x2, x3, x4, x5⟩ := lst_of_own wO
  have eb : ∀ big, b__law_kernel (callK prg (k + 1)) big = (sSeq (sAsg (cCall (callK prg (k + 1)) 1 "_law_steps" (cCons (cVar 0) cNil)) (gTp 2 (gsCons (gNm 1) (gsCons (gNm 2) gsNil))))
    (sSeq (sAsg (cFresh (cLst cNil)) (gNm 3))
    (sSeq (sFor (cItV (cCall (callK prg (k + 1)) 2 "_law_others" (cCons (cV1 lenV (cIx (cVar 0) (cVal (.int 0)))) (cCons (cVar 2) cNil)))) (.nm 4) (kerB (callK prg (k + 1))))
    (sSeq (sRet (cQ1 tupQ (cSeqV (cVar 3)))) sSkip)))) := fun _ => rfl
  rw [k__law_kernel, eb]
  have lw : lenV (rw r) h1 = some (.int (q : Int), h1) := by
    show some _ = _
    rw [List.length_map, hr]
  obtain ⟨t, rfl⟩ := ol5
  simp [startR, e, hh1, ix_tw0, lw, oth, hh4, x1, f1, y2]
  rw [cutR_app]
  · simp [tw]
  · refine flat_below _ _ ?_
    first
      | exact flatR_tup (fun m => flatR_tup (fun x => rfl) _) _
      | (simp only [← List.map_map]; exact flatR_tup (fun m => flatR_tup (fun x => rfl) m) _)
end
end K03
end
section
set_option Elab.async false
set_option linter.all false
set_option maxRecDepth 100000
set_option maxHeartbeats 2000000
namespace K03
open PySem PySem.Spec Wv L2
def setS (q : Nat) (x : List Fr) (p : List Fr × Nat) : List Fr := x.set p.2 ((p.1[q]?).getD (0, 1))
def solv (A : List (List Fr)) (ps : List Nat) (q : Nat) : List Fr := (List.zip A ps).foldl (setS q) (List.replicate q (0, 1))
def aug (T : List (List Fr)) (b : List Fr) : List (List Fr) := List.zipWith (fun row c => row ++ [c]) T b
theorem setS_length (q : Nat) : ∀ (l : List (List Fr × Nat)) (x : List Fr), (l.foldl (setS q) x).length = x.length
  | [], x => rfl
  | p :: l, x => by
    rw [List.foldl_cons, setS_length q l]
    unfold setS
    rw [List.length_set]
noncomputable def fillS : DenS := sSeq (sAsg (cIx (cVar 2) (cVar 5)) (gSx (cVar 6) (cVar 7)))
    sSkip
def ShS (w1 w2 : Option W) (N P q X : Nat) (ρ : Rho) : Prop := ∃ a2 a7 a8, ρ = [w1, w2, a2, some (.ref N), some (.ref P), some (iw q), some (.ref X), a7, a8]
theorem fill_S {h : Store} {N P X q B n : Nat} {rs ps : List Nat} {A : List (List Fr)} {x0 : List Fr} {w1 w2 : Option W} {ρ : Rho} (a : Rd2 h N P rs A ps) (o : Off X N P rs) (e : own? h X = some (x0.map fw)) (hx : x0.length = q) (hA : A.length = n) (hp : ps.length = n) (hps : ∀ p ∈ ps, p < q)
    (m : Mat B (q + 1) A) (s : ShS w1 w2 N P q X ρ) :
    ∃ ρ2, forL [(N, rs.map W.ref), (P, ps.map iw)] (.tp [.nm 2, .nm 7]) fillS (zipW (rs.map W.ref) (ps.map iw)) ρ h = .next ρ2 (h.set X (.lst (((List.zip A ps).foldl (setS q) x0).map fw))) ∧ ShS w1 w2 N P q X ρ2 := by
  have hr : rs.length = n := a.len.trans hA
  rw [zipW_two, zip_range2 0 0 hr hp, zip_range2 [] 0 hA hp, List.map_map, List.foldl_map]
  have st0 : h = h.set X (.lst (x0.map fw)) := (set_same e).symm
  have key := forL_fold (g := [(N, rs.map W.ref), (P, ps.map iw)]) (T := .tp [.nm 2, .nm 7]) (body := fillS) (enc := fun i => W.tup [.ref ((rs[i]?).getD 0), iw ((ps[i]?).getD 0)]) (st := fun x : List Fr => h.set X (.lst (x.map fw))) (Sh := ShS w1 w2 N P q X) (Iv := fun x => x.length = q)
    (f := fun x i => setS q x ((A[i]?).getD [], (ps[i]?).getD 0)) (fun x _ => gdOk_two (lst_own (own_other a.rows o.n)) (lst_own (own_other a.piv o.p))) (List.range n) x0 ρ (fun i hi x ρ hx ⟨a2, a7, a8, e2⟩ => by
      subst e2
      have hi := List.mem_range.mp hi
      obtain ⟨r1, r2⟩ := get_dd 0 (show i < rs.length by omega)
      obtain ⟨p1, p2⟩ := get_dd 0 (show i < ps.length by omega)
      obtain ⟨m1, m2⟩ := get_dd ([] : List Fr) (show i < A.length by omega)
      have b := a.set o (.lst (x.map fw))
      have row := b.row i _ _ r1 m1
      obtain ⟨t1, t2⟩ := get_d (show q < ((A[i]?).getD []).length by rw [m.len _ m2]; exact Nat.lt_succ_self q)
      have ix : ixW (h.set X (.lst (x.map fw))) (.ref ((rs[i]?).getD 0)) (.int (q : Int)) = some (fw (((A[i]?).getD [])[q]?.getD (0, 1))) := by
        rw [(lst_of_own row).2.2.2.2]
        exact atI_map t1
      have ow := own_set (ws := x.map fw) e
      have n1 : ixN x.length (((ps[i]?).getD 0 : Nat) : Int) = some ((ps[i]?).getD 0) := ixN_at (by rw [hx]; exact hps _ p2)
      refine ⟨_, bind_tp2 _ _ _ _ _, [w1, w2, some (.ref ((rs[i]?).getD 0)), some (.ref N), some (.ref P), some (iw q), some (.ref X), some (iw ((ps[i]?).getD 0)), a8], ?_, ⟨_, _, _, rfl⟩, by unfold setS; rw [List.length_set]; exact hx⟩
      simp only [iw] at *
      simp [fillS, ix, ow, n1, setS, List.map_set]) hx s
  obtain ⟨ρ2, k1, k2, _⟩ := key
  rw [← st0] at k1
  exact ⟨ρ2, k1, k2⟩
/-- a table and its right side, whose reduction stays within the bounds -/
structure Fit2 (L q : Nat) (T : List (List Fr)) (b : List Fr) : Prop where
  tab : Tab L q T
  few : L ≤ 1000000000
  len : b.length = T.length
  good : ∀ c ∈ b, Good L c
  bits : ∀ s, s < T.length → s < q + 1 → bits L s ≤ 20000000
theorem aug_len {T : List (List Fr)} {b : List Fr} (h : b.length = T.length) : (aug T b).length = T.length := by
  unfold aug
  rw [List.length_zipWith, h, Nat.min_self]
theorem aug_mat {L q : Nat} {T : List (List Fr)} {b : List Fr} (f : Fit2 L q T b) : Mat L (q + 1) (aug T b) := by
  have key : ∀ r ∈ aug T b, ∃ row ∈ T, ∃ c ∈ b, r = row ++ [c] := fun r hr => by
    obtain ⟨i, hi, e⟩ := List.getElem_of_mem hr
    unfold aug at hi e
    rw [List.length_zipWith] at hi
    rw [List.getElem_zipWith] at e
    exact ⟨T[i]'(by omega), List.getElem_mem _, b[i]'(by omega), List.getElem_mem _, e.symm⟩
  refine ⟨fun r hr => ?_, fun r hr x hx => ?_⟩
  · obtain ⟨row, h1, c, h2, rfl⟩ := key r hr
    rw [List.length_append, f.tab.len row h1]
    rfl
  · obtain ⟨row, h1, c, h2, rfl⟩ := key r hr
    rcases List.mem_append.mp hx with z | z
    · exact f.tab.good row h1 x z
    · rw [List.mem_singleton.mp z]
      exact f.good c h2
theorem comp_aug {call : CallT} {big : Bool} {h : Store} {T : List (List Fr)} {b : List Fr} {w1 w2 : Option W} {a3 a4 a5 a6 a7 : Option W} (hT : T.length ≤ 40) (hr : ∀ r ∈ T, r.length ≤ 40) : compL [] (.tp [.nm 2, .nm 8]) cTrue (cBin big .Add (cVar 2) (cTup (cCons (cVar 8) cNil))) [w1, w2, none, a3, a4, a5, a6, a7, none] (zipW (T.map rw) (b.map fw)) [] h = .ok ((aug T b).map rw) h := by
  have hl : (List.zip T b).length ≤ 16777216 := by
    rw [List.length_zip]
    exact Nat.le_trans (Nat.min_le_left _ _) (Nat.le_trans hT (by decide))
  rw [zipW_two, comp_map (f := fun p => rw (p.1 ++ [p.2])) (List.zip T b) hl fun p hp => ?_]
  · unfold aug
    rw [← List.map_uncurry_zip_eq_zipWith, List.map_map]
    rfl
  · refine ⟨_, bind_tp2 _ _ _ _ _, rfl, ?_⟩
    have hm := (List.of_mem_zip hp).1
    have l40 := hr p.1 hm
    have le : p.1.length + 1 ≤ 16777216 := Nat.le_trans (Nat.succ_le_succ l40) (by decide)
    simp [rw, le]
end K03
end
section
set_option Elab.async false
set_option linter.all false
set_option maxRecDepth 100000
set_option maxHeartbeats 2000000
namespace K03
open PySem PySem.Spec Wv L2
def solA (T : List (List Fr)) (b : List Fr) (q : Nat) : List (List Fr) := redOf (aug T b) (q + 1)
def solP (T : List (List Fr)) (b : List Fr) (q : Nat) : List Nat := (elimT (aug T b) (q + 1)).2
def solW (T : List (List Fr)) (b : List Fr) (q : Nat) : W := if q ∈ solP T b q then .non else rw (solv (solA T b q) (solP T b q) q)
theorem flat_solW (T : List (List Fr)) (b : List Fr) (q : Nat) : flatR (solW T b q) = true := by
  unfold solW
  split
  · rfl
  · exact flatR_tup (fun x => rfl) _
theorem c_solof {K L q : Nat} (hK : 40 ≤ K) {r : List Fr} {T : List (List Fr)} {b : List Fr} (f : Fit2 L q (r :: T) b) (h : Store) : callK prg (K + 1) "solution_of" [tw (r :: T), rw b] h = .ok (solW (r :: T) b q) h := by
  obtain ⟨k, rfl⟩ : ∃ z, K = z + 2 := ⟨K - 2, by omega⟩
  have q1 := f.tab.q1
  have q40 := f.tab.q40
  have few := f.tab.few
  have hr : r.length = q := f.tab.len r List.mem_cons_self
  have am := aug_mat f
  have al := aug_len f.len
  have c0 := comp_aug (call := callK prg (k + 2)) (big := true) (h := h) (T := r :: T) (b := b) (w1 := some (tw (r :: T))) (w2 := some (rw b)) (a3 := none) (a4 := none) (a5 := none) (a6 := none) (a7 := none) few (fun s hs => by rw [f.tab.len s hs]; exact q40)
  unfold solW solA solP
  obtain ⟨r', T', ea⟩ : ∃ r' T', aug (r :: T) b = r' :: T' := by
    cases e : aug (r :: T) b with
    | nil => rw [e] at al; cases al
    | cons x y => exact ⟨x, y, rfl⟩
  rw [ea] at am al c0 ⊢
  have w0 := own_new h ((r' :: T').map rw)
  have hl0 : (r' :: T').length = (r :: T).length := al
  obtain ⟨h2, N, P, e, R, n1, n2, n3, m⟩ := c_reduced (K := k + 1) (L := L) (q := q + 1) (by omega) (inT_lst (by omega) (am.len r' List.mem_cons_self) w0) am (by omega) (by omega) (fun s h1 h2 => f.bits s (by omega) h2)
  have hb := bits_le (L := L) (n := (r :: T).length) (q := q + 1) (by simp) (by omega) f.bits (show (elimT (r' :: T') (q + 1)).2.length ≤ (r :: T).length by omega) n3
  obtain ⟨rs, rd0⟩ := R.rd
  have rd : Rd2 h2 N P rs (redOf (r' :: T') (q + 1)) (elimT (r' :: T') (q + 1)).2 := rd0
  clear rd0
  have lA : (redOf (r' :: T') (q + 1)).length = (elimT (r' :: T') (q + 1)).2.length := by
    show (List.take _ _).length = _
    rw [List.length_take, n2]
    exact Nat.min_eq_left n1
  have hps : ∀ p ∈ (elimT (r' :: T') (q + 1)).2, p < q + 1 := elimT_lt _ (q + 1)
  have mA : Mat (bits L (elimT (r' :: T') (q + 1)).2.length) (q + 1) (redOf (r' :: T') (q + 1)) := m.take _
  have ol : Old h h2 := by
    obtain ⟨t, e⟩ := R.old
    exact ⟨_, by rw [e, List.append_assoc]⟩
  have hh : h.length ≤ h2.length := by
    obtain ⟨t, rfl⟩ := ol
    simp
  have wd := c_width (k + 1) (r := r) (T := T) h2
  rw [hr] at wd
  have inn := in_nats (j := q) rd.piv
  generalize hA : redOf (r' :: T') (q + 1) = A at *
  generalize hps' : (elimT (r' :: T') (q + 1)).2 = ps at *
  have eb : b_solution_of (callK prg (k + 2)) true = (sSeq (sAsg (cCall (callK prg (k + 2)) 1 "reduced_of" (cCons (cFresh (cComp (cItS zipOf (cCons (cVar 0) (cCons (cVar 1) cNil))) [2, 8] (.tp [(.nm 2), (.nm 8)]) cTrue (cBin true .Add (cVar 2) (cTup (cCons (cVar 8) cNil))))) cNil)) (gTp 2 (gsCons (gNm 3) (gsCons (gNm 4) gsNil))))
    (sSeq (sAsg (cCall (callK prg (k + 2)) 1 "width_of" (cCons (cVar 0) cNil)) (gNm 5))
    (sSeq (sIf (tcCmp .In (cVar 5) (cVar 4)) (sSeq (sRet (cVal .non)) sSkip) sSkip)
    (sSeq (sAsg (cBin true .Mult (cFresh (cLst (cCons (cVal (.tup [(.int 0), (.int 1)])) cNil))) (cVar 5)) (gNm 6))
    (sSeq (sFor (cItS zipOf (cCons (cVar 3) (cCons (cVar 4) cNil))) (.tp [(.nm 2), (.nm 7)]) fillS)
    (sSeq (sRet (cQ1 tupQ (cSeqV (cVar 6)))) sSkip)))))) := rfl
  have z0 : zipOf h [tw (r :: T), rw b] = some (zipW ((r :: T).map rw) (b.map fw), []) := rfl
  simp only [List.map_cons] at c0 e z0
  rw [k_solution_of, decide_eq_true (show 32 ≤ k + 2 by omega), eb]
  by_cases c : q ∈ ps
  · rw [if_pos c]
    obtain ⟨t, rfl⟩ := ol
    simp [startR, z0, c0, e, wd, inn, c]
    exact cutR_app (w := .non) rfl
  · rw [if_neg c]
    have b1 := rd.app [Ob.lst [fw (0, 1)]]
    have w1 := own_new h2 [fw (0, 1)]
    have ol1 := ol.app [Ob.lst [fw (0, 1)]]
    have l1 : (h2 ++ [Ob.lst [fw (0, 1)]]).length = h2.length + 1 := by simp
    generalize hh1 : h2 ++ [Ob.lst [fw (0, 1)]] = h3 at b1 w1 ol1 l1
    have w2 := own_new h3 ((List.replicate q ((0, 1) : Fr)).map fw)
    have b2 := b1.app [Ob.lst ((List.replicate q ((0, 1) : Fr)).map fw)]
    have oX := b1.off (X := h3.length) (Nat.le_refl _)
    have ol2 := ol1.app [Ob.lst ((List.replicate q ((0, 1) : Fr)).map fw)]
    have opm : opBin true .Mult (.ref h2.length) (.int (q : Int)) h3 = some (.ref h3.length, h3 ++ [Ob.lst ((List.replicate q ((0, 1) : Fr)).map fw)]) := by
      have z : opBin true .Mult = opMul := rfl
      rw [z]
      unfold opMul
      dsimp only
      rw [w1]
      dsimp only
      rw [if_pos ⟨by omega, by omega, by simp; exact Nat.le_trans q40 (by decide)⟩, Int.toNat_natCast, flat_rep, List.map_replicate]
    have X0 : h.length ≤ h3.length := by omega
    generalize hh4 : h3 ++ [Ob.lst ((List.replicate q ((0, 1) : Fr)).map fw)] = h4 at b2 w2 ol2 opm
    obtain ⟨ρ4, f1, f2⟩ := fill_S (w1 := some (tw (r :: T))) (w2 := some (rw b)) b2 oX w2 List.length_replicate lA rfl (fun p hp => by
      have := hps p hp
      have : p ≠ q := fun z => c (z ▸ hp)
      omega) mA (ρ := [some (tw (r :: T)), some (rw b), none, some (.ref N), some (.ref P), some (iw q), some (.ref h3.length), none, none]) ⟨_, _, _, rfl⟩
    obtain ⟨d2, d7, d8, rfl⟩ := f2
    have w5 := own_set (ws := (solv A ps q).map fw) w2
    have ol5 := ol2.set X0 (.lst ((solv A ps q).map fw))
    have f1' : forL [(N, rs.map W.ref), (P, ps.map iw)] (.tp [.nm 2, .nm 7]) fillS (zipW (rs.map W.ref) (ps.map iw)) [some (tw (r :: T)), some (rw b), none, some (.ref N), some (.ref P), some (iw q), some (.ref h3.length), none, none] h4 = .next _ (h4.set h3.length (.lst ((solv A ps q).map fw))) := f1
    generalize hh5 : h4.set h3.length (.lst ((solv A ps q).map fw)) = h5 at w5 ol5 f1'
    obtain ⟨y1, y2, y3, y4, y5⟩ := lst_of_own w5
    have z1 : zipOf h4 [.ref N, .ref P] = some (zipW (rs.map W.ref) (ps.map iw), [(N, rs.map W.ref), (P, ps.map iw)]) := by
      simp [zipOf, lst_own b2.rows, lst_own b2.piv]
    have hh1' : h2 ++ [Ob.lst [W.tup [.int 0, .int 1]]] = h3 := hh1
    obtain ⟨t, rfl⟩ := ol5
    simp only [iw] at *
    simp [startR, z0, c0, e, wd, inn, c, hh1', opm, z1, f1', y2]
    rw [cutR_app]
    · simp [rw]
    · exact flat_below _ _ (flatR_tup (fun x => rfl) _)
end K03
end
section
set_option Elab.async false
set_option linter.all false
set_option maxRecDepth 100000
set_option maxHeartbeats 2000000
namespace K03
open PySem PySem.Spec Wv L2
theorem c_solved {K L q : Nat} (hK : 44 ≤ K) {r : List Fr} {T : List (List Fr)} {b : List Fr} (f : Fit2 L q (r :: T) b) (h : Store) : callK prg (K + 1) "table_solved" [tw (r :: T), rw b] h = .ok (solW (r :: T) b q) h := by
  obtain ⟨k, rfl⟩ : ∃ z, K = z + 4 := ⟨K - 4, by omega⟩
  have few := f.tab.few
  have hl : b.length ≤ 16777216 := by
    rw [f.len]
    exact Nat.le_trans few (by decide)
  have c0 : compL [] (.nm 2) cTrue (cCall (callK prg (k + 4)) 1 "is_ratio" (cCons (cVar 2) cNil)) [some (tw (r :: T)), some (rw b), none] (b.map fw) [] h = .ok (b.map fun _ => .bl true) h := by
    refine comp_map b hl fun x hx => ⟨_, bind_nm _ _ _, rfl, ?_⟩
    simp [c_ratio (k + 2) h f.few (f.good x hx)]
  have ty : tyW h (rw b) = some "tuple" := rfl
  have l1 : lenV (rw b) h = some (.int (b.length : Int), h) := by
    show some (W.int ((b.map fw).length : Int), h) = _
    rw [List.length_map]
  have l2 : lenV (tw (r :: T)) h = some (.int (b.length : Int), h) := by
    show some (W.int (((r :: T).map rw).length : Int), h) = _
    rw [List.length_map, f.len]
  have cs := c_solof (K := k + 3) (by omega) f h
  rw [k_table_solved]
  simp [b_table_solved, startR, c_check k h f.few f.tab, ty, l1, l2, it_rw, c0, all_map, cs, cutR_same]
/-! ### the law's solution -/
theorem spot_none {j : Nat} : ∀ {ps : List Nat}, j ∉ ps → spot j ps = none
  | [], _ => rfl
  | p :: ps, h => by
    unfold spot
    rw [if_neg (fun z => h (by rw [← z]; exact List.mem_cons_self)), spot_none fun z => h (List.mem_cons_of_mem _ z)]
    rfl
def valS (A : List (List Fr)) (q i : Nat) : Fr := (((A[i]?).getD [])[q]?).getD (0, 1)
theorem fold_at (q j : Nat) : ∀ (ps : List Nat) (A : List (List Fr)) (x : List Fr), A.length = ps.length → ps.Nodup → j < x.length → ((List.zip A ps).foldl (setS q) x)[j]? = some (match spot j ps with
    | some i => valS A q i
    | none => (x[j]?).getD (0, 1))
  | [], A, x, hl, _, hj => by
    have e : A = [] := List.eq_nil_of_length_eq_zero hl
    subst e
    show x[j]? = some ((x[j]?).getD (0, 1))
    rw [List.getElem?_eq_getElem hj]
    rfl
  | p :: ps, [], x, hl, _, _ => by cases hl
  | p :: ps, a :: A, x, hl, nd, hj => by
    rw [List.zip_cons_cons, List.foldl_cons]
    obtain ⟨n1, n2⟩ := List.nodup_cons.mp nd
    have ih := fold_at q j ps A (setS q x (a, p)) (by simpa using hl) n2 (by unfold setS; rw [List.length_set]; exact hj)
    rw [ih]
    refine congrArg some ?_
    have sp : spot j (p :: ps) = if p = j then some 0 else (spot j ps).map (· + 1) := rfl
    rw [sp]
    by_cases e : p = j
    · subst e
      rw [if_pos rfl, spot_none n1]
      dsimp only
      unfold setS
      rw [List.getElem?_set_self hj]
      rfl
    · rw [if_neg e]
      cases q2 : spot j ps with
      | none =>
        dsimp only [Option.map_none]
        unfold setS
        rw [List.getElem?_set_ne e]
      | some i => rfl
theorem solv_eq {A : List (List Fr)} {ps : List Nat} {q : Nat} (hl : A.length = ps.length) (nd : ps.Nodup) : solv A ps q = (List.range q).map fun j => match spot j ps with
    | some i => valS A q i
    | none => (0, 1) := by
  refine List.ext_getElem? fun j => ?_
  by_cases hj : j < q
  · unfold solv
    rw [fold_at q j ps A _ hl nd (by rw [List.length_replicate]; exact hj), List.getElem?_map, List.getElem?_range hj]
    rw [List.getElem?_replicate, if_pos hj]
    rfl
  · rw [List.getElem?_eq_none (by unfold solv; rw [setS_length, List.length_replicate]; omega), List.getElem?_eq_none (by rw [List.length_map, List.length_range]; omega)]
theorem elimT_nodup (M : List (List Fr)) : ∀ i : Nat, (elimT M i).2.Nodup
  | 0 => List.nodup_nil
  | i + 1 => by
    rw [elimT_succ]
    unfold elim1
    split
    · exact elimT_nodup M i
    · refine List.nodup_append.mpr ⟨elimT_nodup M i, List.pairwise_singleton _ _, fun a ha b hb e => ?_⟩
      rw [List.mem_singleton.mp hb] at e
      have := elimT_lt M i a ha
      omega
end K03
end
section
set_option Elab.async false
set_option linter.all false
set_option maxRecDepth 100000
set_option maxHeartbeats 2000000
namespace K03
open PySem PySem.Spec Wv L2
theorem aug_range {T : List (List Fr)} {b : List Fr} {n : Nat} (h1 : T.length = n) (h2 : b.length = n) : aug T b = (List.range n).map fun i => (T[i]?).getD [] ++ [(b[i]?).getD (0, 1)] := by
  unfold aug
  rw [← List.map_uncurry_zip_eq_zipWith, zip_range2 [] (0, 1) h1 h2, List.map_map]
  rfl
theorem c_lsol {K L q : Nat} (hK : 44 ≤ K) {r : List Fr} {T : List (List Fr)} {b : List Fr} (f : Fit2 L q (r :: T) b) (h : Store) : callK prg (K + 1) "_law_solution" [tw (r :: T), rw b] h = .ok (solW (r :: T) b q) h := by
  obtain ⟨k, rfl⟩ : ∃ z, K = z + 1 := ⟨K - 1, by omega⟩
  have q1 := f.tab.q1
  have q40 := f.tab.q40
  have few := f.tab.few
  have hr : r.length = q := f.tab.len r List.mem_cons_self
  have am := aug_mat f
  have al := aug_len f.len
  have hn1000 : (r :: T).length ≤ 1000 := Nat.le_trans few (by decide)
  have hl : (List.range (r :: T).length).length ≤ 16777216 := by
    rw [List.length_range]
    exact Nat.le_trans few (by decide)
  have c0 : compL [] (.nm 6) cTrue (cBin true .Add (cIx (cVar 0) (cVar 6)) (cTup (cCons (cIx (cVar 1) (cVar 6)) cNil))) [some (tw (r :: T)), some (rw b), none, none, none, none, none] ((List.range (r :: T).length).map iw) [] h = .ok ((aug (r :: T) b).map rw) h := by
    rw [aug_range rfl f.len, List.map_map]
    refine comp_map _ hl fun i hi => ?_
    have hi := List.mem_range.mp hi
    obtain ⟨m1, m2⟩ := get_dd ([] : List Fr) hi
    obtain ⟨m3, m4⟩ := get_dd ((0, 1) : Fr) (show i < b.length by rw [f.len]; exact hi)
    have i1 : ixW h (tw (r :: T)) (.int (i : Int)) = some (rw (((r :: T)[i]?).getD [])) := atI_map m1
    have i2 : ixW h (rw b) (.int (i : Int)) = some (fw ((b[i]?).getD (0, 1))) := atI_map m3
    have ad : opBin true .Add (rw (((r :: T)[i]?).getD [])) (.tup [fw ((b[i]?).getD (0, 1))]) h = some (rw (((r :: T)[i]?).getD [] ++ [(b[i]?).getD (0, 1)]), h) := by
      have l40 := f.tab.len _ m2
      have le : q + [fw ((b[i]?).getD (0, 1))].length ≤ 16777216 := Nat.le_trans (Nat.add_le_add_right q40 1) (by decide)
      unfold rw
      rw [s_addt, List.length_map, l40, if_pos le, List.map_append]
      rfl
    refine ⟨_, bind_nm _ _ _, rfl, ?_⟩
    simp only [iw] at *
    simp [i1, i2, ad]
  unfold solW solA solP
  obtain ⟨r', T', ea⟩ : ∃ r' T', aug (r :: T) b = r' :: T' := by
    cases e : aug (r :: T) b with
    | nil => rw [e] at al; cases al
    | cons x y => exact ⟨x, y, rfl⟩
  rw [ea] at am al c0 ⊢
  have hl0 : (r' :: T').length = (r :: T).length := al
  obtain ⟨h2, P, e, R⟩ := c_lsteps (K := k) (L := L) (q := q + 1) (by omega) (h := h) am (by omega) (by omega) (fun s h1 h2 => f.bits s (by omega) h2)
  -- what is known of the numbers
  have w0 := own_new h ((r' :: T').map rw)
  obtain ⟨_, _, _, _, _, n1, n2, n3, m⟩ := c_reduced (K := k) (L := L) (q := q + 1) (by omega) (inT_lst (by omega) (am.len r' List.mem_cons_self) w0) am (by omega) (by omega) (fun s h1 h2 => f.bits s (by omega) h2)
  have lA : (redOf (r' :: T') (q + 1)).length = (elimT (r' :: T') (q + 1)).2.length := by
    show (List.take _ _).length = _
    rw [List.length_take, n2]
    exact Nat.min_eq_left n1
  have nd : (elimT (r' :: T') (q + 1)).2.Nodup := elimT_nodup _ _
  have mA : Mat (bits L (elimT (r' :: T') (q + 1)).2.length) (q + 1) (redOf (r' :: T') (q + 1)) := m.take _
  have eP := R.piv
  have inn := in_nats (j := q) eP
  have e' : callK prg (k + 1) "_law_steps" [tw (r' :: T')] h = .ok (.tup [tw (redOf (r' :: T') (q + 1)), .ref P]) h2 := e
  obtain ⟨t, ht⟩ := R.old
  have pn := pyd_nats eP
  generalize hA : redOf (r' :: T') (q + 1) = A at lA mA e' ⊢
  generalize hps' : (elimT (r' :: T') (q + 1)).2 = ps at lA nd eP inn pn ⊢
  have lenT : lenV (tw (r :: T)) h = some (.int ((r :: T).length : Int), h) := by
    show some _ = _
    rw [List.length_map]
  have r1 : rng1 [.int ((r :: T).length : Int)] = some ((List.range (r :: T).length).map iw) := rng1_nat (Nat.lt_of_le_of_lt hn1000 (by decide))
  have r2 : rng1 [.int (q : Int)] = some ((List.range q).map iw) := rng1_nat (Nat.lt_of_le_of_lt q40 (by decide))
  have lr : lenV (rw r) h2 = some (.int (q : Int), h2) := by
    show some _ = _
    rw [List.length_map, hr]
  have eb : ∀ call : CallT, b__law_solution call true = (sSeq (sAsg (cCall call 1 "_law_steps" (cCons (cQ1 tupQ (cSeqF (cComp (cItR rng1 (cCons (cV1 lenV (cVar 0)) cNil)) [6] (.nm 6) cTrue (cBin true .Add (cIx (cVar 0) (cVar 6)) (cTup (cCons (cIx (cVar 1) (cVar 6)) cNil)))))) cNil)) (gTp 2 (gsCons (gNm 2) (gsCons (gNm 3) gsNil))))
    (sSeq (sAsg (cV1 lenV (cIx (cVar 0) (cVal (.int 0)))) (gNm 4))
    (sSeq (sIf (tcCmp .In (cVar 4) (cVar 3)) (sSeq (sRet (cVal .non)) sSkip) sSkip)
    (sSeq (sRet (cQ1 tupQ (cSeqF (cComp (cItR rng1 (cCons (cVar 4) cNil)) [5] (.nm 5) cTrue (cIf (tcCmp .In (cVar 5) (cVar 3)) (cIx (cIx (cVar 2) (cIndex (cVar 3) (cVar 5))) (cVar 4)) (cTup (cCons (cVal (.int 0)) (cCons (cVal (.int 1)) cNil)))))))) sSkip)))) := fun _ => rfl
  generalize (r :: T).length = nn at lenT r1 c0
  have e2 : callK prg (k + 1) "_law_steps" [.tup ((r' :: T').map rw)] h = .ok (.tup [tw A, .ref P]) h2 := e'
  generalize (r' :: T').map rw = X at c0 e2
  rw [k__law_solution, decide_eq_true (show 32 ≤ k + 1 by omega), eb]
  by_cases c : q ∈ ps
  · rw [if_pos c]
    subst ht
    simp [startR, lenT, r1, c0, e2, ix_tw0, lr, inn, c]
    rw [cutR_app (w := .non) rfl]
  · rw [if_neg c]
    have hq2 : (List.range q).length ≤ 16777216 := by
      rw [List.length_range]
      exact Nat.le_trans q40 (by decide)
    have c1 : compL [] (.nm 5) cTrue (cIf (tcCmp .In (cVar 5) (cVar 3)) (cIx (cIx (cVar 2) (cIndex (cVar 3) (cVar 5))) (cVar 4)) (cTup (cCons (cVal (.int 0)) (cCons (cVal (.int 1)) cNil)))) [some (tw (r :: T)), some (rw b), some (tw A), some (.ref P), some (iw q), none, none] ((List.range q).map iw) [] h2 = .ok ((solv A ps q).map fw) h2 := by
      rw [solv_eq lA nd, List.map_map]
      refine comp_map _ hq2 fun j hj => ?_
      have hj := List.mem_range.mp hj
      have inj := in_nats (j := j) eP
      refine ⟨_, bind_nm _ _ _, rfl, ?_⟩
      by_cases cj : j ∈ ps
      · obtain ⟨i, s1, s2⟩ := spot_mem cj
        have hi : i < A.length := by
          rw [lA]
          exact (List.getElem?_eq_some_iff.mp s2).1
        obtain ⟨m1, m2⟩ := get_dd ([] : List Fr) hi
        obtain ⟨t1, t2⟩ := get_d (show q < ((A[i]?).getD []).length by rw [mA.len _ m2]; exact Nat.lt_succ_self q)
        have i1 : ixW h2 (tw A) (.int (i : Int)) = some (rw ((A[i]?).getD [])) := atI_map m1
        have i2 : ixW h2 (rw ((A[i]?).getD [])) (.int (q : Int)) = some (fw (valS A q i)) := atI_map t1
        have ci : cIndex (cVar 3) (cVar 5) [some (tw (r :: T)), some (rw b), some (tw A), some (.ref P), some (iw q), some (iw j), none] h2 = .ok (.int (i : Int)) h2 := by
          have l3 := (lst_of_own eP).2.2.2.1
          unfold cIndex
          simp [l3, iw, pn, pyd_int, firstEq_nats, s1]
        simp only [iw] at *
        simp [inj, cj, ci, i1, i2, s1]
      · simp only [iw] at *
        simp [inj, cj, spot_none cj, fw]
    subst ht
    simp only [iw] at c1
    simp [startR, lenT, r1, c0, e2, ix_tw0, lr, inn, c, r2, c1]
    rw [cutR_app]
    · rfl
    · exact flat_below _ _ (flatR_tup (fun x => rfl) _)
end K03
end
section
set_option Elab.async false
set_option linter.all false
set_option maxRecDepth 100000
set_option maxHeartbeats 2000000
namespace K03
open PySem PySem.Spec Wv L2
/-- plain data of this depth -/
def dep : Nat → W → Bool
  | _, .int _ => true
  | _, .non => true
  | _, .bl _ => true
  | n + 1, .tup ws => ws.all (dep n) && decide (ws.length ≤ 1000)
  | _, _ => false
theorem c_same : ∀ (d : Nat) (w : W) (k : Nat) (h : Store), d ≤ k → dep d w = true → callK prg (k + 1) "_law_same" [w, w] h = .ok (.bl true) h
  | d, .int i, k, h, _, _ => by
    rw [k__law_same]
    simp [b__law_same, startR, cutR_same]
  | d, .non, k, h, _, _ => by
    rw [k__law_same]
    simp [b__law_same, startR, cutR_same]
  | d, .bl b, k, h, _, _ => by
    rw [k__law_same]
    simp [b__law_same, startR, cutR_same]
  | d + 1, .tup ws, k, h, hk, e => by
    obtain ⟨k, rfl⟩ : ∃ z, k = z + 1 := ⟨k - 1, by omega⟩
    unfold dep at e
    obtain ⟨e1, e2⟩ := Bool.and_eq_true_iff.mp e
    have e2 := of_decide_eq_true e2
    have hl : (List.range ws.length).length ≤ 16777216 := by
      rw [List.length_range]
      exact Nat.le_trans e2 (by decide)
    have c0 : compL [] (.nm 2) cTrue (cCall (callK prg (k + 1)) 2 "_law_same" (cCons (cIx (cVar 0) (cVar 2)) (cCons (cIx (cVar 1) (cVar 2)) cNil))) [some (.tup ws), some (.tup ws), none] ((List.range ws.length).map iw) [] h = .ok ((List.range ws.length).map fun _ => .bl true) h := by
      refine comp_map _ hl fun i hi => ?_
      have hi := List.mem_range.mp hi
      have i1 : atI ws (i : Int) = some ws[i] := by
        rw [atI_nat hi, List.getElem?_eq_getElem hi]
      have ih := c_same d ws[i] k h (by omega) (List.all_eq_true.mp e1 _ (List.getElem_mem hi))
      refine ⟨_, bind_nm _ _ _, rfl, ?_⟩
      simp only [iw]
      simp [i1, ih]
    have r1 : rng1 [.int (ws.length : Int)] = some ((List.range ws.length).map iw) := rng1_nat (Nat.lt_of_le_of_lt e2 (by decide))
    rw [k__law_same]
    simp [b__law_same, startR, r1, c0, all_map, cutR_same]
  | 0, .tup _, _, _, _, e => by unfold dep at e; cases e
  | d, .str _, _, _, _, e => by cases d <;> (unfold dep at e; cases e)
  | d, .ref _, _, _, _, e => by cases d <;> (unfold dep at e; cases e)
  | d, .glo _, _, _, _, e => by cases d <;> (unfold dep at e; cases e)
  | d, .kls _, _, _, _, e => by cases d <;> (unfold dep at e; cases e)
theorem c_same_mal (k : Nat) (h : Store) : callK prg (k + 1) "_law_same" [.str "malformed", .str "malformed"] h = .ok (.bl true) h := by
  have e : cmpW .Eq (.str "malformed") (.str "malformed") h = some true := by
    have z : cmpW .Eq (.str "malformed") (.str "malformed") h = cmpEq (.str "malformed") (.str "malformed") h := by
      unfold cmpW
      rfl
    have p : pyd h (.str "malformed") = some (.str "malformed") := pyd_of (by unfold toPy; rfl) (by decide +kernel) (by decide +kernel)
    rw [z]
    unfold cmpEq
    rw [p]
    dsimp only
    rw [show PyData.eqv (.str "malformed") (.str "malformed") = true by decide +kernel]
  rw [k__law_same]
  simp [b__law_same, startR, e, cutR_same]
/-! ### told, raised -/
theorem eq_told (h : Store) : cmpW .Eq (.str "told") (.str "told") h = some true := by
  have z : cmpW .Eq (.str "told") (.str "told") h = cmpEq (.str "told") (.str "told") h := by
    unfold cmpW
    rfl
  have p : pyd h (.str "told") = some (.str "told") := pyd_of (by unfold toPy; rfl) (by decide +kernel) (by decide +kernel)
  rw [z]
  unfold cmpEq
  rw [p]
  dsimp only
  rw [show PyData.eqv (.str "told") (.str "told") = true by decide +kernel]
theorem eq_raised (h : Store) : cmpW .Eq (.str "raised") (.str "raised") h = some true := by
  have z : cmpW .Eq (.str "raised") (.str "raised") h = cmpEq (.str "raised") (.str "raised") h := by
    unfold cmpW
    rfl
  have p : pyd h (.str "raised") = some (.str "raised") := pyd_of (by unfold toPy; rfl) (by decide +kernel) (by decide +kernel)
  rw [z]
  unfold cmpEq
  rw [p]
  dsimp only
  rw [show PyData.eqv (.str "raised") (.str "raised") = true by decide +kernel]
end K03
end
section
set_option Elab.async false
set_option linter.all false
set_option maxRecDepth 100000
set_option maxHeartbeats 2000000
namespace K03
open PySem PySem.Spec Wv L2
theorem ct_mal : prg.ct "Malformed" "Malformed" = some true := by kernel_rfl
theorem try_ap (ct : Catch) (c : Str) (b s : DenS) (ρ : Rho) (h : Store) : sTry ct c b s ρ h = match b ρ h with
  | .exc e ρ2 h2 => (match ct e.cls c with
    | some true => (match s ρ2 h2 with
      | .exc _ _ _ => .bad
      | o => o)
    | _ => .bad)
  | o => o := id rfl
section
variable {j : Nat} {f : Str} {a b v : W} {h : Store}
theorem c_told1 (hd : dfs f = some 1) (e : callK prg (j + 1) f [a] h = .ok v h) : callK prg (j + 2) "_law_told" [.glo f, .tup [a]] h = .ok (.tup [.str "told", v]) h := by
  rw [k__law_told]
  simp [b__law_told, startR, try_ap, hd, e, cutR_same]
theorem c_told2 (hd : dfs f = some 2) (e : callK prg (j + 1) f [a, b] h = .ok v h) : callK prg (j + 2) "_law_told" [.glo f, .tup [a, b]] h = .ok (.tup [.str "told", v]) h := by
  rw [k__law_told]
  simp [b__law_told, startR, try_ap, hd, e, cutR_same]
theorem c_told1x (hd : dfs f = some 1) (e : callK prg (j + 1) f [a] h = .exc ⟨"Malformed", none⟩ h) : callK prg (j + 2) "_law_told" [.glo f, .tup [a]] h = .ok (.tup [.str "raised", .str "malformed"]) h := by
  rw [k__law_told]
  simp [b__law_told, startR, try_ap, hd, e, ct_mal, cutR_same]
theorem c_told2x (hd : dfs f = some 2) (e : callK prg (j + 1) f [a, b] h = .exc ⟨"Malformed", none⟩ h) : callK prg (j + 2) "_law_told" [.glo f, .tup [a, b]] h = .ok (.tup [.str "raised", .str "malformed"]) h := by
  rw [k__law_told]
  simp [b__law_told, startR, try_ap, hd, e, ct_mal, cutR_same]
/-- told what is due -/
theorem c_tells {g : W} (hj : 6 ≤ j) (e : callK prg (j + 2) "_law_told" [.glo f, g] h = .ok (.tup [.str "told", v]) h) (d : dep 5 v = true) : callK prg (j + 3) "_law_tells" [.glo f, g, v] h = .ok (.bl true) h := by
  have s := c_same 5 v j h (by omega) d
  have t : callK prg (j + 2) "_law_is_told" [.tup [.str "told", v], v] h = .ok (.bl true) h := by
    rw [k__law_is_told]
    simp [b__law_is_told, startR, eq_told, s, cutR_same]
  rw [k__law_tells]
  simp [b__law_tells, startR, e, t, cutR_same]
theorem c_raises {g : W} (e : callK prg (j + 2) "_law_told" [.glo f, g] h = .ok (.tup [.str "raised", .str "malformed"]) h) : callK prg (j + 3) "_law_raises" [.glo f, g, .str "malformed"] h = .ok (.bl true) h := by
  have s := c_same_mal j h
  have t : callK prg (j + 2) "_law_is_raised" [.tup [.str "raised", .str "malformed"], .str "malformed"] h = .ok (.bl true) h := by
    rw [k__law_is_raised]
    simp [b__law_is_raised, startR, eq_raised, s, cutR_same]
  rw [k__law_raises]
  simp [b__law_raises, startR, e, t, cutR_same]
end
end K03
end
section
set_option Elab.async false
set_option linter.all false
set_option maxRecDepth 100000
set_option maxHeartbeats 2000000
namespace K03
open PySem PySem.Spec Wv L2
theorem cutR_set {w : W} {h t : Store} {S : Nat} {o : Ob} (b : belowW h.length w = true) (bo : belowO h.length o = true) : cutR h w (h.set S o ++ t) = .ok w (h.set S o) := by
  refine cutR_of b (by rw [List.length_set]) ?_ fun i x e => ?_
  · rw [List.take_left' (by rw [List.length_set])]
  · by_cases hi : S = i
    · subst hi
      have hl := (List.getElem?_eq_some_iff.mp e).1
      rw [List.length_set] at hl
      rw [List.getElem?_set_self hl] at e
      cases e
      exact .inr bo
    · rw [List.getElem?_set_ne hi] at e
      exact .inl e
/-- the state's two numbers -/
abbrev twoN (s0 s1 : Int) : Ob := .lst [.int s0, .int s1]
def StAt (h : Store) (S : Nat) : Prop := ∃ s0 s1, own? h S = some [.int s0, .int s1]
theorem two_below (n : Nat) (s0 s1 : Int) : belowO n (twoN s0 s1) = true := rfl
theorem StAt.set {h : Store} {S : Nat} (a : StAt h S) (s0 s1 : Int) : StAt (h.set S (twoN s0 s1)) S := by
  obtain ⟨x, y, e⟩ := a
  exact ⟨s0, s1, own_set e⟩
theorem StAt.app {h : Store} {S : Nat} (a : StAt h S) (t : Store) : StAt (h ++ t) S := by
  obtain ⟨x, y, e⟩ := a
  exact ⟨x, y, own_app e⟩
theorem cutR_set0 {w : W} {h : Store} {S : Nat} {o : Ob} (b : belowW h.length w = true) (bo : belowO h.length o = true) : cutR h w (h.set S o) = .ok w (h.set S o) := by
  have := cutR_set (t := []) (S := S) b bo
  rw [List.append_nil] at this
  exact this
theorem c_take {K : Nat} {S : Nat} {m : Int} {h : Store} (a : StAt h S) (h0 : 0 < m) (h1 : m < 1000) : ∃ v s0 s1, 0 ≤ v ∧ v < m ∧ callK prg (K + 1) "_law_take" [.ref S, .int m] h = .ok (.int v) (h.set S (twoN s0 s1)) := by
  obtain ⟨s0, s1, e⟩ := a
  have m0 : m ≠ 0 := by omega
  have dv : divOk m = true := by
    unfold divOk
    simp
    omega
  have d7 : divOk 7 = true := by decide
  have ix : ∀ i, ixW h (.ref S) (.int i) = atI [.int s0, .int s1] i := (lst_of_own e).2.2.2.2
  have mk : ∀ z : Int, mulOk z 48271 = true := fun z => by
    unfold mulOk
    have : decide ((48271 : Int).natAbs < 2 ^ 64) = true := by decide
    rw [this]
    simp
  rw [k__law_take]
  by_cases c : 0 < s0
  · refine ⟨s0.fmod m, s0.fdiv m, s1, Int.fmod_nonneg_of_pos _ h0, Int.fmod_lt_of_pos _ h0, ?_⟩
    have n0 : ixN 2 0 = some 0 := rfl
    simp [b__law_take, startR, ix, c, m0, dv, e, n0]
    exact cutR_set0 rfl rfl
  · have e2 := own_set (ws := [.int s0, .int ((s1 * 48271 + 11).fmod 2147483647)]) e
    have ix2 : ∀ i, ixW (h.set S (twoN s0 ((s1 * 48271 + 11).fmod 2147483647))) (.ref S) (.int i) = atI [.int s0, .int ((s1 * 48271 + 11).fmod 2147483647)] i := (lst_of_own e2).2.2.2.2
    refine ⟨(((s1 * 48271 + 11).fmod 2147483647).fdiv 7).fmod m, s0, (s1 * 48271 + 11).fmod 2147483647, Int.fmod_nonneg_of_pos _ h0, Int.fmod_lt_of_pos _ h0, ?_⟩
    have n1 : ixN 2 1 = some 1 := rfl
    simp [b__law_take, startR, ix, c, m0, d7, e, n1, mk, ix2]
    exact cutR_set0 rfl rfl
end K03
end
section
set_option Elab.async false
set_option linter.all false
set_option maxRecDepth 100000
set_option maxHeartbeats 2000000
namespace K03
open PySem PySem.Spec Wv L2
theorem c_drawn {K : Nat} (hK : 33 ≤ K) {S : Nat} {h : Store} (a : StAt h S) : ∃ x s0 s1, Good 3 x ∧ callK prg (K + 1) "_law_drawn" [.ref S] h = .ok (fw x) (h.set S (twoN s0 s1)) := by
  obtain ⟨k, rfl⟩ : ∃ z, K = z + 1 := ⟨K - 1, by omega⟩
  obtain ⟨v, s0, s1, v0, v1, e⟩ := c_take (K := k) (m := 13) a (by decide) (by decide)
  obtain ⟨w, t0, t1, w0, w1, e2⟩ := c_take (K := k) (m := 4) (a.set s0 s1) (by decide) (by decide)
  rw [List.set_set] at e2
  have sn : sz 3 (v - 6) := by
    unfold sz
    omega
  have sd : sz 3 (1 + w) := by
    unfold sz
    omega
  have hd : (1 + w : Int) ≠ 0 := by omega
  have fr := c_frac k (n := v - 6) (h.set S (twoN t0 t1)) (by omega) (by decide) sd hd
  refine ⟨low (v - 6) (1 + w), t0, t1, low_good hd sn sd, ?_⟩
  rw [k__law_drawn]
  simp [b__law_drawn, startR, e, e2, fr]
  exact cutR_set0 (flat_below _ _ rfl) rfl
theorem c_state {K : Nat} (ns : List Int) (hn : ns.length ≤ 63) : ∃ s0 s1, callK prg (K + 1) "_law_state" [.kls (ns.map W.int)] [] = .ok (.ref 1) [Ob.lst (ns.map W.int), twoN s0 s1] := by
  have mk1 : ∀ z : Int, mulOk z 1000003 = true := fun z => by
    unfold mulOk
    rw [show decide ((1000003 : Int).natAbs < 2 ^ 64) = true by decide]
    simp
  have mk2 : ∀ z : Int, mulOk z 48271 = true := fun z => by
    unfold mulOk
    rw [show decide ((48271 : Int).natAbs < 2 ^ 64) = true by decide]
    simp
  have sl : slW [] (.kls (ns.map W.int)) none (some 63) = some (.ref 0, [Ob.lst (ns.map W.int)]) := by
    show some (W.ref 0, [Ob.lst (cutW (ns.map W.int) none (some 63))]) = _
    have e1 : HT.sIx (ns.map W.int).length (ns.map W.int).length (some ((63 : Nat) : Int)) = ns.length := by
      rw [HT.sIx_nat, List.length_map]
      exact Nat.min_eq_right hn
    have e2 : cutW (ns.map W.int) none (some 63) = ns.map W.int := cutW_whole ⟨rfl, by rw [show (63 : Int) = ((63 : Nat) : Int) from rfl, e1, List.length_map]⟩
    rw [e2]
  have o1 : own? [Ob.lst (ns.map W.int)] 0 = some (ns.map W.int) := rfl
  obtain ⟨y1, y2, y3, y4, y5⟩ := lst_of_own o1
  obtain ⟨ρ2, f1, ⟨s, t, a3, e⟩, _⟩ := forL_fold (g := [(0, ns.map W.int)]) (T := .nm 3) (body := sSeq (sAsg (cBin (decide (32 ≤ K)) .Add (cBin (decide (32 ≤ K)) .Mult (cVar 1) (cVal (.int 1000003))) (cV1 absV1 (cVar 3))) (gNm 1))
    (sSeq (sAsg (cBin (decide (32 ≤ K)) .Mod (cV1 intV (cBin (decide (32 ≤ K)) .Add (cBin (decide (32 ≤ K)) .Mult (cVar 2) (cVal (.int 48271))) (cVar 3))) (cVal (.int 2147483647))) (gNm 2)) sSkip)) (enc := W.int) (st := fun _ : Unit => [Ob.lst (ns.map W.int)]) (Sh := fun ρ => ∃ s t a3, ρ = [some (.kls (ns.map W.int)), some (.int s), some (.int t), a3]) (Iv := fun _ => True) (f := fun s _ => s)
    (fun _ _ => gdOk_one (lst_own o1)) ns () [some (.kls (ns.map W.int)), some (.int 0), some (.int 1), none] (fun x _ _ ρ _ ⟨s, t, a3, e⟩ => by
      subst e
      refine ⟨_, bind_nm _ _ _, [some (.kls (ns.map W.int)), some (.int (s * 1000003 + (if x < 0 then -x else x))), some (.int ((t * 48271 + x).fmod 2147483647)), some (.int x)], ?_, ⟨_, _, _, rfl⟩, trivial⟩
      simp [mk1, mk2]) trivial ⟨_, _, _, rfl⟩
  subst e
  refine ⟨s, t, ?_⟩
  rw [k__law_state]
  simp [b__law_state, startR, sl, y1, f1]
  rw [cutR_keep rfl]
end K03
end
section
set_option Elab.async false
set_option linter.all false
set_option maxRecDepth 100000
set_option maxHeartbeats 2000000
namespace K03
open PySem PySem.Spec Wv L2
theorem sum_good {L : Nat} : ∀ (xs : List Fr) (x : Fr) (M : Nat), (∀ y ∈ xs, Good L y) → Good M x → Good (M + xs.length * (L + 1)) (xs.foldl addF x)
  | [], x, M, _, g => by simpa using g
  | y :: xs, x, M, h, g => by
    rw [List.foldl_cons, List.length_cons]
    have a := addF_good g (h y List.mem_cons_self)
    have b := sum_good xs (addF x y) (M + L + 1) (fun z hz => h z (List.mem_cons_of_mem _ hz)) a
    refine b.mono ?_
    rw [Nat.add_mul]
    omega
theorem c_total {K L X : Nat} (hK : 35 ≤ K) {h : Store} {xs : List Fr} (e : own? h X = some (xs.map fw)) (hg : ∀ y ∈ xs, Good L y) (hs : 1 + xs.length * (L + 1) + L ≤ 90000000) : callK prg (K + 1) "_law_total" [.ref X] h = .ok (fw (xs.foldl addF (0, 1))) h := by
  obtain ⟨k, rfl⟩ : ∃ z, K = z + 1 := ⟨K - 1, by omega⟩
  obtain ⟨y1, y2, y3, y4, y5⟩ := lst_of_own e
  have key : ∀ (ys : List Fr) (x : Fr) (M : Nat) (a2 : Option W), (∀ y ∈ ys, Good L y) → Good M x → M + ys.length * (L + 1) + L ≤ 90000000 → ∃ ρ2 a2', forL [(X, xs.map fw)] (.nm 2) (sSeq (sAsg (cCall (callK prg (k + 1)) 2 "_law_add" (cCons (cVar 1) (cCons (cVar 2) cNil))) (gNm 1)) sSkip) (ys.map fw) [some (.ref X), some (fw x), a2] h = .next ρ2 h ∧ ρ2 = [some (.ref X), some (fw (ys.foldl addF x)), a2'] := by
    intro ys
    induction ys with
    | nil =>
      intro x M a2 _ _ _
      refine ⟨_, a2, ?_, rfl⟩
      rw [List.map_nil]
      unfold forL
      rw [if_pos (gdOk_one (lst_own e))]
      rfl
    | cons y ys ih =>
      intro x M a2 hy gx hs
      rw [List.length_cons, Nat.add_mul] at hs
      have gy := hy y List.mem_cons_self
      have ad := c_add k h (by omega) gx gy (by omega)
      obtain ⟨ρ2, a2', f1, f2⟩ := ih (addF x y) (M + L + 1) (some (fw y)) (fun z hz => hy z (List.mem_cons_of_mem _ hz)) (addF_good gx gy) (by omega)
      refine ⟨ρ2, a2', ?_, f2⟩
      rw [List.map_cons]
      unfold forL
      rw [if_pos (gdOk_one (lst_own e)), bind_nm]
      dsimp only
      simp [ad, f1]
  obtain ⟨ρ2, a2', f1, f2⟩ := key xs (0, 1) 1 none hg good_zero hs
  subst f2
  rw [k__law_total]
  have z : fw (0, 1) = .tup [.int 0, .int 1] := rfl
  rw [z] at f1
  simp [b__law_total, startR, y1, f1, cutR_same]
def dotF (a b : List Fr) (n : Nat) : Fr := ((List.range n).map fun i => mulF ((a[i]?).getD (0, 1)) ((b[i]?).getD (0, 1))).foldl addF (0, 1)
theorem dot_good {L M n : Nat} {a b : List Fr} (ha : a.length = n) (hb : b.length = n) (ga : ∀ x ∈ a, Good L x) (gb : ∀ x ∈ b, Good M x) : Good (1 + n * (L + M + 1)) (dotF a b n) := by
  have := sum_good (L := L + M) ((List.range n).map fun i => mulF ((a[i]?).getD (0, 1)) ((b[i]?).getD (0, 1))) (0, 1) 1 (fun y hy => by
    obtain ⟨i, hi, rfl⟩ := List.mem_map.mp hy
    have hi := List.mem_range.mp hi
    exact mulF_good (ga _ (get_d (by omega)).2) (gb _ (get_d (by omega)).2)) good_zero
  rw [List.length_map, List.length_range] at this
  exact this
theorem c_dot {K L M n : Nat} (hK : 37 ≤ K) {h : Store} {a b : List Fr} {two : W} (ha : a.length = n) (hb : b.length = n) (ga : ∀ x ∈ a, Good L x) (gb : ∀ x ∈ b, Good M x) (hn : n ≤ 1000) (hs : 1 + n * (L + M + 1) + (L + M) ≤ 90000000) (ix : ∀ (i : Nat) (x : Fr), b[i]? = some x → ixW h two (.int (i : Int)) = some (fw x)) : callK prg (K + 1) "_law_dot" [rw a, two] h = .ok (fw (dotF a b n)) h := by
  obtain ⟨k, rfl⟩ : ∃ z, K = z + 1 := ⟨K - 1, by omega⟩
  have hl : (List.range n).length ≤ 16777216 := by
    rw [List.length_range]
    exact Nat.le_trans hn (by decide)
  have c0 : compL [] (.nm 2) cTrue (cCall (callK prg (k + 1)) 2 "_law_mul" (cCons (cIx (cVar 0) (cVar 2)) (cCons (cIx (cVar 1) (cVar 2)) cNil))) [some (rw a), some two, none] ((List.range n).map iw) [] h = .ok (((List.range n).map fun i => mulF ((a[i]?).getD (0, 1)) ((b[i]?).getD (0, 1))).map fw) h := by
    rw [List.map_map]
    refine comp_map _ hl fun i hi => ?_
    have hi := List.mem_range.mp hi
    obtain ⟨m1, m2⟩ := get_d (show i < a.length by omega)
    obtain ⟨m3, m4⟩ := get_d (show i < b.length by omega)
    have i1 : ixW h (rw a) (.int (i : Int)) = some (fw ((a[i]?).getD (0, 1))) := atI_map m1
    have i2 := ix i _ m3
    refine ⟨_, bind_nm _ _ _, rfl, ?_⟩
    simp only [iw]
    simp [i1, i2, c_lmul k h (by omega) (ga _ m2) (gb _ m4) (by omega)]
  have r1 : rng1 [.int (n : Int)] = some ((List.range n).map iw) := rng1_nat (Nat.lt_of_le_of_lt hn (by decide))
  have lw : lenV (rw a) h = some (.int (n : Int), h) := by
    show some _ = _
    rw [List.length_map, ha]
  have tot := c_total (K := k) (L := L + M) (X := h.length) (by omega) (own_new h _) (fun y hy => by
    obtain ⟨i, hi, rfl⟩ := List.mem_map.mp hy
    have hi := List.mem_range.mp hi
    exact mulF_good (ga _ (get_d (show i < a.length by omega)).2) (gb _ (get_d (show i < b.length by omega)).2)) (xs := (List.range n).map fun i => mulF ((a[i]?).getD (0, 1)) ((b[i]?).getD (0, 1))) (by
    rw [List.length_map, List.length_range]
    exact hs)
  have df : dotF a b n = ((List.range n).map fun i => mulF ((a[i]?).getD (0, 1)) ((b[i]?).getD (0, 1))).foldl addF (0, 1) := rfl
  rw [df]
  generalize (List.range n).map (fun i => mulF ((a[i]?).getD (0, 1)) ((b[i]?).getD (0, 1))) = xs at c0 tot ⊢
  rw [k__law_dot]
  simp [b__law_dot, startR, lw, r1, c0, tot]
  exact cutR_app (flat_below _ _ rfl)
end K03
end
section
set_option Elab.async false
set_option linter.all false
set_option maxRecDepth 100000
set_option maxHeartbeats 2000000
namespace K03
open PySem PySem.Spec Wv L2
/-- elements that leave something behind in the store -/
theorem comp_grow {T : Tgt} {tt : DenT} {te : Den} {ρ0 : Rho} {α : Type} {enc : α → W} {f : α → W} {h : Store} : ∀ (xs : List α) (acc : List W) (t : Store), acc.length + xs.length ≤ 1000 →
    (∀ x ∈ xs, ∀ t, ∃ ρ1, T.bind (enc x) ρ0 = some ρ1 ∧ tt ρ1 (h ++ t) = .ok true (h ++ t) ∧ ∃ t2, te ρ1 (h ++ t) = .ok (f x) (h ++ t2)) → ∃ t2, compL [] T tt te ρ0 (xs.map enc) acc (h ++ t) = .ok (acc ++ xs.map f) (h ++ t2)
  | [], acc, t, _, _ => ⟨t, by
    rw [List.map_nil]
    unfold compL
    rw [if_pos (gdOk_nil _)]
    simp⟩
  | x :: xs, acc, t, hl, hx => by
    obtain ⟨ρ1, e1, e2, t2, e3⟩ := hx x List.mem_cons_self t
    rw [List.length_cons] at hl
    obtain ⟨t3, e4⟩ := comp_grow xs (acc ++ [f x]) t2 (by rw [List.length_append]; simp; omega) fun y hy => hx y (List.mem_cons_of_mem _ hy)
    have lt : acc.length < 16777216 := Nat.lt_of_le_of_lt (show acc.length ≤ 1000 by omega) (by decide)
    refine ⟨t3, ?_⟩
    rw [List.map_cons]
    unfold compL
    rw [if_pos (gdOk_nil _), e1]
    dsimp only
    rw [e2]
    dsimp only
    rw [e3]
    dsimp only
    rw [if_pos lt, e4]
    simp
def colM (T : List (List Fr)) (j : Nat) : List Fr := T.map fun line => (line[j]?).getD (0, 1)
def prodM (S T : List (List Fr)) (q : Nat) : List (List Fr) := S.map fun row => (List.range q).map fun j => dotF row (colM T j) T.length
theorem c_product {K L M q : Nat} (hK : 39 ≤ K) {h : Store} {S : List (List Fr)} {r : List Fr} {T : List (List Fr)} (hS : S.length ≤ 40) (sl : ∀ s ∈ S, s.length = (r :: T).length) (sg : ∀ s ∈ S, ∀ x ∈ s, Good L x) (t : Tab M q (r :: T)) (hs : 1 + (r :: T).length * (L + M + 1) + (L + M) ≤ 90000000) :
    callK prg (K + 1) "_law_product" [tw S, tw (r :: T)] h = .ok (tw (prodM S (r :: T) q)) h := by
  obtain ⟨k, rfl⟩ : ∃ z, K = z + 1 := ⟨K - 1, by omega⟩
  have few := t.few
  have q40 := t.q40
  have hr : r.length = q := t.len r List.mem_cons_self
  have r1 : rng1 [.int (q : Int)] = some ((List.range q).map iw) := rng1_nat (Nat.lt_of_le_of_lt q40 (by decide))
  have inner : ∀ s ∈ S, ∀ t1 : Store, ∃ t2, compL [] (.nm 3) cTrue (cCall (callK prg (k + 1)) 2 "_law_dot" (cCons (cVar 2) (cCons (cFresh (cComp (cItV (cVar 1)) [4] (.nm 4) cTrue (cIx (cVar 4) (cVar 3)))) cNil))) [some (tw S), some (tw (r :: T)), some (rw s), none, none] ((List.range q).map iw) [] (h ++ t1) = .ok ((List.range q).map fun j => fw (dotF s (colM (r :: T) j) (r :: T).length)) (h ++ t2) := fun s hs2 t1 => by
    refine comp_grow (List.range q) [] t1 (by rw [List.length_range, List.length_nil]; omega) fun j hj t2 => ?_
    have hj := List.mem_range.mp hj
    have cc : compL [] (.nm 4) cTrue (cIx (cVar 4) (cVar 3)) [some (tw S), some (tw (r :: T)), some (rw s), some (iw j), none] ((r :: T).map rw) [] (h ++ t2) = .ok ((colM (r :: T) j).map fw) (h ++ t2) := by
      have hl : (r :: T).length ≤ 16777216 := Nat.le_trans few (by decide)
      unfold colM
      rw [List.map_map]
      refine comp_map (r :: T) hl fun line hm => ?_
      obtain ⟨m1, m2⟩ := get_d (show j < line.length by rw [t.len line hm]; exact hj)
      have i1 : ixW (h ++ t2) (rw line) (.int (j : Int)) = some (fw ((line[j]?).getD (0, 1))) := atI_map m1
      refine ⟨_, bind_nm _ _ _, rfl, ?_⟩
      simp only [iw]
      simp [i1]
    have cl : (colM (r :: T) j).length = (r :: T).length := by
      unfold colM
      rw [List.length_map]
    have cg : ∀ x ∈ colM (r :: T) j, Good M x := fun x hx => by
      obtain ⟨line, hm, rfl⟩ := List.mem_map.mp hx
      exact t.good line hm _ (get_d (show j < line.length by rw [t.len line hm]; exact hj)).2
    have on := own_new (h ++ t2) ((colM (r :: T) j).map fw)
    have dt := c_dot (K := k) (L := L) (M := M) (by omega) (h := (h ++ t2) ++ [Ob.lst ((colM (r :: T) j).map fw)]) (two := .ref (h ++ t2).length) (sl s hs2) cl (sg s hs2) cg (by omega) hs (fun i x e => by
      rw [(lst_of_own on).2.2.2.2]
      exact atI_map e)
    refine ⟨_, bind_nm _ _ _, rfl, t2 ++ [Ob.lst ((colM (r :: T) j).map fw)], ?_⟩
    have it : itOf (h ++ t2) (tw (r :: T)) = some ((r :: T).map rw, []) := rfl
    rw [← List.append_assoc]
    generalize hX : h ++ t2 = X at *
    generalize (r :: T).map rw = Y at cc it
    simp [it, cc, dt]
  obtain ⟨t9, e9⟩ := comp_grow (T := .nm 2) (tt := cTrue) (te := cQ1 tupQ (cSeqF (cComp (cItR rng1 (cCons (cV1 lenV (cIx (cVar 1) (cVal (.int 0)))) cNil)) [3] (.nm 3) cTrue (cCall (callK prg (k + 1)) 2 "_law_dot" (cCons (cVar 2) (cCons (cFresh (cComp (cItV (cVar 1)) [4] (.nm 4) cTrue (cIx (cVar 4) (cVar 3)))) cNil)))))) (ρ0 := [some (tw S), some (tw (r :: T)), none, none, none]) (enc := rw) (f := fun row => rw ((List.range q).map fun j => dotF row (colM (r :: T) j) (r :: T).length)) (h := h) S [] [] (by rw [List.length_nil]; omega) (fun s hs2 t1 => by
    obtain ⟨t2, e⟩ := inner s hs2 t1
    refine ⟨_, bind_nm _ _ _, rfl, t2, ?_⟩
    have lw : lenV (rw r) (h ++ t1) = some (.int (q : Int), h ++ t1) := by
      show some _ = _
      rw [List.length_map, hr]
    simp [ix_tw0, lw, r1, e]
    simp [rw])
  rw [List.append_nil, List.nil_append] at e9
  have it : itOf h (tw S) = some (S.map rw, []) := rfl
  rw [k__law_product]
  simp [b__law_product, startR, it, e9]
  rw [cutR_app]
  · simp [tw, prodM]
  · refine flat_below _ _ ?_
    exact flatR_tup (fun m => flatR_tup (fun x => rfl) _) _
end K03
end
section
set_option Elab.async false
set_option linter.all false
set_option maxRecDepth 100000
set_option maxHeartbeats 2000000
namespace K03
open PySem PySem.Spec Wv L2
theorem StAt.same {h : Store} {S : Nat} (a : StAt h S) : ∃ s0 s1, h = h.set S (twoN s0 s1) := by
  obtain ⟨x, y, e⟩ := a
  exact ⟨x, y, (set_same e).symm⟩
/-- a comprehension that draws -/
theorem comp_draw {T : Tgt} {te : Den} {ρ0 : Rho} {S : Nat} {L : Nat} (hs : ∀ (i : Nat) (h : Store), StAt h S → ∃ ρ1, T.bind (iw i) ρ0 = some ρ1 ∧ ∃ x s0 s1, Good L x ∧ te ρ1 h = .ok (fw x) (h.set S (twoN s0 s1))) :
    ∀ (is : List Nat) (acc : List W) (h : Store), acc.length + is.length ≤ 1000 → StAt h S → ∃ (row : List Fr) (s0 s1 : Int), compL [] T cTrue te ρ0 (is.map iw) acc h = .ok (acc ++ row.map fw) (h.set S (twoN s0 s1)) ∧ row.length = is.length ∧ ∀ x ∈ row, Good L x
  | [], acc, h, _, a => by
    obtain ⟨s0, s1, e⟩ := a.same
    refine ⟨[], s0, s1, ?_, rfl, fun x hx => nomatch hx⟩
    rw [List.map_nil]
    unfold compL
    rw [if_pos (gdOk_nil _), ← e]
    simp
  | i :: is, acc, h, hl, a => by
    obtain ⟨ρ1, e1, x, s0, s1, g, e2⟩ := hs i h a
    rw [List.length_cons] at hl
    obtain ⟨row, t0, t1, e3, e4, e5⟩ := comp_draw hs is (acc ++ [fw x]) (h.set S (twoN s0 s1)) (by rw [List.length_append]; simp; omega) (a.set s0 s1)
    have lt : acc.length < 16777216 := Nat.lt_of_le_of_lt (show acc.length ≤ 1000 by omega) (by decide)
    refine ⟨x :: row, t0, t1, ?_, by rw [List.length_cons, List.length_cons, e4], fun y hy => ?_⟩
    · rw [List.map_cons]
      unfold compL
      rw [if_pos (gdOk_nil _), e1]
      dsimp only
      rw [a_true]
      dsimp only
      rw [e2]
      dsimp only
      rw [if_pos lt, e3, List.set_set]
      simp
    · rcases List.mem_cons.mp hy with z | z
      · rw [z]
        exact g
      · exact e5 y z
theorem c_table {K p q : Nat} (hK : 36 ≤ K) {S : Nat} {h : Store} (a : StAt h S) (hp : p ≤ 1000) (hq : q ≤ 1000) : ∃ T s0 s1, callK prg (K + 1) "_law_table" [.ref S, .int (p : Int), .int (q : Int)] h = .ok (tw T) (h.set S (twoN s0 s1)) ∧ T.length = p ∧ Mat 3 q T := by
  obtain ⟨k, rfl⟩ : ∃ z, K = z + 1 := ⟨K - 1, by omega⟩
  have hS : S < h.length := by
    obtain ⟨x, y, e⟩ := a
    exact own_lt e
  have r1 : rng1 [.int (p : Int)] = some ((List.range p).map iw) := rng1_nat (Nat.lt_of_le_of_lt hp (by decide))
  have r2 : rng1 [.int (q : Int)] = some ((List.range q).map iw) := rng1_nat (Nat.lt_of_le_of_lt hq (by decide))
  have inner : ∀ (a4 : Option W) (h' : Store), StAt h' S → ∃ (row : List Fr) (s0 s1 : Int), compL [] (.nm 5) cTrue (cIf (tcCmp .Gt (cCall (callK prg (k + 1)) 2 "_law_take" (cCons (cVar 0) (cCons (cVal (.int 3)) cNil))) (cVal (.int 0))) (cCall (callK prg (k + 1)) 1 "_law_drawn" (cCons (cVar 0) cNil)) (cTup (cCons (cVal (.int 0)) (cCons (cVal (.int 1)) cNil)))) [some (.ref S), some (.int (p : Int)), some (.int (q : Int)), some (.ref h.length), a4, none] ((List.range q).map iw) [] h' = .ok (row.map fw) (h'.set S (twoN s0 s1)) ∧ row.length = q ∧ ∀ x ∈ row, Good 3 x := fun a4 h' st => by
    obtain ⟨row, s0, s1, e1, e2, e3⟩ := comp_draw (T := .nm 5) (te := cIf (tcCmp .Gt (cCall (callK prg (k + 1)) 2 "_law_take" (cCons (cVar 0) (cCons (cVal (.int 3)) cNil))) (cVal (.int 0))) (cCall (callK prg (k + 1)) 1 "_law_drawn" (cCons (cVar 0) cNil)) (cTup (cCons (cVal (.int 0)) (cCons (cVal (.int 1)) cNil)))) (ρ0 := [some (.ref S), some (.int (p : Int)), some (.int (q : Int)), some (.ref h.length), a4, none]) (S := S) (L := 3) (fun i h2 st2 => by
      obtain ⟨v, s0, s1, v0, v1, e⟩ := c_take (K := k) (m := 3) st2 (by decide) (by decide)
      refine ⟨_, bind_nm _ _ _, ?_⟩
      by_cases c : 0 < v
      · obtain ⟨x, t0, t1, g, e2⟩ := c_drawn (K := k) (by omega) (st2.set s0 s1)
        rw [List.set_set] at e2
        exact ⟨x, t0, t1, g, by simp [e, c, e2]⟩
      · exact ⟨(0, 1), s0, s1, good_zero.mono (by decide), by simp [e, c, fw]⟩) (List.range q) [] h' (by rw [List.length_range, List.length_nil]; omega) st
    rw [List.length_range] at e2
    exact ⟨row, s0, s1, by rw [e1, List.nil_append], e2, e3⟩
  -- the rows, one by one
  obtain ⟨ρ2, h2, f1, J⟩ := forL_inv (g := []) (T := .nm 4) (body := sSeq (sExpr (cApp (cVar 3) (cQ1 tupQ (cSeqF (cComp (cItR rng1 (cCons (cVar 2) cNil)) [5] (.nm 5) cTrue (cIf (tcCmp .Gt (cCall (callK prg (k + 1)) 2 "_law_take" (cCons (cVar 0) (cCons (cVal (.int 3)) cNil))) (cVal (.int 0))) (cCall (callK prg (k + 1)) 1 "_law_drawn" (cCons (cVar 0) cNil)) (cTup (cCons (cVal (.int 0)) (cCons (cVal (.int 1)) cNil))))))))) sSkip)
    (fun ws ρ h' => ∃ (i : Nat) (T : List (List Fr)) (s0 s1 : Int), i ≤ p ∧ ws = (List.range' i (p - i)).map iw ∧ (∃ a4 a5, ρ = [some (.ref S), some (.int (p : Int)), some (.int (q : Int)), some (.ref h.length), a4, a5]) ∧ h' = h.set S (twoN s0 s1) ++ [Ob.lst (T.map rw)] ∧ T.length = i ∧ Mat 3 q T)
    (fun _ _ _ _ => gdOk_nil _)
    (fun w ws ρ h' ⟨i, T, s0, s1, hi, e, ⟨a4, a5, e3⟩, e4, e5, m⟩ => by
      have hlt : i < p := by
        rcases Nat.lt_or_ge i p with z | z
        · exact z
        · rw [show p - i = 0 by omega] at e
          cases e
      rw [show p - i = (p - (i + 1)) + 1 by omega, List.range'_succ, List.map_cons] at e
      injection e with e1 e2
      subst e1 e3 e4
      have on := own_new (h.set S (twoN s0 s1)) (T.map rw)
      rw [List.length_set] at on
      obtain ⟨row, t0, t1, c1, c2, c3⟩ := inner (some (iw i)) (h.set S (twoN s0 s1) ++ [Ob.lst (T.map rw)]) ((a.set s0 s1).app _)
      have on2 := own_other (n := S) (o := twoN t0 t1) on (Nat.ne_of_lt hS)
      refine ⟨_, bind_nm _ _ _, [some (.ref S), some (.int (p : Int)), some (.int (q : Int)), some (.ref h.length), some (iw i), a5], h.set S (twoN t0 t1) ++ [Ob.lst ((T ++ [row]).map rw)], .inl ?_, i + 1, T ++ [row], t0, t1, by omega, e2, ⟨_, _, rfl⟩, rfl, by rw [List.length_append, e5]; rfl, ?_⟩
      · have l3 := (lst_of_own on).2.2.2.1
        have lt : T.length < 16777216 := Nat.lt_of_le_of_lt (show T.length ≤ 1000 by omega) (by decide)
        have fin : ((h.set S (twoN s0 s1) ++ [Ob.lst (T.map rw)]).set S (twoN t0 t1)).set h.length (Ob.lst (T.map rw ++ [W.tup (row.map fw)])) = h.set S (twoN t0 t1) ++ [Ob.lst ((T ++ [row]).map rw)] := by
          rw [List.set_append_left _ _ (by rw [List.length_set]; exact hS), List.set_set, List.set_append_right _ _ (by rw [List.length_set]; exact Nat.le_refl _), List.length_set, Nat.sub_self, List.map_append]
          rfl
        simp only [iw] at *
        simp [l3, r2, c1, on2, lt]
        rw [fin, List.map_append]
        rfl
      · refine ⟨fun r hr => ?_, fun r hr x hx => ?_⟩
        · rcases List.mem_append.mp hr with z | z
          · exact m.len r z
          · rw [List.mem_singleton.mp z]
            exact c2
        · rcases List.mem_append.mp hr with z | z
          · exact m.good r z x hx
          · rw [List.mem_singleton.mp z] at hx
            exact c3 x hx)
    ((List.range p).map iw) [some (.ref S), some (.int (p : Int)), some (.int (q : Int)), some (.ref h.length), none, none] (h ++ [Ob.lst []]) (by
      obtain ⟨s0, s1, e⟩ := a.same
      exact ⟨0, [], s0, s1, by omega, by rw [Nat.sub_zero, List.range_eq_range'], ⟨_, _, rfl⟩, by rw [← e]; rfl, rfl, ⟨fun r hr => (nomatch hr), fun r hr => (nomatch hr)⟩⟩)
  obtain ⟨i, T, s0, s1, hi, e2, ⟨a4, a5, e3⟩, e4, e5, m⟩ := J
  have z : i = p := by
    have y := congrArg List.length e2
    rw [List.length_map, List.length_range'] at y
    simp at y
    omega
  subst z e3 e4
  have on := own_new (h.set S (twoN s0 s1)) (T.map rw)
  rw [List.length_set] at on
  have sq := (lst_of_own on).2.1
  refine ⟨T, s0, s1, ?_, e5, m⟩
  rw [k__law_table]

  simp [b__law_table, startR, r1, f1, sq]
  exact cutR_set (flat_below _ _ (flatR_tup (fun m => flatR_tup (fun x => rfl) m) _)) rfl
end K03
end
section
set_option Elab.async false
set_option linter.all false
set_option maxRecDepth 100000
set_option maxHeartbeats 2000000
namespace K03
open PySem PySem.Spec Wv L2
abbrev malX (h : Store) : Out W := .exc ⟨"Malformed", none⟩ h
section
variable {k : Nat} {w b : W} {h : Store}
theorem c_check_x (e : callK prg k "is_any_table" [w] h = .ok (.bl false) h) : callK prg (k + 1) "check_table" [w] h = malX h := by
  rw [k_check_table]
  simp [b_check_table, startR, e, cutX_same]
theorem c_rank_x (e : callK prg k "check_table" [w] h = malX h) : callK prg (k + 1) "table_rank" [w] h = malX h := by
  rw [k_table_rank]
  simp [b_table_rank, startR, e, cutX_same]
theorem c_tred_x (e : callK prg k "check_table" [w] h = malX h) : callK prg (k + 1) "table_reduced" [w] h = malX h := by
  rw [k_table_reduced]
  simp [b_table_reduced, startR, e, cutX_same]
theorem c_kern_x (e : callK prg k "check_table" [w] h = malX h) : callK prg (k + 1) "table_kernel" [w] h = malX h := by
  rw [k_table_kernel]
  simp [b_table_kernel, startR, e, cutX_same]
theorem c_solved_x (e : callK prg k "check_table" [w] h = malX h) : callK prg (k + 1) "table_solved" [w, b] h = malX h := by
  rw [k_table_solved]
  simp [b_table_solved, startR, e, cutX_same]
theorem c_spans_x1 (e : callK prg k "check_table" [w] h = malX h) : callK prg (k + 1) "spans_alike" [w, b] h = malX h := by
  rw [k_spans_alike]
  simp [b_spans_alike, startR, e, cutX_same]
theorem c_spans_x2 (e0 : callK prg k "check_table" [w] h = .ok .non h) (e : callK prg k "check_table" [b] h = malX h) : callK prg (k + 1) "spans_alike" [w, b] h = malX h := by
  rw [k_spans_alike]
  simp [b_spans_alike, startR, e0, e, cutX_same]
theorem c_any_non : callK prg (k + 1) "is_any_table" [.non] h = .ok (.bl false) h := by
  rw [k_is_any_table]
  simp [b_is_any_table, startR, cutR_same]
theorem c_any_int (i : Int) : callK prg (k + 1) "is_any_table" [.int i] h = .ok (.bl false) h := by
  rw [k_is_any_table]
  simp [b_is_any_table, startR, cutR_same]
theorem c_any_str (x : Str) : callK prg (k + 1) "is_any_table" [.str x] h = .ok (.bl false) h := by
  have t : tyW h (.str x) = some "str" := rfl
  rw [k_is_any_table]
  simp [b_is_any_table, startR, t, cutR_same]
end
end K03
end
section
set_option Elab.async false
set_option linter.all false
set_option maxRecDepth 100000
set_option maxHeartbeats 2000000
namespace K03
open PySem PySem.Spec Wv L2
def frD (x : Fr) : PyData := .tuple [.int x.1, .int x.2]
def rowD (m : List Fr) : PyData := .list (m.map frD)
theorem toPy_fw (h : Store) (n : Nat) (x : Fr) : toPy h (n + 1) (fw x) = some (frD x) := by
  unfold fw toPy toPys
  unfold toPy
  unfold toPys
  unfold toPy
  unfold toPys
  rfl
theorem eqv_fr (x y : Fr) : PyData.eqv (frD x) (frD y) = decide (x = y) := by
  have e : PyData.eqv (frD x) (frD y) = PyData.eqvAll [.int x.1, .int x.2] [.int y.1, .int y.2] := by
    unfold frD PyData.eqv
    rfl
  rw [e]
  have e2 := eqvAll_map (d := fun i : Int => PyData.int i) (fun i j => eqv_int i j) [x.1, x.2] [y.1, y.2]
  have e3 : PyData.eqvAll [.int x.1, .int x.2] [.int y.1, .int y.2] = decide ([x.1, x.2] = [y.1, y.2]) := e2
  rw [e3]
  refine decide_eq_decide.mpr ?_
  constructor
  · intro z
    injection z with z1 z2
    injection z2 with z2 _
    exact Prod.ext z1 z2
  · intro z
    rw [z]
theorem eqv_row (x y : List Fr) : PyData.eqv (rowD x) (rowD y) = decide (x = y) := by
  have e : PyData.eqv (rowD x) (rowD y) = PyData.eqvAll (x.map frD) (y.map frD) := by
    unfold rowD PyData.eqv
    rfl
  rw [e]
  exact eqvAll_map eqv_fr x y
theorem pyd_rows {h : Store} {N P : Nat} {rs : List Nat} {A : List (List Fr)} {ps : List Nat} (a : Rd2 h N P rs A ps) : pyd h (.ref N) = some (.list (A.map rowD)) := by
  have each : ∀ (r : Nat) (m : List Fr), own? h r = some (m.map fw) → toPy h 65 (.ref r) = some (rowD m) := fun r m e => by
    unfold toPy
    rw [lst_own e]
    dsimp only
    rw [toPys_map (d := frD) m fun x _ => toPy_fw h 63 x]
    rfl
  have all : ∀ (rs : List Nat) (A : List (List Fr)), rs.length = A.length → (∀ (i r : Nat) (m : List Fr), rs[i]? = some r → A[i]? = some m → own? h r = some (m.map fw)) → toPys (toPy h 65) (rs.map W.ref) = some (A.map rowD) := fun rs => by
    induction rs with
    | nil =>
      intro A hl _
      have : A = [] := List.eq_nil_of_length_eq_zero hl.symm
      subst this
      rfl
    | cons r rs ih =>
      intro A hl ha
      cases A with
      | nil => cases hl
      | cons m A =>
        rw [List.map_cons, List.map_cons]
        unfold toPys
        rw [each r m (ha 0 r m rfl rfl), ih A (by simpa using hl) fun i r' m' h1 h2 => ha (i + 1) r' m' h1 h2]
  refine pyd_of ?_ ?_ ?_
  · unfold toPy
    rw [lst_own a.rows]
    dsimp only
    rw [all rs A a.len a.row]
    rfl
  · unfold PyData.canLay0
    refine lay_map A fun m _ => ?_
    unfold rowD PyData.canLay0
    refine lay_map m fun x _ => ?_
    unfold frD PyData.canLay0 PyData.canLayAll0 PyData.canLay0 PyData.canLayAll0 PyData.canLay0 PyData.canLayAll0
    rfl
  · unfold PyData.depth
    refine Nat.succ_le_succ (Nat.le_trans (depth_map (n := 2) A fun m _ => ?_) (by decide))
    unfold rowD PyData.depth
    refine Nat.succ_le_succ (depth_map (n := 1) m fun x _ => ?_)
    unfold frD PyData.depth PyData.depthAll PyData.depth PyData.depthAll PyData.depth PyData.depthAll
    decide
theorem eq_rows {h : Store} {N P N2 P2 : Nat} {rs rs2 : List Nat} {A A2 : List (List Fr)} {ps ps2 : List Nat} (a : Rd2 h N P rs A ps) (b : Rd2 h N2 P2 rs2 A2 ps2) : cmpW .Eq (.ref N) (.ref N2) h = some (decide (A = A2)) := by
  have z : cmpW .Eq (.ref N) (.ref N2) h = cmpEq (.ref N) (.ref N2) h := by
    unfold cmpW
    rfl
  rw [z]
  unfold cmpEq
  rw [pyd_rows a, pyd_rows b]
  dsimp only
  refine congrArg some ?_
  have e : PyData.eqv (.list (A.map rowD)) (.list (A2.map rowD)) = PyData.eqvAll (A.map rowD) (A2.map rowD) := by
    unfold PyData.eqv
    rfl
  rw [e]
  exact eqvAll_map eqv_row A A2
end K03
end
section
set_option Elab.async false
set_option linter.all false
set_option maxRecDepth 100000
set_option maxHeartbeats 2000000
namespace K03
open PySem PySem.Spec Wv L2
theorem Rd2.old {h h2 : Store} {N P : Nat} {rs : List Nat} {A : List (List Fr)} {ps : List Nat} (a : Rd2 h N P rs A ps) (o : Old h h2) : Rd2 h2 N P rs A ps := by
  obtain ⟨t, rfl⟩ := o
  exact a.app t
theorem c_spans {K L M q : Nat} (hK : 44 ≤ K) {r s : List Fr} {T S : List (List Fr)} (f : Fit L q (s :: S)) (g : Fit M q (r :: T)) (h : Store) : callK prg (K + 1) "spans_alike" [tw (s :: S), tw (r :: T)] h = .ok (.bl (decide (redOf (s :: S) q = redOf (r :: T) q))) h := by
  obtain ⟨k, rfl⟩ : ∃ z, K = z + 4 := ⟨K - 4, by omega⟩
  obtain ⟨h2, N, P, e, R, _⟩ := red_here (K := k + 4) (by omega) f h (j := k + 4) (by omega)
  obtain ⟨h3, N2, P2, e2, R2, _⟩ := red_here (K := k + 4) (by omega) g h2 (j := k + 4) (by omega)
  obtain ⟨rs, a0⟩ := R.rd
  obtain ⟨rs2, b0⟩ := R2.rd
  have a : Rd2 h3 N P rs (redOf (s :: S) q) (elimT (s :: S) q).2 := Rd2.old a0 R2.old
  have b : Rd2 h3 N2 P2 rs2 (redOf (r :: T) q) (elimT (r :: T) q).2 := b0
  have cm := eq_rows a b
  have w1 := c_width (k + 3) (r := s) (T := S) h
  have w2 := c_width (k + 3) (r := r) (T := T) h
  rw [f.tab.len s List.mem_cons_self] at w1
  rw [g.tab.len r List.mem_cons_self] at w2
  have ol : Old h h3 := by
    obtain ⟨t, e⟩ := R.old
    obtain ⟨t2, e2⟩ := R2.old
    exact ⟨t ++ t2, by rw [e2, e, List.append_assoc]⟩
  generalize redOf (s :: S) q = A at cm ⊢
  generalize redOf (r :: T) q = A2 at cm ⊢
  obtain ⟨t, rfl⟩ := ol
  rw [k_spans_alike]
  simp [b_spans_alike, startR, c_check k h f.few f.tab, c_check k h g.few g.tab, w1, w2, e, e2, cm]
  exact cutR_app rfl
theorem c_spans_w {K L M q q2 : Nat} (hK : 44 ≤ K) {r s : List Fr} {T S : List (List Fr)} (f : Fit L q (s :: S)) (g : Tab M q2 (r :: T)) (hM : M ≤ 1000000000) (ne : q ≠ q2) (h : Store) : callK prg (K + 1) "spans_alike" [tw (s :: S), tw (r :: T)] h = malX h := by
  obtain ⟨k, rfl⟩ : ∃ z, K = z + 4 := ⟨K - 4, by omega⟩
  have w1 := c_width (k + 3) (r := s) (T := S) h
  have w2 := c_width (k + 3) (r := r) (T := T) h
  rw [f.tab.len s List.mem_cons_self] at w1
  rw [g.len r List.mem_cons_self] at w2
  have ne' : ((q : Int) == (q2 : Int)) = false := by simpa using (fun z => ne (Int.ofNat.inj z))
  rw [k_spans_alike]
  simp [b_spans_alike, startR, c_check k h f.few f.tab, c_check k h hM g, w1, w2, ne', cutX_same]
  try exact fun z => ne (by omega)
/-- the law's comparison of reduced tables -/
theorem eq_tw (h : Store) (A A2 : List (List Fr)) : cmpW .Eq (tw A) (tw A2) h = some (decide (A = A2)) := by
  have py : ∀ A : List (List Fr), pyd h (tw A) = some (.tuple (A.map fun m => .tuple (m.map frD))) := fun A => by
    refine pyd_of ?_ ?_ ?_
    · unfold tw toPy
      rw [toPys_map (d := fun m => PyData.tuple (m.map frD)) A fun m _ => by
        unfold rw toPy
        rw [toPys_map (d := frD) m fun x _ => toPy_fw h 63 x]
        rfl]
      rfl
    · unfold PyData.canLay0
      refine lay_map A fun m _ => ?_
      unfold PyData.canLay0
      refine lay_map m fun x _ => ?_
      unfold frD PyData.canLay0 PyData.canLayAll0 PyData.canLay0 PyData.canLayAll0 PyData.canLay0 PyData.canLayAll0
      rfl
    · unfold PyData.depth
      refine Nat.succ_le_succ (Nat.le_trans (depth_map (n := 2) A fun m _ => ?_) (by decide))
      unfold PyData.depth
      refine Nat.succ_le_succ (depth_map (n := 1) m fun x _ => ?_)
      unfold frD PyData.depth PyData.depthAll PyData.depth PyData.depthAll PyData.depth PyData.depthAll
      decide
  have z : cmpW .Eq (tw A) (tw A2) h = cmpEq (tw A) (tw A2) h := by
    unfold cmpW
    rfl
  rw [z]
  unfold cmpEq
  rw [py A, py A2]
  dsimp only
  refine congrArg some ?_
  have e : PyData.eqv (.tuple (A.map fun m => .tuple (m.map frD))) (.tuple (A2.map fun m => .tuple (m.map frD))) = PyData.eqvAll (A.map fun m => .tuple (m.map frD)) (A2.map fun m => .tuple (m.map frD)) := by
    unfold PyData.eqv
    rfl
  rw [e]
  refine eqvAll_map (fun x y => ?_) A A2
  have e2 : PyData.eqv (.tuple (x.map frD)) (.tuple (y.map frD)) = PyData.eqvAll (x.map frD) (y.map frD) := by
    unfold PyData.eqv
    rfl
  rw [e2]
  exact eqvAll_map eqv_fr x y
end K03
end
section
set_option Elab.async false
set_option linter.all false
set_option maxRecDepth 100000
set_option maxHeartbeats 2000000
namespace K03
open PySem PySem.Spec Wv L2
section
variable {k : Nat} {h : Store}
theorem c_any_lst {X : Nat} {ws : List W} (e : own? h X = some ws) : callK prg (k + 1) "is_any_table" [.ref X] h = .ok (.bl false) h := by
  have t : tyW h (.ref X) = some "list" := by
    unfold own? at e
    split at e
    · rename_i xs q
      show (match h[X]? with
        | some (.lst _) => some "list"
        | some (.dic _) => some "dict"
        | none => none) = _
      rw [q]
    · cases e
  rw [k_is_any_table]
  simp [b_is_any_table, startR, t, cutR_same]
theorem c_ratio_int (i : Int) : callK prg (k + 1) "is_ratio" [.int i] h = .ok (.bl false) h := by
  rw [k_is_ratio]
  simp [b_is_ratio, startR, cutR_same]
theorem c_ratio_non : callK prg (k + 1) "is_ratio" [.non] h = .ok (.bl false) h := by
  rw [k_is_ratio]
  simp [b_is_ratio, startR, cutR_same]
theorem c_isint_bl (b : Bool) : callK prg (k + 1) "is_integer" [.bl b] h = .ok (.bl false) h := by
  rw [k_is_integer]
  simp [b_is_integer, startR, cutR_same]
theorem c_ratio_true : callK prg (k + 2) "is_ratio" [.tup [.bl true, .int 1]] h = .ok (.bl false) h := by
  rw [k_is_ratio]
  simp [b_is_ratio, startR, c_isint_bl, cutR_same]
theorem c_ratio_24 : callK prg (k + 2) "is_ratio" [.tup [.int 2, .int 4]] h = .ok (.bl false) h := by
  have g := c_gcd k (L := 3) (a := 2) (b := 4) h (by decide) (by unfold sz; decide)
  have g2 : Int.gcd 2 4 = 2 := by decide
  rw [g2] at g
  rw [k_is_ratio]
  simp [b_is_ratio, startR, c_isint, g, cutR_same]
/-- the judge of tables, over any items -/
theorem c_any_gen {ws : List W} (p1 p2 : W → Bool) (hl : ws.length ≤ 40) (h1 : ∀ w ∈ ws, cAnd (cIsi1 "tuple" (cVar 1)) (cChain .LtE .LtE (cVal (.int 1)) (cV1 lenV (cVar 1)) (cVal (.int 40))) [some (.tup ws), some w, none] h = .ok (.bl (p1 w)) h)
    (h2 : (∀ w ∈ ws, p1 w = true) → ∀ w ∈ ws, cAnd (cCmp .Eq (cV1 lenV (cVar 1)) (cV1 lenV (cIx (cVar 0) (cVal (.int 0))))) (cQ1 allQ (cSeqF (cComp (cItV (cVar 1)) [2] (.nm 2) cTrue (cCall (callK prg k) 1 "is_ratio" (cCons (cVar 2) cNil))))) [some (.tup ws), some w, none] h = .ok (.bl (p2 w)) h) :
    callK prg (k + 1) "is_any_table" [.tup ws] h = .ok (.bl (ws.all p1 && ws.all p2)) h := by
  have hl2 : ws.length ≤ 16777216 := Nat.le_trans hl (by decide)
  have e1 : compL [] (.nm 1) cTrue (cAnd (cIsi1 "tuple" (cVar 1)) (cChain .LtE .LtE (cVal (.int 1)) (cV1 lenV (cVar 1)) (cVal (.int 40)))) [some (.tup ws), none, none] ws [] h = .ok (ws.map fun w => .bl (p1 w)) h := by
    have := comp_map (T := .nm 1) (tt := cTrue) (te := cAnd (cIsi1 "tuple" (cVar 1)) (cChain .LtE .LtE (cVal (.int 1)) (cV1 lenV (cVar 1)) (cVal (.int 40)))) (ρ0 := [some (.tup ws), none, none]) (enc := id) (f := fun w => .bl (p1 w)) (h := h) ws hl2 fun w hw => ⟨_, bind_nm _ _ _, rfl, h1 w hw⟩
    rw [List.map_id] at this
    exact this
  rw [k_is_any_table]
  by_cases c : ws.all p1 = true
  · have e2 : compL [] (.nm 1) cTrue (cAnd (cCmp .Eq (cV1 lenV (cVar 1)) (cV1 lenV (cIx (cVar 0) (cVal (.int 0))))) (cQ1 allQ (cSeqF (cComp (cItV (cVar 1)) [2] (.nm 2) cTrue (cCall (callK prg k) 1 "is_ratio" (cCons (cVar 2) cNil)))))) [some (.tup ws), none, none] ws [] h = .ok (ws.map fun w => .bl (p2 w)) h := by
      have := comp_map (T := .nm 1) (tt := cTrue) (te := cAnd (cCmp .Eq (cV1 lenV (cVar 1)) (cV1 lenV (cIx (cVar 0) (cVal (.int 0))))) (cQ1 allQ (cSeqF (cComp (cItV (cVar 1)) [2] (.nm 2) cTrue (cCall (callK prg k) 1 "is_ratio" (cCons (cVar 2) cNil)))))) (ρ0 := [some (.tup ws), none, none]) (enc := id) (f := fun w => .bl (p2 w)) (h := h) ws hl2 fun w hw => ⟨_, bind_nm _ _ _, rfl, h2 (List.all_eq_true.mp c) w hw⟩
      rw [List.map_id] at this
      exact this
    rw [c, Bool.true_and]
    simp [b_is_any_table, startR, e1, e2, all_map, c, cutR_same, show ¬ (40 < (ws.length : Int)) by omega]
  · have c' : ws.all p1 = false := Bool.eq_false_iff.mpr c
    rw [c', Bool.false_and]
    simp [b_is_any_table, startR, e1, all_map, c', cutR_same, show ¬ (40 < (ws.length : Int)) by omega]
end
end K03
end
section
set_option Elab.async false
set_option linter.all false
set_option maxRecDepth 100000
set_option maxHeartbeats 2000000
namespace K03
open PySem PySem.Spec Wv L2
theorem tab_nil : Tab 1 1 [] := ⟨by decide, by decide, by decide, fun r hr => (nomatch hr), fun r hr => (nomatch hr)⟩
theorem c_width0 (k : Nat) (h : Store) : callK prg (k + 1) "width_of" [.tup []] h = .ok (.int 0) h := by
  rw [k_width_of]
  simp [b_width_of, startR, cutR_same]
theorem red0 {K : Nat} (hK : 36 ≤ K) (h : Store) : ∃ h2 N P, callK prg (K + 1) "reduced_of" [.tup []] h = .ok (.tup [.ref N, .ref P]) h2 ∧ Red h h2 N P [] [] := by
  have it : InT K (.tup []) h [] 0 := ⟨⟨[], rfl, fun t => gdOk_nil _⟩, fun t => by
    obtain ⟨K, rfl⟩ : ∃ z, K = z + 1 := ⟨K - 1, by omega⟩
    exact c_width0 K _⟩
  obtain ⟨h2, N, P, e, R, _⟩ := c_reduced (K := K) (L := 1) (q := 0) (by omega) it ⟨fun r hr => (nomatch hr), fun r hr => (nomatch hr)⟩ (by decide) (by decide) (fun s h1 h2 => by omega)
  exact ⟨h2, N, P, e, R⟩
section
variable {K : Nat} (hK : 44 ≤ K) (h : Store)
include hK
theorem c_rank0 : callK prg (K + 1) "table_rank" [.tup []] h = .ok (.int 0) h := by
  obtain ⟨k, rfl⟩ : ∃ z, K = z + 4 := ⟨K - 4, by omega⟩
  obtain ⟨h2, N, P, e, R⟩ := red0 (K := k + 3) (by omega) h
  have l := (lst_of_own R.piv).2.2.1
  have ck : callK prg (k + 4) "check_table" [.tup []] h = .ok .non h := c_check (T := []) (L := 1) (q := 1) k h (by decide) tab_nil
  obtain ⟨t, rfl⟩ := R.old
  rw [k_table_rank]
  simp [b_table_rank, startR, ck, e, l]
  exact cutR_app rfl
theorem c_tred0 : callK prg (K + 1) "table_reduced" [.tup []] h = .ok (.tup []) h := by
  obtain ⟨k, rfl⟩ : ∃ z, K = z + 4 := ⟨K - 4, by omega⟩
  obtain ⟨h2, N, P, e, R⟩ := red0 (K := k + 3) (by omega) h
  obtain ⟨rs, a⟩ := R.rd
  have rs0 : rs = [] := List.eq_nil_of_length_eq_zero a.len
  subst rs0
  have l := (lst_of_own a.rows).1
  have ck : callK prg (k + 4) "check_table" [.tup []] h = .ok .non h := c_check (T := []) (L := 1) (q := 1) k h (by decide) tab_nil
  have cm : ∀ (te : Den) (ρ0 : Rho), compL [(N, [])] (.nm 1) cTrue te ρ0 [] [] h2 = .ok [] h2 := fun te ρ0 => by
    unfold compL
    rw [if_pos (show gdOk [(N, [])] h2 from gdOk_one (lst_own a.rows))]
  obtain ⟨t, rfl⟩ := R.old
  rw [k_table_reduced]
  simp only [List.map_nil] at l
  simp [b_table_reduced, startR, ck, e, l, cm]
  exact cutR_app rfl
theorem c_spans0 : callK prg (K + 1) "spans_alike" [.tup [], .tup []] h = .ok (.bl true) h := by
  obtain ⟨k, rfl⟩ : ∃ z, K = z + 4 := ⟨K - 4, by omega⟩
  obtain ⟨h2, N, P, e, R⟩ := red0 (K := k + 3) (by omega) h
  obtain ⟨h3, N2, P2, e2, R2⟩ := red0 (K := k + 3) (by omega) h2
  obtain ⟨rs, a0⟩ := R.rd
  obtain ⟨rs2, b⟩ := R2.rd
  have cm := eq_rows (Rd2.old a0 R2.old) b
  have ck : callK prg (k + 4) "check_table" [.tup []] h = .ok .non h := c_check (T := []) (L := 1) (q := 1) k h (by decide) tab_nil
  have w1 := c_width0 (k + 3) h
  have ol : Old h h3 := by
    obtain ⟨t, e⟩ := R.old
    obtain ⟨t2, e2⟩ := R2.old
    exact ⟨t ++ t2, by rw [e2, e, List.append_assoc]⟩
  obtain ⟨t, rfl⟩ := ol
  rw [k_spans_alike]
  simp [b_spans_alike, startR, ck, w1, e, e2, cm]
  exact cutR_app rfl
end
end K03
end
section
set_option Elab.async false
set_option linter.all false
set_option maxRecDepth 100000
set_option maxHeartbeats 2000000
namespace K03
open PySem PySem.Spec Wv L2
theorem c_kern0 {K : Nat} (hK : 44 ≤ K) (h : Store) : callK prg (K + 1) "table_kernel" [.tup []] h = .ok (.tup []) h := by
  obtain ⟨k, rfl⟩ : ∃ z, K = z + 4 := ⟨K - 4, by omega⟩
  obtain ⟨h2, N, P, e, R⟩ := red0 (K := k + 3) (by omega) h
  have ck : callK prg (k + 4) "check_table" [.tup []] h = .ok .non h := c_check (T := []) (L := 1) (q := 1) k h (by decide) tab_nil
  have w1 := c_width0 (k + 3) h2
  have r1 : rng1 [.int 0] = some [] := rfl
  have on := own_new h2 []
  have sq := (lst_of_own on).2.1
  have fl : ∀ (T : Tgt) (b : DenS) (ρ : Rho) (h : Store), forL [] T b [] ρ h = .next ρ h := fun T b ρ h => by
    unfold forL
    rw [if_pos (gdOk_nil _)]
  obtain ⟨t, rfl⟩ := R.old
  rw [k_table_kernel]
  simp only [List.append_assoc, List.length_append] at sq
  simp [b_table_kernel, startR, ck, e, w1, r1, fl, sq]
  exact cutR_app (w := .tup []) rfl
end K03
end
section
set_option Elab.async false
set_option linter.all false
set_option maxRecDepth 100000
set_option maxHeartbeats 2000000
namespace K03
open PySem PySem.Spec Wv L2
/-- the first test of a row -/
def t1 : W → Bool
  | .tup us => decide (1 ≤ us.length) && decide (us.length ≤ 40)
  | _ => false
theorem t1_ok {h : Store} {wT : Option W} : ∀ w : W, (∃ us, w = .tup us) ∨ w = .non → cAnd (cIsi1 "tuple" (cVar 1)) (cChain .LtE .LtE (cVal (.int 1)) (cV1 lenV (cVar 1)) (cVal (.int 40))) [wT, some w, none] h = .ok (.bl (t1 w)) h := fun w hw => by
  rcases hw with ⟨us, rfl⟩ | rfl
  · by_cases c : 1 ≤ us.length
    · have c2 : (1 : Int) ≤ (us.length : Int) := by omega
      by_cases d : us.length ≤ 40
      · have d2 : (us.length : Int) ≤ 40 := by omega
        simp [t1, c, d, c2, d2]
      · have d2 : ¬ (us.length : Int) ≤ 40 := by omega
        simp [t1, c, d, c2, d2]
    · have c2 : ¬ (1 : Int) ≤ (us.length : Int) := by omega
      simp [t1, c, c2]
  · simp [t1]
/-- a row that the first test refuses -/
theorem c_any_t1 {k : Nat} {h : Store} {ws : List W} (hl : ws.length ≤ 40) (hw : ∀ w ∈ ws, (∃ us, w = .tup us) ∨ w = .non) (bad : ws.all t1 = false) : callK prg (k + 1) "is_any_table" [.tup ws] h = .ok (.bl false) h := by
  have := c_any_gen (k := k) (h := h) (ws := ws) t1 (fun _ => true) hl (fun w hm => t1_ok w (hw w hm)) (fun ha => absurd (List.all_eq_true.mpr ha) (by rw [bad]; simp))
  rw [this, bad]
  rfl
end K03
end
section
set_option Elab.async false
set_option linter.all false
set_option maxRecDepth 100000
set_option maxHeartbeats 2000000
namespace K03
open PySem PySem.Spec Wv L2
/-- the second test of a row: us its items, g what is_ratio says of them -/
theorem t2_ok {k n : Nat} {h : Store} {ws : List W} {w0 : List W} {rest : List W} (e : ws = .tup w0 :: rest) {us : List W} (g : W → Bool) (hl : us.length ≤ 40) (hg : ∀ u ∈ us, callK prg k "is_ratio" [u] h = .ok (.bl (g u)) h) :
    cAnd (cCmp .Eq (cV1 lenV (cVar 1)) (cV1 lenV (cIx (cVar 0) (cVal (.int 0))))) (cQ1 allQ (cSeqF (cComp (cItV (cVar 1)) [2] (.nm 2) cTrue (cCall (callK prg k) 1 "is_ratio" (cCons (cVar 2) cNil))))) [some (.tup ws), some (.tup us), none] h = .ok (.bl (decide (us.length = w0.length) && us.all g)) h := by
  subst e
  have hl2 : us.length ≤ 16777216 := Nat.le_trans hl (by decide)
  have cm : compL [] (.nm 2) cTrue (cCall (callK prg k) 1 "is_ratio" (cCons (cVar 2) cNil)) [some (.tup (.tup w0 :: rest)), some (.tup us), none] us [] h = .ok (us.map fun u => .bl (g u)) h := by
    have := comp_map (T := .nm 2) (tt := cTrue) (te := cCall (callK prg k) 1 "is_ratio" (cCons (cVar 2) cNil)) (ρ0 := [some (.tup (.tup w0 :: rest)), some (.tup us), none]) (enc := id) (f := fun u => .bl (g u)) (h := h) us hl2 fun u hu => ⟨_, bind_nm _ _ _, rfl, by simp [hg u hu]⟩
    rw [List.map_id] at this
    exact this
  by_cases c : us.length = w0.length
  · simp [c, cm, all_map]
  · have c2 : ((us.length : Int) == (w0.length : Int)) = false := by simpa using fun z => c (Int.ofNat.inj z)
    simp [c, c2]
    try exact fun z => c (by omega)
end K03
end
section
set_option Elab.async false
set_option linter.all false
set_option maxRecDepth 100000
set_option maxHeartbeats 2000000
namespace K03
open PySem PySem.Spec Wv L2
section
variable {k : Nat} {h : Store} {T : List (List Fr)} (ck : callK prg k "check_table" [tw T] h = .ok .non h)
include ck
theorem c_solved_ty {b : W} {t : String} (ty : tyW h b = some t) (nt : isOne t "tuple" = some false) : callK prg (k + 1) "table_solved" [tw T, b] h = malX h := by
  rw [k_table_solved]
  simp [b_table_solved, startR, ck, ty, nt, cutX_same]
theorem c_solved_len {us : List W} (ne : us.length ≠ T.length) : callK prg (k + 1) "table_solved" [tw T, .tup us] h = malX h := by
  have l2 : lenV (tw T) h = some (.int (T.length : Int), h) := by
    show some (W.int ((T.map K03.rw).length : Int), h) = _
    rw [List.length_map]
  have ne2 : ((us.length : Int) == (T.length : Int)) = false := by simpa using fun z => ne (Int.ofNat.inj z)
  have ne3 : ¬ (us.length : Int) = (T.length : Int) := by omega
  rw [k_table_solved]
  simp [b_table_solved, startR, ck, l2, ne2, ne3, cutX_same]
theorem c_solved_item {us : List W} (g : W → Bool) (le : us.length = T.length) (hl : us.length ≤ 1000) (hg : ∀ u ∈ us, callK prg k "is_ratio" [u] h = .ok (.bl (g u)) h) (bad : us.all g = false) : callK prg (k + 1) "table_solved" [tw T, .tup us] h = malX h := by
  have l2 : lenV (tw T) h = some (.int (T.length : Int), h) := by
    show some (W.int ((T.map K03.rw).length : Int), h) = _
    rw [List.length_map]
  have hl2 : us.length ≤ 16777216 := Nat.le_trans hl (by decide)
  have cm : compL [] (.nm 2) cTrue (cCall (callK prg k) 1 "is_ratio" (cCons (cVar 2) cNil)) [some (tw T), some (.tup us), none] us [] h = .ok (us.map fun u => .bl (g u)) h := by
    have := comp_map (T := .nm 2) (tt := cTrue) (te := cCall (callK prg k) 1 "is_ratio" (cCons (cVar 2) cNil)) (ρ0 := [some (tw T), some (.tup us), none]) (enc := id) (f := fun u => .bl (g u)) (h := h) us hl2 fun u hu => ⟨_, bind_nm _ _ _, rfl, by simp [hg u hu]⟩
    rw [List.map_id] at this
    exact this
  rw [k_table_solved]
  simp [b_table_solved, startR, ck, l2, le, cm, all_map, bad, cutX_same]
end
end K03
end
section
set_option Elab.async false
set_option linter.all false
set_option maxRecDepth 100000
set_option maxHeartbeats 2000000
namespace K03
open PySem PySem.Spec Wv L2
theorem red0L {K n : Nat} (hK : 36 ≤ K) (h : Store) (e : own? h n = some []) : ∃ h2 N P, callK prg (K + 1) "reduced_of" [.ref n] h = .ok (.tup [.ref N, .ref P]) h2 ∧ Red h h2 N P [] [] := by
  have it : InT K (.ref n) h [] 0 := ⟨⟨[(n, [])], (lst_of_own e).1, fun t => gdOk_one (lst_own (own_app e))⟩, fun t => by
    obtain ⟨K, rfl⟩ : ∃ z, K = z + 1 := ⟨K - 1, by omega⟩
    have l := (lst_of_own (own_app (t := t) e)).2.2.1
    rw [k_width_of]
    simp [b_width_of, startR, l, cutR_same]⟩
  obtain ⟨h2, N, P, e, R, _⟩ := c_reduced (K := K) (L := 1) (q := 0) (by omega) it ⟨fun r hr => (nomatch hr), fun r hr => (nomatch hr)⟩ (by decide) (by decide) (fun s h1 h2 => by omega)
  exact ⟨h2, N, P, e, R⟩
end K03
end
section
set_option Elab.async false
set_option linter.all false
set_option maxRecDepth 100000
set_option maxHeartbeats 2000000
namespace K03
open PySem PySem.Spec Wv L2
theorem c_solof0 {K : Nat} (hK : 44 ≤ K) (h : Store) : callK prg (K + 1) "solution_of" [.tup [], .tup []] h = .ok (.tup []) h := by
  obtain ⟨k, rfl⟩ : ∃ z, K = z + 1 := ⟨K - 1, by omega⟩
  have on0 := own_new h []
  obtain ⟨h2, N, P, e, R⟩ := red0L (K := k) (by omega) (h ++ [Ob.lst []]) on0
  have w1 := c_width0 k h2
  obtain ⟨rs, a⟩ := R.rd
  have rs0 : rs = [] := List.eq_nil_of_length_eq_zero a.len
  subst rs0
  have inn := in_nats (j := 0) (ps := []) a.piv
  have nin : ¬ (0 ∈ ([] : List Nat)) := by simp
  rw [decide_eq_false nin] at inn
  have inn2 : cmpW .In (.int 0) (.ref P) h2 = some false := inn
  have z0 : zipOf h [.tup [], .tup []] = some ([], []) := rfl
  have c0 : ∀ (T : Tgt) (te : Den) (ρ : Rho), compL [] T cTrue te ρ [] [] h = .ok [] h := fun T te ρ => by
    unfold compL
    rw [if_pos (gdOk_nil _)]
  have wo := own_new h2 [fw (0, 1)]
  have opm : opBin true .Mult (.ref h2.length) (.int 0) (h2 ++ [Ob.lst [fw (0, 1)]]) = some (.ref (h2 ++ [Ob.lst [fw (0, 1)]]).length, (h2 ++ [Ob.lst [fw (0, 1)]]) ++ [Ob.lst []]) := by
    have z : opBin true .Mult = opMul := rfl
    rw [z]
    unfold opMul
    dsimp only
    rw [wo]
    dsimp only
    rw [if_pos ⟨by omega, by omega, by simp⟩]
    rfl
  have b1 := a.app [Ob.lst [fw (0, 1)]]
  have b2 := b1.app [Ob.lst []]
  have w2 := own_new (h2 ++ [Ob.lst [fw (0, 1)]]) []
  obtain ⟨y1, y2, y3, y4, y5⟩ := lst_of_own w2
  have z1 : zipOf ((h2 ++ [Ob.lst [fw (0, 1)]]) ++ [Ob.lst []]) [.ref N, .ref P] = some ([], [(N, []), (P, [])]) := by
    simp only [zipOf, lst_own b2.rows, lst_own b2.piv]
    rfl
  have f1 : ∀ (T : Tgt) (b : DenS) (ρ : Rho), forL [(N, []), (P, [])] T b [] ρ ((h2 ++ [Ob.lst [fw (0, 1)]]) ++ [Ob.lst []]) = .next ρ ((h2 ++ [Ob.lst [fw (0, 1)]]) ++ [Ob.lst []]) := fun T b ρ => by
    unfold forL
    rw [if_pos (show gdOk [(N, []), (P, [])] _ from gdOk_two (lst_own b2.rows) (lst_own b2.piv))]
  obtain ⟨t, ht⟩ := R.old
  generalize hX : (h2 ++ [Ob.lst [fw (0, 1)]]) ++ [Ob.lst []] = X at *
  generalize hL : (h2 ++ [Ob.lst [fw (0, 1)]]).length = n at *
  have fw1 : fw (0, 1) = .tup [.int 0, .int 1] := rfl
  rw [fw1] at opm
  rw [k_solution_of, decide_eq_true (show 32 ≤ k + 1 by omega)]
  simp [b_solution_of, startR, z0, c0, e, w1, inn2, opm, z1, f1, y2]
  rw [← hX, ht, List.append_assoc, List.append_assoc, List.append_assoc]
  exact cutR_app (w := .tup []) rfl
theorem c_solved0 {K : Nat} (hK : 48 ≤ K) (h : Store) : callK prg (K + 1) "table_solved" [.tup [], .tup []] h = .ok (.tup []) h := by
  obtain ⟨k, rfl⟩ : ∃ z, K = z + 4 := ⟨K - 4, by omega⟩
  have ck : callK prg (k + 4) "check_table" [.tup []] h = .ok .non h := c_check (T := []) (L := 1) (q := 1) k h (by decide) tab_nil
  have cs := c_solof0 (K := k + 3) (by omega) h
  have c0 : ∀ (T : Tgt) (te : Den) (ρ : Rho), compL [] T cTrue te ρ [] [] h = .ok [] h := fun T te ρ => by
    unfold compL
    rw [if_pos (gdOk_nil _)]
  have aq : Out.of (allQ false [] h) = .ok (.bl true) h := rfl
  rw [k_table_solved]
  simp [b_table_solved, startR, ck, c0, aq, cs, cutR_same]
end K03
end
section
set_option Elab.async false
set_option linter.all false
set_option maxRecDepth 100000
set_option maxHeartbeats 2000000
namespace K03
open PySem PySem.Spec Wv L2
/-! ### sizes of what the law draws -/
theorem bits_1000 : ∀ s, s < 8 → bits 1000 s ≤ 20000000 := by decide +kernel
structure Small (L q : Nat) (T : List (List Fr)) : Prop where
  mat : Mat L q T
  p1 : 1 ≤ T.length
  p40 : T.length ≤ 40
  q1 : 1 ≤ q
  q40 : q ≤ 40
  few : T.length ≤ 8 ∨ q ≤ 7
section
variable {L q : Nat} {T : List (List Fr)} (s : Small L q T)
include s
theorem Small.tab : Tab L q T := ⟨s.p40, s.q1, s.q40, s.mat.len, s.mat.good⟩
theorem Small.fit (hL : L ≤ 1000) : Fit 1000 q T := by
  have m := s.mat.mono hL
  refine ⟨⟨s.p40, s.q1, s.q40, m.len, m.good⟩, by decide, fun i h1 h2 => bits_1000 i ?_⟩
  have := s.few
  omega
theorem Small.fit2 (hL : L ≤ 1000) {b : List Fr} (hb : b.length = T.length) (gb : ∀ c ∈ b, Good 1000 c) : Fit2 1000 q T b := by
  have m := s.mat.mono hL
  refine ⟨⟨s.p40, s.q1, s.q40, m.len, m.good⟩, by decide, hb, gb, fun i h1 h2 => bits_1000 i ?_⟩
  have := s.few
  omega
end
/-! ### plain data -/
theorem dep_fw (x : Fr) : dep 3 (fw x) = true := by
  obtain ⟨n, d⟩ := x
  unfold fw
  simp [dep]
theorem dep_rw {r : List Fr} (h : r.length ≤ 1000) : dep 4 (rw r) = true := by
  unfold rw dep
  rw [List.length_map, decide_eq_true h, Bool.and_true, List.all_map]
  exact List.all_eq_true.mpr fun x _ => dep_fw x
theorem dep_rw5 {r : List Fr} (h : r.length ≤ 1000) : dep 5 (rw r) = true := by
  unfold rw dep
  rw [List.length_map, decide_eq_true h, Bool.and_true, List.all_map]
  refine List.all_eq_true.mpr fun x _ => ?_
  obtain ⟨n, d⟩ := x
  simp [fw, dep]
theorem dep_tw {A : List (List Fr)} (h : A.length ≤ 1000) (hr : ∀ r ∈ A, r.length ≤ 1000) : dep 5 (tw A) = true := by
  unfold tw dep
  rw [List.length_map, decide_eq_true h, Bool.and_true, List.all_map]
  exact List.all_eq_true.mpr fun x hx => dep_rw (hr x hx)
theorem dep_solW {T : List (List Fr)} {b : List Fr} {q : Nat} (hq : q ≤ 1000) : dep 5 (solW T b q) = true := by
  unfold solW
  split
  · rfl
  · refine dep_rw5 ?_
    unfold solv
    rw [setS_length, List.length_replicate]
    exact hq
theorem kern_dep {A : List (List Fr)} {ps : List Nat} {q : Nat} (hq : q ≤ 1000) : dep 5 (tw (kern A ps q)) = true := by
  refine dep_tw ?_ fun r hr => ?_
  · unfold kern
    rw [List.length_map]
    exact Nat.le_trans (List.length_filter_le _ _) (by rw [List.length_range]; exact hq)
  · unfold kern at hr
    obtain ⟨j, _, rfl⟩ := List.mem_map.mp hr
    unfold kvec
    rw [setK_length, startK_length]
    exact hq
/-! ### slices and copies -/
theorem cut_lo (xs : List W) (n : Nat) : cutW xs none (some (n : Int)) = xs.take n := by
  unfold cutW
  rw [HT.sIx_nat]
  show (xs.drop 0).take (min n xs.length - 0) = _
  rw [List.drop_zero, Nat.sub_zero, ← List.take_eq_take_min]
theorem cut_hi (xs : List W) (n : Nat) : cutW xs (some (n : Int)) none = xs.drop n := by
  unfold cutW
  rw [HT.sIx_nat]
  show (xs.drop (min n xs.length)).take (xs.length - min n xs.length) = _
  rcases Nat.le_total n xs.length with h | h
  · rw [Nat.min_eq_left h]
    exact List.take_of_length_le (Nat.le_of_eq (by rw [List.length_drop]))
  · rw [Nat.min_eq_right h, Nat.sub_self, List.drop_of_length_le h]
    rfl
theorem mul_rep (big : Bool) (z : W) (n : Nat) (h1 : 1 ≤ n) (hn : n ≤ 1000) (h : Store) : opBin big .Mult (.tup [z]) (.int (n : Int)) h = some (.tup (List.replicate n z), h) := by
  have e : opBin big .Mult = opMul := rfl
  rw [e]
  unfold opMul
  dsimp only
  by_cases c : n = 1
  · subst c
    rfl
  · rw [if_neg (by omega), if_pos ⟨rfl, by omega, by omega, by simp⟩, Int.toNat_natCast, flat_rep]
/-! ### drawing for each of some rows -/
theorem comp_drawE {α : Type} {enc : α → W} {T : Tgt} {te : Den} {ρ0 : Rho} {S : Nat} {L : Nat} (hs : ∀ (i : α) (h : Store), StAt h S → ∃ ρ1, T.bind (enc i) ρ0 = some ρ1 ∧ ∃ x s0 s1, Good L x ∧ te ρ1 h = .ok (fw x) (h.set S (twoN s0 s1))) :
    ∀ (is : List α) (acc : List W) (h : Store), acc.length + is.length ≤ 1000 → StAt h S → ∃ (row : List Fr) (s0 s1 : Int), compL [] T cTrue te ρ0 (is.map enc) acc h = .ok (acc ++ row.map fw) (h.set S (twoN s0 s1)) ∧ row.length = is.length ∧ ∀ x ∈ row, Good L x
  | [], acc, h, _, a => by
    obtain ⟨s0, s1, e⟩ := a.same
    refine ⟨[], s0, s1, ?_, rfl, fun x hx => nomatch hx⟩
    rw [List.map_nil]
    unfold compL
    rw [if_pos (gdOk_nil _), ← e]
    simp
  | i :: is, acc, h, hl, a => by
    obtain ⟨ρ1, e1, x, s0, s1, g, e2⟩ := hs i h a
    rw [List.length_cons] at hl
    obtain ⟨row, t0, t1, e3, e4, e5⟩ := comp_drawE hs is (acc ++ [fw x]) (h.set S (twoN s0 s1)) (by rw [List.length_append]; simp; omega) (a.set s0 s1)
    have lt : acc.length < 16777216 := Nat.lt_of_le_of_lt (show acc.length ≤ 1000 by omega) (by decide)
    refine ⟨x :: row, t0, t1, ?_, by rw [List.length_cons, List.length_cons, e4], fun y hy => ?_⟩
    · rw [List.map_cons]
      unfold compL
      rw [if_pos (gdOk_nil _), e1]
      dsimp only
      rw [a_true]
      dsimp only
      rw [e2]
      dsimp only
      rw [if_pos lt, e3, List.set_set]
      simp
    · rcases List.mem_cons.mp hy with z | z
      · rw [z]
        exact g
      · exact e5 y z
theorem StAt.lt {h : Store} {S : Nat} (a : StAt h S) : S < h.length := by
  obtain ⟨x, y, e⟩ := a
  exact own_lt e
theorem set_app {h t : Store} {S : Nat} (a : StAt h S) (o : Ob) : (h ++ t).set S o = h.set S o ++ t := List.set_append_left _ _ a.lt
end K03
end
section
set_option Elab.async false
set_option linter.all false
set_option maxRecDepth 100000
set_option maxHeartbeats 2000000
namespace K03
open PySem PySem.Spec Wv L2
theorem d_tred : dfs "table_reduced" = some 1 := by kernel_rfl
theorem d_rank : dfs "table_rank" = some 1 := by kernel_rfl
theorem d_kern : dfs "table_kernel" = some 1 := by kernel_rfl
theorem d_solved : dfs "table_solved" = some 2 := by kernel_rfl
theorem d_spans : dfs "spans_alike" = some 2 := by kernel_rfl
section
variable {j L q : Nat} (hj : 48 ≤ j) {r : List Fr} {T : List (List Fr)} (s : Small L q (r :: T)) (hL : L ≤ 1000) (h : Store)
include hj s hL
theorem tell_tred : callK prg (j + 3) "_law_tells" [.glo "table_reduced", .tup [tw (r :: T)], tw (redOf (r :: T) q)] h = .ok (.bl true) h := by
  have f := s.fit hL
  obtain ⟨n1, n3, lA, mA, hb, hps⟩ := red_facts (K := 40) (by omega) f
  have q40 := s.q40
  have p40 := s.p40
  refine c_tells (by omega) (c_told1 d_tred (c_tred (K := j) (by omega) f h)) (dep_tw ?_ fun m hm => ?_)
  · rw [lA]
    exact Nat.le_trans n3 (by omega)
  · rw [mA.len m hm]
    omega
theorem tell_rank : callK prg (j + 3) "_law_tells" [.glo "table_rank", .tup [tw (r :: T)], iw (rkOf (r :: T) q)] h = .ok (.bl true) h := c_tells (by omega) (c_told1 d_rank (c_rank (K := j) (by omega) (s.fit hL) h)) rfl
theorem tell_kern : callK prg (j + 3) "_law_tells" [.glo "table_kernel", .tup [tw (r :: T)], tw (kern (redOf (r :: T) q) (elimT (r :: T) q).2 q)] h = .ok (.bl true) h := by
  have q40 := s.q40
  exact c_tells (by omega) (c_told1 d_kern (c_kern (K := j) (by omega) (s.fit hL) h)) (kern_dep (by omega))
theorem tell_solved {b : List Fr} (hb : b.length = (r :: T).length) (gb : ∀ c ∈ b, Good 1000 c) : callK prg (j + 3) "_law_tells" [.glo "table_solved", .tup [tw (r :: T), rw b], solW (r :: T) b q] h = .ok (.bl true) h := by
  have q40 := s.q40
  exact c_tells (by omega) (c_told2 d_solved (c_solved (K := j) (by omega) (s.fit2 hL hb gb) h)) (dep_solW (by omega))
end
end K03
end
section
set_option Elab.async false
set_option linter.all false
set_option maxRecDepth 100000
set_option maxHeartbeats 2000000
namespace K03
open PySem PySem.Spec Wv L2
/-- the store as it was, but for the state's two numbers and new objects -/
def Kept (h H : Store) (S : Nat) : Prop := ∃ s0 s1 t, H = h.set S (twoN s0 s1) ++ t
theorem Kept.old {h H : Store} {S : Nat} (a : StAt h S) (o : Old h H) : Kept h H S := by
  obtain ⟨t, rfl⟩ := o
  obtain ⟨s0, s1, e⟩ := a.same
  exact ⟨s0, s1, t, by rw [← e]⟩
theorem Kept.at_ {h H : Store} {S : Nat} (a : StAt h S) (k : Kept h H S) : StAt H S := by
  obtain ⟨s0, s1, t, rfl⟩ := k
  exact (a.set s0 s1).app t
theorem Kept.app {h H : Store} {S : Nat} (k : Kept h H S) (t : Store) : Kept h (H ++ t) S := by
  obtain ⟨s0, s1, t2, rfl⟩ := k
  exact ⟨s0, s1, t2 ++ t, by rw [List.append_assoc]⟩
theorem Kept.ext {h H H2 : Store} {S : Nat} (k : Kept h H S) (o : Old H H2) : Kept h H2 S := by
  obtain ⟨t, rfl⟩ := o
  exact k.app t
theorem Kept.two {h H : Store} {S : Nat} (a : StAt h S) (k : Kept h H S) (s0 s1 : Int) : Kept h (H.set S (twoN s0 s1)) S := by
  obtain ⟨u0, u1, t2, rfl⟩ := k
  refine ⟨s0, s1, t2, ?_⟩
  rw [set_app (a.set u0 u1), List.set_set]
theorem Kept.le {h H : Store} {S : Nat} (k : Kept h H S) : h.length ≤ H.length := by
  obtain ⟨u0, u1, t2, rfl⟩ := k
  rw [List.length_append, List.length_set]
  omega
theorem Kept.put {h H : Store} {S n : Nat} (k : Kept h H S) (hn : h.length ≤ n) (o : Ob) : Kept h (H.set n o) S := by
  obtain ⟨u0, u1, t2, rfl⟩ := k
  refine ⟨u0, u1, t2.set (n - h.length) o, ?_⟩
  rw [List.set_append_right _ _ (by rw [List.length_set]; exact hn), List.length_set]
theorem Kept.cut {h H : Store} {S : Nat} (k : Kept h H S) {w : W} (b : belowW h.length w = true) : ∃ s0 s1, cutR h w H = .ok w (h.set S (twoN s0 s1)) := by
  obtain ⟨u0, u1, t2, rfl⟩ := k
  exact ⟨u0, u1, cutR_set b rfl⟩
theorem len_tw (T : List (List Fr)) (H : Store) : lenV (tw T) H = some (.int (T.length : Int), H) := by
  show some (W.int ((T.map rw).length : Int), H) = _
  rw [List.length_map]
theorem len_rw (r : List Fr) (H : Store) : lenV (rw r) H = some (.int (r.length : Int), H) := by
  show some (W.int ((r.map fw).length : Int), H) = _
  rw [List.length_map]
theorem add_fw (big : Bool) (xs ys : List Fr) (hl : xs.length + ys.length ≤ 1000) (H : Store) : opBin big .Add (.tup (xs.map fw)) (.tup (ys.map fw)) H = some (.tup ((xs ++ ys).map fw), H) := by
  rw [s_addt, List.length_map, List.length_map, if_pos (Nat.le_trans hl (by decide)), List.map_append]
theorem bent_len {R : List Fr} {n : Nat} (hn : n < R.length) (c : Fr) : (R.take n ++ [c] ++ R.drop (n + 1)).length = R.length := by
  rw [List.length_append, List.length_append, List.length_take, List.length_drop, Nat.min_eq_left (by omega)]
  simp
  omega
theorem good_13 : Good 2 ((1, 3) : Fr) := ⟨by unfold sz; decide, by unfold sz; decide, by decide, by decide⟩
theorem good_15 : Good 3 ((1, 5) : Fr) := ⟨by unfold sz; decide, by unfold sz; decide, by decide, by decide⟩
theorem good_32 : Good 2 ((3, 2) : Fr) := ⟨by unfold sz; decide, by unfold sz; decide, by decide, by decide⟩
theorem good_12 : Good 2 ((1, 2) : Fr) := ⟨by unfold sz; decide, by unfold sz; decide, by decide, by decide⟩
theorem dot_bound {q L : Nat} (hs : 1 + q * (L + 3 + 1) + 3 ≤ 1000) (hL : L ≤ 1000) : 1 + q * (L + 3 + 1) + (L + 3) ≤ 90000000 := Nat.le_trans (Nat.add_le_add (Nat.le_trans (Nat.le_add_right _ 3) hs) (Nat.add_le_add_right hL 3)) (by decide)
theorem forL_step {g : Gd} {T : Tgt} {body : DenS} {w : W} {ws : List W} {ρ ρ1 ρ2 : Rho} {h h2 : Store} {o : SO} (hg : gdOk g h) (e1 : T.bind w ρ = some ρ1) (e2 : body ρ1 h = .next ρ2 h2) (e3 : forL g T body ws ρ2 h2 = o) : forL g T body (w :: ws) ρ h = o := by
  unfold forL
  rw [if_pos hg, e1]
  dsimp only
  rw [e2]
  exact e3
theorem solved_loop {j L q : Nat} (hj : 48 ≤ j) {r : List Fr} {T : List (List Fr)} (s : Small L q (r :: T)) (hL : L ≤ 1000) {H : Store} {e0 e2 e3 e4 e5 e6 e7 e8 e10 e11 : Option W} (bs : List (List Fr)) : ∀ (a9 : Option W), (∀ b ∈ bs, b.length = (r :: T).length ∧ ∀ c ∈ b, Good 1000 c) → ∃ a9', forL [] (.nm 9) (sSeq (sIf (tcNot (tcVal (cCall (callK prg (j + 3)) 3 "_law_tells" (cCons (cVal (.glo "table_solved")) (cCons (cTup (cCons (cVar 1) (cCons (cVar 9) cNil))) (cCons (cCall (callK prg (j + 3)) 2 "_law_solution" (cCons (cVar 1) (cCons (cVar 9) cNil))) cNil)))))) (sSeq (sRet (cVal (.bl false)))
    sSkip) sSkip)
    sSkip) (bs.map rw) [e0, some (tw (r :: T)), e2, e3, e4, e5, e6, e7, e8, a9, e10, e11] H = .next [e0, some (tw (r :: T)), e2, e3, e4, e5, e6, e7, e8, a9', e10, e11] H := by
  induction bs with
  | nil =>
    intro a9 _
    refine ⟨a9, ?_⟩
    rw [List.map_nil]
    unfold forL
    rw [if_pos (gdOk_nil _)]
  | cons b bs ih =>
    intro a9 hb
    have hb2 := hb b List.mem_cons_self
    obtain ⟨a9', ih⟩ := ih (some (rw b)) (fun c hc => hb c (List.mem_cons_of_mem _ hc))
    refine ⟨a9', ?_⟩
    have c1 := c_lsol (K := j + 2) (by omega) (s.fit2 hL hb2.1 hb2.2) H
    have c2 := tell_solved (j := j) hj s hL H hb2.1 hb2.2
    refine forL_step (gdOk_nil _) (bind_nm _ _ _) ?_ ih
    simp [c1, c2]
theorem add_fw1 (big : Bool) (xs : List Fr) (c : Fr) (hl : xs.length ≤ 900) (H : Store) : opBin big .Add (.tup (xs.map fw)) (.tup [fw c]) H = some (.tup ((xs ++ [c]).map fw), H) := by
  rw [show [fw c] = [c].map fw from rfl]
  exact add_fw big xs [c] (by rw [List.length_singleton]; omega) H
theorem c_holds {K L q S : Nat} (hK : 60 ≤ K) {h : Store} (a : StAt h S) {r : List Fr} {T : List (List Fr)} (s : Small L q (r :: T)) (hs : 1 + q * (L + 3 + 1) + 3 ≤ 1000) : ∃ s0 s1, callK prg (K + 1) "_law_holds" [.ref S, tw (r :: T)] h = .ok (.bl true) (h.set S (twoN s0 s1)) := by
  obtain ⟨j, rfl⟩ : ∃ z, K = z + 3 := ⟨K - 3, by omega⟩
  have q1 := s.q1
  have q40 := s.q40
  have p1 := s.p1
  have p40 := s.p40
  have hL : L ≤ 1000 := by
    have := Nat.le_mul_of_pos_left (L + 3 + 1) (show 0 < q by omega)
    omega
  have f := s.fit hL
  obtain ⟨h2, P, e, R⟩ := steps_here (K := 40) (by omega) f h (j := j + 3) (by omega)
  have lP : lenV (.ref P) h2 = some (iw (rkOf (r :: T) q), h2) := by
    show (lst? h2 P).map _ = _
    rw [lst_own R.piv]
    simp [iw]
  have t1 := tell_tred (j := j) (by omega) s hL h2
  have t2 := tell_rank (j := j) (by omega) s hL h2
  have lk := c_lkern (K := j + 2) (by omega) f h2
  have t3 := tell_kern (j := j) (by omega) s hL h2
  have k2 : Kept h h2 S := Kept.old a R.old
  have lT := len_tw (r :: T)
  have lr := len_rw r
  have hr : r.length = q := s.mat.len r List.mem_cons_self
  rw [hr] at lr
  have i0 := fun H => ix_tw0 H r T
  have r1 : rng1 [.int (q : Int)] = some ((List.range q).map iw) := rng1_nat (Nat.lt_of_le_of_lt q40 (by decide))
  -- one row is drawn
  obtain ⟨x, s0, s1, x1, x2, x3⟩ := comp_draw (T := .nm 10) (te := cCall (callK prg (j + 3)) 1 "_law_drawn" (cCons (cVar 0) cNil)) (ρ0 := [some (.ref S), some (tw (r :: T)), some (tw (redOf (r :: T) q)), some (.ref P), some (.int ((r :: T).length : Int)), some (.int (q : Int)), none, none, none, none, none, none]) (S := S) (L := 3) (fun i h2 st => by
    obtain ⟨x, t0, t1, g, e2⟩ := c_drawn (K := j + 2) (by omega) st
    exact ⟨_, bind_nm _ _ _, x, t0, t1, g, by simp [e2]⟩) (List.range q) [] h2 (by rw [List.length_range, List.length_nil]; omega) (k2.at_ a)
  rw [List.length_range] at x2
  rw [List.nil_append] at x1
  have k3 : Kept h (h2.set S (twoN s0 s1)) S := k2.two a s0 s1
  generalize h2.set S (twoN s0 s1) = h3 at x1 k3
  -- the reached row
  obtain ⟨Rr, hR⟩ : ∃ Rr, Rr = (r :: T).map (fun m => dotF m x q) := ⟨_, rfl⟩
  have lR : Rr.length = (r :: T).length := by
    rw [hR, List.length_map]
  have gR : ∀ c ∈ Rr, Good (1 + q * (L + 3 + 1)) c := fun c hc => by
    rw [hR] at hc
    obtain ⟨m, hm, rfl⟩ := List.mem_map.mp hc
    exact dot_good (s.mat.len m hm) x2 (s.mat.good m hm) x3
  have cR : compL [] (.nm 11) cTrue (cCall (callK prg (j + 3)) 2 "_law_dot" (cCons (cVar 11) (cCons (cVar 6) cNil))) [some (.ref S), some (tw (r :: T)), some (tw (redOf (r :: T) q)), some (.ref P), some (.int ((r :: T).length : Int)), some (.int (q : Int)), some (.tup (x.map fw)), none, none, none, none, none] ((r :: T).map rw) [] h3 = .ok (Rr.map fw) h3 := by
    rw [hR, List.map_map]
    refine comp_map (r :: T) (Nat.le_trans p40 (by decide)) fun m hm => ?_
    have cd := c_dot (K := j + 2) (h := h3) (two := .tup (x.map fw)) (by omega) (s.mat.len m hm) x2 (s.mat.good m hm) x3 (by omega) (dot_bound hs hL) (fun i y e => atI_map e)
    refine ⟨_, bind_nm _ _ _, rfl, ?_⟩
    simp [cd]
  -- a place
  obtain ⟨v, u0, u1, v0, v1, e4⟩ := c_take (K := j + 2) (m := ((r :: T).length : Int)) (k3.at_ a) (by omega) (by omega)
  have k4 : Kept h (h3.set S (twoN u0 u1)) S := k3.two a u0 u1
  generalize h3.set S (twoN u0 u1) = h4 at e4 k4
  obtain ⟨n, rfl⟩ := Int.eq_ofNat_of_zero_le v0
  have hn : n < Rr.length := by omega
  -- another row is drawn
  obtain ⟨d, w0, w1, d1, d2, d3⟩ := comp_drawE (enc := rw) (T := .nm 11) (te := cCall (callK prg (j + 3)) 1 "_law_drawn" (cCons (cVar 0) cNil)) (ρ0 := [some (.ref S), some (tw (r :: T)), some (tw (redOf (r :: T) q)), some (.ref P), some (.int ((r :: T).length : Int)), some (.int (q : Int)), some (.tup (x.map fw)), some (.tup (Rr.map fw)), some (.int (n : Int)), none, none, none]) (S := S) (L := 3) (fun i h2 st => by
    obtain ⟨x, t0, t1, g, e2⟩ := c_drawn (K := j + 2) (by omega) st
    exact ⟨_, bind_nm _ _ _, x, t0, t1, g, by simp [e2]⟩) (r :: T) [] h4 (by rw [List.length_nil]; omega) (k4.at_ a)
  rw [List.nil_append] at d1
  have k5 : Kept h (h4.set S (twoN w0 w1)) S := k4.two a w0 w1
  generalize h4.set S (twoN w0 w1) = h5 at d1 k5
  have gz : ∀ c ∈ List.replicate (r :: T).length ((0, 1) : Fr), Good 1000 c := fun c hc => by
    rw [(List.mem_replicate.mp hc).2]
    exact good_zero.mono (by decide)
  have gR2 : ∀ c ∈ Rr, Good 997 c := fun c hc => (gR c hc).mono (by omega)
  have gc : Good 1000 (addF Rr[n] (1, 3)) := (addF_good (gR2 _ (List.getElem_mem hn)) good_13)
  have gb : ∀ c ∈ Rr.take n ++ [addF Rr[n] (1, 3)] ++ Rr.drop (n + 1), Good 1000 c := fun c hc => by
    rcases List.mem_append.mp hc with z | z
    · rcases List.mem_append.mp z with z | z
      · exact (gR2 c (List.mem_of_mem_take z)).mono (by decide)
      · rw [List.mem_singleton.mp z]
        exact gc
    · exact (gR2 c (List.mem_of_mem_drop z)).mono (by decide)
  obtain ⟨a9, lp⟩ := solved_loop (j := j) (by omega) s hL (H := h5) (e0 := some (.ref S)) (e2 := some (tw (redOf (r :: T) q))) (e3 := some (.ref P)) (e4 := some (.int ((r :: T).length : Int))) (e5 := some (.int (q : Int))) (e6 := some (.tup (x.map fw))) (e7 := some (.tup (Rr.map fw))) (e8 := some (.int (n : Int))) (e10 := none) (e11 := none) [Rr, List.replicate (r :: T).length (0, 1), Rr.take n ++ [addF Rr[n] (1, 3)] ++ Rr.drop (n + 1), d] none (fun b hb => by
    simp only [List.mem_cons, List.not_mem_nil, or_false] at hb
    rcases hb with z | z | z | z
    · subst z
      exact ⟨lR, fun c hc => (gR2 c hc).mono (by decide)⟩
    · subst z
      exact ⟨List.length_replicate, gz⟩
    · subst z
      exact ⟨by rw [bent_len hn, lR], gb⟩
    · subst z
      exact ⟨d2, fun c hc => (d3 c hc).mono (by decide)⟩)
  have lp2 := lp
  rw [show [Rr, List.replicate (r :: T).length (0, 1), Rr.take n ++ [addF Rr[n] (1, 3)] ++ Rr.drop (n + 1), d].map rw = [W.tup (Rr.map fw), W.tup ((List.replicate (r :: T).length (0, 1)).map fw), W.tup ((Rr.take n ++ [addF Rr[n] (1, 3)] ++ Rr.drop (n + 1)).map fw), W.tup (d.map fw)] from rfl] at lp2
  rw [List.map_replicate] at lp2
  have mr : ∀ big, opBin big .Mult (.tup [.tup [.int 0, .int 1]]) (.int ((r :: T).length : Int)) h4 = some (.tup (List.replicate (r :: T).length (fw (0, 1))), h4) := fun big => mul_rep big _ _ (by omega) (by omega) h4
  have sl1 : slW h4 (.tup (Rr.map fw)) none (some (n : Int)) = some (.tup ((Rr.take n).map fw), h4) := by
    show some (W.tup (cutW _ _ _), h4) = _
    rw [cut_lo, List.map_take]
  have sl2 : slW h4 (.tup (Rr.map fw)) (some ((n : Int) + 1)) none = some (.tup ((Rr.drop (n + 1)).map fw), h4) := by
    show some (W.tup (cutW _ (some ((n + 1 : Nat) : Int)) _), h4) = _
    rw [cut_hi, List.map_drop]
  have ix : ixW h4 (.tup (Rr.map fw)) (.int (n : Int)) = some (fw Rr[n]) := atI_map (List.getElem?_eq_getElem hn)
  have ca := c_add (j + 2) h4 (by omega) (gR2 _ (List.getElem_mem hn)) good_13 (by decide)
  rw [show fw (1, 3) = .tup [.int 1, .int 3] from rfl] at ca
  have ad1 := fun big => add_fw1 big (Rr.take n) (addF Rr[n] (1, 3)) (by
    rw [List.length_take]
    have := Nat.min_le_right n Rr.length
    omega) h4
  have ad2 : ∀ big, opBin big .Add (.tup ((Rr.take n ++ [addF Rr[n] (1, 3)]).map fw)) (.tup ((Rr.drop (n + 1)).map fw)) h4 = some (.tup ((Rr.take n ++ [addF Rr[n] (1, 3)] ++ Rr.drop (n + 1)).map fw), h4) := fun big => add_fw big _ _ (by
    have := bent_len hn (addF Rr[n] (1, 3))
    rw [List.length_append] at this
    omega) h4
  obtain ⟨c0, c1, ct⟩ := k5.cut (w := .bl true) rfl
  refine ⟨c0, c1, ?_⟩
  have it : ∀ H, itOf H (tw (r :: T)) = some ((r :: T).map rw, []) := fun H => rfl
  generalize (r :: T).map rw = Y at *
  generalize (r :: T).length = p at *
  generalize addF Rr[n] (1, 3) = c at *
  generalize Rr[n] = c' at *
  generalize (Rr.take n ++ [c] ++ Rr.drop (n + 1)).map fw = B1 at *
  generalize (Rr.take n ++ [c]).map fw = B2 at *
  generalize (Rr.take n).map fw = B3 at *
  generalize (Rr.drop (n + 1)).map fw = B4 at *
  rw [k__law_holds]
  simp [b__law_holds, startR, e, lT, lr, i0, t1, t2, lk, t3, lP, r1, x1, it, cR, e4, mr, sl1, sl2, ix, ca, ad1, ad2, d1, lp2, ct, -s_addt, -s_ixt]
end K03
end
section
set_option Elab.async false
set_option linter.all false
set_option maxRecDepth 100000
set_option maxHeartbeats 2000000
namespace K03
open PySem PySem.Spec Wv L2
/-! ### pairs of tables -/
theorem steps_any {j L q : Nat} (hj : 48 ≤ j) {A : List (List Fr)} (s : Small L q A) (hL : L ≤ 1000) (H : Store) : ∃ H1 P, callK prg (j + 3) "_law_steps" [tw A] H = .ok (.tup [tw (redOf A q), .ref P]) H1 ∧ Old H H1 := by
  have p1 := s.p1
  obtain ⟨r, T, rfl⟩ : ∃ r T, A = r :: T := by
    cases A with
    | nil => cases p1
    | cons r T => exact ⟨r, T, rfl⟩
  obtain ⟨h2, P, e, R⟩ := steps_here (K := 40) (by omega) (s.fit hL) H (j := j + 3) (by omega)
  exact ⟨h2, P, e, R.old⟩
theorem spans_any {j L M q : Nat} (hj : 48 ≤ j) {A B : List (List Fr)} (s : Small L q A) (s2 : Small M q B) (hL : L ≤ 1000) (hM : M ≤ 1000) (H : Store) : callK prg (j + 3) "_law_tells" [.glo "spans_alike", .tup [tw A, tw B], .bl (decide (redOf A q = redOf B q))] H = .ok (.bl true) H := by
  have p1 := s.p1
  have p2 := s2.p1
  obtain ⟨r, T, rfl⟩ : ∃ r T, A = r :: T := by
    cases A with
    | nil => cases p1
    | cons r T => exact ⟨r, T, rfl⟩
  obtain ⟨r2, T2, rfl⟩ : ∃ r T, B = r :: T := by
    cases B with
    | nil => cases p2
    | cons r T => exact ⟨r, T, rfl⟩
  exact c_tells (by omega) (c_told2 d_spans (c_spans (K := j) (by omega) (s.fit hL) (s2.fit hM) H)) rfl
theorem spans_loop {j q S : Nat} (hj : 48 ≤ j) {h : Store} {e0 e1 e2 e3 e4 e5 e6 e7 e8 e9 e12 e13 : Option W} : ∀ (ps : List (List (List Fr) × List (List Fr))) (a10 a11 : Option W) (H : Store), Kept h H S → (∀ p ∈ ps, ∃ L M, L ≤ 1000 ∧ M ≤ 1000 ∧ Small L q p.1 ∧ Small M q p.2) → ∃ a10' a11' H', forL [] (.tp [(.nm 10), (.nm 11)]) (sSeq (sIf (tcNot (tcVal (cCall (callK prg (j + 3)) 3 "_law_tells" (cCons (cVal (.glo "spans_alike")) (cCons (cTup (cCons (cVar 10) (cCons (cVar 11) cNil))) (cCons (cCmp .Eq (cIx (cCall (callK prg (j + 3)) 1 "_law_steps" (cCons (cVar 10) cNil)) (cVal (.int 0))) (cIx (cCall (callK prg (j + 3)) 1 "_law_steps" (cCons (cVar 11) cNil)) (cVal (.int 0)))) cNil)))))) (sSeq (sRet (cVal (.bl false)))
    sSkip) sSkip)
    sSkip) (ps.map fun p => .tup [tw p.1, tw p.2]) [e0, e1, e2, e3, e4, e5, e6, e7, e8, e9, a10, a11, e12, e13] H = .next [e0, e1, e2, e3, e4, e5, e6, e7, e8, e9, a10', a11', e12, e13] H' ∧ Kept h H' S
  | [], a10, a11, H, k, _ => ⟨a10, a11, H, by
    rw [List.map_nil]
    unfold forL
    rw [if_pos (gdOk_nil _)], k⟩
  | (A, B) :: ps, a10, a11, H, k, hp => by
    obtain ⟨L, M, hL, hM, (s : Small L q A), (s2 : Small M q B)⟩ := hp _ List.mem_cons_self
    obtain ⟨H1, P, c1, o⟩ := steps_any hj s hL H
    obtain ⟨H2, P2, c2, o2⟩ := steps_any hj s2 hM H1
    have c3 := spans_any hj s s2 hL hM H2
    have c4 := eq_tw H2 (redOf A q) (redOf B q)
    obtain ⟨a10', a11', H', f1, k2⟩ := spans_loop hj (e0 := e0) (e1 := e1) (e2 := e2) (e3 := e3) (e4 := e4) (e5 := e5) (e6 := e6) (e7 := e7) (e8 := e8) (e9 := e9) (e12 := e12) (e13 := e13) ps (some (tw A)) (some (tw B)) H2 ((k.ext o).ext o2) fun p hm => hp p (List.mem_cons_of_mem _ hm)
    refine ⟨a10', a11', H', ?_, k2⟩
    refine forL_step (gdOk_nil _) (bind_tp2 _ _ _ _ _) ?_ f1
    simp [c1, c2, c3, c4]
/-! ### the tables to be compared -/
theorem small_app {L M q : Nat} {A B : List (List Fr)} (a : Mat L q A) (b : Mat M q B) (hLM : L ≤ M) (h1 : 1 ≤ B.length) (h40 : A.length + B.length ≤ 40) (q1 : 1 ≤ q) (q7 : q ≤ 7) : Small M q (A ++ B) :=
  ⟨⟨fun r hr => by
    rcases List.mem_append.mp hr with z | z
    · exact a.len r z
    · exact b.len r z, fun r hr x hx => by
    rcases List.mem_append.mp hr with z | z
    · exact (a.good r z x hx).mono hLM
    · exact b.good r z x hx⟩, by rw [List.length_append]; omega, by rw [List.length_append]; omega, q1, by omega, .inr q7⟩
theorem small_one {L q : Nat} {r : List Fr} (hl : r.length = q) (g : ∀ x ∈ r, Good L x) (q1 : 1 ≤ q) (q7 : q ≤ 40) : Small L q [r] :=
  ⟨⟨fun m hm => by
    rw [List.mem_singleton.mp hm]
    exact hl, fun m hm x hx => by
    rw [List.mem_singleton.mp hm] at hx
    exact g x hx⟩, by simp, by simp, q1, q7, .inl (by simp)⟩
theorem prod_mat {L M q p : Nat} {S T : List (List Fr)} (a : Mat L p S) (b : Mat M q T) (hT : T.length = p) : Mat (1 + p * (L + M + 1)) q (prodM S T q) := by
  refine ⟨fun r hr => ?_, fun r hr x hx => ?_⟩
  · unfold prodM at hr
    obtain ⟨row, hm, rfl⟩ := List.mem_map.mp hr
    rw [List.length_map, List.length_range]
  · unfold prodM at hr
    obtain ⟨row, hm, rfl⟩ := List.mem_map.mp hr
    obtain ⟨i, hi, rfl⟩ := List.mem_map.mp hx
    have hi := List.mem_range.mp hi
    rw [hT]
    refine dot_good (a.len row hm) (by unfold colM; rw [List.length_map, hT]) (a.good row hm) fun c hc => ?_
    unfold colM at hc
    obtain ⟨line, hl, rfl⟩ := List.mem_map.mp hc
    exact b.good line hl _ (get_d (show i < line.length by rw [b.len line hl]; exact hi)).2
theorem prod_len (S T : List (List Fr)) (q : Nat) : (prodM S T q).length = S.length := by
  unfold prodM
  rw [List.length_map]
theorem add_tw (big : Bool) (A B : List (List Fr)) (hl : A.length + B.length ≤ 1000) (H : Store) : opBin big .Add (tw A) (tw B) H = some (tw (A ++ B), H) := by
  unfold tw
  rw [s_addt, List.length_map, List.length_map, if_pos (Nat.le_trans hl (by decide)), List.map_append]
theorem rev_tw {T : List (List Fr)} {f : Den} {ρ : Rho} {H : Store} (e : f ρ H = .ok (tw T) H) : cRev f ρ H = .ok (tw T.reverse) H := by
  rw [a_rev, e]
  show Out.ok (W.tup (T.map rw).reverse) H = _
  rw [← List.map_reverse]
  rfl
end K03
end
section
set_option Elab.async false
set_option linter.all false
set_option maxRecDepth 100000
set_option maxHeartbeats 2000000
namespace K03
open PySem PySem.Spec Wv L2
/-- rows copied, one cell of one of them changed -/
def bentM (T : List (List Fr)) (i j : Nat) (c : Fr) : List (List Fr) := T.set i (((T[i]?).getD []).set j c)
theorem bent_mat {L M q : Nat} {T : List (List Fr)} (a : Mat L q T) (hLM : L ≤ M) {i j : Nat} (hi : i < T.length) {c : Fr} (g : Good M c) : Mat M q (bentM T i j c) := by
  obtain ⟨r, e1, e2, e3, e4⟩ := a.row hi
  unfold bentM
  rw [e2]
  refine (a.mono hLM).set (by rw [List.length_set]; exact e3) fun x hx => ?_
  rcases mem_set hx with z | z
  · rw [z]
    exact g
  · exact (e4 x z).mono hLM
theorem copied {H : Store} {T : List (List Fr)} {i : Nat} {m : List Fr} (e : T[i]? = some m) (X : Store) : own? ((H ++ T.map fun r => Ob.lst (r.map fw)) ++ X) (H.length + i) = some (m.map fw) := by
  have hi : i < T.length := (List.getElem?_eq_some_iff.mp e).1
  refine own_app ?_
  unfold own?
  rw [List.getElem?_append_right (by omega), Nat.add_sub_cancel_left, List.getElem?_map, e]
  rfl
theorem mix_bound {p L : Nat} (hs : 1 + p * (3 + L + 1) ≤ 900) (hL : L ≤ 900) : 1 + p * (3 + L + 1) + (3 + L) ≤ 90000000 := Nat.le_trans (Nat.add_le_add hs (Nat.add_le_add_left hL 3)) (by decide)
theorem c_spans_hold {K L q S : Nat} (hK : 60 ≤ K) {h : Store} (a : StAt h S) {r : List Fr} {T : List (List Fr)} (s : Small L q (r :: T)) (p7 : (r :: T).length ≤ 7) (q7 : q ≤ 7) (hs : 1 + (r :: T).length * (3 + L + 1) ≤ 900) : ∃ s0 s1, callK prg (K + 1) "_law_spans_hold" [.ref S, tw (r :: T)] h = .ok (.bl true) (h.set S (twoN s0 s1)) := by
  obtain ⟨j, rfl⟩ : ∃ z, K = z + 3 := ⟨K - 3, by omega⟩
  have q1 := s.q1
  have p1 := s.p1
  have hL : L ≤ 900 := by
    have := Nat.le_mul_of_pos_left (3 + L + 1) (show 0 < (r :: T).length by omega)
    omega
  have hLM : L ≤ 1 + (r :: T).length * (3 + L + 1) := by
    have := Nat.le_mul_of_pos_left (3 + L + 1) (show 0 < (r :: T).length by omega)
    omega
  have hr : r.length = q := s.mat.len r List.mem_cons_self
  have gr : ∀ x ∈ r, Good L x := s.mat.good r List.mem_cons_self
  have lT := len_tw (r :: T)
  have lr := len_rw r
  rw [hr] at lr
  have i0 := fun H => ix_tw0 H r T
  -- mixed rows
  obtain ⟨v, s0, s1, v0, v1, e1⟩ := c_take (K := j + 2) (m := 6) a (by decide) (by decide)
  have k1 : Kept h (h.set S (twoN s0 s1)) S := (Kept.old a ⟨[], (List.append_nil _).symm⟩).two a s0 s1
  generalize h.set S (twoN s0 s1) = h1 at e1 k1
  obtain ⟨n, rfl⟩ := Int.eq_ofNat_of_zero_le v0
  obtain ⟨A, s0, s1, e2, a1, aM⟩ := c_table (K := j + 2) (p := 1 + n) (q := (r :: T).length) (by omega) (k1.at_ a) (by omega) (by omega)
  have k2 : Kept h (h1.set S (twoN s0 s1)) S := k1.two a s0 s1
  generalize h1.set S (twoN s0 s1) = h2 at e2 k2
  rw [show ((1 + n : Nat) : Int) = 1 + (n : Int) by omega] at e2
  have e3 := c_product (K := j + 2) (h := h2) (by omega) (by omega) (fun m hm => aM.len m hm) (fun m hm => aM.good m hm) s.tab (mix_bound hs hL)
  have mM := prod_mat aM s.mat rfl
  have lM : (prodM A (r :: T) q).length = 1 + n := by rw [prod_len, a1]
  generalize hMx : prodM A (r :: T) q = Mx at e3 mM lM
  have ad : ∀ big, opBin big .Add (tw Mx) (tw (r :: T)) h2 = some (tw (Mx ++ (r :: T)), h2) := fun big => add_tw big _ _ (by omega) h2
  -- turned rows
  have rv : ∀ ρ : Rho, ρ[1]? = some (some (tw (r :: T))) → cRev (cVar 1) ρ h2 = .ok (tw (r :: T).reverse) h2 := fun ρ e => rev_tw (by rw [a_var, e])
  have cm : compL [] (.nm 13) cTrue (cCall (callK prg (j + 3)) 2 "_law_mul" (cCons (cVar 13) (cCons (cTup (cCons (cVal (.int 3)) (cCons (cVal (.int 2)) cNil))) cNil))) [some (.ref S), some (tw (r :: T)), some (.int ((r :: T).length : Int)), some (.int (q : Int)), some (tw Mx), some (tw (Mx ++ (r :: T))), none, none, none, none, none, none, none, none] (r.map fw) [] h2 = .ok ((r.map fun x => mulF x (3, 2)).map fw) h2 := by
    rw [List.map_map]
    refine comp_map r (by rw [hr]; exact Nat.le_trans q7 (by decide)) fun x hx => ?_
    have cl := c_lmul (j + 2) h2 (by omega) (gr x hx) good_32 (Nat.le_trans (Nat.add_le_add_right hL 2) (by decide))
    refine ⟨_, bind_nm _ _ _, rfl, ?_⟩
    have z : fw (3, 2) = .tup [.int 3, .int 2] := rfl
    rw [z] at cl
    simp [cl]
  have mT : Mat (L + 2) q [r.map fun x => mulF x (3, 2)] := ⟨fun m hm => by
    rw [List.mem_singleton.mp hm, List.length_map]
    exact hr, fun m hm x hx => by
    rw [List.mem_singleton.mp hm] at hx
    obtain ⟨y, hy, rfl⟩ := List.mem_map.mp hx
    exact mulF_good (gr y hy) good_32⟩
  have ad2 := fun big => add_tw big (r :: T).reverse [r.map fun x => mulF x (3, 2)] (by
    rw [List.length_reverse, List.length_singleton]
    omega) h2
  rw [show tw [r.map fun x => mulF x (3, 2)] = .tup [.tup ((r.map fun x => mulF x (3, 2)).map fw)] from rfl] at ad2
  have mV : Mat L q (r :: T).reverse := ⟨fun m hm => s.mat.len m (List.mem_reverse.mp hm), fun m hm => s.mat.good m (List.mem_reverse.mp hm)⟩
  have sV : Small (L + 2) q ((r :: T).reverse ++ [r.map fun x => mulF x (3, 2)]) := small_app mV mT (by omega) (by simp) (by
    rw [List.length_reverse]
    simp
    simp at p7
    omega) q1 q7
  generalize (r :: T).reverse ++ [r.map fun x => mulF x (3, 2)] = V at ad2 sV
  generalize (r.map fun x => mulF x (3, 2)).map fw = V1 at ad2 cm
  -- copied rows
  have cc := comp_copy (g := []) (s := 12) (ρ0 := [some (.ref S), some (tw (r :: T)), some (.int ((r :: T).length : Int)), some (.int (q : Int)), some (tw Mx), some (tw (Mx ++ (r :: T))), some (tw V), none, none, none, none, none, none, none]) (by simp) (h := h2) (fun t => gdOk_nil _) (r :: T) [] [] (by rw [List.length_nil]; omega)
  simp only [List.append_nil, List.nil_append] at cc
  have own1 : ∀ (i : Nat) (m : List Fr), (r :: T)[i]? = some m → own? ((h2 ++ (r :: T).map fun r => Ob.lst (r.map fw)) ++ [Ob.lst ((List.range' h2.length (r :: T).length).map W.ref)]) (h2.length + i) = some (m.map fw) := fun i m e => copied e _
  have k3 : Kept h ((h2 ++ (r :: T).map fun r => Ob.lst (r.map fw)) ++ [Ob.lst ((List.range' h2.length (r :: T).length).map W.ref)]) S := (k2.app _).app _
  have own2 := own_new (h2 ++ (r :: T).map fun r => Ob.lst (r.map fw)) ((List.range' h2.length (r :: T).length).map W.ref)
  have nlt : h2.length + (r :: T).length = (h2 ++ (r :: T).map fun r => Ob.lst (r.map fw)).length := by
    rw [List.length_append, List.length_map]
  have lh := k2.le
  have Slt := a.lt
  generalize h2 ++ (r :: T).map (fun r => Ob.lst (r.map fw)) = h3 at cc own1 k3 own2 nlt
  generalize hN : h3.length = N at *
  have hh4 : h3 ++ [Ob.lst ((List.range' h2.length (r :: T).length).map W.ref)] = h3 ++ [Ob.lst ((List.range' h2.length (r :: T).length).map W.ref)] := rfl
  -- two places
  obtain ⟨v, s0, s1, v0, v1, e4⟩ := c_take (K := j + 2) (m := ((r :: T).length : Int)) (k3.at_ a) (by omega) (by omega)
  have k4 := k3.two a s0 s1
  have own3 : ∀ (i : Nat) (m : List Fr), (r :: T)[i]? = some m → own? ((h3 ++ [Ob.lst ((List.range' h2.length (r :: T).length).map W.ref)]).set S (twoN s0 s1)) (h2.length + i) = some (m.map fw) := fun i m e => own_other (own1 i m e) (by omega)
  have own4 := own_other (n := S) (o := twoN s0 s1) own2 (by omega)
  generalize (h3 ++ [Ob.lst ((List.range' h2.length (r :: T).length).map W.ref)]).set S (twoN s0 s1) = h4 at e4 k4 own3 own4
  obtain ⟨i, rfl⟩ := Int.eq_ofNat_of_zero_le v0
  obtain ⟨v, s0, s1, v2, v3, e5⟩ := c_take (K := j + 2) (m := (q : Int)) (k4.at_ a) (by omega) (by omega)
  have k5 := k4.two a s0 s1
  have own5 : ∀ (i : Nat) (m : List Fr), (r :: T)[i]? = some m → own? (h4.set S (twoN s0 s1)) (h2.length + i) = some (m.map fw) := fun i m e => own_other (own3 i m e) (by omega)
  have own6 := own_other (n := S) (o := twoN s0 s1) own4 (by omega)
  generalize h4.set S (twoN s0 s1) = h5 at e5 k5 own5 own6
  obtain ⟨c, rfl⟩ := Int.eq_ofNat_of_zero_le v2
  -- the cell
  have hi : i < (r :: T).length := by omega
  have hc : c < q := by omega
  obtain ⟨row, w1, w2, w3, w4⟩ := s.mat.row hi
  obtain ⟨m1, m2⟩ := get_d (show c < row.length by omega)
  have or := own5 i row w1
  have ixN1 : ixW h5 (.ref N) (.int (i : Int)) = some (.ref (h2.length + i)) := by
    rw [(lst_of_own own6).2.2.2.2]
    exact atI_map (by rw [List.getElem?_range' hi, Nat.one_mul])
  have ixR1 : ixW h5 (.ref (h2.length + i)) (.int (c : Int)) = some (fw ((row[c]?).getD (0, 1))) := by
    rw [(lst_of_own or).2.2.2.2]
    exact atI_map m1
  have gc : Good (L + 3 + 1) (addF ((row[c]?).getD (0, 1)) (1, 5)) := addF_good (w4 _ m2) good_15
  have e6 := c_add (j + 2) h5 (by omega) (w4 _ m2) good_15 (Nat.le_trans (Nat.add_le_add_right hL 3) (by decide))
  rw [show fw (1, 5) = .tup [.int 1, .int 5] from rfl] at e6
  have sB : Small (L + 3 + 1) q (bentM (r :: T) i c (addF ((row[c]?).getD (0, 1)) (1, 5))) := by
    have := bent_mat (j := c) s.mat (show L ≤ L + 3 + 1 by omega) hi gc
    refine ⟨this, ?_, ?_, q1, by omega, .inr q7⟩ <;> (unfold bentM; rw [List.length_set]; omega)
  have hB : bentM (r :: T) i c (addF ((row[c]?).getD (0, 1)) (1, 5)) = (r :: T).set i (row.set c (addF ((row[c]?).getD (0, 1)) (1, 5))) := by
    unfold bentM
    rw [w2]
  generalize bentM (r :: T) i c (addF ((row[c]?).getD (0, 1)) (1, 5)) = B at sB hB
  generalize addF ((row[c]?).getD (0, 1)) (1, 5) = d at e6 hB gc
  generalize (row[c]?).getD (0, 1) = d0 at e6 ixR1
  have ixN2 : ixN row.length (c : Int) = some c := ixN_at (by omega)
  have k6 : Kept h (h5.set (h2.length + i) (.lst ((row.map fw).set c (fw d)))) S := k5.put (by omega) _
  have tell := comp_tell (s := 12) (ρ0 := [some (.ref S), some (tw (r :: T)), some (.int ((r :: T).length : Int)), some (.int (q : Int)), some (tw Mx), some (tw (Mx ++ (r :: T))), some (tw V), some (.ref N), some (.int (i : Int)), some (.int (c : Int)), none, none, none, none]) (by simp) (own_other (n := h2.length + i) (o := .lst ((row.map fw).set c (fw d))) own6 (by omega)) (A := B) (by rw [List.length_range', hB, List.length_set]) (by rw [hB, List.length_set]; omega) (fun i' n m h1 h2' => by
    rw [hB] at h2'
    have hi' : i' < (r :: T).length := by
      have := (List.getElem?_eq_some_iff.mp h2').1
      rwa [List.length_set] at this
    rw [List.getElem?_range' hi', Nat.one_mul] at h1
    cases h1
    by_cases z : i = i'
    · subst z
      rw [List.getElem?_set_self hi] at h2'
      cases h2'
      rw [own_set or, List.map_set]
    · rw [List.getElem?_set_ne z] at h2'
      exact own_other (own5 i' m h2') (by omega))
  have it6 := (lst_of_own (own_other (n := h2.length + i) (o := .lst ((row.map fw).set c (fw d))) own6 (by omega))).1
  generalize hH6 : h5.set (h2.length + i) (.lst ((row.map fw).set c (fw d))) = h6 at k6 tell it6
  -- the pairs
  have z1 : Good 1 ((0, 1) : Fr) := good_zero
  have sZ : Small 1 q [List.replicate q ((0, 1) : Fr)] := small_one List.length_replicate (fun x hx => by rw [(List.mem_replicate.mp hx).2]; exact z1) q1 (by omega)
  have sO : Small L q [r] := small_one hr gr q1 (by omega)
  have sM : Small (1 + (r :: T).length * (3 + L + 1)) q Mx := ⟨mM, by omega, by omega, q1, by omega, .inr q7⟩
  have sA : Small (1 + (r :: T).length * (3 + L + 1)) q (Mx ++ (r :: T)) := small_app mM (s.mat.mono hLM) (Nat.le_refl _) p1 (by omega) q1 q7
  obtain ⟨a10, a11, h7, f1, k7⟩ := spans_loop (j := j) (q := q) (S := S) (by omega) (e0 := some (.ref S)) (e1 := some (tw (r :: T))) (e2 := some (.int ((r :: T).length : Int))) (e3 := some (.int (q : Int))) (e4 := some (tw Mx)) (e5 := some (tw (Mx ++ (r :: T)))) (e6 := some (tw V)) (e7 := some (tw B)) (e8 := some (.int (i : Int))) (e9 := some (.int (c : Int))) (e12 := none) (e13 := none) [((r :: T), Mx), (Mx, (r :: T)), ((r :: T), Mx ++ (r :: T)), (Mx ++ (r :: T), (r :: T)), (V, (r :: T)), ((r :: T), B), (B, (r :: T)), ((r :: T), [List.replicate q (0, 1)]), ((r :: T), [r]), ([r], (r :: T))] none none h6 k6 (fun p hp => by
    simp only [List.mem_cons, List.not_mem_nil, or_false] at hp
    rcases hp with z | z | z | z | z | z | z | z | z | z <;> subst z
    · exact ⟨_, _, by omega, by omega, s, sM⟩
    · exact ⟨_, _, by omega, by omega, sM, s⟩
    · exact ⟨_, _, by omega, by omega, s, sA⟩
    · exact ⟨_, _, by omega, by omega, sA, s⟩
    · exact ⟨_, _, by omega, by omega, sV, s⟩
    · exact ⟨_, _, by omega, by omega, s, sB⟩
    · exact ⟨_, _, by omega, by omega, sB, s⟩
    · exact ⟨_, _, by omega, by omega, s, sZ⟩
    · exact ⟨_, _, by omega, by omega, s, sO⟩
    · exact ⟨_, _, by omega, by omega, sO, s⟩)
  have mr : ∀ big, opBin big .Mult (.tup [.tup [.int 0, .int 1]]) (.int (q : Int)) h6 = some (.tup (List.replicate q (fw (0, 1))), h6) := fun big => mul_rep big _ _ (by omega) (by omega) h6
  have sl1 : slW h6 (tw (r :: T)) none (some 1) = some (tw [r], h6) := by
    show some (W.tup (cutW _ _ (some ((1 : Nat) : Int))), h6) = _
    rw [cut_lo]
    rfl
  simp only [List.map_cons, List.map_nil] at f1
  have tz : tw [List.replicate q ((0, 1) : Fr)] = .tup [.tup (List.replicate q (fw (0, 1)))] := by
    unfold tw rw
    rw [List.map_cons, List.map_nil, List.map_replicate]
  rw [tz] at f1
  have tB : tw B = .tup (B.map rw) := rfl
  rw [tB] at f1
  obtain ⟨c0, c1, ct⟩ := k7.cut (w := .bl true) rfl
  refine ⟨c0, c1, ?_⟩
  have it : ∀ H, itOf H (tw (r :: T)) = some ((r :: T).map rw, []) := fun H => rfl
  generalize (List.range' h2.length (r :: T).length).map W.ref = Rf at *
  generalize (r :: T).map rw = Y at *
  generalize (r :: T).length = p at *
  generalize Mx ++ (r :: T) = Mo at *
  generalize tw (r :: T).reverse = Vr at *
  rw [k__law_spans_hold]
  simp [b__law_spans_hold, startR, e1, lT, lr, i0, e2, e3, ad, rv, it_rw, cm, ad2, it, cc, e4, e5, ixN1, ixR1, e6, or, ixN2, hH6, it6, tell, mr, sl1, f1, ct, hN, -s_addt, -a_rev]
end K03
end
section
set_option Elab.async false
set_option linter.all false
set_option maxRecDepth 100000
set_option maxHeartbeats 2000000
namespace K03
open PySem PySem.Spec Wv L2
theorem cut_neg (xs : List W) : cutW xs none (some (-1)) = xs.take (xs.length - 1) := by
  unfold cutW
  have e : HT.sIx xs.length xs.length (some (-1)) = xs.length - 1 := by
    show (if (-1 : Int) < 0 then ((-1 : Int) + (xs.length : Int)).toNat else min (-1 : Int).toNat xs.length) = _
    rw [if_pos (by decide)]
    omega
  rw [e]
  show (xs.drop 0).take (xs.length - 1 - 0) = _
  rw [List.drop_zero, Nat.sub_zero]
section
variable {k : Nat} {h : Store}
open Classical in
noncomputable def gz (z u : W) : Bool := decide (u ≠ z)
theorem gz_self (z : W) : gz z z = false := by
  unfold gz
  simp
/-- what is_ratio says where one item is bad -/
theorem judge {z u : W} (hz : callK prg (k + 2) "is_ratio" [z] h = .ok (.bl false) h) (hu : u = z ∨ ∃ x : Fr, Good 1000 x ∧ u = fw x) : callK prg (k + 2) "is_ratio" [u] h = .ok (.bl (gz z u)) h := by
  by_cases c : u = z
  · subst c
    rw [gz_self]
    exact hz
  · rcases hu with e | ⟨x, g, e⟩
    · exact absurd e c
    · subst e
      rw [c_ratio k h (by decide) g]
      unfold gz
      simp [c]
theorem any_row1 {us : List W} {z : W} (hz : callK prg (k + 2) "is_ratio" [z] h = .ok (.bl false) h) (hu : ∀ u ∈ us, u = z ∨ ∃ x : Fr, Good 1000 x ∧ u = fw x) (hl : us.length ≤ 40) (hm : z ∈ us) : callK prg (k + 3) "is_any_table" [.tup [.tup us]] h = .ok (.bl false) h := by
  have := c_any_gen (k := k + 2) (h := h) (ws := [.tup us]) t1 (fun _ => decide (us.length = us.length) && us.all (gz z)) (by simp) (fun w hw => t1_ok w (.inl ⟨us, List.mem_singleton.mp hw⟩)) (fun _ w hw => by
    rw [List.mem_singleton.mp hw]
    exact t2_ok (n := 0) rfl (gz z) hl fun u hu2 => judge hz (hu u hu2))
  rw [this]
  have b : us.all (gz z) = false := by
    rw [List.all_eq_false]
    exact ⟨z, hm, by rw [gz_self]; simp⟩
  simp [b]
def t2q (q : Nat) : W → Bool
  | .tup us => decide (us.length = q)
  | _ => false
theorem any_row2 {q : Nat} {r : List Fr} {T : List (List Fr)} (m : Mat 1000 q (r :: T)) (hp : (r :: T).length ≤ 39) (q1 : 1 ≤ q) (q20 : q ≤ 20) : callK prg (k + 3) "is_any_table" [tw ((r :: T) ++ [r ++ r])] h = .ok (.bl false) h := by
  have hr : r.length = q := m.len r List.mem_cons_self
  have gr := m.good r List.mem_cons_self
  have rows : ∀ s ∈ (r :: T) ++ [r ++ r], (s.length = q ∨ s.length = q + q) ∧ ∀ x ∈ s, Good 1000 x := fun s hs => by
    rcases List.mem_append.mp hs with z | z
    · exact ⟨.inl (m.len s z), m.good s z⟩
    · rw [List.mem_singleton.mp z]
      refine ⟨.inr (by rw [List.length_append, hr]), fun x hx => ?_⟩
      rcases List.mem_append.mp hx with y | y <;> exact gr x y
  have := c_any_gen (k := k + 2) (h := h) (ws := ((r :: T) ++ [r ++ r]).map rw) t1 (t2q q) (by
    rw [List.length_map, List.length_append]
    simp
    simp at hp
    omega) (fun w hw => by
    obtain ⟨s, hs, rfl⟩ := List.mem_map.mp hw
    exact t1_ok _ (.inl ⟨_, rfl⟩)) (fun _ w hw => by
    obtain ⟨s, hs, rfl⟩ := List.mem_map.mp hw
    obtain ⟨l, g⟩ := rows s hs
    have t := t2_ok (n := 0) (k := k + 2) (h := h) (ws := ((r :: T) ++ [r ++ r]).map rw) (w0 := r.map fw) (rest := (T ++ [r ++ r]).map rw) rfl (us := s.map fw) (fun _ => true) (by rw [List.length_map]; omega) (fun u hu => by
      obtain ⟨x, hx, rfl⟩ := List.mem_map.mp hu
      exact c_ratio k h (by decide) (g x hx))
    rw [List.length_map, List.length_map, hr] at t
    have e : t2q q (rw s) = (decide (s.length = q) && (s.map fw).all fun _ => true) := by
      have a1 : (s.map fw).all (fun _ => true) = true := List.all_eq_true.mpr fun _ _ => rfl
      rw [a1, Bool.and_true]
      show decide ((s.map fw).length = q) = _
      rw [List.length_map]
    rw [e]
    exact t)
  have b : (((r :: T) ++ [r ++ r]).map rw).all (t2q q) = false := by
    rw [List.all_eq_false]
    refine ⟨rw (r ++ r), List.mem_map_of_mem (List.mem_append_right _ (List.mem_singleton.mpr rfl)), ?_⟩
    have e : t2q q (rw (r ++ r)) = decide ((r ++ r).length = q) := by
      show decide (((r ++ r).map fw).length = q) = _
      rw [List.length_map]
    rw [e, List.length_append, hr]
    simp
    omega
  rw [b, Bool.and_false] at this
  exact this
end
/-! ### the six asked at one bad value -/
section
variable {i : Nat} {w : W} {H : Store} {r : List Fr} {T : List (List Fr)}
theorem six_raise (e : callK prg (i + 1) "is_any_table" [w] H = .ok (.bl false) H) (ck : callK prg (i + 2) "check_table" [tw (r :: T)] H = .ok .non H) : ∀ p ∈ ([("table_reduced", [w]), ("table_rank", [w]), ("table_kernel", [w]), ("table_solved", [w, .tup []]), ("spans_alike", [w, tw (r :: T)]), ("spans_alike", [tw (r :: T), w])] : List (Str × List W)), callK prg (i + 5) "_law_raises" [.glo p.1, .tup p.2, .str "malformed"] H = .ok (.bl true) H := fun p hp => by
  have x := c_check_x e
  simp only [List.mem_cons, List.not_mem_nil, or_false] at hp
  rcases hp with z | z | z | z | z | z <;> subst z
  · exact c_raises (j := i + 2) (c_told1x d_tred (c_tred_x x))
  · exact c_raises (j := i + 2) (c_told1x d_rank (c_rank_x x))
  · exact c_raises (j := i + 2) (c_told1x d_kern (c_kern_x x))
  · exact c_raises (j := i + 2) (c_told2x d_solved (c_solved_x x))
  · exact c_raises (j := i + 2) (c_told2x d_spans (c_spans_x1 x))
  · exact c_raises (j := i + 2) (c_told2x d_spans (c_spans_x2 ck x))
end
end K03
end
section
set_option Elab.async false
set_option linter.all false
set_option maxRecDepth 100000
set_option maxHeartbeats 2000000
namespace K03
open PySem PySem.Spec Wv L2
theorem six_comp {i : Nat} {w : W} {H : Store} {r : List Fr} {T : List (List Fr)} {ρ0 : Rho} (e : ∀ t, callK prg (i + 1) "is_any_table" [w] (H ++ t) = .ok (.bl false) (H ++ t)) (ck : ∀ t, callK prg (i + 2) "check_table" [tw (r :: T)] (H ++ t) = .ok .non (H ++ t)) {ws : List W} (hw : ws = [.tup [.glo "table_reduced", .tup [w]], .tup [.glo "table_rank", .tup [w]], .tup [.glo "table_kernel", .tup [w]], .tup [.glo "table_solved", .tup [w, .tup []]], .tup [.glo "spans_alike", .tup [w, tw (r :: T)]], .tup [.glo "spans_alike", .tup [tw (r :: T), w]]]) {e0 e1 e2 e3 e4 e5 e6 e9 e10 : Option W} :
    compL [(H.length, ws)] (.tp [(.nm 7), (.nm 8)]) cTrue (cCall (callK prg (i + 5)) 3 "_law_raises" (cCons (cVar 7) (cCons (cVar 8) (cCons (cVal (.str "malformed")) cNil)))) [e0, e1, e2, e3, e4, e5, e6, none, none, e9, e10] ws [] (H ++ [Ob.lst ws]) = .ok ([0, 1, 2, 3, 4, 5].map fun _ => .bl true) (H ++ [Ob.lst ws]) := by
  have six := six_raise (e [Ob.lst ws]) (ck [Ob.lst ws])
  have g : gdOk [(H.length, ws)] (H ++ [Ob.lst ws]) := gdOk_one (lst_own (own_new H ws))
  generalize H ++ [Ob.lst ws] = H2 at six g ⊢
  generalize [(H.length, ws)] = gg at g ⊢
  have := comp_mapG (T := .tp [(.nm 7), (.nm 8)]) (tt := cTrue) (te := cCall (callK prg (i + 5)) 3 "_law_raises" (cCons (cVar 7) (cCons (cVar 8) (cCons (cVal (.str "malformed")) cNil)))) (ρ0 := [e0, e1, e2, e3, e4, e5, e6, none, none, e9, e10]) (enc := fun p : Str × List W => .tup [.glo p.1, .tup p.2]) (f := fun _ => .bl true) g [("table_reduced", [w]), ("table_rank", [w]), ("table_kernel", [w]), ("table_solved", [w, .tup []]), ("spans_alike", [w, tw (r :: T)]), ("spans_alike", [tw (r :: T), w])] (by simp) (fun p hp => ⟨_, bind_tp2 _ _ _ _ _, rfl, by simp [six p hp]⟩)
  subst hw
  exact this
theorem mal_loop {i : Nat} {H : Store} {r : List Fr} {T : List (List Fr)} (ck : ∀ t, callK prg (i + 2) "check_table" [tw (r :: T)] (H ++ t) = .ok .non (H ++ t)) {e1 e4 e5 e6 e9 e10 : Option W} : ∀ (ws : List W) (a2 a3 a7 a8 : Option W) (t : Store), (∀ w ∈ ws, ∀ t, callK prg (i + 1) "is_any_table" [w] (H ++ t) = .ok (.bl false) (H ++ t)) → ∃ a2' a3' t', forL [] (.nm 2) (sSeq (sAsg (cFresh (cLst (cCons (cTup (cCons (cVal (.glo "table_reduced")) (cCons (cTup (cCons (cVar 2) cNil)) cNil))) (cCons (cTup (cCons (cVal (.glo "table_rank")) (cCons (cTup (cCons (cVar 2) cNil)) cNil))) (cCons (cTup (cCons (cVal (.glo "table_kernel")) (cCons (cTup (cCons (cVar 2) cNil)) cNil))) (cCons (cTup (cCons (cVal (.glo "table_solved")) (cCons (cTup (cCons (cVar 2) (cCons (cTup cNil) cNil))) cNil))) (cCons (cTup (cCons (cVal (.glo "spans_alike")) (cCons (cTup (cCons (cVar 2) (cCons (cVar 0) cNil))) cNil))) (cCons (cTup (cCons (cVal (.glo "spans_alike")) (cCons (cTup (cCons (cVar 0) (cCons (cVar 2) cNil))) cNil))) cNil)))))))) (gNm 3))
    (sSeq (sIf (tcNot (tcVal (cQ1 allQ (cSeqF (cComp (cItV (cVar 3)) [7, 8] (.tp [(.nm 7), (.nm 8)]) cTrue (cCall (callK prg (i + 5)) 3 "_law_raises" (cCons (cVar 7) (cCons (cVar 8) (cCons (cVal (.str "malformed")) cNil))))))))) (sSeq (sRet (cVal (.bl false)))
    sSkip) sSkip)
    sSkip)) ws [some (tw (r :: T)), e1, a2, a3, e4, e5, e6, none, none, e9, e10] (H ++ t) = .next [some (tw (r :: T)), e1, a2', a3', e4, e5, e6, none, none, e9, e10] (H ++ t')
  | [], a2, a3, _, _, t, _ => ⟨a2, a3, t, by
    unfold forL
    rw [if_pos (gdOk_nil _)]⟩
  | w :: ws, a2, a3, a7, a8, t, hw => by
    have e : ∀ t2, callK prg (i + 1) "is_any_table" [w] ((H ++ t) ++ t2) = .ok (.bl false) ((H ++ t) ++ t2) := fun t2 => by
      rw [List.append_assoc]
      exact hw w List.mem_cons_self _
    have ck2 : ∀ t2, callK prg (i + 2) "check_table" [tw (r :: T)] ((H ++ t) ++ t2) = .ok .non ((H ++ t) ++ t2) := fun t2 => by
      rw [List.append_assoc]
      exact ck _
    have sc := six_comp (ρ0 := []) e ck2 rfl (e0 := some (tw (r :: T))) (e1 := e1) (e2 := some w) (e3 := some (.ref (H ++ t).length)) (e4 := e4) (e5 := e5) (e6 := e6) (e9 := e9) (e10 := e10)
    have on := own_new (H ++ t) [.tup [.glo "table_reduced", .tup [w]], .tup [.glo "table_rank", .tup [w]], .tup [.glo "table_kernel", .tup [w]], .tup [.glo "table_solved", .tup [w, .tup []]], .tup [.glo "spans_alike", .tup [w, tw (r :: T)]], .tup [.glo "spans_alike", .tup [tw (r :: T), w]]]
    have it := (lst_of_own on).1
    obtain ⟨a2', a3', t', f⟩ := mal_loop ck (e1 := e1) (e4 := e4) (e5 := e5) (e6 := e6) (e9 := e9) (e10 := e10) ws (some w) (some (.ref (H ++ t).length)) a7 a8 (t ++ [Ob.lst [.tup [.glo "table_reduced", .tup [w]], .tup [.glo "table_rank", .tup [w]], .tup [.glo "table_kernel", .tup [w]], .tup [.glo "table_solved", .tup [w, .tup []]], .tup [.glo "spans_alike", .tup [w, tw (r :: T)]], .tup [.glo "spans_alike", .tup [tw (r :: T), w]]]]) (fun u hu => hw u (List.mem_cons_of_mem _ hu))
    refine ⟨a2', a3', t', ?_⟩
    rw [← List.append_assoc] at f
    generalize H ++ t = H1 at *
    refine forL_step (gdOk_nil _) (bind_nm _ _ _) ?_ f
    have al := all_map (fun _ : Nat => true) [0, 1, 2, 3, 4, 5]
    simp only [List.map_cons, List.map_nil] at sc al
    simp [it, sc, al]
end K03
end
section
set_option Elab.async false
set_option linter.all false
set_option maxRecDepth 100000
set_option maxHeartbeats 2000000
namespace K03
open PySem PySem.Spec Wv L2
theorem b_loop {k : Nat} {H : Store} {T : List (List Fr)} {e1 e2 e3 e4 e6 e7 e8 e9 e10 : Option W} : ∀ (ws : List W) (a5 : Option W), (∀ w ∈ ws, callK prg (k + 7) "_law_raises" [.glo "table_solved", .tup [tw T, w], .str "malformed"] H = .ok (.bl true) H) → ∃ a5', forL [] (.nm 5) (sSeq (sIf (tcNot (tcVal (cCall (callK prg (k + 7)) 3 "_law_raises" (cCons (cVal (.glo "table_solved")) (cCons (cTup (cCons (cVar 0) (cCons (cVar 5) cNil))) (cCons (cVal (.str "malformed")) cNil)))))) (sSeq (sRet (cVal (.bl false)))
    sSkip) sSkip)
    sSkip) ws [some (tw T), e1, e2, e3, e4, a5, e6, e7, e8, e9, e10] H = .next [some (tw T), e1, e2, e3, e4, a5', e6, e7, e8, e9, e10] H
  | [], a5, _ => ⟨a5, by
    unfold forL
    rw [if_pos (gdOk_nil _)]⟩
  | w :: ws, a5, hw => by
    have e := hw w List.mem_cons_self
    obtain ⟨a5', f⟩ := b_loop (e1 := e1) (e2 := e2) (e3 := e3) (e4 := e4) (e6 := e6) (e7 := e7) (e8 := e8) (e9 := e9) (e10 := e10) ws (some w) fun u hu => hw u (List.mem_cons_of_mem _ hu)
    refine ⟨a5', ?_⟩
    refine forL_step (gdOk_nil _) (bind_nm _ _ _) ?_ f
    simp [e]
/-- the nine right sides that do not fit -/
theorem nine {k L q : Nat} (hk : 50 ≤ k) {H : Store} {r : List Fr} {T : List (List Fr)} (s : Small L q (r :: T)) (hL : L ≤ 1000) {X : Nat} {us : List W} (eX : own? H X = some us) :
    ∀ w ∈ [W.non, .ref X, .tup (List.replicate (r :: T).length (fw (1, 2)) ++ [fw (1, 1)]), .tup (List.replicate ((r :: T).length - 1) (fw (1, 2))), .tup (List.replicate ((r :: T).length - 1) (fw (1, 2)) ++ [.int 1]), .tup (List.replicate ((r :: T).length - 1) (fw (1, 2)) ++ [.tup [.int 2, .int 4]]), .tup (List.replicate ((r :: T).length - 1) (fw (1, 2)) ++ [.tup [.bl true, .int 1]]), .str "b", .int 5], callK prg (k + 7) "_law_raises" [.glo "table_solved", .tup [tw (r :: T), w], .str "malformed"] H = .ok (.bl true) H := by
  have f := s.fit hL
  have p1 := s.p1
  have p40 := s.p40
  have ck := c_check k H f.few f.tab
  have mk : ∀ w, callK prg (k + 5) "table_solved" [tw (r :: T), w] H = malX H → callK prg (k + 7) "_law_raises" [.glo "table_solved", .tup [tw (r :: T), w], .str "malformed"] H = .ok (.bl true) H := fun w x => c_raises (j := k + 4) (c_told2x d_solved x)
  have g2 : Good 1000 ((1, 2) : Fr) := good_12.mono (by decide)
  have item : ∀ z : W, callK prg (k + 4) "is_ratio" [z] H = .ok (.bl false) H → callK prg (k + 5) "table_solved" [tw (r :: T), .tup (List.replicate ((r :: T).length - 1) (fw (1, 2)) ++ [z])] H = malX H := fun z hz => by
    refine c_solved_item ck (gz z) ?_ ?_ (fun u hu => ?_) ?_
    · rw [List.length_append, List.length_replicate]
      simp
    · rw [List.length_append, List.length_replicate, List.length_singleton]
      omega
    · refine judge (k := k + 2) hz ?_
      rcases List.mem_append.mp hu with y | y
      · exact .inr ⟨_, g2, (List.mem_replicate.mp y).2⟩
      · exact .inl (List.mem_singleton.mp y)
    · rw [List.all_eq_false]
      exact ⟨z, List.mem_append_right _ (List.mem_singleton.mpr rfl), by rw [gz_self]; simp⟩
  intro w hw
  simp only [List.mem_cons, List.not_mem_nil, or_false] at hw
  rcases hw with z | z | z | z | z | z | z | z | z <;> subst z
  · exact mk _ (c_solved_ty ck rfl o_NoneType_tuple)
  · have t : tyW H (.ref X) = some "list" := by
      unfold own? at eX
      split at eX
      · rename_i xs q
        show (match H[X]? with
          | some (.lst _) => some "list"
          | some (.dic _) => some "dict"
          | none => none) = _
        rw [q]
      · cases eX
    exact mk _ (c_solved_ty ck t o_list_tuple)
  · exact mk _ (c_solved_len ck (by rw [List.length_append, List.length_replicate, List.length_singleton]; omega))
  · exact mk _ (c_solved_len ck (by rw [List.length_replicate]; omega))
  · exact mk _ (item _ (c_ratio_int 1))
  · exact mk _ (item _ c_ratio_24)
  · exact mk _ (item _ c_ratio_true)
  · exact mk _ (c_solved_ty ck rfl o_str_tuple)
  · exact mk _ (c_solved_ty ck rfl o_int_tuple)
/-- the empty table -/
theorem five_tell {k : Nat} (hk : 50 ≤ k) (H : Store) : ∀ p ∈ ([("table_reduced", [.tup []], .tup []), ("table_rank", [.tup []], .int 0), ("table_kernel", [.tup []], .tup []), ("table_solved", [.tup [], .tup []], .tup []), ("spans_alike", [.tup [], .tup []], .bl true)] : List (Str × List W × W)), callK prg (k + 7) "_law_tells" [.glo p.1, .tup p.2.1, p.2.2] H = .ok (.bl true) H := fun p hp => by
  simp only [List.mem_cons, List.not_mem_nil, or_false] at hp
  rcases hp with z | z | z | z | z <;> subst z
  · exact c_tells (j := k + 4) (by omega) (c_told1 d_tred (c_tred0 (K := k + 4) (by omega) H)) rfl
  · exact c_tells (j := k + 4) (by omega) (c_told1 d_rank (c_rank0 (K := k + 4) (by omega) H)) rfl
  · exact c_tells (j := k + 4) (by omega) (c_told1 d_kern (c_kern0 (K := k + 4) (by omega) H)) rfl
  · exact c_tells (j := k + 4) (by omega) (c_told2 d_solved (c_solved0 (K := k + 4) (by omega) H)) rfl
  · exact c_tells (j := k + 4) (by omega) (c_told2 d_spans (c_spans0 (K := k + 4) (by omega) H)) rfl
theorem five_comp {k : Nat} (hk : 50 ≤ k) {H : Store} {ws : List W} (hw : ws = [.tup [.glo "table_reduced", .tup [.tup []], .tup []], .tup [.glo "table_rank", .tup [.tup []], .int 0], .tup [.glo "table_kernel", .tup [.tup []], .tup []], .tup [.glo "table_solved", .tup [.tup [], .tup []], .tup []], .tup [.glo "spans_alike", .tup [.tup [], .tup []], .bl true]]) {e0 e1 e2 e3 e4 e5 e6 e10 : Option W} :
    compL [(H.length, ws)] (.tp [(.nm 7), (.nm 8), (.nm 9)]) cTrue (cCall (callK prg (k + 7)) 3 "_law_tells" (cCons (cVar 7) (cCons (cVar 8) (cCons (cVar 9) cNil)))) [e0, e1, e2, e3, e4, e5, e6, none, none, none, e10] ws [] (H ++ [Ob.lst ws]) = .ok ([0, 1, 2, 3, 4].map fun _ => .bl true) (H ++ [Ob.lst ws]) := by
  have five := five_tell hk (H ++ [Ob.lst ws])
  have g : gdOk [(H.length, ws)] (H ++ [Ob.lst ws]) := gdOk_one (lst_own (own_new H ws))
  generalize H ++ [Ob.lst ws] = H2 at five g ⊢
  generalize [(H.length, ws)] = gg at g ⊢
  have := comp_mapG (T := .tp [(.nm 7), (.nm 8), (.nm 9)]) (tt := cTrue) (te := cCall (callK prg (k + 7)) 3 "_law_tells" (cCons (cVar 7) (cCons (cVar 8) (cCons (cVar 9) cNil)))) (ρ0 := [e0, e1, e2, e3, e4, e5, e6, none, none, none, e10]) (enc := fun p : Str × List W × W => .tup [.glo p.1, .tup p.2.1, p.2.2]) (f := fun _ => .bl true) g [("table_reduced", [.tup []], .tup []), ("table_rank", [.tup []], .int 0), ("table_kernel", [.tup []], .tup []), ("table_solved", [.tup [], .tup []], .tup []), ("spans_alike", [.tup [], .tup []], .bl true)] (by simp) (fun p hp => ⟨_, bind_tp3 _ _ _ _ _ _ _, rfl, by simp [five p hp]⟩)
  subst hw
  exact this
end K03
end
section
set_option Elab.async false
set_option linter.all false
set_option maxRecDepth 100000
set_option maxHeartbeats 2000000
namespace K03
open PySem PySem.Spec Wv L2
theorem add_one (big : Bool) (ws : List W) (z : W) (hl : ws.length ≤ 1000) (H : Store) : opBin big .Add (.tup ws) (.tup [z]) H = some (.tup (ws ++ [z]), H) := by
  rw [s_addt, List.length_singleton, if_pos (Nat.le_trans (Nat.add_le_add_right hl 1) (by decide))]
def wider (T : List (List Fr)) : List (List Fr) := T.map fun m => m ++ m.take 1
theorem wider_mat {L q : Nat} {T : List (List Fr)} (m : Mat L q T) (q1 : 1 ≤ q) : Mat L (q + 1) (wider T) := ⟨fun r hr => by
  unfold wider at hr
  obtain ⟨s, hs, rfl⟩ := List.mem_map.mp hr
  rw [List.length_append, List.length_take, m.len s hs]
  omega, fun r hr x hx => by
  unfold wider at hr
  obtain ⟨s, hs, rfl⟩ := List.mem_map.mp hr
  rcases List.mem_append.mp hx with z | z
  · exact m.good s hs x z
  · exact m.good s hs x (List.mem_of_mem_take z)⟩
theorem c_malformed {K L q : Nat} (hK : 60 ≤ K) {r : List Fr} {T : List (List Fr)} (s : Small L q (r :: T)) (hL : L ≤ 1000) (p7 : (r :: T).length ≤ 7) (q7 : q ≤ 7) (h : Store) : callK prg (K + 1) "_law_malformed_holds" [tw (r :: T)] h = .ok (.bl true) h := by
  obtain ⟨k, rfl⟩ : ∃ z, K = z + 7 := ⟨K - 7, by omega⟩
  have q1 := s.q1
  have p1 := s.p1
  have f := s.fit hL
  have m := s.mat.mono hL
  have hr : r.length = q := s.mat.len r List.mem_cons_self
  have gr : ∀ x ∈ r, Good 1000 x := m.good r List.mem_cons_self
  have i0 := fun H => ix_tw0 H r T
  have lT := len_tw (r :: T)
  obtain ⟨Y, hY⟩ : ∃ Y, Y = (r :: T).map rw := ⟨_, rfl⟩
  have sq : ∀ H, seqOf H (tw (r :: T)) = some (true, Y) := fun H => by rw [hY]; rfl
  have it : ∀ H, itOf H (tw (r :: T)) = some (Y, []) := fun H => by rw [hY]; rfl
  have on : ∀ t, own? ((h ++ [Ob.lst Y]) ++ t) h.length = some Y := fun t => own_app (own_new h Y)
  -- the values that are no tables
  have a1 : ∀ H, opBin true .Add (rw r) (rw r) H = some (.tup ((r ++ r).map fw), H) := fun H => add_fw true r r (by omega) H
  have a2 : ∀ H, opBin true .Add (tw (r :: T)) (.tup [.tup ((r ++ r).map fw)]) H = some (tw ((r :: T) ++ [r ++ r]), H) := fun H => add_tw true (r :: T) [r ++ r] (by simp; simp at p7; omega) H
  have sl : ∀ H, slW H (rw r) none (some (-1)) = some (.tup ((r.take (q - 1)).map fw), H) := fun H => by
    show some (W.tup (cutW (r.map fw) _ _), H) = _
    rw [cut_neg, List.length_map, hr, List.map_take]
  have a3 : ∀ z H, opBin true .Add (.tup ((r.take (q - 1)).map fw)) (.tup [z]) H = some (.tup ((r.take (q - 1)).map fw ++ [z]), H) := fun z H => add_one true _ z (by
    rw [List.length_map, List.length_take, hr]
    omega) H
  have row1 : ∀ z H, callK prg (k + 2) "is_ratio" [z] H = .ok (.bl false) H → callK prg (k + 3) "is_any_table" [.tup [.tup ((r.take (q - 1)).map fw ++ [z])]] H = .ok (.bl false) H := fun z H hz => any_row1 hz (fun u hu => by
    rcases List.mem_append.mp hu with y | y
    · obtain ⟨x, hx, rfl⟩ := List.mem_map.mp y
      exact .inr ⟨x, gr x (List.mem_of_mem_take hx), rfl⟩
    · exact .inl (List.mem_singleton.mp y)) (by
    rw [List.length_append, List.length_map, List.length_take, hr, List.length_singleton]
    omega) (List.mem_append_right _ (List.mem_singleton.mpr rfl))
  obtain ⟨b2, b3, t', lp⟩ := mal_loop (i := k + 2) (H := h ++ [Ob.lst Y]) (fun t => c_check k _ f.few f.tab) (e1 := some (rw r)) (e4 := none) (e5 := none) (e6 := none) (e9 := none) (e10 := none) [.non, .int 3, .str "T", .ref h.length, tw ((r :: T) ++ [r ++ r]), .tup [rw r, .non], .tup [.tup ((r.take (q - 1)).map fw ++ [.tup [.int 2, .int 4]])], .tup [.tup ((r.take (q - 1)).map fw ++ [.int 1])], .tup [.tup []]] none none none none [] (fun w hw t => by
    simp only [List.mem_cons, List.not_mem_nil, or_false] at hw
    rcases hw with z | z | z | z | z | z | z | z | z <;> subst z
    · exact c_any_non
    · exact c_any_int 3
    · exact c_any_str "T"
    · exact c_any_lst (on t)
    · exact any_row2 m (by omega) q1 (by omega)
    · exact c_any_t1 (by simp) (fun w hw => by
        simp only [List.mem_cons, List.not_mem_nil, or_false] at hw
        rcases hw with z | z
        · exact .inl ⟨_, z⟩
        · exact .inr z) (by simp [t1])
    · exact row1 _ _ c_ratio_24
    · exact row1 _ _ (c_ratio_int 1)
    · exact c_any_t1 (by simp) (fun w hw => .inl ⟨[], List.mem_singleton.mp hw⟩) rfl)
  rw [List.append_nil] at lp
  obtain ⟨H3, hH3⟩ : ∃ H3, H3 = (h ++ [Ob.lst Y]) ++ t' := ⟨_, rfl⟩
  rw [← hH3] at lp
  -- the right sides
  obtain ⟨G, hG⟩ : ∃ G, G = List.replicate (r :: T).length (fw (1, 2)) := ⟨_, rfl⟩
  have lG : G.length = (r :: T).length := by rw [hG, List.length_replicate]
  have mr : ∀ H, opBin true .Mult (.tup [.tup [.int 1, .int 2]]) (.int ((r :: T).length : Int)) H = some (.tup G, H) := fun H => by
    rw [hG]
    exact mul_rep true _ _ (by omega) (by omega) H
  have n9 := nine (k := k) (by omega) (H := H3 ++ [Ob.lst G]) s hL (own_new H3 G)
  have g1 : ∀ H, opBin true .Add (.tup G) (.tup [.tup [.int 1, .int 1]]) H = some (.tup (G ++ [fw (1, 1)]), H) := fun H => add_one true G _ (by omega) H
  have gs : ∀ H, slW H (.tup G) none (some (-1)) = some (.tup (List.replicate ((r :: T).length - 1) (fw (1, 2))), H) := fun H => by
    show some (W.tup (cutW G _ _), H) = _
    rw [cut_neg, hG, List.length_replicate, List.take_replicate, Nat.min_eq_left (by omega)]
  have g2 : ∀ z H, opBin true .Add (.tup (List.replicate ((r :: T).length - 1) (fw (1, 2)))) (.tup [z]) H = some (.tup (List.replicate ((r :: T).length - 1) (fw (1, 2)) ++ [z]), H) := fun z H => add_one true _ z (by
    rw [List.length_replicate]
    omega) H
  rw [← hG] at n9
  obtain ⟨b5, lp2⟩ := b_loop (e1 := some (rw r)) (e2 := b2) (e3 := b3) (e4 := some (.tup G)) (e6 := none) (e7 := none) (e8 := none) (e9 := none) (e10 := none) _ none n9
  -- a table of another width
  have wm := wider_mat s.mat q1
  have cw : compL [] (.nm 10) cTrue (cBin true .Add (cVar 10) (cSl (cVar 10) cNoPart (cPart (cVal (.int 1))))) [some (tw (r :: T)), some (rw r), b2, b3, some (.tup G), b5, none, none, none, none, none] Y [] (H3 ++ [Ob.lst G]) = .ok ((wider (r :: T)).map rw) (H3 ++ [Ob.lst G]) := by
    rw [hY]
    unfold wider
    rw [List.map_map]
    refine comp_map (r :: T) (Nat.le_trans p7 (by decide)) fun l hl => ?_
    have ll := s.mat.len l hl
    have s1 : ∀ H, slW H (rw l) none (some 1) = some (.tup ((l.take 1).map fw), H) := fun H => by
      show some (W.tup (cutW (l.map fw) _ (some ((1 : Nat) : Int))), H) = _
      rw [cut_lo, List.map_take]
    have s2 : ∀ H, opBin true .Add (rw l) (.tup ((l.take 1).map fw)) H = some (rw (l ++ l.take 1), H) := fun H => add_fw true l (l.take 1) (by
      rw [List.length_take, ll]
      omega) H
    refine ⟨_, bind_nm _ _ _, rfl, ?_⟩
    show _ = Out.ok (rw (l ++ l.take 1)) _
    generalize (l.take 1).map fw = B at s1 s2
    simp [s1, s2, -s_addt]
  have sw : callK prg (k + 7) "_law_raises" [.glo "spans_alike", .tup [tw (r :: T), tw (wider (r :: T))], .str "malformed"] (H3 ++ [Ob.lst G]) = .ok (.bl true) (H3 ++ [Ob.lst G]) := by
    have tb : Tab L (q + 1) (wider (r :: T)) := ⟨by unfold wider; rw [List.length_map]; omega, by omega, by omega, wm.len, wm.good⟩
    have e : wider (r :: T) = (r ++ r.take 1) :: wider T := rfl
    rw [e] at tb ⊢
    exact c_raises (j := k + 4) (c_told2x d_spans (c_spans_w (K := k + 4) (by omega) f tb (by omega) (by omega) _))
  have wtw : W.tup ((wider (r :: T)).map rw) = tw (wider (r :: T)) := rfl
  -- the empty table
  have fc := five_comp (k := k) (by omega) (H := H3 ++ [Ob.lst G]) rfl (e0 := some (tw (r :: T))) (e1 := some (rw r)) (e2 := b2) (e3 := b3) (e4 := some (.tup G)) (e5 := b5) (e6 := some (.ref (H3 ++ [Ob.lst G]).length)) (e10 := none)
  have o5 := own_new (H3 ++ [Ob.lst G]) [.tup [.glo "table_reduced", .tup [.tup []], .tup []], .tup [.glo "table_rank", .tup [.tup []], .int 0], .tup [.glo "table_kernel", .tup [.tup []], .tup []], .tup [.glo "table_solved", .tup [.tup [], .tup []], .tup []], .tup [.glo "spans_alike", .tup [.tup [], .tup []], .bl true]]
  have it5 := (lst_of_own o5).1
  have al := all_map (fun _ : Nat => true) [0, 1, 2, 3, 4]
  simp only [List.map_cons, List.map_nil] at fc al
  have hend : H3 ++ [Ob.lst G] = h ++ (Ob.lst Y :: (t' ++ [Ob.lst G])) := by
    rw [hH3]
    simp
  have ct : ∀ t, cutR h (.bl true) ((H3 ++ [Ob.lst G]) ++ t) = .ok (.bl true) h := fun t => by
    rw [hend, List.append_assoc]
    exact cutR_app rfl
  have big : decide (32 ≤ k + 7) = true := decide_eq_true (by omega)
  have z12 : fw (1, 1) = .tup [.int 1, .int 1] := rfl
  rw [z12] at lp2
  generalize hH4 : H3 ++ [Ob.lst G] = H4 at *
  generalize (wider (r :: T)).map rw = Z at *
  generalize tw (wider (r :: T)) = Zw at *
  generalize (r :: T).length = p at *
  generalize (r.take (q - 1)).map fw = d at *
  generalize List.replicate (p - 1) (fw (1, 2)) = D at *
  generalize tw ((r :: T) ++ [r ++ r]) = W5 at *
  generalize (r ++ r).map fw = rr at *
  rw [k__law_malformed_holds, big]
  simp [b__law_malformed_holds, startR, i0, sq, a1, a2, sl, a3, lp, lT, mr, gs, g1, g2, z12, hH4, lp2, it, cw, sw, wtw, it5, fc, al, ct, -s_addt]
end K03
end
section
set_option Elab.async false
set_option linter.all false
set_option maxRecDepth 100000
set_option maxHeartbeats 2000000
namespace K03
open PySem PySem.Spec Wv L2
theorem product_any {K L M q p : Nat} (hK : 39 ≤ K) {h : Store} {S B : List (List Fr)} (hS : S.length ≤ 40) (a : Mat L p S) (b : Mat M q B) (hB : B.length = p) (p1 : 1 ≤ p) (p40 : p ≤ 40) (q1 : 1 ≤ q) (q40 : q ≤ 40) (hs : 1 + p * (L + M + 1) + (L + M) ≤ 90000000) : callK prg (K + 1) "_law_product" [tw S, tw B] h = .ok (tw (prodM S B q)) h := by
  obtain ⟨r, T, rfl⟩ : ∃ r T, B = r :: T := by
    cases B with
    | nil => subst hB; cases p1
    | cons r T => exact ⟨r, T, rfl⟩
  subst hB
  exact c_product hK hS (fun s hs => a.len s hs) (fun s hs => a.good s hs) ⟨p40, q1, q40, b.len, b.good⟩ hs
theorem holds_any {K L q S : Nat} (hK : 60 ≤ K) {h : Store} (a : StAt h S) {A : List (List Fr)} (s : Small L q A) (hs : 1 + q * (L + 3 + 1) + 3 ≤ 1000) : ∃ s0 s1, callK prg (K + 1) "_law_holds" [.ref S, tw A] h = .ok (.bl true) (h.set S (twoN s0 s1)) := by
  have p1 := s.p1
  obtain ⟨r, T, rfl⟩ : ∃ r T, A = r :: T := by
    cases A with
    | nil => cases p1
    | cons r T => exact ⟨r, T, rfl⟩
  exact c_holds hK a s hs
theorem hold_any {K L q S : Nat} (hK : 60 ≤ K) {h : Store} (a : StAt h S) {A : List (List Fr)} (s : Small L q A) (hL : L ≤ 22) (p7 : A.length ≤ 7) (q7 : q ≤ 7) : ∃ s0 s1, callK prg (K + 1) "_law_spans_hold" [.ref S, tw A] h = .ok (.bl true) (h.set S (twoN s0 s1)) := by
  have p1 := s.p1
  obtain ⟨r, T, rfl⟩ : ∃ r T, A = r :: T := by
    cases A with
    | nil => cases p1
    | cons r T => exact ⟨r, T, rfl⟩
  refine c_spans_hold hK a s p7 q7 ?_
  have := Nat.mul_le_mul p7 (show 3 + L + 1 ≤ 26 by omega)
  omega
theorem law_loop {K : Nat} (hK : 60 ≤ K) {S : Nat} {e0 e2 e3 e4 e5 e6 e7 e8 e10 e11 e12 e13 : Option W} : ∀ (ts : List (List (List Fr))) (a9 : Option W) (H : Store), StAt H S → (∀ t ∈ ts, ∃ L q, L ≤ 22 ∧ Small L q t ∧ t.length ≤ 7 ∧ q ≤ 7) → ∃ a9' H', forL [] (.nm 9) (sSeq (sIf (tcOr (tcNot (tcVal (cCall (callK prg (K + 1)) 2 "_law_holds" (cCons (cVar 1) (cCons (cVar 9) cNil))))) (tcNot (tcVal (cCall (callK prg (K + 1)) 2 "_law_spans_hold" (cCons (cVar 1) (cCons (cVar 9) cNil)))))) (sSeq (sRet (cVal (.bl false)))
    sSkip) sSkip)
    sSkip) (ts.map tw) [e0, some (.ref S), e2, e3, e4, e5, e6, e7, e8, a9, e10, e11, e12, e13] H = .next [e0, some (.ref S), e2, e3, e4, e5, e6, e7, e8, a9', e10, e11, e12, e13] H' ∧ StAt H' S
  | [], a9, H, a, _ => ⟨a9, H, by
    rw [List.map_nil]
    unfold forL
    rw [if_pos (gdOk_nil _)], a⟩
  | t :: ts, a9, H, a, ht => by
    obtain ⟨L, q, hL, s, p7, q7⟩ := ht t List.mem_cons_self
    obtain ⟨s0, s1, c1⟩ := holds_any hK a s (by
      have := Nat.mul_le_mul q7 (show L + 3 + 1 ≤ 26 by omega)
      omega)
    have a1 := a.set s0 s1
    generalize H.set S (twoN s0 s1) = H1 at c1 a1
    obtain ⟨s0, s1, c2⟩ := hold_any hK a1 s hL p7 q7
    have a2 := a1.set s0 s1
    generalize H1.set S (twoN s0 s1) = H2 at c2 a2
    obtain ⟨a9', H', f, a3⟩ := law_loop hK (e0 := e0) (e2 := e2) (e3 := e3) (e4 := e4) (e5 := e5) (e6 := e6) (e7 := e7) (e8 := e8) (e10 := e10) (e11 := e11) (e12 := e12) (e13 := e13) ts (some (tw t)) H2 a2 fun u hu => ht u (List.mem_cons_of_mem _ hu)
    refine ⟨a9', H', ?_, a3⟩
    refine forL_step (gdOk_nil _) (bind_nm _ _ _) ?_ f
    simp [c1, c2]
def gapM (T : List (List Fr)) (g : Nat) : List (List Fr) := T.map fun m => m.take g ++ [(0, 1)] ++ m.drop (g + 1)
theorem gap_mat {L q g : Nat} {T : List (List Fr)} (m : Mat L q T) (hg : g < q) (hL : 1 ≤ L) : Mat L q (gapM T g) := ⟨fun r hr => by
  unfold gapM at hr
  obtain ⟨s, hs, rfl⟩ := List.mem_map.mp hr
  rw [bent_len (by rw [m.len s hs]; exact hg), m.len s hs], fun r hr x hx => by
  unfold gapM at hr
  obtain ⟨s, hs, rfl⟩ := List.mem_map.mp hr
  rcases List.mem_append.mp hx with z | z
  · rcases List.mem_append.mp z with z | z
    · exact m.good s hs x (List.mem_of_mem_take z)
    · rw [List.mem_singleton.mp z]
      exact good_zero.mono hL
  · exact m.good s hs x (List.mem_of_mem_drop z)⟩
theorem gap_comp {K L q g : Nat} {T : List (List Fr)} (m : Mat L q T) (hT : T.length ≤ 40) (hq : q ≤ 40) (hg : g < q) {H : Store} {e0 e1 e2 e3 e4 e5 e6 e8 e9 e10 e11 e12 : Option W} : compL [] (.nm 13) cTrue (cBin true .Add (cBin true .Add (cSl (cVar 13) cNoPart (cPart (cVar 7))) (cTup (cCons (cTup (cCons (cVal (.int 0)) (cCons (cVal (.int 1)) cNil))) cNil))) (cSl (cVar 13) (cPart (cBin true .Add (cVar 7) (cVal (.int 1)))) cNoPart)) [e0, e1, e2, e3, e4, e5, e6, some (.int (g : Int)), e8, e9, e10, e11, e12, none] (T.map rw) [] H = .ok ((gapM T g).map rw) H := by
  unfold gapM
  rw [List.map_map]
  refine comp_map T (Nat.le_trans hT (by decide)) fun l hl => ?_
  have ll := m.len l hl
  have s1 : slW H (rw l) none (some (g : Int)) = some (.tup ((l.take g).map fw), H) := by
    show some (W.tup (cutW (l.map fw) _ _), H) = _
    rw [cut_lo, List.map_take]
  have s2 : slW H (rw l) (some ((g : Int) + 1)) none = some (.tup ((l.drop (g + 1)).map fw), H) := by
    show some (W.tup (cutW (l.map fw) (some ((g + 1 : Nat) : Int)) _), H) = _
    rw [cut_hi, List.map_drop]
  have d1 : opBin true .Add (.tup ((l.take g).map fw)) (.tup [.tup [.int 0, .int 1]]) H = some (.tup ((l.take g ++ [(0, 1)]).map fw), H) := add_fw true (l.take g) [(0, 1)] (by
    rw [List.length_take, ll]
    simp
    omega) H
  have d2 : opBin true .Add (.tup ((l.take g ++ [(0, 1)]).map fw)) (.tup ((l.drop (g + 1)).map fw)) H = some (rw (l.take g ++ [(0, 1)] ++ l.drop (g + 1)), H) := add_fw true _ _ (by
    have := bent_len (R := l) (n := g) (by omega) (0, 1)
    rw [List.length_append] at this
    omega) H
  refine ⟨_, bind_nm _ _ _, rfl, ?_⟩
  generalize (l.take g ++ [((0, 1) : Fr)]).map fw = B1 at *
  generalize (l.take g).map fw = B2 at *
  generalize (l.drop (g + 1)).map fw = B3 at *
  show _ = Out.ok (rw (l.take g ++ [(0, 1)] ++ l.drop (g + 1))) H
  simp [s1, s2, d1, d2, -s_addt]
end K03
end
section
set_option Elab.async false
set_option linter.all false
set_option maxRecDepth 100000
set_option maxHeartbeats 2000000
namespace K03
open PySem PySem.Spec Wv L2
theorem st_gen {H : Store} {S : Nat} {s0 s1 : Int} (a : StAt H S) : StAt (H.set S (twoN s0 s1)) S := a.set s0 s1
theorem law_true (ns : List Int) (hn : ns.length ≤ 63) : callK prg 80 "law" [.kls (ns.map W.int)] [] = .ok (.bl true) [] := by
  obtain ⟨s0, s1, c0⟩ := c_state (K := 78) ns hn
  have a0 : StAt [Ob.lst (ns.map W.int), twoN s0 s1] 1 := ⟨s0, s1, rfl⟩
  generalize [Ob.lst (ns.map W.int), twoN s0 s1] = H0 at c0 a0
  obtain ⟨v, s0, s1, v0, v1, c1⟩ := c_take (K := 78) (m := 7) a0 (by decide) (by decide)
  have a1 := a0.set s0 s1
  generalize H0.set 1 (twoN s0 s1) = H1 at c1 a1
  obtain ⟨p', rfl⟩ := Int.eq_ofNat_of_zero_le v0
  obtain ⟨v, s0, s1, w0, w1, c2⟩ := c_take (K := 78) (m := 7) a1 (by decide) (by decide)
  have a2 := a1.set s0 s1
  generalize H1.set 1 (twoN s0 s1) = H2 at c2 a2
  obtain ⟨q', rfl⟩ := Int.eq_ofNat_of_zero_le w0
  obtain ⟨p, hp⟩ : ∃ p, p = 1 + p' := ⟨_, rfl⟩
  obtain ⟨q, hq⟩ : ∃ q, q = 1 + q' := ⟨_, rfl⟩
  have ip : (1 : Int) + (p' : Int) = (p : Int) := by omega
  have iq : (1 : Int) + (q' : Int) = (q : Int) := by omega
  have p1 : 1 ≤ p := by omega
  have p7 : p ≤ 7 := by omega
  have q1 : 1 ≤ q := by omega
  have q7 : q ≤ 7 := by omega
  clear hp hq
  obtain ⟨T, s0, s1, c3, lT, mT⟩ := c_table (K := 78) (p := p) (q := q) (by decide) a2 (by omega) (by omega)
  have a3 := a2.set s0 s1
  generalize H2.set 1 (twoN s0 s1) = H3 at c3 a3
  obtain ⟨v, s0, s1, x0, x1, c4⟩ := c_take (K := 78) (m := 3) a3 (by decide) (by decide)
  have a4 := a3.set s0 s1
  generalize H3.set 1 (twoN s0 s1) = H4 at c4 a4
  obtain ⟨r', rfl⟩ := Int.eq_ofNat_of_zero_le x0
  obtain ⟨r, hr⟩ : ∃ r, r = 1 + r' := ⟨_, rfl⟩
  have ir : (1 : Int) + (r' : Int) = (r : Int) := by omega
  have r1 : 1 ≤ r := by omega
  have r3 : r ≤ 3 := by omega
  clear hr
  obtain ⟨A, s0, s1, c5, lA, mA⟩ := c_table (K := 78) (p := p) (q := r) (by decide) a4 (by omega) (by omega)
  have a5 := a4.set s0 s1
  generalize H4.set 1 (twoN s0 s1) = H5 at c5 a5
  obtain ⟨B, s0, s1, c6, lB, mB⟩ := c_table (K := 78) (p := r) (q := q) (by decide) a5 (by omega) (by omega)
  have a6 := a5.set s0 s1
  generalize H5.set 1 (twoN s0 s1) = H6 at c6 a6
  have h7 : r * (3 + 3 + 1) ≤ 21 := Nat.mul_le_mul_right 7 r3
  have c7 := product_any (K := 78) (h := H6) (by decide) (by omega) mA mB lB r1 (by omega) q1 (by omega) (Nat.le_trans (Nat.add_le_add_right (Nat.add_le_add_left h7 1) _) (by decide))
  have mP := (prod_mat mA mB lB).mono (show 1 + r * (3 + 3 + 1) ≤ 22 by omega)
  have lP : (prodM A B q).length = p := by rw [prod_len, lA]
  generalize prodM A B q = P at c7 mP lP
  obtain ⟨v, s0, s1, y0, y1, c8⟩ := c_take (K := 78) (m := (q : Int)) a6 (by omega) (by omega)
  have a7 := a6.set s0 s1
  generalize H6.set 1 (twoN s0 s1) = H7 at c8 a7
  obtain ⟨g, rfl⟩ := Int.eq_ofNat_of_zero_le y0
  have mG := gap_mat (g := g) mP (by omega) (by decide)
  have lG : (gapM P g).length = p := by
    unfold gapM
    rw [List.length_map, lP]
  have c9 := gap_comp (K := 78) (g := g) mP (by omega) (by omega) (by omega) (H := H7) (e0 := some (.kls (ns.map W.int))) (e1 := some (.ref 1)) (e2 := some (.int (p : Int))) (e3 := some (.int (q : Int))) (e4 := some (tw T)) (e5 := some (.int (r : Int))) (e6 := some (tw P)) (e8 := none) (e9 := none) (e10 := none) (e11 := none) (e12 := none)
  have tG : W.tup ((gapM P g).map rw) = tw (gapM P g) := rfl
  generalize hG : (gapM P g).map rw = Gr at c9 tG
  generalize gapM P g = G at mG lG tG
  have iP : itOf H7 (tw P) = some (P.map rw, []) := rfl
  generalize P.map rw = Pr at c9 iP
  have sT : Small 3 q T := ⟨mT, by omega, by omega, q1, by omega, .inr q7⟩
  have sP : Small 22 q P := ⟨mP, by omega, by omega, q1, by omega, .inr q7⟩
  have sG : Small 22 q G := ⟨mG, by omega, by omega, q1, by omega, .inr q7⟩
  obtain ⟨a9, H8, f1, a8⟩ := law_loop (K := 78) (by decide) (e0 := some (.kls (ns.map W.int))) (e2 := some (.int (p : Int))) (e3 := some (.int (q : Int))) (e4 := some (tw T)) (e5 := some (.int (r : Int))) (e6 := some (tw P)) (e7 := some (.int (g : Int))) (e8 := some (tw G)) (e10 := none) (e11 := none) (e12 := none) (e13 := none) [T, P, G] none H7 a7 (fun t ht => by
    simp only [List.mem_cons, List.not_mem_nil, or_false] at ht
    rcases ht with z | z | z <;> subst z
    · exact ⟨3, q, by decide, sT, by omega, q7⟩
    · exact ⟨22, q, by decide, sP, by omega, q7⟩
    · exact ⟨22, q, by decide, sG, by omega, q7⟩)
  simp only [List.map_cons, List.map_nil] at f1
  obtain ⟨w, s0, s1, z0, z1, d1⟩ := c_take (K := 78) (m := 8) a8 (by decide) (by decide)
  have b1 := a8.set s0 s1
  generalize H8.set 1 (twoN s0 s1) = H9 at d1 b1
  have cm : ∀ H, callK prg 79 "_law_malformed_holds" [tw T] H = .ok (.bl true) H := fun H => by
    obtain ⟨r0, T0, rfl⟩ : ∃ r T', T = r :: T' := by
      cases T with
      | nil => exact absurd lT (by rw [List.length_nil]; omega)
      | cons r T' => exact ⟨r, T', rfl⟩
    exact c_malformed (K := 78) (by decide) sT (by decide) (by omega) q7 H
  have ct : ∀ H, cutR [] (.bl true) H = .ok (.bl true) [] := fun H => cutR_app (h := []) rfl
  rw [k_law]
  by_cases w0 : w = 0
  · subst w0
    obtain ⟨A, s0, s1, e5, lA, mA⟩ := c_table (K := 78) (p := 3) (q := 2) (by decide) b1 (by decide) (by decide)
    have b2 := b1.set s0 s1
    generalize H9.set 1 (twoN s0 s1) = H10 at e5 b2
    obtain ⟨B, s0, s1, e6, lB, mB⟩ := c_table (K := 78) (p := 2) (q := 40) (by decide) b2 (by decide) (by decide)
    have b3 := b2.set s0 s1
    generalize H10.set 1 (twoN s0 s1) = H11 at e6 b3
    have e7 := product_any (K := 78) (h := H11) (by decide) (by omega) mA mB lB (by decide) (by decide) (by decide) (by decide) (by decide)
    have mP := prod_mat mA mB lB
    have lP : (prodM A B 40).length = 3 := by rw [prod_len, lA]
    generalize prodM A B 40 = P2 at e7 mP lP
    have s2 : Small 15 40 P2 := ⟨mP, by omega, by omega, by decide, by decide, .inl (by omega)⟩
    obtain ⟨s0, s1, e8⟩ := holds_any (K := 78) (by decide) b3 s2 (by decide)
    generalize H11.set 1 (twoN s0 s1) = H12 at e8
    have e5' : callK prg 79 "_law_table" [.ref 1, .int 3, .int 2] H9 = .ok (tw A) H10 := e5
    have e6' : callK prg 79 "_law_table" [.ref 1, .int 2, .int 40] H10 = .ok (tw B) H11 := e6
    simp [b_law, startR, c0, c1, c2, ip, iq, c3, c4, ir, c5, c6, c7, c8, iP, c9, tG, f1, d1, e5', e6', e7, e8, cm, ct]
  · by_cases w1 : w = 1
    · subst w1
      obtain ⟨A, s0, s1, e5, lA, mA⟩ := c_table (K := 78) (p := 40) (q := 2) (by decide) b1 (by decide) (by decide)
      have b2 := b1.set s0 s1
      generalize H9.set 1 (twoN s0 s1) = H10 at e5 b2
      obtain ⟨B, s0, s1, e6, lB, mB⟩ := c_table (K := 78) (p := 2) (q := 4) (by decide) b2 (by decide) (by decide)
      have b3 := b2.set s0 s1
      generalize H10.set 1 (twoN s0 s1) = H11 at e6 b3
      have e7 := product_any (K := 78) (h := H11) (by decide) (by omega) mA mB lB (by decide) (by decide) (by decide) (by decide) (by decide)
      have mP := prod_mat mA mB lB
      have lP : (prodM A B 4).length = 40 := by rw [prod_len, lA]
      generalize prodM A B 4 = P2 at e7 mP lP
      have s2 : Small 15 4 P2 := ⟨mP, by omega, by omega, by decide, by decide, .inr (by decide)⟩
      obtain ⟨s0, s1, e8⟩ := holds_any (K := 78) (by decide) b3 s2 (by decide)
      generalize H11.set 1 (twoN s0 s1) = H12 at e8
      have e5' : callK prg 79 "_law_table" [.ref 1, .int 40, .int 2] H9 = .ok (tw A) H10 := e5
      have e6' : callK prg 79 "_law_table" [.ref 1, .int 2, .int 4] H10 = .ok (tw B) H11 := e6
      simp [b_law, startR, c0, c1, c2, ip, iq, c3, c4, ir, c5, c6, c7, c8, iP, c9, tG, f1, d1, e5', e6', e7, e8, cm, ct]
    · have n0 : (w == 0) = false := by simpa using w0
      have n1 : (w == 1) = false := by simpa using w1
      simp [b_law, startR, c0, c1, c2, ip, iq, c3, c4, ir, c5, c6, c7, c8, iP, c9, tG, f1, d1, w0, w1, cm, ct]
end K03
end
set_option Elab.async false
set_option linter.all false
set_option maxRecDepth 100000
set_option maxHeartbeats 0
open PySem PySem.W PySem.Calls PyProof.Rows
theorem PySem.Challenge.cw_wireroads_k03_whole_reduced_tables_ranks_holds : PySem.Challenge.rw_wireroads_k03_whole_reduced_tables_ranks.Holds := by
  w_on; o_law
  refine HandSHeadRun.head_any (r := OpenLaw.row PySem.Challenge.rw_wireroads_k03_whole_reduced_tables_ranks) (q := K03.qv) (H := K03.hk) (ob := K03.ob) (M := 4000) (loose := K03.loose) (d := HandSHeadRun.topDef (OpenLaw.row PySem.Challenge.rw_wireroads_k03_whole_reduced_tables_ranks).prog 52) (kwd := []) K03.ob_eq
    (by kernel_rfl) (fun s => by kernel_rfl) K03.run (by kernel_rfl) (by kernel_rfl) (by kernel_rfl) (by rfl) (by first | assumption | decide +kernel) (by decide +kernel) ⟨rfl, rfl, rfl, rfl, rfl, by decide +kernel⟩ ?hw ?hc
  case hw => w_witness2
  case hc =>
    refine Wv.walkW (l := PySem.Challenge.rw_wireroads_k03_whole_reduced_tables_ranks) (n := 63) (k := 80) (P := K03.prg) rfl (by decide) (by kernel_rfl) ⟨rfl, by decide, by decide⟩ (by decide +kernel) ?F (by kernel_rfl) ?law
    case F =>
      intro w mg f h Y G hmg
      obtain ⟨K, X, c⟩ := Y
      have e : (HandSHeadRun.topDef (OpenLaw.row PySem.Challenge.rw_wireroads_k03_whole_reduced_tables_ranks).prog 52).name = ("law" : PySem.Str) := by kernel_rfl
      rw [e] at hmg ⊢
      refine ⟨Wv.gB K, X, fun base _ _ seer => Wv.world_of X G c.t.d c.more (by decide +kernel) (by decide +kernel) (K03.told X G c.t.d) K03.scs (by kernel_rfl) seer, ?_⟩
      have z := He.glo_ok X G (c.t.d.fact 42 (f := .glo "law") rfl)
      rw [hmg] at z
      cases z
      rfl
    case law =>
      intro ns hn
      have e : (HandSHeadRun.topDef (OpenLaw.row PySem.Challenge.rw_wireroads_k03_whole_reduced_tables_ranks).prog 52).name = ("law" : PySem.Str) := by kernel_rfl
      rw [e]
      exact K03.law_true ns hn
