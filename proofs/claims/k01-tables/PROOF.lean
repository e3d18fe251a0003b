import PyProof.Rows.All
import Wide.All
import OpenK.AllK
import Wide.FinOn
import HandS.ForMost
import HandS.Exc
import HandS.Wide
import HandS.TupAny
import HandS.TupMul
import HandS.Deep
import HandS.IsInst
import HandS.Flow
import HandS.Zip
import HandS.WordsExc
import HandS.Conv
import HandS.SortInts
import HandS.CallSlots
import HandS.Style
import HandS.HeadHook1
import HandS.Defaults
import HandS.Ends
import HandS.HeadHook3
import HandS.HeadHook4
import HandS.Codes
import KE.KStateDown
import Lean
import HandS.Base
import HandS.Call
import HandS.More
import HandS.Words
import HandS.Head0
import HandS.Head1
import HandS.Head2
import HandS.HeadEnd
import HandS.HeadHook2
import PySem.Challenge.RW_wireroads_k01_whole_tables_and_their_par
section
set_option Elab.async false
set_option linter.all false
set_option maxRecDepth 100000
set_option maxHeartbeats 4000000
/-! Core A of ours: plain values, the plain store, how they lie in the tracked heap. -/
namespace Wv
open PySem PySem.Spec L2
open PyProof.Rows hiding St

inductive W where
  | non
  | bl (b : Bool)
  | int (i : Int)
  | str (x : Str)
  | tup (xs : List W)
  | ref (n : Nat)
  | glo (x : Str)
  | kls (xs : List W)
  deriving Inhabited

inductive Ob where
  | lst (xs : List W)
  | dic (kvs : List (Key × W))
abbrev Store := List Ob

structure Base where
  K : PySem.W.Frag
  G : Str → Option V

/-- a list that stays as it is: the script -/
def KL (K : PySem.W.Frag) (H : Hp) (a : Addr) (xs : List V) : Prop := (∃ o, H a = some (.frz o (.lst xs))) ∨ ∃ (o : Obj) (its : Array Value) (n : Nat), K.lookup a = some o ∧ o.cls = .type "list" ∧ o.dict = none ∧ o.data = .seq its n ∧ its.size ≤ sizeLine ∧ Vals xs its.toList
mutual
def rep (B : Base) (m : List Addr) (H : Hp) : W → V → Prop
  | .non, v => v = .non
  | .bl b, v => v = .bl b
  | .int i, v => v = .int i
  | .str x, v => v = .str x
  | .tup ws, v => ∃ a vs, v = .ref a ∧ SqT B.K H a vs ∧ reps B m H ws vs
  | .ref n, v => ∃ a, v = .ref a ∧ m[n]? = some a
  | .glo x, v => B.G x = some v
  | .kls ws, v => ∃ a vs, v = .ref a ∧ KL B.K H a vs ∧ reps B m H ws vs
def reps (B : Base) (m : List Addr) (H : Hp) : List W → List V → Prop
  | [], vs => vs = []
  | w :: ws, vs => ∃ v r, vs = v :: r ∧ rep B m H w v ∧ reps B m H ws r
end

/-- pairs of a dict -/
def repk (B : Base) (m : List Addr) (H : Hp) : List (Key × W) → List (Key × V) → Prop
  | [], vs => vs = []
  | p :: ws, vs => ∃ v r, vs = (p.1, v) :: r ∧ rep B m H p.2 v ∧ repk B m H ws r

def obOk (B : Base) (m : List Addr) (H : Hp) : Ob → Addr → Prop
  | .lst ws, a => ∃ vs, H a = some (.lst vs) ∧ reps B m H ws vs
  | .dic kvs, a => ∃ vs, H a = some (.dK vs) ∧ repk B m H kvs vs

structure Sim (B : Base) (m : List Addr) (h : Store) (H : Hp) : Prop where
  len : m.length = h.length
  nd : m.Nodup
  ob : ∀ (n : Nat) (a : Addr) (o : Ob), m[n]? = some a → h[n]? = some o → obOk B m H o a

/-- the tuples stay -/
structure TupIn (H H' : Hp) : Prop where
  t : ∀ a xs, Rd H a (.tup xs) → Rd H' a (.tup xs)
  f : ∀ a o u, H a = some (.frz o u) → H' a = some (.frz o u)
/-- what a piece of the run leaves alone -/
structure Go (m : List Addr) (H : Hp) (m' : List Addr) (H' : Hp) : Prop where
  pre : ∃ t, m' = m ++ t ∧ ∀ a ∈ t, H a = none
  keep : ∀ a o, H a = some o → a ∉ m → H' a = some o
  tup : TupIn H H'

section
variable {B : Base} {m m' m1 m2 : List Addr} {H H' H1 H2 : Hp} {h h' : Store}
theorem TupIn.refl : TupIn H H := ⟨fun _ _ e => e, fun _ _ _ e => e⟩
theorem TupIn.trans (a : TupIn H H1) (b : TupIn H1 H2) : TupIn H H2 := ⟨fun x xs e => b.t x xs (a.t x xs e), fun x o u e => b.f x o u (a.f x o u e)⟩
theorem Go.refl : Go m H m H := ⟨⟨[], (List.append_nil m).symm, fun _ z => nomatch z⟩, fun _ _ e _ => e, TupIn.refl⟩
theorem Go.trans (nd : m2.Nodup) (a : Go m H m1 H1) (b : Go m1 H1 m2 H2) : Go m H m2 H2 := by
  obtain ⟨t1, e1, f1⟩ := a.pre
  obtain ⟨t2, e2, f2⟩ := b.pre
  refine ⟨⟨t1 ++ t2, by rw [e2, e1, List.append_assoc], fun x hx => ?_⟩, fun x o e hm => ?_, a.tup.trans b.tup⟩
  · rcases List.mem_append.mp hx with hx | hx
    · exact f1 x hx
    · have z := f2 x hx
      cases q : H x with
      | none => rfl
      | some o =>
        by_cases hm : x ∈ m
        · exfalso
          rw [e2, e1] at nd
          exact (List.nodup_append.mp nd).2.2 x (List.mem_append_left _ hm) x hx rfl
        · rw [a.keep x o q hm] at z
          cases z
  · refine b.keep x o (a.keep x o e hm) fun z => ?_
    rw [e1] at z
    rcases List.mem_append.mp z with z | z
    · exact hm z
    · rw [f1 x z] at e
      cases e
theorem SqT.stay {K : PySem.W.Frag} {a : Addr} {xs : List V} (q : SqT K H a xs) (t : TupIn H H') : SqT K H' a xs := by
  rcases q with q | q
  · exact .inl (t.t _ _ q)
  · exact .inr q
theorem KL.stay {K : PySem.W.Frag} {a : Addr} {xs : List V} (q : KL K H a xs) (t : TupIn H H') : KL K H' a xs := by
  rcases q with ⟨o, q⟩ | q
  · exact .inl ⟨o, t.f _ _ _ q⟩
  · exact .inr q
mutual
theorem rep.stay (t : TupIn H H') (p : ∃ r, m' = m ++ r) : ∀ (w : W) (v : V), rep B m H w v → rep B m' H' w v
  | .non, v, q => by unfold rep at q ⊢; exact q
  | .bl _, v, q => by unfold rep at q ⊢; exact q
  | .int _, v, q => by unfold rep at q ⊢; exact q
  | .str _, v, q => by unfold rep at q ⊢; exact q
  | .glo _, v, q => by unfold rep at q ⊢; exact q
  | .kls ws, v, q => by
    unfold rep at q ⊢
    obtain ⟨a, vs, e, s, z⟩ := q
    exact ⟨a, vs, e, KL.stay s t, reps.stay t p ws vs z⟩
  | .ref n, v, q => by
    unfold rep at q ⊢
    obtain ⟨a, e, z⟩ := q
    obtain ⟨r, rfl⟩ := p
    exact ⟨a, e, by rw [List.getElem?_append_left (List.getElem?_eq_some_iff.mp z).1]; exact z⟩
  | .tup ws, v, q => by
    unfold rep at q ⊢
    obtain ⟨a, vs, e, s, z⟩ := q
    exact ⟨a, vs, e, SqT.stay s t, reps.stay t p ws vs z⟩
theorem reps.stay (t : TupIn H H') (p : ∃ r, m' = m ++ r) : ∀ (ws : List W) (vs : List V), reps B m H ws vs → reps B m' H' ws vs
  | [], vs, q => by unfold reps at q ⊢; exact q
  | w :: ws, vs, q => by
    unfold reps at q ⊢
    obtain ⟨v, r, e, z, zs⟩ := q
    exact ⟨v, r, e, rep.stay t p w v z, reps.stay t p ws r zs⟩
end
theorem repk.stay (t : TupIn H H') (p : ∃ r, m' = m ++ r) : ∀ (ws : List (Key × W)) (vs : List (Key × V)), repk B m H ws vs → repk B m' H' ws vs
  | [], vs, q => by unfold repk at q ⊢; exact q
  | w :: ws, vs, q => by
    unfold repk at q ⊢
    obtain ⟨v, r, e, z, zs⟩ := q
    exact ⟨v, r, e, rep.stay t p _ v z, repk.stay t p ws r zs⟩
theorem Go.rep {w : W} {v : V} (g : Go m H m' H') (q : rep B m H w v) : rep B m' H' w v := rep.stay g.tup (let ⟨t, e, _⟩ := g.pre; ⟨t, e⟩) w v q
theorem Go.reps {ws : List W} {vs : List V} (g : Go m H m' H') (q : reps B m H ws vs) : reps B m' H' ws vs := reps.stay g.tup (let ⟨t, e, _⟩ := g.pre; ⟨t, e⟩) ws vs q
theorem reps.length : ∀ {ws : List W} {vs : List V}, reps B m H ws vs → ws.length = vs.length
  | [], vs, q => by unfold Wv.reps at q; rw [q]; rfl
  | w :: ws, vs, q => by
    unfold Wv.reps at q
    obtain ⟨v, r, e, z, zs⟩ := q
    rw [e, List.length_cons, List.length_cons, reps.length zs]
theorem reps.get : ∀ {ws : List W} {vs : List V} {i : Nat} {w : W}, reps B m H ws vs → ws[i]? = some w → ∃ v, vs[i]? = some v ∧ rep B m H w v
  | [], vs, i, w, q, e => by simp at e
  | w :: ws, vs, 0, w', q, e => by
    unfold Wv.reps at q
    obtain ⟨v, r, e1, z, zs⟩ := q
    simp at e
    subst e
    exact ⟨v, by rw [e1]; rfl, z⟩
  | w :: ws, vs, i + 1, w', q, e => by
    unfold Wv.reps at q
    obtain ⟨v, r, e1, z, zs⟩ := q
    obtain ⟨u, h1, h2⟩ := reps.get zs (i := i) (by simpa using e)
    exact ⟨u, by rw [e1]; simpa using h1, h2⟩
theorem reps.nil : reps B m H [] [] := by unfold Wv.reps; rfl
theorem reps.cons {w : W} {v : V} {ws : List W} {vs : List V} (a : rep B m H w v) (b : reps B m H ws vs) : reps B m H (w :: ws) (v :: vs) := by
  unfold Wv.reps
  exact ⟨v, vs, rfl, a, b⟩
theorem reps.append : ∀ {ws ws' : List W} {vs vs' : List V}, reps B m H ws vs → reps B m H ws' vs' → reps B m H (ws ++ ws') (vs ++ vs')
  | [], ws', vs, vs', a, b => by
    unfold Wv.reps at a
    rw [a]
    exact b
  | w :: ws, ws', vs, vs', a, b => by
    unfold Wv.reps at a
    obtain ⟨v, r, e, z, zs⟩ := a
    rw [e]
    exact reps.cons z (reps.append zs b)
theorem reps.take : ∀ (n : Nat) {ws : List W} {vs : List V}, reps B m H ws vs → reps B m H (ws.take n) (vs.take n)
  | 0, ws, vs, _ => by simpa using reps.nil
  | n + 1, [], vs, a => by
    unfold Wv.reps at a
    rw [a]
    simpa using reps.nil
  | n + 1, w :: ws, vs, a => by
    unfold Wv.reps at a
    obtain ⟨v, r, e, z, zs⟩ := a
    rw [e]
    exact reps.cons z (reps.take n zs)
theorem reps.drop : ∀ (n : Nat) {ws : List W} {vs : List V}, reps B m H ws vs → reps B m H (ws.drop n) (vs.drop n)
  | 0, ws, vs, a => a
  | n + 1, [], vs, a => by
    unfold Wv.reps at a
    rw [a]
    simpa using reps.nil
  | n + 1, w :: ws, vs, a => by
    unfold Wv.reps at a
    obtain ⟨v, r, e, z, zs⟩ := a
    rw [e]
    exact reps.drop n zs
theorem reps.reverse : ∀ {ws : List W} {vs : List V}, reps B m H ws vs → reps B m H ws.reverse vs.reverse
  | [], vs, a => by
    unfold Wv.reps at a
    rw [a]
    exact reps.nil
  | w :: ws, vs, a => by
    unfold Wv.reps at a
    obtain ⟨v, r, e, z, zs⟩ := a
    rw [e, List.reverse_cons, List.reverse_cons]
    exact reps.append (reps.reverse zs) (reps.cons z reps.nil)
theorem reps.set : ∀ (i : Nat) {w : W} {v : V} {ws : List W} {vs : List V}, rep B m H w v → reps B m H ws vs → reps B m H (ws.set i w) (vs.set i v)
  | i, w, v, [], vs, _, b => by
    unfold Wv.reps at b
    rw [b]
    exact reps.nil
  | 0, w, v, _ :: ws, vs, a, b => by
    unfold Wv.reps at b
    obtain ⟨v', r, e, z, zs⟩ := b
    rw [e]
    exact reps.cons a zs
  | i + 1, w, v, _ :: ws, vs, a, b => by
    unfold Wv.reps at b
    obtain ⟨v', r, e, z, zs⟩ := b
    rw [e]
    exact reps.cons z (reps.set i a zs)
theorem obOk.stay {o : Ob} {a : Addr} (q : obOk B m H o a) (e : H' a = H a) (t : TupIn H H') (p : ∃ r, m' = m ++ r) : obOk B m' H' o a := by
  cases o with
  | lst ws => obtain ⟨vs, x, y⟩ := q; exact ⟨vs, e.trans x, reps.stay t p _ _ y⟩
  | dic ws => obtain ⟨vs, x, y⟩ := q; exact ⟨vs, e.trans x, repk.stay t p _ _ y⟩
theorem obOk.some {o : Ob} {a : Addr} (q : obOk B m H o a) : ∃ u, H a = Option.some u ∧ (∀ xs, u ≠ .tup xs) ∧ ∀ ob u', u ≠ .frz ob u' := by
  cases o with
  | lst ws => obtain ⟨vs, x, _⟩ := q; exact ⟨_, x, And.intro (fun _ z => by cases z) (fun _ _ z => by cases z)⟩
  | dic ws => obtain ⟨vs, x, _⟩ := q; exact ⟨_, x, And.intro (fun _ z => by cases z) (fun _ _ z => by cases z)⟩
theorem Sim.at_ (S : Sim B m h H) {a : Addr} (ha : a ∈ m) : ∃ (n : Nat) (o : Ob), m[n]? = some a ∧ h[n]? = some o ∧ obOk B m H o a := by
  obtain ⟨n, hn, e⟩ := List.getElem_of_mem ha
  have e1 : m[n]? = some a := by rw [List.getElem?_eq_getElem hn, e]
  have hn2 : n < h.length := by rw [← S.len]; exact hn
  exact ⟨n, h[n], e1, List.getElem?_eq_getElem hn2, S.ob n a _ e1 (List.getElem?_eq_getElem hn2)⟩
theorem Sim.there (S : Sim B m h H) {a : Addr} (ha : a ∈ m) : ∃ u, H a = Option.some u ∧ (∀ xs, u ≠ .tup xs) ∧ ∀ ob u', u ≠ .frz ob u' := by
  obtain ⟨_, _, _, _, q⟩ := S.at_ ha
  exact q.some
theorem Sim.stay (S : Sim B m h H) (e : ∀ a ∈ m, H' a = H a) (t : TupIn H H') : Sim B m h H' :=
  ⟨S.len, S.nd, fun n a o h1 h2 => (S.ob n a o h1 h2).stay (e a (List.mem_of_getElem? h1)) t ⟨[], (List.append_nil m).symm⟩⟩
theorem TupIn.upd_new {p : Addr} {o : HO} (hp : H p = none) : TupIn H (upd H p o) := ⟨fun a xs e => by
  have ne : a ≠ p := by
    rintro rfl
    rcases e with e | ⟨u, e⟩ <;> rw [hp] at e <;> cases e
  rcases e with e | ⟨u, e⟩
  · exact .inl (by rw [upd_ne ne]; exact e)
  · exact .inr ⟨u, by rw [upd_ne ne]; exact e⟩, fun a ob u e => by rw [upd_ne (ne_of_none e hp)]; exact e⟩
theorem TupIn.upd_at {p : Addr} {o u : HO} (hp : H p = some u) (hu : (∀ xs, u ≠ .tup xs) ∧ ∀ ob u', u ≠ .frz ob u') : TupIn H (upd H p o) := ⟨fun a xs e => by
  have ne : a ≠ p := by
    rintro rfl
    rcases e with e | ⟨ob, e⟩
    · rw [hp] at e; exact hu.1 xs (Option.some.inj e)
    · rw [hp] at e; exact hu.2 ob _ (Option.some.inj e)
  rcases e with e | ⟨u, e⟩
  · exact .inl (by rw [upd_ne ne]; exact e)
  · exact .inr ⟨u, by rw [upd_ne ne]; exact e⟩, fun a ob u' e => by
  have ne : a ≠ p := by
    rintro rfl
    rw [hp] at e
    exact hu.2 ob _ (Option.some.inj e)
  rw [upd_ne ne]
  exact e⟩
/-- a new object that the plain store does not name -/
theorem Sim.more (S : Sim B m h H) {p : Addr} {o : HO} (hp : H p = none) : Sim B m h (upd H p o) := S.stay (fun a ha => by
  obtain ⟨u, e, _⟩ := S.there ha
  rw [upd_ne (ne_of_none e hp)]) (TupIn.upd_new hp)
theorem Go.more {p : Addr} {o : HO} (hp : H p = none) : Go m H m (upd H p o) := ⟨⟨[], (List.append_nil m).symm, fun _ z => nomatch z⟩, fun a u e _ => by rw [upd_ne (ne_of_none e hp)]; exact e, TupIn.upd_new hp⟩
/-- an unnamed object is written -/
theorem Sim.other (S : Sim B m h H) {p : Addr} {o u : HO} (hp : H p = some u) (hu : (∀ xs, u ≠ .tup xs) ∧ ∀ ob u', u ≠ .frz ob u') (hm : p ∉ m) : Sim B m h (upd H p o) := S.stay (fun a ha => by
  have ne : a ≠ p := fun z => hm (by rw [← z]; exact ha)
  rw [upd_ne ne]) (TupIn.upd_at hp hu)
/-- a new object that the plain store names -/
theorem Sim.push (S : Sim B m h H) {p : Addr} {o : HO} {b : Ob} (hp : H p = none) (q : obOk B (m ++ [p]) (upd H p o) b p) : Sim B (m ++ [p]) (h ++ [b]) (upd H p o) := by
  have hm : p ∉ m := fun z => by
    obtain ⟨u, e, _⟩ := S.there z
    rw [hp] at e
    cases e
  refine ⟨by rw [List.length_append, List.length_append, S.len]; rfl, List.nodup_append.mpr ⟨S.nd, List.pairwise_singleton _ _, fun a ha b hb e => by
    have z : b = p := by simpa using hb
    exact hm (z ▸ e ▸ ha)⟩, fun n a ob h1 h2 => ?_⟩
  by_cases hn : n < m.length
  · rw [List.getElem?_append_left hn] at h1
    rw [List.getElem?_append_left (by rw [← S.len]; exact hn)] at h2
    have ha := List.mem_of_getElem? h1
    refine (S.ob n a ob h1 h2).stay ?_ (TupIn.upd_new hp) ⟨[p], rfl⟩
    have ne : a ≠ p := fun z => hm (by rw [← z]; exact ha)
    rw [upd_ne ne]
  · rw [List.getElem?_append_right (by omega)] at h1
    rw [List.getElem?_append_right (by rw [← S.len]; omega)] at h2
    have z : n - m.length = 0 := by
      have := (List.getElem?_eq_some_iff.mp h1).1
      simpa using this
    rw [z] at h1
    rw [← S.len, z] at h2
    simp at h1 h2
    subst h1
    subst h2
    exact q
theorem Go.push {p : Addr} {o : HO} (hp : H p = none) : Go m H (m ++ [p]) (upd H p o) := ⟨⟨[p], rfl, fun a ha => by
  have z : a = p := by simpa using ha
  rw [z]; exact hp⟩, fun a u e _ => by rw [upd_ne (ne_of_none e hp)]; exact e, TupIn.upd_new hp⟩
/-- a named object is written -/
theorem Sim.put (S : Sim B m h H) {n : Nat} {p : Addr} {o : HO} {b : Ob} (hn : m[n]? = some p) (q : obOk B m (upd H p o) b p) : Sim B m (h.set n b) (upd H p o) := by
  obtain ⟨u, e, hu⟩ := S.there (List.mem_of_getElem? hn)
  refine ⟨by rw [List.length_set]; exact S.len, S.nd, fun k a ob h1 h2 => ?_⟩
  by_cases hk : n = k
  · subst hk
    rw [hn] at h1
    cases h1
    have hl : n < h.length := by rw [← S.len]; exact (List.getElem?_eq_some_iff.mp hn).1
    rw [List.getElem?_set_self hl] at h2
    cases h2
    exact q
  · rw [List.getElem?_set_ne hk] at h2
    refine (S.ob k a ob h1 h2).stay ?_ (TupIn.upd_at e hu) ⟨[], (List.append_nil m).symm⟩
    rw [upd_ne]
    rintro rfl
    exact hk (nd_ix S.nd hn h1)
theorem Go.put (S : Sim B m h H) {n : Nat} {p : Addr} {o : HO} (hn : m[n]? = some p) : Go m H m (upd H p o) := by
  obtain ⟨u, e, hu⟩ := S.there (List.mem_of_getElem? hn)
  exact ⟨⟨[], (List.append_nil m).symm, fun _ z => nomatch z⟩, fun a ob ha hm => by rw [upd_ne fun z => hm (by rw [z]; exact List.mem_of_getElem? hn)]; exact ha, TupIn.upd_at e hu⟩
end
end Wv
end
section
set_option Elab.async false
set_option linter.all false
set_option maxRecDepth 100000
set_option maxHeartbeats 4000000
/-! Core B of ours: outcomes, operations on plain values, the judgements. -/
namespace Wv
open PySem PySem.Spec L2
open PyProof.Rows hiding St

structure Exn where
  cls : Str
  fld : Option (List (Str × W))
inductive Out (α : Type) where
  | ok (a : α) (h : Store)
  | exc (e : Exn) (h : Store)
  | bad
def Out.bind {α β : Type} (o : Out α) (k : α → Store → Out β) : Out β := match o with
  | .ok a h => k a h
  | .exc e h => .exc e h
  | .bad => .bad
@[simp] theorem Out.bind_ok {α β : Type} (a : α) (h : Store) (k : α → Store → Out β) : (Out.ok a h).bind k = k a h := id rfl
@[simp] theorem Out.bind_exc {α β : Type} (e : Exn) (h : Store) (k : α → Store → Out β) : (Out.exc e h).bind k = .exc e h := id rfl
@[simp] theorem Out.bind_bad {α β : Type} (k : α → Store → Out β) : Out.bad.bind k = .bad := id rfl
abbrev Rho := List (Option W)
abbrev Den := Rho → Store → Out W
abbrev DenA := Rho → Store → Out (List W)
abbrev DenT := Rho → Store → Out Bool

/-! ### lists, data -/
def lst? (h : Store) (n : Nat) : Option (List W) := match h[n]? with
  | some (.lst xs) => some xs
  | _ => none
def own? (h : Store) (n : Nat) : Option (List W) := match h[n]? with
  | some (.lst xs) => some xs
  | _ => none
def toPys (f : W → Option PyData) : List W → Option (List PyData)
  | [] => some []
  | w :: ws => match f w, toPys f ws with
    | some d, some ds => some (d :: ds)
    | _, _ => none
def toPy (h : Store) : Nat → W → Option PyData
  | _, .non => some .none
  | _, .bl b => some (.bool b)
  | _, .int i => some (.int i)
  | _, .str x => some (.str x)
  | n + 1, .tup ws => (toPys (toPy h n) ws).map .tuple
  | n + 1, .ref k => match lst? h k with
    | some ws => (toPys (toPy h n) ws).map .list
    | none => none
  | _, _ => none
def pyd (h : Store) (w : W) : Option PyData := match toPy h 66 w with
  | some d => if SeqAt.shaped d = true then some d else none
  | none => none

/-! ### judgements -/
def PV {α : Type} (B : Base) (m : List Addr) (H : Hp) (o : Out α) (R : α → Store → List Addr → Hp → Prop) (E : Exn → List Addr → Hp → Prop) : Prop := match o with
  | .ok a h' => ∀ m' H', Sim B m' h' H' → Go m H m' H' → R a h' m' H'
  | .exc e h' => ∀ m' H', Sim B m' h' H' → Go m H m' H' → E e m' H'
  | .bad => False
section
variable {α β : Type} {B : Base} {m m' m1 : List Addr} {H H' H1 : Hp} {o : Out α} {R R' : α → Store → List Addr → Hp → Prop} {E E' : Exn → List Addr → Hp → Prop}
theorem PV.mono (p : PV B m H o R E) (g : Go m H m' H') : PV B m' H' o R E := by
  cases o with
  | ok a h' => exact fun m2 H2 S2 G2 => p m2 H2 S2 (g.trans S2.nd G2)
  | exc e h' => exact fun m2 H2 S2 G2 => p m2 H2 S2 (g.trans S2.nd G2)
  | bad => exact p
theorem PV.imp (p : PV B m H o R E) (h : ∀ a h' m' H', Sim B m' h' H' → Go m H m' H' → R a h' m' H' → R' a h' m' H') : PV B m H o R' E := by
  cases o with
  | ok a h' => exact fun m2 H2 S2 G2 => h _ _ _ _ S2 G2 (p m2 H2 S2 G2)
  | exc e h' => exact p
  | bad => exact p
theorem PV.impE (p : PV B m H o R E) (h : ∀ e m' H', E e m' H' → E' e m' H') : PV B m H o R E' := by
  cases o with
  | ok a h' => exact p
  | exc e h' => exact fun m2 H2 S2 G2 => h _ _ _ (p m2 H2 S2 G2)
  | bad => exact p
theorem PV.bind {k : α → Store → Out β} {R : β → Store → List Addr → Hp → Prop} (p : PV B m H (o.bind k) R E) : PV B m H o (fun a h1 m1 H1 => PV B m1 H1 (k a h1) R E) E := by
  cases o with
  | ok a h' => exact fun m1 H1 S1 G1 => PV.mono (o := k a h') p G1
  | exc e h' => exact p
  | bad => exact p
theorem PV.here {a : α} {h : Store} (p : PV B m H (.ok a h) R E) (S : Sim B m h H) : R a h m H := p m H S Go.refl
end

def slots (B : Base) (m : List Addr) (H : Hp) (ρ : Rho) (σ : St) : Prop := σ.length = ρ.length ∧ ∀ (i : Nat) (w : W), ρ[i]? = some (some w) → ∃ v, σ[i]? = some (some v) ∧ rep B m H w v
theorem slots.go {B : Base} {m m' : List Addr} {H H' : Hp} {ρ : Rho} {σ : St} (s : slots B m H ρ σ) (g : Go m H m' H') : slots B m' H' ρ σ :=
  ⟨s.1, fun i w e => let ⟨v, e1, r⟩ := s.2 i w e; ⟨v, e1, g.rep r⟩⟩
theorem slots.set {B : Base} {m : List Addr} {H : Hp} {ρ : Rho} {σ : St} {w : W} {v : V} (s : slots B m H ρ σ) (i : Nat) (r : rep B m H w v) : slots B m H (ρ.set i (some w)) (σ.set i (some v)) := by
  refine ⟨by rw [List.length_set, List.length_set]; exact s.1, fun j w' e => ?_⟩
  by_cases hj : i = j
  · subst hj
    have hl : i < ρ.length := by
      have z := (List.getElem?_eq_some_iff.mp e).1
      rw [List.length_set] at z
      exact z
    rw [List.getElem?_set_self hl] at e
    cases e
    exact ⟨v, List.getElem?_set_self (by rw [s.1]; exact hl), r⟩
  · rw [List.getElem?_set_ne hj] at e
    obtain ⟨v', e1, r'⟩ := s.2 j w' e
    exact ⟨v', by rw [List.getElem?_set_ne hj]; exact e1, r'⟩
theorem slots.clear {B : Base} {m : List Addr} {H : Hp} {ρ : Rho} {σ : St} (s : slots B m H ρ σ) (i : Nat) : slots B m H (ρ.set i none) (σ.set i none) := by
  refine ⟨by rw [List.length_set, List.length_set]; exact s.1, fun j w' e => ?_⟩
  by_cases hj : i = j
  · subst hj
    by_cases hl : i < ρ.length
    · rw [List.getElem?_set_self hl] at e
      cases e
    · rw [List.getElem?_eq_none (by rw [List.length_set]; omega)] at e
      cases e
  · rw [List.getElem?_set_ne hj] at e
    obtain ⟨v', e1, r'⟩ := s.2 j w' e
    exact ⟨v', by rw [List.getElem?_set_ne hj]; exact e1, r'⟩

/-- fields of an exception's own dict -/
def repf (B : Base) (m : List Addr) (H : Hp) : List (Str × W) → List (Str × V) → Prop
  | [], vs => vs = []
  | p :: ws, vs => ∃ v r, vs = (p.1, v) :: r ∧ rep B m H p.2 v ∧ repf B m H ws r
def repX (B : Base) (m : List Addr) (H : Hp) (e : Exn) (cls : Value) (d : Option Addr) : Prop :=
  (∃ C, B.G e.cls = some (.ref C) ∧ cls = .ref C) ∧ match e.fld with
    | none => d = none
    | some fs => ∃ dx vs, d = some dx ∧ H dx = some (.xd vs) ∧ repf B m H fs vs

/-- the exceptional end at slots σ -/
abbrev XS (B : Base) (Wx : WX) (σ : St) : Exn → List Addr → Hp → Prop := fun e m' H' => ∀ cls d, repX B m' H' e cls d → Wx cls d σ H'
abbrev QE (B : Base) (Q : VK) : W → Store → List Addr → Hp → Prop := fun w _ m' H' => ∀ v, rep B m' H' w v → Q v H'
abbrev QA (B : Base) (Q : List V → Hp → Prop) : List W → Store → List Addr → Hp → Prop := fun w _ m' H' => ∀ vs, reps B m' H' w vs → Q vs H'
abbrev QT (Q : Bool → Hp → Prop) : Bool → Store → List Addr → Hp → Prop := fun b _ _ H' => Q b H'

def tD (B : Base) (Wx : WX) (f : Den) : TE := fun σ H Q => ∃ m h ρ, Sim B m h H ∧ slots B m H ρ σ ∧ PV B m H (f ρ h) (QE B Q) (XS B Wx σ)
def tDA (B : Base) (Wx : WX) (f : DenA) : TA := fun σ H Q => ∃ m h ρ, Sim B m h H ∧ slots B m H ρ σ ∧ PV B m H (f ρ h) (QA B Q) (XS B Wx σ)
def tDT (B : Base) (Wx : WX) (f : DenT) : TT := fun σ H Q => ∃ m h ρ, Sim B m h H ∧ slots B m H ρ σ ∧ PV B m H (f ρ h) (QT Q) (XS B Wx σ)
def DE (B : Base) (Wx : WX) (X : Cx) (e : Expr) (f : Den) : Prop := PE X e (tD B Wx f)
def DA (B : Base) (Wx : WX) (X : Cx) (es : List Expr) (f : DenA) : Prop := PA X es (tDA B Wx f)
def DT (B : Base) (Wx : WX) (X : Cx) (e : Expr) (f : DenT) : Prop := PT X e (tDT B Wx f)

section
variable {B : Base} {Wx : WX} {X : Cx} {e : Expr} {es : List Expr} {f : Den} {fa : DenA} {ft : DenT} {pins : List (Addr × Obj)} {s : Shared} {σ : St} {H : Hp} {m : List Addr} {h : Store} {ρ : Rho}
theorem DE.run (d : DE B Wx X e f) (I : Inv X pins σ H s) (S : Sim B m h H) (sl : slots B m H ρ σ) {R : W → Store → List Addr → Hp → Prop} (p : PV B m H (f ρ h) R (XS B Wx σ)) {post : Value → Shared → Prop}
    (k : ∀ v u s' w h' m' H', Inv X pins σ H' s' → RelV v u → Sim B m' h' H' → Go m H m' H' → rep B m' H' w v → R w h' m' H' → post u s') : wpAny (model X.prog X.w) X.A (eval e X.env) post X.xe s := by
  refine thn (PE.run d pins s σ H (fun v H' => ∃ w h' m', Sim B m' h' H' ∧ Go m H m' H' ∧ rep B m' H' w v ∧ R w h' m' H') I ⟨m, h, ρ, S, sl, ?_⟩) fun u s' ⟨v, H', I', r, w, h', m', S', G', rw, q⟩ => k v u s' w h' m' H' I' r S' G' rw q
  cases q : f ρ h with
  | ok w h' =>
    rw [q] at p
    exact fun m' H' S' G' v r => ⟨w, h', m', S', G', r, p m' H' S' G'⟩
  | exc e' h' =>
    rw [q] at p
    exact p
  | bad =>
    rw [q] at p
    exact p
theorem DA.run (d : DA B Wx X es fa) (I : Inv X pins σ H s) (S : Sim B m h H) (sl : slots B m H ρ σ) {R : List W → Store → List Addr → Hp → Prop} (p : PV B m H (fa ρ h) R (XS B Wx σ)) (pos : Pos) {post : List Value → Shared → Prop}
    (k : ∀ vs us s' ws h' m' H', Inv X pins σ H' s' → Vals vs us → Sim B m' h' H' → Go m H m' H' → reps B m' H' ws vs → R ws h' m' H' → post us s') : wpAny (model X.prog X.w) X.A (spliced (backTo pos (starEach es X.env))) post X.xe s := by
  refine thn (PA.run d pos pins s σ H (fun v H' => ∃ w h' m', Sim B m' h' H' ∧ Go m H m' H' ∧ reps B m' H' w v ∧ R w h' m' H') I ⟨m, h, ρ, S, sl, ?_⟩) fun u s' ⟨v, H', I', r, w, h', m', S', G', rw, q⟩ => k v u s' w h' m' H' I' r S' G' rw q
  cases q : fa ρ h with
  | ok w h' =>
    rw [q] at p
    exact fun m' H' S' G' v r => ⟨w, h', m', S', G', r, p m' H' S' G'⟩
  | exc e' h' =>
    rw [q] at p
    exact p
  | bad =>
    rw [q] at p
    exact p
theorem DT.run (d : DT B Wx X e ft) (I : Inv X pins σ H s) (S : Sim B m h H) (sl : slots B m H ρ σ) {R : Bool → Store → List Addr → Hp → Prop} (p : PV B m H (ft ρ h) R (XS B Wx σ)) {post : Bool → Shared → Prop}
    (k : ∀ b s' h' m' H', Inv X pins σ H' s' → Sim B m' h' H' → Go m H m' H' → R b h' m' H' → post b s') : wpAny (model X.prog X.w) X.A (isTrue e X.env (eval e X.env)) post X.xe s := by
  refine thn (PT.run d pins s σ H (fun b H' => ∃ h' m', Sim B m' h' H' ∧ Go m H m' H' ∧ R b h' m' H') I ⟨m, h, ρ, S, sl, ?_⟩) fun u s' ⟨H', I', h', m', S', G', q⟩ => k u s' h' m' H' I' S' G' q
  cases q : ft ρ h with
  | ok w h' =>
    rw [q] at p
    exact fun m' H' S' G' => ⟨h', m', S', G', p m' H' S' G'⟩
  | exc e' h' =>
    rw [q] at p
    exact p
  | bad =>
    rw [q] at p
    exact p
/-- an operation on two values -/
def VOp2 (B : Base) (X : Cx) (F : Value → Value → Sem Value) (g : W → W → Store → Out W) : Prop :=
  ∀ (pins : List (Addr × Obj)) (s : Shared) (σ : St) (m : List Addr) (h : Store) (H : Hp) (wx wy : W) (x y : V) (v u : Value) (Q : VK) (E : Exn → List Addr → Hp → Prop), Inv X pins σ H s → RelV x v → RelV y u → Sim B m h H → rep B m H wx x → rep B m H wy y →
    PV B m H (g wx wy h) (QE B Q) E → (∀ e m' H', ¬ E e m' H') → wpAny (model X.prog X.w) X.A (F v u) (EP X pins σ Q) X.xe s
end
end Wv
end
section
set_option Elab.async false
set_option linter.all false
set_option maxRecDepth 100000
set_option maxHeartbeats 4000000
/-! Core C of ours: operations by values. -/
namespace Wv
open PySem PySem.Spec L2
open PyProof.Rows hiding St

/-- an answer that never raises -/
abbrev Opt := Option (W × Store)
def Out.of : Opt → Out W
  | some (w, h) => .ok w h
  | none => .bad
@[simp] theorem Out.of_some (w : W) (h : Store) : Out.of (some (w, h)) = .ok w h := rfl
@[simp] theorem Out.of_none : Out.of none = .bad := rfl
def PO (B : Base) (m : List Addr) (H : Hp) (o : Opt) (Q : VK) : Prop := match o with
  | some (w, h') => ∀ m' H', Sim B m' h' H' → Go m H m' H' → ∀ v, rep B m' H' w v → Q v H'
  | none => False
theorem PO.of {B : Base} {m : List Addr} {H : Hp} {o : Opt} {Q : VK} {E : Exn → List Addr → Hp → Prop} (p : PV B m H (Out.of o) (QE B Q) E) : PO B m H o Q := by
  cases o with
  | none => exact p
  | some q => exact p
def VOp (B : Base) (X : Cx) (F : Value → Value → Sem Value) (g : W → W → Store → Opt) : Prop :=
  ∀ (pins : List (Addr × Obj)) (s : Shared) (σ : St) (m : List Addr) (h : Store) (H : Hp) (wx wy : W) (x y : V) (v u : Value) (Q : VK), Inv X pins σ H s → RelV x v → RelV y u → Sim B m h H → rep B m H wx x → rep B m H wy y →
    PO B m H (g wx wy h) Q → wpAny (model X.prog X.w) X.A (F v u) (EP X pins σ Q) X.xe s

section
variable {B : Base} {m : List Addr} {H : Hp} {h : Store} {Q : VK} {w : W}
theorem PO.same {o : Opt} (p : PO B m H o Q) (e : o = some (w, h)) (S : Sim B m h H) {v : V} (r : rep B m H w v) : Q v H := by
  subst e
  exact p m H S Go.refl v r
theorem PO.tup {o : Opt} {ws : List W} (p : PO B m H o Q) (e : o = some (.tup ws, h)) (S : Sim B m h H) {vs : List V} (r : reps B m H ws vs) {a : Addr} (ha : H a = none) : Q (.ref a) (upd H a (.tup vs)) := by
  subst e
  refine p m _ (S.more ha) (Go.more ha) _ ?_
  unfold rep
  exact ⟨a, vs, rfl, .inl (.inl upd_same), (Go.more ha).reps r⟩
theorem PO.lst {o : Opt} {ws : List W} (p : PO B m H o Q) (e : o = some (.ref h.length, h ++ [.lst ws])) (S : Sim B m h H) {vs : List V} (r : reps B m H ws vs) {a : Addr} (ha : H a = none) : Q (.ref a) (upd H a (.lst vs)) := by
  subst e
  have z : obOk B (m ++ [a]) (upd H a (.lst vs)) (.lst ws) a := ⟨vs, upd_same, (Go.push (m := m) ha).reps r⟩
  refine p (m ++ [a]) _ (S.push ha z) (Go.push ha) _ ?_
  unfold rep
  exact ⟨a, rfl, by rw [List.getElem?_append_right (by rw [S.len]; exact Nat.le_refl _), S.len, Nat.sub_self]; rfl⟩
theorem rep.int_ {i : Int} {v : V} (r : rep B m H (.int i) v) : v = .int i := by unfold rep at r; exact r
theorem rep.bl_ {i : Bool} {v : V} (r : rep B m H (.bl i) v) : v = .bl i := by unfold rep at r; exact r
theorem rep.str_ {i : Str} {v : V} (r : rep B m H (.str i) v) : v = .str i := by unfold rep at r; exact r
theorem rep.non_ {v : V} (r : rep B m H .non v) : v = .non := by unfold rep at r; exact r
theorem rep.tup_ {ws : List W} {v : V} (r : rep B m H (.tup ws) v) : ∃ a vs, v = .ref a ∧ SqT B.K H a vs ∧ reps B m H ws vs := by unfold rep at r; exact r
theorem rep.ref_ {n : Nat} {v : V} (r : rep B m H (.ref n) v) : ∃ a, v = .ref a ∧ m[n]? = some a := by unfold rep at r; exact r
theorem rep.int (i : Int) : rep B m H (.int i) (.int i) := by unfold rep; rfl
theorem rep.bl (i : Bool) : rep B m H (.bl i) (.bl i) := by unfold rep; rfl
theorem rep.str (i : Str) : rep B m H (.str i) (.str i) := by unfold rep; rfl
theorem rep.non : rep B m H .non .non := by unfold rep; rfl
theorem rep.kls_ {ws : List W} {v : V} (r : rep B m H (.kls ws) v) : ∃ a vs, v = .ref a ∧ KL B.K H a vs ∧ reps B m H ws vs := by unfold rep at r; exact r
theorem KL.sq {K : PySem.W.Frag} {a : Addr} {xs : List V} (q : KL K H a xs) : SqL K H a xs := by
  rcases q with ⟨o, q⟩ | q
  · exact .inl (.inr ⟨o, q⟩)
  · exact .inr q
theorem own_at (S : Sim B m h H) {n : Nat} {a : Addr} {ws : List W} (ha : m[n]? = some a) (e : own? h n = some ws) : ∃ vs, H a = some (.lst vs) ∧ reps B m H ws vs := by
  unfold own? at e
  split at e
  · rename_i xs q
    cases e
    exact S.ob n a _ ha q
  · cases e
theorem lst_at (S : Sim B m h H) {n : Nat} {a : Addr} {ws : List W} (ha : m[n]? = some a) (e : lst? h n = some ws) : ∃ vs, SqL B.K H a vs ∧ reps B m H ws vs := by
  unfold lst? at e
  split at e
  · rename_i xs q
    cases e
    obtain ⟨vs, z, r⟩ := S.ob n a _ ha q
    exact ⟨vs, .inl (.inl z), r⟩
  · cases e
theorem toPys_all (K : PySem.W.Frag) {f : W → Option PyData} (hf : ∀ w v d, rep B m H w v → f w = some d → Dp K H v d) : ∀ {ws : List W} {vs : List V} {ds : List PyData}, reps B m H ws vs → toPys f ws = some ds → DpAll K H vs ds
  | [], vs, ds, r, e => by
    unfold reps at r
    cases e
    rw [r]
    exact .nil
  | w :: ws, vs, ds, r, e => by
    unfold reps at r
    obtain ⟨v, t, e1, z, zs⟩ := r
    unfold toPys at e
    split at e
    · rename_i d ds' q1 q2
      cases e
      rw [e1]
      exact .cons (hf _ _ _ z q1) (toPys_all K hf zs q2)
    · cases e
theorem toPy_dp (S : Sim B m h H) : ∀ (n : Nat) (w : W) (v : V) (d : PyData), rep B m H w v → toPy h n w = some d → Dp B.K H v d
  | n, .non, v, d, r, e => by
    unfold toPy at e
    cases e
    rw [r.non_]
    exact .non
  | n, .bl b, v, d, r, e => by
    unfold toPy at e
    cases e
    rw [r.bl_]
    exact .bl b
  | n, .int b, v, d, r, e => by
    unfold toPy at e
    cases e
    rw [r.int_]
    exact .int b
  | n, .str b, v, d, r, e => by
    unfold toPy at e
    cases e
    rw [r.str_]
    exact .str b
  | n + 1, .tup ws, v, d, r, e => by
    unfold toPy at e
    obtain ⟨a, vs, rfl, q, rs⟩ := r.tup_
    cases z : toPys (toPy h n) ws with
    | none => rw [z] at e; cases e
    | some ds =>
      rw [z] at e
      cases e
      exact .tup q (toPys_all B.K (fun w v d r e => toPy_dp S n w v d r e) rs z)
  | n + 1, .ref k, v, d, r, e => by
    unfold toPy at e
    obtain ⟨a, rfl, ha⟩ := r.ref_
    cases q : lst? h k with
    | none => rw [q] at e; cases e
    | some ws =>
      rw [q] at e
      dsimp only at e
      obtain ⟨vs, sq, rs⟩ := lst_at S ha q
      cases z : toPys (toPy h n) ws with
      | none => rw [z] at e; cases e
      | some ds =>
        rw [z] at e
        cases e
        exact .lst sq (toPys_all B.K (fun w v d r e => toPy_dp S n w v d r e) rs z)
  | 0, .tup ws, v, d, r, e => by unfold toPy at e; cases e
  | 0, .ref ws, v, d, r, e => by unfold toPy at e; cases e
  | 0, .glo ws, v, d, r, e => by unfold toPy at e; cases e
  | 0, .kls ws, v, d, r, e => by unfold toPy at e; cases e
  | n + 1, .kls ws, v, d, r, e => by unfold toPy at e; cases e
  | n + 1, .glo ws, v, d, r, e => by unfold toPy at e; cases e
theorem pyd_dp (S : Sim B m h H) {w : W} {v : V} {d : PyData} (r : rep B m H w v) (e : pyd h w = some d) : Dp B.K H v d ∧ SeqAt.shaped d = true := by
  unfold pyd at e
  split at e
  · rename_i d' q
    split at e
    · cases e
      exact ⟨toPy_dp S 66 w v d r q, by assumption⟩
    · cases e
  · cases e
end

/-! ### arithmetic -/
def mulOk (i j : Int) : Bool := decide (i.natAbs < 2 ^ 64) || (decide (j.natAbs < 2 ^ 64) || decide (i.natAbs.log2 + j.natAbs.log2 < 134217720))
theorem mulOk_ok {i j : Int} (e : mulOk i j = true) : IntMulOk i j := by
  unfold mulOk at e
  rcases Bool.or_eq_true_iff.mp e with e | e
  · have e := of_decide_eq_true e
    exact .of_left (intBits_le_64 (by omega) (by omega))
  · rcases Bool.or_eq_true_iff.mp e with e | e
    · have e := of_decide_eq_true e
      exact .of_right (intBits_le_64 (by omega) (by omega))
    · have e := of_decide_eq_true e
      have b : ∀ n : Int, Builtin.Int.intBits n ≤ n.natAbs.log2 + 1 := fun n => by
        unfold Builtin.Int.intBits
        split
        · exact Nat.zero_le _
        · exact Nat.le_refl _
      have b1 := b i
      have b2 := b j
      intro z
      have z2 := of_decide_eq_true (p := _ > _) (Bool.and_eq_true_iff.mp z).2
      have e3 : bitsLine = 134217728 := by decide
      rw [e3] at z2
      omega
def divOk (j : Int) : Bool := (decide (j ≠ 0) && decide (j.natAbs < 1073741824)) || (decide (0 < j) && decide (j.natAbs.log2 < 9000))
def opAdd : W → W → Store → Opt
  | .int i, .int j, h => some (.int (i + j), h)
  | .str x, .str y, h => if x.length + y.length ≤ 16777216 then some (.str (x ++ y), h) else none
  | .tup xs, .tup ys, h => if xs.length + ys.length ≤ 16777216 then some (.tup (xs ++ ys), h) else none
  | .ref a, .ref b, h => match own? h a, own? h b with
    | some xs, some ys => if xs.length + ys.length ≤ 16777216 then some (.ref h.length, h ++ [.lst (xs ++ ys)]) else none
    | _, _ => none
  | _, _, _ => none
def opSub : W → W → Store → Opt
  | .int i, .int j, h => some (.int (i - j), h)
  | _, _, _ => none
def opMul : W → W → Store → Opt
  | .int i, .int j, h => if mulOk i j = true then some (.int (i * j), h) else none
  | .tup xs, .int k, h => if k = 1 then some (.tup xs, h) else if xs.isEmpty = false ∧ 2 ≤ k ∧ k ≤ 1000 ∧ xs.length ≤ 1000 then some (.tup (List.replicate k.toNat xs).flatten, h) else none
  | .ref a, .int k, h => match own? h a with
    | some xs => if -(2 ^ 63) ≤ k ∧ k < 2 ^ 63 ∧ xs.length * k.toNat ≤ 16777216 then some (.ref h.length, h ++ [.lst (List.replicate k.toNat xs).flatten]) else none
    | none => none
  | _, _, _ => none
def opDiv (big : Bool) : W → W → Store → Opt
  | .int i, .int j, h => if divOk j = true ∨ (big = true ∧ j ≠ 0) then some (.int (i.fdiv j), h) else none
  | _, _, _ => none
def opMod : W → W → Store → Opt
  | .int i, .int j, h => if j ≠ 0 then some (.int (i.fmod j), h) else none
  | _, _, _ => none
def opPow : W → W → Store → Opt
  | .int i, .int j, h => if 0 ≤ j ∧ j ≤ 1000000 ∧ i.natAbs < 2 ^ 64 then some (.int (i ^ j.toNat), h) else none
  | _, _, _ => none
def opBin (big : Bool) : Operator → W → W → Store → Opt
  | .Pow => opPow
  | .Add => opAdd
  | .Sub => opSub
  | .Mult => opMul
  | .FloorDiv => opDiv big
  | .Mod => opMod
  | _ => fun _ _ _ => none

theorem reps.rep_flat {B : Base} {m : List Addr} {H : Hp} {ws : List W} {vs : List V} (r : reps B m H ws vs) : ∀ n : Nat, reps B m H (List.replicate n ws).flatten (List.replicate n vs).flatten
  | 0 => by simpa using reps.nil
  | n + 1 => by
    rw [List.replicate_succ, List.replicate_succ, List.flatten_cons, List.flatten_cons]
    exact r.append (reps.rep_flat r n)
section
variable {B : Base} {X : Cx}
theorem v_add (hK : X.K = B.K) : VOp B X (binaryOp .Add) opAdd := by
  intro pins s σ m h H wx wy x y v u Q I rx ry S r1 r2 p
  cases wx with
  | int i =>
    cases wy with
    | int j =>
      rw [r1.int_] at rx
      rw [r2.int_] at ry
      exact op_add pins s σ H _ _ v u Q I rx ry ⟨i, j, rfl, rfl, p.same rfl S (.int _)⟩
    | _ => exact p.elim
  | str i =>
    cases wy with
    | str j =>
      rw [r1.str_] at rx
      rw [r2.str_] at ry
      by_cases c : i.length + j.length ≤ 16777216
      · exact op_add_str pins s σ H _ _ v u Q I rx ry ⟨i, j, rfl, rfl, by rw [sizeLine_eq]; exact c, p.same (if_pos c) S (.str _)⟩
      · have z : opAdd (.str i) (.str j) h = none := if_neg c
        rw [z] at p
        exact p.elim
    | _ => exact p.elim
  | tup xs =>
    cases wy with
    | tup ys =>
      obtain ⟨a, vs, rfl, qa, ra⟩ := r1.tup_
      obtain ⟨b, us, rfl, qb, rb⟩ := r2.tup_
      by_cases c : xs.length + ys.length ≤ 16777216
      · have e : opAdd (.tup xs) (.tup ys) h = some (.tup (xs ++ ys), h) := if_pos c
        refine op_catA pins s σ H _ _ v u Q I rx ry ⟨a, b, vs, us, rfl, rfl, by rw [hK]; exact qa, by rw [hK]; exact qb, by rw [sizeLine_eq, ← ra.length, ← rb.length]; exact c, fun e0 => ?_, fun _ e0 => ?_, fun _ _ a' ha' => ?_⟩
        · have z : xs = [] := List.eq_nil_of_length_eq_zero (by rw [ra.length, e0]; rfl)
          subst z
          exact p.same e S r2
        · have z : ys = [] := List.eq_nil_of_length_eq_zero (by rw [rb.length, e0]; rfl)
          subst z
          rw [List.append_nil] at e
          exact p.same e S r1
        · exact p.tup e S (ra.append rb) ha'
      · have z : opAdd (.tup xs) (.tup ys) h = none := if_neg c
        rw [z] at p
        exact p.elim
    | _ => exact p.elim
  | ref i =>
    cases wy with
    | ref j =>
      obtain ⟨a, rfl, ha⟩ := r1.ref_
      obtain ⟨b, rfl, hb⟩ := r2.ref_
      cases q1 : own? h i with
      | none =>
        have z : opAdd (.ref i) (.ref j) h = none := by simp only [opAdd, q1]
        rw [z] at p
        exact p.elim
      | some xs =>
        cases q2 : own? h j with
        | none =>
          have z : opAdd (.ref i) (.ref j) h = none := by simp only [opAdd, q1, q2]
          rw [z] at p
          exact p.elim
        | some ys =>
          obtain ⟨vs, ea, ra⟩ := own_at S ha q1
          obtain ⟨us, eb, rb⟩ := own_at S hb q2
          by_cases c : xs.length + ys.length ≤ 16777216
          · have e : opAdd (.ref i) (.ref j) h = some (.ref h.length, h ++ [.lst (xs ++ ys)]) := by simp only [opAdd, q1, q2, if_pos c]
            exact op_cat pins s σ H _ _ v u Q I rx ry ⟨a, b, vs, us, rfl, rfl, ea, eb, by rw [sizeLine_eq, ← ra.length, ← rb.length]; exact c, fun a' ha' => p.lst e S (ra.append rb) ha'⟩
          · have z : opAdd (.ref i) (.ref j) h = none := by simp only [opAdd, q1, q2, if_neg c]
            rw [z] at p
            exact p.elim
    | _ => exact p.elim
  | _ => exact p.elim
theorem v_sub : VOp B X (binaryOp .Sub) opSub := by
  intro pins s σ m h H wx wy x y v u Q I rx ry S r1 r2 p
  cases wx with
  | int i =>
    cases wy with
    | int j =>
      rw [r1.int_] at rx
      rw [r2.int_] at ry
      exact op_sub pins s σ H _ _ v u Q I rx ry ⟨i, j, rfl, rfl, p.same rfl S (.int _)⟩
    | _ => exact p.elim
  | _ => exact p.elim
/-- t * 1 is t itself -/
theorem tuple_one (l : Addr) (items : Array Value) (n : Nat) (dd : Option Addr) (sl : Array (Option Value)) (u : Tok) : Meets (Builtin.«tuple.__mul__» ⟨[.ref l, .int 1 u], []⟩) (fun _ R s => s.heap.get? l = some { cls := .type "tuple", dict := dd, data := .seq items n, slots := sl } ∧ R (.ok (.ret (Value.ref l))) s) :=
  .of_wp fun prog w A R s hh => by
    obtain ⟨hp, g, d, tk, os⟩ := s; obtain ⟨hl, hh⟩ := hh
    have f1 := AutoSeq1.idx_int
    wp_walk using wpAny_loadPart' hl
    all_goals (repeat (first
      | (refine wpAny_ite_false (by simp) ?_; wp_walk using wpAny_loadPart' hl)
      | (refine wpAny_ite_true (by simp) ?_; wp_walk using wpAny_loadPart' hl)))
    all_goals exact ⟨_, rfl, hh⟩
theorem op_repT1 {X : Cx} {pins : List (Addr × Obj)} {s : Shared} {σ : St} {H : Hp} {l : Addr} {xs : List V} {v u : Value} {Q : VK} (I : Inv X pins σ H s) (rx : RelV (.ref l) v) (ry : RelV (.int 1) u) (hT : SqT X.K H l xs) (q : Q (.ref l) H) : wpAny (model X.prog X.w) X.A (binaryOp .Mult v u) (EP X pins σ Q) X.xe s := by
  cases rx; obtain ⟨t, rfl⟩ := ry
  obtain ⟨its, r, ⟨⟨cls, dd, data, sl⟩, ho, hc, n, hd⟩, hs⟩ := I.tuple hT
  simp only at hc hd; subst hc hd
  refine wpAny_binaryOp_repeat_ref (T := "tuple") (U := "int") (by decide) ⟨_, ho, rfl⟩ (fun s' => typeIs_int s' 1 t) noFill_tuple_mul F.fills_int_mul F.slot_int_rmul repeat_tuple F.slot_int_index.lookup ?_
  exact call_meets F.slot_int_rmul (typeIs_int s 1 t) F.entry_int_rmul (F.args_int_rmul_2 _ _) (int_rmul_tuple 1 t l its.toArray n dd sl) ⟨ho, rfl, ⟨_, ho, rfl⟩, call_meets F.slot_tuple_mul ⟨_, ho, rfl⟩ F.entry_tuple_mul (F.args_tuple_mul_2 _ _) (tuple_one l its.toArray n dd sl t) ⟨ho, .ref l, H, I, rfl, q⟩⟩
theorem op_mulX : OpR X (binaryOp .Mult) (rI (fun i j => IntMulOk i j) fun i j => .int (i * j)) := opI fun _ _ _ _ _ _ _ hc q => mul_int q hc
theorem v_mul (hK : X.K = B.K) : VOp B X (binaryOp .Mult) opMul := by
  intro pins s σ m h H wx wy x y v u Q I rx ry S r1 r2 p
  cases wx with
  | int i =>
    cases wy with
    | int j =>
      rw [r1.int_] at rx
      rw [r2.int_] at ry
      by_cases c : mulOk i j = true
      · exact op_mulX pins s σ H _ _ v u Q I rx ry ⟨i, j, rfl, rfl, mulOk_ok c, p.same (if_pos c) S (.int _)⟩
      · have z : opMul (.int i) (.int j) h = none := if_neg c
        rw [z] at p
        exact p.elim
    | _ => exact p.elim
  | tup xs =>
    cases wy with
    | int k =>
      rw [r2.int_] at ry
      obtain ⟨a, vs, rfl, qa, ra⟩ := r1.tup_
      by_cases c1 : k = 1
      · subst c1
        exact op_repT1 I rx ry (by rw [hK]; exact qa) (p.same (show opMul (.tup xs) (.int 1) h = some (.tup xs, h) by simp [opMul]) S r1)
      by_cases c : xs.isEmpty = false ∧ 2 ≤ k ∧ k ≤ 1000 ∧ xs.length ≤ 1000
      · have e : opMul (.tup xs) (.int k) h = some (.tup (List.replicate k.toNat xs).flatten, h) := (if_neg c1).trans (if_pos c)
        obtain ⟨c0, c5, c2, c3⟩ := c
        refine op_repT pins s σ H _ _ v u Q I rx ry ⟨a, k, vs, rfl, rfl, by rw [hK]; exact qa, fun e0 => ?_, c5, c2, by rw [← ra.length]; exact c3, fun a' ha' => p.tup e S (ra.rep_flat _) ha'⟩
        have z0 : xs = [] := List.eq_nil_of_length_eq_zero (by rw [ra.length, e0]; rfl)
        rw [z0] at c0
        cases c0
      · have z : opMul (.tup xs) (.int k) h = none := (if_neg c1).trans (if_neg c)
        rw [z] at p
        exact p.elim
    | _ => exact p.elim
  | ref i =>
    cases wy with
    | int k =>
      rw [r2.int_] at ry
      obtain ⟨a, rfl, ha⟩ := r1.ref_
      cases q1 : own? h i with
      | none =>
        have z : opMul (.ref i) (.int k) h = none := by simp only [opMul, q1]
        rw [z] at p
        exact p.elim
      | some xs =>
        obtain ⟨vs, ea, ra⟩ := own_at S ha q1
        by_cases c : -(2 ^ 63) ≤ k ∧ k < 2 ^ 63 ∧ xs.length * k.toNat ≤ 16777216
        · have e : opMul (.ref i) (.int k) h = some (.ref h.length, h ++ [.lst (List.replicate k.toNat xs).flatten]) := by simp only [opMul, q1, if_pos c]
          obtain ⟨c0, c1, c2⟩ := c
          exact op_rep pins s σ H _ _ v u Q I rx ry ⟨a, k, vs, rfl, rfl, ea, c0, c1, by rw [sizeLine_eq, ← ra.length]; exact c2, fun a' ha' => p.lst e S (ra.rep_flat _) ha'⟩
        · have z : opMul (.ref i) (.int k) h = none := by simp only [opMul, q1, if_neg c]
          rw [z] at p
          exact p.elim
    | _ => exact p.elim
  | _ => exact p.elim
/-- room for a division of great ints -/
def BigRoom (big : Bool) (X : Cx) : Prop := big = true → ∀ (pins : List (Addr × Obj)) (σ : St) (H : Hp) (s : Shared), Inv X pins σ H s → PySem.PylongRoom (model X.prog X.w) X.A s
theorem v_div {big : Bool} (hb : BigRoom big X) : VOp B X (binaryOp .FloorDiv) (opDiv big) := by
  intro pins s σ m h H wx wy x y v u Q I rx ry S r1 r2 p
  cases wx with
  | int i =>
    cases wy with
    | int j =>
      rw [r1.int_] at rx
      rw [r2.int_] at ry
      obtain ⟨t1, rfl⟩ := rx
      obtain ⟨t2, rfl⟩ := ry
      by_cases c : divOk j = true ∨ (big = true ∧ j ≠ 0)
      · have q : Q (.int (i.fdiv j)) H := p.same (if_pos c) S (.int _)
        have hj : j ≠ 0 ∧ (Builtin.divisionGoesByPylong i j = false ∨ PySem.PylongRoom (model X.prog X.w) X.A s) := by
          rcases c with c | ⟨c1, c2⟩
          · unfold divOk at c
            rcases Bool.or_eq_true_iff.mp c with c | c
            · obtain ⟨d1, d2⟩ := Bool.and_eq_true_iff.mp c
              exact ⟨of_decide_eq_true d1, .inl (PyProof.noPylong_small (of_decide_eq_true d2))⟩
            · obtain ⟨d1, d2⟩ := Bool.and_eq_true_iff.mp c
              have d1 := of_decide_eq_true d1
              exact ⟨by omega, .inl (PyProof.noPylong_of_log2 (of_decide_eq_true d2))⟩
          · exact ⟨c2, .inr (hb c1 pins σ H s I)⟩
        exact floordiv_int hj.1 ⟨.int (i.fdiv j), H, I.tok _, ⟨_, rfl⟩, q⟩ hj.2
      · have z : opDiv big (.int i) (.int j) h = none := if_neg c
        rw [z] at p
        exact p.elim
    | _ => exact p.elim
  | _ => exact p.elim
theorem v_mod : VOp B X (binaryOp .Mod) opMod := by
  intro pins s σ m h H wx wy x y v u Q I rx ry S r1 r2 p
  cases wx with
  | int i =>
    cases wy with
    | int j =>
      rw [r1.int_] at rx
      rw [r2.int_] at ry
      by_cases c : j ≠ 0
      · exact op_modN pins s σ H _ _ v u Q I rx ry ⟨i, j, rfl, rfl, c, p.same (if_pos c) S (.int _)⟩
      · have z : opMod (.int i) (.int j) h = none := if_neg c
        rw [z] at p
        exact p.elim
    | _ => exact p.elim
  | _ => exact p.elim
theorem v_pow : VOp B X (binaryOp .Pow) opPow := by
  intro pins s σ m h H wx wy x y v u Q I rx ry S r1 r2 p
  cases wx with
  | int i =>
    cases wy with
    | int j =>
      rw [r1.int_] at rx
      rw [r2.int_] at ry
      by_cases c : 0 ≤ j ∧ j ≤ 1000000 ∧ i.natAbs < 2 ^ 64
      · exact op_pow pins s σ H _ _ v u Q I rx ry ⟨i, j, rfl, rfl, c, p.same (if_pos c) S (.int _)⟩
      · have z : opPow (.int i) (.int j) h = none := if_neg c
        rw [z] at p
        exact p.elim
    | _ => exact p.elim
  | _ => exact p.elim
theorem v_bin {big : Bool} (hb : BigRoom big X) (hK : X.K = B.K) (op : Operator) : VOp B X (binaryOp op) (opBin big op) := by
  cases op with
  | Add => exact v_add hK
  | Sub => exact v_sub
  | Mult => exact v_mul hK
  | FloorDiv => exact v_div hb
  | Mod => exact v_mod
  | Pow => exact v_pow
  | _ => exact fun _ _ _ _ _ _ _ _ _ _ _ _ _ _ _ _ _ _ _ p => p.elim
end
end Wv
end
section
set_option Elab.async false
set_option linter.all false
set_option maxRecDepth 100000
set_option maxHeartbeats 4000000
/-! Core D of ours: comparisons, truth, items, slices by values. -/
namespace Wv
open PySem PySem.Spec L2
open PyProof.Rows hiding St

/-! ### comparisons -/
def flatW : W → Option V
  | .non => some .non
  | .bl b => some (.bl b)
  | .int i => some (.int i)
  | .str x => some (.str x)
  | _ => none
def flatWs : List W → Option (List V)
  | [] => some []
  | w :: ws => match flatW w, flatWs ws with
    | some v, some vs => some (v :: vs)
    | _, _ => none
def cmpEq (a b : W) (h : Store) : Option Bool := match pyd h a, pyd h b with
  | some d, some e => some (PyData.eqv d e)
  | _, _ => none
def cmpIn (a b : W) (h : Store) : Option Bool := match b with
  | .str y => match a with
    | .str x => some (!(Builtin.Str.occurrences y x 0 y.length 1).isEmpty)
    | _ => none
  | .tup ws => match flatW a, flatWs ws with
    | some v, some vs => some (inV v vs)
    | _, _ => none
  | .ref _ => match pyd h a, pyd h b with
    | some d, some (.list ds) => some (ds.any fun z => PyData.eqv z d)
    | _, _ => none
  | _ => none
def isNon : W → Option Bool
  | .non => some true
  | .glo _ => none
  | .kls _ => none
  | _ => some false
def cmpIs (a b : W) : Option Bool := match b with
  | .non => isNon a
  | _ => none
def cmpLt : W → W → Option Bool
  | .int i, .int j => some (decide (i < j))
  | .str x, .str y => some (decide (x.cps.toList < y.cps.toList))
  | _, _ => none
def cmpLe : W → W → Option Bool
  | .int i, .int j => some (decide (i ≤ j))
  | .str x, .str y => some (!decide (y.cps.toList < x.cps.toList))
  | _, _ => none
def cmpGt : W → W → Option Bool
  | .int i, .int j => some (decide (j < i))
  | .str x, .str y => some (decide (y.cps.toList < x.cps.toList))
  | _, _ => none
def cmpGe : W → W → Option Bool
  | .int i, .int j => some (decide (j ≤ i))
  | .str x, .str y => some (!decide (x.cps.toList < y.cps.toList))
  | _, _ => none
def cmpW : CmpOp → W → W → Store → Option Bool
  | .Eq => cmpEq
  | .NotEq => fun a b h => (cmpEq a b h).map (!·)
  | .Lt => fun a b _ => cmpLt a b
  | .LtE => fun a b _ => cmpLe a b
  | .Gt => fun a b _ => cmpGt a b
  | .GtE => fun a b _ => cmpGe a b
  | .Is => fun a b _ => cmpIs a b
  | .IsNot => fun a b _ => (cmpIs a b).map (!·)
  | .In => cmpIn
  | .NotIn => fun a b h => (cmpIn a b h).map (!·)
/-- a comparison by values: the heap stays -/
def VCmp (B : Base) (X : Cx) (op : CmpOp) : Prop :=
  ∀ (pins : List (Addr × Obj)) (s : Shared) (σ : St) (m : List Addr) (h : Store) (H : Hp) (wx wy : W) (x y : V) (v u : Value) (Q : VK) (b : Bool), Inv X pins σ H s → RelV x v → RelV y u → Sim B m h H → rep B m H wx x → rep B m H wy y →
    cmpW op wx wy h = some b → Q (.bl b) H → wpAny (model X.prog X.w) X.A (compareOp op v u) (EP X pins σ Q) X.xe s
section
variable {B : Base} {X : Cx} {m : List Addr} {H : Hp} {h : Store}
theorem flatW_rep {w : W} {v x : V} (e : flatW w = some v) (r : rep B m H w x) : x = v ∧ flatV v = true := by
  cases w with
  | non => cases e; exact ⟨r.non_, rfl⟩
  | bl b => cases e; exact ⟨r.bl_, rfl⟩
  | int b => cases e; exact ⟨r.int_, rfl⟩
  | str b => cases e; exact ⟨r.str_, rfl⟩
  | _ => cases e
theorem flatWs_rep : ∀ {ws : List W} {vs xs : List V}, flatWs ws = some vs → reps B m H ws xs → xs = vs ∧ vs.all flatV = true
  | [], vs, xs, e, r => by
    unfold reps at r
    cases e
    exact ⟨r, rfl⟩
  | w :: ws, vs, xs, e, r => by
    unfold reps at r
    obtain ⟨v, t, e1, z, zs⟩ := r
    unfold flatWs at e
    split at e
    · rename_i v' vs' q1 q2
      cases e
      obtain ⟨a1, a2⟩ := flatW_rep q1 z
      obtain ⟨b1, b2⟩ := flatWs_rep q2 zs
      rw [e1, a1, b1]
      refine ⟨rfl, ?_⟩
      rw [List.all_cons, a2, b2]
      rfl
    · cases e
theorem isNon_rep {w : W} {v : V} {b : Bool} (e : isNon w = some b) (r : rep B m H w v) : b = decide (v = .non) := by
  cases w with
  | non => cases e; rw [r.non_]; rfl
  | bl b => cases e; rw [r.bl_]; rfl
  | int b => cases e; rw [r.int_]; rfl
  | str b => cases e; rw [r.str_]; rfl
  | tup b => cases e; obtain ⟨a, vs, rfl, _⟩ := r.tup_; rfl
  | ref b => cases e; obtain ⟨a, rfl, _⟩ := r.ref_; rfl
  | glo x => cases e
  | kls x => cases e
theorem cmpEq_rep {wx wy : W} {x y : V} {b : Bool} (S : Sim B m h H) (r1 : rep B m H wx x) (r2 : rep B m H wy y) (e : cmpEq wx wy h = some b) :
    ∃ d e, Dp B.K H x d ∧ Dp B.K H y e ∧ SeqAt.shaped d = true ∧ SeqAt.shaped e = true ∧ b = PyData.eqv d e := by
  unfold cmpEq at e
  split at e
  · rename_i d1 d2 q1 q2
    cases e
    obtain ⟨a1, a2⟩ := pyd_dp S r1 q1
    obtain ⟨b1, b2⟩ := pyd_dp S r2 q2
    exact ⟨d1, d2, a1, b1, a2, b2, rfl⟩
  · cases e
theorem v_eq (hK : X.K = B.K) (hu : X.A.units + 65 < cLine) : VCmp B X .Eq := by
  intro pins s σ m h H wx wy x y v u Q b I rx ry S r1 r2 e q
  obtain ⟨d1, d2, a1, b1, a2, b2, rfl⟩ := cmpEq_rep S r1 r2 e
  exact op_eqD (by omega) pins s σ H _ _ v u Q I rx ry ⟨d1, d2, by rw [hK]; exact a1, by rw [hK]; exact b1, a2, b2, q⟩
theorem map_not {o : Option Bool} {b : Bool} (e : o.map (!·) = some b) : o = some (!b) := by
  cases o with
  | none => cases e
  | some c =>
    simp only [Option.map_some, Option.some.injEq] at e
    subst e
    simp
theorem v_ne (hK : X.K = B.K) (hu : X.A.units + 65 < cLine) : VCmp B X .NotEq := by
  intro pins s σ m h H wx wy x y v u Q b I rx ry S r1 r2 e q
  obtain ⟨d1, d2, a1, b1, a2, b2, eb⟩ := cmpEq_rep S r1 r2 (map_not e)
  exact op_neD (by omega) pins s σ H _ _ v u Q I rx ry ⟨d1, d2, by rw [hK]; exact a1, by rw [hK]; exact b1, a2, b2, by rw [← eb, Bool.not_not]; exact q⟩
theorem cmpIs_non {wx wy : W} {b : Bool} (e : cmpIs wx wy = some b) : wy = .non ∧ isNon wx = some b := by
  unfold cmpIs at e
  split at e
  · exact ⟨rfl, e⟩
  · cases e
theorem v_is : VCmp B X .Is := by
  intro pins s σ m h H wx wy x y v u Q b I rx ry S r1 r2 e q
  obtain ⟨e1, e2⟩ := cmpIs_non e
  subst e1
  have z := isNon_rep e2 r1
  exact op_isN pins s σ H _ _ v u Q I rx ry ⟨r2.non_, by rw [← z]; exact q⟩
theorem v_isnot : VCmp B X .IsNot := by
  intro pins s σ m h H wx wy x y v u Q b I rx ry S r1 r2 e q
  obtain ⟨e1, e2⟩ := cmpIs_non (map_not e)
  subst e1
  have z := isNon_rep e2 r1
  exact op_notN pins s σ H _ _ v u Q I rx ry ⟨r2.non_, by rw [← z, Bool.not_not]; exact q⟩
theorem cmpIn_rep {wx wy : W} {x y : V} {b : Bool} (S : Sim B m h H) (r1 : rep B m H wx x) (r2 : rep B m H wy y) (e : cmpIn wx wy h = some b) :
    (∃ i j, x = .str i ∧ y = .str j ∧ b = !(Builtin.Str.occurrences j i 0 j.length 1).isEmpty) ∨
    (∃ p xs, y = .ref p ∧ SqT B.K H p xs ∧ flatV x = true ∧ xs.all flatV = true ∧ b = inV x xs) ∨
    (∃ d ds, Dp B.K H x d ∧ Dp B.K H y (.list ds) ∧ SeqAt.shaped d = true ∧ SeqAt.shaped (.list ds) = true ∧ b = ds.any fun z => PyData.eqv z d) := by
  unfold cmpIn at e
  split at e
  · rename_i j
    split at e
    · rename_i i
      cases e
      exact .inl ⟨i, j, r1.str_, r2.str_, rfl⟩
    · cases e
  · rename_i ws
    split at e
    · rename_i v vs q1 q2
      cases e
      obtain ⟨a, xs, e1, qa, ra⟩ := r2.tup_
      obtain ⟨a1, a2⟩ := flatW_rep q1 r1
      obtain ⟨b1, b2⟩ := flatWs_rep q2 ra
      subst a1
      subst b1
      exact .inr (.inl ⟨a, _, e1, qa, a2, b2, rfl⟩)
    · cases e
  · split at e
    · rename_i d ds q1 q2
      cases e
      obtain ⟨a1, a2⟩ := pyd_dp S r1 q1
      obtain ⟨b1, b2⟩ := pyd_dp S r2 q2
      exact .inr (.inr ⟨d, ds, a1, b1, a2, b2, rfl⟩)
    · cases e
  · cases e
theorem v_in (hK : X.K = B.K) (hu : X.A.units + 65 < cLine) : VCmp B X .In := by
  intro pins s σ m h H wx wy x y v u Q b I rx ry S r1 r2 e q
  rcases cmpIn_rep S r1 r2 e with ⟨i, j, e1, e2, eb⟩ | ⟨p, xs, e1, qa, f1, f2, eb⟩ | ⟨d, ds, a1, b1, a2, b2, eb⟩
  · exact op_in_str pins s σ H _ _ v u Q I rx ry ⟨i, j, e1, e2, by rw [← eb]; exact q⟩
  · exact op_in_seq pins s σ H _ _ v u Q I rx ry ⟨p, xs, e1, .inr (by rw [hK]; exact qa), f1, f2, by rw [if_neg (by decide), ← eb]; exact q⟩
  · exact op_inD hu pins s σ H _ _ v u Q I rx ry ⟨d, ds, by rw [hK]; exact a1, by rw [hK]; exact b1, a2, b2, by rw [← eb]; exact q⟩
theorem v_notin (hK : X.K = B.K) (hu : X.A.units + 65 < cLine) : VCmp B X .NotIn := by
  intro pins s σ m h H wx wy x y v u Q b I rx ry S r1 r2 e q
  rcases cmpIn_rep S r1 r2 (map_not e) with ⟨i, j, e1, e2, eb⟩ | ⟨p, xs, e1, qa, f1, f2, eb⟩ | ⟨d, ds, a1, b1, a2, b2, eb⟩
  · exact op_notIn_str pins s σ H _ _ v u Q I rx ry ⟨i, j, e1, e2, by rw [← eb, Bool.not_not]; exact q⟩
  · exact op_notIn_seq pins s σ H _ _ v u Q I rx ry ⟨p, xs, e1, .inr (by rw [hK]; exact qa), f1, f2, by rw [if_pos rfl, ← eb, Bool.not_not]; exact q⟩
  · exact op_notInD hu pins s σ H _ _ v u Q I rx ry ⟨d, ds, by rw [hK]; exact a1, by rw [hK]; exact b1, a2, b2, by rw [← eb, Bool.not_not]; exact q⟩
theorem v_lt : VCmp B X .Lt := by
  intro pins s σ m h H wx wy x y v u Q b I rx ry S r1 r2 e q
  cases wx with
  | int i =>
    cases wy with
    | int j =>
      cases e
      rw [r1.int_] at rx
      rw [r2.int_] at ry
      exact op_lt pins s σ H _ _ v u Q I rx ry ⟨i, j, rfl, rfl, q⟩
    | _ => cases e
  | str i =>
    cases wy with
    | str j =>
      cases e
      rw [r1.str_] at rx
      rw [r2.str_] at ry
      exact op_lt_str pins s σ H _ _ v u Q I rx ry ⟨i, j, rfl, rfl, q⟩
    | _ => cases e
  | _ => cases e
theorem v_le : VCmp B X .LtE := by
  intro pins s σ m h H wx wy x y v u Q b I rx ry S r1 r2 e q
  cases wx with
  | int i =>
    cases wy with
    | int j =>
      cases e
      rw [r1.int_] at rx
      rw [r2.int_] at ry
      exact op_le pins s σ H _ _ v u Q I rx ry ⟨i, j, rfl, rfl, q⟩
    | _ => cases e
  | str i =>
    cases wy with
    | str j =>
      cases e
      rw [r1.str_] at rx
      rw [r2.str_] at ry
      exact op_le_str pins s σ H _ _ v u Q I rx ry ⟨i, j, rfl, rfl, q⟩
    | _ => cases e
  | _ => cases e
theorem v_gt : VCmp B X .Gt := by
  intro pins s σ m h H wx wy x y v u Q b I rx ry S r1 r2 e q
  cases wx with
  | int i =>
    cases wy with
    | int j =>
      cases e
      rw [r1.int_] at rx
      rw [r2.int_] at ry
      exact op_gt pins s σ H _ _ v u Q I rx ry ⟨i, j, rfl, rfl, q⟩
    | _ => cases e
  | str i =>
    cases wy with
    | str j =>
      cases e
      rw [r1.str_] at rx
      rw [r2.str_] at ry
      exact op_gt_str pins s σ H _ _ v u Q I rx ry ⟨i, j, rfl, rfl, q⟩
    | _ => cases e
  | _ => cases e
theorem v_ge : VCmp B X .GtE := by
  intro pins s σ m h H wx wy x y v u Q b I rx ry S r1 r2 e q
  cases wx with
  | int i =>
    cases wy with
    | int j =>
      cases e
      rw [r1.int_] at rx
      rw [r2.int_] at ry
      exact op_ge pins s σ H _ _ v u Q I rx ry ⟨i, j, rfl, rfl, q⟩
    | _ => cases e
  | str i =>
    cases wy with
    | str j =>
      cases e
      rw [r1.str_] at rx
      rw [r2.str_] at ry
      exact op_ge_str pins s σ H _ _ v u Q I rx ry ⟨i, j, rfl, rfl, q⟩
    | _ => cases e
  | _ => cases e
theorem v_cmp (hK : X.K = B.K) (hu : X.A.units + 65 < cLine) (op : CmpOp) : VCmp B X op := by
  cases op with
  | Eq => exact v_eq hK hu
  | NotEq => exact v_ne hK hu
  | Lt => exact v_lt
  | LtE => exact v_le
  | Gt => exact v_gt
  | GtE => exact v_ge
  | Is => exact v_is
  | IsNot => exact v_isnot
  | In => exact v_in hK hu
  | NotIn => exact v_notin hK hu
end

/-! ### truth -/
def truW (h : Store) : W → Option Bool
  | .non => some false
  | .bl b => some b
  | .int i => some (i != 0)
  | .str y => if y.length ≤ 16777216 then some ((y.length : Int) != 0) else none
  | .tup ws => some (!ws.isEmpty)
  | .ref n => match h[n]? with
    | some (.lst ws) => some (!ws.isEmpty)
    | some (.dic kvs) => some (!kvs.isEmpty)
    | none => none
  | .glo _ => none
  | .kls _ => none
theorem reps.isEmpty {B : Base} {m : List Addr} {H : Hp} {ws : List W} {vs : List V} (r : reps B m H ws vs) : vs.isEmpty = ws.isEmpty := by
  cases ws with
  | nil => unfold reps at r; rw [r]; rfl
  | cons w ws =>
    unfold reps at r
    obtain ⟨v, t, e, _⟩ := r
    rw [e]
    rfl
theorem repk.isEmpty {B : Base} {m : List Addr} {H : Hp} {ws : List (Key × W)} {vs : List (Key × V)} (r : repk B m H ws vs) : vs.isEmpty = ws.isEmpty := by
  cases ws with
  | nil => unfold repk at r; rw [r]; rfl
  | cons w ws =>
    unfold repk at r
    obtain ⟨v, t, e, _⟩ := r
    rw [e]
    rfl
theorem truW_ok {B : Base} {m : List Addr} {H : Hp} {h : Store} {w : W} {v : V} {b : Bool} (S : Sim B m h H) (r : rep B m H w v) (e : truW h w = some b) : TruV B.K v H b := by
  cases w with
  | non => cases e; rw [r.non_]; rfl
  | bl b => cases e; rw [r.bl_]; rfl
  | int b => cases e; rw [r.int_]; rfl
  | str y =>
    rw [r.str_]
    simp only [truW] at e
    split at e
    · rename_i c
      cases e
      exact ⟨by rw [sizeLine_eq]; exact c, rfl⟩
    · cases e
  | tup ws =>
    cases e
    obtain ⟨a, vs, rfl, qa, ra⟩ := r.tup_
    exact .inr (.inl ⟨vs, qa, by rw [ra.isEmpty]⟩)
  | ref n =>
    obtain ⟨a, rfl, ha⟩ := r.ref_
    simp only [truW] at e
    split at e
    · rename_i ws q
      cases e
      obtain ⟨vs, z, ra⟩ := S.ob n a _ ha q
      exact .inl ⟨vs, .inl (.inl z), by rw [ra.isEmpty]⟩
    · rename_i ws q
      cases e
      obtain ⟨vs, z, ra⟩ := S.ob n a _ ha q
      exact .inr (.inr ⟨vs, z, by rw [ra.isEmpty]⟩)
    · cases e
  | glo x => cases e
  | kls x => cases e

/-! ### items, slices -/
def ixW (h : Store) : W → W → Option W
  | .tup ws, .int i => atI ws i
  | .ref n, .int i => match lst? h n with
    | some ws => atI ws i
    | none => none
  | .str z, .int i => if z.length ≤ 16777216 then (atI z.cps.toList i).map fun c => .str ⟨#[c]⟩ else none
  | _, _ => none
theorem atI_rep {B : Base} {m : List Addr} {H : Hp} {ws : List W} {vs : List V} {i : Int} {w : W} (r : reps B m H ws vs) (e : atI ws i = some w) : ∃ v, atI vs i = some v ∧ rep B m H w v := by
  unfold atI at e ⊢
  rw [← r.length]
  cases q : ixN ws.length i with
  | none => rw [q] at e; cases e
  | some j =>
    rw [q] at e
    exact r.get e
def VIx (B : Base) (X : Cx) : Prop :=
  ∀ (value slice : Expr) (pins : List (Addr × Obj)) (s : Shared) (σ : St) (m : List Addr) (h : Store) (H : Hp) (wx wy : W) (x y : V) (v u : Value) (Q : VK) (w : W), Inv X pins σ H s → RelV x v → RelV y u → Sim B m h H → rep B m H wx x → rep B m H wy y →
    ixW h wx wy = some w → (∀ z, rep B m H w z → Q z H) → subscripted slice false v u = operate [v, u] (getItem v u) → wpAny (model X.prog X.w) X.A (subscriptTail value slice v u) (EP X pins σ Q) X.xe s
theorem v_ix {B : Base} {X : Cx} (hK : X.K = B.K) : VIx B X := by
  intro value slice pins s σ m h H wx wy x y v u Q w I rx ry S r1 r2 e q hs
  cases wx with
  | tup ws =>
    cases wy with
    | int i =>
      obtain ⟨a, vs, rfl, qa, ra⟩ := r1.tup_
      rw [r2.int_] at ry
      obtain ⟨z, e1, r⟩ := atI_rep ra e
      exact ix_tup value slice pins s σ H _ _ v u Q I rx ry ⟨a, vs, i, z, rfl, rfl, by rw [hK]; exact qa, e1, q z r⟩ hs
    | _ => cases e
  | ref n =>
    cases wy with
    | int i =>
      obtain ⟨a, rfl, ha⟩ := r1.ref_
      rw [r2.int_] at ry
      cases q1 : lst? h n with
      | none => simp only [ixW, q1] at e; cases e
      | some ws =>
        simp only [ixW, q1] at e
        obtain ⟨vs, qa, ra⟩ := lst_at S ha q1
        obtain ⟨z, e1, r⟩ := atI_rep ra e
        exact ix_list value slice pins s σ H _ _ v u Q I rx ry ⟨a, vs, i, z, rfl, rfl, by rw [hK]; exact qa, e1, q z r⟩ hs
    | _ => cases e
  | str z =>
    cases wy with
    | int i =>
      rw [r1.str_] at rx
      rw [r2.int_] at ry
      by_cases c : z.length ≤ 16777216
      · simp only [ixW, if_pos c] at e
        cases q1 : atI z.cps.toList i with
        | none => rw [q1] at e; cases e
        | some cc =>
          rw [q1] at e
          cases e
          exact ix_str value slice pins s σ H _ _ v u Q I rx ry ⟨z, i, cc, rfl, rfl, by rw [sizeLine_eq]; exact c, q1, q _ (.str _)⟩ hs
      · simp only [ixW, if_neg c] at e
        cases e
    | _ => cases e
  | _ => cases e
def cutW (xs : List W) (lo hi : Option Int) : List W := (xs.drop (HT.sIx xs.length 0 lo)).take (HT.sIx xs.length xs.length hi - HT.sIx xs.length 0 lo)
theorem cutW_rep {B : Base} {m : List Addr} {H : Hp} {ws : List W} {vs : List V} (r : reps B m H ws vs) (lo hi : Option Int) : reps B m H (cutW ws lo hi) (cutV vs lo hi) := by
  unfold cutW cutV
  rw [r.length]
  exact (r.drop _).take _
def slW (h : Store) (w : W) (lo hi : Option Int) : Opt := match w with
  | .tup ws => some (.tup (cutW ws lo hi), h)
  | .ref n => match lst? h n with
    | some ws => some (.ref h.length, h ++ [.lst (cutW ws lo hi)])
    | none => none
  | .str z => if z.length ≤ 16777216 then some (.str (cutS z lo hi), h) else none
  | .kls ws => some (.ref h.length, h ++ [.lst (cutW ws lo hi)])
  | _ => none
theorem cutW_whole {ws : List W} {lo hi : Option Int} (e : HT.sIx ws.length 0 lo = 0 ∧ HT.sIx ws.length ws.length hi = ws.length) : cutW ws lo hi = ws := by
  unfold cutW
  rw [e.1, e.2]
  simp
/-- slices, by values -/
def VSl (B : Base) (X : Cx) : Prop :=
  ∀ (m : List Addr) (h : Store) (w : W), SlR X (fun x lo hi H Q => Sim B m h H ∧ rep B m H w x ∧ PO B m H (slW h w lo hi) Q)
theorem v_sl {B : Base} {X : Cx} (hK : X.K = B.K) : VSl B X := by
  intro m h w pins s σ H x v vl vu lo hi sl Q I rx hs pl pu p
  obtain ⟨S, r, p⟩ := p
  cases w with
  | tup ws =>
    obtain ⟨a, vs, rfl, qa, ra⟩ := r.tup_
    refine sl_tupA pins s σ H _ v vl vu lo hi sl Q I rx hs pl pu ⟨a, vs, rfl, by rw [hK]; exact qa, fun e => ?_, fun _ b hb => p.tup rfl S (cutW_rep ra lo hi) hb⟩
    rw [← ra.length] at e
    have z : slW h (.tup ws) lo hi = some (.tup ws, h) := by
      show some (W.tup (cutW ws lo hi), h) = _
      rw [cutW_whole e]
    exact p.same z S r
  | ref n =>
    obtain ⟨a, rfl, ha⟩ := r.ref_
    cases q1 : lst? h n with
    | none =>
      simp only [slW, q1] at p
      exact p.elim
    | some ws =>
      obtain ⟨vs, qa, ra⟩ := lst_at S ha q1
      have z : slW h (.ref n) lo hi = some (.ref h.length, h ++ [.lst (cutW ws lo hi)]) := by simp only [slW, q1]
      exact sl_list pins s σ H _ v vl vu lo hi sl Q I rx hs pl pu ⟨a, vs, rfl, by rw [hK]; exact qa, fun b hb => p.lst z S (cutW_rep ra lo hi) hb⟩
  | str z =>
    rw [r.str_] at rx
    by_cases c : z.length ≤ 16777216
    · exact sl_str pins s σ H _ v vl vu lo hi sl Q I rx hs pl pu ⟨z, rfl, by rw [sizeLine_eq]; exact c, p.same (if_pos c) S (.str _)⟩
    · have e : slW h (.str z) lo hi = none := if_neg c
      rw [e] at p
      exact p.elim
  | kls ws =>
    obtain ⟨a, vs, rfl, qa, ra⟩ := r.kls_
    exact sl_list pins s σ H _ v vl vu lo hi sl Q I rx hs pl pu ⟨a, vs, rfl, by rw [hK]; exact qa.sq, fun b hb => p.lst (show slW h (.kls ws) lo hi = some (.ref h.length, h ++ [.lst (cutW ws lo hi)]) from rfl) S (cutW_rep ra lo hi) hb⟩
  | _ => exact p.elim
end Wv
end
section
set_option Elab.async false
set_option linter.all false
set_option maxRecDepth 100000
set_option maxHeartbeats 4000000
/-! Core E of ours: simple expressions as plain functions, and that they are followed. -/
namespace Wv
open PySem PySem.Spec L2
open PyProof.Rows hiding St

/-! ### plain combinators -/
def cVal (w : W) : Den := fun _ h => .ok w h
def cVar (i : Nat) : Den := fun ρ h => match ρ[i]? with
  | some (some w) => .ok w h
  | _ => .bad
def cBin (big : Bool) (op : Operator) (f g : Den) : Den := fun ρ h => (f ρ h).bind fun x h1 => (g ρ h1).bind fun y h2 => Out.of (opBin big op x y h2)
def ofB (o : Option Bool) (h : Store) : Out W := match o with
  | some b => .ok (.bl b) h
  | none => .bad
def ofT (o : Option Bool) (h : Store) : Out Bool := match o with
  | some b => .ok b h
  | none => .bad
def cNot (f : Den) : Den := fun ρ h => (f ρ h).bind fun x h1 => ofB ((truW h1 x).map (!·)) h1
def negW : W → Store → Opt
  | .int i, h => some (.int (-i), h)
  | _, _ => none
def cNeg (f : Den) : Den := fun ρ h => (f ρ h).bind fun x h1 => Out.of (negW x h1)
def cAnd (f g : Den) : Den := fun ρ h => (f ρ h).bind fun x h1 => match truW h1 x with
  | some true => g ρ h1
  | some false => .ok x h1
  | none => .bad
def cOr (f g : Den) : Den := fun ρ h => (f ρ h).bind fun x h1 => match truW h1 x with
  | some true => .ok x h1
  | some false => g ρ h1
  | none => .bad
def cCmp (op : CmpOp) (f g : Den) : Den := fun ρ h => (f ρ h).bind fun x h1 => (g ρ h1).bind fun y h2 => ofB (cmpW op x y h2) h2
def cChain (op op' : CmpOp) (f g k : Den) : Den := fun ρ h => (f ρ h).bind fun x h1 => (g ρ h1).bind fun y h2 => match cmpW op x y h2 with
  | some true => (k ρ h2).bind fun z h3 => ofB (cmpW op' y z h3) h3
  | some false => .ok (.bl false) h2
  | none => .bad
def cIf (t : DenT) (f g : Den) : Den := fun ρ h => (t ρ h).bind fun b h1 => if b = true then f ρ h1 else g ρ h1
def cNil : DenA := fun _ h => .ok [] h
def cCons (f : Den) (g : DenA) : DenA := fun ρ h => (f ρ h).bind fun x h1 => (g ρ h1).bind fun xs h2 => .ok (x :: xs) h2
def cTup (f : DenA) : Den := fun ρ h => (f ρ h).bind fun xs h1 => if xs.length ≤ 16777216 then .ok (.tup xs) h1 else .bad
def cIx (f g : Den) : Den := fun ρ h => (f ρ h).bind fun x h1 => (g ρ h1).bind fun y h2 => match ixW h2 x y with
  | some w => .ok w h2
  | none => .bad
abbrev DenO := Rho → Store → Out (Option Int)
def cNoPart : DenO := fun _ h => .ok none h
def cPart (f : Den) : DenO := fun ρ h => (f ρ h).bind fun x h1 => match x with
  | .int i => .ok (some i) h1
  | _ => .bad
def cSl (f : Den) (lo hi : DenO) : Den := fun ρ h => (f ρ h).bind fun x h1 => (lo ρ h1).bind fun l h2 => (hi ρ h2).bind fun u h3 => Out.of (slW h3 x l u)
/-! tests -/
def tcVal (f : Den) : DenT := fun ρ h => (f ρ h).bind fun x h1 => ofT (truW h1 x) h1
def tcNot (f : DenT) : DenT := fun ρ h => (f ρ h).bind fun b h1 => .ok (!b) h1
def tcAnd (f g : DenT) : DenT := fun ρ h => (f ρ h).bind fun b h1 => if b = true then g ρ h1 else .ok false h1
def tcOr (f g : DenT) : DenT := fun ρ h => (f ρ h).bind fun b h1 => if b = true then .ok true h1 else g ρ h1
def tcCmp (op : CmpOp) (f g : Den) : DenT := fun ρ h => (f ρ h).bind fun x h1 => (g ρ h1).bind fun y h2 => ofT (cmpW op x y h2) h2
def tcChain (op op' : CmpOp) (f g k : Den) : DenT := fun ρ h => (f ρ h).bind fun x h1 => (g ρ h1).bind fun y h2 => match cmpW op x y h2 with
  | some true => (k ρ h2).bind fun z h3 => ofT (cmpW op' y z h3) h3
  | some false => .ok false h2
  | none => .bad
def dBad : Den := fun _ _ => .bad
def dtBad : DenT := fun _ _ => .bad
def daBad : DenA := fun _ _ => .bad

/-! ### they are followed -/
section
variable {B : Base} {Wx : WX} {X : Cx} {a b c : Expr} {es : List Expr} {f g k : Den} {fa : DenA} {t t' : DenT} {pos : Pos}
theorem ret_ {pins : List (Addr × Obj)} {s : Shared} {σ : St} {H : Hp} {m : List Addr} {h : Store} {Q : VK} {E : Exn → List Addr → Hp → Prop} {w : W} {v : V} {u : Value} (I : Inv X pins σ H s) (r : RelV v u) (S : Sim B m h H) (rw' : rep B m H w v) (p : PV B m H (.ok w h) (QE B Q) E) : EP X pins σ Q u s :=
  ⟨v, H, I, r, p.here S v rw'⟩
theorem de_bad : DE B Wx X a dBad := ⟨fun _ _ _ _ _ _ ⟨_, _, _, _, _, p⟩ => p.elim⟩
theorem dt_bad : DT B Wx X a dtBad := ⟨fun _ _ _ _ _ _ ⟨_, _, _, _, _, p⟩ => p.elim⟩
theorem da_bad : DA B Wx X es daBad := ⟨fun _ _ _ _ _ _ _ ⟨_, _, _, _, _, p⟩ => p.elim⟩
theorem de_var {i : Nat} {x : Str} (hN : X.N[i]? = some x) (hv : Vis X.env.scope x) (hd : (x == ("__debug__" : Str)) = false) (hcd : (x == ("__classdict__" : Str)) = false) : DE B Wx X (.Name x pos) (cVar i) := by
  refine ⟨fun pins s σ H Q I ⟨m, h, ρ, S, sl, p⟩ => ?_⟩
  unfold cVar at p
  split at p
  · rename_i w e
    obtain ⟨v, e1, r⟩ := sl.2 i w e
    exact (pe_var hN hv hd hcd).run pins s σ H Q I ⟨v, e1, p.here S v r⟩
  · exact p.elim
theorem de_val {w : W} {v : V} (hp : PE X a (tC v)) (hr : ∀ m H, rep B m H w v) : DE B Wx X a (cVal w) := by
  refine ⟨fun pins s σ H Q I ⟨m, h, ρ, S, sl, p⟩ => ?_⟩
  exact hp.run pins s σ H Q I (p.here S v (hr m H))
theorem de_bin (hK : X.K = B.K) {big : Bool} (hb : BigRoom big X) {op : Operator} (da : DE B Wx X a f) (db : DE B Wx X b g) : DE B Wx X (.BinOp a op b pos) (cBin big op f g) := by
  refine ⟨fun pins s σ H Q I ⟨m, h, ρ, S, sl, p⟩ => ?_⟩
  refine wpAny_BinOp (da.run I S sl p.bind fun x v s1 wx h1 m1 H1 I1 r1 S1 G1 q1 p1 => ?_)
  refine db.run I1 S1 (sl.go G1) p1.bind fun y u s2 wy h2 m2 H2 I2 r2 S2 G2 q2 p2 => ?_
  exact v_bin hb hK op pins s2 σ m2 h2 H2 wx wy x y v u Q I2 r1 r2 S2 (G2.rep q1) q2 (PO.of p2)
theorem de_not (hK : X.K = B.K) (da : DE B Wx X a f) : DE B Wx X (.UnaryOp .Not a pos) (cNot f) := by
  refine ⟨fun pins s σ H Q I ⟨m, h, ρ, S, sl, p⟩ => ?_⟩
  refine UnaryOp_ (da.run I S sl p.bind fun x v s1 wx h1 m1 H1 I1 r1 S1 G1 q1 p1 => ?_)
  cases e : truW h1 wx with
  | none =>
    rw [e] at p1
    exact p1.elim
  | some b =>
    rw [e] at p1
    have z := truW_ok S1 q1 e
    rw [← hK] at z
    exact not_of (thn (tru_ok pins s1 σ H1 x v (fun c H2 => c = b ∧ H2 = H1) I1 r1 ⟨b, z, rfl, rfl⟩) fun c s2 ⟨H2, I2, e1, e2⟩ => by
      subst e1 e2
      exact ret_ I2 (v := .bl _) rfl S1 (.bl _) p1)
theorem de_neg (da : DE B Wx X a f) : DE B Wx X (.UnaryOp .USub a pos) (cNeg f) := by
  refine ⟨fun pins s σ H Q I ⟨m, h, ρ, S, sl, p⟩ => ?_⟩
  refine UnaryOp_ (da.run I S sl p.bind fun x v s1 wx h1 m1 H1 I1 r1 S1 G1 q1 p1 => ?_)
  cases wx with
  | int i =>
    rw [q1.int_] at r1
    exact un_neg pins s1 σ H1 _ v Q I1 r1 ⟨i, rfl, p1.here S1 _ (.int _)⟩
  | _ => exact p1.elim
theorem de_one {op : BoolOp} (da : DE B Wx X a f) : DE B Wx X (.BoolOp op [a] pos) f := pe_one da
theorem de_and (hK : X.K = B.K) (da : DE B Wx X a f) (db : DE B Wx X (.BoolOp .And (b :: es) pos) g) : DE B Wx X (.BoolOp .And (a :: b :: es) pos) (cAnd f g) := by
  refine ⟨fun pins s σ H Q I ⟨m, h, ρ, S, sl, p⟩ => ?_⟩
  refine BoolOp_and (da.run I S sl p.bind fun x v s1 wx h1 m1 H1 I1 r1 S1 G1 q1 p1 => ?_)
  cases e : truW h1 wx with
  | none =>
    rw [e] at p1
    exact p1.elim
  | some c =>
    rw [e] at p1
    have z := truW_ok S1 q1 e
    rw [← hK] at z
    refine thn (tru_ok pins s1 σ H1 x v (fun c' H2 => c' = c ∧ H2 = H1) I1 r1 ⟨c, z, rfl, rfl⟩) fun c' s2 ⟨H2, I2, e1, e2⟩ => ?_
    subst e1 e2
    cases c' with
    | true => exact db.run I2 S1 (sl.go G1) p1 fun _ _ _ _ _ _ _ I3 r3 S3 G3 q3 p3 => ⟨_, _, I3, r3, p3 _ q3⟩
    | false => exact ret_ I2 r1 S1 q1 p1
theorem de_or (hK : X.K = B.K) (da : DE B Wx X a f) (db : DE B Wx X (.BoolOp .Or (b :: es) pos) g) : DE B Wx X (.BoolOp .Or (a :: b :: es) pos) (cOr f g) := by
  refine ⟨fun pins s σ H Q I ⟨m, h, ρ, S, sl, p⟩ => ?_⟩
  refine BoolOp_or (da.run I S sl p.bind fun x v s1 wx h1 m1 H1 I1 r1 S1 G1 q1 p1 => ?_)
  cases e : truW h1 wx with
  | none =>
    rw [e] at p1
    exact p1.elim
  | some c =>
    rw [e] at p1
    have z := truW_ok S1 q1 e
    rw [← hK] at z
    refine thn (tru_ok pins s1 σ H1 x v (fun c' H2 => c' = c ∧ H2 = H1) I1 r1 ⟨c, z, rfl, rfl⟩) fun c' s2 ⟨H2, I2, e1, e2⟩ => ?_
    subst e1 e2
    cases c' with
    | false => exact db.run I2 S1 (sl.go G1) p1 fun _ _ _ _ _ _ _ I3 r3 S3 G3 q3 p3 => ⟨_, _, I3, r3, p3 _ q3⟩
    | true => exact ret_ I2 r1 S1 q1 p1
/-- two values compared, in place -/
theorem cmp_here (hK : X.K = B.K) (hu : X.A.units + 65 < cLine) {op : CmpOp} {pins : List (Addr × Obj)} {s : Shared} {σ : St} {H : Hp} {m : List Addr} {h : Store} {Q : VK} {E : Exn → List Addr → Hp → Prop} {wx wy : W} {x y : V} {v u : Value} (I : Inv X pins σ H s) (rx : RelV x v) (ry : RelV y u) (S : Sim B m h H) (qx : rep B m H wx x) (qy : rep B m H wy y)
    (p : PV B m H (ofB (cmpW op wx wy h) h) (QE B Q) E) : wpAny (model X.prog X.w) X.A (compareOp op v u) (EP X pins σ Q) X.xe s := by
  cases e : cmpW op wx wy h with
  | none =>
    rw [e] at p
    exact p.elim
  | some b =>
    rw [e] at p
    exact v_cmp hK hu op pins s σ m h H wx wy x y v u Q b I rx ry S qx qy e (p.here S _ (.bl b))
theorem de_cmp (hK : X.K = B.K) (hu : X.A.units + 65 < cLine) {op : CmpOp} (da : DE B Wx X a f) (db : DE B Wx X b g) (hm : behindInMarks op b = false) : DE B Wx X (.Compare a [op] [b] pos) (cCmp op f g) := by
  refine ⟨fun pins s σ H Q I ⟨m, h, ρ, S, sl, p⟩ => ?_⟩
  refine wpAny_Compare1 (da.run I S sl p.bind fun x v s1 wx h1 m1 H1 I1 r1 S1 G1 q1 p1 => ?_) hm
  refine db.run I1 S1 (sl.go G1) p1.bind fun y u s2 wy h2 m2 H2 I2 r2 S2 G2 q2 p2 => ?_
  exact cmp_here hK hu I2 r1 r2 S2 (G2.rep q1) q2 p2
theorem de_chain (hK : X.K = B.K) (hu : X.A.units + 65 < cLine) {op op' : CmpOp} (da : DE B Wx X a f) (db : DE B Wx X b g) (dc : DE B Wx X c k) (hm : lastMarks [op, op'] [b, c] = false) : DE B Wx X (.Compare a [op, op'] [b, c] pos) (cChain op op' f g k) := by
  refine ⟨fun pins s σ H Q I ⟨m, h, ρ, S, sl, p⟩ => ?_⟩
  refine Compare_chain (da.run I S sl p.bind fun x v s1 wx h1 m1 H1 I1 r1 S1 G1 q1 p1 => ?_) hm
  refine chain_link (db.run I1 S1 (sl.go G1) p1.bind fun y u s2 wy h2 m2 H2 I2 r2 S2 G2 q2 p2 => ?_)
  cases e : cmpW op wx wy h2 with
  | none =>
    rw [e] at p2
    exact p2.elim
  | some d =>
    rw [e] at p2
    refine thn (v_cmp hK hu op pins s2 σ m2 h2 H2 wx wy x y v u (fun z H3 => z = .bl d ∧ H3 = H2) d I2 r1 r2 S2 (G2.rep q1) q2 e ⟨rfl, rfl⟩) fun cv s3 ⟨z, H3, I3, r3, e1, e2⟩ => ?_
    subst e1 e2
    cases (show cv = Value.bool d from r3)
    refine wpAny_truthy_bool ?_
    cases d with
    | true =>
      refine ite_tt (chain_last (dc.run I3 S2 ((sl.go G1).go G2) p2.bind fun z u2 s4 wz h4 m4 H4 I4 r4 S4 G4 q4 p4 => ?_))
      exact cmp_here hK hu I4 r2 r4 S4 (G4.rep q2) q4 p4
    | false => exact ite_ff (ret_ I3 (v := .bl false) rfl S2 (.bl false) p2)
theorem de_if (dt : DT B Wx X c t) (da : DE B Wx X a f) (db : DE B Wx X b g) : DE B Wx X (.IfExp c a b pos) (cIf t f g) := by
  refine ⟨fun pins s σ H Q I ⟨m, h, ρ, S, sl, p⟩ => ?_⟩
  refine wpAny_IfExp (dt.run I S sl p.bind fun d s1 h1 m1 H1 I1 S1 G1 p1 => ?_)
  cases d with
  | true => exact da.run I1 S1 (sl.go G1) p1 fun _ _ _ _ _ _ _ I3 r3 S3 G3 q3 p3 => ⟨_, _, I3, r3, p3 _ q3⟩
  | false => exact db.run I1 S1 (sl.go G1) p1 fun _ _ _ _ _ _ _ I3 r3 S3 G3 q3 p3 => ⟨_, _, I3, r3, p3 _ q3⟩
theorem da_nil : DA B Wx X [] cNil := ⟨fun pos pins s σ H Q I ⟨m, h, ρ, S, sl, p⟩ => Calls.spliced_nil ⟨[], H, I, .nil, p.here S [] .nil⟩⟩
theorem da_cons (da : DE B Wx X a f) (db : DA B Wx X es fa) (hs : starEach (a :: es) X.env = (false, eval a X.env) :: starEach es X.env) : DA B Wx X (a :: es) (cCons f fa) := by
  refine ⟨fun pos pins s σ H Q I ⟨m, h, ρ, S, sl, p⟩ => ?_⟩
  rw [hs]
  refine Calls.spliced_cons (da.run I S sl p.bind fun x v s1 wx h1 m1 H1 I1 r1 S1 G1 q1 p1 => ?_)
  refine db.run I1 S1 (sl.go G1) p1.bind pos fun xs us s2 ws h2 m2 H2 I2 r2 S2 G2 q2 p2 => ?_
  exact ⟨x :: xs, H2, I2, .cons r1 r2, p2.here S2 _ (.cons (G2.rep q1) q2)⟩
theorem de_tup {x1 : Nat} (da : DA B Wx X es fa) : DE B Wx X (.Tuple es x1 pos) (cTup fa) := by
  refine ⟨fun pins s σ H Q I ⟨m, h, ρ, S, sl, p⟩ => ?_⟩
  refine (pe_tup (x1 := x1) (pos := pos) da).run pins s σ H Q I ⟨m, h, ρ, S, sl, p.bind.imp fun ws h1 m1 H1 S1 G1 p1 xs r1 => ?_⟩
  by_cases c : ws.length ≤ 16777216
  · rw [if_pos c] at p1
    refine ⟨by rw [sizeLine_eq, ← r1.length]; exact c, fun a ha => ?_⟩
    exact PO.tup (o := some (.tup ws, h1)) (PO.of (E := XS B Wx σ) p1) rfl S1 r1 ha
  · rw [if_neg c] at p1
    exact p1.elim
theorem de_ix (hK : X.K = B.K) (da : DE B Wx X a f) (db : DE B Wx X b g) (hs : PlainIx b) : DE B Wx X (.Subscript a b pos) (cIx f g) := by
  refine ⟨fun pins s σ H Q I ⟨m, h, ρ, S, sl, p⟩ => ?_⟩
  refine Subscript_ (da.run I S sl p.bind fun x v s1 wx h1 m1 H1 I1 r1 S1 G1 q1 p1 => ?_)
  refine db.run I1 S1 (sl.go G1) p1.bind fun y u s2 wy h2 m2 H2 I2 r2 S2 G2 q2 p2 => ?_
  cases e : ixW h2 wx wy with
  | none =>
    rw [e] at p2
    exact p2.elim
  | some w =>
    rw [e] at p2
    exact v_ix hK a b pins s2 σ m2 h2 H2 wx wy x y v u Q w I2 r1 r2 S2 (G2.rep q1) q2 e (p2.here S2) (hs _ _)
/-- a part of a slice -/
def tDO (B : Base) (Wx : WX) (f : DenO) : TO := fun σ H Q => ∃ m h ρ, Sim B m h H ∧ slots B m H ρ σ ∧ PV B m H (f ρ h) (fun o _ _ H' => Q o H') (XS B Wx σ)
def DO (B : Base) (Wx : WX) (X : Cx) (e : Option Expr) (f : DenO) : Prop := L2.PO X e (tDO B Wx f)
theorem do_none : DO B Wx X none cNoPart := ⟨fun pins s σ H Q I ⟨m, h, ρ, S, sl, p⟩ => po_none.run pins s σ H Q I (p.here S)⟩
theorem do_some (da : DE B Wx X a f) : DO B Wx X (some a) (cPart f) := by
  refine ⟨fun pins s σ H Q I ⟨m, h, ρ, S, sl, p⟩ => ?_⟩
  refine (po_some da).run pins s σ H Q I ⟨m, h, ρ, S, sl, p.bind.imp fun w h1 m1 H1 S1 G1 p1 v r => ?_⟩
  cases w with
  | int i => exact ⟨i, r.int_, p1.here S1⟩
  | _ => exact p1.elim
theorem de_sl (hK : X.K = B.K) {lo hi : Option Expr} {fl fh : DenO} {p2 : Pos} (da : DE B Wx X a f) (dl : DO B Wx X lo fl) (dh : DO B Wx X hi fh) : DE B Wx X (.Subscript a (.Slice lo hi none p2) pos) (cSl f fl fh) := by
  refine ⟨fun pins s σ H Q I ⟨m, h, ρ, S, sl, p⟩ => ?_⟩
  refine (pe_slice (r := fun x lo hi H Q => ∃ (m : List Addr) (h : Store) (w : W), Sim B m h H ∧ rep B m H w x ∧ PO B m H (slW h w lo hi) Q) (fun pins s σ H x v vl vu lo hi sl Q I rx hs pl pu ⟨m, h, w, q⟩ => v_sl hK m h w pins s σ H x v vl vu lo hi sl Q I rx hs pl pu q) da dl dh).run pins s σ H Q I ⟨m, h, ρ, S, sl, p.bind.imp fun w h1 m1 H1 S1 G1 p1 v r => ?_⟩
  refine ⟨m1, h1, ρ, S1, sl.go G1, p1.bind.imp fun l h2 m2 H2 S2 G2 p2 => ?_⟩
  refine ⟨m2, h2, ρ, S2, (sl.go G1).go G2, p2.bind.imp fun u h3 m3 H3 S3 G3 p3 => ?_⟩
  exact ⟨m3, h3, w, S3, G3.rep (G2.rep r), PO.of p3⟩

/-! tests -/
theorem dt_val (hK : X.K = B.K) (da : DE B Wx X a f) (he : ∀ whole, isTrue a X.env whole = (do let v ← whole; standAt a.pos; holding [v] (truthy v))) : DT B Wx X a (tcVal f) := by
  refine ⟨fun pins s σ H Q I ⟨m, h, ρ, S, sl, p⟩ => ?_⟩
  refine isTrue_plain (da.run I S sl p.bind fun x v s1 wx h1 m1 H1 I1 r1 S1 G1 q1 p1 => ?_) (he _)
  cases e : truW h1 wx with
  | none =>
    rw [e] at p1
    exact p1.elim
  | some b =>
    rw [e] at p1
    have z := truW_ok S1 q1 e
    rw [← hK] at z
    exact tru_ok pins s1 σ H1 x v Q I1 r1 ⟨b, z, p1.here S1⟩
theorem dt_not (da : DT B Wx X a t) : DT B Wx X (.UnaryOp .Not a pos) (tcNot t) := by
  refine ⟨fun pins s σ H Q I ⟨m, h, ρ, S, sl, p⟩ => ?_⟩
  exact isTrue_not (da.run I S sl p.bind fun b s1 h1 m1 H1 I1 S1 G1 p1 => ⟨H1, I1, p1.here S1⟩)
/-- and, or as tests, whatever the whole -/
def DW (B : Base) (Wx : WX) (X : Cx) (e : Expr) (f : DenT) : Prop := PW X e (tDT B Wx f)
theorem DW.dt (d : DW B Wx X a t) : DT B Wx X a t := PW.pt d
theorem dw_one {op : BoolOp} (da : DT B Wx X a t) : DW B Wx X (.BoolOp op [a] pos) t := by
  cases op with
  | And => exact pw_and1 da
  | Or => exact pw_or1 da
theorem dw_and (da : DT B Wx X a t) (db : DW B Wx X (.BoolOp .And (b :: es) pos) t') : DW B Wx X (.BoolOp .And (a :: b :: es) pos) (tcAnd t t') := by
  refine ⟨fun wh pins s σ H Q I ⟨m, h, ρ, S, sl, p⟩ => ?_⟩
  refine (pw_and da db).run wh pins s σ H Q I ⟨m, h, ρ, S, sl, p.bind.imp fun c h1 m1 H1 S1 G1 p1 => ?_⟩
  cases c with
  | true => exact ⟨m1, h1, ρ, S1, sl.go G1, p1⟩
  | false => exact p1.here S1
theorem dw_or (da : DT B Wx X a t) (db : DW B Wx X (.BoolOp .Or (b :: es) pos) t') : DW B Wx X (.BoolOp .Or (a :: b :: es) pos) (tcOr t t') := by
  refine ⟨fun wh pins s σ H Q I ⟨m, h, ρ, S, sl, p⟩ => ?_⟩
  refine (pw_or da db).run wh pins s σ H Q I ⟨m, h, ρ, S, sl, p.bind.imp fun c h1 m1 H1 S1 G1 p1 => ?_⟩
  cases c with
  | true => exact p1.here S1
  | false => exact ⟨m1, h1, ρ, S1, sl.go G1, p1⟩
theorem cmp_test (hK : X.K = B.K) (hu : X.A.units + 65 < cLine) {op : CmpOp} {pins : List (Addr × Obj)} {s : Shared} {σ : St} {H : Hp} {m : List Addr} {h : Store} {Q : Bool → Hp → Prop} {E : Exn → List Addr → Hp → Prop} {wx wy : W} {x y : V} {v u : Value} (I : Inv X pins σ H s) (rx : RelV x v) (ry : RelV y u) (S : Sim B m h H) (qx : rep B m H wx x) (qy : rep B m H wy y)
    (p : PV B m H (ofT (cmpW op wx wy h) h) (QT Q) E) : wpAny (model X.prog X.w) X.A (compareOp op v u) (fun c s' => wpAny (model X.prog X.w) X.A (truthy c) (TP X pins σ Q) X.xe s') X.xe s := by
  cases e : cmpW op wx wy h with
  | none =>
    rw [e] at p
    exact p.elim
  | some b =>
    rw [e] at p
    refine thn (v_cmp hK hu op pins s σ m h H wx wy x y v u (fun z H3 => z = .bl b ∧ H3 = H) b I rx ry S qx qy e ⟨rfl, rfl⟩) fun cv s3 ⟨z, H3, I3, r3, e1, e2⟩ => ?_
    subst e1 e2
    cases (show cv = Value.bool b from r3)
    exact wpAny_truthy_bool ⟨_, I3, p.here S⟩
theorem dt_cmp (hK : X.K = B.K) (hu : X.A.units + 65 < cLine) {op : CmpOp} (da : DE B Wx X a f) (db : DE B Wx X b g) (hm : behindInMarks op b = false) : DT B Wx X (.Compare a [op] [b] pos) (tcCmp op f g) := by
  refine ⟨fun pins s σ H Q I ⟨m, h, ρ, S, sl, p⟩ => ?_⟩
  refine wpAny_isTrue_Compare1 (da.run I S sl p.bind fun x v s1 wx h1 m1 H1 I1 r1 S1 G1 q1 p1 => ?_) hm
  refine db.run I1 S1 (sl.go G1) p1.bind fun y u s2 wy h2 m2 H2 I2 r2 S2 G2 q2 p2 => ?_
  exact cmp_test hK hu I2 r1 r2 S2 (G2.rep q1) q2 p2
theorem dt_chain (hK : X.K = B.K) (hu : X.A.units + 65 < cLine) {op op' : CmpOp} (da : DE B Wx X a f) (db : DE B Wx X b g) (dc : DE B Wx X c k) (hm : lastMarks [op, op'] [b, c] = false) : DT B Wx X (.Compare a [op, op'] [b, c] pos) (tcChain op op' f g k) := by
  refine ⟨fun pins s σ H Q I ⟨m, h, ρ, S, sl, p⟩ => ?_⟩
  refine isTrue_chain (da.run I S sl p.bind fun x v s1 wx h1 m1 H1 I1 r1 S1 G1 q1 p1 => ?_) hm
  refine test_link (db.run I1 S1 (sl.go G1) p1.bind fun y u s2 wy h2 m2 H2 I2 r2 S2 G2 q2 p2 => ?_)
  cases e : cmpW op wx wy h2 with
  | none =>
    rw [e] at p2
    exact p2.elim
  | some d =>
    rw [e] at p2
    refine thn (v_cmp hK hu op pins s2 σ m2 h2 H2 wx wy x y v u (fun z H3 => z = .bl d ∧ H3 = H2) d I2 r1 r2 S2 (G2.rep q1) q2 e ⟨rfl, rfl⟩) fun cv s3 ⟨z, H3, I3, r3, e1, e2⟩ => ?_
    subst e1 e2
    cases (show cv = Value.bool d from r3)
    refine wpAny_truthy_bool ?_
    cases d with
    | true =>
      refine ite_tt (test_last (dc.run I3 S2 ((sl.go G1).go G2) p2.bind fun z u2 s4 wz h4 m4 H4 I4 r4 S4 G4 q4 p4 => ?_))
      exact cmp_test hK hu I4 r2 r4 S4 (G4.rep q2) q4 p4
    | false => exact ite_ff ⟨_, I3, p2.here S2⟩
end
end Wv
end
section
set_option Elab.async false
set_option linter.all false
set_option maxRecDepth 100000
set_option maxHeartbeats 4000000
/-! Core F of ours: targets, what is walked, fresh lists, comprehensions. -/
namespace Wv
open PySem PySem.Spec L2
open PyProof.Rows hiding St

/-! ### targets -/
inductive Tgt where
  | nm (i : Nat)
  | tp (ts : List Tgt)
mutual
def Tgt.slots : Tgt → List Nat
  | .nm i => [i]
  | .tp ts => Tgt.slotsAll ts
def Tgt.slotsAll : List Tgt → List Nat
  | [] => []
  | t :: ts => t.slots ++ Tgt.slotsAll ts
end
mutual
def Tgt.bind : Tgt → W → Rho → Option Rho
  | .nm i, w, ρ => some (ρ.set i (some w))
  | .tp ts, .tup ws, ρ => Tgt.bindAll ts ws ρ
  | .tp _, _, _ => none
def Tgt.bindAll : List Tgt → List W → Rho → Option Rho
  | [], [], ρ => some ρ
  | t :: ts, w :: ws, ρ => (t.bind w ρ).bind (Tgt.bindAll ts ws)
  | _, _, _ => none
end
theorem Tgt.bindAll_length : ∀ {ts : List Tgt} {ws : List W} {ρ ρ' : Rho}, Tgt.bindAll ts ws ρ = some ρ' → ws.length = ts.length
  | [], [], _, _, _ => rfl
  | t :: ts, w :: ws, ρ, ρ', e => by
    unfold Tgt.bindAll at e
    cases q : t.bind w ρ with
    | none => rw [q] at e; cases e
    | some r =>
      rw [q] at e
      rw [List.length_cons, List.length_cons, Tgt.bindAll_length (ρ := r) e]
  | [], _ :: _, _, _, e => by unfold Tgt.bindAll at e; cases e
  | _ :: _, [], _, _, e => by unfold Tgt.bindAll at e; cases e
def tDG (B : Base) (T : Tgt) : TG := fun v σ H Q => ∃ m h ρ w ρ', Sim B m h H ∧ slots B m H ρ σ ∧ rep B m H w v ∧ T.bind w ρ = some ρ' ∧ ∀ σ', slots B m H ρ' σ' → (∀ i, i ∉ T.slots → σ'[i]? = σ[i]?) → Q σ' H
def DG (B : Base) (X : Cx) (e : Expr) (T : Tgt) : Prop := PG X e (tDG B T)
def tDGs (B : Base) (ts : List Tgt) : TGs := fun vs σ H Q => ∃ m h ρ ws ρ', Sim B m h H ∧ slots B m H ρ σ ∧ reps B m H ws vs ∧ Tgt.bindAll ts ws ρ = some ρ' ∧ ∀ σ', slots B m H ρ' σ' → (∀ i, i ∉ Tgt.slotsAll ts → σ'[i]? = σ[i]?) → Q σ' H
def DGs (B : Base) (X : Cx) (es : List Expr) (ts : List Tgt) : Prop := PGs X es (tDGs B ts)
def isStar : Expr → Bool
  | .Starred _ _ => true
  | _ => false
theorem assignEach_cons {e : Expr} {es : List Expr} {env : Env} (h : isStar e = false) : assignEach (e :: es) env = (false, assign e env) :: assignEach es env := by
  cases e <;> first | rfl | cases h
theorem starEach_cons {e : Expr} {es : List Expr} {env : Env} (h : isStar e = false) : starEach (e :: es) env = (false, eval e env) :: starEach es env := by
  cases e <;> first | rfl | cases h
section
variable {B : Base} {X : Cx} {e : Expr} {es : List Expr} {t : Tgt} {ts : List Tgt} {pos : Pos}
theorem dg_name {i : Nat} {x : Str} (hN : X.N.Nodup) (hi : X.N[i]? = some x) (hx : Loc X.env.scope x) (hf : X.fn x = true ∨ X.env.scope.names.lookup x = some .local) : DG B X (.Name x pos) (.nm i) := by
  refine ⟨fun pins s σ H v u Q I r ⟨m, h, ρ, w, ρ', S, sl, q, e, k⟩ => ?_⟩
  unfold Tgt.bind at e
  cases e
  refine (pg_name hN hi hx hf).run pins s σ H v u Q I r (k _ (sl.set i q) fun j hj => ?_)
  refine List.getElem?_set_ne fun z => hj ?_
  unfold Tgt.slots
  simp [z]
theorem dgs_nil : DGs B X [] [] := by
  refine ⟨fun pins s σ H vs us Q I r ⟨m, h, ρ, ws, ρ', S, sl, q, e, k⟩ => ?_⟩
  cases ws with
  | nil =>
    unfold Tgt.bindAll at e
    cases e
    unfold reps at q
    exact pgs_nil.run pins s σ H vs us Q I r ⟨q, k _ sl fun _ _ => rfl⟩
  | cons w ws => unfold Tgt.bindAll at e; cases e
theorem dgs_cons (hs : isStar e = false) (h1 : DG B X e t) (h2 : DGs B X es ts) : DGs B X (e :: es) (t :: ts) := by
  refine ⟨fun pins s σ H vs us Q I r ⟨m, h, ρ, ws, ρ', S, sl, q, eb, k⟩ => ?_⟩
  cases ws with
  | nil => unfold Tgt.bindAll at eb; cases eb
  | cons w ws =>
    unfold Tgt.bindAll at eb
    unfold reps at q
    obtain ⟨v, vr, e1, q1, q2⟩ := q
    cases z : t.bind w ρ with
    | none => rw [z] at eb; cases eb
    | some ρ1 =>
      rw [z] at eb
      refine (pgs_cons h1 h2 (by rw [assignEach_cons hs]; rfl)).run pins s σ H vs us Q I r ⟨v, vr, e1, m, h, ρ, w, ρ1, S, sl, q1, z, fun σ1 sl1 f1 => ?_⟩
      refine ⟨m, h, ρ1, ws, ρ', S, sl1, q2, eb, fun σ2 sl2 f2 => k σ2 sl2 fun i hi => ?_⟩
      unfold Tgt.slotsAll at hi
      rw [List.mem_append, not_or] at hi
      exact (f2 i hi.2).trans (f1 i hi.1)
/-- how many, none with a star -/
theorem assignEach_plain : ∀ {es : List Expr} {env : Env}, es.all (fun e => !isStar e) = true → (assignEach es env).length = es.length ∧ (assignEach es env).findIdx? (·.1) = none
  | [], env, _ => ⟨rfl, rfl⟩
  | e :: es, env, h => by
    rw [List.all_cons] at h
    obtain ⟨h1, h2⟩ := Bool.and_eq_true_iff.mp h
    obtain ⟨a, b⟩ := assignEach_plain (es := es) (env := env) h2
    rw [assignEach_cons (by simpa using h1)]
    refine ⟨by rw [List.length_cons, List.length_cons, a], ?_⟩
    rw [List.findIdx?_cons]
    simp [b]
theorem dg_tup (hK : X.K = B.K) (hc : X.calm = true) {k : Nat} (hs : es.all (fun e => !isStar e) = true) (hl : ts.length = es.length) (h : DGs B X es ts) : DG B X (.Tuple es k pos) (.tp ts) := by
  obtain ⟨a1, a2⟩ := assignEach_plain (env := X.env) hs
  refine ⟨fun pins s σ H v u Q I r ⟨m, h', ρ, w, ρ', S, sl, q, eb, kk⟩ => ?_⟩
  cases w with
  | tup ws =>
    unfold Tgt.bind at eb
    obtain ⟨a, vs, rfl, qa, ra⟩ := q.tup_
    refine (pg_tup (n := es.length) hc h a1 a2).run pins s σ H _ u Q I r ⟨a, vs, rfl, by rw [hK]; exact qa, ?_, m, h', ρ, ws, ρ', S, sl, ra, eb, fun σ' s' f => kk σ' s' fun i hi => f i (by unfold Tgt.slots at hi; exact hi)⟩
    rw [← ra.length, Tgt.bindAll_length eb, hl]
  | _ => unfold Tgt.bind at eb; cases eb
end

/-! ### what is walked -/
/-- the lists that must stay while they are walked -/
abbrev Gd := List (Nat × List W)
def gdOk (g : Gd) (h : Store) : Prop := ∀ p ∈ g, lst? h p.1 = some p.2
/-- what an iterator that was made between Hs and H leans on -/
structure GoF (Hs : Hp) (m : List Addr) (H : Hp) (m' : List Addr) (H' : Hp) : Prop where
  pre : ∃ t, m' = m ++ t ∧ ∀ a ∈ t, Hs a = none → H a = none
  keep : ∀ a o, Hs a = none → H a = some o → a ∉ m → H' a = some o
  tup : TupIn H H'
theorem Go.toF {Hs : Hp} {m m' : List Addr} {H H' : Hp} (G : Go m H m' H') : GoF Hs m H m' H' := ⟨let ⟨t, e, f⟩ := G.pre; ⟨t, e, fun a ha _ => f a ha⟩, fun a o _ e h => G.keep a o e h, G.tup⟩
theorem GoF.reps {B : Base} {Hs : Hp} {m m' : List Addr} {H H' : Hp} {ws : List W} {vs : List V} (G : GoF Hs m H m' H') (r : reps B m H ws vs) : reps B m' H' ws vs := reps.stay G.tup (let ⟨t, e, _⟩ := G.pre; ⟨t, e⟩) ws vs r
structure Iw (B : Base) (Hs : Hp) (m : List Addr) (H : Hp) (ws : List W) (g : Gd) (J : It) : Prop where
  go : ∀ i m2 h2 H2, GoF Hs m H m2 H2 → Sim B m2 h2 H2 → gdOk g h2 → i < ws.length → J.go i H2
  stop : ∀ m2 h2 H2, GoF Hs m H m2 H2 → Sim B m2 h2 H2 → gdOk g h2 → J.stop ws.length H2
  yld : ∀ i w m2 h2 H2 x H3, GoF Hs m H m2 H2 → Sim B m2 h2 H2 → gdOk g h2 → ws[i]? = some w → J.yld i H2 x H3 → Sim B m2 h2 H3 ∧ Go m2 H2 m2 H3 ∧ rep B m2 H3 w x
abbrev DenI := Rho → Store → Out (List W × Gd)
def tDI (B : Base) (Wx : WX) (f : DenI) : TI := fun σ H R => ∃ m h ρ, Sim B m h H ∧ slots B m H ρ σ ∧ PV B m H (f ρ h) (fun q _ m' H' => ∀ J, Iw B H m' H' q.1 q.2 J → R J H') (XS B Wx σ)
def DI (B : Base) (Wx : WX) (X : Cx) (tg e : Expr) (f : DenI) : Prop := PI X tg e (tDI B Wx f)
section
variable {B : Base} {m m' : List Addr} {Hs H H' : Hp} {ws : List W} {h : Store}
theorem Iw.range (lo : Int) (n : Nat) : Iw B Hs m H ((List.range n).map fun i => W.int (lo + (i : Nat))) [] (Itr lo n) where
  go := fun i m2 h2 H2 _ _ _ hi => by show i < n; simpa using hi
  stop := fun m2 h2 H2 _ _ _ => by show n ≤ _; simp
  yld := fun i w m2 h2 H2 x H3 _ S _ e y => by
    obtain ⟨e1, e2⟩ := y
    subst e1 e2
    refine ⟨S, Go.refl, ?_⟩
    rw [List.getElem?_map] at e
    cases z : (List.range n)[i]? with
    | none => rw [z] at e; cases e
    | some j =>
      rw [z] at e
      cases e
      have := List.getElem?_range (n := n) (i := i) (by
        have := (List.getElem?_eq_some_iff.mp z).1
        simpa using this)
      rw [this] at z
      cases z
      exact .int _
theorem Iw.rangeC (lo c : Int) (n : Nat) : Iw B Hs m H ((List.range n).map fun i => W.int (lo + (i : Nat) * c)) [] (Itc lo c n) where
  go := fun i m2 h2 H2 _ _ _ hi => by show i < n; simpa using hi
  stop := fun m2 h2 H2 _ _ _ => by show n ≤ _; simp
  yld := fun i w m2 h2 H2 x H3 _ S _ e y => by
    obtain ⟨e1, e2⟩ := y
    subst e1 e2
    refine ⟨S, Go.refl, ?_⟩
    rw [List.getElem?_map] at e
    cases z : (List.range n)[i]? with
    | none => rw [z] at e; cases e
    | some j =>
      rw [z] at e
      cases e
      have := List.getElem?_range (n := n) (i := i) (by
        have := (List.getElem?_eq_some_iff.mp z).1
        simpa using this)
      rw [this] at z
      cases z
      exact .int _
theorem Iw.tup {a : Addr} {vs : List V} (q : SqT B.K H a vs) (r : reps B m H ws vs) : Iw B Hs m H ws [] (Itt B.K a) where
  go := fun i m2 h2 H2 G _ _ hi => ⟨vs, vs[i]'(by rw [← r.length]; exact hi), SqT.stay q G.tup, List.getElem?_eq_getElem _⟩
  stop := fun m2 h2 H2 G _ _ => ⟨vs, SqT.stay q G.tup, by rw [r.length]; exact Nat.le_refl _⟩
  yld := fun i w m2 h2 H2 x H3 G S _ e y => by
    obtain ⟨e1, e2⟩ := y
    subst e1
    obtain ⟨v, e3, r3⟩ := (G.reps r).get e
    rw [e2 vs (SqT.stay q G.tup)] at e3
    cases e3
    exact ⟨S, Go.refl, r3⟩
/-- an unnamed list -/
theorem Iw.fresh {a : Addr} {vs : List V} (q : H a = some (.lst vs)) (hf : Hs a = none) (ha : a ∉ m) (r : reps B m H ws vs) : Iw B Hs m H ws [] (Itl B.K a) where
  go := fun i m2 h2 H2 G _ _ hi => ⟨vs, vs[i]'(by rw [← r.length]; exact hi), .inl (.inl (G.keep _ _ hf q ha)), List.getElem?_eq_getElem _⟩
  stop := fun m2 h2 H2 G _ _ => ⟨vs, .inl (.inl (G.keep _ _ hf q ha)), by rw [r.length]; exact Nat.le_refl _⟩
  yld := fun i w m2 h2 H2 x H3 G S _ e y => by
    obtain ⟨e1, e2⟩ := y
    subst e1
    obtain ⟨v, e3, r3⟩ := (G.reps r).get e
    rw [e2 vs (.inl (.inl (G.keep _ _ hf q ha)))] at e3
    cases e3
    exact ⟨S, Go.refl, r3⟩
/-- a named list -/
theorem Iw.named {a : Addr} {n : Nat} (ha : m[n]? = some a) : Iw B Hs m H ws [(n, ws)] (Itl B.K a) := by
  have at_ : ∀ m2 h2 H2, GoF Hs m H m2 H2 → Sim B m2 h2 H2 → gdOk [(n, ws)] h2 → ∃ vs, SqL B.K H2 a vs ∧ reps B m2 H2 ws vs := fun m2 h2 H2 G S g => by
    obtain ⟨t, e, _⟩ := G.pre
    refine lst_at S (n := n) ?_ (g (n, ws) (List.mem_singleton.mpr rfl))
    rw [e, List.getElem?_append_left (List.getElem?_eq_some_iff.mp ha).1]
    exact ha
  refine ⟨fun i m2 h2 H2 G S g hi => ?_, fun m2 h2 H2 G S g => ?_, fun i w m2 h2 H2 x H3 G S g e y => ?_⟩
  · obtain ⟨vs, q, r⟩ := at_ _ _ _ G S g
    exact ⟨vs, vs[i]'(by rw [← r.length]; exact hi), q, List.getElem?_eq_getElem _⟩
  · obtain ⟨vs, q, r⟩ := at_ _ _ _ G S g
    exact ⟨vs, q, by rw [r.length]; exact Nat.le_refl _⟩
  · obtain ⟨vs, q, r⟩ := at_ _ _ _ G S g
    obtain ⟨e1, e2⟩ := y
    subst e1
    obtain ⟨v, e3, r3⟩ := r.get e
    rw [e2 vs q] at e3
    cases e3
    exact ⟨S, Go.refl, r3⟩
theorem Iw.str (z : Str) : Iw B Hs m H (z.cps.toList.map fun c => W.str ⟨#[c]⟩) [] (Its z) where
  go := fun i m2 h2 H2 _ _ _ hi => by
    show i < z.cps.size
    simpa using hi
  stop := fun m2 h2 H2 _ _ _ => by show z.cps.size ≤ _; simp
  yld := fun i w m2 h2 H2 x H3 _ S _ e y => by
    obtain ⟨e1, c, e2, e3⟩ := y
    subst e1 e3
    refine ⟨S, Go.refl, ?_⟩
    rw [List.getElem?_map, Array.getElem?_toList, e2] at e
    cases e
    exact .str _
end

/-- two walked at once -/
def zipW : List W → List W → List W
  | a :: as, b :: bs => .tup [a, b] :: zipW as bs
  | _, _ => []
theorem zipW_length : ∀ (a b : List W), (zipW a b).length = min a.length b.length
  | [], b => by simp [zipW]
  | a :: as, [] => by simp [zipW]
  | a :: as, b :: bs => by
    rw [zipW, List.length_cons, List.length_cons, List.length_cons, zipW_length as bs]
    omega
theorem zipW_get : ∀ {a b : List W} {i : Nat} {w : W}, (zipW a b)[i]? = some w → ∃ x y, a[i]? = some x ∧ b[i]? = some y ∧ w = .tup [x, y]
  | [], b, i, w, e => by simp [zipW] at e
  | a :: as, [], i, w, e => by simp [zipW] at e
  | a :: as, b :: bs, 0, w, e => by
    simp [zipW] at e
    exact ⟨a, b, rfl, rfl, e.symm⟩
  | a :: as, b :: bs, i + 1, w, e => by
    simp only [zipW, List.getElem?_cons_succ] at e
    obtain ⟨x, y, h1, h2, h3⟩ := zipW_get e
    exact ⟨x, y, by simpa using h1, by simpa using h2, h3⟩
section
variable {B : Base} {m m' : List Addr} {Hs H H' : Hp} {ws us : List W} {h : Store}
theorem pair_rep {B : Base} {m : List Addr} {h : Store} {H2 H3 : Hp} {T : Addr} {x y : V} {a b : W} (S : Sim B m h H2) (hT : H2 T = none) (e : H3 = upd H2 T (.tup [x, y])) (ra : rep B m H2 a x) (rb : rep B m H2 b y) : Sim B m h H3 ∧ Go m H2 m H3 ∧ rep B m H3 (.tup [a, b]) (.ref T) := by
  subst e
  have G : Go m H2 m (upd H2 T (.tup [x, y])) := Go.more hT
  refine ⟨S.more hT, G, ?_⟩
  unfold rep
  exact ⟨T, [x, y], rfl, .inl (.inl upd_same), .cons (G.rep ra) (.cons (G.rep rb) .nil)⟩
theorem Iw.zipT {a b : Addr} {vs zs : List V} (qa : SqT B.K H a vs) (qb : SqT B.K H b zs) (ra : reps B m H ws vs) (rb : reps B m H us zs) : Iw B Hs m H (zipW ws us) [] (RZ.ItzT B.K a b) where
  go := fun i m2 h2 H2 G _ _ hi => by
    rw [zipW_length] at hi
    exact ⟨vs, zs, vs[i]'(by rw [← ra.length]; omega), zs[i]'(by rw [← rb.length]; omega), SqT.stay qa G.tup, SqT.stay qb G.tup, List.getElem?_eq_getElem _, List.getElem?_eq_getElem _⟩
  stop := fun m2 h2 H2 G _ _ => ⟨vs, zs, SqT.stay qa G.tup, SqT.stay qb G.tup, by rw [zipW_length, ← ra.length, ← rb.length]; omega⟩
  yld := fun i w m2 h2 H2 x H3 G S _ e y => by
    obtain ⟨T, x1, y1, e1, hT, e2, f1, f2⟩ := y
    obtain ⟨p, q, g1, g2, g3⟩ := zipW_get e
    obtain ⟨v1, k1, r1⟩ := (G.reps ra).get g1
    obtain ⟨v2, k2, r2⟩ := (G.reps rb).get g2
    rw [f1 vs (SqT.stay qa G.tup)] at k1
    rw [f2 zs (SqT.stay qb G.tup)] at k2
    cases k1
    cases k2
    subst e1 g3
    exact pair_rep S hT e2 r1 r2
theorem named_at {a : Addr} {n : Nat} (ha : m[n]? = some a) {g : Gd} (hg : (n, ws) ∈ g) : ∀ m2 h2 H2, GoF Hs m H m2 H2 → Sim B m2 h2 H2 → gdOk g h2 → ∃ vs, SqL B.K H2 a vs ∧ reps B m2 H2 ws vs := fun m2 h2 H2 G S gd => by
  obtain ⟨t, e, _⟩ := G.pre
  refine lst_at S (n := n) ?_ (gd (n, ws) hg)
  rw [e, List.getElem?_append_left (List.getElem?_eq_some_iff.mp ha).1]
  exact ha
theorem Iw.zipL {a b : Addr} {n k : Nat} (ha : m[n]? = some a) (hb : m[k]? = some b) : Iw B Hs m H (zipW ws us) [(n, ws), (k, us)] (Itz B.K a b) := by
  have at1 := named_at (B := B) (Hs := Hs) (H := H) (ws := ws) ha (g := [(n, ws), (k, us)]) (by simp)
  have at2 := named_at (B := B) (Hs := Hs) (H := H) (ws := us) hb (g := [(n, ws), (k, us)]) (by simp)
  refine ⟨fun i m2 h2 H2 G S g hi => ?_, fun m2 h2 H2 G S g => ?_, fun i w m2 h2 H2 x H3 G S g e y => ?_⟩
  · obtain ⟨vs, q, ra⟩ := at1 _ _ _ G S g
    obtain ⟨zs, q2, rb⟩ := at2 _ _ _ G S g
    rw [zipW_length] at hi
    exact ⟨vs, zs, vs[i]'(by rw [← ra.length]; omega), zs[i]'(by rw [← rb.length]; omega), q, q2, List.getElem?_eq_getElem _, List.getElem?_eq_getElem _⟩
  · obtain ⟨vs, q, ra⟩ := at1 _ _ _ G S g
    obtain ⟨zs, q2, rb⟩ := at2 _ _ _ G S g
    exact ⟨vs, zs, q, q2, by rw [zipW_length, ← ra.length, ← rb.length]; omega⟩
  · obtain ⟨vs, qa, ra⟩ := at1 _ _ _ G S g
    obtain ⟨zs, qb, rb⟩ := at2 _ _ _ G S g
    obtain ⟨T, x1, y1, e1, hT, e2, f1, f2⟩ := y
    obtain ⟨p, q, g1, g2, g3⟩ := zipW_get e
    obtain ⟨v1, k1, r1⟩ := ra.get g1
    obtain ⟨v2, k2, r2⟩ := rb.get g2
    rw [f1 vs qa] at k1
    rw [f2 zs qb] at k2
    cases k1
    cases k2
    subst e1 g3
    exact pair_rep S hT e2 r1 r2
def enumW (k : Nat) : List W → List W
  | [] => []
  | w :: ws => .tup [.int (k : Nat), w] :: enumW (k + 1) ws
theorem enumW_length : ∀ (k : Nat) (a : List W), (enumW k a).length = a.length
  | k, [] => rfl
  | k, a :: as => by rw [enumW, List.length_cons, List.length_cons, enumW_length (k + 1) as]
theorem enumW_get : ∀ {k : Nat} {a : List W} {i : Nat} {w : W}, (enumW k a)[i]? = some w → ∃ x, a[i]? = some x ∧ w = .tup [.int ((k + i : Nat) : Int), x]
  | k, [], i, w, e => by simp [enumW] at e
  | k, a :: as, 0, w, e => by
    simp [enumW] at e
    exact ⟨a, rfl, e.symm⟩
  | k, a :: as, i + 1, w, e => by
    simp only [enumW, List.getElem?_cons_succ] at e
    obtain ⟨x, h1, h2⟩ := enumW_get e
    exact ⟨x, by simpa using h1, by rw [h2, show k + 1 + i = k + (i + 1) by omega]⟩
theorem Iw.enumL {a : Addr} {n : Nat} (ha : m[n]? = some a) : Iw B Hs m H (enumW 0 ws) [(n, ws)] (Ite B.K a) := by
  have at1 := named_at (B := B) (Hs := Hs) (H := H) (ws := ws) ha (g := [(n, ws)]) (by simp)
  refine ⟨fun i m2 h2 H2 G S g hi => ?_, fun m2 h2 H2 G S g => ?_, fun i w m2 h2 H2 x H3 G S g e y => ?_⟩
  · obtain ⟨vs, q, ra⟩ := at1 _ _ _ G S g
    rw [enumW_length] at hi
    exact ⟨vs, vs[i]'(by rw [← ra.length]; omega), q, List.getElem?_eq_getElem _⟩
  · obtain ⟨vs, q, ra⟩ := at1 _ _ _ G S g
    exact ⟨vs, q, by rw [enumW_length, ra.length]; exact Nat.le_refl _⟩
  · obtain ⟨vs, qa, ra⟩ := at1 _ _ _ G S g
    obtain ⟨T, x1, e1, hT, e2, f1⟩ := y
    obtain ⟨p, g1, g3⟩ := enumW_get e
    obtain ⟨v1, k1, r1⟩ := ra.get g1
    rw [f1 vs qa] at k1
    cases k1
    subst e1 g3
    rw [Nat.zero_add]
    exact pair_rep S hT e2 (by unfold rep; rfl) r1
end
def zipOf (h : Store) : List W → Option (List W × Gd)
  | [.tup ws, .tup us] => some (zipW ws us, [])
  | [.ref n, .ref k] => match lst? h n, lst? h k with
    | some ws, some us => some (zipW ws us, [(n, ws), (k, us)])
    | _, _ => none
  | _ => none
def enumOf (h : Store) : List W → Option (List W × Gd)
  | [.ref n] => (lst? h n).map fun ws => (enumW 0 ws, [(n, ws)])
  | _ => none

/-! ### fresh lists -/
def tDL (B : Base) (Wx : WX) (f : DenA) : TE := fun σ H Q => ∃ m h ρ, Sim B m h H ∧ slots B m H ρ σ ∧ PV B m H (f ρ h) (fun ws _ m' H' => ∀ a vs, H' a = some (.lst vs) → a ∉ m' → H a = none → reps B m' H' ws vs → Q (.ref a) H') (XS B Wx σ)
def DL (B : Base) (Wx : WX) (X : Cx) (e : Expr) (f : DenA) : Prop := PE X e (tDL B Wx f)
theorem fresh_of {m m' : List Addr} {H H' : Hp} {B : Base} {h' : Store} {a : Addr} (S' : Sim B m' h' H') (G : Go m H m' H') (e : H' a = none) : H a = none := by
  cases q : H a with
  | none => rfl
  | some o =>
    by_cases ha : a ∈ m
    · obtain ⟨t, e1, _⟩ := G.pre
      obtain ⟨u, e2, _⟩ := S'.there (a := a) (by rw [e1]; exact List.mem_append_left _ ha)
      rw [e] at e2
      cases e2
    · rw [G.keep a o q ha] at e
      cases e
theorem notin_of {m : List Addr} {H : Hp} {B : Base} {h : Store} {a : Addr} (S : Sim B m h H) (e : H a = none) : a ∉ m := fun ha => by
  obtain ⟨u, e2, _⟩ := S.there ha
  rw [e] at e2
  cases e2
/-- an unnamed list gets a name -/
theorem Sim.name {B : Base} {m : List Addr} {h : Store} {H : Hp} {a : Addr} {ws : List W} {vs : List V} (S : Sim B m h H) (ha : H a = some (.lst vs)) (hm : a ∉ m) (r : reps B m H ws vs) : Sim B (m ++ [a]) (h ++ [.lst ws]) H := by
  refine ⟨by rw [List.length_append, List.length_append, S.len]; rfl, List.nodup_append.mpr ⟨S.nd, List.pairwise_singleton _ _, fun x hx b hb e => by
    have z : b = a := by simpa using hb
    rw [z] at e
    exact hm (e ▸ hx)⟩, fun n x ob h1 h2 => ?_⟩
  by_cases hn : n < m.length
  · rw [List.getElem?_append_left hn] at h1
    rw [List.getElem?_append_left (by rw [← S.len]; exact hn)] at h2
    exact (S.ob n x ob h1 h2).stay rfl TupIn.refl ⟨[a], rfl⟩
  · rw [List.getElem?_append_right (by omega)] at h1
    rw [List.getElem?_append_right (by rw [← S.len]; omega)] at h2
    have z : n - m.length = 0 := by
      have := (List.getElem?_eq_some_iff.mp h1).1
      simpa using this
    rw [z] at h1
    rw [← S.len, z] at h2
    simp at h1 h2
    subst h1
    subst h2
    exact ⟨vs, ha, reps.stay TupIn.refl ⟨[a], rfl⟩ _ _ r⟩
theorem Go.name {m m' : List Addr} {H H' : Hp} {a : Addr} (G : Go m H m' H') (ha : H a = none) : Go m H (m' ++ [a]) H' := by
  obtain ⟨t, e, f⟩ := G.pre
  refine ⟨⟨t ++ [a], by rw [e, List.append_assoc], fun x hx => ?_⟩, G.keep, G.tup⟩
  rcases List.mem_append.mp hx with hx | hx
  · exact f x hx
  · have z : x = a := by simpa using hx
    rw [z]
    exact ha
def cFresh (f : DenA) : Den := fun ρ h => (f ρ h).bind fun ws h1 => .ok (.ref h1.length) (h1 ++ [.lst ws])
/-- a sequence: a tuple or a list -/
abbrev DenQ := Rho → Store → Out (Bool × List W)
def seqAt (B : Base) (t : Bool) (H : Hp) (a : Addr) (vs : List V) : Prop := if t = true then SqT B.K H a vs else SqL B.K H a vs
def tDQ (B : Base) (Wx : WX) (f : DenQ) : TE := fun σ H Q => ∃ m h ρ, Sim B m h H ∧ slots B m H ρ σ ∧ PV B m H (f ρ h) (fun q _ m' H' => ∀ a vs, seqAt B q.1 H' a vs → reps B m' H' q.2 vs → Q (.ref a) H') (XS B Wx σ)
def DQ (B : Base) (Wx : WX) (X : Cx) (e : Expr) (f : DenQ) : Prop := PE X e (tDQ B Wx f)
def cSeqF (f : DenA) : DenQ := fun ρ h => (f ρ h).bind fun ws h1 => .ok (false, ws) h1
def seqOf (h : Store) : W → Option (Bool × List W)
  | .tup ws => some (true, ws)
  | .ref n => (lst? h n).map fun ws => (false, ws)
  | _ => none
def cSeqV (f : Den) : DenQ := fun ρ h => (f ρ h).bind fun w h1 => match seqOf h1 w with
  | some q => .ok q h1
  | none => .bad
/-- walked values -/
def cItF (f : DenA) : DenI := fun ρ h => (f ρ h).bind fun ws h1 => .ok (ws, []) h1
def itOf (h : Store) : W → Option (List W × Gd)
  | .tup ws => some (ws, [])
  | .ref n => (lst? h n).map fun ws => (ws, [(n, ws)])
  | .str z => some (z.cps.toList.map fun c => W.str ⟨#[c]⟩, [])
  | _ => none
def cItV (f : Den) : DenI := fun ρ h => (f ρ h).bind fun w h1 => match itOf h1 w with
  | some q => .ok q h1
  | none => .bad
def rngOk (i : Int) : Bool := decide (-(2 ^ 62) ≤ i) && decide (i < 2 ^ 62)
def rngC (i j c : Int) : Option Nat := if c ≠ 0 ∧ c.natAbs < 1073741824 ∧ Builtin.Range.small i j c = true ∧ 0 ≤ Builtin.Range.rangeSize i j c then some (Builtin.Range.rangeSize i j c).toNat else none
def rng1 : List W → Option (List W)
  | [.int j] => if rngOk j = true then some ((List.range j.toNat).map fun k => W.int ((0 : Int) + (k : Nat))) else none
  | _ => none
def rng2 : List W → Option (List W)
  | [.int i, .int j] => if rngOk i = true ∧ rngOk j = true then some ((List.range (j - i).toNat).map fun k => W.int (i + (k : Nat))) else none
  | _ => none
def rng3 : List W → Option (List W)
  | [.int i, .int j, .int c] => (rngC i j c).map fun n => (List.range n).map fun k => W.int (i + (k : Nat) * c)
  | _ => none
def cItR (r : List W → Option (List W)) (f : DenA) : DenI := fun ρ h => (f ρ h).bind fun ws h1 => match r ws with
  | some q => .ok (q, []) h1
  | none => .bad
section
variable {B : Base} {Wx : WX} {X : Cx} {e tg : Expr} {es : List Expr} {f : Den} {fa : DenA} {pos : Pos}
theorem de_fresh (d : DL B Wx X e fa) : DE B Wx X e (cFresh fa) := by
  refine ⟨fun pins s σ H Q I ⟨m, h, ρ, S, sl, p⟩ => ?_⟩
  cases z : fa ρ h with
  | ok ws h1 =>
    have z2 : cFresh fa ρ h = .ok (.ref h1.length) (h1 ++ [.lst ws]) := by
      unfold cFresh
      rw [z]
      rfl
    rw [z2] at p
    refine PE.run d pins s σ H Q I ⟨m, h, ρ, S, sl, ?_⟩
    rw [z]
    refine fun m1 H1 S1 G1 a vs ha hm hn r => p (m1 ++ [a]) H1 (S1.name ha hm r) (G1.name hn) _ ?_
    unfold rep
    exact ⟨a, rfl, by rw [List.getElem?_append_right (by rw [S1.len]; exact Nat.le_refl _), S1.len, Nat.sub_self]; rfl⟩
  | exc x h1 =>
    have z2 : cFresh fa ρ h = .exc x h1 := by
      unfold cFresh
      rw [z]
      rfl
    rw [z2] at p
    exact PE.run d pins s σ H Q I ⟨m, h, ρ, S, sl, by rw [z]; exact p⟩
  | bad =>
    have z2 : cFresh fa ρ h = .bad := by
      unfold cFresh
      rw [z]
      rfl
    rw [z2] at p
    exact p.elim
theorem dq_fresh (d : DL B Wx X e fa) : DQ B Wx X e (cSeqF fa) := by
  refine ⟨fun pins s σ H Q I ⟨m, h, ρ, S, sl, p⟩ => ?_⟩
  refine PE.run d pins s σ H Q I ⟨m, h, ρ, S, sl, p.bind.imp fun ws h1 m1 H1 S1 G1 p1 a vs ha hm hn r => ?_⟩
  exact p1.here S1 a vs (.inl (.inl ha)) r
theorem dq_val (d : DE B Wx X e f) : DQ B Wx X e (cSeqV f) := by
  refine ⟨fun pins s σ H Q I ⟨m, h, ρ, S, sl, p⟩ => ?_⟩
  refine PE.run d pins s σ H Q I ⟨m, h, ρ, S, sl, p.bind.imp fun w h1 m1 H1 S1 G1 p1 v r => ?_⟩
  cases w with
  | tup ws =>
    obtain ⟨a, vs, rfl, qa, ra⟩ := r.tup_
    exact p1.here S1 a vs qa ra
  | ref n =>
    obtain ⟨a, rfl, ha⟩ := r.ref_
    cases z : lst? h1 n with
    | none =>
      simp only [seqOf, z, Option.map_none] at p1
      exact p1.elim
    | some ws =>
      simp only [seqOf, z, Option.map_some] at p1
      obtain ⟨vs, qa, ra⟩ := lst_at S1 ha z
      exact p1.here S1 a vs qa ra
  | _ => exact p1.elim
theorem di_fresh (hK : X.K = B.K) (d : DL B Wx X e fa) : DI B Wx X tg e (cItF fa) := by
  refine ⟨fun pins s σ H R I ⟨m, h, ρ, S, sl, p⟩ => ?_⟩
  refine (pi_list (tg := tg) d).run pins s σ H R I ⟨m, h, ρ, S, sl, p.bind.imp fun ws h1 m1 H1 S1 G1 p1 a vs ha hm hn r => ?_⟩
  rw [hK]
  exact ⟨a, rfl, ⟨vs, .inl (.inl ha)⟩, p1.here S1 _ (.fresh ha hn hm r)⟩
theorem di_val (hK : X.K = B.K) (d : DE B Wx X e f) : DI B Wx X tg e (cItV f) := by
  refine ⟨fun pins s σ H R I ⟨m, h, ρ, S, sl, p⟩ => ?_⟩
  unfold cItV at p
  cases z : f ρ h with
  | bad =>
    rw [z] at p
    exact p.elim
  | exc x h1 =>
    rw [z] at p
    exact (pi_list (tg := tg) d).run pins s σ H R I ⟨m, h, ρ, S, sl, by rw [z]; exact p⟩
  | ok w h1 =>
    rw [z] at p
    dsimp only [Out.bind] at p
    cases w with
    | tup ws =>
      refine (pi_tup (tg := tg) d).run pins s σ H R I ⟨m, h, ρ, S, sl, ?_⟩
      rw [z]
      refine fun m1 H1 S1 G1 v r => ?_
      obtain ⟨a, vs, rfl, qa, ra⟩ := r.tup_
      rw [hK]
      exact ⟨a, rfl, ⟨vs, qa⟩, p m1 H1 S1 G1 _ (.tup qa ra)⟩
    | ref n =>
      cases y : lst? h1 n with
      | none =>
        simp only [itOf, y, Option.map_none] at p
        exact p.elim
      | some ws =>
        simp only [itOf, y, Option.map_some] at p
        refine (pi_list (tg := tg) d).run pins s σ H R I ⟨m, h, ρ, S, sl, ?_⟩
        rw [z]
        refine fun m1 H1 S1 G1 v r => ?_
        obtain ⟨a, rfl, ha⟩ := r.ref_
        obtain ⟨vs, qa, ra⟩ := lst_at S1 ha y
        rw [hK]
        exact ⟨a, rfl, ⟨vs, qa⟩, p m1 H1 S1 G1 _ (.named ha)⟩
    | str x =>
      refine (pi_str (tg := tg) d).run pins s σ H R I ⟨m, h, ρ, S, sl, ?_⟩
      rw [z]
      exact fun m1 H1 S1 G1 v r => ⟨x, r.str_, p m1 H1 S1 G1 _ (.str x)⟩
    | _ => exact p.elim
theorem rngOk_ok {i : Int} (e : rngOk i = true) : -(2 ^ 62) ≤ i ∧ i < 2 ^ 62 := by
  obtain ⟨a, b⟩ := Bool.and_eq_true_iff.mp e
  exact ⟨of_decide_eq_true a, of_decide_eq_true b⟩
theorem starEach_plain1 {a : Expr} {env : Env} (h : isStar a = false) : starEach [a] env = [(false, eval a env)] := by
  rw [starEach_cons h]
  rfl
theorem any_plain {es : List Expr} {env : Env} (pos : Pos) (h : es.all (fun e => !isStar e) = true) : (backTo pos (starEach es env)).any (·.1) = false := by
  induction es with
  | nil => rfl
  | cons e r ih =>
    rw [List.all_cons] at h
    obtain ⟨h1, h2⟩ := Bool.and_eq_true_iff.mp h
    rw [starEach_cons (by simpa using h1)]
    have z := ih h2
    first
      | exact z
      | (unfold backTo at z ⊢; simpa using z)
theorem di_range1 (hg : Gl X "range") (hm : X.mg "range" = none) {p : Pos} {a : Expr} (ha : isStar a = false) (d : DA B Wx X [a] fa) : DI B Wx X tg (.Call (.Name "range" p) [a] [] pos) (cItR rng1 fa) := by
  refine ⟨fun pins s σ H R I ⟨m, h, ρ, S, sl, q⟩ => ?_⟩
  refine (pi_range1 (tg := tg) hg hm d (starEach_plain1 ha)).run pins s σ H R I ⟨m, h, ρ, S, sl, q.bind.imp fun ws h1 m1 H1 S1 G1 p1 vs r => ?_⟩
  cases e : rng1 ws with
  | none =>
    rw [e] at p1
    exact p1.elim
  | some q =>
    rw [e] at p1
    unfold rng1 at e
    split at e
    · rename_i j
      split at e
      · rename_i c
        cases e
        obtain ⟨c1, c2⟩ := rngOk_ok c
        unfold reps at r
        obtain ⟨v, t, rfl, r1, r2⟩ := r
        unfold reps at r2
        subst r2
        exact ⟨j, by rw [r1.int_], c1, c2, p1.here S1 _ (Iw.range 0 j.toNat)⟩
      · cases e
    · cases e
theorem di_range2 (hg : Gl X "range") (hm : X.mg "range" = none) {p : Pos} {a b : Expr} (ha : isStar a = false) (hb : isStar b = false) (d : DA B Wx X [a, b] fa) : DI B Wx X tg (.Call (.Name "range" p) [a, b] [] pos) (cItR rng2 fa) := by
  refine ⟨fun pins s σ H R I ⟨m, h, ρ, S, sl, q⟩ => ?_⟩
  refine (pi_range2 (tg := tg) hg hm d (by rw [starEach_cons ha, starEach_plain1 hb]) (starEach_plain1 hb)).run pins s σ H R I ⟨m, h, ρ, S, sl, q.bind.imp fun ws h1 m1 H1 S1 G1 p1 vs r => ?_⟩
  cases e : rng2 ws with
  | none =>
    rw [e] at p1
    exact p1.elim
  | some q =>
    rw [e] at p1
    unfold rng2 at e
    split at e
    · rename_i i j
      split at e
      · rename_i c
        cases e
        obtain ⟨c1, c2⟩ := rngOk_ok c.1
        obtain ⟨c3, c4⟩ := rngOk_ok c.2
        unfold reps at r
        obtain ⟨v, t, rfl, r1, r2⟩ := r
        unfold reps at r2
        obtain ⟨v2, t2, rfl, r3, r4⟩ := r2
        unfold reps at r4
        subst r4
        exact ⟨i, j, by rw [r1.int_, r3.int_], ⟨c1, c2, c3, c4⟩, p1.here S1 _ (Iw.range i (j - i).toNat)⟩
      · cases e
    · cases e
theorem di_range3 (hg : Gl X "range") (hm : X.mg "range" = none) {p : Pos} {a b c : Expr} (ha : isStar a = false) (hb : isStar b = false) (hc : isStar c = false) (d : DA B Wx X [a, b, c] fa) : DI B Wx X tg (.Call (.Name "range" p) [a, b, c] [] pos) (cItR rng3 fa) := by
  refine ⟨fun pins s σ H R I ⟨m, h, ρ, S, sl, q⟩ => ?_⟩
  refine (pi_range3 (tg := tg) hg hm d (starEach_cons ha) (by rw [starEach_cons hb, starEach_plain1 hc]; rfl)).run pins s σ H R I ⟨m, h, ρ, S, sl, q.bind.imp fun ws h1 m1 H1 S1 G1 p1 vs r => ?_⟩
  cases e : rng3 ws with
  | none =>
    rw [e] at p1
    exact p1.elim
  | some q =>
    rw [e] at p1
    unfold rng3 at e
    split at e
    · rename_i i j k
      cases z : rngC i j k with
      | none => rw [z] at e; cases e
      | some n =>
        rw [z] at e
        cases e
        unfold rngC at z
        split at z
        · rename_i c
          obtain ⟨c1, c2, c3, c4⟩ := c
          cases z
          unfold reps at r
          obtain ⟨v, t, rfl, r1, r2⟩ := r
          unfold reps at r2
          obtain ⟨v2, t2, rfl, r3, r4⟩ := r2
          unfold reps at r4
          obtain ⟨v3, t3, rfl, r5, r6⟩ := r4
          unfold reps at r6
          subst r6
          exact ⟨i, j, k, _, by rw [r1.int_, r3.int_, r5.int_], ⟨c1, c2, c3, by omega⟩, p1.here S1 _ (Iw.rangeC i k _)⟩
        · cases z
    · cases e
/-- zip, enumerate -/
def cItS (r : Store → List W → Option (List W × Gd)) (f : DenA) : DenI := fun ρ h => (f ρ h).bind fun ws h1 => match r h1 ws with
  | some q => .ok q h1
  | none => .bad
theorem di_zip (hK : X.K = B.K) (hg : Gl X "zip") (hm : X.mg "zip" = none) {p tpos : Pos} {elts : List Expr} {kk : Nat} {a b : Expr} (ha : isStar a = false) (hb : isStar b = false) (d : DA B Wx X [a, b] fa) : DI B Wx X (.Tuple elts kk tpos) (.Call (.Name "zip" p) [a, b] [] pos) (cItS zipOf fa) := by
  refine ⟨fun pins s σ H R I ⟨m, h, ρ, S, sl, q⟩ => ?_⟩
  refine (RZ.pi_zipA (elts := elts) (kk := kk) (tpos := tpos) hg hm d (starEach_cons ha) (any_plain pos (by simp [hb]))).run pins s σ H R I ⟨m, h, ρ, S, sl, q.bind.imp fun ws h1 m1 H1 S1 G1 p1 vs r => ?_⟩
  cases e : zipOf h1 ws with
  | none => rw [e] at p1; exact p1.elim
  | some q =>
    rw [e] at p1
    unfold zipOf at e
    split at e
    · rename_i w1 w2
      cases e
      unfold reps at r
      obtain ⟨v, t, rfl, r1, r⟩ := r
      unfold reps at r
      obtain ⟨v2, t, rfl, r2, r⟩ := r
      unfold reps at r
      subst r
      obtain ⟨x, xs, rfl, qx, rx⟩ := r1.tup_
      obtain ⟨y, ys, rfl, qy, ry⟩ := r2.tup_
      rw [hK]
      exact ⟨x, y, xs, ys, rfl, .inr ⟨qx, qy, p1.here S1 _ (Iw.zipT qx qy rx ry)⟩⟩
    · rename_i n k
      split at e
      · rename_i w1 w2 z1 z2
        cases e
        unfold reps at r
        obtain ⟨v, t, rfl, r1, r⟩ := r
        unfold reps at r
        obtain ⟨v2, t, rfl, r2, r⟩ := r
        unfold reps at r
        subst r
        obtain ⟨x, rfl, hx⟩ := r1.ref_
        obtain ⟨y, rfl, hy⟩ := r2.ref_
        obtain ⟨xs, qx, rx⟩ := lst_at S1 hx z1
        obtain ⟨ys, qy, ry⟩ := lst_at S1 hy z2
        rw [hK]
        exact ⟨x, y, xs, ys, rfl, .inl ⟨qx, qy, p1.here S1 _ (Iw.zipL hx hy)⟩⟩
      · cases e
    · cases e
theorem di_enum (hK : X.K = B.K) (hg : Gl X "enumerate") (hm : X.mg "enumerate" = none) {p tpos : Pos} {elts : List Expr} {kk : Nat} {a : Expr} (ha : isStar a = false) (d : DA B Wx X [a] fa) : DI B Wx X (.Tuple elts kk tpos) (.Call (.Name "enumerate" p) [a] [] pos) (cItS enumOf fa) := by
  refine ⟨fun pins s σ H R I ⟨m, h, ρ, S, sl, q⟩ => ?_⟩
  refine (pi_enum (elts := elts) (kk := kk) (tpos := tpos) hg hm d (starEach_plain1 ha)).run pins s σ H R I ⟨m, h, ρ, S, sl, q.bind.imp fun ws h1 m1 H1 S1 G1 p1 vs r => ?_⟩
  cases e : enumOf h1 ws with
  | none => rw [e] at p1; exact p1.elim
  | some q =>
    rw [e] at p1
    unfold enumOf at e
    split at e
    · rename_i n
      cases z : lst? h1 n with
      | none => rw [z] at e; cases e
      | some us =>
        rw [z] at e
        cases e
        unfold reps at r
        obtain ⟨v, t, rfl, r1, r⟩ := r
        unfold reps at r
        subst r
        obtain ⟨x, rfl, hx⟩ := r1.ref_
        obtain ⟨xs, qx, rx⟩ := lst_at S1 hx z
        rw [hK]
        exact ⟨x, xs, rfl, qx, p1.here S1 _ (Iw.enumL hx)⟩
    · cases e
theorem dl_list (da : DA B Wx X es fa) : DL B Wx X (.List es pos) (fun ρ h => (fa ρ h).bind fun ws h1 => if ws.length ≤ 16777216 then .ok ws h1 else .bad) := by
  refine ⟨fun pins s σ H Q I ⟨m, h, ρ, S, sl, p⟩ => ?_⟩
  refine (pe_lst (pos := pos) da).run pins s σ H Q I ⟨m, h, ρ, S, sl, p.bind.imp fun ws h1 m1 H1 S1 G1 p1 xs r1 => ?_⟩
  by_cases c : ws.length ≤ 16777216
  · rw [if_pos c] at p1
    refine ⟨by rw [sizeLine_eq, ← r1.length]; exact c, fun a ha => ?_⟩
    have hn : H a = none := fresh_of S1 G1 ha
    exact p1 m1 _ (S1.more ha) (Go.more ha) a xs upd_same (notin_of S1 ha) hn ((Go.more (m := m1) ha).reps r1)
  · rw [if_neg c] at p1
    exact p1.elim
end
end Wv
end
section
set_option Elab.async false
set_option linter.all false
set_option maxRecDepth 100000
set_option maxHeartbeats 4000000
/-! Core G of ours: list comprehensions. -/
namespace Wv
open PySem PySem.Spec L2
open PyProof.Rows hiding St

abbrev WF0 : WX := fun _ _ _ _ => False
def wipeR (ρ : Rho) : List Nat → Rho
  | [] => ρ
  | v :: vs => (wipeR ρ vs).set v none
theorem slots.wipe {B : Base} {m : List Addr} {H : Hp} {ρ : Rho} {σ : St} (s : slots B m H ρ σ) : ∀ vs : List Nat, slots B m H (wipeR ρ vs) (L2.wipe σ vs)
  | [] => s
  | v :: vs => (slots.wipe s vs).clear v
theorem wipe_in {σ : St} {i : Nat} : ∀ {vs : List Nat}, i ∈ vs → (L2.wipe σ vs)[i]? = if i < σ.length then some none else none
  | v :: vs, h => by
    show ((L2.wipe σ vs).set v none)[i]? = _
    by_cases hv : v = i
    · subst hv
      rw [List.getElem?_set]
      simp [wipe_length]
    · rw [List.getElem?_set_ne hv]
      exact wipe_in ((List.mem_cons.mp h).resolve_left fun z => hv z.symm)
theorem wipe_eq {a b : St} {vs : List Nat} (hl : a.length = b.length) (h : ∀ i, i ∉ vs → a[i]? = b[i]?) : L2.wipe a vs = L2.wipe b vs := by
  apply List.ext_getElem?
  intro i
  by_cases hi : i ∈ vs
  · rw [wipe_in hi, wipe_in hi, hl]
  · rw [wipe_out hi, wipe_out hi, h i hi]
theorem wipe_wipe {σ : St} {vs : List Nat} : L2.wipe (L2.wipe σ vs) vs = L2.wipe σ vs := wipe_eq (wipe_length _ _) fun _ hi => wipe_out hi
theorem Go.upd_un {m m' : List Addr} {H H' : Hp} {D : Addr} {o : HO} (G : Go m H m' H') (hD : H D = none) : Go m H m' (upd H' D o) := by
  refine ⟨G.pre, fun a u e hm => ?_, ⟨fun a xs e => ?_, fun a ob u e => ?_⟩⟩
  · rw [upd_ne (ne_of_none e hD)]
    exact G.keep a u e hm
  · have ne : a ≠ D := by
      rintro rfl
      rcases e with e | ⟨u, e⟩ <;> rw [hD] at e <;> cases e
    rcases G.tup.t a xs e with q | ⟨u, q⟩
    · exact .inl (by rw [upd_ne ne]; exact q)
    · exact .inr ⟨u, by rw [upd_ne ne]; exact q⟩
  · rw [upd_ne (ne_of_none e hD)]
    exact G.tup.f a ob u e
theorem lst_not (vs : List V) : (∀ xs : List V, HO.lst vs ≠ .tup xs) ∧ ∀ ob u, HO.lst vs ≠ .frz ob u := And.intro (fun _ z => by cases z) (fun _ _ z => by cases z)
/-- an unnamed tracked object stays unnamed -/
theorem Go.un {m m' : List Addr} {H H' : Hp} {D : Addr} {o : HO} (G : Go m H m' H') (e : H D = some o) (hm : D ∉ m) : D ∉ m' := by
  obtain ⟨t, e1, f⟩ := G.pre
  rw [e1, List.mem_append, not_or]
  refine ⟨hm, fun z => ?_⟩
  rw [f D z] at e
  cases e

mutual
theorem Tgt.bind_len : ∀ {t : Tgt} {w : W} {ρ ρ' : Rho}, t.bind w ρ = some ρ' → ρ'.length = ρ.length
  | .nm i, w, ρ, ρ', e => by
    unfold Tgt.bind at e
    cases e
    exact List.length_set
  | .tp ts, w, ρ, ρ', e => by
    cases w with
    | tup ws =>
      unfold Tgt.bind at e
      exact Tgt.bindAll_len e
    | _ => unfold Tgt.bind at e; cases e
theorem Tgt.bindAll_len : ∀ {ts : List Tgt} {ws : List W} {ρ ρ' : Rho}, Tgt.bindAll ts ws ρ = some ρ' → ρ'.length = ρ.length
  | [], [], ρ, ρ', e => by
    unfold Tgt.bindAll at e
    cases e
    rfl
  | t :: ts, w :: ws, ρ, ρ', e => by
    unfold Tgt.bindAll at e
    cases q : t.bind w ρ with
    | none => rw [q] at e; cases e
    | some r =>
      rw [q] at e
      exact (Tgt.bindAll_len (ρ := r) e).trans (Tgt.bind_len q)
  | [], _ :: _, _, _, e => by unfold Tgt.bindAll at e; cases e
  | _ :: _, [], _, _, e => by unfold Tgt.bindAll at e; cases e
end
theorem GoF.then {Hs : Hp} {m m1 m2 : List Addr} {H H1 H2 : Hp} (nd : m2.Nodup) (F : GoF Hs m H m1 H1) (G : Go m1 H1 m2 H2) : GoF Hs m H m2 H2 := by
  obtain ⟨t, e, f⟩ := F.pre
  obtain ⟨t2, e2, f2⟩ := G.pre
  have out : ∀ a o, Hs a = none → H a = some o → a ∉ m → a ∉ m1 := fun a o h1 h2 h3 hm => by
    rw [e] at hm
    rcases List.mem_append.mp hm with hm | hm
    · exact h3 hm
    · rw [f a hm h1] at h2
      cases h2
  refine ⟨⟨t ++ t2, by rw [e2, e, List.append_assoc], fun a ha hs => ?_⟩, fun a o h1 h2 h3 => G.keep a o (F.keep a o h1 h2 h3) (out a o h1 h2 h3), F.tup.trans G.tup⟩
  rcases List.mem_append.mp ha with ha | ha
  · exact f a ha hs
  · cases q : H a with
    | none => rfl
    | some o =>
      by_cases hm : a ∈ m
      · rw [e2, e] at nd
        exact absurd rfl ((List.nodup_append.mp nd).2.2 a (List.mem_append_left _ hm) a ha)
      · have z := F.keep a o hs q hm
        rw [f2 a ha] at z
        cases z
theorem GoF.upd_un {Hs : Hp} {m m' : List Addr} {H H' : Hp} {D : Addr} {u o : HO} (F : GoF Hs m H m' H') (hD : Hs D = some u) (t : TupIn H' (upd H' D o)) : GoF Hs m H m' (upd H' D o) := by
  refine ⟨F.pre, fun a x h1 h2 h3 => ?_, F.tup.trans t⟩
  rw [upd_ne (fun z => by rw [z, hD] at h1; cases h1)]
  exact F.keep a x h1 h2 h3
open Classical in
/-- the loop of a comprehension -/
noncomputable def compL (g : Gd) (T : Tgt) (tt : DenT) (te : Den) (ρ0 : Rho) : List W → List W → Store → Out (List W)
  | [], acc, h => if gdOk g h then .ok acc h else .bad
  | w :: ws, acc, h => if gdOk g h then (match T.bind w ρ0 with
    | none => .bad
    | some ρ1 => match tt ρ1 h with
      | .ok true h1 => (match te ρ1 h1 with
        | .ok v h2 => if acc.length < 16777216 then compL g T tt te ρ0 ws (acc ++ [v]) h2 else .bad
        | _ => .bad)
      | .ok false h1 => compL g T tt te ρ0 ws acc h1
      | _ => .bad) else .bad
noncomputable def cComp (fi : DenI) (vs : List Nat) (T : Tgt) (tt : DenT) (te : Den) : DenA := fun ρ h => (fi ρ h).bind fun q h1 => compL q.2 T tt te (wipeR ρ vs) q.1 [] h1

section
variable {B : Base} {Wx : WX} {X : Cx}
/-- tests of a comprehension -/
def DTs (B : Base) (Wx : WX) (X : Cx) (ifs : List Expr) (t : DenT) : Prop := PTs X ifs (tDT B Wx t)
theorem dts_nil : DTs B Wx X [] (fun _ h => .ok true h) := ⟨fun pins s σ H Q I ⟨m, h, ρ, S, sl, p⟩ => pts_nil.run pins s σ H Q I (p.here S)⟩
theorem dts_one {c : Expr} {t : DenT} (d : DT B Wx X c t) : DTs B Wx X [c] t := pts_one d
theorem lc_read {fi : DenI} {T : Tgt} {tt : DenT} {te : Den} {vs : List Nat} (hT : ∀ i ∈ T.slots, i ∈ vs) {σ : St} {H : Hp} {Q : VK} (hh : tDL B Wx (cComp fi vs T tt te) σ H Q) : tLc (tDI B Wx fi) (tDG B T) (tDT B WF0 tt) (tD B WF0 te) vs σ H Q := by
  obtain ⟨m, h, ρ, S, sl, p⟩ := hh
  refine ⟨m, h, ρ, S, sl, p.bind.imp fun q h1 m1 H1 S1 G1 p1 J w D hD => ?_⟩
  have hDm : D ∉ m1 := notin_of S1 hD
  have hDH : H D = none := fresh_of S1 G1 hD
  have sl1 := (sl.go G1).wipe vs
  refine ⟨fun i k Hc => ∃ (m2 : List Addr) (h2 : Store) (accW : List W) (accV : List V), Sim B m2 h2 Hc ∧ Go m1 H1 m2 Hc ∧ Hc D = some (.lst accV) ∧ D ∉ m2 ∧ reps B m2 Hc accW accV ∧ i + k = q.1.length ∧
    PV B m1 H1 (compL q.2 T tt te (wipeR ρ vs) (q.1.drop i) accW h2) (fun ws _ m' H' => ∀ a vs, H' a = some (.lst vs) → a ∉ m' → H a = none → reps B m' H' ws vs → Q (.ref a) H') (XS B Wx σ),
    ⟨q.1.length, m1, h1, [], [], S1.more hD, Go.more hD, upd_same, hDm, .nil, by omega, p1⟩, fun i k Hc hW => ?_⟩
  obtain ⟨m2, h2, accW, accV, S2, G2, eD, hm2, ra, hik, pv⟩ := hW
  by_cases hlt : i < q.1.length
  · -- a turn
    rw [List.drop_eq_getElem_cons hlt] at pv
    unfold compL at pv
    by_cases hgd : gdOk q.2 h2
    · rw [if_pos hgd] at pv
      refine .inr ⟨w.go i m2 h2 Hc G2.toF S2 hgd hlt, fun H' => ∃ (m2 : List Addr) (h2 : Store) (accW : List W) (accV : List V), Sim B m2 h2 H' ∧ Go m1 H1 m2 H' ∧ H' D = some (.lst accV) ∧ D ∉ m2 ∧ reps B m2 H' accW accV ∧
        PV B m1 H1 (compL q.2 T tt te (wipeR ρ vs) (q.1.drop (i + 1)) accW h2) (fun ws _ m' H' => ∀ a vs, H' a = some (.lst vs) → a ∉ m' → H a = none → reps B m' H' ws vs → Q (.ref a) H') (XS B Wx σ),
        fun H' ⟨m3, h3, aw, av, x1, x2, x3, x4, x5, x6⟩ => ⟨k - 1, by omega, m3, h3, aw, av, x1, x2, x3, x4, x5, by omega, x6⟩, fun x H3 hy => ?_⟩
      obtain ⟨S3, G3, r3⟩ := w.yld i _ m2 h2 Hc x H3 G2.toF S2 hgd (List.getElem?_eq_getElem hlt) hy
      have sl3 := ((sl1.go G2).go G3)
      cases eb : T.bind q.1[i] (wipeR ρ vs) with
      | none =>
        rw [eb] at pv
        exact pv.elim
      | some ρ1 =>
        rw [eb] at pv
        dsimp only at pv
        refine ⟨m2, h2, _, _, ρ1, S3, sl3, r3, eb, fun σ2 sl4 f2 => ⟨?_, ?_⟩⟩
        · rw [← wipe_wipe (σ := σ)]
          refine wipe_eq ?_ fun j hj => f2 j fun z => hj (hT j z)
          have z1 := sl4.1
          have z2 := sl3.1
          rw [z2]
          rw [z1, Tgt.bind_len eb]
        · have G13 : Go m1 H1 m2 H3 := G2.trans S3.nd G3
          have eD3 : H3 D = some (.lst accV) := G3.keep _ _ eD hm2
          refine ⟨m2, h2, ρ1, S3, sl4, ?_⟩
          cases et : tt ρ1 h2 with
          | bad =>
            rw [et] at pv
            exact pv.elim
          | exc x h4 =>
            rw [et] at pv
            exact pv.elim
          | ok b h4 =>
            rw [et] at pv
            refine fun m4 H4 S4 G4 => ?_
            have eD4 : H4 D = some (.lst accV) := G4.keep _ _ eD3 hm2
            have hm4 : D ∉ m4 := G4.un eD3 hm2
            cases b with
            | false =>
              refine iteF ?_
              exact ⟨m4, h4, accW, accV, S4, G13.trans S4.nd G4, eD4, hm4, G4.reps (G3.reps ra), pv⟩
            | true =>
              refine iteT ⟨m4, h4, ρ1, S4, sl4.go G4, ?_⟩
              dsimp only at pv
              cases ee : te ρ1 h4 with
              | bad =>
                rw [ee] at pv
                exact pv.elim
              | exc x h5 =>
                rw [ee] at pv
                exact pv.elim
              | ok v h5 =>
                rw [ee] at pv
                dsimp only at pv
                refine fun m5 H5 S5 G5 y ry => ?_
                have eD5 : H5 D = some (.lst accV) := G5.keep _ _ eD4 hm4
                have hm5 : D ∉ m5 := G5.un eD4 hm4
                have r5 := G5.reps (G4.reps (G3.reps ra))
                by_cases hz : accW.length < 16777216
                · rw [if_pos hz] at pv
                  have G15 : Go m1 H1 m5 (upd H5 D (.lst (accV ++ [y]))) := ((G13.trans S4.nd G4).trans S5.nd G5).upd_un hD
                  have tu : TupIn H5 (upd H5 D (.lst (accV ++ [y]))) := TupIn.upd_at eD5 (lst_not _)
                  have st : ∀ (w : W) (u : V), rep B m5 H5 w u → rep B m5 (upd H5 D (.lst (accV ++ [y]))) w u := fun w u z => rep.stay tu ⟨[], (List.append_nil m5).symm⟩ w u z
                  have st2 : ∀ (w : List W) (u : List V), reps B m5 H5 w u → reps B m5 (upd H5 D (.lst (accV ++ [y]))) w u := fun w u z => reps.stay tu ⟨[], (List.append_nil m5).symm⟩ w u z
                  exact ⟨accV, eD5, by rw [sizeLine_eq, ← r5.length]; exact hz, m5, h5, accW ++ [v], accV ++ [y], S5.other eD5 (lst_not _) hm5, G15, upd_same, hm5, (st2 _ _ r5).append (.cons (st _ _ ry) .nil), pv⟩
                · rw [if_neg hz] at pv
                  exact pv.elim
    · rw [if_neg hgd] at pv
      exact pv.elim
  · -- the end
    have e0 : q.1.drop i = [] := List.drop_eq_nil_of_le (by omega)
    rw [e0] at pv
    unfold compL at pv
    by_cases hgd : gdOk q.2 h2
    · rw [if_pos hgd] at pv
      have z := w.stop m2 h2 Hc G2.toF S2 hgd
      have ei : i = q.1.length := by omega
      rw [ei]
      exact .inl ⟨z, pv m2 Hc S2 G2 D accV eD hm2 hDH ra⟩
    · rw [if_neg hgd] at pv
      exact pv.elim
theorem dl_comp {elt tg iter : Expr} {ifs : List Expr} {scope : Scope} {own : List (Str × Nat)} {pos : Pos} {fi : DenI} {T : Tgt} {tt : DenT} {te : Den} (hc : X.calm = true) (hN : X.N.Nodup) (hi : DI B Wx X tg iter fi) (ok : BlkOk X.N X.env.scope scope own)
    (hT : ∀ i ∈ T.slots, i ∈ own.map (·.2))
    (hg : ∀ (s : Shared) (H : Hp) (C : Addr) (cl : List (Str × Addr)) (fp : List Addr), DG B (X.blk s H scope (compEnvC scope cl C X.env) fp) tg T)
    (ht : ∀ (s : Shared) (H : Hp) (C : Addr) (cl : List (Str × Addr)) (fp : List Addr), DTs B WF0 (X.blk s H scope (compEnvC scope cl C X.env) fp) ifs tt)
    (he : ∀ (s : Shared) (H : Hp) (C : Addr) (cl : List (Str × Addr)) (fp : List Addr), DE B WF0 (X.blk s H scope (compEnvC scope cl C X.env) fp) elt te)
    (hs : ∀ x, foldedSetIterable iter X.env x = pure x) : DL B Wx X (.ListComp elt [⟨tg, iter, ifs, 0⟩] scope pos) (cComp fi (own.map (·.2)) T tt te) :=
  ⟨fun pins s σ H Q I hh => (pe_lc hc hN hi ok hg ht he hs).run pins s σ H Q I (lc_read hT hh)⟩
end
open Classical in
/-- two fors -/
noncomputable def comp2L (g : Gd) (T : Tgt) (tt : DenT) (fi1 : DenI) (vs1 : List Nat) (T1 : Tgt) (tt1 : DenT) (te : Den) (ρ0 : Rho) : List W → List W → Store → Out (List W)
  | [], acc, h => if gdOk g h then .ok acc h else .bad
  | w :: ws, acc, h => if gdOk g h then (match T.bind w ρ0 with
    | none => .bad
    | some ρ1 => match tt ρ1 h with
      | .ok true h1 => (match fi1 ρ1 h1 with
        | .ok q h2 => (match compL q.2 T1 tt1 te (wipeR ρ1 vs1) q.1 acc h2 with
          | .ok acc' h3 => comp2L g T tt fi1 vs1 T1 tt1 te ρ0 ws acc' h3
          | _ => .bad)
        | _ => .bad)
      | .ok false h1 => comp2L g T tt fi1 vs1 T1 tt1 te ρ0 ws acc h1
      | _ => .bad) else .bad
noncomputable def cComp2 (fi : DenI) (vs : List Nat) (T : Tgt) (tt : DenT) (fi1 : DenI) (vs1 : List Nat) (T1 : Tgt) (tt1 : DenT) (te : Den) : DenA := fun ρ h => (fi ρ h).bind fun q h1 => comp2L q.2 T tt fi1 vs1 T1 tt1 te (wipeR ρ vs) q.1 [] h1
section
variable {B : Base} {Wx : WX} {X : Cx}
theorem lc2_read {fi fi1 : DenI} {T T1 : Tgt} {tt tt1 : DenT} {te : Den} {vs vs1 : List Nat} (hT : ∀ i ∈ T.slots, i ∈ vs) (hT1 : ∀ i ∈ T1.slots, i ∈ vs1) {σ : St} {H : Hp} {Q : VK} (hh : tDL B Wx (cComp2 fi vs T tt fi1 vs1 T1 tt1 te) σ H Q) :
    tLc2 (tDI B Wx fi) (tDG B T) (tDT B WF0 tt) (tDI B WF0 fi1) (tDG B T1) (tDT B WF0 tt1) (tD B WF0 te) vs vs1 σ H Q := by
  obtain ⟨m, h, ρ, S, sl, p⟩ := hh
  refine ⟨m, h, ρ, S, sl, p.bind.imp fun q h1 m1 H1 S1 G1 p1 J w D hD => ?_⟩
  have hDm : D ∉ m1 := notin_of S1 hD
  have hDH : H D = none := fresh_of S1 G1 hD
  have sl1 := (sl.go G1).wipe vs
  refine ⟨fun i k Hc => ∃ (m2 : List Addr) (h2 : Store) (accW : List W) (accV : List V), Sim B m2 h2 Hc ∧ Go m1 H1 m2 Hc ∧ Hc D = some (.lst accV) ∧ D ∉ m2 ∧ reps B m2 Hc accW accV ∧ i + k = q.1.length ∧
    PV B m1 H1 (comp2L q.2 T tt fi1 vs1 T1 tt1 te (wipeR ρ vs) (q.1.drop i) accW h2) (fun ws _ m' H' => ∀ a vs, H' a = some (.lst vs) → a ∉ m' → H a = none → reps B m' H' ws vs → Q (.ref a) H') (XS B Wx σ),
    ⟨q.1.length, m1, h1, [], [], S1.more hD, Go.more hD, upd_same, hDm, .nil, by omega, p1⟩, fun i k Hc hW => ?_⟩
  obtain ⟨m2, h2, accW, accV, S2, G2, eD, hm2, ra, hik, pv⟩ := hW
  by_cases hlt : i < q.1.length
  · rw [List.drop_eq_getElem_cons hlt] at pv
    unfold comp2L at pv
    by_cases hgd : gdOk q.2 h2
    · rw [if_pos hgd] at pv
      refine .inr ⟨w.go i m2 h2 Hc G2.toF S2 hgd hlt, fun H' => ∃ (m2 : List Addr) (h2 : Store) (accW : List W) (accV : List V), Sim B m2 h2 H' ∧ Go m1 H1 m2 H' ∧ H' D = some (.lst accV) ∧ D ∉ m2 ∧ reps B m2 H' accW accV ∧
        PV B m1 H1 (comp2L q.2 T tt fi1 vs1 T1 tt1 te (wipeR ρ vs) (q.1.drop (i + 1)) accW h2) (fun ws _ m' H' => ∀ a vs, H' a = some (.lst vs) → a ∉ m' → H a = none → reps B m' H' ws vs → Q (.ref a) H') (XS B Wx σ),
        fun H' ⟨m3, h3, aw, av, x1, x2, x3, x4, x5, x6⟩ => ⟨k - 1, by omega, m3, h3, aw, av, x1, x2, x3, x4, x5, by omega, x6⟩, fun x H3 hy => ?_⟩
      obtain ⟨S3, G3, r3⟩ := w.yld i _ m2 h2 Hc x H3 G2.toF S2 hgd (List.getElem?_eq_getElem hlt) hy
      have sl3 := ((sl1.go G2).go G3)
      cases eb : T.bind q.1[i] (wipeR ρ vs) with
      | none =>
        rw [eb] at pv
        exact pv.elim
      | some ρ1 =>
        rw [eb] at pv
        dsimp only at pv
        refine ⟨m2, h2, _, _, ρ1, S3, sl3, r3, eb, fun σ2 sl4 f2 => ⟨?_, ?_⟩⟩
        · rw [← wipe_wipe (σ := σ)]
          refine wipe_eq ?_ fun j hj => f2 j fun z => hj (hT j z)
          have z1 := sl4.1
          have z2 := sl3.1
          rw [z2]
          rw [z1, Tgt.bind_len eb]
        · have G13 : Go m1 H1 m2 H3 := G2.trans S3.nd G3
          have eD3 : H3 D = some (.lst accV) := G3.keep _ _ eD hm2
          refine ⟨m2, h2, ρ1, S3, sl4, ?_⟩
          cases et : tt ρ1 h2 with
          | bad =>
            rw [et] at pv
            exact pv.elim
          | exc x h4 =>
            rw [et] at pv
            exact pv.elim
          | ok b h4 =>
            rw [et] at pv
            refine fun m4 H4 S4 G4 => ?_
            have eD4 : H4 D = some (.lst accV) := G4.keep _ _ eD3 hm2
            have hm4 : D ∉ m4 := G4.un eD3 hm2
            cases b with
            | false =>
              refine iteF ?_
              exact ⟨m4, h4, accW, accV, S4, G13.trans S4.nd G4, eD4, hm4, G4.reps (G3.reps ra), pv⟩
            | true =>
              refine iteT ⟨m4, h4, ρ1, S4, sl4.go G4, ?_⟩
              dsimp only at pv
              cases ef : fi1 ρ1 h4 with
              | bad =>
                rw [ef] at pv
                exact pv.elim
              | exc x h5 =>
                rw [ef] at pv
                exact pv.elim
              | ok q1 h5 =>
                rw [ef] at pv
                dsimp only at pv
                refine fun m5 H5 S5 G5 J1 w1 => ?_
                have eD5 : H5 D = some (.lst accV) := G5.keep _ _ eD4 hm4
                have hm5 : D ∉ m5 := G5.un eD4 hm4
                have r5 := G5.reps (G4.reps (G3.reps ra))
                have sl5 := ((sl4.go G4).go G5).wipe vs1
                have G15 : Go m1 H1 m5 H5 := (G13.trans S4.nd G4).trans S5.nd G5
                cases ec : compL q1.2 T1 tt1 te (wipeR ρ1 vs1) q1.1 accW h5 with
                | bad =>
                  rw [ec] at pv
                  exact pv.elim
                | exc x h6 =>
                  rw [ec] at pv
                  exact pv.elim
                | ok accE hE =>
                  rw [ec] at pv
                  dsimp only at pv
                  -- the inner loop, by its known outcome
                  refine ⟨fun j k Hc => ∃ (m6 : List Addr) (h6 : Store) (aW : List W) (aV : List V), Sim B m6 h6 Hc ∧ Go m1 H1 m6 Hc ∧ GoF H4 m5 H5 m6 Hc ∧ Hc D = some (.lst aV) ∧ D ∉ m6 ∧ reps B m6 Hc aW aV ∧ j + k = q1.1.length ∧
                    compL q1.2 T1 tt1 te (wipeR ρ1 vs1) (q1.1.drop j) aW h6 = .ok accE hE,
                    ⟨q1.1.length, m5, h5, accW, accV, S5, G15, Go.refl.toF, eD5, hm5, r5, by omega, ec⟩, fun j k Hc hW => ?_⟩
                  obtain ⟨m6, h6, aW, aV, S6, G16, F6, eD6, hm6, r6, hjk, ec6⟩ := hW
                  have sl6 : slots B m6 Hc (wipeR ρ1 vs1) (L2.wipe σ2 vs1) := ⟨sl5.1, fun i w e => let ⟨v, e1, r⟩ := sl5.2 i w e; ⟨v, e1, rep.stay F6.tup (let ⟨t, e, _⟩ := F6.pre; ⟨t, e⟩) w v r⟩⟩
                  by_cases hjt : j < q1.1.length
                  · rw [List.drop_eq_getElem_cons hjt] at ec6
                    unfold compL at ec6
                    by_cases hg6 : gdOk q1.2 h6
                    · rw [if_pos hg6] at ec6
                      refine .inr ⟨w1.go j m6 h6 Hc F6 S6 hg6 hjt, fun H' => ∃ (m6 : List Addr) (h6 : Store) (aW : List W) (aV : List V), Sim B m6 h6 H' ∧ Go m1 H1 m6 H' ∧ GoF H4 m5 H5 m6 H' ∧ H' D = some (.lst aV) ∧ D ∉ m6 ∧ reps B m6 H' aW aV ∧
                          compL q1.2 T1 tt1 te (wipeR ρ1 vs1) (q1.1.drop (j + 1)) aW h6 = .ok accE hE,
                        fun H' ⟨m3, h3, aw, av, x1, x2, x3, x4, x5, x6, x7⟩ => ⟨k - 1, by omega, m3, h3, aw, av, x1, x2, x3, x4, x5, x6, by omega, x7⟩, fun y H7 hy1 => ?_⟩
                      obtain ⟨S7, G7, r7⟩ := w1.yld j _ m6 h6 Hc y H7 F6 S6 hg6 (List.getElem?_eq_getElem hjt) hy1
                      have sl7 := sl6.go G7
                      have eD7 : H7 D = some (.lst aV) := G7.keep _ _ eD6 hm6
                      have F7 : GoF H4 m5 H5 m6 H7 := F6.then S7.nd G7
                      cases eb1 : T1.bind q1.1[j] (wipeR ρ1 vs1) with
                      | none =>
                        rw [eb1] at ec6
                        cases ec6
                      | some ρ2 =>
                        rw [eb1] at ec6
                        dsimp only at ec6
                        refine ⟨m6, h6, _, _, ρ2, S7, sl7, r7, eb1, fun σ3 sl8 f3 => ⟨?_, ?_⟩⟩
                        · rw [← wipe_wipe (σ := σ2)]
                          refine wipe_eq ?_ fun i hi => f3 i fun z => hi (hT1 i z)
                          have z1 := sl8.1
                          have z2 := sl7.1
                          rw [z2]
                          rw [z1, Tgt.bind_len eb1]
                        · refine ⟨m6, h6, ρ2, S7, sl8, ?_⟩
                          cases et1 : tt1 ρ2 h6 with
                          | bad =>
                            rw [et1] at ec6
                            cases ec6
                          | exc x h4 =>
                            rw [et1] at ec6
                            cases ec6
                          | ok b1 h8 =>
                            rw [et1] at ec6
                            refine fun m8 H8 S8 G8 => ?_
                            have eD8 : H8 D = some (.lst aV) := G8.keep _ _ eD7 hm6
                            have hm8 : D ∉ m8 := G8.un eD7 hm6
                            have F8 : GoF H4 m5 H5 m8 H8 := F7.then S8.nd G8
                            have G18 : Go m1 H1 m8 H8 := (G16.trans S7.nd G7).trans S8.nd G8
                            cases b1 with
                            | false => exact iteF ⟨m8, h8, aW, aV, S8, G18, F8, eD8, hm8, G8.reps (G7.reps r6), ec6⟩
                            | true =>
                              refine iteT ⟨m8, h8, ρ2, S8, sl8.go G8, ?_⟩
                              dsimp only at ec6
                              cases ee1 : te ρ2 h8 with
                              | bad =>
                                rw [ee1] at ec6
                                cases ec6
                              | exc x h4 =>
                                rw [ee1] at ec6
                                cases ec6
                              | ok v h9 =>
                                rw [ee1] at ec6
                                dsimp only at ec6
                                refine fun m9 H9 S9 G9 u ru => ?_
                                have eD9 : H9 D = some (.lst aV) := G9.keep _ _ eD8 hm8
                                have hm9 : D ∉ m9 := G9.un eD8 hm8
                                have r9 := G9.reps (G8.reps (G7.reps r6))
                                by_cases hz : aW.length < 16777216
                                · rw [if_pos hz] at ec6
                                  have tu : TupIn H9 (upd H9 D (.lst (aV ++ [u]))) := TupIn.upd_at eD9 (lst_not _)
                                  have st : ∀ (w : W) (z : V), rep B m9 H9 w z → rep B m9 (upd H9 D (.lst (aV ++ [u]))) w z := fun w u z => rep.stay tu ⟨[], (List.append_nil m9).symm⟩ w u z
                                  have st2 : ∀ (w : List W) (z : List V), reps B m9 H9 w z → reps B m9 (upd H9 D (.lst (aV ++ [u]))) w z := fun w u z => reps.stay tu ⟨[], (List.append_nil m9).symm⟩ w u z
                                  exact ⟨aV, eD9, by rw [sizeLine_eq, ← r9.length]; exact hz, m9, h9, aW ++ [v], aV ++ [u], S9.other eD9 (lst_not _) hm9, (G18.trans S9.nd G9).upd_un hD, (F8.then S9.nd G9).upd_un eD4 tu, upd_same, hm9, (st2 _ _ r9).append (.cons (st _ _ ru) .nil), ec6⟩
                                · rw [if_neg hz] at ec6
                                  cases ec6
                    · rw [if_neg hg6] at ec6
                      cases ec6
                  · have e0 : q1.1.drop j = [] := List.drop_eq_nil_of_le (by omega)
                    rw [e0] at ec6
                    unfold compL at ec6
                    by_cases hg6 : gdOk q1.2 h6
                    · rw [if_pos hg6] at ec6
                      have z := w1.stop m6 h6 Hc F6 S6 hg6
                      have ej : j = q1.1.length := by omega
                      rw [ej]
                      injection ec6 with ea eh
                      subst ea eh
                      exact .inl ⟨z, m6, _, _, aV, S6, G16, eD6, hm6, r6, pv⟩
                    · rw [if_neg hg6] at ec6
                      cases ec6
    · rw [if_neg hgd] at pv
      exact pv.elim
  · have e0 : q.1.drop i = [] := List.drop_eq_nil_of_le (by omega)
    rw [e0] at pv
    unfold comp2L at pv
    by_cases hgd : gdOk q.2 h2
    · rw [if_pos hgd] at pv
      have z := w.stop m2 h2 Hc G2.toF S2 hgd
      have ei : i = q.1.length := by omega
      rw [ei]
      exact .inl ⟨z, pv m2 Hc S2 G2 D accV eD hm2 hDH ra⟩
    · rw [if_neg hgd] at pv
      exact pv.elim
theorem dl_comp2 {elt tg iter tg1 iter1 : Expr} {ifs ifs1 : List Expr} {scope : Scope} {own : List (Str × Nat)} {vs1 : List Nat} {pos : Pos} {fi fi1 : DenI} {T T1 : Tgt} {tt tt1 : DenT} {te : Den} (hc : X.calm = true) (hN : X.N.Nodup) (hi : DI B Wx X tg iter fi) (ok : BlkOk X.N X.env.scope scope own)
    (hT : ∀ i ∈ T.slots, i ∈ own.map (·.2)) (hT1 : ∀ i ∈ T1.slots, i ∈ vs1) (hv1 : ∀ i ∈ vs1, i ∈ own.map (·.2))
    (hg : ∀ (s : Shared) (H : Hp) (C : Addr) (cl : List (Str × Addr)) (fp : List Addr), DG B (X.blk s H scope (compEnvC scope cl C X.env) fp) tg T)
    (ht : ∀ (s : Shared) (H : Hp) (C : Addr) (cl : List (Str × Addr)) (fp : List Addr), DTs B WF0 (X.blk s H scope (compEnvC scope cl C X.env) fp) ifs tt)
    (hi1 : ∀ (s : Shared) (H : Hp) (C : Addr) (cl : List (Str × Addr)) (fp : List Addr), DI B WF0 (X.blk s H scope (compEnvC scope cl C X.env) fp) tg1 iter1 fi1)
    (hg1 : ∀ (s : Shared) (H : Hp) (C : Addr) (cl : List (Str × Addr)) (fp : List Addr), DG B (X.blk s H scope (compEnvC scope cl C X.env) fp) tg1 T1)
    (ht1 : ∀ (s : Shared) (H : Hp) (C : Addr) (cl : List (Str × Addr)) (fp : List Addr), DTs B WF0 (X.blk s H scope (compEnvC scope cl C X.env) fp) ifs1 tt1)
    (he : ∀ (s : Shared) (H : Hp) (C : Addr) (cl : List (Str × Addr)) (fp : List Addr), DE B WF0 (X.blk s H scope (compEnvC scope cl C X.env) fp) elt te)
    (hs : ∀ x, foldedSetIterable iter X.env x = pure x) (hs1 : ∀ env x, foldedSetIterable iter1 env x = pure x) :
    DL B Wx X (.ListComp elt [⟨tg, iter, ifs, 0⟩, ⟨tg1, iter1, ifs1, 0⟩] scope pos) (cComp2 fi (own.map (·.2)) T tt fi1 vs1 T1 tt1 te) :=
  ⟨fun pins s σ H Q I hh => (pe_lc2 hc hN hi ok hv1 hg ht hi1 hg1 ht1 he hs hs1).run pins s σ H Q I (lc2_read hT hT1 hh)⟩
end
end Wv
end
section
set_option Elab.async false
set_option linter.all false
set_option maxRecDepth 100000
set_option maxHeartbeats 4000000
/-! Core H of ours: calls of defs, of builtins, of methods. -/
namespace Wv
open PySem PySem.Spec L2
open PyProof.Rows hiding St

abbrev CallT := Str → List W → Store → Out W
/-- a def's promise by the plain call -/
def spD (B : Base) (call : CallT) (n : Nat) (f : Str) : Sp := fun vs H Q E => ∃ m h ws, Sim B m h H ∧ reps B m H ws vs ∧ ws.length = n ∧ PV B m H (call f ws h) (QE B Q) (fun e m' H' => ∀ cls d, repX B m' H' e cls d → E cls d H')
/-- defaults fill up from behind -/
def BindsW (B : Base) (fd : FuncData) (ps : List Str) (dw : List W) : Prop := ∀ j, j ≤ dw.length → ∃ vs ds, (∀ m H, reps B m H (dw.drop j) vs) ∧ Vals vs ds ∧ Binds B.K fd ps ds
theorem BindsW.nil {B : Base} {fd : FuncData} {ps : List Str} (h : Binds B.K fd ps []) : BindsW B fd ps [] := fun j _ => ⟨[], [], fun m H => by rw [List.drop_nil]; unfold reps; rfl, .nil, h⟩
theorem BindsW.full {B : Base} {fd : FuncData} {ps : List Str} {dw : List W} (h : BindsW B fd ps dw) : Binds B.K fd ps [] := by
  obtain ⟨vs0, ds0, hr0, hv0, hb⟩ := h dw.length (Nat.le_refl _)
  have e0 : vs0 = [] := by
    have := hr0 [] (fun _ => none)
    rw [List.drop_length] at this
    unfold reps at this
    exact this
  subst e0
  cases hv0
  exact hb
structure FnAt (B : Base) (call : CallT) (P : Program) (w : World) (mg : Str → Option Value) (base : Heap) (k : Nat) (f : Str) (n : Nat) (dw : List W) : Prop where
  ex : ∃ (fa : Addr) (fd : FuncData) (ps : List Str), mg f = some (.ref fa) ∧ B.G f = some (.ref fa) ∧ PySem.W.keepIn B.K (.ref fa) = true ∧ BindsW B fd ps dw ∧ FnOk P w B.K mg base (L2.CX P w) k fa fd ps (spD B call n f)
def fill (n : Nat) (dw ws : List W) : Option (List W) := if ws.length = n then some ws else if ws.length < n ∧ n ≤ ws.length + dw.length then some (ws ++ dw.drop (dw.length + ws.length - n)) else none

def cArgs (call : CallT) (n : Nat) (f : Str) (ws : List W) (h : Store) : Out W := if ws.length = n then call f ws h else .bad
def cCall (call : CallT) (n : Nat) (f : Str) (fa : DenA) : Den := fun ρ h => (fa ρ h).bind fun ws h1 => cArgs call n f ws h1
def cArgsD (call : CallT) (n : Nat) (dw : List W) (f : Str) (ws : List W) (h : Store) : Out W := match fill n dw ws with
  | some us => call f us h
  | none => .bad
def cCallD (call : CallT) (n : Nat) (dw : List W) (f : Str) (fa : DenA) : Den := fun ρ h => (fa ρ h).bind fun ws h1 => cArgsD call n dw f ws h1
def cCallV (call : CallT) (defs : Str → Option Nat) (dvs : Str → List W) (fc : Den) (fa : DenA) : Den := fun ρ h => (fc ρ h).bind fun w h1 => match w with
  | .glo f => (match defs f with
    | some n => (fa ρ h1).bind fun ws h2 => cArgsD call n (dvs f) f ws h2
    | none => .bad)
  | _ => .bad
section
variable {B : Base} {Wx : WX} {X : Cx} {call : CallT} {defs : Str → Option Nat} {dvs : Str → List W} {dw : List W} {k n : Nat} {f : Str} {e c : Expr} {es : List Expr} {fa : DenA} {fc : Den} {p pos : Pos}
/-- the callee runs, in place -/
theorem run_call (hK : X.K = B.K) (tk : Takes X Wx) (hr : Room k X.A) (F : FnAt B call X.prog X.w X.mg X.base k f n dw) {pins : List (Addr × Obj)} {s : Shared} {σ : St} {H : Hp} {m : List Addr} {h : Store} {Q : VK} {us : List Value} {vs : List V} {ws : List W} {a : Addr} (ha : B.G f = some (.ref a))
    (I : Inv X pins σ H s) (S : Sim B m h H) (r : Vals vs us) (q : reps B m H ws vs) (pv : PV B m H (cArgs call n f ws h) (QE B Q) (XS B Wx σ)) : wpAny (model X.prog X.w) X.A (PySem.call (.ref a) us) (EP X pins σ Q) X.xe s := by
  obtain ⟨fa, fd, ps, hm, hg, hk, hb, F⟩ := F.ex
  rw [hg] at ha
  cases ha
  have hb := hb.full
  rw [← hK] at hb F
  unfold cArgs at pv
  by_cases c : ws.length = n
  · rw [if_pos c] at pv
    exact run_fnS (E := WE Wx) F hr hb (passAt tk σ) I r ⟨m, h, ws, S, q, c, pv⟩
  · rw [if_neg c] at pv
    exact pv.elim
/-- the same, defaults filling up -/
theorem run_callD (hK : X.K = B.K) (tk : Takes X Wx) (hr : Room k X.A) (F : FnAt B call X.prog X.w X.mg X.base k f n dw) {pins : List (Addr × Obj)} {s : Shared} {σ : St} {H : Hp} {m : List Addr} {h : Store} {Q : VK} {us : List Value} {vs : List V} {ws : List W} {a : Addr} (ha : B.G f = some (.ref a))
    (I : Inv X pins σ H s) (S : Sim B m h H) (r : Vals vs us) (q : reps B m H ws vs) (pv : PV B m H (cArgsD call n dw f ws h) (QE B Q) (XS B Wx σ)) : wpAny (model X.prog X.w) X.A (PySem.call (.ref a) us) (EP X pins σ Q) X.xe s := by
  unfold cArgsD fill at pv
  by_cases c : ws.length = n
  · rw [if_pos c] at pv
    refine run_call hK tk hr F ha I S r q ?_
    unfold cArgs
    rw [if_pos c]
    exact pv
  · rw [if_neg c] at pv
    by_cases c2 : ws.length < n ∧ n ≤ ws.length + dw.length
    · rw [if_pos c2] at pv
      obtain ⟨fa, fd, ps, hm, hg, hk, hb, F⟩ := F.ex
      rw [hg] at ha
      cases ha
      obtain ⟨vs0, ds0, hr0, hv0, hb⟩ := hb (dw.length + ws.length - n) (by omega)
      rw [← hK] at hb F
      refine run_fnSD (E := WE Wx) F hr hb hv0 (passAt tk σ) I r ⟨m, h, ws ++ dw.drop (dw.length + ws.length - n), S, q.append (hr0 m H), ?_, pv⟩
      rw [List.length_append, List.length_drop]
      omega
    · rw [if_neg c2] at pv
      exact pv.elim
theorem de_callD (hK : X.K = B.K) (tk : Takes X Wx) (hr : Room k X.A) (F : FnAt B call X.prog X.w X.mg X.base k f n dw) (hg : Gl X f) (hd : (f == ("__debug__" : Str)) = false) (hs : (e :: es).all (fun e => !isStar e) = true) (da : DA B Wx X (e :: es) fa) :
    DE B Wx X (.Call (.Name f p) (e :: es) [] pos) (cCallD call n dw f fa) := by
  refine ⟨fun pins s σ H Q I ⟨m, h, ρ, S, sl, pv⟩ => ?_⟩
  obtain ⟨a, fd, ps, hm, hgg, hk, hb, _⟩ := F.ex
  rw [List.all_cons] at hs
  obtain ⟨h1, h2⟩ := Bool.and_eq_true_iff.mp hs
  refine wpAny_Call_Name_kw (ld_glob I hg hm ?_ hd)
  refine PySem.W.callWith_K (h₀ := X.base) I.ok.mod.kin (by rw [hK]; exact hk) (da.run I S sl pv.bind pos fun vs us s1 ws h3 m1 H1 I1 r1 S1 G1 q1 p1 => ⟨I1.kIn, ?_⟩) (starEach_cons (by simpa using h1)) (any_plain pos h2)
  exact run_callD hK tk hr F hgg I1 S1 r1 q1 p1
theorem de_call (hK : X.K = B.K) (tk : Takes X Wx) (hr : Room k X.A) (F : FnAt B call X.prog X.w X.mg X.base k f n dw) (hg : Gl X f) (hd : (f == ("__debug__" : Str)) = false) (hs : (e :: es).all (fun e => !isStar e) = true) (da : DA B Wx X (e :: es) fa) :
    DE B Wx X (.Call (.Name f p) (e :: es) [] pos) (cCall call n f fa) := by
  refine ⟨fun pins s σ H Q I ⟨m, h, ρ, S, sl, pv⟩ => ?_⟩
  obtain ⟨a, fd, ps, hm, hgg, hk, hb, _⟩ := F.ex
  rw [List.all_cons] at hs
  obtain ⟨h1, h2⟩ := Bool.and_eq_true_iff.mp hs
  refine wpAny_Call_Name_kw (ld_glob I hg hm ?_ hd)
  refine PySem.W.callWith_K (h₀ := X.base) I.ok.mod.kin (by rw [hK]; exact hk) (da.run I S sl pv.bind pos fun vs us s1 ws h3 m1 H1 I1 r1 S1 G1 q1 p1 => ⟨I1.kIn, ?_⟩) (starEach_cons (by simpa using h1)) (any_plain pos h2)
  exact run_call hK tk hr F hgg I1 S1 r1 q1 p1
theorem de_call0 (hK : X.K = B.K) (tk : Takes X Wx) (hr : Room k X.A) (F : FnAt B call X.prog X.w X.mg X.base k f n dw) (hg : Gl X f) (hd : (f == ("__debug__" : Str)) = false) : DE B Wx X (.Call (.Name f p) [] [] pos) (cCall call n f cNil) := by
  refine ⟨fun pins s σ H Q I ⟨m, h, ρ, S, sl, pv⟩ => ?_⟩
  obtain ⟨a, fd, ps, hm, hgg, hk, hb, _⟩ := F.ex
  refine wpAny_Call_Name_kw (ld_glob I hg hm ?_ hd)
  exact PySem.W.callWith_K0 I.kIn (by rw [hK]; exact hk) (run_call hK tk hr F hgg I S .nil .nil pv)
theorem de_callV (hK : X.K = B.K) (tk : Takes X Wx) (hr : Room k X.A) (F : ∀ f n, defs f = some n → FnAt B call X.prog X.w X.mg X.base k f n (dvs f)) (hs : (e :: es).all (fun e => !isStar e) = true) (dc : DE B Wx X c fc) (da : DA B Wx X (e :: es) fa)
    (he : eval (.Call c (e :: es) [] pos) X.env = (do callWith pos (← eval c X.env) [] (backTo pos (starEach (e :: es) X.env)) (backToKw pos (keywordEach [] X.env)))) :
    DE B Wx X (.Call c (e :: es) [] pos) (cCallV call defs dvs fc fa) := by
  refine ⟨fun pins s σ H Q I ⟨m, h, ρ, S, sl, pv⟩ => ?_⟩
  rw [List.all_cons] at hs
  obtain ⟨h1, h2⟩ := Bool.and_eq_true_iff.mp hs
  refine Call_ (dc.run I S sl pv.bind fun v u s1 w h3 m1 H1 I1 r1 S1 G1 q1 p1 => ?_) he
  cases w with
  | glo f =>
    unfold rep at q1
    dsimp only at p1
    cases z : defs f with
    | none =>
      rw [z] at p1
      exact p1.elim
    | some n =>
      rw [z] at p1
      dsimp only at p1
      have F1 := F f n z
      obtain ⟨a, fd, ps, hm, hgg, hk, hb, _⟩ := F1.ex
      rw [hgg] at q1
      cases q1
      cases (show u = Value.ref a from r1)
      refine PySem.W.callWith_K (h₀ := X.base) I.ok.mod.kin (by rw [hK]; exact hk) (da.run I1 S1 (sl.go G1) p1.bind pos fun vs us s2 ws h4 m2 H2 I2 r2 S2 G2 q2 p2 => ⟨I2.kIn, ?_⟩) (starEach_cons (by simpa using h1)) (any_plain pos h2)
      exact run_callD hK tk hr F1 hgg I2 S2 r2 q2 p2
  | _ => exact p1.elim

/-! ### builtins by values: one sequence -/
/-- a builtin or a built-in class f of one value that may be a sequence -/
def VC1 (B : Base) (X : Cx) (f : Value) (g : Bool → List W → Store → Opt) : Prop :=
  ∀ (t : Bool) (ws : List W) (m : List Addr) (h : Store) (H : Hp) (a : Addr) (vs : List V), Sim B m h H → seqAt B t H a vs → reps B m H ws vs → ∀ (pins : List (Addr × Obj)) (s : Shared) (σ : St) (us : List Value) (Q : VK), Inv X pins σ H s → Vals [.ref a] us → PO B m H (g t ws h) Q → wpAny (model X.prog X.w) X.A (PySem.call f us) (EP X pins σ Q) X.xe s
def cQ1 (g : Bool → List W → Store → Opt) (f : DenQ) : Den := fun ρ h => (f ρ h).bind fun q h1 => Out.of (g q.1 q.2 h1)
def tupQ (_ : Bool) (ws : List W) (h : Store) : Opt := some (.tup ws, h)
def lenQ (_ : Bool) (ws : List W) (h : Store) : Opt := some (.int ws.length, h)
def bls : List W → Option (List Bool)
  | [] => some []
  | .bl b :: ws => (bls ws).map (b :: ·)
  | _ => none
def intsW : List W → Option (List Int)
  | [] => some []
  | .int b :: ws => (intsW ws).map (b :: ·)
  | _ => none
def allQ (t : Bool) (ws : List W) (h : Store) : Opt := if t = true then none else (bls ws).map fun bs => (.bl (bs.all id), h)
def anyQ (t : Bool) (ws : List W) (h : Store) : Opt := if t = true then none else (bls ws).map fun bs => (.bl (bs.any id), h)
def sumQ (t : Bool) (ws : List W) (h : Store) : Opt := if t = true then none else (intsW ws).map fun ns => (.int ns.sum, h)
theorem bls_rep {m : List Addr} {H : Hp} : ∀ {ws : List W} {vs : List V} {bs : List Bool}, bls ws = some bs → reps B m H ws vs → vs = bs.map V.bl
  | [], vs, bs, e, r => by
    unfold bls at e
    cases e
    unfold reps at r
    exact r
  | .bl b :: ws, vs, bs, e, r => by
    unfold bls at e
    cases z : bls ws with
    | none => rw [z] at e; cases e
    | some bs' =>
      rw [z] at e
      cases e
      unfold reps at r
      obtain ⟨v, t, e1, r1, r2⟩ := r
      rw [e1, r1.bl_, bls_rep z r2]
      rfl
  | .non :: ws, vs, bs, e, r => by unfold bls at e; cases e
  | .int _ :: ws, vs, bs, e, r => by unfold bls at e; cases e
  | .str _ :: ws, vs, bs, e, r => by unfold bls at e; cases e
  | .tup _ :: ws, vs, bs, e, r => by unfold bls at e; cases e
  | .ref _ :: ws, vs, bs, e, r => by unfold bls at e; cases e
  | .glo _ :: ws, vs, bs, e, r => by unfold bls at e; cases e
  | .kls _ :: ws, vs, bs, e, r => by unfold bls at e; cases e
theorem intsW_rep {m : List Addr} {H : Hp} : ∀ {ws : List W} {vs : List V} {bs : List Int}, intsW ws = some bs → reps B m H ws vs → vs = bs.map V.int
  | [], vs, bs, e, r => by
    unfold intsW at e
    cases e
    unfold reps at r
    exact r
  | .int b :: ws, vs, bs, e, r => by
    unfold intsW at e
    cases z : intsW ws with
    | none => rw [z] at e; cases e
    | some bs' =>
      rw [z] at e
      cases e
      unfold reps at r
      obtain ⟨v, t, e1, r1, r2⟩ := r
      rw [e1, r1.int_, intsW_rep z r2]
      rfl
  | .non :: ws, vs, bs, e, r => by unfold intsW at e; cases e
  | .bl _ :: ws, vs, bs, e, r => by unfold intsW at e; cases e
  | .str _ :: ws, vs, bs, e, r => by unfold intsW at e; cases e
  | .tup _ :: ws, vs, bs, e, r => by unfold intsW at e; cases e
  | .ref _ :: ws, vs, bs, e, r => by unfold intsW at e; cases e
  | .glo _ :: ws, vs, bs, e, r => by unfold intsW at e; cases e
  | .kls _ :: ws, vs, bs, e, r => by unfold intsW at e; cases e
theorem seqAt_or {t : Bool} {H : Hp} {a : Addr} {vs : List V} (q : seqAt B t H a vs) : (t = false ∧ SqL B.K H a vs) ∨ (t = true ∧ SqT B.K H a vs) := by
  unfold seqAt at q
  cases t with
  | true => exact .inr ⟨rfl, by simpa using q⟩
  | false => exact .inl ⟨rfl, by simpa using q⟩
theorem vc_tup (hK : X.K = B.K) : VC1 B X (.type "tuple") tupQ := by
  intro t ws m h H a vs S q r pins s σ us Q I ru p
  rcases seqAt_or q with ⟨_, q⟩ | ⟨_, q⟩
  · exact call_tuple_of pins s σ H _ us Q I ru ⟨a, vs, rfl, .inl ⟨by rw [hK]; exact q, fun b hb => p.tup rfl S r hb⟩⟩
  · exact call_tuple_of pins s σ H _ us Q I ru ⟨a, vs, rfl, .inr ⟨by rw [hK]; exact q, p.same rfl S (by unfold rep; exact ⟨a, vs, rfl, q, r⟩)⟩⟩
theorem vc_len (hK : X.K = B.K) : VC1 B X (.builtin "len") lenQ := by
  intro t ws m h H a vs S q r pins s σ us Q I ru p
  have z : Q (.int (vs.length : Nat)) H := p.same (w := .int (ws.length : Nat)) rfl S (by rw [← r.length]; exact .int _)
  refine call_len pins s σ H _ us Q I ru ⟨.ref a, vs.length, rfl, ?_, z⟩
  rw [hK]
  rcases seqAt_or q with ⟨_, q⟩ | ⟨_, q⟩
  · exact .inl ⟨vs, q, rfl⟩
  · exact .inr ⟨vs, q, rfl⟩
theorem vc_all (hK : X.K = B.K) (hc : X.calm = true) : VC1 B X (.builtin "all") allQ := by
  intro t ws m h H a vs S q r pins s σ us Q I ru p
  rcases seqAt_or q with ⟨e, q⟩ | ⟨e, q⟩
  · subst e
    cases z : bls ws with
    | none => simp only [allQ, z] at p; exact p.elim
    | some bs =>
      have e := bls_rep z r
      refine cr_all hc pins s σ H _ us Q I ru ⟨a, bs, rfl, by rw [hK, ← e]; exact q, p.same (w := .bl (bs.all id)) (by simp only [allQ, z]; rfl) S (.bl _)⟩
  · subst e
    exact p.elim
theorem vc_any (hK : X.K = B.K) (hc : X.calm = true) : VC1 B X (.builtin "any") anyQ := by
  intro t ws m h H a vs S q r pins s σ us Q I ru p
  rcases seqAt_or q with ⟨e, q⟩ | ⟨e, q⟩
  · subst e
    cases z : bls ws with
    | none => simp only [anyQ, z] at p; exact p.elim
    | some bs =>
      have e := bls_rep z r
      refine cr_any hc pins s σ H _ us Q I ru ⟨a, bs, rfl, by rw [hK, ← e]; exact q, p.same (w := .bl (bs.any id)) (by simp only [anyQ, z]; rfl) S (.bl _)⟩
  · subst e
    exact p.elim
theorem vc_sum (hK : X.K = B.K) (hc : X.calm = true) : VC1 B X (.builtin "sum") sumQ := by
  intro t ws m h H a vs S q r pins s σ us Q I ru p
  rcases seqAt_or q with ⟨e, q⟩ | ⟨e, q⟩
  · subst e
    cases z : intsW ws with
    | none => simp only [sumQ, z] at p; exact p.elim
    | some bs =>
      have e := intsW_rep z r
      refine cr_sum hc pins s σ H _ us Q I ru ⟨a, bs, rfl, by rw [hK, ← e]; exact q, p.same (w := .int bs.sum) (by simp only [sumQ, z]; rfl) S (.int _)⟩
  · subst e
    exact p.elim
/-- a single argument, then the call -/
theorem q1_run {fq : DenQ} {g : Bool → List W → Store → Opt} {fv : Value} (V1 : VC1 B X fv g) (hs : isStar e = false) (d : DQ B Wx X e fq) {pins : List (Addr × Obj)} {s : Shared} {σ : St} {H : Hp} {m : List Addr} {h : Store} {ρ : Rho} {Q : VK} (I : Inv X pins σ H s) (S : Sim B m h H) (sl : slots B m H ρ σ)
    (pv : PV B m H (cQ1 g fq ρ h) (QE B Q) (XS B Wx σ)) : wpAny (model X.prog X.w) X.A (spliced (backTo pos (starEach [e] X.env))) (fun us s' => wpAny (model X.prog X.w) X.A (PySem.call fv us) (EP X pins σ Q) X.xe s') X.xe s := by
  rw [starEach_plain1 hs]
  show wpAny _ _ (spliced ((false, eval e X.env) :: backTo pos [])) _ _ s
  refine Calls.spliced_cons (thn (PE.run d pins s σ H (fun v H1 => ∃ a vs m1 h1 q, v = .ref a ∧ Sim B m1 h1 H1 ∧ seqAt B q.1 H1 a vs ∧ reps B m1 H1 q.2 vs ∧ PV B m1 H1 (Out.of (g q.1 q.2 h1)) (QE B Q) (XS B Wx σ)) I ⟨m, h, ρ, S, sl, pv.bind.imp fun q h1 m1 H1 S1 G1 p1 a vs sq r => ⟨a, vs, m1, h1, q, rfl, S1, sq, r, p1⟩⟩) fun u s1 ⟨v, H1, I1, r1, a, vs, m1, h1, q, ev, S1, sq, rr, p1⟩ => ?_)
  subst ev
  refine Calls.spliced_nil ?_
  exact V1 q.1 q.2 m1 h1 H1 a vs S1 sq rr pins s1 σ [u] Q I1 (.cons r1 .nil) (PO.of p1)
theorem de_q1B {fq : DenQ} {g : Bool → List W → Store → Opt} {id : String} {x : Str} (V1 : VC1 B X (.builtin id) g) (hg : Gl X x) (hm : X.mg x = none) (hv : bootBuiltins x = some (.builtin id)) (hn : x ≠ "__name__") (hd : (x == ("__debug__" : Str)) = false) (hs : isStar e = false) (d : DQ B Wx X e fq) : DE B Wx X (.Call (.Name x p) [e] [] pos) (cQ1 g fq) := by
  refine ⟨fun pins s σ H Q I ⟨m, h, ρ, S, sl, pv⟩ => ?_⟩
  refine wpAny_Call_Name_kw (ld_blt I hg hm hv ?_ hn hd)
  exact PyProof.Rows.callWith_builtin1 (q1_run V1 hs d I S sl pv) (starEach_cons hs) rfl
theorem de_q1T {fq : DenQ} {g : Bool → List W → Store → Opt} {T : String} {x : Str} (V1 : VC1 B X (.type T) g) (hg : Gl X x) (hm : X.mg x = none) (hv : bootBuiltins x = some (.type T)) (hn : x ≠ "__name__") (hd : (x == ("__debug__" : Str)) = false) (hs : isStar e = false) (d : DQ B Wx X e fq) : DE B Wx X (.Call (.Name x p) [e] [] pos) (cQ1 g fq) := by
  refine ⟨fun pins s σ H Q I ⟨m, h, ρ, S, sl, pv⟩ => ?_⟩
  refine wpAny_Call_Name_kw (ld_blt I hg hm hv ?_ hn hd)
  exact PyProof.Rows.callWith_type1 (q1_run V1 hs d I S sl pv) (starEach_cons hs) rfl
end
end Wv
end
section
set_option Elab.async false
set_option linter.all false
set_option maxRecDepth 100000
set_option maxHeartbeats 4000000
/-! Core I of ours: more calls. -/
namespace Wv
open PySem PySem.Spec L2
open PyProof.Rows hiding St

def cListQ (f : DenQ) : DenA := fun ρ h => (f ρ h).bind fun q h1 => .ok q.2 h1
/-- a builtin of one plain value -/
def cV1 (g : W → Store → Opt) (f : Den) : Den := fun ρ h => (f ρ h).bind fun w h1 => Out.of (g w h1)
def cV2 (g : W → W → Store → Opt) (f f2 : Den) : Den := fun ρ h => (f ρ h).bind fun w h1 => (f2 ρ h1).bind fun u h2 => Out.of (g w u h2)
def intV : W → Store → Opt
  | .int i, h => some (.int i, h)
  | .bl k, h => some (.int (if k then 1 else 0), h)
  | _, _ => none
def absV1 : W → Store → Opt
  | .int i, h => some (.int (if i < 0 then -i else i), h)
  | _, _ => none
def strV : W → Store → Opt
  | .int i, h => if i.natAbs.log2 < 1920 then some (.str (toString i), h) else none
  | _, _ => none
def lenV : W → Store → Opt
  | .str y, h => if y.length ≤ 16777216 then some (.int y.length, h) else none
  | .tup ws, h => some (.int ws.length, h)
  | .ref n, h => (lst? h n).map fun ws => (.int ws.length, h)
  | _, _ => none
def maxV : W → W → Store → Opt
  | .int i, .int j, h => some (.int (if j > i then j else i), h)
  | _, _, _ => none
def minV : W → W → Store → Opt
  | .int i, .int j, h => some (.int (if j < i then j else i), h)
  | _, _, _ => none
def VV1 (B : Base) (X : Cx) (f : Value) (g : W → Store → Opt) : Prop :=
  ∀ (w : W) (m : List Addr) (h : Store) (H : Hp) (v : V), Sim B m h H → rep B m H w v → ∀ (pins : List (Addr × Obj)) (s : Shared) (σ : St) (us : List Value) (Q : VK), Inv X pins σ H s → Vals [v] us → PO B m H (g w h) Q → wpAny (model X.prog X.w) X.A (PySem.call f us) (EP X pins σ Q) X.xe s
def VV2 (B : Base) (X : Cx) (f : Value) (g : W → W → Store → Opt) : Prop :=
  ∀ (w w2 : W) (m : List Addr) (h : Store) (H : Hp) (v v2 : V), Sim B m h H → rep B m H w v → rep B m H w2 v2 → ∀ (pins : List (Addr × Obj)) (s : Shared) (σ : St) (us : List Value) (Q : VK), Inv X pins σ H s → Vals [v, v2] us → PO B m H (g w w2 h) Q → wpAny (model X.prog X.w) X.A (PySem.call f us) (EP X pins σ Q) X.xe s
/-- the type's name of a plain value -/
def tyW (h : Store) : W → Option String
  | .non => some "NoneType"
  | .bl _ => some "bool"
  | .int _ => some "int"
  | .str _ => some "str"
  | .tup _ => some "tuple"
  | .ref n => match h[n]? with
    | some (.lst _) => some "list"
    | some (.dic _) => some "dict"
    | none => none
  | .glo _ => none
  | .kls _ => none
def isOne (t c : String) : Option Bool := kitB t c
def isAny (t : String) : List String → Option Bool
  | [] => some false
  | c :: cs => match kitB t c with
    | some true => some true
    | some false => isAny t cs
    | none => none
def cIsi1 (c : String) (f : Den) : Den := fun ρ h => (f ρ h).bind fun w h1 => match tyW h1 w with
  | some t => ofB (isOne t c) h1
  | none => .bad
def cIsiT (cs : List String) (f : Den) : Den := fun ρ h => (f ρ h).bind fun w h1 => match tyW h1 w with
  | some t => ofB (isAny t cs) h1
  | none => .bad
section
variable {B : Base} {Wx : WX} {X : Cx} {e e2 : Expr} {es : List Expr} {fq : DenQ} {f f2 : Den} {p pos : Pos}
theorem dl_listQ (hK : X.K = B.K) (hg : Gl X "list") (hm : X.mg "list" = none) (hs : isStar e = false) (d : DQ B Wx X e fq) : DL B Wx X (.Call (.Name "list" p) [e] [] pos) (cListQ fq) := by
  refine ⟨fun pins s σ H Q I ⟨m, h, ρ, S, sl, pv⟩ => ?_⟩
  refine wpAny_Call_Name_kw (ld_blt I hg hm boot_list ?_ (by decide) (by decide))
  refine PyProof.Rows.callWith_type1 ?_ (starEach_cons hs) rfl
  rw [starEach_plain1 hs]
  show wpAny _ _ (spliced ((false, eval e X.env) :: backTo pos [])) _ _ s
  refine Calls.spliced_cons (thn (PE.run d pins s σ H (fun v H1 => ∃ a vs m1 h1 q, v = .ref a ∧ Sim B m1 h1 H1 ∧ Go m H m1 H1 ∧ seqAt B q.1 H1 a vs ∧ reps B m1 H1 q.2 vs ∧ PV B m1 H1 (.ok q.2 h1) (fun ws _ m' H' => ∀ a vs, H' a = some (.lst vs) → a ∉ m' → H a = none → reps B m' H' ws vs → Q (.ref a) H') (XS B Wx σ)) I ⟨m, h, ρ, S, sl, pv.bind.imp fun q h1 m1 H1 S1 G1 p1 a vs sq r => ⟨a, vs, m1, h1, q, rfl, S1, G1, sq, r, p1⟩⟩) fun u s1 ⟨v, H1, I1, r1, a, vs, m1, h1, q, ev, S1, G1, sq, rr, p1⟩ => ?_)
  subst ev
  refine Calls.spliced_nil ?_
  refine call_list_of pins s1 σ H1 _ [u] Q I1 (.cons r1 .nil) ⟨a, vs, rfl, ?_, fun l hl => ?_⟩
  · rw [hK]
    rcases seqAt_or sq with ⟨_, z⟩ | ⟨_, z⟩
    · exact .inl z
    · exact .inr z
  · exact p1 m1 _ (S1.more hl) (Go.more hl) l vs upd_same (notin_of S1 hl) (fresh_of S1 G1 hl) ((Go.more (m := m1) hl).reps rr)
theorem vv_int : VV1 B X (.type "int") intV := by
  intro w m h H v S r pins s σ us Q I ru p
  cases w with
  | int i =>
    have z := r.int_
    exact call_int1 pins s σ H _ us Q I ru (.inl ⟨i, by rw [z], p.same rfl S (.int i)⟩)
  | bl k =>
    have z := r.bl_
    exact call_int1 pins s σ H _ us Q I ru (.inr ⟨k, by rw [z], p.same rfl S (.int _)⟩)
  | _ => exact p.elim
theorem vv_abs : VV1 B X (.builtin "abs") absV1 := by
  intro w m h H v S r pins s σ us Q I ru p
  cases w with
  | int i =>
    have z := r.int_
    exact call_abs pins s σ H _ us Q I ru ⟨i, by rw [z], p.same rfl S (.int _)⟩
  | _ => exact p.elim
theorem vv_str : VV1 B X (.type "str") strV := by
  intro w m h H v S r pins s σ us Q I ru p
  cases w with
  | int i =>
    have z := r.int_
    by_cases c : i.natAbs.log2 < 1920
    · exact call_str_int pins s σ H _ us Q I ru ⟨i, by rw [z], c, p.same (if_pos c) S (.str _)⟩
    · have e : strV (.int i) h = none := if_neg c
      rw [e] at p
      exact p.elim
  | _ => exact p.elim
theorem vv_len (hK : X.K = B.K) : VV1 B X (.builtin "len") lenV := by
  intro w m h H v S r pins s σ us Q I ru p
  cases w with
  | str y =>
    have z := r.str_
    by_cases c : y.length ≤ 16777216
    · exact call_len pins s σ H _ us Q I ru ⟨v, y.length, rfl, by rw [z]; exact ⟨by rw [sizeLine_eq]; exact c, rfl⟩, p.same (if_pos c) S (.int _)⟩
    · have e : lenV (.str y) h = none := if_neg c
      rw [e] at p
      exact p.elim
  | tup ws =>
    obtain ⟨a, vs, e, qa, ra⟩ := r.tup_
    have z : Q (.int (vs.length : Nat)) H := p.same (w := .int (ws.length : Nat)) rfl S (by rw [← ra.length]; exact .int _)
    exact call_len pins s σ H _ us Q I ru ⟨v, vs.length, rfl, by rw [e]; exact .inr ⟨vs, by rw [hK]; exact qa, rfl⟩, z⟩
  | ref n =>
    obtain ⟨a, e, ha⟩ := r.ref_
    cases q1 : lst? h n with
    | none => simp only [lenV, q1] at p; exact p.elim
    | some ws =>
      obtain ⟨vs, qa, ra⟩ := lst_at S ha q1
      have z : Q (.int (vs.length : Nat)) H := p.same (w := .int (ws.length : Nat)) (by simp only [lenV, q1]; rfl) S (by rw [← ra.length]; exact .int _)
      exact call_len pins s σ H _ us Q I ru ⟨v, vs.length, rfl, by rw [e]; exact .inl ⟨vs, by rw [hK]; exact qa, rfl⟩, z⟩
  | _ => exact p.elim
theorem vv_max (hc : X.calm = true) : VV2 B X (.builtin "max") maxV := by
  intro w w2 m h H v v2 S r r2 pins s σ us Q I ru p
  cases w with
  | int i =>
    cases w2 with
    | int j =>
      have z := r.int_
      have z2 := r2.int_
      exact call_max2 hc pins s σ H _ us Q I ru ⟨i, j, by rw [z, z2], p.same rfl S (.int _)⟩
    | _ => exact p.elim
  | _ => exact p.elim
theorem vv_min (hc : X.calm = true) : VV2 B X (.builtin "min") minV := by
  intro w w2 m h H v v2 S r r2 pins s σ us Q I ru p
  cases w with
  | int i =>
    cases w2 with
    | int j =>
      have z := r.int_
      have z2 := r2.int_
      exact call_min2 hc pins s σ H _ us Q I ru ⟨i, j, by rw [z, z2], p.same rfl S (.int _)⟩
    | _ => exact p.elim
  | _ => exact p.elim
theorem v1_run {g : W → Store → Opt} {fv : Value} (V1 : VV1 B X fv g) (hs : isStar e = false) (d : DE B Wx X e f) {pins : List (Addr × Obj)} {s : Shared} {σ : St} {H : Hp} {m : List Addr} {h : Store} {ρ : Rho} {Q : VK} (I : Inv X pins σ H s) (S : Sim B m h H) (sl : slots B m H ρ σ)
    (pv : PV B m H (cV1 g f ρ h) (QE B Q) (XS B Wx σ)) : wpAny (model X.prog X.w) X.A (spliced (backTo pos (starEach [e] X.env))) (fun us s' => wpAny (model X.prog X.w) X.A (PySem.call fv us) (EP X pins σ Q) X.xe s') X.xe s := by
  rw [starEach_plain1 hs]
  show wpAny _ _ (spliced ((false, eval e X.env) :: backTo pos [])) _ _ s
  refine Calls.spliced_cons (d.run I S sl pv.bind fun v u s1 w h1 m1 H1 I1 r1 S1 G1 q1 p1 => ?_)
  exact Calls.spliced_nil (V1 w m1 h1 H1 v S1 q1 pins s1 σ [u] Q I1 (.cons r1 .nil) (PO.of p1))
theorem v2_run {g : W → W → Store → Opt} {fv : Value} (V1 : VV2 B X fv g) (hs : isStar e = false) (hs2 : isStar e2 = false) (d : DE B Wx X e f) (d2 : DE B Wx X e2 f2) {pins : List (Addr × Obj)} {s : Shared} {σ : St} {H : Hp} {m : List Addr} {h : Store} {ρ : Rho} {Q : VK} (I : Inv X pins σ H s) (S : Sim B m h H) (sl : slots B m H ρ σ)
    (pv : PV B m H (cV2 g f f2 ρ h) (QE B Q) (XS B Wx σ)) : wpAny (model X.prog X.w) X.A (spliced (backTo pos (starEach [e, e2] X.env))) (fun us s' => wpAny (model X.prog X.w) X.A (PySem.call fv us) (EP X pins σ Q) X.xe s') X.xe s := by
  rw [starEach_cons hs, starEach_plain1 hs2]
  show wpAny _ _ (spliced ((false, eval e X.env) :: (false, eval e2 X.env) :: backTo pos [])) _ _ s
  refine Calls.spliced_cons (d.run I S sl pv.bind fun v u s1 w h1 m1 H1 I1 r1 S1 G1 q1 p1 => ?_)
  refine Calls.spliced_cons (d2.run I1 S1 (sl.go G1) p1.bind fun v2 u2 s2 w2 h2 m2 H2 I2 r2 S2 G2 q2 p2 => ?_)
  exact Calls.spliced_nil (V1 w w2 m2 h2 H2 v v2 S2 (G2.rep q1) q2 pins s2 σ [u, u2] Q I2 (.cons r1 (.cons r2 .nil)) (PO.of p2))
theorem de_v1B {g : W → Store → Opt} {id : String} {x : Str} (V1 : VV1 B X (.builtin id) g) (hg : Gl X x) (hm : X.mg x = none) (hv : bootBuiltins x = some (.builtin id)) (hn : x ≠ "__name__") (hd : (x == ("__debug__" : Str)) = false) (hs : isStar e = false) (d : DE B Wx X e f) : DE B Wx X (.Call (.Name x p) [e] [] pos) (cV1 g f) := by
  refine ⟨fun pins s σ H Q I ⟨m, h, ρ, S, sl, pv⟩ => ?_⟩
  refine wpAny_Call_Name_kw (ld_blt I hg hm hv ?_ hn hd)
  exact PyProof.Rows.callWith_builtin1 (v1_run V1 hs d I S sl pv) (starEach_cons hs) rfl
theorem de_v1T {g : W → Store → Opt} {T : String} {x : Str} (V1 : VV1 B X (.type T) g) (hg : Gl X x) (hm : X.mg x = none) (hv : bootBuiltins x = some (.type T)) (hn : x ≠ "__name__") (hd : (x == ("__debug__" : Str)) = false) (hs : isStar e = false) (d : DE B Wx X e f) : DE B Wx X (.Call (.Name x p) [e] [] pos) (cV1 g f) := by
  refine ⟨fun pins s σ H Q I ⟨m, h, ρ, S, sl, pv⟩ => ?_⟩
  refine wpAny_Call_Name_kw (ld_blt I hg hm hv ?_ hn hd)
  exact PyProof.Rows.callWith_type1 (v1_run V1 hs d I S sl pv) (starEach_cons hs) rfl
theorem de_v2B {g : W → W → Store → Opt} {id : String} {x : Str} (V1 : VV2 B X (.builtin id) g) (hg : Gl X x) (hm : X.mg x = none) (hv : bootBuiltins x = some (.builtin id)) (hn : x ≠ "__name__") (hd : (x == ("__debug__" : Str)) = false) (hs : isStar e = false) (hs2 : isStar e2 = false) (d : DE B Wx X e f) (d2 : DE B Wx X e2 f2) : DE B Wx X (.Call (.Name x p) [e, e2] [] pos) (cV2 g f f2) := by
  refine ⟨fun pins s σ H Q I ⟨m, h, ρ, S, sl, pv⟩ => ?_⟩
  refine wpAny_Call_Name_kw (ld_blt I hg hm hv ?_ hn hd)
  exact PyProof.Rows.callWith_builtin1 (v2_run V1 hs hs2 d d2 I S sl pv) (starEach_cons hs) (any_plain pos (by simp [hs2]))

/-! isinstance -/
theorem tyW_ok {m : List Addr} {H : Hp} {h : Store} {w : W} {v : V} {t : String} (S : Sim B m h H) (r : rep B m H w v) (e : tyW h w = some t) : TyX B.K H v (.type t) := by
  cases w with
  | non => cases e; rw [r.non_]; exact .base .non
  | bl b => cases e; rw [r.bl_]; exact .base (.bl b)
  | int b => cases e; rw [r.int_]; exact .base (.int b)
  | str b => cases e; rw [r.str_]; exact .base (.str b)
  | tup ws =>
    cases e
    obtain ⟨a, vs, rfl, qa, ra⟩ := r.tup_
    rcases qa with (q | ⟨o, q⟩) | ⟨o, its, n, q1, q2, _⟩
    · exact .base (.tup q)
    · exact .fTuple q
    · exact .kTuple q1 q2
  | ref n =>
    obtain ⟨a, rfl, ha⟩ := r.ref_
    simp only [tyW] at e
    split at e
    · rename_i ws q
      cases e
      obtain ⟨vs, z, _⟩ := S.ob n a _ ha q
      exact .base (.lst z)
    · rename_i ws q
      cases e
      obtain ⟨vs, z, _⟩ := S.ob n a _ ha q
      exact .base (.dK z)
    · cases e
  | glo x => cases e
  | kls x => cases e
/-- a built-in class by its name -/
def TyName (X : Cx) (x : Str) (c : String) : Prop := Gl X x ∧ X.mg x = none ∧ bootBuiltins x = some (.type c) ∧ x ≠ "__name__" ∧ (x == ("__debug__" : Str)) = false
theorem TyName.pe {x : Str} {c : String} {q : Pos} (T : TyName X x c) : PE X (.Name x q) (tC (.ty c)) := by
  obtain ⟨a, b, d, e, f⟩ := T
  exact pe_bltn a b d rfl e f
theorem de_isi1 (hK : X.K = B.K) (hg : Gl X "isinstance") (hm : X.mg "isinstance" = none) {x : Str} {c : String} {q : Pos} (T : TyName X x c) (hs : isStar e = false) (d : DE B Wx X e f) : DE B Wx X (.Call (.Name "isinstance" p) [e, .Name x q] [] pos) (cIsi1 c f) := by
  refine ⟨fun pins s σ H Q I ⟨m, h, ρ, S, sl, pv⟩ => ?_⟩
  refine (pe_callB (p := p) (pos := pos) call_isi hg hm boot_isinstance (pa_cons d (pa_cons T.pe pa_nil) (starEach_cons hs)) (by decide) (by decide) (starEach_cons hs) rfl).run pins s σ H Q I ⟨m, h, ρ, S, sl, pv.bind.imp fun w h1 m1 H1 S1 G1 p1 v r => ?_⟩
  cases z : tyW h1 w with
  | none => rw [z] at p1; exact p1.elim
  | some t =>
    rw [z] at p1
    dsimp only at p1
    cases y : isOne t c with
    | none => rw [y] at p1; exact p1.elim
    | some b =>
      rw [y] at p1
      exact ⟨v, .ty c, .type t, .type c, b, rfl, .ty c, by rw [hK]; exact tyW_ok S1 r z, kit_ty y, p1.here S1 _ (.bl b)⟩
theorem isAny_ok {K : PySem.W.Frag} {t : String} : ∀ {cs : List String} {b : Bool}, isAny t cs = some b → PySem.W.kitAny K (.type t) (cs.map Value.type) = some b
  | [], b, e => by unfold isAny at e; cases e; exact kitAny_nil
  | c :: cs, b, e => by
    unfold isAny at e
    cases z : kitB t c with
    | none => rw [z] at e; cases e
    | some d =>
      rw [z] at e
      cases d with
      | true =>
        cases e
        exact kitAny_cons (kit_ty z) (fun q => by cases q) (fun _ => rfl)
      | false => exact kitAny_cons (kit_ty z) (fun _ => isAny_ok e) (fun q => by cases q)
theorem pa_types : ∀ {xs : List (Str × String × Pos)}, (∀ q ∈ xs, TyName X q.1 q.2.1) → PA X (xs.map fun q => Expr.Name q.1 q.2.2) (fun _ H Q => Q (xs.map fun q => V.ty q.2.1) H)
  | [], _ => pa_nil
  | q :: xs, h => by
    refine ⟨fun pos pins s σ H Q I p => ?_⟩
    exact (pa_cons (h q List.mem_cons_self).pe (pa_types fun z hz => h z (List.mem_cons_of_mem _ hz)) rfl).run pos pins s σ H Q I p
theorem clsV_all : ∀ cs : List String, Paired ClsV (cs.map V.ty) (cs.map Value.type)
  | [] => .nil
  | c :: cs => .cons (.ty c) (clsV_all cs)
theorem de_isiT (hK : X.K = B.K) (hg : Gl X "isinstance") (hm : X.mg "isinstance" = none) {xs : List (Str × String × Pos)} {kk : Nat} {q : Pos} (T : ∀ q ∈ xs, TyName X q.1 q.2.1) (hl : xs.length ≤ 100) (hs : isStar e = false) (d : DE B Wx X e f) :
    DE B Wx X (.Call (.Name "isinstance" p) [e, .Tuple (xs.map fun q => Expr.Name q.1 q.2.2) kk q] [] pos) (cIsiT (xs.map (·.2.1)) f) := by
  refine ⟨fun pins s σ H Q I ⟨m, h, ρ, S, sl, pv⟩ => ?_⟩
  refine (pe_callB (p := p) (pos := pos) call_isiT hg hm boot_isinstance (pa_cons d (pa_cons (pe_tup (pa_types T)) pa_nil) (starEach_cons hs)) (by decide) (by decide) (starEach_cons hs) rfl).run pins s σ H Q I ⟨m, h, ρ, S, sl, pv.bind.imp fun w h1 m1 H1 S1 G1 p1 v r => ?_⟩
  refine ⟨by rw [List.length_map, sizeLine_eq]; omega, fun a ha => ?_⟩
  cases z : tyW h1 w with
  | none => rw [z] at p1; exact p1.elim
  | some t =>
    rw [z] at p1
    dsimp only at p1
    cases y : isAny t (xs.map (·.2.1)) with
    | none => rw [y] at p1; exact p1.elim
    | some b =>
      rw [y] at p1
      refine ⟨v, a, xs.map fun q => V.ty q.2.1, .type t, (xs.map (·.2.1)).map Value.type, b, rfl, upd_same, ?_, by rw [hK]; exact tyW_ok (S1.more ha) ((Go.more (m := m1) ha).rep r) z, isAny_ok y, p1 m1 _ (S1.more ha) (Go.more ha) _ (.bl b)⟩
      have z := clsV_all (xs.map (·.2.1))
      rw [List.map_map] at z
      exact z
end
end Wv
end
section
set_option Elab.async false
set_option linter.all false
set_option maxRecDepth 100000
set_option maxHeartbeats 4000000
/-! Core J of ours: statements. -/
namespace Wv
open PySem PySem.Spec L2
open PyProof.Rows hiding St

inductive SO where
  | next (ρ : Rho) (h : Store)
  | ret (w : W) (h : Store)
  | brk (ρ : Rho) (h : Store)
  | cont (ρ : Rho) (h : Store)
  | exc (e : Exn) (ρ : Rho) (h : Store)
  | bad
abbrev DenS := Rho → Store → SO
abbrev KR := Rho → List Addr → Hp → Prop
structure KS where
  nx : KR
  bk : KR
  ct : KR
  rt : W → List Addr → Hp → Prop
  xc : Exn → KR
def PSV (B : Base) (m : List Addr) (H : Hp) (o : SO) (K : KS) : Prop := match o with
  | .next ρ h' => ∀ m' H', Sim B m' h' H' → Go m H m' H' → K.nx ρ m' H'
  | .ret w h' => ∀ m' H', Sim B m' h' H' → Go m H m' H' → K.rt w m' H'
  | .brk ρ h' => ∀ m' H', Sim B m' h' H' → Go m H m' H' → K.bk ρ m' H'
  | .cont ρ h' => ∀ m' H', Sim B m' h' H' → Go m H m' H' → K.ct ρ m' H'
  | .exc e ρ h' => ∀ m' H', Sim B m' h' H' → Go m H m' H' → K.xc e ρ m' H'
  | .bad => False
theorem PSV.mono {B : Base} {m m' : List Addr} {H H' : Hp} {o : SO} {K : KS} (p : PSV B m H o K) (g : Go m H m' H') : PSV B m' H' o K := by
  cases o with
  | bad => exact p
  | _ => exact fun m2 H2 S2 G2 => p m2 H2 S2 (g.trans S2.nd G2)
/-- what is wanted of a statement -/
def ksOf (B : Base) (Wx : WX) (D : Ends) : KS where
  nx := fun ρ m' H' => ∀ σ', slots B m' H' ρ σ' → D.nx σ' H'
  bk := fun ρ m' H' => ∀ σ', slots B m' H' ρ σ' → D.bk σ' H'
  ct := fun ρ m' H' => ∀ σ', slots B m' H' ρ σ' → D.ct σ' H'
  rt := fun w m' H' => ∀ v, rep B m' H' w v → D.rt v H'
  xc := fun e ρ m' H' => ∀ σ' cls d, slots B m' H' ρ σ' → repX B m' H' e cls d → Wx cls d σ' H'
def tDS (B : Base) (Wx : WX) (f : DenS) : TS := fun D σ H => ∃ m h ρ, Sim B m h H ∧ slots B m H ρ σ ∧ PSV B m H (f ρ h) (ksOf B Wx D)
def DS (B : Base) (Wx : WX) (X : Cx) (st : Stmt) (f : DenS) : Prop := PS X st (tDS B Wx f)
def DSs (B : Base) (Wx : WX) (X : Cx) (sts : List Stmt) (f : DenS) : Prop := PSs X sts (tDS B Wx f)

/-- an expression's outcome, as a statement goes on -/
def Out.th {α : Type} (o : Out α) (ρ : Rho) (k : α → Store → SO) : SO := match o with
  | .ok a h => k a h
  | .exc e h => .exc e ρ h
  | .bad => .bad
@[simp] theorem Out.th_ok {α : Type} (a : α) (h : Store) (ρ : Rho) (k : α → Store → SO) : (Out.ok a h).th ρ k = k a h := id rfl
@[simp] theorem Out.th_exc {α : Type} (e : Exn) (h : Store) (ρ : Rho) (k : α → Store → SO) : (Out.exc e h : Out α).th ρ k = .exc e ρ h := id rfl
@[simp] theorem Out.th_bad {α : Type} (ρ : Rho) (k : α → Store → SO) : (Out.bad : Out α).th ρ k = .bad := id rfl
theorem PSV.th {α : Type} {B : Base} {m : List Addr} {H : Hp} {o : Out α} {ρ : Rho} {σ : St} {k : α → Store → SO} {Wx : WX} {D : Ends} (sl : slots B m H ρ σ) (p : PSV B m H (o.th ρ k) (ksOf B Wx D)) : PV B m H o (fun a h1 m1 H1 => PSV B m1 H1 (k a h1) (ksOf B Wx D)) (XS B Wx σ) := by
  cases o with
  | ok a h => exact fun m1 H1 S1 G1 => PSV.mono (o := k a h) p G1
  | exc e h => exact fun m1 H1 S1 G1 cls d r => p m1 H1 S1 G1 σ cls d (sl.go G1) r
  | bad => exact p
def SO.seq (o : SO) (g : DenS) : SO := match o with
  | .next ρ h => g ρ h
  | o => o
@[simp] theorem SO.seq_next (ρ : Rho) (h : Store) (g : DenS) : (SO.next ρ h).seq g = g ρ h := id rfl
@[simp] theorem SO.seq_ret (w : W) (h : Store) (g : DenS) : (SO.ret w h).seq g = .ret w h := id rfl
@[simp] theorem SO.seq_brk (ρ : Rho) (h : Store) (g : DenS) : (SO.brk ρ h).seq g = .brk ρ h := id rfl
@[simp] theorem SO.seq_cont (ρ : Rho) (h : Store) (g : DenS) : (SO.cont ρ h).seq g = .cont ρ h := id rfl
@[simp] theorem SO.seq_exc (e : Exn) (ρ : Rho) (h : Store) (g : DenS) : (SO.exc e ρ h).seq g = .exc e ρ h := id rfl
@[simp] theorem SO.seq_bad (g : DenS) : SO.bad.seq g = .bad := id rfl
theorem PSV.seq {B : Base} {m : List Addr} {H : Hp} {o : SO} {g : DenS} {K : KS} (p : PSV B m H (o.seq g) K) : PSV B m H o { K with nx := fun ρ m1 H1 => ∃ h1, Sim B m1 h1 H1 ∧ PSV B m1 H1 (g ρ h1) K } := by
  cases o with
  | next ρ h => exact fun m1 H1 S1 G1 => ⟨h, S1, PSV.mono (o := g ρ h) p G1⟩
  | bad => exact p
  | _ => exact p

/-! ### plain statements -/
def sSeq (f g : DenS) : DenS := fun ρ h => (f ρ h).seq g
def sSkip : DenS := fun ρ h => .next ρ h
def sBrk : DenS := fun ρ h => .brk ρ h
def sCont : DenS := fun ρ h => .cont ρ h
def sRet (f : Den) : DenS := fun ρ h => (f ρ h).th ρ fun w h1 => .ret w h1
def sRetN : DenS := fun _ h => .ret .non h
def sExpr (f : Den) : DenS := fun ρ h => (f ρ h).th ρ fun _ h1 => .next ρ h1
def sIf (t : DenT) (f g : DenS) : DenS := fun ρ h => (t ρ h).th ρ fun b h1 => if b = true then f ρ h1 else g ρ h1
def sBad : DenS := fun _ _ => .bad
section
variable {B : Base} {Wx : WX} {X : Cx} {e : Expr} {st : Stmt} {sts sts2 : List Stmt} {f : Den} {t : DenT} {g g2 : DenS} {pos : Pos}
theorem ds_bad : DS B Wx X st sBad := ⟨fun _ _ _ _ _ _ ⟨_, _, _, _, _, p⟩ => p.elim⟩
theorem dss_bad : DSs B Wx X sts sBad := ⟨fun _ _ _ _ _ _ ⟨_, _, _, _, _, p⟩ => p.elim⟩
theorem dss_nil : DSs B Wx X [] sSkip := ⟨fun pins s σ H D I ⟨m, h, ρ, S, sl, p⟩ => pss_nil.run pins s σ H D I (p m H S Go.refl σ sl)⟩
theorem dss_cons (h1 : DS B Wx X st g) (h2 : DSs B Wx X sts g2) : DSs B Wx X (st :: sts) (sSeq g g2) := by
  refine ⟨fun pins s σ H D I ⟨m, h, ρ, S, sl, p⟩ => ?_⟩
  refine (pss_cons h1 h2).run pins s σ H D I ⟨m, h, ρ, S, sl, ?_⟩
  have q := PSV.seq (o := g ρ h) p
  cases z : g ρ h with
  | next ρ' h' =>
    rw [z] at q
    refine fun m1 H1 S1 G1 σ' sl' => ?_
    obtain ⟨h2, S2, q2⟩ := q m1 H1 S1 G1
    exact ⟨m1, h2, ρ', S2, sl', q2⟩
  | bad =>
    rw [z] at q
    exact q
  | _ =>
    rw [z] at q
    exact q
theorem ds_pass : DS B Wx X (.Pass pos) sSkip := ⟨fun pins s σ H D I ⟨m, h, ρ, S, sl, p⟩ => ps_pass.run pins s σ H D I (p m H S Go.refl σ sl)⟩
theorem ds_break : DS B Wx X (.Break pos) sBrk := ⟨fun pins s σ H D I ⟨m, h, ρ, S, sl, p⟩ => ps_break.run pins s σ H D I (p m H S Go.refl σ sl)⟩
theorem ds_cont : DS B Wx X (.Continue pos) sCont := ⟨fun pins s σ H D I ⟨m, h, ρ, S, sl, p⟩ => ps_continue.run pins s σ H D I (p m H S Go.refl σ sl)⟩
theorem ds_ret (d : DE B Wx X e f) : DS B Wx X (.Return (some e) pos) (sRet f) := by
  refine ⟨fun pins s σ H D I ⟨m, h, ρ, S, sl, p⟩ => ?_⟩
  exact (ps_ret d).run pins s σ H D I ⟨m, h, ρ, S, sl, (PSV.th sl p).imp fun w h1 m1 H1 S1 G1 p1 v r => p1 m1 H1 S1 Go.refl v r⟩
theorem ds_retN : DS B Wx X (.Return none pos) sRetN := ⟨fun pins s σ H D I ⟨m, h, ρ, S, sl, p⟩ => ps_retN.run pins s σ H D I (p m H S Go.refl _ .non)⟩
theorem ds_expr (d : DE B Wx X e f) (hs : swapsWith e none pos.line X.env = pure false) : DS B Wx X (.Expr e pos) (sExpr f) := by
  refine ⟨fun pins s σ H D I ⟨m, h, ρ, S, sl, p⟩ => ?_⟩
  exact (ps_expr d hs).run pins s σ H D I ⟨m, h, ρ, S, sl, (PSV.th sl p).imp fun w h1 m1 H1 S1 G1 p1 v r => p1 m1 H1 S1 Go.refl σ (sl.go G1)⟩
theorem ds_if (d : DT B Wx X e t) (h1 : DSs B Wx X sts g) (h2 : DSs B Wx X sts2 g2) : DS B Wx X (.If e sts sts2 pos) (sIf t g g2) := by
  refine ⟨fun pins s σ H D I ⟨m, h, ρ, S, sl, p⟩ => ?_⟩
  refine (ps_if d h1 h2).run pins s σ H D I ⟨m, h, ρ, S, sl, (PSV.th sl p).imp fun b h1 m1 H1 S1 G1 p1 => ?_⟩
  cases b with
  | true => exact iteT ⟨m1, h1, ρ, S1, sl.go G1, p1⟩
  | false => exact iteF ⟨m1, h1, ρ, S1, sl.go G1, p1⟩
end

/-! ### targets of assignments -/
abbrev DenG := W → Rho → Store → SO
abbrev DenGs := List W → Rho → Store → SO
def gNm (i : Nat) : DenG := fun w ρ h => .next (ρ.set i (some w)) h
def gSx (fo fi : Den) : DenG := fun w ρ h => (fo ρ h).th ρ fun o h1 => (fi ρ h1).th ρ fun i h2 => match o, i with
  | .ref n, .int k => (match own? h2 n with
    | some ws => (match ixN ws.length k with
      | some j => .next ρ (h2.set n (.lst (ws.set j w)))
      | none => .bad)
    | none => .bad)
  | _, _ => .bad
def gTp (n : Nat) (gs : DenGs) : DenG := fun w ρ h => match w with
  | .tup ws => if ws.length = n then gs ws ρ h else .bad
  | _ => .bad
def gsNil : DenGs := fun ws ρ h => match ws with
  | [] => .next ρ h
  | _ => .bad
def gsCons (g : DenG) (gs : DenGs) : DenGs := fun ws ρ h => match ws with
  | w :: ws => (g w ρ h).seq (gs ws)
  | [] => .bad
def gBad : DenG := fun _ _ _ => .bad
/-- only 'next' and what is raised come of a target -/
def tGG (B : Base) (Wx : WX) (g : DenG) : TG := fun v σ H Q => ∃ m h ρ w, Sim B m h H ∧ slots B m H ρ σ ∧ rep B m H w v ∧ PSV B m H (g w ρ h) (ksOf B Wx ⟨Q, fun _ _ => False, fun _ _ => False, fun _ _ => False⟩)
def tGGs (B : Base) (Wx : WX) (g : DenGs) : TGs := fun vs σ H Q => ∃ m h ρ ws, Sim B m h H ∧ slots B m H ρ σ ∧ reps B m H ws vs ∧ PSV B m H (g ws ρ h) (ksOf B Wx ⟨Q, fun _ _ => False, fun _ _ => False, fun _ _ => False⟩)
def GG (B : Base) (Wx : WX) (X : Cx) (e : Expr) (g : DenG) : Prop := PG X e (tGG B Wx g)
def GGs (B : Base) (Wx : WX) (X : Cx) (es : List Expr) (g : DenGs) : Prop := PGs X es (tGGs B Wx g)
section
variable {B : Base} {Wx : WX} {X : Cx} {e o i : Expr} {es : List Expr} {fo fi f : Den} {g : DenG} {gs : DenGs} {pos : Pos}
theorem gg_bad : GG B Wx X e gBad := ⟨fun _ _ _ _ _ _ _ _ _ ⟨_, _, _, _, _, _, _, p⟩ => p.elim⟩
theorem gg_name {i : Nat} {x : Str} (hN : X.N.Nodup) (hi : X.N[i]? = some x) (hx : Loc X.env.scope x) (hf : X.fn x = true ∨ X.env.scope.names.lookup x = some .local) : GG B Wx X (.Name x pos) (gNm i) := by
  refine ⟨fun pins s σ H v u Q I r ⟨m, h, ρ, w, S, sl, q, p⟩ => ?_⟩
  exact (pg_name hN hi hx hf).run pins s σ H v u Q I r (p m H S Go.refl _ (sl.set i q))
theorem gg_sub (d1 : DE B Wx X o fo) (d2 : DE B Wx X i fi) (ha : ∀ v, assign (.Subscript o i pos) X.env v = (do
      let ov ← holding [v] (eval o X.env)
      let iv ← holding [v, ov] (eval i X.env)
      standAt pos
      holding [v, ov, iv] (setItem ov iv v)
      release [v, ov, iv] [])) : GG B Wx X (.Subscript o i pos) (gSx fo fi) := by
  refine ⟨fun pins s σ H v u Q I r ⟨m, h, ρ, w, S, sl, q, p⟩ => ?_⟩
  refine (pg_sub d1 d2 set_list ha).run pins s σ H v u Q I r ⟨m, h, ρ, S, sl, (PSV.th sl p).imp fun wo h1 m1 H1 S1 G1 p1 ov ro => ?_⟩
  refine ⟨m1, h1, ρ, S1, sl.go G1, (PSV.th (sl.go G1) p1).imp fun wi h2 m2 H2 S2 G2 p2 iv ri => ?_⟩
  cases wo with
  | ref n =>
    cases wi with
    | int k =>
      dsimp only at p2
      cases z : own? h2 n with
      | none => rw [z] at p2; exact p2.elim
      | some ws =>
        rw [z] at p2
        dsimp only at p2
        cases y : ixN ws.length k with
        | none => rw [y] at p2; exact p2.elim
        | some j =>
          rw [y] at p2
          obtain ⟨a, e1, ha⟩ := (G2.rep ro).ref_
          obtain ⟨vs, ea, ra⟩ := own_at S2 ha z
          have rw2 := G2.rep (G1.rep q)
          have G3 : Go m2 H2 m2 (upd H2 a (.lst (vs.set j v))) := Go.put S2 ha
          refine ⟨a, vs, k, j, e1, ri.int_, ea, by rw [← ra.length]; exact y, ?_⟩
          exact p2 m2 _ (S2.put ha ⟨_, upd_same, G3.reps (ra.set j rw2)⟩) G3 σ (((sl.go G1).go G2).go G3)
    | _ => exact p2.elim
  | _ => exact p2.elim
theorem ggs_nil : GGs B Wx X [] gsNil := by
  refine ⟨fun pins s σ H vs us Q I r ⟨m, h, ρ, ws, S, sl, q, p⟩ => ?_⟩
  cases ws with
  | nil =>
    unfold reps at q
    exact pgs_nil.run pins s σ H vs us Q I r ⟨q, p m H S Go.refl σ sl⟩
  | cons w ws => exact p.elim
theorem ggs_cons (hs : isStar e = false) (h1 : GG B Wx X e g) (h2 : GGs B Wx X es gs) : GGs B Wx X (e :: es) (gsCons g gs) := by
  refine ⟨fun pins s σ H vs us Q I r ⟨m, h, ρ, ws, S, sl, q, p⟩ => ?_⟩
  cases ws with
  | nil => exact p.elim
  | cons w ws =>
    unfold reps at q
    obtain ⟨v, vr, e1, q1, q2⟩ := q
    have p' := PSV.seq (o := g w ρ h) (g := gs ws) p
    refine (pgs_cons h1 h2 (by rw [assignEach_cons hs]; rfl)).run pins s σ H vs us Q I r ⟨v, vr, e1, m, h, ρ, w, S, sl, q1, ?_⟩
    cases z : g w ρ h with
    | next ρ' h' =>
      rw [z] at p'
      refine fun m1 H1 S1 G1 σ' sl' => ?_
      obtain ⟨h2, S2, p2⟩ := p' m1 H1 S1 G1
      exact ⟨m1, h2, ρ', ws, S2, sl', G1.reps q2, p2⟩
    | bad =>
      rw [z] at p'
      exact p'
    | _ =>
      rw [z] at p'
      exact p'
theorem gg_tup (hK : X.K = B.K) (hc : X.calm = true) {k n : Nat} (hs : es.all (fun e => !isStar e) = true) (hl : n = es.length) (h : GGs B Wx X es gs) : GG B Wx X (.Tuple es k pos) (gTp n gs) := by
  obtain ⟨a1, a2⟩ := assignEach_plain (env := X.env) hs
  refine ⟨fun pins s σ H v u Q I r ⟨m, h', ρ, w, S, sl, q, p⟩ => ?_⟩
  cases w with
  | tup ws =>
    obtain ⟨a, vs, rfl, qa, ra⟩ := q.tup_
    unfold gTp at p
    by_cases c : ws.length = n
    · dsimp only at p
      rw [if_pos c] at p
      exact (pg_tup (n := es.length) hc h a1 a2).run pins s σ H _ u Q I r ⟨a, vs, rfl, by rw [hK]; exact qa, by rw [← ra.length, c, hl], m, h', ρ, ws, S, sl, ra, p⟩
    · dsimp only at p
      rw [if_neg c] at p
      exact p.elim
  | _ => exact p.elim
def sAsg (f : Den) (g : DenG) : DenS := fun ρ h => (f ρ h).th ρ fun w h1 => g w ρ h1
/-- a target never leaves otherwise -/
def Tame (g : DenG) : Prop := ∀ w ρ h, (∃ ρ' h', g w ρ h = .next ρ' h') ∨ (∃ e ρ' h', g w ρ h = .exc e ρ' h') ∨ g w ρ h = .bad
theorem Tame.psv {B : Base} {m : List Addr} {H : Hp} {g : DenG} (t : Tame g) {w : W} {ρ : Rho} {h : Store} {D : Ends} (p : PSV B m H (g w ρ h) (ksOf B Wx D)) : PSV B m H (g w ρ h) (ksOf B Wx ⟨D.nx, fun _ _ => False, fun _ _ => False, fun _ _ => False⟩) := by
  rcases t w ρ h with ⟨ρ', h', e⟩ | ⟨x, ρ', h', e⟩ | e
  · rw [e] at p ⊢
    exact p
  · rw [e] at p ⊢
    exact p
  · rw [e] at p
    exact p.elim
theorem ds_asg {tg : Expr} (t : Tame g) (d : DE B Wx X e f) (hg : GG B Wx X tg g) (hs : swapsWithSole [tg] e pos.line X.env = pure false) (hw : swappedStores [tg] e X.env = pure none) (h1 : (assignEach [tg] X.env).map (·.2) = [assign tg X.env]) : DS B Wx X (.Assign [tg] e pos) (sAsg f g) := by
  refine ⟨fun pins s σ H D I ⟨m, h, ρ, S, sl, p⟩ => ?_⟩
  refine (ps_asg d hg hs hw h1).run pins s σ H D I ⟨m, h, ρ, S, sl, (PSV.th sl p).imp fun w h1 m1 H1 S1 G1 p1 v r => ?_⟩
  exact ⟨m1, h1, ρ, w, S1, sl.go G1, r, t.psv p1⟩
end
end Wv
end
section
set_option Elab.async false
set_option linter.all false
set_option maxRecDepth 100000
set_option maxHeartbeats 4000000
/-! Core K of ours: loops, raise, several names at once, methods of lists. -/
namespace Wv
open PySem PySem.Spec L2
open PyProof.Rows hiding St

open Classical in
noncomputable def forL (g : Gd) (T : Tgt) (body : DenS) : List W → Rho → Store → SO
  | [], ρ, h => if gdOk g h then .next ρ h else .bad
  | w :: ws, ρ, h => if gdOk g h then (match T.bind w ρ with
    | none => .bad
    | some ρ1 => match body ρ1 h with
      | .next ρ2 h2 => forL g T body ws ρ2 h2
      | .cont ρ2 h2 => forL g T body ws ρ2 h2
      | .brk ρ2 h2 => .next ρ2 h2
      | .ret w h2 => .ret w h2
      | .exc e ρ2 h2 => .exc e ρ2 h2
      | .bad => .bad) else .bad
noncomputable def sFor (fi : DenI) (T : Tgt) (body : DenS) : DenS := fun ρ h => (fi ρ h).th ρ fun q h1 => forL q.2 T body q.1 ρ h1
def whileL (t : DenT) (body : DenS) : Nat → Rho → Store → SO
  | 0, _, _ => .bad
  | n + 1, ρ, h => (t ρ h).th ρ fun b h1 => if b = true then (match body ρ h1 with
    | .next ρ2 h2 => whileL t body n ρ2 h2
    | .cont ρ2 h2 => whileL t body n ρ2 h2
    | .brk ρ2 h2 => .next ρ2 h2
    | .ret w h2 => .ret w h2
    | .exc e ρ2 h2 => .exc e ρ2 h2
    | .bad => .bad) else .next ρ h1
def wFuel : Nat := 18446744073709551616
def sWhile (t : DenT) (body : DenS) : DenS := fun ρ h => whileL t body wFuel ρ h
def sRaise (cls : Str) : DenS := fun ρ h => .exc ⟨cls, none⟩ ρ h
section
variable {B : Base} {Wx : WX} {X : Cx} {tg iter c : Expr} {sts : List Stmt} {fi : DenI} {T : Tgt} {t : DenT} {g : DenS} {pos : Pos}
theorem ds_for (hp : PassesOwn (model X.prog X.w) X.A X.env X.xe) (hc : X.calm = true) (hs : ∀ x, foldedSetIterable iter X.env x = pure x) (di : DI B Wx X tg iter fi) (dg : DG B X tg T) (db : DSs B Wx X sts g) : DS B Wx X (.For tg iter sts [] pos) (sFor fi T g) := by
  refine ⟨fun pins s σ H D I ⟨m, h, ρ, S, sl, p⟩ => ?_⟩
  refine (ps_for hp hc di dg db hs).run pins s σ H D I ⟨m, h, ρ, S, sl, (PSV.th sl p).imp fun q h1 m1 H1 S1 G1 p1 J w => ?_⟩
  refine ⟨fun i k σc Hc => ∃ (m2 : List Addr) (h2 : Store) (ρ2 : Rho), Sim B m2 h2 Hc ∧ Go m1 H1 m2 Hc ∧ slots B m2 Hc ρ2 σc ∧ i + k = q.1.length ∧ PSV B m1 H1 (forL q.2 T g (q.1.drop i) ρ2 h2) (ksOf B Wx D),
    ⟨q.1.length, m1, h1, ρ, S1, Go.refl, sl.go G1, by omega, p1⟩, fun i k σc Hc hW => ?_⟩
  obtain ⟨m2, h2, ρ2, S2, G2, sl2, hik, pv⟩ := hW
  by_cases hlt : i < q.1.length
  · rw [List.drop_eq_getElem_cons hlt] at pv
    unfold forL at pv
    by_cases hgd : gdOk q.2 h2
    · rw [if_pos hgd] at pv
      refine .inr ⟨w.go i m2 h2 Hc G2.toF S2 hgd hlt, fun σn Hn => ∃ (m2 : List Addr) (h2 : Store) (ρ2 : Rho), Sim B m2 h2 Hn ∧ Go m1 H1 m2 Hn ∧ slots B m2 Hn ρ2 σn ∧ PSV B m1 H1 (forL q.2 T g (q.1.drop (i + 1)) ρ2 h2) (ksOf B Wx D),
        fun σn Hn ⟨m3, h3, ρ3, x1, x2, x3, x4⟩ => ⟨k - 1, by omega, m3, h3, ρ3, x1, x2, x3, by omega, x4⟩, fun x H3 hy => ?_⟩
      obtain ⟨S3, G3, r3⟩ := w.yld i _ m2 h2 Hc x H3 G2.toF S2 hgd (List.getElem?_eq_getElem hlt) hy
      cases eb : T.bind q.1[i] ρ2 with
      | none =>
        rw [eb] at pv
        exact pv.elim
      | some ρ3 =>
        rw [eb] at pv
        dsimp only at pv
        have G13 : Go m1 H1 m2 H3 := G2.trans S3.nd G3
        refine ⟨m2, h2, ρ2, _, ρ3, S3, sl2.go G3, r3, eb, fun σ4 sl4 f4 => ⟨m2, h2, ρ3, S3, sl4, ?_⟩⟩
        cases ez : g ρ3 h2 with
        | next ρ5 h5 =>
          rw [ez] at pv
          exact fun m5 H5 S5 G5 σ5 sl5 => ⟨m5, h5, ρ5, S5, G13.trans S5.nd G5, sl5, pv⟩
        | cont ρ5 h5 =>
          rw [ez] at pv
          exact fun m5 H5 S5 G5 σ5 sl5 => ⟨m5, h5, ρ5, S5, G13.trans S5.nd G5, sl5, pv⟩
        | brk ρ5 h5 =>
          rw [ez] at pv
          exact fun m5 H5 S5 G5 σ5 sl5 => pv m5 H5 S5 (G13.trans S5.nd G5) σ5 sl5
        | ret v h5 =>
          rw [ez] at pv
          exact fun m5 H5 S5 G5 u ru => pv m5 H5 S5 (G13.trans S5.nd G5) u ru
        | exc e ρ5 h5 =>
          rw [ez] at pv
          exact fun m5 H5 S5 G5 σ5 cls d sl5 re => pv m5 H5 S5 (G13.trans S5.nd G5) σ5 cls d sl5 re
        | bad =>
          rw [ez] at pv
          exact pv.elim
    · rw [if_neg hgd] at pv
      exact pv.elim
  · have e0 : q.1.drop i = [] := List.drop_eq_nil_of_le (by omega)
    rw [e0] at pv
    unfold forL at pv
    by_cases hgd : gdOk q.2 h2
    · rw [if_pos hgd] at pv
      have z := w.stop m2 h2 Hc G2.toF S2 hgd
      have ei : i = q.1.length := by omega
      rw [ei]
      exact .inl ⟨z, pv m2 Hc S2 G2 σc sl2⟩
    · rw [if_neg hgd] at pv
      exact pv.elim
theorem ds_while (hp : PassesOwn (model X.prog X.w) X.A X.env X.xe) (dt : DT B Wx X c t) (db : DSs B Wx X sts g) : DS B Wx X (.While c sts [] pos) (sWhile t g) := by
  refine ⟨fun pins s σ H D I ⟨m, h, ρ, S, sl, p⟩ => ?_⟩
  refine (ps_while hp dt db).run pins s σ H D I ⟨fun k σc Hc => ∃ (m2 : List Addr) (h2 : Store) (ρ2 : Rho), Sim B m2 h2 Hc ∧ Go m H m2 Hc ∧ slots B m2 Hc ρ2 σc ∧ PSV B m H (whileL t g k ρ2 h2) (ksOf B Wx D),
    ⟨wFuel, m, h, ρ, S, Go.refl, sl, p⟩, fun k σc Hc hW => ?_⟩
  obtain ⟨m2, h2, ρ2, S2, G2, sl2, pv⟩ := hW
  cases k with
  | zero =>
    unfold whileL at pv
    exact pv.elim
  | succ k =>
    unfold whileL at pv
    refine ⟨m2, h2, ρ2, S2, sl2, ?_⟩
    cases et : t ρ2 h2 with
    | bad =>
      rw [et] at pv
      exact pv.elim
    | exc e h3 =>
      rw [et] at pv
      exact fun m3 H3 S3 G3 cls d re => pv m3 H3 S3 (G2.trans S3.nd G3) σc cls d (sl2.go G3) re
    | ok b h3 =>
      rw [et] at pv
      rw [Out.th_ok] at pv
      refine fun m3 H3 S3 G3 => ?_
      have G13 : Go m H m3 H3 := G2.trans S3.nd G3
      cases b with
      | false =>
        rw [if_neg Bool.false_ne_true] at pv
        exact iteF (pv m3 H3 S3 G13 σc (sl2.go G3))
      | true =>
        rw [if_pos rfl] at pv
        refine iteT ⟨fun σn Hn => ∃ (m2 : List Addr) (h2 : Store) (ρ2 : Rho), Sim B m2 h2 Hn ∧ Go m H m2 Hn ∧ slots B m2 Hn ρ2 σn ∧ PSV B m H (whileL t g k ρ2 h2) (ksOf B Wx D), fun σn Hn hn => ⟨k, Nat.lt_succ_self k, hn⟩, m3, h3, ρ2, S3, sl2.go G3, ?_⟩
        cases ez : g ρ2 h3 with
        | next ρ5 h5 =>
          rw [ez] at pv
          exact fun m5 H5 S5 G5 σ5 sl5 => ⟨m5, h5, ρ5, S5, G13.trans S5.nd G5, sl5, pv⟩
        | cont ρ5 h5 =>
          rw [ez] at pv
          exact fun m5 H5 S5 G5 σ5 sl5 => ⟨m5, h5, ρ5, S5, G13.trans S5.nd G5, sl5, pv⟩
        | brk ρ5 h5 =>
          rw [ez] at pv
          exact fun m5 H5 S5 G5 σ5 sl5 => pv m5 H5 S5 (G13.trans S5.nd G5) σ5 sl5
        | ret v h5 =>
          rw [ez] at pv
          exact fun m5 H5 S5 G5 u ru => pv m5 H5 S5 (G13.trans S5.nd G5) u ru
        | exc e ρ5 h5 =>
          rw [ez] at pv
          exact fun m5 H5 S5 G5 σ5 cls d sl5 re => pv m5 H5 S5 (G13.trans S5.nd G5) σ5 cls d sl5 re
        | bad =>
          rw [ez] at pv
          exact pv.elim
end

/-! ### raise -/
/-- an own error class without an own __init__ -/
structure ExcAt (B : Base) (mg : Str → Option Value) (cls : Str) : Prop where
  ex : ∃ C : Addr, mg cls = some (.ref C) ∧ B.G cls = some (.ref C) ∧ PySem.W.excIn B.K C He.veBase "ValueError.__new__" = true ∧ PySem.W.keepIn B.K (.ref C) = true ∧ PySem.W.subIn B.K (.ref C) (.type "BaseException") = some true ∧ PySem.W.typeIn B.K (.ref C) = some (.type "type")
section
variable {B : Base} {Wx : WX} {X : Cx}
theorem ds_raise (hK : X.K = B.K) (hc : X.calm = true) (tk : Takes X Wx) {cls m : Str} {j : Nat} {p p2 pos pos2 : Pos} (C : ExcAt B X.mg cls) (hg : Gl X cls) (hd : (cls == ("__debug__" : Str)) = false) : DS B Wx X (.Raise (some (.Call (.Name cls p) [.Constant (.str m) j p2] [] pos)) none pos2) (sRaise cls) := by
  refine ⟨fun pins s σ H D I ⟨m', h, ρ, S, sl, pv⟩ => ?_⟩
  obtain ⟨C, e1, e2, e3, e4, e5, e6⟩ := C.ex
  rw [← hK] at e3 e4 e5 e6
  exact (ps_raise (pos := pos2) hc tk (pmk_own PySem.F.excBase_ValueError e3 e1 e4 (raises_own e5 e6) hg hd)).run pins s σ H D I (pv m' H S Go.refl σ _ _ sl ⟨⟨C, e2, rfl⟩, rfl⟩)
end

/-! ### several names at once -/
def sPar2 (i j : Nat) (fa : DenA) : DenS := fun ρ h => (fa ρ h).th ρ fun ws h1 => match ws with
  | [v, w] => .next ((ρ.set i (some v)).set j (some w)) h1
  | _ => .bad
def sPar3 (i j l : Nat) (fa : DenA) : DenS := fun ρ h => (fa ρ h).th ρ fun ws h1 => match ws with
  | [u, v, w] => .next (((ρ.set i (some u)).set j (some v)).set l (some w)) h1
  | _ => .bad
section
variable {B : Base} {Wx : WX} {X : Cx} {fa : DenA}
theorem ds_par2 {i j : Nat} {x y : Str} {a b : Expr} {px py pt pos : Pos} {kt k2 pt2} (hc : X.calm = true) (hN : X.N.Nodup) (hi : X.N[i]? = some x) (hj : X.N[j]? = some y) (hij : i ≠ j) (hx : X.env.scope.names.lookup x = some .local) (hy : X.env.scope.names.lookup y = some .local)
    (da : DA B Wx X [a, b] fa) (hw : swappedStores [.Tuple [.Name x px, .Name y py] kt pt] (.Tuple [a, b] k2 pt2) X.env = pure (some [x, y])) : DS B Wx X (.Assign [.Tuple [.Name x px, .Name y py] kt pt] (.Tuple [a, b] k2 pt2) pos) (sPar2 i j fa) := by
  refine ⟨fun pins s σ H D I ⟨m, h, ρ, S, sl, p⟩ => ?_⟩
  refine (ps_par hc hN hi hj hij hx hy da hw).run pins s σ H D I ⟨m, h, ρ, S, sl, (PSV.th sl p).imp fun ws h1 m1 H1 S1 G1 p1 vs r => ?_⟩
  split at p1
  · unfold reps at r
    obtain ⟨v, t, rfl, r1, r⟩ := r
    unfold reps at r
    obtain ⟨w, t, rfl, r2, r⟩ := r
    unfold reps at r
    subst r
    exact ⟨v, w, rfl, p1 m1 H1 S1 Go.refl _ (((sl.go G1).set i r1).set j r2)⟩
  · exact p1.elim
theorem ds_par3 {i j l : Nat} {x y z : Str} {a b c : Expr} {px py pz pt pos : Pos} {kt k2 pt2} (hc : X.calm = true) (hN : X.N.Nodup) (hi : X.N[i]? = some x) (hj : X.N[j]? = some y) (hl : X.N[l]? = some z) (hij : i ≠ j) (hil : i ≠ l) (hjl : j ≠ l) (hx : X.env.scope.names.lookup x = some .local) (hy : X.env.scope.names.lookup y = some .local) (hz : X.env.scope.names.lookup z = some .local)
    (da : DA B Wx X [a, b, c] fa) (hw : swappedStores [.Tuple [.Name x px, .Name y py, .Name z pz] kt pt] (.Tuple [a, b, c] k2 pt2) X.env = pure (some [x, y, z])) : DS B Wx X (.Assign [.Tuple [.Name x px, .Name y py, .Name z pz] kt pt] (.Tuple [a, b, c] k2 pt2) pos) (sPar3 i j l fa) := by
  refine ⟨fun pins s σ H D I ⟨m, h, ρ, S, sl, p⟩ => ?_⟩
  refine (ps_par3 hc hN hi hj hl hij hil hjl hx hy hz da hw).run pins s σ H D I ⟨m, h, ρ, S, sl, (PSV.th sl p).imp fun ws h1 m1 H1 S1 G1 p1 vs r => ?_⟩
  split at p1
  · unfold reps at r
    obtain ⟨u, t, rfl, r0, r⟩ := r
    unfold reps at r
    obtain ⟨v, t, rfl, r1, r⟩ := r
    unfold reps at r
    obtain ⟨w, t, rfl, r2, r⟩ := r
    unfold reps at r
    subst r
    exact ⟨u, v, w, rfl, p1 m1 H1 S1 Go.refl _ ((((sl.go G1).set i r0).set j r1).set l r2)⟩
  · exact p1.elim
theorem fresh_asg {m : List Addr} {H : Hp} {h : Store} {ρ : Rho} {σ : St} {D : Ends} {i : Nat} (sl : slots B m H ρ σ) (p : PSV B m H (sAsg (cFresh fa) (gNm i) ρ h) (ksOf B Wx D)) :
    PV B m H (fa ρ h) (fun ws _ m' H' => ∀ a vs, H' a = some (.lst vs) → a ∉ m' → H a = none → reps B m' H' ws vs → gName i (.ref a) σ H' D.nx) (XS B Wx σ) := by
  unfold sAsg cFresh at p
  cases z : fa ρ h with
  | ok ws h1 =>
    rw [z] at p
    refine fun m1 H1 S1 G1 a vs ha hm hn r => ?_
    have G2 := G1.name hn
    refine p (m1 ++ [a]) H1 (S1.name ha hm r) G2 _ ((sl.go G2).set i ?_)
    unfold rep
    exact ⟨a, rfl, by rw [List.getElem?_append_right (by rw [S1.len]; exact Nat.le_refl _), S1.len, Nat.sub_self]; rfl⟩
  | exc x h1 =>
    rw [z] at p
    exact fun m1 H1 S1 G1 cls d r => p m1 H1 S1 G1 σ cls d (sl.go G1) r
  | bad =>
    rw [z] at p
    exact p.elim
/-- name = [..] where the store is exchanged with the comprehension's own -/
theorem ds_setLc {i : Nat} {y : Str} {py : Pos} {elt tg iter : Expr} {ifs : List Expr} {scope : Scope} {own : List (Str × Nat)} {pos spos : Pos} {fi : DenI} {T : Tgt} {tt : DenT} {te : Den} (hc : X.calm = true) (hN : X.N.Nodup) (hy : X.N[i]? = some y) (hyl : X.env.scope.names.lookup y = some .local)
    (hsw : swapsWith (.ListComp elt [⟨tg, iter, ifs, 0⟩] scope pos) (some (.Name y py)) spos.line X.env = pure true) (hi : DI B Wx X tg iter fi) (ok : BlkOk X.N X.env.scope scope own) (hT : ∀ i ∈ T.slots, i ∈ own.map (·.2))
    (hg : ∀ (s : Shared) (H : Hp) (C : Addr) (cl : List (Str × Addr)) (fp : List Addr), DG B (X.blk s H scope (compEnvC scope cl C X.env) fp) tg T)
    (ht : ∀ (s : Shared) (H : Hp) (C : Addr) (cl : List (Str × Addr)) (fp : List Addr), DTs B WF0 (X.blk s H scope (compEnvC scope cl C X.env) fp) ifs tt)
    (he : ∀ (s : Shared) (H : Hp) (C : Addr) (cl : List (Str × Addr)) (fp : List Addr), DE B WF0 (X.blk s H scope (compEnvC scope cl C X.env) fp) elt te)
    (hs : ∀ x, foldedSetIterable iter X.env x = pure x) : DS B Wx X (.Assign [.Name y py] (.ListComp elt [⟨tg, iter, ifs, 0⟩] scope pos) spos) (sAsg (cFresh (cComp fi (own.map (·.2)) T tt te)) (gNm i)) := by
  refine ⟨fun pins s σ H D I ⟨m, h, ρ, S, sl, p⟩ => ?_⟩
  refine (ps_setLc hc hN hy hyl hsw hi ok hg ht he hs).run pins s σ H D I (lc_read (Wx := Wx) hT ⟨m, h, ρ, S, sl, ?_⟩)
  exact fresh_asg sl p
theorem ds_setLc2 {i : Nat} {y : Str} {py : Pos} {elt tg iter tg1 iter1 : Expr} {ifs ifs1 : List Expr} {scope : Scope} {own : List (Str × Nat)} {vs1 : List Nat} {pos spos : Pos} {fi fi1 : DenI} {T T1 : Tgt} {tt tt1 : DenT} {te : Den} (hc : X.calm = true) (hN : X.N.Nodup) (hy : X.N[i]? = some y) (hyl : X.env.scope.names.lookup y = some .local)
    (hsw : swapsWith (.ListComp elt [⟨tg, iter, ifs, 0⟩, ⟨tg1, iter1, ifs1, 0⟩] scope pos) (some (.Name y py)) spos.line X.env = pure true) (hi : DI B Wx X tg iter fi) (ok : BlkOk X.N X.env.scope scope own) (hT : ∀ i ∈ T.slots, i ∈ own.map (·.2)) (hT1 : ∀ i ∈ T1.slots, i ∈ vs1) (hv1 : ∀ i ∈ vs1, i ∈ own.map (·.2))
    (hg : ∀ (s : Shared) (H : Hp) (C : Addr) (cl : List (Str × Addr)) (fp : List Addr), DG B (X.blk s H scope (compEnvC scope cl C X.env) fp) tg T)
    (ht : ∀ (s : Shared) (H : Hp) (C : Addr) (cl : List (Str × Addr)) (fp : List Addr), DTs B WF0 (X.blk s H scope (compEnvC scope cl C X.env) fp) ifs tt)
    (hi1 : ∀ (s : Shared) (H : Hp) (C : Addr) (cl : List (Str × Addr)) (fp : List Addr), DI B WF0 (X.blk s H scope (compEnvC scope cl C X.env) fp) tg1 iter1 fi1)
    (hg1 : ∀ (s : Shared) (H : Hp) (C : Addr) (cl : List (Str × Addr)) (fp : List Addr), DG B (X.blk s H scope (compEnvC scope cl C X.env) fp) tg1 T1)
    (ht1 : ∀ (s : Shared) (H : Hp) (C : Addr) (cl : List (Str × Addr)) (fp : List Addr), DTs B WF0 (X.blk s H scope (compEnvC scope cl C X.env) fp) ifs1 tt1)
    (he : ∀ (s : Shared) (H : Hp) (C : Addr) (cl : List (Str × Addr)) (fp : List Addr), DE B WF0 (X.blk s H scope (compEnvC scope cl C X.env) fp) elt te)
    (hs : ∀ x, foldedSetIterable iter X.env x = pure x) (hs1 : ∀ env x, foldedSetIterable iter1 env x = pure x) : DS B Wx X (.Assign [.Name y py] (.ListComp elt [⟨tg, iter, ifs, 0⟩, ⟨tg1, iter1, ifs1, 0⟩] scope pos) spos) (sAsg (cFresh (cComp2 fi (own.map (·.2)) T tt fi1 vs1 T1 tt1 te)) (gNm i)) := by
  refine ⟨fun pins s σ H D I ⟨m, h, ρ, S, sl, p⟩ => ?_⟩
  refine (ps_setLc2 hc hN hy hyl hsw hi ok hv1 hg ht hi1 hg1 ht1 he hs hs1).run pins s σ H D I (lc2_read (Wx := Wx) hT hT1 ⟨m, h, ρ, S, sl, ?_⟩)
  exact fresh_asg sl p
end

/-! ### methods of lists -/
def lstRef (h : Store) : W → Option Nat
  | .ref n => (lst? h n).map fun _ => n
  | _ => none
def cApp (fo fe : Den) : Den := fun ρ h => (fo ρ h).bind fun o h1 => match lstRef h1 o with
  | some n => (fe ρ h1).bind fun w h2 => (match own? h2 n with
    | some ws => if ws.length < 16777216 then .ok .non (h2.set n (.lst (ws ++ [w]))) else .bad
    | none => .bad)
  | none => .bad
/-- the place of the first equal item -/
def firstEq (d : PyData) : List PyData → Option Nat
  | [] => none
  | z :: ds => if PyData.eqv z d = true then some 0 else (firstEq d ds).map (· + 1)
theorem firstEq_ok {d : PyData} : ∀ {ds : List PyData} {j : Nat}, firstEq d ds = some j → (∃ z, ds[j]? = some z ∧ PyData.eqv z d = true) ∧ ∀ (m : Nat) (z' : PyData), m < j → ds[m]? = some z' → PyData.eqv z' d = false
  | [], j, e => by unfold firstEq at e; cases e
  | z :: ds, j, e => by
    unfold firstEq at e
    by_cases c : PyData.eqv z d = true
    · rw [if_pos c] at e
      cases e
      exact ⟨⟨z, rfl, c⟩, fun m z' h => absurd h (Nat.not_lt_zero m)⟩
    · rw [if_neg c] at e
      cases q : firstEq d ds with
      | none => rw [q] at e; cases e
      | some k =>
        rw [q] at e
        cases e
        obtain ⟨⟨y, h1, h2⟩, h3⟩ := firstEq_ok q
        refine ⟨⟨y, by simpa using h1, h2⟩, fun m z' hm hz => ?_⟩
        cases m with
        | zero =>
          have z2 : z = z' := by simpa using hz
          subst z2
          exact Bool.eq_false_iff.mpr c
        | succ m => exact h3 m z' (Nat.lt_of_succ_lt_succ hm) (by simpa using hz)
def cIndex (fo fe : Den) : Den := fun ρ h => (fo ρ h).bind fun o h1 => match lstRef h1 o with
  | some n => (fe ρ h1).bind fun w h2 => (match pyd h2 (.ref n), pyd h2 w with
    | some (.list ds), some d => (match firstEq d ds with
      | some j => .ok (.int (j : Nat)) h2
      | none => .bad)
    | _, _ => .bad)
  | none => .bad
section
variable {B : Base} {Wx : WX} {X : Cx} {o e : Expr} {fo fe : Den} {apos cpos : Pos}
/-- the side of a method's call: the receiver is no call, one line -/
structure MthOk (X : Cx) (o e : Expr) (name : Str) (apos cpos : Pos) : Prop where
  base : attributeBase o name X.env (eval o X.env) = eval o X.env
  few : ((backTo cpos (starEach [e] X.env)).all (fun x => !x.1) && (backToKw cpos (keywordEach [] X.env)).all (fun x => x.1.isSome) && decide ([e].length + ([] : List Keyword).length + (if ([] : List Keyword).isEmpty then 0 else 1) < 30)) = true
  line : (apos.endLine == cpos.line) = true
  star : isStar e = false
theorem lstRef_ok {m : List Addr} {H : Hp} {h : Store} {w : W} {v : V} {n : Nat} (S : Sim B m h H) (r : rep B m H w v) (e : lstRef h w = some n) : ∃ a, w = .ref n ∧ v = .ref a ∧ m[n]? = some a ∧ tyV B.K "list" v H := by
  cases w with
  | ref k =>
    obtain ⟨a, rfl, ha⟩ := r.ref_
    cases z : lst? h k with
    | none => simp only [lstRef, z, Option.map_none] at e; cases e
    | some ws =>
      simp only [lstRef, z, Option.map_some] at e
      cases e
      obtain ⟨vs, q, _⟩ := lst_at S ha z
      exact ⟨a, rfl, rfl, ha, .inl ⟨rfl, vs, q⟩⟩
  | _ => unfold lstRef at e; cases e
theorem de_app (hK : X.K = B.K) (M : MthOk X o e "append" apos cpos) (d1 : DE B Wx X o fo) (d2 : DE B Wx X e fe) : DE B Wx X (.Call (.Attribute o "append" apos) [e] [] cpos) (cApp fo fe) := by
  refine ⟨fun pins s σ H Q I ⟨m, h, ρ, S, sl, p⟩ => ?_⟩
  refine (pe_bm PySem.F.plainAttrs_list PySem.F.slot_list_append PySem.F.type_list_append mt_append d1 (pa_cons d2 pa_nil (starEach_cons M.star)) M.base M.few M.line (starEach_cons M.star) rfl).run pins s σ H Q I ⟨m, h, ρ, S, sl, p.bind.imp fun wo h1 m1 H1 S1 G1 p1 v r => ?_⟩
  cases z : lstRef h1 wo with
  | none => rw [z] at p1; exact p1.elim
  | some n =>
    rw [z] at p1
    dsimp only at p1
    obtain ⟨a, rfl, rfl, ha, ty⟩ := lstRef_ok S1 r z
    refine ⟨by rw [hK]; exact ty, m1, h1, ρ, S1, sl.go G1, p1.bind.imp fun w h2 m2 H2 S2 G2 p2 u ru => ?_⟩
    cases y : own? h2 n with
    | none => rw [y] at p2; exact p2.elim
    | some ws =>
      rw [y] at p2
      dsimp only at p2
      obtain ⟨a2, e2, ha2⟩ := (G2.rep r).ref_
      cases e2
      obtain ⟨vs, ea, ra⟩ := own_at S2 ha2 y
      by_cases c : ws.length < 16777216
      · rw [if_pos c] at p2
        have G3 : Go m2 H2 m2 (upd H2 a (.lst (vs ++ [u]))) := Go.put S2 ha2
        exact ⟨a, vs, u, rfl, rfl, ea, by rw [sizeLine_eq, ← ra.length]; exact c, p2 m2 _ (S2.put ha2 ⟨_, upd_same, G3.reps (ra.append (.cons ru .nil))⟩) G3 _ .non⟩
      · rw [if_neg c] at p2
        exact p2.elim
theorem de_index (hK : X.K = B.K) (hu : X.A.units + 65 < cLine) (M : MthOk X o e "index" apos cpos) (d1 : DE B Wx X o fo) (d2 : DE B Wx X e fe) : DE B Wx X (.Call (.Attribute o "index" apos) [e] [] cpos) (cIndex fo fe) := by
  refine ⟨fun pins s σ H Q I ⟨m, h, ρ, S, sl, p⟩ => ?_⟩
  refine (pe_bm PySem.F.plainAttrs_list PySem.F.slot_list_index PySem.F.type_list_index (mt_indexD hu) d1 (pa_cons d2 pa_nil (starEach_cons M.star)) M.base M.few M.line (starEach_cons M.star) rfl).run pins s σ H Q I ⟨m, h, ρ, S, sl, p.bind.imp fun wo h1 m1 H1 S1 G1 p1 v r => ?_⟩
  cases z : lstRef h1 wo with
  | none => rw [z] at p1; exact p1.elim
  | some n =>
    rw [z] at p1
    dsimp only at p1
    obtain ⟨a, rfl, rfl, ha, ty⟩ := lstRef_ok S1 r z
    refine ⟨by rw [hK]; exact ty, m1, h1, ρ, S1, sl.go G1, p1.bind.imp fun w h2 m2 H2 S2 G2 p2 u ru => ?_⟩
    split at p2
    · rename_i ds d q1 q2
      cases y : firstEq d ds with
      | none => rw [y] at p2; exact p2.elim
      | some j =>
        rw [y] at p2
        obtain ⟨a1, a2⟩ := pyd_dp S2 (G2.rep r) q1
        obtain ⟨b1, b2⟩ := pyd_dp S2 ru q2
        obtain ⟨⟨y1, y2, y3⟩, y4⟩ := firstEq_ok y
        exact ⟨a, u, d, ds, j, y1, rfl, rfl, by rw [hK]; exact a1, by rw [hK]; exact b1, a2, b2, y2, y3, y4, p2.here S2 _ (.int _)⟩
    · exact p2.elim
end
end Wv
end
section
set_option Elab.async false
set_option linter.all false
set_option maxRecDepth 100000
set_option maxHeartbeats 4000000
/-! Core L of ours: try, the first clause catches. -/
namespace Wv
open PySem PySem.Spec L2
open PyProof.Rows hiding St

section
variable {X : Cx} {x : Str} {c : Value} {body suite : List Stmt} {b0 : Stmt} {np pos pos' : Pos} {rest : List ExceptHandler} {tb : WX → TS} {ts : Addr → Value → Option Addr → TS} {Wout : WX}
/-- what the first clause wishes of an exception -/
def wFirst (K : PySem.W.Frag) (c : Value) (ts : Addr → Value → Option Addr → TS) (D : Ends) : WX := fun cls d σ H => PySem.W.exmOne K cls c = some true ∧ ∀ a, H a = none → ts a cls d D σ H
theorem ps_try_first (hs : X.stack = X.env :: X.outer) (hf : X.env.frame = some X.env.locals) (hc : Names X x c)
    (hb : ∀ (W : WX) (pn : List (Addr × Obj)) (xe : Value → Shared → Prop), Takes (X.tr pn xe) W → PassesOwn (model X.prog X.w) X.A X.env xe → PSs (X.tr pn xe) body (tb W))
    (hsu : ∀ (a : Addr) (oe : Obj) (cls : Value) (d : Option Addr) (pn : List (Addr × Obj)), Zc cls d oe → (∃ vs, oe.data = .fields vs) → PSs (X.suite a ((a, oe) :: pn)) (b0 :: suite) (ts a cls d)) :
    PS X (.Try body (.ExceptHandler (some (.Name x np)) none (b0 :: suite) pos' :: rest) [] [] pos) (fun D σ H => tb (wFirst X.K c ts D) D σ H) := by
  refine ⟨fun pins s σ H D I h => ?_⟩
  have ok := I.ok
  have hfr : X.A.frames = some (X.env :: X.outer) := by rw [ok.frames, hs]
  refine wpAny_Try_except ?_
  refine wpAny_mono ((hb (wFirst X.K c ts D) (X.pn ++ pins) (fun e s1 => wpAny (model X.prog X.w) X.A (noteFrame e X.env) (fun _ s2 => wpAny (model X.prog X.w) X.A (setFlight e none) (fun _ s3 =>
    wpAny (model X.prog X.w) X.A (handleBy e X.env (.ExceptHandler (some (.Name x np)) none (b0 :: suite) pos' :: rest)) (SP X pins D) X.xe s3) X.xe s2) X.xe s1) (fun u s' xx => ?_) PassesOwn.looking).run [] s σ H D (I.toTry _) h) (fun f s1 hsp => ?_) (fun _ _ z => z)
  · obtain ⟨a, G, sI, ps2, σ2, H2, cls, d, rfl, J2, nb, up, sky, na, os, ag, hw, hsuite⟩ := xx
    have J : Inv X pins σ2 H2 sI := J2.ofTry ok
    rw [hs] at sky
    show wpAny (model X.prog X.w) X.A (noteFrame (.ref a) X.env) _ _ _
    refine Sky.land Zc.steady hfr hf sky fun h3 fl up3 => ?_
    have J3 : Inv X pins σ2 H2 { s' with heap := h3 } := J.landed nb fl.1 (up.trans up3) os ag
    obtain ⟨oe, fs, he, hz, hd⟩ := fl.there
    have out : a ∉ frs (X.env :: X.outer) := fun hm => by
      obtain ⟨_, o2, e2, hno⟩ := fl.2.2.1.mem hm
      rw [he] at e2
      cases e2
      exact hno _ hd
    have nL : a ≠ X.env.locals := fun z => out (List.mem_filterMap.mpr ⟨X.env, List.mem_cons_self, by rw [hf, z]⟩)
    have nF : a ∉ X.fs := fun hm => by
      obtain ⟨e2, m2, q2⟩ := List.mem_filterMap.mp hm
      exact out (List.mem_filterMap.mpr ⟨e2, List.mem_cons_of_mem _ m2, q2⟩)
    have S3 := J3.suite he hd na nL nF
    refine wpAny_handleBy_cons (codeAny_handlers_test ?_) (by intro q; cases q)
    have LT : PySem.W.Looks (model X.prog X.w) h3 (typeOf (.ref a)) cls := fun A Q E s k q => wpAny_typeOf_ref (k _ _ he) (by rw [hz.1]; exact q)
    have LM := PySem.W.exm_one (M := model X.prog X.w) J3.kIn LT hw
    have ask : ∀ {Q : Value → Shared → Prop} {E : Value → Shared → Prop}, Q c { s' with heap := h3 } → wpAny (model X.prog X.w) (X.A.mark (some (.ref a))) (eval (.Name x np) X.env) Q E { s' with heap := h3 } := fun {Q E} q => by
      obtain ⟨g1, g2, g3 | ⟨g3, g4, g5⟩⟩ := hc
      · exact ld_glob (X := X.suite a ((a, oe) :: (X.pn ++ pins))) S3 g1 g3 q g2
      · exact ld_blt (X := X.suite a ((a, oe) :: (X.pn ++ pins))) S3 g1 g3 g4 q g5 g2
    refine ask (LM.here ?_)
    refine codeAny_handlers_suite ?_
    refine HandSPX.lands_againZ fl fun h4 fl4 up4 => ?_
    have J4 : Inv X pins σ2 H2 { s' with heap := h4 } := J.landed nb fl4.1 ((up.trans up3).trans up4) os ag
    obtain ⟨oe4, fs4, he4, hz4, hd4⟩ := fl4.there
    have S4 := J4.suite he4 hd4 na nL nF
    refine wpAny_mono ((hsu a oe4 cls d (X.pn ++ pins) hz4 ⟨_, hd4⟩).run [] _ _ H2 _ S4 (hsuite a na)) (fun f s6 q6 => ?_) (fun _ _ z => False.elim z)
    cases f with
    | ret u =>
      obtain ⟨v, σ6, H6, T6, r6, z6⟩ := q6
      exact ⟨v, σ6, H6, T6.unsuite ok, r6, z6⟩
    | next =>
      obtain ⟨σ6, H6, T6, z6⟩ := q6
      exact ⟨σ6, H6, T6.unsuite ok, z6⟩
    | brk =>
      obtain ⟨σ6, H6, T6, z6⟩ := q6
      exact ⟨σ6, H6, T6.unsuite ok, z6⟩
    | cont =>
      obtain ⟨σ6, H6, T6, z6⟩ := q6
      exact ⟨σ6, H6, T6.unsuite ok, z6⟩
  · cases f with
    | ret u =>
      obtain ⟨v, σ6, H6, T6, r6, z6⟩ := hsp
      exact ⟨v, σ6, H6, T6.ofTry ok, r6, z6⟩
    | next =>
      obtain ⟨σ6, H6, T6, z6⟩ := hsp
      exact wpAny_execs_nil ⟨σ6, H6, T6.ofTry ok, z6⟩
    | brk =>
      obtain ⟨σ6, H6, T6, z6⟩ := hsp
      exact ⟨σ6, H6, T6.ofTry ok, z6⟩
    | cont =>
      obtain ⟨σ6, H6, T6, z6⟩ := hsp
      exact ⟨σ6, H6, T6.ofTry ok, z6⟩
end
/-- is the raised class caught by the clause's? exc: the raised, c: the clause's -/
abbrev Catch := Str → Str → Option Bool
def sTry (ct : Catch) (c : Str) (body suite : DenS) : DenS := fun ρ h => match body ρ h with
  | .exc e ρ2 h2 => (match ct e.cls c with
    | some true => (match suite ρ2 h2 with
      | .exc _ _ _ => .bad
      | o => o)
    | _ => .bad)
  | o => o
/-- class names, their match in the written part -/
def CatchOk (B : Base) (ct : Catch) : Prop := ∀ e c b, ct e c = some b → ∀ E C : Addr, B.G e = some (.ref E) → B.G c = some (.ref C) → PySem.W.exmOne B.K (.ref E) (.ref C) = some b
section
variable {B : Base} {Wx : WX} {X : Cx}
theorem ds_try (hK : X.K = B.K) (hs : X.stack = X.env :: X.outer) (hf : X.env.frame = some X.env.locals) {ct : Catch} (hct : CatchOk B ct) {x : Str} {C : Addr} (hC : B.G x = some (.ref C)) (hc : Names X x (.ref C)) {body suite : List Stmt} {b0 : Stmt} {np pos pos' : Pos} {rest : List ExceptHandler} {f g : DenS}
    (hb : ∀ (W : WX) (pn : List (Addr × Obj)) (xe : Value → Shared → Prop), Takes (X.tr pn xe) W → PassesOwn (model X.prog X.w) X.A X.env xe → DSs B W (X.tr pn xe) body f)
    (hsu : ∀ (a : Addr) (pn : List (Addr × Obj)), DSs B WF0 (X.suite a pn) (b0 :: suite) g) :
    DS B Wx X (.Try body (.ExceptHandler (some (.Name x np)) none (b0 :: suite) pos' :: rest) [] [] pos) (sTry ct x f g) := by
  refine ⟨fun pins s σ H D I ⟨m, h, ρ, S, sl, p⟩ => ?_⟩
  refine (ps_try_first (tb := fun W => tDS B W f) (ts := fun _ _ _ => tDS B WF0 g) hs hf hc hb (fun a oe cls d pn _ _ => hsu a ((a, oe) :: pn))).run pins s σ H D I ⟨m, h, ρ, S, sl, ?_⟩
  unfold sTry at p
  cases z : f ρ h with
  | exc e ρ2 h2 =>
    rw [z] at p
    dsimp only at p
    refine fun m2 H2 S2 G2 σ2 cls d sl2 re => ?_
    obtain ⟨⟨E, hE, rfl⟩, _⟩ := re
    cases y : ct e.cls x with
    | none => rw [y] at p; exact p.elim
    | some b =>
      rw [y] at p
      cases b with
      | false => exact p.elim
      | true =>
        refine ⟨by rw [hK]; exact hct _ _ _ y E C hE hC, fun a ha => ⟨m2, h2, ρ2, S2, sl2, ?_⟩⟩
        dsimp only at p
        cases y2 : g ρ2 h2 with
        | exc e3 ρ3 h3 => rw [y2] at p; exact p.elim
        | bad => rw [y2] at p; exact p.elim
        | next ρ3 h3 => rw [y2] at p; exact PSV.mono (o := .next ρ3 h3) p G2
        | ret w h3 => rw [y2] at p; exact PSV.mono (o := .ret w h3) p G2
        | brk ρ3 h3 => rw [y2] at p; exact PSV.mono (o := .brk ρ3 h3) p G2
        | cont ρ3 h3 => rw [y2] at p; exact PSV.mono (o := .cont ρ3 h3) p G2
  | bad =>
    rw [z] at p
    exact p.elim
  | _ =>
    rw [z] at p
    exact p
end
end Wv
end
section
set_option Elab.async false
set_option linter.all false
set_option maxRecDepth 100000
set_option maxHeartbeats 4000000
/-! Core Lb of ours: t[::-1] of a tuple. -/
namespace Wv
open PySem PySem.Spec L2 HT
open PyProof.Rows hiding St

section
variable {prog : Program} {w : World} {A : Around} {E : Value → Shared → Prop} {s : Shared}
theorem places_back (n : Nat) : Builtin.Slice.slicePlaces ((n : Int) - 1) (-1) (-1) = n := by
  unfold Builtin.Slice.slicePlaces
  rw [if_neg (by omega)]
  by_cases hn : n = 0
  · subst hn
    simp
  · have z : (-1 : Int) < (n : Int) - 1 := by omega
    rw [if_pos (by simpa using z), show -(-1 : Int) = 1 from rfl, Int.ediv_one]
    omega
theorem applied_back {sl : Addr} {n : Nat} {vl vu vs : Value} {Q : Int × Int × Nat → Shared → Prop} (hs : s.heap.IsSliceOf sl vl vu vs) (pl : IsPart vl none) (pu : IsPart vu none) (ps : IsPart vs (some (-1))) (h : Q ((n : Int) - 1, -1, n) s) : wpAny (model prog w) A (Builtin.Slice.sliceApplied (.ref sl) (pure (n : Int))) Q E s := by
  obtain ⟨os, hos, hcs, hds⟩ := id hs
  unfold Builtin.Slice.sliceApplied Builtin.Slice.sliceFields
  refine wpAny_bind (wpAny_bind (wpAny_field hos hds (x := vl) rfl (wpAny_bind (wpAny_field hos hds (x := vu) rfl (wpAny_bind (wpAny_field hos hds (x := vs) rfl (wpAny_pure ?_)))))))
  refine wpAny_bind (slicePart_ ps ?_); show wpAny _ _ (if ((-1 : Int) == 0) = true then _ else _) _ _ s
  rw [if_neg (by decide)]
  refine wpAny_bind (slicePart_ pl (wpAny_bind (slicePart_ pu (wpAny_bind (wpAny_pure ?_)))))
  have e : Builtin.Slice.sliceAdjust none none (-1) (n : Int) = ((n : Int) - 1, -1) := by
    unfold Builtin.Slice.sliceAdjust
    simp
  show wpAny _ _ (match Builtin.Slice.sliceAdjust none none (-1) (n : Int) with | (lo, hi) => pure (lo, (-1 : Int), Builtin.Slice.slicePlaces lo hi (-1))) _ _ s
  rw [e]
  show wpAny _ _ (pure ((n : Int) - 1, (-1 : Int), Builtin.Slice.slicePlaces ((n : Int) - 1) (-1) (-1))) _ _ s
  rw [places_back]; exact wpAny_pure h
theorem pick_back (xs : Array Value) : ((List.range xs.size).filterMap fun (k : Nat) => xs[(((xs.size : Nat) : Int) - 1 + (k : Int) * (-1)).toNat]?) = xs.toList.reverse := by
  have e : ∀ m, m ≤ xs.size → ((List.range m).filterMap fun (k : Nat) => xs[(((xs.size : Nat) : Int) - 1 + (k : Int) * (-1)).toNat]?) = xs.toList.reverse.take m := by
    intro m
    induction m with
    | zero => intro _; simp
    | succ m ih =>
      intro hm
      have z : (((xs.size : Nat) : Int) - 1 + (m : Int) * (-1)).toNat = xs.size - 1 - m := by omega
      rw [List.range_succ, List.filterMap_append, ih (by omega), List.take_add_one, List.getElem?_reverse (by rw [Array.length_toList]; omega)]
      rw [List.filterMap_cons, List.filterMap_nil, z, Array.length_toList, Array.getElem?_toList]
      cases xs[xs.size - 1 - m]? <;> rfl
  have := e xs.size (Nat.le_refl _)
  rw [this, List.take_of_length_le (by simp)]
theorem getItem_tuple_back {t sl : Addr} {items : Array Value} {vl vu vs : Value} {Q : Value → Shared → Prop} (ht : IsTup s.heap t items) (hs : s.heap.IsSliceOf sl vl vu vs) (pl : IsPart vl none) (pu : IsPart vu none) (ps : IsPart vs (some (-1)))
    (h : Q (.ref s.heap.objs.size) { s with heap := s.heap.push { cls := .type "tuple", data := .seq items.toList.reverse.toArray } }) (hsz : items.size ≤ sizeLine) : wpAny (model prog w) A (getItem (.ref t) (.ref sl)) Q E s := by
  have hrev : sizeOk (.seq items.toList.reverse.toArray) := by
    show items.toList.reverse.toArray.size ≤ sizeLine
    simpa using hsz
  obtain ⟨os, hos, hcs, hds⟩ := id hs
  have hTs : s.TypeIs (.ref sl) "slice" := ⟨os, hos, hcs⟩
  unfold getItem
  try with_reducible refine wpAny_holding ?_
  first | refine wpAny_bind (wpAny_pure ?_) | skip
  refine wpAny_bind (wpAny_sequenceKey ht.typeIs (by decide) ?_)
  refine wpAny_bind (wpAny_callSpecial?_slot (name := Str.ofString "__getitem__") ht.typeIs PyProof.Rows.slot_tuple_getitem (wpAny_call_entry PyProof.Rows.slot_tuple_getitem ht.typeIs entry_tuple_getitem ?_ (args_tuple_getitem _ _)))
  show wpAny _ _ (Builtin.Tuple.tupleItemsOf (.ref t) >>= _) _ _ s
  refine wpAny_bind (tupleItemsOf_ ht (wpAny_bind (wpAny_typeOf hTs ?_)))
  rw [if_pos (by decide)]
  refine wpAny_bind (applied_back hs pl pu ps ?_)
  show wpAny _ _ (if (((items.size : Nat) : Int) - 1 == 0 && (-1 : Int) == 1 && items.size == items.size) = true then _ else _) _ _ s
  rw [if_neg (by simp), pick_back]
  first
    | exact wpAny_bind (m := Builtin.Tuple.tupleExact _) (wpAny_newObj_type (wpAny_pure ⟨_, rfl, wpAny_pure h⟩) hrev)
    | exact wpAny_bind (m := Builtin.Tuple.tupleExact _) (wpAny_newObj_type (wpAny_bind (wpAny_pure (wpAny_pure ⟨_, rfl, wpAny_pure h⟩))) hrev)
    | exact wpAny_bind (wpAny_bind (m := Builtin.Tuple.tupleExact _) (wpAny_newObj_type (wpAny_pure (wpAny_pure ⟨_, rfl, wpAny_pure h⟩)) hrev))
    | exact wpAny_bind (wpAny_bind (m := Builtin.Tuple.tupleExact _) (wpAny_newObj_type (wpAny_pure ⟨_, rfl, wpAny_pure h⟩) hrev))
end
def cRev (f : Den) : Den := fun ρ h => (f ρ h).bind fun w h1 => match w with
  | .tup ws => .ok (.tup ws.reverse) h1
  | _ => .bad
theorem de_rev {B : Base} {Wx : WX} {X : Cx} (hK : X.K = B.K) {e : Expr} {f : Den} {k : Nat} {p1 p2 p3 pos : Pos} (d : DE B Wx X e f) : DE B Wx X (.Subscript e (.Slice none none (some (.UnaryOp .USub (.Constant (.int 1) k p1) p2)) p3) pos) (cRev f) := by
  refine ⟨fun pins s σ H Q I ⟨m, h, ρ, S, sl, p⟩ => ?_⟩
  refine Subscript_ (d.run I S sl p.bind fun v u s1 w h1 m1 H1 I1 r1 S1 G1 q1 pv => ?_)
  cases w with
  | tup ws =>
    obtain ⟨a, xs, rfl, qa, ra⟩ := q1.tup_
    rw [← hK] at qa
    cases r1
    have part : L2.PO X (some (.UnaryOp .USub (.Constant (.int 1) k p1) p2)) (tPart (tUn (rU fun i => .int (-i)) (tC (.int 1)))) := po_some (pe_un un_neg pe_int)
    refine wpAny_Slice (thn (po_none.run pins s1 σ H1 (fun o H2 => o = none ∧ H2 = H1) I1 ⟨rfl, rfl⟩) fun vl s2 ⟨l, H2, I2, pl, el, e2⟩ => ?_)
    subst el e2
    refine thn (po_none.run pins s2 σ H2 (fun o H3 => o = none ∧ H3 = H2) I2 ⟨rfl, rfl⟩) fun vu s3 ⟨l2, H3, I3, pu, eu, e3⟩ => ?_
    subst eu e3
    refine thn (part.run pins s3 σ H3 (fun o H4 => o = some (-1) ∧ H4 = H3) I3 ⟨1, rfl, -1, rfl, rfl, rfl⟩) fun vs s4 ⟨o, H4, I4, ps, eo, e4⟩ => ?_
    subst eo e4
    have I5 : Inv X pins σ H4 { s4 with heap := s4.heap.push { cls := .type "slice", data := .fields #[vl, vu, vs] } } := I4.kept (t' := s4.toks) fun b ob q => Heap.get?_push_of_some _ q
    obtain ⟨its, r, ht, hz⟩ := I5.tuple qa
    have hlen := r.length
    show wpAny (model X.prog X.w) X.A (subscriptTail e (.Slice none none (some (.UnaryOp .USub (.Constant (.int 1) k p1) p2)) p3) (.ref a) (.ref s4.heap.objs.size)) (EP X pins σ Q) X.xe { s4 with heap := s4.heap.push { cls := .type "slice", data := .fields #[vl, vu, vs] } }
    refine tail_any (ops := [.ref a, .ref s4.heap.objs.size]) ht.typeIs (PyProof.Rows.slot_tuple_getitem.lookup) ?_ (by with_unfolding_all rfl)
    refine getItem_tuple_back ht (Heap.IsSliceOf.new _ vl vu vs) pl pu ps ?_ (by rw [List.size_toArray]; omega)
    refine ⟨.ref _, _, I5.laid (t' := s4.toks) (o := .tup xs.reverse) (fun b ob q => Heap.get?_push_of_some _ q) (Nat.le_refl _) ?_, rfl, ?_⟩
    · exact ⟨by rw [List.length_reverse]; exact hz, its.reverse, r.reverse, by first | exact IsTup.new _ _ | exact ⟨_, Heap.get?_push_size _ rfl, rfl, _, rfl⟩⟩
    · have hf : H4 s4.heap.objs.size = none := I4.hok.fresh (Nat.le_refl _)
      have hf2 := I5.hok.fresh (Nat.le_refl _)
      exact (PO.of (E := XS B Wx σ) (show PV B m1 H4 (Out.of (some (.tup ws.reverse, h1))) (QE B Q) (XS B Wx σ) from pv)).tup rfl S1 ra.reverse hf2
  | _ => exact pv.elim
end Wv
end
section
set_option Elab.async false
set_option linter.all false
set_option maxRecDepth 100000
set_option maxHeartbeats 4000000
/-! Core Lc of ours: ranges as lists and tuples, sorted ints, pop. -/
namespace Wv
open PySem PySem.Spec L2
open PyProof.Rows hiding St

theorem reps_ints {B : Base} {m : List Addr} {H : Hp} : ∀ ns : List Int, reps B m H (ns.map W.int) (ns.map V.int)
  | [] => reps.nil
  | n :: ns => reps.cons (.int n) (reps_ints ns)
/-- a range as a fresh list -/
def rgW (r : Option (List W)) (h : Store) : Out (List W) := match r with
  | some q => if q.length ≤ 16777216 then .ok q h else .bad
  | none => .bad
def cRg1 (f : Den) : DenA := fun ρ h => (f ρ h).bind fun w h1 => rgW (rng1 [w]) h1
def cRg2 (f g : Den) : DenA := fun ρ h => (f ρ h).bind fun w h1 => (g ρ h1).bind fun u h2 => rgW (rng2 [w, u]) h2
def cTupR (f : DenA) : Den := fun ρ h => (f ρ h).bind fun ws h1 => .ok (.tup ws) h1
def sortI (ns : List Int) : List Int := ns.mergeSort fun a b => decide (a ≤ b)
theorem sortI_eq {ns ns' : List Int} (p : ns'.Perm ns) (o : ns'.Pairwise (· ≤ ·)) : ns' = sortI ns := by
  refine List.Perm.eq_of_pairwise (le := (· ≤ ·)) (fun a b _ _ => Int.le_antisymm) o ?_ (p.trans (List.mergeSort_perm ns _).symm)
  have := List.pairwise_mergeSort (le := fun a b : Int => decide (a ≤ b)) (fun a b c h1 h2 => by simp at *; omega) (fun a b => by simp; omega) ns
  exact this.imp fun h => of_decide_eq_true h
def cSort (f : DenQ) : DenA := fun ρ h => (f ρ h).bind fun q h1 => match q.1, intsW q.2 with
  | false, some ns => .ok ((sortI ns).map W.int) h1
  | _, _ => .bad
/-- an item of a list is taken out -/
def cPop (fo fe : Den) : Den := fun ρ h => (fo ρ h).bind fun o h1 => match lstRef h1 o with
  | some n => (fe ρ h1).bind fun w h2 => (match own? h2 n, w with
    | some ws, .int i => if 0 ≤ i ∧ i < 1000000000 then (match ws[i.toNat]? with
      | some u => .ok u (h2.set n (.lst (ws.eraseIdx i.toNat)))
      | none => .bad) else .bad
    | _, _ => .bad)
  | none => .bad
section
variable {B : Base} {Wx : WX} {X : Cx} {a b e o : Expr} {f g fo fe : Den} {fq : DenQ} {p p2 pos pos2 apos cpos : Pos}
theorem rgOk1 {n : Int} {q : List W} (e : rng1 [.int n] = some q) (hl : q.length ≤ 16777216) : RgOk 0 n ∧ q = ((List.range n.toNat).map fun k => W.int ((0 : Int) + (k : Nat))) := by
  unfold rng1 at e
  dsimp only at e
  split at e
  · rename_i c
    cases e
    unfold rngOk at c
    rw [List.length_map, List.length_range] at hl
    simp at c
    refine ⟨⟨by decide, by decide, c.1, c.2, ?_⟩, rfl⟩
    rw [Int.sub_zero]
    exact hl
  · cases e
theorem rgOk2 {i n : Int} {q : List W} (e : rng2 [.int i, .int n] = some q) (hl : q.length ≤ 16777216) : RgOk i n ∧ q = ((List.range (n - i).toNat).map fun k => W.int (i + (k : Nat))) := by
  unfold rng2 at e
  dsimp only at e
  split at e
  · rename_i c
    cases e
    unfold rngOk at c
    rw [List.length_map, List.length_range] at hl
    simp at c
    exact ⟨⟨c.1.1, c.1.2, c.2.1, c.2.2, hl⟩, rfl⟩
  · cases e
theorem rg_reps {m : List Addr} {H : Hp} (i n : Int) : reps B m H ((List.range (n - i).toNat).map fun k => W.int (i + (k : Nat))) (rgV i n) := by
  unfold rgV
  have := reps_ints (B := B) (m := m) (H := H) ((List.range (n - i).toNat).map fun k => i + ((k : Nat) : Int))
  rw [List.map_map, List.map_map] at this
  exact this
theorem dl_listRg1 (hc : X.calm = true) (hg : Gl X "list") (hm : X.mg "list" = none) (hg2 : Gl X "range") (hm2 : X.mg "range" = none) (hs : isStar a = false) (d : DE B Wx X a f) :
    DL B Wx X (.Call (.Name "list" p) [.Call (.Name "range" p2) [a] [] pos2] [] pos) (cRg1 f) := by
  refine ⟨fun pins s σ H Q I ⟨m, h, ρ, S, sl, pv⟩ => ?_⟩
  refine (pe_listRg hc hg hm (prg_1 hg2 hm2 d (starEach_cons hs))).run pins s σ H Q I ?_
  refine ⟨m, h, ρ, S, sl, pv.bind.imp fun w h1 m1 H1 S1 G1 p1 v r => ?_⟩
  unfold rgW at p1
  split at p1
  · rename_i q z
    split at p1
    · rename_i hl
      cases w with
      | int n =>
        obtain ⟨ok, e⟩ := rgOk1 z hl
        subst e
        refine ⟨n, r.int_, ok, fun l hl => ?_⟩
        have rr := rg_reps (B := B) (m := m1) (H := H1) 0 n
        rw [Int.sub_zero] at rr
        exact p1 m1 _ (S1.more hl) (Go.more hl) l _ upd_same (notin_of S1 hl) (fresh_of S1 G1 hl) ((Go.more (m := m1) hl).reps rr)
      | _ => cases z
    · exact p1.elim
  · exact p1.elim
theorem dl_listRg2 (hc : X.calm = true) (hg : Gl X "list") (hm : X.mg "list" = none) (hg2 : Gl X "range") (hm2 : X.mg "range" = none) (hs : isStar a = false) (hs2 : isStar b = false) (d : DE B Wx X a f) (d2 : DE B Wx X b g) :
    DL B Wx X (.Call (.Name "list" p) [.Call (.Name "range" p2) [a, b] [] pos2] [] pos) (cRg2 f g) := by
  refine ⟨fun pins s σ H Q I ⟨m, h, ρ, S, sl, pv⟩ => ?_⟩
  refine (pe_listRg hc hg hm (prg_2 hg2 hm2 d d2 (starEach_cons hs) (starEach_cons hs2) (by rw [starEach_cons hs2]; rfl))).run pins s σ H Q I ?_
  refine ⟨m, h, ρ, S, sl, pv.bind.imp fun w h1 m1 H1 S1 G1 p1 v r => ?_⟩
  refine ⟨m1, h1, ρ, S1, sl.go G1, p1.bind.imp fun u h2 m2 H2 S2 G2 p2 v2 r2 => ?_⟩
  unfold rgW at p2
  split at p2
  · rename_i q z
    split at p2
    · rename_i hl
      cases w with
      | int i =>
        cases u with
        | int n =>
          obtain ⟨ok, e⟩ := rgOk2 z hl
          subst e
          refine ⟨i, n, r.int_, r2.int_, ok, fun l hl => ?_⟩
          have rr := rg_reps (B := B) (m := m2) (H := H2) i n
          exact p2 m2 _ (S2.more hl) (Go.more hl) l _ upd_same (notin_of S2 hl) (fresh_of S1 G1 (fresh_of S2 G2 hl)) ((Go.more (m := m2) hl).reps rr)
        | _ => cases z
      | _ => cases z
    · exact p2.elim
  · exact p2.elim
theorem de_tupRg1 (hK : X.K = B.K) (hc : X.calm = true) (hg : Gl X "tuple") (hm : X.mg "tuple" = none) (hg2 : Gl X "range") (hm2 : X.mg "range" = none) (hs : isStar a = false) (d : DE B Wx X a f) :
    DE B Wx X (.Call (.Name "tuple" p) [.Call (.Name "range" p2) [a] [] pos2] [] pos) (cTupR (cRg1 f)) := by
  refine ⟨fun pins s σ H Q I ⟨m, h, ρ, S, sl, pv⟩ => ?_⟩
  refine (pe_tupRg hc hg hm (prg_1 hg2 hm2 d (starEach_cons hs))).run pins s σ H Q I ?_
  refine ⟨m, h, ρ, S, sl, pv.bind.bind.imp fun w h1 m1 H1 S1 G1 p1 v r => ?_⟩
  unfold rgW at p1
  split at p1
  · rename_i q z
    split at p1
    · rename_i hl
      cases w with
      | int n =>
        obtain ⟨ok, e⟩ := rgOk1 z hl
        subst e
        refine ⟨n, r.int_, ok, fun l hl => ?_⟩
        have rr := rg_reps (B := B) (m := m1) (H := H1) 0 n
        rw [Int.sub_zero] at rr
        exact PO.tup (o := some (.tup _, h1)) (PO.of (E := XS B Wx σ) (p1.here S1)) rfl S1 rr hl
      | _ => cases z
    · exact p1.elim
  · exact p1.elim
theorem dl_sorted (hK : X.K = B.K) (hg : Gl X "sorted") (hm : X.mg "sorted" = none) (hs : isStar e = false) (d : DQ B Wx X e fq) : DL B Wx X (.Call (.Name "sorted" p) [e] [] pos) (cSort fq) := by
  refine ⟨fun pins s σ H Q I ⟨m, h, ρ, S, sl, pv⟩ => ?_⟩
  refine (pe_callB cr_sortedI hg hm boot_sorted (pa_cons d pa_nil (starEach_cons hs)) (by decide) (by decide) (starEach_cons hs) rfl).run pins s σ H Q I ⟨m, h, ρ, S, sl, pv.bind.imp fun q h1 m1 H1 S1 G1 p1 a vs sq r => ?_⟩
  obtain ⟨t, ws⟩ := q
  cases z : intsW ws with
  | none =>
    rw [z] at p1
    cases t <;> exact p1.elim
  | some ns =>
    rw [z] at p1
    have e := intsW_rep z r
    cases t with
    | true => exact p1.elim
    | false =>
      rcases seqAt_or sq with ⟨_, y⟩ | ⟨y, _⟩
      · refine ⟨a, ns, rfl, by rw [hK, ← e]; exact y, fun ns' l pm od hl => ?_⟩
        rw [sortI_eq pm od]
        exact p1 m1 _ (S1.more hl) (Go.more hl) l _ upd_same (notin_of S1 hl) (fresh_of S1 G1 hl) (reps_ints _)
      · cases y
theorem de_pop (hK : X.K = B.K) (M : MthOk X o e "pop" apos cpos) (d1 : DE B Wx X o fo) (d2 : DE B Wx X e fe) : DE B Wx X (.Call (.Attribute o "pop" apos) [e] [] cpos) (cPop fo fe) := by
  refine ⟨fun pins s σ H Q I ⟨m, h, ρ, S, sl, p⟩ => ?_⟩
  refine (pe_bm PySem.F.plainAttrs_list PySem.F.slot_list_pop PySem.F.type_list_pop mt_popAt d1 (pa_cons d2 pa_nil (starEach_cons M.star)) M.base M.few M.line (starEach_cons M.star) rfl).run pins s σ H Q I ⟨m, h, ρ, S, sl, p.bind.imp fun wo h1 m1 H1 S1 G1 p1 v r => ?_⟩
  cases z : lstRef h1 wo with
  | none => rw [z] at p1; exact p1.elim
  | some n =>
    rw [z] at p1
    dsimp only at p1
    obtain ⟨a, rfl, rfl, ha, ty⟩ := lstRef_ok S1 r z
    refine ⟨by rw [hK]; exact ty, m1, h1, ρ, S1, sl.go G1, p1.bind.imp fun w h2 m2 H2 S2 G2 p2 u ru => ?_⟩
    cases y : own? h2 n with
    | none => rw [y] at p2; exact p2.elim
    | some ws =>
      rw [y] at p2
      cases w with
      | int i =>
        dsimp only at p2
        obtain ⟨a2, e2, ha2⟩ := (G2.rep r).ref_
        cases e2
        obtain ⟨vs, ea, ra⟩ := own_at S2 ha2 y
        by_cases c : 0 ≤ i ∧ i < 1000000000
        · rw [if_pos c] at p2
          cases q : ws[i.toNat]? with
          | none => rw [q] at p2; exact p2.elim
          | some u2 =>
            rw [q] at p2
            dsimp only at p2
            obtain ⟨z2, e3, rz⟩ := ra.get q
            have hi : i.toNat < vs.length := (List.getElem?_eq_some_iff.mp e3).1
            have sq : seqIndex? i vs.length = some i.toNat := by
              unfold seqIndex?
              rw [if_neg (show ¬ i < 0 by omega)]
              have e4 : (decide (0 ≤ i) && decide (i < (vs.length : Int))) = true := by
                simp
                omega
              rw [if_pos e4]
            have G3 : Go m2 H2 m2 (upd H2 a (.lst (vs.eraseIdx i.toNat))) := Go.put S2 ha2
            refine ⟨a, vs, i, i.toNat, z2, rfl, by rw [ru.int_], ea, by omega, by omega, sq, e3, ?_⟩
            have re : reps B m2 H2 (ws.eraseIdx i.toNat) (vs.eraseIdx i.toNat) := by
              rw [List.eraseIdx_eq_take_drop_succ, List.eraseIdx_eq_take_drop_succ]
              exact (ra.take _).append (ra.drop _)
            exact p2 m2 _ (S2.put ha2 ⟨_, upd_same, G3.reps re⟩) G3 _ (G3.rep rz)
        · rw [if_neg c] at p2
          exact p2.elim
      | _ => exact p2.elim
end
end Wv
end
section
set_option Elab.async false
set_option linter.all false
set_option maxRecDepth 100000
set_option maxHeartbeats 4000000
/-! Core M of ours: one evaluator for the written bodies, and its looks. -/
namespace Wv
open PySem PySem.Spec L2
open PyProof.Rows hiding St

/-- what the names mean where a text stands -/
structure Gam where
  sc : Scope
  mine : Str → Bool
structure Setup where
  N : List Str
  defs : Str → Option Nat
  dvs : Str → List W
  cst : Str → Option W
  free : Str → Bool
  exc : Str → Bool
  cls : Str → Bool
  ct : Catch
  big : Bool
  call : CallT
def kOf (Γ : Gam) (x : Str) : Option NameKind := Γ.sc.names.lookup x
def isGl (Γ : Gam) (x : Str) : Bool := decide (kOf Γ x = some .globalImplicit) && !(x == ("__debug__" : Str))
def isVis (Γ : Gam) (x : Str) : Bool := (match kOf Γ x with
  | some .local => true
  | some .cell => true
  | some .free => true
  | _ => false) && (!(x == ("__debug__" : Str)) && !(x == ("__classdict__" : Str)))
def isLoc (Γ : Gam) (x : Str) : Bool := decide (kOf Γ x = some .local)
def isTg (Γ : Gam) (x : Str) : Bool := match kOf Γ x with
  | some .local => true
  | some .cell => Γ.mine x
  | _ => false
def place (x : Str) : List Str → Option Nat
  | [] => none
  | y :: l => if y = x then some 0 else (place x l).map (· + 1)
def slotOf (U : Setup) (Γ : Gam) (x : Str) : Option Nat := if isVis Γ x = true then place x U.N else none
def isFree (U : Setup) (Γ : Gam) (x : Str) : Bool := isGl Γ x && U.free x
structure Ev where
  E : Gam → Expr → Den
  T : Gam → Expr → DenT
  A : Gam → List Expr → DenA
  L : Gam → Expr → DenA
  I : Gam → Expr → Expr → DenI
  S : Gam → List Stmt → DenS
def evBad : Ev := ⟨fun _ _ => dBad, fun _ _ => dtBad, fun _ _ => daBad, fun _ _ => daBad, fun _ _ _ _ _ => .bad, fun _ _ => sBad⟩

/-! ### targets -/
def tgts (f : Expr → Option Tgt) : List Expr → Option (List Tgt)
  | [] => some []
  | e :: es => match isStar e, f e, tgts f es with
    | false, some t, some ts => some (t :: ts)
    | _, _, _ => none
def tgOf (U : Setup) (Γ : Gam) : Nat → Expr → Option Tgt
  | n + 1, .Name x _ => if isTg Γ x = true then (place x U.N).map .nm else none
  | n + 1, .Tuple es _ _ => (tgts (tgOf U Γ n) es).map .tp
  | _, _ => none
def gsOf (f : Expr → DenG) : List Expr → DenGs
  | [] => gsNil
  | e :: es => if isStar e = true then (fun _ _ _ => .bad) else gsCons (f e) (gsOf f es)
def isSlice : Expr → Bool
  | .Slice _ _ _ _ => true
  | _ => false
def gOf (U : Setup) (r : Ev) (Γ : Gam) : Nat → Expr → DenG
  | n + 1, .Name x _ => if isTg Γ x = true then (match place x U.N with
    | some i => gNm i
    | none => gBad) else gBad
  | n + 1, .Subscript o i _ => if isSlice i = false then gSx (r.E Γ o) (r.E Γ i) else gBad
  | n + 1, .Tuple es _ _ => if es.all (fun e => !isStar e) = true then gTp es.length (gsOf (gOf U r Γ n) es) else gBad
  | _, _ => gBad

/-! ### comprehensions, fresh lists -/
def ownOf (U : Setup) (scope : Scope) : List (Str × Nat) := scope.names.filterMap fun y => match y.2 with
  | .local => (place y.1 U.N).map fun i => (y.1, i)
  | .cell => (place y.1 U.N).map fun i => (y.1, i)
  | _ => none
def inner (Γ : Gam) (scope : Scope) : Gam := ⟨relS scope Γ.sc, fun x => scope.names.lookup x == some .cell⟩
def cTrue : DenT := fun _ h => .ok true h
def ifsOf (r : Ev) (Γ : Gam) : List Expr → DenT
  | [] => cTrue
  | [c] => r.T Γ c
  | _ => dtBad
def isSet : Expr → Bool
  | .Set _ _ _ => true
  | _ => false
noncomputable def comp1 (U : Setup) (r : Ev) (Γ : Gam) (elt : Expr) (scope : Scope) (g : Comprehension) : DenA :=
  let own := ownOf U scope
  let Δ := inner Γ scope
  if blkC U.N Γ.sc scope own = true ∧ isSet g.iter = false then (match tgOf U Δ 5 g.target with
    | some T => if T.slots.all (fun i => (own.map (·.2)).contains i) = true then cComp (r.I Γ g.target g.iter) (own.map (·.2)) T (ifsOf r Δ g.ifs) (r.E Δ elt) else daBad
    | none => daBad) else daBad
noncomputable def comp2 (U : Setup) (r : Ev) (Γ : Gam) (elt : Expr) (scope : Scope) (g g1 : Comprehension) : DenA :=
  let own := ownOf U scope
  let Δ := inner Γ scope
  if blkC U.N Γ.sc scope own = true ∧ isSet g.iter = false ∧ isSet g1.iter = false then (match tgOf U Δ 5 g.target, tgOf U Δ 5 g1.target with
    | some T, some T1 => if T.slots.all (fun i => (own.map (·.2)).contains i) = true ∧ T1.slots.all (fun i => (own.map (·.2)).contains i) = true then
        cComp2 (r.I Γ g.target g.iter) (own.map (·.2)) T (ifsOf r Δ g.ifs) (r.I Δ g1.target g1.iter) T1.slots T1 (ifsOf r Δ g1.ifs) (r.E Δ elt) else daBad
    | _, _ => daBad) else daBad
noncomputable def compO (U : Setup) (r : Ev) (Γ : Gam) (elt : Expr) (scope : Scope) : List Comprehension → DenA
  | [g] => if g.is_async = 0 then comp1 U r Γ elt scope g else daBad
  | [g, g1] => if g.is_async = 0 ∧ g1.is_async = 0 then comp2 U r Γ elt scope g g1 else daBad
  | _ => daBad
def cLst (fa : DenA) : DenA := fun ρ h => (fa ρ h).bind fun ws h1 => if ws.length ≤ 16777216 then .ok ws h1 else .bad
def isL (U : Setup) (Γ : Gam) : Expr → Bool
  | .ListComp _ _ _ _ => true
  | .List _ _ => true
  | .Call (.Name x _) [e] [] _ => (x == ("list" : Str) || x == ("sorted" : Str)) && isFree U Γ x && !isStar e
  | _ => false
def qE (U : Setup) (r : Ev) (Γ : Gam) (e : Expr) : DenQ := if isL U Γ e = true then cSeqF (r.L Γ e) else cSeqV (r.E Γ e)
def isRg (U : Setup) (Γ : Gam) (x : Str) : Bool := x == ("range" : Str) && isFree U Γ x
/-- list(e) -/
def listE (U : Setup) (r : Ev) (Γ : Gam) : Expr → DenA
  | .Call (.Name x p) [a] [] pos => if (isRg U Γ x && !isStar a) = true then cRg1 (r.E Γ a) else cListQ (qE U r Γ (.Call (.Name x p) [a] [] pos))
  | .Call (.Name x p) [a, b] [] pos => if (isRg U Γ x && !isStar a && !isStar b) = true then cRg2 (r.E Γ a) (r.E Γ b) else cListQ (qE U r Γ (.Call (.Name x p) [a, b] [] pos))
  | e => cListQ (qE U r Γ e)
/-- tuple(e) -/
def tupE (U : Setup) (r : Ev) (Γ : Gam) : Expr → Den
  | .Call (.Name x p) [a] [] pos => if (isRg U Γ x && !isStar a) = true then cTupR (cRg1 (r.E Γ a)) else cQ1 tupQ (qE U r Γ (.Call (.Name x p) [a] [] pos))
  | e => cQ1 tupQ (qE U r Γ e)
noncomputable def lE (U : Setup) (r : Ev) (Γ : Gam) : Expr → DenA
  | .ListComp elt gens scope _ => compO U r Γ elt scope gens
  | .List es _ => cLst (r.A Γ es)
  | .Call (.Name x _) [e] [] _ => if (x == ("list" : Str) && isFree U Γ x && !isStar e) = true then listE U r Γ e else if (x == ("sorted" : Str) && isFree U Γ x && !isStar e) = true then cSort (qE U r Γ e) else daBad
  | _ => daBad

/-! ### what is walked -/
def isTupE : Expr → Bool
  | .Tuple _ _ _ => true
  | _ => false
def iPl (U : Setup) (r : Ev) (Γ : Gam) (e : Expr) : DenI := if isL U Γ e = true then cItF (r.L Γ e) else cItV (r.E Γ e)
def iE (U : Setup) (r : Ev) (Γ : Gam) (tg : Expr) : Expr → DenI
  | .Call (.Name x p) [a] [] pos => if isFree U Γ x = true ∧ isStar a = false then (if x = "range" then cItR rng1 (r.A Γ [a]) else if x = "enumerate" ∧ isTupE tg = true then cItS enumOf (r.A Γ [a]) else iPl U r Γ (.Call (.Name x p) [a] [] pos)) else iPl U r Γ (.Call (.Name x p) [a] [] pos)
  | .Call (.Name x p) [a, b] [] pos => if isFree U Γ x = true ∧ isStar a = false ∧ isStar b = false then (if x = "range" then cItR rng2 (r.A Γ [a, b]) else if x = "zip" ∧ isTupE tg = true then cItS zipOf (r.A Γ [a, b]) else iPl U r Γ (.Call (.Name x p) [a, b] [] pos)) else iPl U r Γ (.Call (.Name x p) [a, b] [] pos)
  | .Call (.Name x p) [a, b, c] [] pos => if isFree U Γ x = true ∧ isStar a = false ∧ isStar b = false ∧ isStar c = false ∧ x = "range" then cItR rng3 (r.A Γ [a, b, c]) else iPl U r Γ (.Call (.Name x p) [a, b, c] [] pos)
  | e => iPl U r Γ e

/-! ### calls -/
def tyN : Str → Option String := fun x => if x = "int" then some "int" else if x = "bool" then some "bool" else if x = "str" then some "str" else if x = "tuple" then some "tuple" else if x = "list" then some "list" else if x = "dict" then some "dict" else none
def tyNs (U : Setup) (Γ : Gam) : List Expr → Option (List (Str × String × Pos))
  | [] => some []
  | .Name x p :: es => match isFree U Γ x, tyN x, tyNs U Γ es with
    | true, some t, some l => some ((x, t, p) :: l)
    | _, _, _ => none
  | _ => none
/-- builtins of one argument -/
def call1 (U : Setup) (r : Ev) (Γ : Gam) (x : Str) (e : Expr) : Den :=
  if x = "len" then (if isL U Γ e = true then cQ1 lenQ (cSeqF (r.L Γ e)) else cV1 lenV (r.E Γ e))
  else if x = "tuple" then tupE U r Γ e
  else if x = "all" then cQ1 allQ (qE U r Γ e)
  else if x = "any" then cQ1 anyQ (qE U r Γ e)
  else if x = "sum" then cQ1 sumQ (qE U r Γ e)
  else if x = "int" then cV1 intV (r.E Γ e)
  else if x = "abs" then cV1 absV1 (r.E Γ e)
  else if x = "str" then cV1 strV (r.E Γ e)
  else dBad
def call2 (U : Setup) (r : Ev) (Γ : Gam) (x : Str) (a b : Expr) : Den :=
  if x = "max" then cV2 maxV (r.E Γ a) (r.E Γ b)
  else if x = "min" then cV2 minV (r.E Γ a) (r.E Γ b)
  else if x = "isinstance" then (match b with
    | .Name y _ => if isFree U Γ y = true then (match tyN y with
      | some c => cIsi1 c (r.E Γ a)
      | none => dBad) else dBad
    | .Tuple es _ _ => (match tyNs U Γ es with
      | some l => if l.length ≤ 100 then cIsiT (l.map (·.2.1)) (r.E Γ a) else dBad
      | none => dBad)
    | _ => dBad)
  else dBad
def callF (U : Setup) (r : Ev) (Γ : Gam) (x : Str) (es : List Expr) : Den :=
  if es.all (fun e => !isStar e) = true then
    (if isGl Γ x = true then (match U.defs x with
      | some n => (match es with
        | [] => cCall U.call n x cNil
        | e :: es => if es.length + 1 = n then cCall U.call n x (r.A Γ (e :: es)) else cCallD U.call n (U.dvs x) x (r.A Γ (e :: es)))
      | none => if U.free x = true then (match es with
        | [a] => call1 U r Γ x a
        | [a, b] => call2 U r Γ x a b
        | _ => dBad) else dBad)
    else match slotOf U Γ x, es with
      | some i, e :: es => cCallV U.call U.defs U.dvs (cVar i) (r.A Γ (e :: es))
      | _, _ => dBad)
  else dBad
def plainO : Expr → Bool
  | .Name _ _ => true
  | .Subscript _ _ _ => true
  | _ => false
def mth (r : Ev) (Γ : Gam) (o : Expr) (name : Str) (apos cpos : Pos) (e : Expr) : Den :=
  if plainO o = true ∧ isStar e = false ∧ apos.endLine = cpos.line then
    (if name = "append" then cApp (r.E Γ o) (r.E Γ e) else if name = "index" then cIndex (r.E Γ o) (r.E Γ e) else if name = "pop" then cPop (r.E Γ o) (r.E Γ e) else dBad)
  else dBad

/-! ### expressions -/
def boE (r : Ev) (Γ : Gam) : BoolOp → List Expr → Den
  | _, [] => dBad
  | _, [a] => r.E Γ a
  | .And, a :: b :: es => cAnd (r.E Γ a) (boE r Γ .And (b :: es))
  | .Or, a :: b :: es => cOr (r.E Γ a) (boE r Γ .Or (b :: es))
def boT (r : Ev) (Γ : Gam) : BoolOp → List Expr → DenT
  | _, [] => dtBad
  | _, [a] => r.T Γ a
  | .And, a :: b :: es => tcAnd (r.T Γ a) (boT r Γ .And (b :: es))
  | .Or, a :: b :: es => tcOr (r.T Γ a) (boT r Γ .Or (b :: es))
def partE (r : Ev) (Γ : Gam) : Option Expr → DenO
  | none => cNoPart
  | some e => cPart (r.E Γ e)
def eE (U : Setup) (r : Ev) (Γ : Gam) : Expr → Den
  | .Constant (.int i) _ _ => cVal (.int i)
  | .Constant (.bool b) _ _ => cVal (.bl b)
  | .Constant (.str x) _ _ => cVal (.str x)
  | .Constant .none _ _ => cVal .non
  | .Name x _ => (match slotOf U Γ x with
    | some i => cVar i
    | none => if isGl Γ x = true then (match U.cst x with
      | some w => cVal w
      | none => dBad) else dBad)
  | .BinOp a op b _ => cBin U.big op (r.E Γ a) (r.E Γ b)
  | .UnaryOp .Not a _ => cNot (r.E Γ a)
  | .UnaryOp .USub a _ => cNeg (r.E Γ a)
  | .BoolOp op es _ => boE r Γ op es
  | .Compare a [op] [b] _ => if behindInMarks op b = false then cCmp op (r.E Γ a) (r.E Γ b) else dBad
  | .Compare a [op, op'] [b, c] _ => if lastMarks [op, op'] [b, c] = false then cChain op op' (r.E Γ a) (r.E Γ b) (r.E Γ c) else dBad
  | .IfExp c a b _ => cIf (r.T Γ c) (r.E Γ a) (r.E Γ b)
  | .Tuple es _ _ => cTup (r.A Γ es)
  | .Subscript a b _ => (match b with
    | .Slice lo hi none _ => cSl (r.E Γ a) (partE r Γ lo) (partE r Γ hi)
    | .Slice none none (some (.UnaryOp .USub (.Constant (.int 1) _ _) _)) _ => cRev (r.E Γ a)
    | .Slice _ _ _ _ => dBad
    | b => cIx (r.E Γ a) (r.E Γ b))
  | .ListComp elt gens scope pos => cFresh (r.L Γ (.ListComp elt gens scope pos))
  | .List es pos => cFresh (r.L Γ (.List es pos))
  | .Call (.Name x p) es [] pos => if isL U Γ (.Call (.Name x p) es [] pos) = true then cFresh (r.L Γ (.Call (.Name x p) es [] pos)) else callF U r Γ x es
  | .Call (.Attribute o name apos) [e] [] cpos => mth r Γ o name apos cpos e
  | _ => dBad
def tE (r : Ev) (Γ : Gam) : Expr → DenT
  | .UnaryOp .Not a _ => tcNot (r.T Γ a)
  | .BoolOp op es _ => boT r Γ op es
  | .Compare a [op] [b] _ => if behindInMarks op b = false then tcCmp op (r.E Γ a) (r.E Γ b) else dtBad
  | .Compare a [op, op'] [b, c] _ => if lastMarks [op, op'] [b, c] = false then tcChain op op' (r.E Γ a) (r.E Γ b) (r.E Γ c) else dtBad
  | .Compare _ _ _ _ => dtBad
  | .IfExp _ _ _ _ => dtBad
  | e => tcVal (r.E Γ e)
def aE (r : Ev) (Γ : Gam) : List Expr → DenA
  | [] => cNil
  | e :: es => if isStar e = true then daBad else cCons (r.E Γ e) (r.A Γ es)

/-! ### statements -/
def isComp : Expr → Bool
  | .ListComp _ _ _ _ => true
  | .SetComp _ _ _ _ => true
  | .DictComp _ _ _ _ _ => true
  | _ => false
def swNames (Γ : Gam) (line : Nat) (ts : List Expr) : List Str := ts.filterMap fun
  | .Name id pos => if kOf Γ id == some .local && pos.line == line then some id else none
  | _ => none
/-- the stores of a swap: not known, none, or the names -/
def swOf (Γ : Gam) : Expr → Expr → Option (Option (List Str))
  | .Tuple ts _ _, .Tuple vs _ _ =>
    if (!(ts.length == 2 || ts.length == 3) || vs.length != ts.length) = true then some none
    else if vs.any isStar = true then some none
    else
      let names := swNames Γ ((ts.head?.map (·.pos.line)).getD 0) ts
      if (names.length != ts.length || names.eraseDups.length != names.length) = true then some none
      else if vs.all (foldedForSure 8) = true then some none
      else if vs.all (constantsAlone 8) = true then none
      else some (some names)
  | .Tuple _ _ _, _ => some none
  | .Name _ _, _ => some none
  | .Subscript _ _ _, _ => some none
  | _, _ => none
/-- does name = [..] swap? -/
def swB (Γ : Gam) (tg : Expr) (scope : Scope) (vline : Nat) : Bool := match tg with
  | .Name t pos => (ScopeKind.function == .function && kOf Γ t == some .local && pos.line == vline) && !(scope.names.any fun (n, k) => n == t && (k == .local || k == .cell))
  | _ => false
def parS (U : Setup) (r : Ev) (Γ : Gam) (ns : List Str) : Expr → Expr → DenS
  | .Tuple [.Name x _, .Name y _] _ _, .Tuple [a, b] _ _ => (match place x U.N, place y U.N with
    | some i, some j => if ns = [x, y] ∧ i ≠ j ∧ isLoc Γ x = true ∧ isLoc Γ y = true then sPar2 i j (r.A Γ [a, b]) else sBad
    | _, _ => sBad)
  | .Tuple [.Name x _, .Name y _, .Name z _] _ _, .Tuple [a, b, c] _ _ => (match place x U.N, place y U.N, place z U.N with
    | some i, some j, some l => if ns = [x, y, z] ∧ (i ≠ j ∧ i ≠ l ∧ j ≠ l) ∧ isLoc Γ x = true ∧ isLoc Γ y = true ∧ isLoc Γ z = true then sPar3 i j l (r.A Γ [a, b, c]) else sBad
    | _, _, _ => sBad)
  | _, _ => sBad
noncomputable def asgS (U : Setup) (r : Ev) (Γ : Gam) (tg e : Expr) : DenS := match e with
  | .ListComp elt gens scope pos => if swB Γ tg scope pos.line = true then (match tg with
      | .Name y _ => (match place y U.N with
        | some i => sAsg (cFresh (compO U r Γ elt scope gens)) (gNm i)
        | none => sBad)
      | _ => sBad)
    else if swOf Γ tg e = some none then sAsg (r.E Γ e) (gOf U r Γ 5 tg) else sBad
  | .SetComp _ _ _ _ => sBad
  | .DictComp _ _ _ _ _ => sBad
  | _ => match swOf Γ tg e with
    | some none => sAsg (r.E Γ e) (gOf U r Γ 5 tg)
    | some (some ns) => parS U r Γ ns tg e
    | none => sBad
/-- a suite of an except clause: a return of written values -/
def cold : Nat → Expr → Option W
  | _, .Constant (.int i) _ _ => some (.int i)
  | _, .Constant (.bool i) _ _ => some (.bl i)
  | _, .Constant (.str i) _ _ => some (.str i)
  | _, .Constant .none _ _ => some .non
  | _, _ => none
def colds : List Expr → Option (List W)
  | [] => some []
  | e :: es => match isStar e, cold 0 e, colds es with
    | false, some w, some ws => some (w :: ws)
    | _, _, _ => none
def coldS : List Stmt → Option W
  | [.Return (some (.Tuple es _ _)) _] => (match colds es with
    | some ws => if ws.length ≤ 16777216 then some (.tup ws) else none
    | none => none)
  | [.Return (some e) _] => cold 0 e
  | _ => none
noncomputable def sE (U : Setup) (r : Ev) (Γ : Gam) : Stmt → DenS
  | .Return (some e) _ => sRet (r.E Γ e)
  | .Return none _ => sRetN
  | .Pass _ => sSkip
  | .Break _ => sBrk
  | .Continue _ => sCont
  | .Expr e _ => if isComp e = false then sExpr (r.E Γ e) else sBad
  | .If c a b _ => sIf (r.T Γ c) (r.S Γ a) (r.S Γ b)
  | .While c b [] _ => sWhile (r.T Γ c) (r.S Γ b)
  | .For tg it b [] _ => if isSet it = false then (match tgOf U Γ 5 tg with
    | some T => sFor (r.I Γ tg it) T (r.S Γ b)
    | none => sBad) else sBad
  | .Raise (some (.Call (.Name c _) [.Constant (.str _) _ _] [] _)) none _ => if isGl Γ c = true ∧ U.exc c = true then sRaise c else sBad
  | .Try body (.ExceptHandler (some (.Name x _)) none (b0 :: suite) _ :: _) [] [] _ => if isGl Γ x = true ∧ U.cls x = true then (match coldS (b0 :: suite) with
    | some w => sTry U.ct x (r.S Γ body) (sRet (cVal w))
    | none => sBad) else sBad
  | .Assign [tg] e _ => asgS U r Γ tg e
  | _ => sBad
noncomputable def ssE (U : Setup) (r : Ev) (Γ : Gam) : List Stmt → DenS
  | [] => sSkip
  | st :: sts => sSeq (sE U r Γ st) (r.S Γ sts)
noncomputable def step (U : Setup) (r : Ev) : Ev := ⟨eE U r, tE r, aE r, lE U r, iE U r, ssE U r⟩
noncomputable def ev (U : Setup) (n : Nat) : Ev := Nat.rec evBad (fun _ r => step U r) n
end Wv
end
section
set_option Elab.async false
set_option linter.all false
set_option maxRecDepth 100000
set_option maxHeartbeats 4000000
/-! Core N of ours: the evaluator is followed. -/
namespace Wv
open PySem PySem.Spec L2
open PyProof.Rows hiding St

structure Cok (B : Base) (U : Setup) (k : Nat) (Γ : Gam) (Wx : WX) (X : Cx) : Prop where
  K : X.K = B.K
  un : X.A.units + 65 < cLine
  N : X.N = U.N
  nd : U.N.Nodup
  sc : X.env.scope = Γ.sc
  mine : ∀ x, Γ.mine x = true → X.fn x = true
  calm : X.calm = true
  tk : Takes X Wx
  room : Room k X.A
  defs : ∀ f n, U.defs f = some n → FnAt B U.call X.prog X.w X.mg X.base k f n (U.dvs f)
  cst : ∀ x w, U.cst x = some w → ∃ u v, X.mg x = some u ∧ RelV v u ∧ ∀ m H, rep B m H w v
  free : ∀ x, U.free x = true → X.mg x = none
  exc : ∀ x, U.exc x = true → ExcAt B X.mg x
  cls : ∀ x, U.cls x = true → ∃ C : Addr, B.G x = some (.ref C) ∧ X.mg x = some (.ref C)
  ct : CatchOk B U.ct
  big : U.big = true → X.base.NoSeer ∧ X.prog.given.tree = none ∧ X.A.depth + Builtin.pylongFrames < recursionLimit ∧ ∃ env l, X.stack = env :: l ∧ env.scope.isGenerator = false ∧ env.scope.isCoroutine = false ∧ env.builtins = builtinsNs ∧ env.globals = mainGlobals
structure Fok (X : Cx) : Prop where
  pass : PassesOwn (model X.prog X.w) X.A X.env X.xe
  stk : X.stack = X.env :: X.outer
  fr : X.env.frame = some X.env.locals
  bk : X.env.blockKind = .function

section
variable {B : Base} {U : Setup} {k : Nat} {Γ : Gam} {Wx : WX} {X : Cx} {r : Ev}
theorem Cok.room' (c : Cok B U k Γ Wx X) : BigRoom U.big X := fun hb pins σ H s I => by
  obtain ⟨a, t, d, env, l, f, g1, g2, g3, g4⟩ := c.big hb
  exact PySem.PylongRoom.of I.nolimit d (PySem.SeerAt.of (PySem.Heap.NoSeer.keeps a I.bk) t (by rw [I.ok.frames, f]) g1 g2 g3 g4)
theorem Cok.blk (c : Cok B U k Γ Wx X) (s : Shared) (H : Hp) (scope : Scope) (cl : List (Str × Addr)) (C : Addr) (fp : List Addr) : Cok B U k (inner Γ scope) WF0 (X.blk s H scope (compEnvC scope cl C X.env) fp) where
  K := c.K
  un := c.un
  N := c.N
  nd := c.nd
  sc := by
    show relS scope X.env.scope = relS scope Γ.sc
    rw [c.sc]
  mine := fun x h => h
  calm := c.calm
  tk := takes0
  room := c.room
  defs := c.defs
  cst := c.cst
  free := c.free
  exc := c.exc
  cls := c.cls
  ct := c.ct
  big := c.big
theorem Cok.tr (c : Cok B U k Γ Wx X) {W : WX} {pn : List (Addr × Obj)} {xe : Value → Shared → Prop} (tk : Takes (X.tr pn xe) W) : Cok B U k Γ W (X.tr pn xe) :=
  ⟨c.K, c.un, c.N, c.nd, c.sc, c.mine, c.calm, tk, c.room, c.defs, c.cst, c.free, c.exc, c.cls, c.ct, c.big⟩
theorem Fok.tr (f : Fok X) {pn : List (Addr × Obj)} {xe : Value → Shared → Prop} (p : PassesOwn (model X.prog X.w) X.A X.env xe) : Fok (X.tr pn xe) := ⟨p, f.stk, f.fr, f.bk⟩

theorem place_ok : ∀ {N : List Str} {x : Str} {i : Nat}, place x N = some i → N[i]? = some x
  | [], x, i, h => by unfold place at h; cases h
  | y :: l, x, i, h => by
    unfold place at h
    split at h
    · rename_i e
      cases h
      rw [e]
      rfl
    · cases q : place x l with
      | none => rw [q] at h; cases h
      | some j =>
        rw [q] at h
        cases h
        show (y :: l)[j + 1]? = some x
        rw [List.getElem?_cons_succ]
        exact place_ok q
theorem isGl_ok {x : Str} (c : Cok B U k Γ Wx X) (h : isGl Γ x = true) : Gl X x ∧ (x == ("__debug__" : Str)) = false := by
  unfold isGl at h
  obtain ⟨h1, h2⟩ := Bool.and_eq_true_iff.mp h
  refine ⟨?_, by simpa using h2⟩
  have h1 := of_decide_eq_true h1
  unfold Gl Env.kindOf
  rw [c.sc]
  exact h1
theorem isVis_ok {x : Str} (c : Cok B U k Γ Wx X) (h : isVis Γ x = true) : Vis X.env.scope x ∧ (x == ("__debug__" : Str)) = false ∧ (x == ("__classdict__" : Str)) = false := by
  unfold isVis at h
  obtain ⟨h1, h2⟩ := Bool.and_eq_true_iff.mp h
  obtain ⟨h2, h3⟩ := Bool.and_eq_true_iff.mp h2
  refine ⟨?_, by simpa using h2, by simpa using h3⟩
  rw [c.sc]
  unfold Vis
  unfold kOf at h1
  split at h1 <;> first | (rename_i e; simp only [e, true_or, or_true]) | cases h1
theorem isTg_ok {x : Str} (c : Cok B U k Γ Wx X) (h : isTg Γ x = true) : Loc X.env.scope x ∧ (X.fn x = true ∨ X.env.scope.names.lookup x = some .local) := by
  unfold isTg at h
  rw [c.sc]
  unfold kOf at h
  unfold L2.Loc
  split at h
  · rename_i e
    exact ⟨.inl e, .inr e⟩
  · rename_i e
    exact ⟨.inr e, .inl (c.mine x h)⟩
  · cases h
theorem isLoc_ok {x : Str} (c : Cok B U k Γ Wx X) (h : isLoc Γ x = true) : X.env.scope.names.lookup x = some .local := by
  rw [c.sc]
  exact of_decide_eq_true h
theorem slotOf_ok {x : Str} {i : Nat} (c : Cok B U k Γ Wx X) (h : slotOf U Γ x = some i) : X.N[i]? = some x ∧ Vis X.env.scope x ∧ (x == ("__debug__" : Str)) = false ∧ (x == ("__classdict__" : Str)) = false := by
  unfold slotOf at h
  split at h
  · rename_i e
    exact ⟨by rw [c.N]; exact place_ok h, isVis_ok c e⟩
  · cases h
theorem isFree_ok {x : Str} (c : Cok B U k Γ Wx X) (h : isFree U Γ x = true) : Gl X x ∧ (x == ("__debug__" : Str)) = false ∧ X.mg x = none := by
  unfold isFree at h
  obtain ⟨h1, h2⟩ := Bool.and_eq_true_iff.mp h
  exact ⟨(isGl_ok c h1).1, (isGl_ok c h1).2, c.free x h2⟩

/-! ### targets -/
theorem tgts_ok {f : Expr → Option Tgt} (hf : ∀ e T, f e = some T → DG B X e T) : ∀ {es : List Expr} {ts : List Tgt}, tgts f es = some ts → DGs B X es ts ∧ es.all (fun e => !isStar e) = true ∧ ts.length = es.length
  | [], ts, h => by
    unfold tgts at h
    cases h
    exact ⟨dgs_nil, rfl, rfl⟩
  | e :: es, ts, h => by
    unfold tgts at h
    split at h
    · rename_i t ts' e1 e2 e3
      cases h
      obtain ⟨a, b, d⟩ := tgts_ok hf e3
      exact ⟨dgs_cons e1 (hf e t e2) a, by rw [List.all_cons, e1, b]; rfl, by rw [List.length_cons, List.length_cons, d]⟩
    · cases h
theorem tg_ok (c : Cok B U k Γ Wx X) : ∀ (n : Nat) (e : Expr) (T : Tgt), tgOf U Γ n e = some T → DG B X e T
  | 0, e, T, h => by unfold tgOf at h; cases h
  | n + 1, e, T, h => by
    unfold tgOf at h
    split at h
    · rename_i x p hh
      split at h
      · rename_i ht
        cases q : place x U.N with
        | none => rw [q] at h; cases h
        | some i =>
          rw [q] at h
          cases h
          obtain ⟨a, b⟩ := isTg_ok c ht
          exact dg_name (by rw [c.N]; exact c.nd) (by rw [c.N]; exact place_ok q) a b
      · cases h
    · rename_i es kk p hh
      cases q : tgts (tgOf U Γ n) es with
      | none =>
        have h' : (tgts (tgOf U Γ n) es).map Tgt.tp = some T := by
          first | exact h | (cases hh; exact h)
        rw [q] at h'
        cases h'
      | some ts =>
        have h' : (tgts (tgOf U Γ n) es).map Tgt.tp = some T := by
          first | exact h | (cases hh; exact h)
        rw [q] at h'
        cases h'
        obtain ⟨a, b, d⟩ := tgts_ok (tg_ok c n) q
        exact dg_tup c.K c.calm b d a
    · cases h
theorem gsOf_ok {f : Expr → DenG} (hf : ∀ e, GG B Wx X e (f e)) : ∀ es : List Expr, GGs B Wx X es (gsOf f es)
  | [] => ggs_nil
  | e :: es => by
    unfold gsOf
    split
    · exact ⟨fun _ _ _ _ _ _ _ _ _ ⟨_, _, _, _, _, _, _, p⟩ => p.elim⟩
    · rename_i h
      exact ggs_cons (by simpa using h) (hf e) (gsOf_ok hf es)
theorem tame_bad : Tame gBad := fun w ρ h => .inr (.inr rfl)
theorem tame_nm (i : Nat) : Tame (gNm i) := fun w ρ h => .inl ⟨_, _, rfl⟩
theorem tame_sx (fo fi : Den) : Tame (gSx fo fi) := fun w ρ h => by
  unfold gSx
  cases fo ρ h with
  | bad => exact .inr (.inr rfl)
  | exc e h1 => exact .inr (.inl ⟨_, _, _, rfl⟩)
  | ok o h1 =>
    rw [Out.th_ok]
    cases fi ρ h1 with
    | bad => exact .inr (.inr rfl)
    | exc e h2 => exact .inr (.inl ⟨_, _, _, rfl⟩)
    | ok i h2 =>
      rw [Out.th_ok]
      split
      · split
        · split
          · exact .inl ⟨_, _, rfl⟩
          · exact .inr (.inr rfl)
        · exact .inr (.inr rfl)
      · exact .inr (.inr rfl)
def TameS (g : DenGs) : Prop := ∀ ws ρ h, (∃ ρ' h', g ws ρ h = .next ρ' h') ∨ (∃ e ρ' h', g ws ρ h = .exc e ρ' h') ∨ g ws ρ h = .bad
theorem tames_of {f : Expr → DenG} (hf : ∀ e, Tame (f e)) : ∀ es : List Expr, TameS (gsOf f es)
  | [] => fun ws ρ h => by
    unfold gsOf gsNil
    cases ws with
    | nil => exact .inl ⟨_, _, rfl⟩
    | cons _ _ => exact .inr (.inr rfl)
  | e :: es => fun ws ρ h => by
    unfold gsOf
    split
    · exact .inr (.inr rfl)
    · unfold gsCons
      cases ws with
      | nil => exact .inr (.inr rfl)
      | cons w ws =>
        dsimp only
        rcases hf e w ρ h with ⟨ρ', h', q⟩ | ⟨x, ρ', h', q⟩ | q
        · rw [q, SO.seq_next]
          exact tames_of hf es ws ρ' h'
        · rw [q, SO.seq_exc]
          exact .inr (.inl ⟨_, _, _, rfl⟩)
        · rw [q, SO.seq_bad]
          exact .inr (.inr rfl)
theorem tame_tp {n : Nat} {gs : DenGs} (h : TameS gs) : Tame (gTp n gs) := fun w ρ h0 => by
  unfold gTp
  split
  · split
    · exact h _ _ _
    · exact .inr (.inr rfl)
  · exact .inr (.inr rfl)
theorem g_tame : ∀ (n : Nat) (e : Expr), Tame (gOf U r Γ n e)
  | 0, e => by unfold gOf; exact tame_bad
  | n + 1, e => by
    unfold gOf
    split
    · split
      · split
        · exact tame_nm _
        · exact tame_bad
      · exact tame_bad
    · split
      · exact tame_sx _ _
      · exact tame_bad
    · rename_i hh
      first
        | (split
           · exact tame_tp (tames_of (g_tame n) _)
           · exact tame_bad)
        | (cases hh
           split
           · exact tame_tp (tames_of (g_tame n) _)
           · exact tame_bad)
    · exact tame_bad

/-! ### a level follows -/
structure Snd (B : Base) (U : Setup) (k : Nat) (r : Ev) : Prop where
  E : ∀ {Γ : Gam} {Wx : WX} {X : Cx}, Cok B U k Γ Wx X → ∀ e, DE B Wx X e (r.E Γ e)
  T : ∀ {Γ : Gam} {Wx : WX} {X : Cx}, Cok B U k Γ Wx X → ∀ e, DT B Wx X e (r.T Γ e)
  A : ∀ {Γ : Gam} {Wx : WX} {X : Cx}, Cok B U k Γ Wx X → ∀ es, DA B Wx X es (r.A Γ es)
  L : ∀ {Γ : Gam} {Wx : WX} {X : Cx}, Cok B U k Γ Wx X → ∀ e, DL B Wx X e (r.L Γ e)
  I : ∀ {Γ : Gam} {Wx : WX} {X : Cx}, Cok B U k Γ Wx X → ∀ tg e, DI B Wx X tg e (r.I Γ tg e)
  S : ∀ {Γ : Gam} {Wx : WX} {X : Cx}, Cok B U k Γ Wx X → Fok X → ∀ sts, DSs B Wx X sts (r.S Γ sts)
theorem dl_bad {e : Expr} : DL B Wx X e daBad := ⟨fun _ _ _ _ _ _ ⟨_, _, _, _, _, p⟩ => p.elim⟩
theorem di_bad {tg e : Expr} : DI B Wx X tg e (fun _ _ => .bad) := ⟨fun _ _ _ _ _ _ ⟨_, _, _, _, _, p⟩ => p.elim⟩
theorem ds_dead {st : Stmt} {f : DenS} (h : ∀ ρ s, f ρ s = .bad) : DS B Wx X st f := ⟨fun _ _ _ _ _ _ ⟨_, _, _, _, _, p⟩ => by
  rw [h] at p
  exact p.elim⟩
theorem snd_bad : Snd B U k evBad := ⟨fun _ _ => de_bad, fun _ _ => dt_bad, fun _ _ => da_bad, fun _ _ => dl_bad, fun _ _ _ => di_bad, fun _ _ _ => dss_bad⟩

theorem gg_subE (R : Snd B U k r) (c : Cok B U k Γ Wx X) {o i : Expr} {pos : Pos} (hs : isSlice i = false) : GG B Wx X (.Subscript o i pos) (gSx (r.E Γ o) (r.E Γ i)) := by
  refine gg_sub (R.E c _) (R.E c _) (fun v => ?_)
  cases i <;> first | rfl | cases hs
theorem gg_ok (R : Snd B U k r) (c : Cok B U k Γ Wx X) : ∀ (n : Nat) (e : Expr), GG B Wx X e (gOf U r Γ n e)
  | 0, e => by unfold gOf; exact gg_bad
  | n + 1, e => by
    unfold gOf
    split
    · rename_i x p hh
      split
      · rename_i ht
        split
        · rename_i i q
          obtain ⟨a, b⟩ := isTg_ok c ht
          exact gg_name (by rw [c.N]; exact c.nd) (by rw [c.N]; exact place_ok q) a b
        · exact gg_bad
      · exact gg_bad
    · split
      · rename_i hs
        exact gg_subE R c hs
      · exact gg_bad
    · rename_i hh
      first
        | (split
           · rename_i h
             exact gg_tup c.K c.calm h rfl (gsOf_ok (gg_ok R c n) _)
           · exact gg_bad)
        | (cases hh
           split
           · rename_i h
             exact gg_tup c.K c.calm h rfl (gsOf_ok (gg_ok R c n) _)
           · exact gg_bad)
    · exact gg_bad

/-! ### sequences, comprehensions -/
theorem q_ok (R : Snd B U k r) (c : Cok B U k Γ Wx X) (e : Expr) : DQ B Wx X e (qE U r Γ e) := by
  unfold qE
  split
  · exact dq_fresh (R.L c e)
  · exact dq_val (R.E c e)
theorem ifs_ok (R : Snd B U k r) (c : Cok B U k Γ Wx X) (ifs : List Expr) : DTs B Wx X ifs (ifsOf r Γ ifs) := by
  unfold ifsOf
  split
  · exact dts_nil
  · exact dts_one (R.T c _)
  · exact ⟨fun _ _ _ _ _ _ ⟨_, _, _, _, _, p⟩ => p.elim⟩
theorem noset {e : Expr} (h : isSet e = false) (env : Env) (x : Value) : foldedSetIterable e env x = pure x := by
  cases e <;> first | rfl | cases h
theorem mem_of_all {T : Tgt} {own : List (Str × Nat)} (h : T.slots.all (fun i => (own.map (·.2)).contains i) = true) : ∀ i ∈ T.slots, i ∈ own.map (·.2) := fun i hi => by
  have := List.all_eq_true.mp h i hi
  exact List.contains_iff_mem.mp this
structure C1 (U : Setup) (r : Ev) (Γ : Gam) (elt : Expr) (scope : Scope) (g : Comprehension) (T : Tgt) : Prop where
  blk : blkC U.N Γ.sc scope (ownOf U scope) = true
  ns : isSet g.iter = false
  tg : tgOf U (inner Γ scope) 5 g.target = some T
  sl : ∀ i ∈ T.slots, i ∈ (ownOf U scope).map (·.2)
  eq : comp1 U r Γ elt scope g = cComp (r.I Γ g.target g.iter) ((ownOf U scope).map (·.2)) T (ifsOf r (inner Γ scope) g.ifs) (r.E (inner Γ scope) elt)
theorem comp1_or {elt : Expr} {scope : Scope} {g : Comprehension} : comp1 U r Γ elt scope g = daBad ∨ ∃ T, C1 U r Γ elt scope g T := by
  by_cases h : blkC U.N Γ.sc scope (ownOf U scope) = true ∧ isSet g.iter = false
  · cases q : tgOf U (inner Γ scope) 5 g.target with
    | none => exact .inl (by unfold comp1; simp only [h, q, and_self, if_true])
    | some T =>
      by_cases z : T.slots.all (fun i => ((ownOf U scope).map (·.2)).contains i) = true
      · exact .inr ⟨T, h.1, h.2, q, mem_of_all z, by unfold comp1; simp only [h, q, and_self, if_true]; rw [if_pos z]⟩
      · exact .inl (by unfold comp1; simp only [h, q, and_self, if_true]; rw [if_neg z])
  · exact .inl (by unfold comp1; simp only []; rw [if_neg h])
structure C2 (U : Setup) (r : Ev) (Γ : Gam) (elt : Expr) (scope : Scope) (g g1 : Comprehension) (T T1 : Tgt) : Prop where
  blk : blkC U.N Γ.sc scope (ownOf U scope) = true
  ns : isSet g.iter = false
  ns1 : isSet g1.iter = false
  tg : tgOf U (inner Γ scope) 5 g.target = some T
  tg1 : tgOf U (inner Γ scope) 5 g1.target = some T1
  sl : ∀ i ∈ T.slots, i ∈ (ownOf U scope).map (·.2)
  sl1 : ∀ i ∈ T1.slots, i ∈ (ownOf U scope).map (·.2)
  eq : comp2 U r Γ elt scope g g1 = cComp2 (r.I Γ g.target g.iter) ((ownOf U scope).map (·.2)) T (ifsOf r (inner Γ scope) g.ifs) (r.I (inner Γ scope) g1.target g1.iter) T1.slots T1 (ifsOf r (inner Γ scope) g1.ifs) (r.E (inner Γ scope) elt)
theorem comp2_or {elt : Expr} {scope : Scope} {g g1 : Comprehension} : comp2 U r Γ elt scope g g1 = daBad ∨ ∃ T T1, C2 U r Γ elt scope g g1 T T1 := by
  by_cases h : blkC U.N Γ.sc scope (ownOf U scope) = true ∧ isSet g.iter = false ∧ isSet g1.iter = false
  · cases q : tgOf U (inner Γ scope) 5 g.target with
    | none => exact .inl (by unfold comp2; simp only [h, q, and_self, if_true])
    | some T =>
      cases q1 : tgOf U (inner Γ scope) 5 g1.target with
      | none => exact .inl (by unfold comp2; simp only [h, q, q1, and_self, if_true])
      | some T1 =>
        by_cases z : T.slots.all (fun i => ((ownOf U scope).map (·.2)).contains i) = true ∧ T1.slots.all (fun i => ((ownOf U scope).map (·.2)).contains i) = true
        · exact .inr ⟨T, T1, h.1, h.2.1, h.2.2, q, q1, mem_of_all z.1, mem_of_all z.2, by unfold comp2; simp only [h, q, q1, and_self, if_true]; rw [if_pos z]⟩
        · exact .inl (by unfold comp2; simp only [h, q, q1, and_self, if_true]; rw [if_neg z])
  · exact .inl (by unfold comp2; simp only []; rw [if_neg h])
theorem comp_ok (R : Snd B U k r) (c : Cok B U k Γ Wx X) (elt : Expr) (gens : List Comprehension) (scope : Scope) (pos : Pos) : DL B Wx X (.ListComp elt gens scope pos) (compO U r Γ elt scope gens) := by
  unfold compO
  split
  · rename_i g
    split
    · rename_i ha
      obtain ⟨tg, iter, ifs, as⟩ := g
      have ha' : as = 0 := ha
      clear ha
      subst ha'
      rcases comp1_or (U := U) (r := r) (Γ := Γ) (elt := elt) (scope := scope) (g := ⟨tg, iter, ifs, 0⟩) with h | ⟨T, h⟩
      · rw [h]
        exact dl_bad
      · rw [h.eq]
        exact dl_comp c.calm (by rw [c.N]; exact c.nd) (R.I c _ _) (blkOk_by (by rw [c.N, c.sc]; exact h.blk)) h.sl (fun s H C cl fp => tg_ok (c.blk s H scope cl C fp) 5 _ _ h.tg) (fun s H C cl fp => ifs_ok R (c.blk s H scope cl C fp) _) (fun s H C cl fp => R.E (c.blk s H scope cl C fp) _) (noset h.ns _)
    · exact dl_bad
  · rename_i g g1
    split
    · rename_i ha
      obtain ⟨tg, iter, ifs, as⟩ := g
      obtain ⟨tg1, iter1, ifs1, as1⟩ := g1
      have ha' : as = 0 := ha.1
      have hb' : as1 = 0 := ha.2
      clear ha
      subst ha' hb'
      rcases comp2_or (U := U) (r := r) (Γ := Γ) (elt := elt) (scope := scope) (g := ⟨tg, iter, ifs, 0⟩) (g1 := ⟨tg1, iter1, ifs1, 0⟩) with h | ⟨T, T1, h⟩
      · rw [h]
        exact dl_bad
      · rw [h.eq]
        exact dl_comp2 c.calm (by rw [c.N]; exact c.nd) (R.I c _ _) (blkOk_by (by rw [c.N, c.sc]; exact h.blk)) h.sl (fun i hi => hi) h.sl1 (fun s H C cl fp => tg_ok (c.blk s H scope cl C fp) 5 _ _ h.tg) (fun s H C cl fp => ifs_ok R (c.blk s H scope cl C fp) _)
          (fun s H C cl fp => R.I (c.blk s H scope cl C fp) _ _) (fun s H C cl fp => tg_ok (c.blk s H scope cl C fp) 5 _ _ h.tg1) (fun s H C cl fp => ifs_ok R (c.blk s H scope cl C fp) _) (fun s H C cl fp => R.E (c.blk s H scope cl C fp) _) (noset h.ns _) (fun env => noset h.ns1 env)
    · exact dl_bad
  · exact dl_bad
theorem isRg_ok {x : Str} (c : Cok B U k Γ Wx X) (h : isRg U Γ x = true) : x = "range" ∧ Gl X "range" ∧ X.mg "range" = none := by
  unfold isRg at h
  obtain ⟨h1, h2⟩ := Bool.and_eq_true_iff.mp h
  have hx : x = "range" := eq_of_beq h1
  subst hx
  obtain ⟨a, b, d⟩ := isFree_ok c h2
  exact ⟨rfl, a, d⟩
theorem list_ok (R : Snd B U k r) (c : Cok B U k Γ Wx X) (hg : Gl X "list") (hm : X.mg "list" = none) (e : Expr) (hs : isStar e = false) {p pos : Pos} : DL B Wx X (.Call (.Name "list" p) [e] [] pos) (listE U r Γ e) := by
  unfold listE
  split
  · split
    · rename_i h
      obtain ⟨h1, h2⟩ := Bool.and_eq_true_iff.mp h
      obtain ⟨hx, a, b⟩ := isRg_ok c h1
      subst hx
      exact dl_listRg1 c.calm hg hm a b (by simpa using h2) (R.E c _)
    · exact dl_listQ c.K hg hm hs (q_ok R c _)
  · split
    · rename_i h
      obtain ⟨h1, h3⟩ := Bool.and_eq_true_iff.mp h
      obtain ⟨h1, h2⟩ := Bool.and_eq_true_iff.mp h1
      obtain ⟨hx, a, b⟩ := isRg_ok c h1
      subst hx
      exact dl_listRg2 c.calm hg hm a b (by simpa using h2) (by simpa using h3) (R.E c _) (R.E c _)
    · exact dl_listQ c.K hg hm hs (q_ok R c _)
  · exact dl_listQ c.K hg hm hs (q_ok R c _)
theorem l_ok (R : Snd B U k r) (c : Cok B U k Γ Wx X) (e : Expr) : DL B Wx X e (lE U r Γ e) := by
  unfold lE
  split
  · exact comp_ok R c _ _ _ _
  · exact dl_list (R.A c _)
  · split
    · rename_i x p e pos h
      obtain ⟨h1, h3⟩ := Bool.and_eq_true_iff.mp h
      obtain ⟨h1, h2⟩ := Bool.and_eq_true_iff.mp h1
      have hx : x = "list" := eq_of_beq h1
      subst hx
      obtain ⟨a, b, d⟩ := isFree_ok c h2
      exact list_ok R c a d e (by simpa using h3)
    · split
      · rename_i x p e pos _ h
        obtain ⟨h1, h3⟩ := Bool.and_eq_true_iff.mp h
        obtain ⟨h1, h2⟩ := Bool.and_eq_true_iff.mp h1
        have hx : x = "sorted" := eq_of_beq h1
        subst hx
        obtain ⟨a, b, d⟩ := isFree_ok c h2
        exact dl_sorted c.K a d (by simpa using h3) (q_ok R c _)
      · exact dl_bad
  · exact dl_bad

/-! ### what is walked -/
theorem ip_ok (R : Snd B U k r) (c : Cok B U k Γ Wx X) (tg e : Expr) : DI B Wx X tg e (iPl U r Γ e) := by
  unfold iPl
  split
  · exact di_fresh c.K (R.L c e)
  · exact di_val c.K (R.E c e)
theorem tup_of {tg : Expr} (h : isTupE tg = true) : ∃ es kk p, tg = .Tuple es kk p := by
  cases tg <;> first | exact ⟨_, _, _, rfl⟩ | cases h
theorem i_ok (R : Snd B U k r) (c : Cok B U k Γ Wx X) (tg e : Expr) : DI B Wx X tg e (iE U r Γ tg e) := by
  unfold iE
  split
  · split
    · rename_i h
      obtain ⟨h1, h2⟩ := h
      obtain ⟨a, b, d⟩ := isFree_ok c h1
      split
      · rename_i hx
        subst hx
        exact di_range1 a d h2 (R.A c _)
      · split
        · rename_i hx
          obtain ⟨hx, ht⟩ := hx
          subst hx
          obtain ⟨es, kk, p, rfl⟩ := tup_of ht
          exact di_enum c.K a d h2 (R.A c _)
        · exact ip_ok R c _ _
    · exact ip_ok R c _ _
  · split
    · rename_i h
      obtain ⟨h1, h2, h3⟩ := h
      obtain ⟨a, b, d⟩ := isFree_ok c h1
      split
      · rename_i hx
        subst hx
        exact di_range2 a d h2 h3 (R.A c _)
      · split
        · rename_i hx
          obtain ⟨hx, ht⟩ := hx
          subst hx
          obtain ⟨es, kk, p, rfl⟩ := tup_of ht
          exact di_zip c.K a d h2 h3 (R.A c _)
        · exact ip_ok R c _ _
    · exact ip_ok R c _ _
  · split
    · rename_i h
      obtain ⟨h1, h2, h3, h4, hx⟩ := h
      obtain ⟨a, b, d⟩ := isFree_ok c h1
      subst hx
      exact di_range3 a d h2 h3 h4 (R.A c _)
    · exact ip_ok R c _ _
  · exact ip_ok R c _ _
end
end Wv
end
section
set_option Elab.async false
set_option linter.all false
set_option maxRecDepth 100000
set_option maxHeartbeats 4000000
/-! Core O of ours: the evaluator is followed: calls, expressions, statements, all levels. -/
namespace Wv
open PySem PySem.Spec L2
open PyProof.Rows hiding St

section
variable {B : Base} {U : Setup} {k : Nat} {Γ : Gam} {Wx : WX} {X : Cx} {r : Ev}
theorem tyN_ok {x : Str} {t : String} (c : Cok B U k Γ Wx X) (h : isFree U Γ x = true) (e : tyN x = some t) : TyName X x t := by
  obtain ⟨a, b, d⟩ := isFree_ok c h
  unfold tyN at e
  split at e
  · rename_i hx
    cases e
    subst hx
    exact ⟨a, d, boot_int, by decide, b⟩
  · split at e
    · rename_i hx
      cases e
      subst hx
      exact ⟨a, d, boot_bool, by decide, b⟩
    · split at e
      · rename_i hx
        cases e
        subst hx
        exact ⟨a, d, boot_str, by decide, b⟩
      · split at e
        · rename_i hx
          cases e
          subst hx
          exact ⟨a, d, boot_tuple, by decide, b⟩
        · split at e
          · rename_i hx
            cases e
            subst hx
            exact ⟨a, d, boot_list, by decide, b⟩
          · split at e
            · rename_i hx
              cases e
              subst hx
              exact ⟨a, d, PyProof.Rows.boot_dict, by decide, b⟩
            · cases e
theorem tyNs_ok (c : Cok B U k Γ Wx X) : ∀ {es : List Expr} {l : List (Str × String × Pos)}, tyNs U Γ es = some l → es = l.map (fun q => Expr.Name q.1 q.2.2) ∧ ∀ q ∈ l, TyName X q.1 q.2.1
  | [], l, h => by
    unfold tyNs at h
    cases h
    exact ⟨rfl, fun q hq => nomatch hq⟩
  | .Name x p :: es, l, h => by
    unfold tyNs at h
    split at h
    · rename_i t l' e1 e2 e3
      cases h
      obtain ⟨a, b⟩ := tyNs_ok c e3
      refine ⟨by rw [List.map_cons, ← a], fun q hq => ?_⟩
      rcases List.mem_cons.mp hq with e | hq
      · rw [e]
        exact tyN_ok c e1 e2
      · exact b q hq
    · cases h
  | .BoolOp _ _ _ :: es, l, h | .NamedExpr _ _ _ :: es, l, h | .BinOp _ _ _ _ :: es, l, h | .UnaryOp _ _ _ :: es, l, h | .Lambda _ _ _ _ :: es, l, h | .IfExp _ _ _ _ :: es, l, h | .Dict _ _ _ :: es, l, h | .Set _ _ _ :: es, l, h
  | .ListComp _ _ _ _ :: es, l, h | .SetComp _ _ _ _ :: es, l, h | .DictComp _ _ _ _ _ :: es, l, h | .GeneratorExp _ _ _ _ :: es, l, h | .Await _ _ :: es, l, h | .Yield _ _ :: es, l, h | .YieldFrom _ _ :: es, l, h | .Compare _ _ _ _ :: es, l, h
  | .Call _ _ _ _ :: es, l, h | .FormattedValue _ _ _ _ :: es, l, h | .JoinedStr _ _ :: es, l, h | .Constant _ _ _ :: es, l, h | .Attribute _ _ _ :: es, l, h | .Subscript _ _ _ :: es, l, h | .Starred _ _ :: es, l, h | .List _ _ :: es, l, h
  | .Tuple _ _ _ :: es, l, h | .Slice _ _ _ _ :: es, l, h => by unfold tyNs at h; cases h
theorem tupE_ok (R : Snd B U k r) (c : Cok B U k Γ Wx X) {e : Expr} {p pos : Pos} (hg : Gl X "tuple") (hm : X.mg "tuple" = none) (hs : isStar e = false) (hd : (("tuple" : Str) == ("__debug__" : Str)) = false) : DE B Wx X (.Call (.Name "tuple" p) [e] [] pos) (tupE U r Γ e) := by
  unfold tupE
  split
  · split
    · rename_i h
      obtain ⟨h1, h2⟩ := Bool.and_eq_true_iff.mp h
      obtain ⟨hx, a, b⟩ := isRg_ok c h1
      subst hx
      exact de_tupRg1 c.K c.calm hg hm a b (by simpa using h2) (R.E c _)
    · exact de_q1T (vc_tup c.K) hg hm boot_tuple (by decide) hd hs (q_ok R c _)
  · exact de_q1T (vc_tup c.K) hg hm boot_tuple (by decide) hd hs (q_ok R c _)
theorem c1_ok (R : Snd B U k r) (c : Cok B U k Γ Wx X) {x : Str} {e : Expr} {p pos : Pos} (hg : Gl X x) (hd : (x == ("__debug__" : Str)) = false) (hm : X.mg x = none) (hs : isStar e = false) : DE B Wx X (.Call (.Name x p) [e] [] pos) (call1 U r Γ x e) := by
  unfold call1
  split
  · rename_i hx
    subst hx
    split
    · exact de_q1B (vc_len c.K) hg hm boot_len (by decide) hd hs (dq_fresh (R.L c e))
    · exact de_v1B (vv_len c.K) hg hm boot_len (by decide) hd hs (R.E c e)
  · split
    · rename_i hx
      subst hx
      exact tupE_ok R c hg hm hs hd
    · split
      · rename_i hx
        subst hx
        exact de_q1B (vc_all c.K c.calm) hg hm boot_all (by decide) hd hs (q_ok R c e)
      · split
        · rename_i hx
          subst hx
          exact de_q1B (vc_any c.K c.calm) hg hm boot_any (by decide) hd hs (q_ok R c e)
        · split
          · rename_i hx
            subst hx
            exact de_q1B (vc_sum c.K c.calm) hg hm boot_sum (by decide) hd hs (q_ok R c e)
          · split
            · rename_i hx
              subst hx
              exact de_v1T vv_int hg hm boot_int (by decide) hd hs (R.E c e)
            · split
              · rename_i hx
                subst hx
                exact de_v1B vv_abs hg hm boot_abs (by decide) hd hs (R.E c e)
              · split
                · rename_i hx
                  subst hx
                  exact de_v1T vv_str hg hm boot_str (by decide) hd hs (R.E c e)
                · exact de_bad
theorem c2_ok (R : Snd B U k r) (c : Cok B U k Γ Wx X) {x : Str} {a b : Expr} {p pos : Pos} (hg : Gl X x) (hd : (x == ("__debug__" : Str)) = false) (hm : X.mg x = none) (hs : isStar a = false) (hs2 : isStar b = false) : DE B Wx X (.Call (.Name x p) [a, b] [] pos) (call2 U r Γ x a b) := by
  unfold call2
  split
  · rename_i hx
    subst hx
    exact de_v2B (vv_max c.calm) hg hm boot_max (by decide) hd hs hs2 (R.E c a) (R.E c b)
  · split
    · rename_i hx
      subst hx
      exact de_v2B (vv_min c.calm) hg hm boot_min (by decide) hd hs hs2 (R.E c a) (R.E c b)
    · split
      · rename_i hx
        subst hx
        split
        · split
          · rename_i hf
            split
            · rename_i t ht
              exact de_isi1 c.K hg hm (tyN_ok c hf ht) hs (R.E c a)
            · exact de_bad
          · exact de_bad
        · split
          · rename_i l hl
            split
            · rename_i hz
              obtain ⟨e1, e2⟩ := tyNs_ok c hl
              rw [e1]
              exact de_isiT c.K hg hm e2 hz hs (R.E c a)
            · exact de_bad
          · exact de_bad
        · exact de_bad
      · exact de_bad
theorem cf_ok (R : Snd B U k r) (c : Cok B U k Γ Wx X) {x : Str} {es : List Expr} {p pos : Pos} : DE B Wx X (.Call (.Name x p) es [] pos) (callF U r Γ x es) := by
  unfold callF
  split
  · rename_i hs
    split
    · rename_i hgl
      obtain ⟨a, b⟩ := isGl_ok c hgl
      split
      · rename_i n hn
        cases es with
        | nil => exact de_call0 c.K c.tk c.room (c.defs _ _ hn) a b
        | cons e es =>
          dsimp only
          split
          · exact de_call c.K c.tk c.room (c.defs _ _ hn) a b hs (R.A c _)
          · exact de_callD c.K c.tk c.room (c.defs _ _ hn) a b hs (R.A c _)
      · split
        · rename_i hf
          split
          · rename_i e
            exact c1_ok R c a b (c.free _ hf) (by simpa using hs)
          · rename_i e1 e2
            have hs' : isStar e1 = false ∧ isStar e2 = false := by simpa using hs
            exact c2_ok R c a b (c.free _ hf) hs'.1 hs'.2
          · exact de_bad
        · exact de_bad
    · split
      · rename_i i e es hi
        obtain ⟨a, b, d, f⟩ := slotOf_ok c hi
        exact de_callV c.K c.tk c.room c.defs hs (de_var a b d f) (R.A c _) rfl
      · exact de_bad
  · exact de_bad
theorem mth_ok (R : Snd B U k r) (c : Cok B U k Γ Wx X) {o e : Expr} {name : Str} {apos cpos : Pos} : DE B Wx X (.Call (.Attribute o name apos) [e] [] cpos) (mth r Γ o name apos cpos e) := by
  unfold mth
  split
  · rename_i h
    obtain ⟨h1, h2, h3⟩ := h
    have M1 : attributeBase o name X.env (eval o X.env) = eval o X.env := by
      cases o <;> first | rfl | cases h1
    have M : MthOk X o e name apos cpos := ⟨M1, by rw [starEach_plain1 h2]; rfl, by rw [h3]; exact beq_self_eq_true _, h2⟩
    split
    · rename_i hx
      subst hx
      exact de_app c.K M (R.E c _) (R.E c _)
    · split
      · rename_i hx
        subst hx
        exact de_index c.K c.un M (R.E c _) (R.E c _)
      · split
        · rename_i hx
          subst hx
          exact de_pop c.K M (R.E c _) (R.E c _)
        · exact de_bad
  · exact de_bad

/-! ### expressions -/
theorem bo_ok (R : Snd B U k r) (c : Cok B U k Γ Wx X) : ∀ (op : BoolOp) (es : List Expr) (pos : Pos), DE B Wx X (.BoolOp op es pos) (boE r Γ op es)
  | op, [], pos => by
    have : boE r Γ op [] = dBad := by cases op <;> rfl
    rw [this]
    exact de_bad
  | op, [a], pos => by
    have : boE r Γ op [a] = r.E Γ a := by cases op <;> rfl
    rw [this]
    exact de_one (R.E c a)
  | .And, a :: b :: es, pos => de_and c.K (R.E c a) (bo_ok R c .And (b :: es) pos)
  | .Or, a :: b :: es, pos => de_or c.K (R.E c a) (bo_ok R c .Or (b :: es) pos)
theorem bt_ok (R : Snd B U k r) (c : Cok B U k Γ Wx X) : ∀ (op : BoolOp) (es : List Expr) (pos : Pos), es ≠ [] → DW B Wx X (.BoolOp op es pos) (boT r Γ op es)
  | op, [], pos, h => absurd rfl h
  | op, [a], pos, _ => by
    have : boT r Γ op [a] = r.T Γ a := by cases op <;> rfl
    rw [this]
    exact dw_one (R.T c a)
  | .And, a :: b :: es, pos, _ => dw_and (R.T c a) (bt_ok R c .And (b :: es) pos (fun h => nomatch h))
  | .Or, a :: b :: es, pos, _ => dw_or (R.T c a) (bt_ok R c .Or (b :: es) pos (fun h => nomatch h))
theorem part_ok (R : Snd B U k r) (c : Cok B U k Γ Wx X) (o : Option Expr) : DO B Wx X o (partE r Γ o) := by
  unfold partE
  split
  · exact do_none
  · exact do_some (R.E c _)
theorem ix_ok (R : Snd B U k r) (c : Cok B U k Γ Wx X) {a b : Expr} {pos : Pos} (h : isSlice b = false) : DE B Wx X (.Subscript a b pos) (cIx (r.E Γ a) (r.E Γ b)) := by
  refine de_ix c.K (R.E c a) (R.E c b) ?_
  cases b <;> first | exact fun o i => rfl | cases h
theorem name_ok (c : Cok B U k Γ Wx X) {x : Str} {p : Pos} : DE B Wx X (.Name x p) (match slotOf U Γ x with
    | some i => cVar i
    | none => if isGl Γ x = true then (match U.cst x with
      | some w => cVal w
      | none => dBad) else dBad) := by
  split
  · rename_i i hi
    obtain ⟨a, b, d, f⟩ := slotOf_ok c hi
    exact de_var a b d f
  · split
    · rename_i hg
      obtain ⟨a, b⟩ := isGl_ok c hg
      split
      · rename_i w hw
        obtain ⟨u, v, e1, e2, e3⟩ := c.cst _ _ hw
        exact de_val (pe_glob a e1 e2 b) e3
      · exact de_bad
    · exact de_bad
theorem notslice {b : Expr} (h : ∀ a x c d, b = .Slice a x c d → False) : isSlice b = false := by
  cases b <;> first | rfl | exact (h _ _ _ _ rfl).elim
theorem e_ok (R : Snd B U k r) (c : Cok B U k Γ Wx X) (e : Expr) : DE B Wx X e (eE U r Γ e) := by
  unfold eE
  split
  · exact de_val pe_int fun _ _ => .int _
  · exact de_val pe_bl fun _ _ => .bl _
  · exact de_val pe_str fun _ _ => .str _
  · exact de_val pe_non fun _ _ => .non
  · exact name_ok c
  · exact de_bin c.K c.room' (R.E c _) (R.E c _)
  · exact de_not c.K (R.E c _)
  · exact de_neg (R.E c _)
  · exact bo_ok R c _ _ _
  · split
    · rename_i h
      exact de_cmp c.K c.un (R.E c _) (R.E c _) h
    · exact de_bad
  · split
    · rename_i h
      exact de_chain c.K c.un (R.E c _) (R.E c _) (R.E c _) h
    · exact de_bad
  · exact de_if (R.T c _) (R.E c _) (R.E c _)
  · exact de_tup (R.A c _)
  · split
    · exact de_sl c.K (R.E c _) (part_ok R c _) (part_ok R c _)
    · exact de_rev c.K (R.E c _)
    · exact de_bad
    · rename_i h3
      exact ix_ok R c (notslice h3)
  · exact de_fresh (R.L c _)
  · exact de_fresh (R.L c _)
  · split
    · exact de_fresh (R.L c _)
    · exact cf_ok R c
  · exact mth_ok R c
  · exact de_bad
theorem t_ok (R : Snd B U k r) (c : Cok B U k Γ Wx X) (e : Expr) : DT B Wx X e (tE r Γ e) := by
  cases e with
  | UnaryOp op a p =>
    cases op with
    | Not => exact dt_not (R.T c _)
    | _ => exact dt_val c.K (R.E c _) fun _ => rfl
  | BoolOp op es p =>
    cases es with
    | nil =>
      have : tE r Γ (.BoolOp op [] p) = dtBad := by cases op <;> rfl
      rw [this]
      exact dt_bad
    | cons a es => exact (bt_ok R c op (a :: es) p (fun h => nomatch h)).dt
  | Compare a ops es p =>
    unfold tE
    split
    · rename_i h
      cases h
    · rename_i h
      cases h
    · rename_i h
      cases h
      split
      · rename_i h
        exact dt_cmp c.K c.un (R.E c _) (R.E c _) h
      · exact dt_bad
    · rename_i h
      cases h
      split
      · rename_i h
        exact dt_chain c.K c.un (R.E c _) (R.E c _) (R.E c _) h
      · exact dt_bad
    · exact dt_bad
    · exact dt_bad
    · rename_i hc hi
      exact (hc _ _ _ _ rfl).elim
  | IfExp _ _ _ _ => exact dt_bad
  | _ => exact dt_val c.K (R.E c _) fun _ => rfl
theorem a_ok (R : Snd B U k r) (c : Cok B U k Γ Wx X) (es : List Expr) : DA B Wx X es (aE r Γ es) := by
  unfold aE
  split
  · exact da_nil
  · split
    · exact da_bad
    · rename_i h
      have h : isStar _ = false := Bool.eq_false_iff.mpr h
      exact da_cons (R.E c _) (R.A c _) (starEach_cons h)
end
end Wv
end
section
set_option Elab.async false
set_option linter.all false
set_option maxRecDepth 100000
set_option maxHeartbeats 4000000
/-! Core P of ours: statements, all levels. -/
namespace Wv
open PySem PySem.Spec L2
open PyProof.Rows hiding St

section
variable {B : Base} {U : Setup} {k : Nat} {Γ : Gam} {Wx : WX} {X : Cx} {r : Ev}
theorem any_star (vs : List Expr) (g : Expr → Bool) (h : ∀ y, g y = isStar y) : vs.any g = vs.any isStar := congrArg (fun f => vs.any f) (funext h)
theorem swNames_eq (line : Nat) (ts : List Expr) (g : Expr → Option Str) (h : ∀ y, g y = (match y with
    | .Name id pos => if kOf Γ id == some .local && pos.line == line then some id else none
    | _ => none)) : ts.filterMap g = swNames Γ line ts := congrArg (fun f => ts.filterMap f) (funext fun y => by
  rw [h]
  all_goals (cases y <;> rfl))
theorem swOf_ok (hs : X.env.scope = Γ.sc) (hb : X.env.blockKind = .function) {tg e : Expr} {o : Option (List Str)} (h : swOf Γ tg e = some o) : swappedStores [tg] e X.env = pure o := by
  unfold swOf at h
  split at h
  · rename_i ts k1 p1 vs k2 p2
    unfold swappedStores
    dsimp only
    rw [hb]
    split at h
    · rename_i z
      cases h
      have z' : (!(ts.length == 2 || ts.length == 3) || vs.length != ts.length || ScopeKind.function != ScopeKind.function) = true := by rw [z]; rfl
      rw [if_pos z']
    · rename_i z
      have z' : ¬ (!(ts.length == 2 || ts.length == 3) || vs.length != ts.length || ScopeKind.function != ScopeKind.function) = true := by
        have e2 : (ScopeKind.function != ScopeKind.function) = false := by decide
        rw [e2, Bool.or_false]
        exact z
      rw [if_neg z']
      rw [any_star]
      rotate_left
      · intro y
        cases y <;> rfl
      split at h
      · rename_i y
        cases h
        rw [if_pos y]
      · rename_i y
        rw [if_neg y]
        dsimp only at h ⊢
        rw [swNames_eq (Γ := Γ) ((ts.head?.map (·.pos.line)).getD 0)]
        rotate_left
        · intro y
          cases y <;> first | rfl | (dsimp only; unfold Env.kindOf kOf; rw [hs])
        split at h
        · rename_i q
          cases h
          rw [if_pos q]
        · rename_i q
          rw [if_neg q]
          split at h
          · rename_i q2
            cases h
            rw [if_pos q2]
          · rename_i q2
            rw [if_neg q2]
            split at h
            · cases h
            · rename_i q3
              cases h
              rw [if_neg q3]
  · rename_i hn
    cases h
    cases e <;> first | rfl | exact (hn _ _ _ rfl).elim
  · cases h
    rfl
  · cases h
    rfl
  · cases h
theorem swB_eq (hs : X.env.scope = Γ.sc) (hb : X.env.blockKind = .function) {tg elt : Expr} {gens : List Comprehension} {scope : Scope} {pos : Pos} {line : Nat} (ht : tg = tg) : swapsWith (.ListComp elt gens scope pos) (some tg) line X.env = pure (swB Γ tg scope pos.line) := by
  cases tg with
  | Name t p =>
    unfold swapsWith swB kOf Env.kindOf
    dsimp only
    rw [hb, hs]
    rfl
  | _ => rfl
theorem nosw {e : Expr} (h : isComp e = false) (t : Option Expr) (line : Nat) (env : Env) : swapsWith e t line env = pure false := by
  cases e <;> first | rfl | cases h
theorem noswS {e tg : Expr} (h : isComp e = false) (line : Nat) (env : Env) : swapsWithSole [tg] e line env = pure false := nosw h _ _ _
theorem asg1 {tg : Expr} (h : isStar tg = false) (env : Env) : (assignEach [tg] env).map (·.2) = [assign tg env] := by
  rw [assignEach_cons h]
  rfl
theorem swOf_star {tg e : Expr} {o : Option (List Str)} (h : swOf Γ tg e = some o) : isStar tg = false := by
  cases tg <;> first | rfl | (unfold swOf at h; cases h)
theorem par_ok (R : Snd B U k r) (c : Cok B U k Γ Wx X) (f : Fok X) {tg e : Expr} {ns : List Str} {pos : Pos} (h : swOf Γ tg e = some (some ns)) : DS B Wx X (.Assign [tg] e pos) (parS U r Γ ns tg e) := by
  have hw := swOf_ok c.sc f.bk h
  unfold parS
  split
  · split
    · rename_i i j e1 e2
      split
      · rename_i z
        obtain ⟨z1, z2, z3, z4⟩ := z
        subst z1
        exact ds_par2 c.calm (by rw [c.N]; exact c.nd) (by rw [c.N]; exact place_ok e1) (by rw [c.N]; exact place_ok e2) z2 (isLoc_ok c z3) (isLoc_ok c z4) (R.A c _) hw
      · exact ds_bad
    · exact ds_bad
  · split
    · rename_i i j l e1 e2 e3
      split
      · rename_i z
        obtain ⟨z1, ⟨z2, z3, z4⟩, z5, z6, z7⟩ := z
        subst z1
        exact ds_par3 c.calm (by rw [c.N]; exact c.nd) (by rw [c.N]; exact place_ok e1) (by rw [c.N]; exact place_ok e2) (by rw [c.N]; exact place_ok e3) z2 z3 z4 (isLoc_ok c z5) (isLoc_ok c z6) (isLoc_ok c z7) (R.A c _) hw
      · exact ds_bad
    · exact ds_bad
  · exact ds_bad
theorem dead_comp (i : Nat) : ∀ ρ s, sAsg (cFresh daBad) (gNm i) ρ s = .bad := fun _ _ => rfl
theorem swB_loc {y : Str} {py : Pos} {scope : Scope} {l : Nat} (c : Cok B U k Γ Wx X) (h : swB Γ (.Name y py) scope l = true) : X.env.scope.names.lookup y = some .local := by
  unfold swB at h
  simp only [Bool.and_eq_true] at h
  rw [c.sc]
  exact eq_of_beq h.1.1.2
theorem lc_ok (R : Snd B U k r) (c : Cok B U k Γ Wx X) (f : Fok X) {elt : Expr} {gens : List Comprehension} {scope : Scope} {cpos spos py : Pos} {y : Str} {i : Nat} (hy : place y U.N = some i) (h : swB Γ (.Name y py) scope cpos.line = true) :
    DS B Wx X (.Assign [.Name y py] (.ListComp elt gens scope cpos) spos) (sAsg (cFresh (compO U r Γ elt scope gens)) (gNm i)) := by
  have hsw : swapsWith (.ListComp elt gens scope cpos) (some (.Name y py)) spos.line X.env = pure true := by rw [swB_eq c.sc f.bk rfl, h]
  have hN : X.N.Nodup := by rw [c.N]; exact c.nd
  have hy' : X.N[i]? = some y := by rw [c.N]; exact place_ok hy
  have hyl := swB_loc c h
  unfold compO
  split
  · rename_i g
    split
    · rename_i ha
      obtain ⟨tg, iter, ifs, as⟩ := g
      have ha' : as = 0 := ha
      clear ha
      subst ha'
      rcases comp1_or (U := U) (r := r) (Γ := Γ) (elt := elt) (scope := scope) (g := ⟨tg, iter, ifs, 0⟩) with q | ⟨T, q⟩
      · rw [q]
        exact ds_dead (dead_comp i)
      · rw [q.eq]
        exact ds_setLc c.calm hN hy' hyl hsw (R.I c _ _) (blkOk_by (by rw [c.N, c.sc]; exact q.blk)) q.sl (fun s H C cl fp => tg_ok (c.blk s H scope cl C fp) 5 _ _ q.tg) (fun s H C cl fp => ifs_ok R (c.blk s H scope cl C fp) _) (fun s H C cl fp => R.E (c.blk s H scope cl C fp) _) (noset q.ns _)
    · exact ds_dead (dead_comp i)
  · rename_i g g1
    split
    · rename_i ha
      obtain ⟨tg, iter, ifs, as⟩ := g
      obtain ⟨tg1, iter1, ifs1, as1⟩ := g1
      have ha' : as = 0 := ha.1
      have hb' : as1 = 0 := ha.2
      clear ha
      subst ha' hb'
      rcases comp2_or (U := U) (r := r) (Γ := Γ) (elt := elt) (scope := scope) (g := ⟨tg, iter, ifs, 0⟩) (g1 := ⟨tg1, iter1, ifs1, 0⟩) with q | ⟨T, T1, q⟩
      · rw [q]
        exact ds_dead (dead_comp i)
      · rw [q.eq]
        exact ds_setLc2 c.calm hN hy' hyl hsw (R.I c _ _) (blkOk_by (by rw [c.N, c.sc]; exact q.blk)) q.sl (fun i hi => hi) q.sl1 (fun s H C cl fp => tg_ok (c.blk s H scope cl C fp) 5 _ _ q.tg) (fun s H C cl fp => ifs_ok R (c.blk s H scope cl C fp) _)
          (fun s H C cl fp => R.I (c.blk s H scope cl C fp) _ _) (fun s H C cl fp => tg_ok (c.blk s H scope cl C fp) 5 _ _ q.tg1) (fun s H C cl fp => ifs_ok R (c.blk s H scope cl C fp) _) (fun s H C cl fp => R.E (c.blk s H scope cl C fp) _) (noset q.ns _) (fun env => noset q.ns1 env)
    · exact ds_dead (dead_comp i)
  · exact ds_dead (dead_comp i)
theorem asg_gen (R : Snd B U k r) (c : Cok B U k Γ Wx X) (f : Fok X) {tg e : Expr} {pos : Pos} (hw : swOf Γ tg e = some none) (hs : swapsWithSole [tg] e pos.line X.env = pure false) : DS B Wx X (.Assign [tg] e pos) (sAsg (r.E Γ e) (gOf U r Γ 5 tg)) :=
  ds_asg (g_tame 5 tg) (R.E c e) (gg_ok R c 5 tg) hs (swOf_ok c.sc f.bk hw) (asg1 (swOf_star hw) _)
theorem asg_ok (R : Snd B U k r) (c : Cok B U k Γ Wx X) (f : Fok X) {tg e : Expr} {pos : Pos} : DS B Wx X (.Assign [tg] e pos) (asgS U r Γ tg e) := by
  unfold asgS
  split
  · rename_i elt gens scope cpos
    split
    · rename_i h
      split
      · split
        · rename_i hy
          exact lc_ok R c f hy h
        · exact ds_bad
      · exact ds_bad
    · rename_i h
      split
      · rename_i hw
        have z := swB_eq (tg := tg) (elt := elt) (gens := gens) (scope := scope) (pos := cpos) (line := pos.line) c.sc f.bk rfl
        rw [Bool.eq_false_iff.mpr h] at z
        exact asg_gen R c f hw z
      · exact ds_bad
  · exact ds_bad
  · exact ds_bad
  · rename_i h1 h2 h3
    have hc : isComp e = false := by
      cases e <;> first | rfl | exact (h1 _ _ _ _ rfl).elim | exact (h2 _ _ _ _ rfl).elim | exact (h3 _ _ _ _ _ rfl).elim
    split
    · rename_i hw
      exact asg_gen R c f hw (noswS hc _ _)
    · rename_i hw
      exact par_ok R c f hw
    · exact ds_bad

/-! ### suites of except clauses -/
theorem cold_ok {n : Nat} {e : Expr} {w : W} (h : cold n e = some w) : DE B Wx X e (cVal w) := by
  unfold cold at h
  split at h
  · cases h
    exact de_val pe_int fun _ _ => .int _
  · cases h
    exact de_val pe_bl fun _ _ => .bl _
  · cases h
    exact de_val pe_str fun _ _ => .str _
  · cases h
    exact de_val pe_non fun _ _ => .non
  · cases h
theorem colds_ok : ∀ {es : List Expr} {ws : List W}, colds es = some ws → DA B Wx X es (fun _ h => .ok ws h)
  | [], ws, h => by
    unfold colds at h
    cases h
    exact da_nil
  | e :: es, ws, h => by
    unfold colds at h
    split at h
    · rename_i w ws' e1 e2 e3
      cases h
      exact da_cons (cold_ok e2) (colds_ok e3) (starEach_cons e1)
    · cases h
theorem one_ret {e : Expr} {p : Pos} {w : W} (d : DE B Wx X e (cVal w)) : DSs B Wx X [.Return (some e) p] (sRet (cVal w)) := dss_cons (ds_ret d) dss_nil
theorem coldS_ok {sts : List Stmt} {w : W} (h : coldS sts = some w) : DSs B Wx X sts (sRet (cVal w)) := by
  unfold coldS at h
  split at h
  · split at h
    · rename_i ws hws
      split at h
      · rename_i hz
        cases h
        have e : cTup (fun _ h => .ok ws h) = cVal (.tup ws) := by
          funext ρ s
          show (if ws.length ≤ 16777216 then Out.ok (W.tup ws) s else .bad) = _
          rw [if_pos hz]
          rfl
        have d : ∀ (x1 : Nat) (pos : Pos), DE B Wx X (.Tuple _ x1 pos) (cVal (.tup ws)) := fun x1 pos => e ▸ de_tup (x1 := x1) (pos := pos) (colds_ok (B := B) (Wx := Wx) (X := X) hws)
        exact one_ret (d _ _)
      · cases h
    · cases h
  · exact one_ret (cold_ok h)
  · cases h

/-! ### statements -/
theorem s_ok (R : Snd B U k r) (c : Cok B U k Γ Wx X) (f : Fok X) (st : Stmt) : DS B Wx X st (sE U r Γ st) := by
  unfold sE
  split
  · exact ds_ret (R.E c _)
  · exact ds_retN
  · exact ds_pass
  · exact ds_break
  · exact ds_cont
  · split
    · rename_i h
      exact ds_expr (R.E c _) (nosw h _ _ _)
    · exact ds_bad
  · exact ds_if (R.T c _) (R.S c f _) (R.S c f _)
  · exact ds_while f.pass (R.T c _) (R.S c f _)
  · split
    · rename_i h
      split
      · rename_i T hT
        exact ds_for f.pass c.calm (noset h _) (R.I c _ _) (tg_ok c 5 _ _ hT) (R.S c f _)
      · exact ds_bad
    · exact ds_bad
  · split
    · rename_i h
      obtain ⟨a, b⟩ := isGl_ok c h.1
      exact ds_raise c.K c.calm c.tk (c.exc _ h.2) a b
    · exact ds_bad
  · split
    · rename_i h
      obtain ⟨a, b⟩ := isGl_ok c h.1
      obtain ⟨C, e1, e2⟩ := c.cls _ h.2
      split
      · rename_i w hw
        exact ds_try c.K f.stk f.fr c.ct e1 ⟨a, b, .inl e2⟩ (fun W pn xe tk p => R.S (c.tr tk) (f.tr p) _) (fun a pn => coldS_ok hw)
      · exact ds_bad
    · exact ds_bad
  · exact asg_ok R c f
  · exact ds_bad
theorem ss_ok (R : Snd B U k r) (c : Cok B U k Γ Wx X) (f : Fok X) (sts : List Stmt) : DSs B Wx X sts (ssE U r Γ sts) := by
  unfold ssE
  split
  · exact dss_nil
  · exact dss_cons (s_ok R c f _) (R.S c f _)
theorem snd_step (R : Snd B U k r) : Snd B U k (step U r) := ⟨fun c e => e_ok R c e, fun c e => t_ok R c e, fun c e => a_ok R c e, fun c e => l_ok R c e, fun c tg e => i_ok R c tg e, fun c f sts => ss_ok R c f sts⟩
theorem snd_ev : ∀ n : Nat, Snd B U k (ev U n)
  | 0 => snd_bad
  | n + 1 => snd_step (snd_ev n)
end
end Wv
end
section
set_option Elab.async false
set_option linter.all false
set_option maxRecDepth 100000
set_option maxHeartbeats 4000000
/-! Core Q of ours: defs that call one another, as one plain function. -/
namespace Wv
open PySem PySem.Spec L2
open PyProof.Rows hiding St

structure Fn where
  name : Str
  n : Nat
  N : List Str
  scope : Scope
  body : List Stmt
  dw : List W
structure Prg where
  fns : List Fn
  cst : Str → Option W
  free : Str → Bool
  exc : Str → Bool
  cls : Str → Bool
  ct : Catch
def findF (f : Str) : List Fn → Option Fn
  | [] => none
  | F :: l => if F.name = f then some F else findF f l
theorem findF_mem {f : Str} {F : Fn} : ∀ {l : List Fn}, findF f l = some F → F ∈ l ∧ F.name = f
  | [], h => by unfold findF at h; cases h
  | G :: l, h => by
    unfold findF at h
    split at h
    · rename_i e
      cases h
      exact ⟨List.mem_cons_self, e⟩
    · obtain ⟨a, b⟩ := findF_mem h
      exact ⟨List.mem_cons_of_mem _ a, b⟩

/-! ### what is new may be forgotten -/
mutual
def belowW (n : Nat) : W → Bool
  | .ref k => decide (k < n)
  | .tup ws => belowWs n ws
  | .kls ws => belowWs n ws
  | _ => true
def belowWs (n : Nat) : List W → Bool
  | [] => true
  | w :: ws => belowW n w && belowWs n ws
end
def belowK (n : Nat) : List (Key × W) → Bool
  | [] => true
  | p :: ws => belowW n p.2 && belowK n ws
def belowO (n : Nat) : Ob → Bool
  | .lst ws => belowWs n ws
  | .dic ws => belowK n ws
def keepOk (h0 h1 : Store) : Prop := h0.length ≤ h1.length ∧ ∀ (i : Nat) (o : Ob), i < h0.length → h1[i]? = some o → h0[i]? = some o ∨ belowO h0.length o = true
section
variable {B : Base} {m t : List Addr} {H H' : Hp}
mutual
theorem rep_cut : ∀ (w : W) (v : V), rep B (m ++ t) H w v → belowW m.length w = true → rep B m H w v
  | .non, v, q, _ => by unfold rep at q ⊢; exact q
  | .bl _, v, q, _ => by unfold rep at q ⊢; exact q
  | .int _, v, q, _ => by unfold rep at q ⊢; exact q
  | .str _, v, q, _ => by unfold rep at q ⊢; exact q
  | .glo _, v, q, _ => by unfold rep at q ⊢; exact q
  | .kls ws, v, q, b => by
    unfold rep at q ⊢
    unfold belowW at b
    obtain ⟨a, vs, e, s, z⟩ := q
    exact ⟨a, vs, e, s, reps_cut ws vs z b⟩
  | .ref n, v, q, b => by
    unfold rep at q ⊢
    unfold belowW at b
    obtain ⟨a, e, z⟩ := q
    exact ⟨a, e, by rw [List.getElem?_append_left (of_decide_eq_true b)] at z; exact z⟩
  | .tup ws, v, q, b => by
    unfold rep at q ⊢
    unfold belowW at b
    obtain ⟨a, vs, e, s, z⟩ := q
    exact ⟨a, vs, e, s, reps_cut ws vs z b⟩
theorem reps_cut : ∀ (ws : List W) (vs : List V), reps B (m ++ t) H ws vs → belowWs m.length ws = true → reps B m H ws vs
  | [], vs, q, _ => by unfold reps at q ⊢; exact q
  | w :: ws, vs, q, b => by
    unfold reps at q ⊢
    unfold belowWs at b
    obtain ⟨b1, b2⟩ := Bool.and_eq_true_iff.mp b
    obtain ⟨v, r, e, z, zs⟩ := q
    exact ⟨v, r, e, rep_cut w v z b1, reps_cut ws r zs b2⟩
end
theorem repk_cut : ∀ (ws : List (Key × W)) (vs : List (Key × V)), repk B (m ++ t) H ws vs → belowK m.length ws = true → repk B m H ws vs
  | [], vs, q, _ => by unfold repk at q ⊢; exact q
  | w :: ws, vs, q, b => by
    unfold repk at q ⊢
    unfold belowK at b
    obtain ⟨b1, b2⟩ := Bool.and_eq_true_iff.mp b
    obtain ⟨v, r, e, z, zs⟩ := q
    exact ⟨v, r, e, rep_cut _ v z b1, repk_cut ws r zs b2⟩
mutual
theorem rep_below : ∀ (w : W) (v : V), rep B m H w v → belowW m.length w = true
  | .non, v, q => rfl
  | .bl _, v, q => rfl
  | .int _, v, q => rfl
  | .str _, v, q => rfl
  | .glo _, v, q => rfl
  | .kls ws, v, q => by
    unfold rep at q
    obtain ⟨a, vs, e, s, z⟩ := q
    unfold belowW
    exact reps_below ws vs z
  | .ref n, v, q => by
    unfold rep at q
    obtain ⟨a, e, z⟩ := q
    unfold belowW
    exact decide_eq_true (List.getElem?_eq_some_iff.mp z).1
  | .tup ws, v, q => by
    unfold rep at q
    obtain ⟨a, vs, e, s, z⟩ := q
    unfold belowW
    exact reps_below ws vs z
theorem reps_below : ∀ (ws : List W) (vs : List V), reps B m H ws vs → belowWs m.length ws = true
  | [], vs, q => rfl
  | w :: ws, vs, q => by
    unfold reps at q
    obtain ⟨v, r, e, z, zs⟩ := q
    unfold belowWs
    rw [rep_below w v z, reps_below ws r zs]
    rfl
end
theorem repk_below : ∀ (ws : List (Key × W)) (vs : List (Key × V)), repk B m H ws vs → belowK m.length ws = true
  | [], vs, q => rfl
  | w :: ws, vs, q => by
    unfold repk at q
    obtain ⟨v, r, e, z, zs⟩ := q
    unfold belowK
    rw [rep_below _ v z, repk_below ws r zs]
    rfl
theorem obOk.below {o : Ob} {a : Addr} (q : obOk B m H o a) : belowO m.length o = true := by
  cases o with
  | lst ws => obtain ⟨vs, _, r⟩ := q; exact reps_below ws vs r
  | dic ws => obtain ⟨vs, _, r⟩ := q; exact repk_below ws vs r
theorem obOk.cut {o : Ob} {a : Addr} (q : obOk B (m ++ t) H o a) (b : belowO m.length o = true) : obOk B m H o a := by
  cases o with
  | lst ws => obtain ⟨vs, e, r⟩ := q; exact ⟨vs, e, reps_cut ws vs r b⟩
  | dic ws => obtain ⟨vs, e, r⟩ := q; exact ⟨vs, e, repk_cut ws vs r b⟩
theorem cut_sim {m' : List Addr} {h h' : Store} (S : Sim B m h H) (S' : Sim B m' h' H') (G : Go m H m' H') (k : keepOk h h') : Sim B m (h'.take h.length) H' ∧ Go m H m H' ∧ ∀ w v, belowW h.length w = true → rep B m' H' w v → rep B m H' w v := by
  obtain ⟨t, e, f⟩ := G.pre
  subst e
  refine ⟨⟨by rw [List.length_take, S.len, Nat.min_eq_left k.1], S.nd, fun n a o h1 h2 => ?_⟩, ⟨⟨[], (List.append_nil m).symm, fun _ z => nomatch z⟩, G.keep, G.tup⟩, fun w v hb r => rep_cut w v r (by rw [S.len]; exact hb)⟩
  have hn : n < m.length := (List.getElem?_eq_some_iff.mp h1).1
  have hn' : n < h.length := by rw [← S.len]; exact hn
  rw [List.getElem?_take_of_lt hn'] at h2
  have q := S'.ob n a o (by rw [List.getElem?_append_left hn]; exact h1) h2
  refine q.cut ?_
  rcases k.2 n o hn' h2 with z | z
  · exact (S.ob n a o h1 z).below
  · rw [S.len]
    exact z
end
open Classical in
noncomputable def cutR (h0 : Store) (w : W) (h1 : Store) : Out W := if belowW h0.length w = true ∧ keepOk h0 h1 then .ok w (h1.take h0.length) else .ok w h1
open Classical in
noncomputable def cutX (h0 : Store) (e : Exn) (h1 : Store) : Out W := if e.fld = none ∧ keepOk h0 h1 then .exc e (h1.take h0.length) else .exc e h1
noncomputable def finish (h0 : Store) : SO → Out W
  | .ret w h1 => cutR h0 w h1
  | .next _ h1 => cutR h0 .non h1
  | .exc e _ h1 => cutX h0 e h1
  | _ => .bad
def startR (N : List Str) (ws : List W) : Rho := ws.map some ++ List.replicate (N.length - ws.length) none
def evFuel : Nat := 40
def setOf (P : Prg) (F : Fn) (k : Nat) (call : CallT) : Setup := ⟨F.N, fun f => (findF f P.fns).map (·.n), fun f => match findF f P.fns with
  | some G => G.dw
  | none => [], P.cst, P.free, P.exc, P.cls, P.ct, decide (32 ≤ k), call⟩
noncomputable def bodyOf (P : Prg) (F : Fn) (k : Nat) (call : CallT) : DenS := (ev (setOf P F k call) evFuel).S ⟨F.scope, fun _ => true⟩ F.body
noncomputable def callK (P : Prg) : Nat → CallT
  | 0 => fun _ _ _ => .bad
  | k + 1 => fun f ws h => match findF f P.fns with
    | some F => if ws.length = F.n then finish h (bodyOf P F k (callK P k) (startR F.N ws) h) else .bad
    | none => .bad
section
variable {B : Base} {m : List Addr} {H : Hp} {h : Store}
theorem slots_start {N : List Str} {ws : List W} {vs : List V} (r : reps B m H ws vs) : slots B m H (startR N ws) (L2.start N vs) := by
  have hl := r.length
  unfold startR L2.start
  refine ⟨by simp [hl], fun i w e => ?_⟩
  by_cases hi : i < ws.length
  · rw [List.getElem?_append_left (by simpa using hi), List.getElem?_map] at e
    cases q : ws[i]? with
    | none => rw [q] at e; cases e
    | some w' =>
      rw [q] at e
      cases e
      obtain ⟨v, e2, r2⟩ := r.get q
      exact ⟨v, by rw [List.getElem?_append_left (by simpa [← hl] using hi), List.getElem?_map, e2]; rfl, r2⟩
  · rw [List.getElem?_append_right (by simpa using hi), List.getElem?_replicate] at e
    split at e <;> cases e
theorem PV.cutR {m' : List Addr} {H' : Hp} {w : W} {h1 : Store} {Q : VK} {E : Exn → List Addr → Hp → Prop} (S : Sim B m h H) (p : PV B m H (cutR h w h1) (QE B Q) E) (S' : Sim B m' h1 H') (G : Go m H m' H') {v : V} (r : rep B m' H' w v) : Q v H' := by
  unfold Wv.cutR at p
  split at p
  · rename_i c
    obtain ⟨a, b, d⟩ := cut_sim S S' G c.2
    exact p m H' a b v (d w v c.1 r)
  · exact p m' H' S' G v r
theorem repX_cut {m' : List Addr} {H' : Hp} {e : Exn} {cls : Value} {d : Option Addr} (hf : e.fld = none) (r : repX B m' H' e cls d) : repX B m H' e cls d := by
  unfold repX at r ⊢
  rw [hf] at r ⊢
  exact r
theorem PV.cutX {m' : List Addr} {H' : Hp} {e : Exn} {h1 : Store} {Q : W → Store → List Addr → Hp → Prop} {E : XK} (S : Sim B m h H) (p : PV B m H (cutX h e h1) Q (fun e m' H' => ∀ cls d, repX B m' H' e cls d → E cls d H')) (S' : Sim B m' h1 H') (G : Go m H m' H') {cls : Value} {d : Option Addr} (r : repX B m' H' e cls d) : E cls d H' := by
  unfold Wv.cutX at p
  split at p
  · rename_i c
    obtain ⟨a, b, _⟩ := cut_sim S S' G c.2
    exact p m H' a b cls d (repX_cut c.1 r)
  · exact p m' H' S' G cls d r
end

/-! ### each def keeps its promise -/
/-- what the head tells of the program's names -/
structure World1 (B : Base) (P : Prg) (Q : Program) (w : World) (mg : Str → Option Value) (base : Heap) : Prop where
  fns : ∀ F ∈ P.fns, ∃ (fa : Addr) (fd : FuncData) (pa : Arguments) (nm : Str) (dv : List V), mg F.name = some (.ref fa) ∧ B.G F.name = some (.ref fa) ∧ FunD B.K nm nm pa F.body F.scope dv [] fa fd ∧ BindsW B fd (F.N.take F.n) F.dw
  sc : ∀ F ∈ P.fns, FnScope F.N (F.N.take F.n) F.scope ∧ (F.N.take F.n).length = F.n
  cst : ∀ x w, P.cst x = some w → ∃ u v, mg x = some u ∧ RelV v u ∧ ∀ m H, rep B m H w v
  free : ∀ x, P.free x = true → mg x = none
  exc : ∀ x, P.exc x = true → ExcAt B mg x
  cls : ∀ x, P.cls x = true → ∃ C : Addr, B.G x = some (.ref C) ∧ mg x = some (.ref C)
  ct : CatchOk B P.ct
  seer : base.NoSeer
  tree : Q.given.tree = none
theorem fnAt {B : Base} {P : Prg} {Q : Program} {w : World} {mg : Str → Option Value} {base : Heap} (Z : World1 B P Q w mg base) : ∀ (k : Nat) (f : Str) (n : Nat), (findF f P.fns).map (·.n) = some n → FnAt B (callK P k) Q w mg base k f n (match findF f P.fns with
  | some G => G.dw
  | none => [])
  | 0, f, n, h => by
    cases q : findF f P.fns with
    | none => rw [q] at h; cases h
    | some F =>
      rw [q] at h
      cases h
      obtain ⟨hm, rfl⟩ := findF_mem q
      obtain ⟨fa, fd, pa, nm, dv, e1, e2, e3, e4⟩ := Z.fns F hm
      refine ⟨fa, fd, F.N.take F.n, e1, e2, e3.kp, e4, ⟨fun vs H Q E sp => ?_, fun A outer s H args us vs Q E _ _ _ _ sp => ?_⟩⟩
      · obtain ⟨m, h, ws, _, r, hl, _⟩ := sp
        exact r.length.symm.trans (hl.trans (Z.sc F hm).2.symm)
      · obtain ⟨m, h, ws, _, r, hl, p⟩ := sp
        exact p.elim
  | k + 1, f, n, h => by
    cases q : findF f P.fns with
    | none => rw [q] at h; cases h
    | some F =>
      rw [q] at h
      cases h
      obtain ⟨hm, hf⟩ := findF_mem q
      subst hf
      obtain ⟨fa, fd, pa, nm, dv, e1, e2, e3, e4⟩ := Z.fns F hm
      obtain ⟨S1, S2⟩ := Z.sc F hm
      refine ⟨fa, fd, F.N.take F.n, e1, e2, e3.kp, e4, e3.ok S1 (fun vs H Q E sp => ?_) (fun cdv A outer s H vs Qv E hr sp => ?_)⟩
      · obtain ⟨m, h, ws, _, r, hl, _⟩ := sp
        exact r.length.symm.trans (hl.trans S2.symm)
      · obtain ⟨m, h, ws, S, r, hl, p⟩ := sp
        have tk : Takes (cxOf (L2.CX Q w) Q w B.K mg base F.N nm F.scope fa cdv A outer s H E) (fun cls d _ H' => E cls d H') := takes_of rfl rfl rfl rfl
        have fk : Fok (cxOf (L2.CX Q w) Q w B.K mg base F.N nm F.scope fa cdv A outer s H E) := ⟨passes_of rfl, rfl, rfl, by
          show (if F.scope.kind.isAnnotationScope = true then ScopeKind.function else F.scope.kind) = .function
          rw [S1.kind]
          rfl⟩
        have ck : Cok B (setOf P F k (callK P k)) k ⟨F.scope, fun _ => true⟩ (fun cls d _ H' => E cls d H') (cxOf (L2.CX Q w) Q w B.K mg base F.N nm F.scope fa cdv A outer s H E) := ⟨rfl, by have := hr.un; show (A.deeper _).units + 65 < cLine; omega, rfl, S1.nd, rfl, fun _ _ => rfl, rfl, tk, hr, fun f n h => fnAt Z k f n h, Z.cst, Z.free, Z.exc, Z.cls, Z.ct,
          fun hb => ⟨Z.seer, Z.tree, by
            have hk : 32 ≤ k := of_decide_eq_true hb
            have := hr.dp
            show (A.deeper _).depth + Builtin.pylongFrames < recursionLimit
            have e : Builtin.pylongFrames = 100 := rfl
            rw [e]
            omega, _, _, rfl, S1.gen, S1.co, rfl, rfl⟩⟩
        have d := (snd_ev (B := B) (k := k) (U := setOf P F k (callK P k)) evFuel).S ck fk F.body
        refine ⟨_, d, m, h, startR F.N ws, S, slots_start r, ?_⟩
        show PSV B m H (bodyOf P F k (callK P k) (startR F.N ws) h) _
        have p : PV B m H (callK P (k + 1) F.name ws h) (QE B Qv) (fun e m' H' => ∀ cls d, repX B m' H' e cls d → E cls d H') := p
        unfold callK at p
        rw [q] at p
        dsimp only at p
        rw [if_pos hl] at p
        cases z : bodyOf P F k (callK P k) (startR F.N ws) h with
        | next ρ h1 =>
          rw [z] at p
          exact fun m' H' S' G' σ' _ => p.cutR S S' G' .non
        | ret w h1 =>
          rw [z] at p
          exact fun m' H' S' G' v rv => p.cutR S S' G' rv
        | exc e ρ h1 =>
          rw [z] at p
          exact fun m' H' S' G' σ' cls d _ rx => p.cutX S S' G' rx
        | brk ρ h1 =>
          rw [z] at p
          exact p.elim
        | cont ρ h1 =>
          rw [z] at p
          exact p.elim
        | bad =>
          rw [z] at p
          exact p.elim
end Wv
end
section
set_option Elab.async false
set_option linter.all false
set_option maxRecDepth 100000
set_option maxHeartbeats 4000000
/-! Core R of ours: written constants, the law's call. -/
namespace Wv
open PySem PySem.Spec L2
open PyProof.Rows hiding St

/-- a written value as it lies in the module's part -/
def litA (f : W → Value → Bool) : List W → List Value → Bool
  | [], [] => true
  | w :: ws, u :: us => f w u && litA f ws us
  | _, _ => false
def litB (K : PySem.W.Frag) : Nat → W → Value → Bool
  | _, .non, .none => true
  | _, .bl b, .bool c => decide (b = c)
  | _, .int i, .int j _ => decide (i = j)
  | _, .str x, .str y _ => decide (x = y)
  | n + 1, .tup ws, .ref a => (match K.lookup a with
    | some ⟨.type c, _, .seq its _, _⟩ => decide (c = "tuple") && (decide (its.size ≤ 1000) && litA (litB K n) ws its.toList)
    | _ => false)
  | _, _, _ => false
theorem litA_ok {B : Base} {f : W → Value → Bool} (hf : ∀ w u, f w u = true → ∃ v, RelV v u ∧ ∀ m H, rep B m H w v) : ∀ {ws : List W} {us : List Value}, litA f ws us = true → ∃ vs, Vals vs us ∧ ∀ m H, reps B m H ws vs
  | [], [], _ => ⟨[], .nil, fun _ _ => .nil⟩
  | w :: ws, u :: us, h => by
    unfold litA at h
    obtain ⟨h1, h2⟩ := Bool.and_eq_true_iff.mp h
    obtain ⟨v, r, k⟩ := hf w u h1
    obtain ⟨vs, rs, ks⟩ := litA_ok hf h2
    exact ⟨v :: vs, .cons r rs, fun m H => .cons (k m H) (ks m H)⟩
  | [], _ :: _, h => by unfold litA at h; cases h
  | _ :: _, [], h => by unfold litA at h; cases h
theorem litB_ok {B : Base} : ∀ (n : Nat) (w : W) (u : Value), litB B.K n w u = true → ∃ v, RelV v u ∧ ∀ m H, rep B m H w v
  | n, w, u, h => by
    unfold litB at h
    split at h
    · exact ⟨.non, rfl, fun _ _ => .non⟩
    · cases of_decide_eq_true h
      exact ⟨.bl _, rfl, fun _ _ => .bl _⟩
    · cases of_decide_eq_true h
      exact ⟨.int _, ⟨_, rfl⟩, fun _ _ => .int _⟩
    · cases of_decide_eq_true h
      exact ⟨.str _, ⟨_, rfl⟩, fun _ _ => .str _⟩
    · rename_i n ws a
      split at h
      · rename_i c od its k sl q
        obtain ⟨h1, h2⟩ := Bool.and_eq_true_iff.mp h
        obtain ⟨h2, h3⟩ := Bool.and_eq_true_iff.mp h2
        obtain ⟨vs, r, ks⟩ := litA_ok (litB_ok n) h3
        have hc : c = "tuple" := of_decide_eq_true h1
        have hz := of_decide_eq_true h2
        refine ⟨.ref a, rfl, fun m H => ?_⟩
        unfold rep
        exact ⟨a, vs, rfl, .inr ⟨_, its, k, q, by rw [hc], rfl, by rw [sizeLine_eq]; omega, r⟩, ks m H⟩
      · cases h
    · cases h
/-- the constant x of the module is w -/
def cstB (K : PySem.W.Frag) (p : Str × W) : Bool := match PySem.W.nsIn K mainGlobals p.1 with
  | some (some u) => litB K 6 p.2 u
  | _ => false
theorem cstB_ok {B : Base} {h : Heap} {mg : Str → Option Value} (X : B.K.In h) (G : h.Ns mainGlobals mg) {p : Str × W} (e : cstB B.K p = true) : ∃ u v, mg p.1 = some u ∧ RelV v u ∧ ∀ m H, rep B m H p.2 v := by
  unfold cstB at e
  split at e
  · rename_i u q
    obtain ⟨v, r, k⟩ := litB_ok 6 _ _ e
    exact ⟨u, v, PySem.W.mg_of X G q, r, k⟩
  · cases e

/-! ### the law's own call, with what a division of great ints asks of the ground -/
theorem call_here {P : Prg} {Q : Program} {w : World} {B : Base} {mg mb : Str → Option Value} {k : Nat} {f a : Addr} {x : Str} {s1 : Shared} {us : List Value} {ns : List Int}
    (hK : B.K.In s1.heap) (hmg : s1.heap.Ns mainGlobals mg) (hmb : s1.heap.Ns builtinsNs mb) (hbt : ∀ y : Str, y ≠ "__name__" → mb y = bootBuiltins y) (hno : s1.heap.NoLimit) (hse : s1.heap.NoSeer) (hge : s1.gens = #[])
    (hob : s1.heap.get? a = some { cls := .type "list", data := .seq us.toArray }) (hin : IntsAre us ns) (hsz : ns.length ≤ sizeLine) (room : Room k callerA)
    (Z : ∀ base : Heap, B.K.In base → base.Ns mainGlobals mg → base.NoSeer → World1 B P Q w mg base) (hf : B.G x = some (.ref f)) (hx : (findF x P.fns).map (·.n) = some 1)
    (law : callK P k x [.kls (ns.map W.int)] [] = .ok (.bl true) []) :
    codeAny (model Q w) callerA (.call (.ref f) ⟨[.ref a], []⟩) (fun r s2 => r = .ok (.ret (.bool true)) ∧ OldK s1.heap s2.heap ∧ s2.os = s1.os ∧ AllBare s2.gens) s1 := by
  have rel : Vals (ns.map V.int) us := vals_ints hin
  have same := hin.length
  have main : ∀ T : Hp, (∀ b, T b = none ∨ (b = a ∧ ∃ o xs, T b = some (.frz o (.lst xs)))) → KL B.K T a (ns.map V.int) → HOk Q w T s1.heap → (T a ≠ none → B.K.lookup a = none) →
      codeAny (model Q w) callerA (.call (.ref f) ⟨[.ref a], []⟩) (fun r s2 => r = .ok (.ret (.bool true)) ∧ OldK s1.heap s2.heap ∧ s2.os = s1.os ∧ AllBare s2.gens) s1 := by
    intro T only kl good apart
    have clear : ∀ {b : Addr} {o : Obj}, s1.heap.get? b = some o → (∀ u n, o.data ≠ .seq u n) → T b = none := fun {b o} e d => by
      rcases only b with z | ⟨z, _⟩
      · exact z
      · rw [z, hob] at e
        cases e
        exact (d _ _ rfl).elim
    have stay : ∀ {b : Addr} {o : Obj}, s1.heap.get? b = some o → (∀ u n, o.data ≠ .seq u n) → (hidT s1.heap T).get? b = some o := fun e d => hidT_get e (clear e d)
    have names : ∀ {b : Addr} {m : Str → Option Value}, s1.heap.Ns b m → (hidT s1.heap T).Ns b m := fun {b m} ⟨o, es, ep, e, d, r⟩ => ⟨o, es, ep, stay e (fun u n z => by rw [d] at z; cases z), d, r⟩
    have ground : B.K.In (hidT s1.heap T) := fun b o e => hidT_get (hK b o e) (by
      rcases only b with z | ⟨z, _⟩
      · exact z
      · cases q : T b with
        | none => rfl
        | some v =>
          have zz := apart (by rw [← z, q]; simp)
          rw [z, zz] at e
          cases e)
    have seer : (hidT s1.heap T).NoSeer := by
      obtain ⟨mc, c1, c2, c3⟩ := hse.statics
      obtain ⟨mm, m1, m2⟩ := hse.mods
      obtain ⟨mi, i1, i2⟩ := hse.imp
      obtain ⟨mm2, bm, ob, g1, g2, g3, g4, g5⟩ := hse.main
      refine ⟨⟨mc, names c1, c2, c3⟩, ⟨mm, names m1, m2⟩, ⟨mi, names i1, i2⟩, ⟨mm2, bm, ob, names g1, g2, hidT_get g3 ?_, g4, g5⟩⟩
      rcases only bm with z | ⟨z, _⟩
      · exact z
      · rw [z, hob] at g3
        cases g3
        exact absurd (Value.type.inj g4) (by decide)
    have place : Mod B.K mg (hidT s1.heap T) := ⟨ground, names hmg, ⟨mb, names hmb, hbt⟩, let ⟨mc, h1, h2⟩ := hno; ⟨mc, names h1, h2⟩⟩
    have start : Env0 Q w B.K mg (hidT s1.heap T) callerA [] s1 T := ⟨rfl, place, fun b o e => of_hidT e, Nat.le_of_eq (hidT_size _ _), trivial, fun b hb => (List.not_mem_nil hb).elim, good, .of_eq hge⟩
    obtain ⟨f2, fd, ps, _, hg, _, hb, ok⟩ := (fnAt (Z _ ground (names hmg) seer) k x 1 hx).ex
    have ef : f2 = f := by
      rw [hf] at hg
      cases hg
      rfl
    subst ef
    have sp : spD B (callK P k) 1 x [.ref a] T (fun v _ => v = .bl true) (fun _ _ _ => False) := by
      refine ⟨[], [], [.kls (ns.map W.int)], ⟨rfl, List.nodup_nil, fun n a o e => by simp at e⟩, .cons ?_ .nil, rfl, ?_⟩
      · unfold rep
        refine ⟨a, ns.map V.int, rfl, kl, ?_⟩
        have go : ∀ l : List Int, reps B [] T (l.map W.int) (l.map V.int) := fun l => by
          induction l with
          | nil => exact .nil
          | cons i l ih => exact .cons (.int i) ih
        exact go ns
      · rw [law]
        exact fun m' H' S' G' v r => r.bl_
    have hl := ok.len _ _ _ _ sp
    refine codeAny_mono (ok.run callerA [] s1 T ⟨[.ref a], []⟩ [.ref a] [.ref a] _ _ room start (hb.full s1 [.ref a] hK (by simpa using hl)) (.cons rfl .nil) sp) fun r s2 h => ?_
    cases r with
    | error e =>
      obtain ⟨_, _, _, _, _, _, _, _, _, _, _, _, z⟩ := h
      exact z.elim
    | ok fl =>
      cases fl with
      | ret u =>
        obtain ⟨v, T', os, bare, un, good', r', q⟩ := h
        have q' : v = .bl true := q
        subst q'
        obtain rfl : u = Value.bool true := r'
        refine ⟨rfl, OldK.of_keep fun b o e => ?_, os, bare⟩
        rcases only b with z | ⟨_, ob, xs, z⟩
        · exact un.keep b o e z (fun z => (List.not_mem_nil z).elim) (fun z => (List.not_mem_nil z).elim)
        · have z2 := un.frzs b ob _ z
          obtain ⟨e1, _⟩ := good b _ z
          obtain ⟨e2, _⟩ := good' b _ z2
          rw [e] at e1
          cases e1
          exact e2
      | _ => exact False.elim h
  cases hk : B.K.lookup a with
  | some o =>
    have e := hK a o hk
    rw [hob] at e
    cases e
    exact main (fun _ => none) (fun _ => .inl rfl) (.inr ⟨_, us.toArray, _, hk, rfl, rfl, rfl, by rw [List.size_toArray, same]; exact hsz, by simpa using rel⟩) (fun b u z => by cases z) fun z => (z rfl).elim
  | none =>
    refine main (fun b => if b = a then some (.frz { cls := .type "list", data := .seq us.toArray } (.lst (ns.map V.int))) else none) (fun b => ?_) (.inl ⟨_, if_pos rfl⟩) (fun b u z => ?_) fun _ => hk
    · by_cases hb : b = a
      · exact .inr ⟨hb, _, _, if_pos hb⟩
      · exact .inl (if_neg hb)
    · by_cases hb : b = a
      · have z' := (if_pos hb).symm.trans z
        cases z'
        subst hb
        exact ⟨hob, by rw [List.length_map]; exact hsz, us, _, rel, hob⟩
      · have z' := (if_neg hb).symm.trans z
        cases z'
/-- the goal behind the head -/
theorem walkW {l : PySem.W.OpenLaw} {n k : Nat} {q : Program} {loose : List Str} {XP : (Str → Option Value) → Heap → Prop} {YP : World → Heap → Prop} {d : DefRec} {P : Prg} (hn : l.most = some n) (hn2 : n ≤ sizeLine) (hdf : d.params.defaults = []) (room : Room k callerA) (hq : importsNone q = true)
    (F : ∀ (w : World) (mg : Str → Option Value) (f : Addr) (h : Heap), YP w h → h.Ns mainGlobals mg → mg d.name = some (.ref f) → ∃ B : Base, B.K.In h ∧ (∀ base : Heap, B.K.In base → base.Ns mainGlobals mg → base.NoSeer → World1 B P l.prog w mg base) ∧ B.G d.name = some (.ref f))
    (hx : (findF d.name P.fns).map (·.n) = some 1) (law : ∀ ns : List Int, ns.length ≤ n → callK P k d.name [.kls (ns.map W.int)] [] = .ok (.bl true) []) :
    PySem.W.WalkO q loose XP YP l.row.toRowW d [] (fun f vs => PySem.call f vs) := by
  refine Att.attach_call hn hdf fun w s0 s1 mg mb f o pm cd doc a vs ns G Y ho hd hcd hmg hobj hints hlen hg => ?_
  obtain ⟨B, b1, b2, b3⟩ := F w mg f _ Y G.T.g hmg
  exact call_here b1 G.T.g G.T.b G.T.builtins G.T.nolimit (G.T.seer hq) hg hobj hints (Nat.le_trans hlen hn2) room b2 b3 hx (law ns hlen)
end Wv
end
section
set_option Elab.async false
set_option linter.all false
set_option maxRecDepth 100000
set_option maxHeartbeats 4000000
/-! Core S of ours: a program by its lists, and what the head tells of it. -/
namespace Wv
open PySem PySem.Spec L2
open PyProof.Rows hiding St

def assoc {α : Type} (x : Str) : List (Str × α) → Option α
  | [] => none
  | p :: l => if p.1 = x then some p.2 else assoc x l
theorem assoc_mem {α : Type} {x : Str} {a : α} : ∀ {l : List (Str × α)}, assoc x l = some a → (x, a) ∈ l
  | [], h => by unfold assoc at h; cases h
  | p :: l, h => by
    unfold assoc at h
    split at h
    · rename_i e
      cases h
      subst e
      exact List.mem_cons_self
    · exact List.mem_cons_of_mem _ (assoc_mem h)
def memS (x : Str) : List Str → Bool
  | [] => false
  | y :: l => if y = x then true else memS x l
theorem memS_mem {x : Str} : ∀ {l : List Str}, memS x l = true → x ∈ l
  | [], h => by unfold memS at h; cases h
  | y :: l, h => by
    unfold memS at h
    split at h
    · rename_i e
      rw [e]
      exact List.mem_cons_self
    · exact List.mem_cons_of_mem _ (memS_mem h)
def exmL (e c : Str) : List (Str × Str × Bool) → Option Bool
  | [] => none
  | p :: l => if p.1 = e ∧ p.2.1 = c then some p.2.2 else exmL e c l
theorem exmL_mem {e c : Str} {b : Bool} : ∀ {l : List (Str × Str × Bool)}, exmL e c l = some b → (e, c, b) ∈ l
  | [], h => by unfold exmL at h; cases h
  | p :: l, h => by
    unfold exmL at h
    split at h
    · rename_i q
      cases h
      obtain ⟨q1, q2⟩ := q
      subst q1 q2
      exact List.mem_cons_self
    · exact List.mem_cons_of_mem _ (exmL_mem h)
def mkPrg (fns : List Fn) (gn fr ex cl : List Str) (em : List (Str × Str × Bool)) (cs : List (Str × W)) : Prg :=
  ⟨fns, fun x => match assoc x cs with
    | some w => some w
    | none => if memS x gn = true then some (.glo x) else none, fun x => memS x fr, fun x => memS x ex, fun x => memS x cl, fun e c => exmL e c em⟩
def mkFa (gn fr ex : List Str) (em : List (Str × Str × Bool)) : List He.Fa := gn.map He.Fa.glo ++ (fr.map He.Fa.free ++ (ex.map He.Fa.exc ++ em.map fun p => He.Fa.exm p.1 p.2.1 p.2.2))
def AllF (p : Fn → Prop) : List Fn → Prop
  | [] => True
  | F :: l => p F ∧ AllF p l
theorem AllF.mem {p : Fn → Prop} : ∀ {l : List Fn}, AllF p l → ∀ F ∈ l, p F
  | [], _, F, h => nomatch h
  | G :: l, a, F, h => by
    rcases List.mem_cons.mp h with e | h
    · rw [e]
      exact a.1
    · exact AllF.mem a.2 F h
/-- the names' ground -/
def gB (K : PySem.W.Frag) : Base := ⟨K, fun x => some (.ref (He.ga K x))⟩
def FnTold (K : PySem.W.Frag) (mg : Str → Option Value) (F : Fn) : Prop := ∃ (fa : Addr) (fd : FuncData) (pa : Arguments) (nm : Str) (dv : List V), mg F.name = some (.ref fa) ∧ (gB K).G F.name = some (.ref fa) ∧ FunD K nm nm pa F.body F.scope dv [] fa fd ∧ BindsW (gB K) fd (F.N.take F.n) F.dw
theorem bindsW_by {K : PySem.W.Frag} {x qual : Str} {params : Arguments} {body : List Stmt} {scope : Scope} {dvs : List V} {f : Addr} {fd : FuncData} {ps : List Str} {dw : List W} (F : FunD K x qual params body scope dvs [] f fd) (hd : dvs ≠ []) (hr : ∀ m H, reps (gB K) m H dw dvs) (hl : dvs.length = dw.length) (hp : dvs.length ≤ ps.length)
    (h : ∀ j, j ≤ dw.length → ∀ (T : Addr) (kV doc pm : Value) (an : Option Addr) (cdv ct : Value) (us its : List Value), us.length = ps.length - (dvs.length - j) → its.length = dvs.length →
      ∃ k, bindArgs (PySem.W.fnOf x qual params body scope (.ref T) kV doc pm an cdv ct) ⟨us, []⟩ = seqItems? (.ref T) >>= k ∧ k (some its.toArray) = pure (ps.zip (us ++ its.drop j))) : BindsW (gB K) fd ps dw := fun j hj => by
  obtain ⟨ds, v, b⟩ := F.binds1 (ps := ps) (ps.length - (dvs.length - j)) j hd (by omega) (h j hj)
  exact ⟨_, ds, fun m H => (hr m H).drop j, v, b⟩
def scAll (fns : List Fn) : Bool := fns.all fun F => C8.scC F.N (F.N.take F.n) F.scope && decide ((F.N.take F.n).length = F.n)
theorem world_of {fns : List Fn} {gn fr ex cl : List Str} {em : List (Str × Str × Bool)} {cs : List (Str × W)} {fn : List He.DefD} {K : PySem.W.Frag} {h base : Heap} {mg : Str → Option Value} {Q : Program} {w : World}
    (X : K.In h) (G : h.Ns mainGlobals mg) (c : He.SaysD (mkFa gn fr ex em) fn K) (more : cs.all (cstB K) = true) (hcl : ∀ x ∈ cl, x ∈ gn) (hex : ∀ x ∈ ex, x ∈ gn) (told : AllF (FnTold K mg) fns) (sc : scAll fns = true) (tree : Q.given.tree = none) (seer : base.NoSeer) :
    World1 (gB K) (mkPrg fns gn fr ex cl em cs) Q w mg base := by
  have glo : ∀ x ∈ gn, mg x = some (.ref (He.ga K x)) := fun x hx => He.glo_ok X G (c.facts (List.mem_append_left _ (List.mem_map.mpr ⟨x, hx, rfl⟩)))
  have fre : ∀ x ∈ fr, mg x = none := fun x hx => He.free_ok X G (c.facts (List.mem_append_right _ (List.mem_append_left _ (List.mem_map.mpr ⟨x, hx, rfl⟩))))
  have exc : ∀ x ∈ ex, (He.Fa.exc x).ok K = true := fun x hx => c.facts (List.mem_append_right _ (List.mem_append_right _ (List.mem_append_left _ (List.mem_map.mpr ⟨x, hx, rfl⟩))))
  have exm : ∀ p ∈ em, (He.Fa.exm p.1 p.2.1 p.2.2).ok K = true := fun p hp => c.facts (List.mem_append_right _ (List.mem_append_right _ (List.mem_append_right _ (List.mem_map.mpr ⟨p, hp, rfl⟩))))
  refine ⟨fun F hF => told.mem F hF, fun F hF => ?_, fun x u hx => ?_, fun x hx => fre x (memS_mem hx), fun x hx => ?_, fun x hx => ?_, fun e d b hb E C hE hC => ?_, seer, tree⟩
  · have z := List.all_eq_true.mp sc F hF
    obtain ⟨z1, z2⟩ := Bool.and_eq_true_iff.mp z
    exact ⟨C8.fnScope_by z1, of_decide_eq_true z2⟩
  · have hx' : (match assoc x cs with
      | some w => some w
      | none => if memS x gn = true then some (W.glo x) else none) = some u := hx
    split at hx'
    · rename_i w' q
      cases hx'
      exact cstB_ok (B := gB K) X G (List.all_eq_true.mp more _ (assoc_mem q))
    · split at hx'
      · rename_i q
        cases hx'
        refine ⟨_, .ref (He.ga K x), glo x (memS_mem q), rfl, fun m H => ?_⟩
        unfold rep
        rfl
      · cases hx'
  · have hx := memS_mem hx
    obtain ⟨a, b, d, e⟩ := He.exc_ok (exc x hx)
    exact ⟨He.ga K x, glo x (hex x hx), rfl, a, b, d, e⟩
  · exact ⟨He.ga K x, rfl, glo x (hcl x (memS_mem hx))⟩
  · cases hE
    cases hC
    exact He.exm_ok (exm _ (exmL_mem hb))
end Wv
end
section
set_option Elab.async false
set_option linter.all false
set_option maxRecDepth 100000
set_option maxHeartbeats 4000000
/-! Core T of ours: tools for the plain part. -/
namespace Wv
open PySem L2

/-! ### the end of a def -/
theorem cutR_same (w : W) (h : Store) : cutR h w h = .ok w h := by
  unfold cutR
  split
  · rw [List.take_length]
  · rfl
theorem keep_app (h t : Store) : keepOk h (h ++ t) := ⟨by simp, fun i o hi e => by
  rw [List.getElem?_append_left hi] at e
  exact .inl e⟩
theorem cutR_app {w : W} {h t : Store} (b : belowW h.length w = true) : cutR h w (h ++ t) = .ok w h := by
  unfold cutR
  rw [if_pos ⟨b, keep_app h t⟩, List.take_left']
  rfl
theorem cutR_of {w : W} {h h1 h2 : Store} (b : belowW h.length w = true) (l : h2.length = h.length) (k : h1.take h.length = h2) (o : ∀ (i : Nat) (x : Ob), h2[i]? = some x → h[i]? = some x ∨ belowO h.length x = true) : cutR h w h1 = .ok w h2 := by
  have hl : h.length ≤ h1.length := by
    have := congrArg List.length k
    rw [List.length_take, l] at this
    omega
  unfold cutR
  rw [if_pos ⟨b, hl, fun i x hi e => o i x (by rw [← k, List.getElem?_take_of_lt hi]; exact e)⟩, k]
theorem cutX_same (e : Exn) (h : Store) : cutX h e h = .exc e h := by
  unfold cutX
  split
  · rw [List.take_length]
  · rfl
theorem cutX_app {e : Exn} {h t : Store} (b : e.fld = none) : cutX h e (h ++ t) = .exc e h := by
  unfold cutX
  rw [if_pos ⟨b, keep_app h t⟩, List.take_left']
  rfl
/-! ### values without names of lists -/
mutual
def flatR : W → Bool
  | .ref _ => false
  | .tup ws => flatRs ws
  | .kls ws => flatRs ws
  | _ => true
def flatRs : List W → Bool
  | [] => true
  | w :: ws => flatR w && flatRs ws
end
mutual
theorem flat_below (n : Nat) : ∀ w : W, flatR w = true → belowW n w = true
  | .non, _ => rfl
  | .bl _, _ => rfl
  | .int _, _ => rfl
  | .str _, _ => rfl
  | .glo _, _ => rfl
  | .ref _, h => by unfold flatR at h; cases h
  | .tup ws, h => by
    unfold flatR at h
    unfold belowW
    exact flats_below n ws h
  | .kls ws, h => by
    unfold flatR at h
    unfold belowW
    exact flats_below n ws h
theorem flats_below (n : Nat) : ∀ ws : List W, flatRs ws = true → belowWs n ws = true
  | [], _ => rfl
  | w :: ws, h => by
    unfold flatRs at h
    obtain ⟨h1, h2⟩ := Bool.and_eq_true_iff.mp h
    unfold belowWs
    rw [flat_below n w h1, flats_below n ws h2]
    rfl
end
theorem flatRs_map {α : Type} {f : α → W} (hf : ∀ a, flatR (f a) = true) : ∀ l : List α, flatRs (l.map f) = true
  | [] => rfl
  | a :: l => by
    rw [List.map_cons]
    unfold flatRs
    rw [hf a, flatRs_map hf l]
    rfl
theorem flatR_tup {α : Type} {f : α → W} (hf : ∀ a, flatR (f a) = true) (l : List α) : flatR (.tup (l.map f)) = true := by
  unfold flatR
  exact flatRs_map hf l
theorem gdOk_nil (h : Store) : gdOk [] h := fun p hp => nomatch hp
theorem gdOk_one {n : Nat} {ws : List W} {h : Store} (e : lst? h n = some ws) : gdOk [(n, ws)] h := fun p hp => by
  rw [List.mem_singleton.mp hp]
  exact e

/-! ### loops -/
theorem forL_inv {g : Gd} {T : Tgt} {body : DenS} (J : List W → Rho → Store → Prop) (hg : ∀ ws ρ h, J ws ρ h → gdOk g h)
    (hs : ∀ w ws ρ h, J (w :: ws) ρ h → ∃ ρ1, T.bind w ρ = some ρ1 ∧ ∃ ρ2 h2, (body ρ1 h = .next ρ2 h2 ∨ body ρ1 h = .cont ρ2 h2) ∧ J ws ρ2 h2) :
    ∀ (ws : List W) (ρ : Rho) (h : Store), J ws ρ h → ∃ ρ2 h2, forL g T body ws ρ h = .next ρ2 h2 ∧ J [] ρ2 h2
  | [], ρ, h, j => ⟨ρ, h, by unfold forL; rw [if_pos (hg _ _ _ j)], j⟩
  | w :: ws, ρ, h, j => by
    obtain ⟨ρ1, e1, ρ2, h2, e2, j2⟩ := hs w ws ρ h j
    obtain ⟨ρ3, h3, e3, j3⟩ := forL_inv J hg hs ws ρ2 h2 j2
    refine ⟨ρ3, h3, ?_, j3⟩
    unfold forL
    rw [if_pos (hg _ _ _ j), e1]
    rcases e2 with e2 | e2
    · dsimp only
      rw [e2]
      exact e3
    · dsimp only
      rw [e2]
      exact e3
theorem compL_inv {g : Gd} {T : Tgt} {tt : DenT} {te : Den} {ρ0 : Rho} (J : List W → List W → Store → Prop) (hg : ∀ ws acc h, J ws acc h → gdOk g h)
    (hs : ∀ w ws acc h, J (w :: ws) acc h → ∃ ρ1, T.bind w ρ0 = some ρ1 ∧ ((∃ h1, tt ρ1 h = .ok false h1 ∧ J ws acc h1) ∨ ∃ h1 v h2, tt ρ1 h = .ok true h1 ∧ te ρ1 h1 = .ok v h2 ∧ acc.length < 16777216 ∧ J ws (acc ++ [v]) h2)) :
    ∀ (ws acc : List W) (h : Store), J ws acc h → ∃ acc2 h2, compL g T tt te ρ0 ws acc h = .ok acc2 h2 ∧ J [] acc2 h2
  | [], acc, h, j => ⟨acc, h, by unfold compL; rw [if_pos (hg _ _ _ j)], j⟩
  | w :: ws, acc, h, j => by
    obtain ⟨ρ1, e1, ⟨h1, e2, j2⟩ | ⟨h1, v, h2, e2, e3, e4, j2⟩⟩ := hs w ws acc h j
    · obtain ⟨a3, h3, e5, j3⟩ := compL_inv J hg hs ws acc h1 j2
      refine ⟨a3, h3, ?_, j3⟩
      unfold compL
      rw [if_pos (hg _ _ _ j), e1]
      dsimp only
      rw [e2]
      exact e5
    · obtain ⟨a3, h3, e5, j3⟩ := compL_inv J hg hs ws (acc ++ [v]) h2 j2
      refine ⟨a3, h3, ?_, j3⟩
      unfold compL
      rw [if_pos (hg _ _ _ j), e1]
      dsimp only
      rw [e2]
      dsimp only
      rw [e3]
      dsimp only
      rw [if_pos e4]
      exact e5
/-- elements that change nothing -/
theorem compL_map {g : Gd} {T : Tgt} {tt : DenT} {te : Den} {ρ0 : Rho} {α : Type} {enc : α → W} {f : α → W} {p : α → Bool} {h : Store} (hg : gdOk g h) : ∀ (xs : List α) (acc : List W), acc.length + xs.length ≤ 16777216 →
    (∀ x ∈ xs, ∃ ρ1, T.bind (enc x) ρ0 = some ρ1 ∧ tt ρ1 h = .ok (p x) h ∧ (p x = true → te ρ1 h = .ok (f x) h)) → compL g T tt te ρ0 (xs.map enc) acc h = .ok (acc ++ (xs.filter p).map f) h
  | [], acc, _, _ => by
    rw [List.map_nil]
    unfold compL
    rw [if_pos hg]
    simp
  | x :: xs, acc, hl, hx => by
    obtain ⟨ρ1, e1, e2, e3⟩ := hx x List.mem_cons_self
    have ih := fun acc hl => compL_map (f := f) (p := p) hg xs acc hl fun y hy => hx y (List.mem_cons_of_mem _ hy)
    rw [List.length_cons] at hl
    rw [List.map_cons]
    unfold compL
    rw [if_pos hg, e1]
    dsimp only
    rw [e2]
    cases q : p x with
    | false =>
      dsimp only
      rw [ih acc (by omega), List.filter_cons_of_neg (by rw [q]; exact Bool.false_ne_true)]
    | true =>
      dsimp only
      rw [e3 q]
      dsimp only
      rw [if_pos (by omega), ih (acc ++ [f x]) (by rw [List.length_append]; simp; omega), List.filter_cons_of_pos q]
      simp
theorem filter_true {α : Type} (xs : List α) : xs.filter (fun _ => true) = xs := List.filter_eq_self.mpr fun _ _ => rfl
/-- while, by a measure -/
theorem whileL_inv {t : DenT} {body : DenS} (J : Nat → Rho → Store → Prop)
    (hs : ∀ n ρ h, J n ρ h → (∃ h1, t ρ h = .ok false h1 ∧ J 0 ρ h1) ∨ (0 < n ∧ ∃ h1 ρ2 h2, t ρ h = .ok true h1 ∧ body ρ h1 = .next ρ2 h2 ∧ J (n - 1) ρ2 h2)) :
    ∀ (n f : Nat) (ρ : Rho) (h : Store), n < f → J n ρ h → ∃ ρ2 h1 h2, whileL t body f ρ h = .next ρ2 h2 ∧ t ρ2 h1 = .ok false h2 ∧ J 0 ρ2 h2
  | n, 0, ρ, h, hf, j => by omega
  | n, f + 1, ρ, h, hf, j => by
    rcases hs n ρ h j with ⟨h1, e1, j1⟩ | ⟨h0, h1, ρ2, h2, e1, e2, j2⟩
    · refine ⟨ρ, h, h1, ?_, e1, j1⟩
      unfold whileL
      rw [e1, Out.th_ok, if_neg Bool.false_ne_true]
    · obtain ⟨ρ3, h3, h4, e3, e4, j3⟩ := whileL_inv J hs (n - 1) f ρ2 h2 (by omega) j2
      refine ⟨ρ3, h3, h4, ?_, e4, j3⟩
      unfold whileL
      rw [e1, Out.th_ok, if_pos rfl, e2]
      exact e3
end Wv
end
section
set_option Elab.async false
set_option linter.all false
set_option maxRecDepth 100000
set_option maxHeartbeats 4000000
/-! Core U of ours: the combinators, applied; a tactic that steps. -/
namespace Wv
open PySem L2
section
variable (f g k : Den) (t t' : DenT) (fa : DenA) (fq : DenQ) (fi : DenI) (fo fo' : DenO) (s s' : DenS) (gg : DenG) (gs : DenGs) (ρ : Rho) (h : Store) (w : W) (op op' : Operator) (c c' : CmpOp) (big : Bool) (call : CallT)
@[simp] theorem a_val : cVal w ρ h = .ok w h := id rfl
@[simp] theorem a_var (i : Nat) : cVar i ρ h = match ρ[i]? with
  | some (some w) => .ok w h
  | _ => .bad := id rfl
@[simp] theorem a_bin : cBin big op f g ρ h = (f ρ h).bind fun x h1 => (g ρ h1).bind fun y h2 => Out.of (opBin big op x y h2) := id rfl
@[simp] theorem a_not : cNot f ρ h = (f ρ h).bind fun x h1 => ofB ((truW h1 x).map (!·)) h1 := id rfl
@[simp] theorem a_neg : cNeg f ρ h = (f ρ h).bind fun x h1 => Out.of (negW x h1) := id rfl
@[simp] theorem a_and : cAnd f g ρ h = (f ρ h).bind fun x h1 => match truW h1 x with
  | some true => g ρ h1
  | some false => .ok x h1
  | none => .bad := id rfl
@[simp] theorem a_or : cOr f g ρ h = (f ρ h).bind fun x h1 => match truW h1 x with
  | some true => .ok x h1
  | some false => g ρ h1
  | none => .bad := id rfl
@[simp] theorem a_cmp : cCmp c f g ρ h = (f ρ h).bind fun x h1 => (g ρ h1).bind fun y h2 => ofB (cmpW c x y h2) h2 := id rfl
@[simp] theorem a_chain : cChain c c' f g k ρ h = (f ρ h).bind fun x h1 => (g ρ h1).bind fun y h2 => match cmpW c x y h2 with
  | some true => (k ρ h2).bind fun z h3 => ofB (cmpW c' y z h3) h3
  | some false => .ok (.bl false) h2
  | none => .bad := id rfl
@[simp] theorem a_if : cIf t f g ρ h = (t ρ h).bind fun b h1 => if b = true then f ρ h1 else g ρ h1 := id rfl
@[simp] theorem a_nil : cNil ρ h = .ok [] h := id rfl
@[simp] theorem a_cons : cCons f fa ρ h = (f ρ h).bind fun x h1 => (fa ρ h1).bind fun xs h2 => .ok (x :: xs) h2 := id rfl
@[simp] theorem a_tup : cTup fa ρ h = (fa ρ h).bind fun xs h1 => if xs.length ≤ 16777216 then .ok (.tup xs) h1 else .bad := id rfl
@[simp] theorem a_ix : cIx f g ρ h = (f ρ h).bind fun x h1 => (g ρ h1).bind fun y h2 => match ixW h2 x y with
  | some w => .ok w h2
  | none => .bad := id rfl
@[simp] theorem a_nopart : cNoPart ρ h = .ok none h := id rfl
@[simp] theorem a_part : cPart f ρ h = (f ρ h).bind fun x h1 => match x with
  | .int i => .ok (some i) h1
  | _ => .bad := id rfl
@[simp] theorem a_sl : cSl f fo fo' ρ h = (f ρ h).bind fun x h1 => (fo ρ h1).bind fun l h2 => (fo' ρ h2).bind fun u h3 => Out.of (slW h3 x l u) := id rfl
@[simp] theorem a_rev : cRev f ρ h = (f ρ h).bind fun w h1 => match w with
  | .tup ws => .ok (.tup ws.reverse) h1
  | _ => .bad := id rfl
@[simp] theorem a_tval : tcVal f ρ h = (f ρ h).bind fun x h1 => ofT (truW h1 x) h1 := id rfl
@[simp] theorem a_tnot : tcNot t ρ h = (t ρ h).bind fun b h1 => .ok (!b) h1 := id rfl
@[simp] theorem a_tand : tcAnd t t' ρ h = (t ρ h).bind fun b h1 => if b = true then t' ρ h1 else .ok false h1 := id rfl
@[simp] theorem a_tor : tcOr t t' ρ h = (t ρ h).bind fun b h1 => if b = true then .ok true h1 else t' ρ h1 := id rfl
@[simp] theorem a_tcmp : tcCmp c f g ρ h = (f ρ h).bind fun x h1 => (g ρ h1).bind fun y h2 => ofT (cmpW c x y h2) h2 := id rfl
@[simp] theorem a_tchain : tcChain c c' f g k ρ h = (f ρ h).bind fun x h1 => (g ρ h1).bind fun y h2 => match cmpW c x y h2 with
  | some true => (k ρ h2).bind fun z h3 => ofT (cmpW c' y z h3) h3
  | some false => .ok false h2
  | none => .bad := id rfl
@[simp] theorem a_true : cTrue ρ h = .ok true h := id rfl
@[simp] theorem a_call (n : Nat) (x : Str) : cCall call n x fa ρ h = (fa ρ h).bind fun ws h1 => cArgs call n x ws h1 := id rfl
@[simp] theorem a_args (n : Nat) (x : Str) (ws : List W) : cArgs call n x ws h = if ws.length = n then call x ws h else .bad := id rfl
@[simp] theorem a_callV (d : Str → Option Nat) (dv : Str → List W) : cCallV call d dv f fa ρ h = (f ρ h).bind fun w h1 => match w with
  | .glo x => (match d x with
    | some n => (fa ρ h1).bind fun ws h2 => cArgsD call n (dv x) x ws h2
    | none => .bad)
  | _ => .bad := id rfl
@[simp] theorem a_callD (n : Nat) (dw : List W) (x : Str) : cCallD call n dw x fa ρ h = (fa ρ h).bind fun ws h1 => cArgsD call n dw x ws h1 := id rfl
@[simp] theorem a_argsD (n : Nat) (dw : List W) (x : Str) (ws : List W) : cArgsD call n dw x ws h = match fill n dw ws with
  | some us => call x us h
  | none => .bad := id rfl
@[simp] theorem a_fill (n : Nat) (dw ws : List W) : fill n dw ws = if ws.length = n then some ws else if ws.length < n ∧ n ≤ ws.length + dw.length then some (ws ++ dw.drop (dw.length + ws.length - n)) else none := id rfl
@[simp] theorem a_rg1 : cRg1 f ρ h = (f ρ h).bind fun w h1 => rgW (rng1 [w]) h1 := id rfl
@[simp] theorem a_rg2 : cRg2 f g ρ h = (f ρ h).bind fun w h1 => (g ρ h1).bind fun u h2 => rgW (rng2 [w, u]) h2 := id rfl
@[simp] theorem a_tupR : cTupR fa ρ h = (fa ρ h).bind fun ws h1 => .ok (.tup ws) h1 := id rfl
@[simp] theorem a_sort : cSort fq ρ h = (fq ρ h).bind fun q h1 => match q.1, intsW q.2 with
  | false, some ns => .ok ((sortI ns).map W.int) h1
  | _, _ => .bad := id rfl
@[simp] theorem a_pop : cPop f g ρ h = (f ρ h).bind fun o h1 => match lstRef h1 o with
  | some n => (g ρ h1).bind fun w h2 => (match own? h2 n, w with
    | some ws, .int i => if 0 ≤ i ∧ i < 1000000000 then (match ws[i.toNat]? with
      | some u => .ok u (h2.set n (.lst (ws.eraseIdx i.toNat)))
      | none => .bad) else .bad
    | _, _ => .bad)
  | none => .bad := id rfl
@[simp] theorem a_q1 (q : Bool → List W → Store → Opt) : cQ1 q fq ρ h = (fq ρ h).bind fun z h1 => Out.of (q z.1 z.2 h1) := id rfl
@[simp] theorem a_v1 (q : W → Store → Opt) : cV1 q f ρ h = (f ρ h).bind fun w h1 => Out.of (q w h1) := id rfl
@[simp] theorem a_v2 (q : W → W → Store → Opt) : cV2 q f g ρ h = (f ρ h).bind fun w h1 => (g ρ h1).bind fun u h2 => Out.of (q w u h2) := id rfl
@[simp] theorem a_isi1 (x : String) : cIsi1 x f ρ h = (f ρ h).bind fun w h1 => match tyW h1 w with
  | some t => ofB (isOne t x) h1
  | none => .bad := id rfl
@[simp] theorem a_isiT (x : List String) : cIsiT x f ρ h = (f ρ h).bind fun w h1 => match tyW h1 w with
  | some t => ofB (isAny t x) h1
  | none => .bad := id rfl
@[simp] theorem a_seqF : cSeqF fa ρ h = (fa ρ h).bind fun ws h1 => .ok (false, ws) h1 := id rfl
@[simp] theorem a_seqV : cSeqV f ρ h = (f ρ h).bind fun w h1 => match seqOf h1 w with
  | some q => .ok q h1
  | none => .bad := id rfl
@[simp] theorem a_itF : cItF fa ρ h = (fa ρ h).bind fun ws h1 => .ok (ws, []) h1 := id rfl
@[simp] theorem a_itV : cItV f ρ h = (f ρ h).bind fun w h1 => match itOf h1 w with
  | some q => .ok q h1
  | none => .bad := id rfl
@[simp] theorem a_itR (r : List W → Option (List W)) : cItR r fa ρ h = (fa ρ h).bind fun ws h1 => match r ws with
  | some xs => .ok (xs, []) h1
  | none => .bad := id rfl
@[simp] theorem a_itS (r : Store → List W → Option (List W × Gd)) : cItS r fa ρ h = (fa ρ h).bind fun ws h1 => match r h1 ws with
  | some q => .ok q h1
  | none => .bad := id rfl
@[simp] theorem a_fresh : cFresh fa ρ h = (fa ρ h).bind fun ws h1 => .ok (.ref h1.length) (h1 ++ [.lst ws]) := id rfl
@[simp] theorem a_lst : cLst fa ρ h = (fa ρ h).bind fun ws h1 => if ws.length ≤ 16777216 then .ok ws h1 else .bad := id rfl
@[simp] theorem a_listQ : cListQ fq ρ h = (fq ρ h).bind fun q h1 => .ok q.2 h1 := id rfl
@[simp] theorem a_comp (vs : List Nat) (T : Tgt) : cComp fi vs T t f ρ h = (fi ρ h).bind fun q h1 => compL q.2 T t f (wipeR ρ vs) q.1 [] h1 := id rfl
@[simp] theorem a_app : cApp f g ρ h = (f ρ h).bind fun o h1 => match lstRef h1 o with
  | some n => (g ρ h1).bind fun w h2 => (match own? h2 n with
    | some ws => if ws.length < 16777216 then .ok .non (h2.set n (.lst (ws ++ [w]))) else .bad
    | none => .bad)
  | none => .bad := id rfl
@[simp] theorem a_seq : sSeq s s' ρ h = (s ρ h).seq s' := id rfl
@[simp] theorem a_skip : sSkip ρ h = .next ρ h := id rfl
@[simp] theorem a_ret : sRet f ρ h = (f ρ h).th ρ fun w h1 => .ret w h1 := id rfl
@[simp] theorem a_retN : sRetN ρ h = .ret .non h := id rfl
@[simp] theorem a_expr : sExpr f ρ h = (f ρ h).th ρ fun _ h1 => .next ρ h1 := id rfl
@[simp] theorem a_sif : sIf t s s' ρ h = (t ρ h).th ρ fun b h1 => if b = true then s ρ h1 else s' ρ h1 := id rfl
@[simp] theorem a_asg : sAsg f gg ρ h = (f ρ h).th ρ fun w h1 => gg w ρ h1 := id rfl
@[simp] theorem a_nm (i : Nat) : gNm i w ρ h = .next (ρ.set i (some w)) h := id rfl
@[simp] theorem a_sx : gSx f g w ρ h = (f ρ h).th ρ fun o h1 => (g ρ h1).th ρ fun i h2 => match o, i with
  | .ref n, .int k => (match own? h2 n with
    | some ws => (match ixN ws.length k with
      | some j => .next ρ (h2.set n (.lst (ws.set j w)))
      | none => .bad)
    | none => .bad)
  | _, _ => .bad := id rfl
@[simp] theorem a_tp (n : Nat) (ws : List W) : gTp n gs (.tup ws) ρ h = if ws.length = n then gs ws ρ h else .bad := id rfl
@[simp] theorem a_gsnil : gsNil [] ρ h = .next ρ h := id rfl
@[simp] theorem a_gscons (ws : List W) : gsCons gg gs (w :: ws) ρ h = (gg w ρ h).seq (gs ws) := id rfl
@[simp] theorem a_par2 (i j : Nat) : sPar2 i j fa ρ h = (fa ρ h).th ρ fun ws h1 => match ws with
  | [v, w] => .next ((ρ.set i (some v)).set j (some w)) h1
  | _ => .bad := id rfl
@[simp] theorem a_par3 (i j l : Nat) : sPar3 i j l fa ρ h = (fa ρ h).th ρ fun ws h1 => match ws with
  | [u, v, w] => .next (((ρ.set i (some u)).set j (some v)).set l (some w)) h1
  | _ => .bad := id rfl
@[simp] theorem a_for (T : Tgt) : sFor fi T s ρ h = (fi ρ h).th ρ fun q h1 => forL q.2 T s q.1 ρ h1 := id rfl
@[simp] theorem a_while : sWhile t s ρ h = whileL t s wFuel ρ h := id rfl
@[simp] theorem a_raise (x : Str) : sRaise x ρ h = .exc ⟨x, none⟩ ρ h := id rfl
@[simp] theorem a_of (w : W) : Out.of (some (w, h)) = .ok w h := id rfl
@[simp] theorem a_ofB (b : Bool) : ofB (some b) h = .ok (.bl b) h := id rfl
@[simp] theorem a_ofT (b : Bool) : ofT (some b) h = .ok b h := id rfl
end
theorem bind_cg {α β : Type} {o o' : Out α} {k : α → Store → Out β} (e : o = o') : o.bind k = o'.bind k := by rw [e]
theorem th_cg {α : Type} {o o' : Out α} {ρ : Rho} {k : α → Store → SO} (e : o = o') : o.th ρ k = o'.th ρ k := by rw [e]
theorem seq_cg {o o' : SO} {g : DenS} (e : o = o') : o.seq g = o'.seq g := by rw [e]
end Wv
end
section
set_option Elab.async false
set_option linter.all false
set_option maxRecDepth 100000
set_option maxHeartbeats 4000000
/-! Core V of ours: values, looked at. -/
namespace Wv
open PySem L2
section
variable (h h1 : Store) (i j : Int) (b c : Bool) (x y : Str) (ws us : List W) (f : Str) (n : Nat) (w : W) (ρ : Rho) (e : Exn) (big : Bool)
@[simp] theorem s_ty_n : tyW h .non = some "NoneType" := id rfl
@[simp] theorem s_ty_b : tyW h (.bl b) = some "bool" := id rfl
@[simp] theorem s_ty_i : tyW h (.int i) = some "int" := id rfl
@[simp] theorem s_ty_s : tyW h (.str x) = some "str" := id rfl
@[simp] theorem s_ty_t : tyW h (.tup ws) = some "tuple" := id rfl
@[simp] theorem s_tr_n : truW h .non = some false := id rfl
@[simp] theorem s_tr_b : truW h (.bl b) = some b := id rfl
@[simp] theorem s_tr_i : truW h (.int i) = some (i != 0) := id rfl
@[simp] theorem s_tr_t : truW h (.tup ws) = some (!ws.isEmpty) := id rfl
@[simp] theorem s_eq_i : cmpW .Eq (.int i) (.int j) h = some (i == j) := id rfl
@[simp] theorem s_ne_i : cmpW .NotEq (.int i) (.int j) h = some (!(i == j)) := id rfl
@[simp] theorem s_eq_b : cmpW .Eq (.bl b) (.bl c) h = some (b == c) := id rfl
@[simp] theorem s_lt : cmpW .Lt (.int i) (.int j) h = some (decide (i < j)) := id rfl
@[simp] theorem s_le : cmpW .LtE (.int i) (.int j) h = some (decide (i ≤ j)) := id rfl
@[simp] theorem s_gt : cmpW .Gt (.int i) (.int j) h = some (decide (j < i)) := id rfl
@[simp] theorem s_ge : cmpW .GtE (.int i) (.int j) h = some (decide (j ≤ i)) := id rfl
@[simp] theorem s_is_n : cmpW .Is .non .non h = some true := id rfl
@[simp] theorem s_is_t : cmpW .Is (.tup ws) .non h = some false := id rfl
@[simp] theorem s_is_i : cmpW .Is (.int i) .non h = some false := id rfl
@[simp] theorem s_is_b : cmpW .Is (.bl b) .non h = some false := id rfl
@[simp] theorem s_is_s : cmpW .Is (.str x) .non h = some false := id rfl
@[simp] theorem s_add : opBin big .Add (.int i) (.int j) h = some (.int (i + j), h) := id rfl
@[simp] theorem s_sub : opBin big .Sub (.int i) (.int j) h = some (.int (i - j), h) := id rfl
@[simp] theorem s_mul : opBin big .Mult (.int i) (.int j) h = if mulOk i j = true then some (.int (i * j), h) else none := id rfl
@[simp] theorem s_div : opBin big .FloorDiv (.int i) (.int j) h = if divOk j = true ∨ (big = true ∧ j ≠ 0) then some (.int (i.fdiv j), h) else none := id rfl
@[simp] theorem s_mod : opBin big .Mod (.int i) (.int j) h = if j ≠ 0 then some (.int (i.fmod j), h) else none := id rfl
@[simp] theorem s_pow : opBin big .Pow (.int i) (.int j) h = if 0 ≤ j ∧ j ≤ 1000000 ∧ i.natAbs < 2 ^ 64 then some (.int (i ^ j.toNat), h) else none := id rfl
@[simp] theorem s_addt : opBin big .Add (.tup ws) (.tup us) h = if ws.length + us.length ≤ 16777216 then some (.tup (ws ++ us), h) else none := id rfl
@[simp] theorem s_neg : negW (.int i) h = some (.int (-i), h) := id rfl
@[simp] theorem s_abs : absV1 (.int i) h = some (.int (if i < 0 then -i else i), h) := id rfl
@[simp] theorem s_int : intV (.int i) h = some (.int i, h) := id rfl
@[simp] theorem s_lent : lenV (.tup ws) h = some (.int ws.length, h) := id rfl
@[simp] theorem s_ixt : ixW h (.tup ws) (.int i) = atI ws i := id rfl
@[simp] theorem s_ix0 : atI (w :: ws) 0 = some w := by
  unfold atI ixN
  simp [show ∀ a : Nat, ¬ ((a : Int) + 1 + 1 ≤ 1) from fun a => by omega, show ∀ a : Nat, ¬ ((a : Int) + 1 + 1 + 1 ≤ 2) from fun a => by omega, show ∀ a : Nat, 1 < ((a : Int) + 1 + 1) from fun a => by omega, show ∀ a : Nat, 2 < ((a : Int) + 1 + 1 + 1) from fun a => by omega]
@[simp] theorem s_ix1 (w' : W) : atI (w' :: w :: ws) 1 = some w := by
  unfold atI ixN
  simp [show ∀ a : Nat, ¬ ((a : Int) + 1 + 1 ≤ 1) from fun a => by omega, show ∀ a : Nat, ¬ ((a : Int) + 1 + 1 + 1 ≤ 2) from fun a => by omega, show ∀ a : Nat, 1 < ((a : Int) + 1 + 1) from fun a => by omega, show ∀ a : Nat, 2 < ((a : Int) + 1 + 1 + 1) from fun a => by omega]
@[simp] theorem s_ix2 (w1 w2 : W) : atI (w1 :: w2 :: w :: ws) 2 = some w := by
  unfold atI ixN
  simp [show ∀ a : Nat, ¬ ((a : Int) + 1 + 1 ≤ 1) from fun a => by omega, show ∀ a : Nat, ¬ ((a : Int) + 1 + 1 + 1 ≤ 2) from fun a => by omega, show ∀ a : Nat, 1 < ((a : Int) + 1 + 1) from fun a => by omega, show ∀ a : Nat, 2 < ((a : Int) + 1 + 1 + 1) from fun a => by omega]
theorem atI_nat {α : Type} {l : List α} {j : Nat} (hj : j < l.length) : atI l (j : Int) = l[j]? := by
  unfold atI ixN
  rw [if_pos (by omega), if_pos (by omega)]
  simp
@[simp] theorem s_isl_f (q : Bool × List W) : Out.of (tupQ b ws h) = .ok (.tup ws) h := id rfl
@[simp] theorem s_len_q : Out.of (lenQ b ws h) = .ok (.int ws.length) h := id rfl
@[simp] theorem f_ret : Wv.finish h (.ret w h1) = cutR h w h1 := id rfl
@[simp] theorem f_next : Wv.finish h (.next ρ h1) = cutR h .non h1 := id rfl
@[simp] theorem f_exc : Wv.finish h (.exc e ρ h1) = cutX h e h1 := id rfl
@[simp] theorem f_bad : Wv.finish h .bad = .bad := id rfl
@[simp] theorem s_sqt : seqOf h (.tup ws) = some (true, ws) := id rfl
@[simp] theorem s_itt : itOf h (.tup ws) = some (ws, []) := id rfl
@[simp] theorem o_NoneType_bool : isOne "NoneType" "bool" = some false := by decide +kernel
@[simp] theorem o_NoneType_int : isOne "NoneType" "int" = some false := by decide +kernel
@[simp] theorem o_NoneType_str : isOne "NoneType" "str" = some false := by decide +kernel
@[simp] theorem o_NoneType_tuple : isOne "NoneType" "tuple" = some false := by decide +kernel
@[simp] theorem o_NoneType_list : isOne "NoneType" "list" = some false := by decide +kernel
@[simp] theorem o_bool_bool : isOne "bool" "bool" = some true := by decide +kernel
@[simp] theorem o_bool_int : isOne "bool" "int" = some true := by decide +kernel
@[simp] theorem o_bool_str : isOne "bool" "str" = some false := by decide +kernel
@[simp] theorem o_bool_tuple : isOne "bool" "tuple" = some false := by decide +kernel
@[simp] theorem o_bool_list : isOne "bool" "list" = some false := by decide +kernel
@[simp] theorem o_int_bool : isOne "int" "bool" = some false := by decide +kernel
@[simp] theorem o_int_int : isOne "int" "int" = some true := by decide +kernel
@[simp] theorem o_int_str : isOne "int" "str" = some false := by decide +kernel
@[simp] theorem o_int_tuple : isOne "int" "tuple" = some false := by decide +kernel
@[simp] theorem o_int_list : isOne "int" "list" = some false := by decide +kernel
@[simp] theorem o_str_bool : isOne "str" "bool" = some false := by decide +kernel
@[simp] theorem o_str_int : isOne "str" "int" = some false := by decide +kernel
@[simp] theorem o_str_str : isOne "str" "str" = some true := by decide +kernel
@[simp] theorem o_str_tuple : isOne "str" "tuple" = some false := by decide +kernel
@[simp] theorem o_str_list : isOne "str" "list" = some false := by decide +kernel
@[simp] theorem o_tuple_bool : isOne "tuple" "bool" = some false := by decide +kernel
@[simp] theorem o_tuple_int : isOne "tuple" "int" = some false := by decide +kernel
@[simp] theorem o_tuple_str : isOne "tuple" "str" = some false := by decide +kernel
@[simp] theorem o_tuple_tuple : isOne "tuple" "tuple" = some true := by decide +kernel
@[simp] theorem o_tuple_list : isOne "tuple" "list" = some false := by decide +kernel
@[simp] theorem o_list_bool : isOne "list" "bool" = some false := by decide +kernel
@[simp] theorem o_list_int : isOne "list" "int" = some false := by decide +kernel
@[simp] theorem o_list_str : isOne "list" "str" = some false := by decide +kernel
@[simp] theorem o_list_tuple : isOne "list" "tuple" = some false := by decide +kernel
@[simp] theorem o_list_list : isOne "list" "list" = some true := by decide +kernel
@[simp] theorem o_dict_bool : isOne "dict" "bool" = some false := by decide +kernel
@[simp] theorem o_dict_int : isOne "dict" "int" = some false := by decide +kernel
@[simp] theorem o_dict_str : isOne "dict" "str" = some false := by decide +kernel
@[simp] theorem o_dict_tuple : isOne "dict" "tuple" = some false := by decide +kernel
@[simp] theorem o_dict_list : isOne "dict" "list" = some false := by decide +kernel
end
end Wv
end
section
set_option Elab.async false
set_option linter.all false
set_option maxRecDepth 100000
set_option maxHeartbeats 4000000
/-! Core X of ours: comprehensions, looked at. -/
namespace Wv
open PySem L2
@[simp] theorem wipe_nil (ρ : Rho) : wipeR ρ [] = ρ := id rfl
@[simp] theorem wipe_cons (ρ : Rho) (v : Nat) (vs : List Nat) : wipeR ρ (v :: vs) = (wipeR ρ vs).set v none := id rfl
@[simp] theorem bind_nm (i : Nat) (w : W) (ρ : Rho) : Tgt.bind (.nm i) w ρ = some (ρ.set i (some w)) := by unfold Tgt.bind; rfl
@[simp] theorem bind_tp2 (i j : Nat) (u w : W) (ρ : Rho) : Tgt.bind (.tp [.nm i, .nm j]) (.tup [u, w]) ρ = some ((ρ.set i (some u)).set j (some w)) := by
  simp [Tgt.bind, Tgt.bindAll]
@[simp] theorem bind_tp3 (i j k : Nat) (u w z : W) (ρ : Rho) : Tgt.bind (.tp [.nm i, .nm j, .nm k]) (.tup [u, w, z]) ρ = some (((ρ.set i (some u)).set j (some w)).set k (some z)) := by
  simp [Tgt.bind, Tgt.bindAll]
theorem comp_map {T : Tgt} {tt : DenT} {te : Den} {ρ0 : Rho} {α : Type} {enc : α → W} {f : α → W} {h : Store} (xs : List α) (hl : xs.length ≤ 16777216)
    (hx : ∀ x ∈ xs, ∃ ρ1, T.bind (enc x) ρ0 = some ρ1 ∧ tt ρ1 h = .ok true h ∧ te ρ1 h = .ok (f x) h) : compL [] T tt te ρ0 (xs.map enc) [] h = .ok (xs.map f) h := by
  rw [compL_map (f := f) (p := fun _ => true) (gdOk_nil h) xs [] (by simpa using hl) fun x hm => by
    obtain ⟨ρ1, a, b, c⟩ := hx x hm
    exact ⟨ρ1, a, b, fun _ => c⟩]
  rw [filter_true]
  rfl
theorem comp_filter {T : Tgt} {tt : DenT} {te : Den} {ρ0 : Rho} {α : Type} {enc : α → W} {f : α → W} {p : α → Bool} {h : Store} (xs : List α) (hl : xs.length ≤ 16777216)
    (hx : ∀ x ∈ xs, ∃ ρ1, T.bind (enc x) ρ0 = some ρ1 ∧ tt ρ1 h = .ok (p x) h ∧ (p x = true → te ρ1 h = .ok (f x) h)) : compL [] T tt te ρ0 (xs.map enc) [] h = .ok ((xs.filter p).map f) h := by
  rw [compL_map (f := f) (p := p) (gdOk_nil h) xs [] (by simpa using hl) hx]
  rfl
/-- over a named list -/
theorem comp_mapG {g : Gd} {T : Tgt} {tt : DenT} {te : Den} {ρ0 : Rho} {α : Type} {enc : α → W} {f : α → W} {h : Store} (hg : gdOk g h) (xs : List α) (hl : xs.length ≤ 16777216)
    (hx : ∀ x ∈ xs, ∃ ρ1, T.bind (enc x) ρ0 = some ρ1 ∧ tt ρ1 h = .ok true h ∧ te ρ1 h = .ok (f x) h) : compL g T tt te ρ0 (xs.map enc) [] h = .ok (xs.map f) h := by
  rw [compL_map (f := f) (p := fun _ => true) hg xs [] (by simpa using hl) fun x hm => by
    obtain ⟨ρ1, a, b, c⟩ := hx x hm
    exact ⟨ρ1, a, b, fun _ => c⟩]
  rw [filter_true]
  rfl
theorem bls_map {α : Type} (f : α → Bool) : ∀ xs : List α, bls (xs.map fun x => .bl (f x)) = some (xs.map f)
  | [] => rfl
  | x :: xs => by
    rw [List.map_cons]
    unfold bls
    rw [bls_map f xs]
    rfl
theorem all_map {α : Type} (f : α → Bool) (xs : List α) (h : Store) : Out.of (allQ false (xs.map fun x => .bl (f x)) h) = .ok (.bl (xs.all f)) h := by
  unfold allQ
  rw [if_neg Bool.false_ne_true, bls_map]
  show Out.ok (W.bl ((xs.map f).all id)) h = _
  rw [List.all_map]
  rfl
theorem atI_map {α : Type} {f : α → W} {l : List α} {j : Nat} {x : α} (e : l[j]? = some x) : atI (l.map f) (j : Int) = some (f x) := by
  have hj : j < l.length := (List.getElem?_eq_some_iff.mp e).1
  rw [atI_nat (by rw [List.length_map]; exact hj), List.getElem?_map, e]
  rfl
/-! ### looking into a store -/
theorem lst_own {h : Store} {n : Nat} {ws : List W} (e : own? h n = some ws) : lst? h n = some ws := by
  exact e
theorem own_app {h t : Store} {n : Nat} {ws : List W} (e : own? h n = some ws) : own? (h ++ t) n = some ws := by
  unfold own? at *
  split at e
  · rename_i xs q
    rw [List.getElem?_append_left (List.getElem?_eq_some_iff.mp q).1, q]
    exact e
  · cases e
theorem own_lt {h : Store} {n : Nat} {ws : List W} (e : own? h n = some ws) : n < h.length := by
  unfold own? at e
  split at e
  · rename_i xs q
    exact (List.getElem?_eq_some_iff.mp q).1
  · cases e
theorem own_new (h : Store) (ws : List W) : own? (h ++ [.lst ws]) h.length = some ws := by
  unfold own?
  simp
theorem own_set {h : Store} {n : Nat} {ws us : List W} (e : own? h n = some us) : own? (h.set n (.lst ws)) n = some ws := by
  unfold own?
  rw [List.getElem?_set_self (own_lt e)]
theorem own_other {h : Store} {n m : Nat} {o : Ob} {ws : List W} (e : own? h m = some ws) (ne : n ≠ m) : own? (h.set n o) m = some ws := by
  unfold own? at *
  rw [List.getElem?_set_ne ne]
  exact e
end Wv
end
section
set_option Elab.async false
set_option linter.all false
set_option maxRecDepth 100000
set_option maxHeartbeats 4000000
/-! Core Y of ours: data compared. -/
namespace Wv
open PySem L2
theorem toPys_map {α : Type} {f : W → Option PyData} {enc : α → W} {d : α → PyData} : ∀ (xs : List α), (∀ x ∈ xs, f (enc x) = some (d x)) → toPys f (xs.map enc) = some (xs.map d)
  | [], _ => rfl
  | x :: xs, h => by
    rw [List.map_cons, List.map_cons]
    unfold toPys
    rw [h x List.mem_cons_self, toPys_map xs fun y hy => h y (List.mem_cons_of_mem _ hy)]
theorem lay_map {α : Type} {d : α → PyData} : ∀ (xs : List α), (∀ x ∈ xs, (d x).canLay0 = true) → PyData.canLayAll0 (xs.map d) = true
  | [], _ => by unfold PyData.canLayAll0; rfl
  | x :: xs, h => by
    rw [List.map_cons]
    unfold PyData.canLayAll0
    rw [h x List.mem_cons_self, lay_map xs fun y hy => h y (List.mem_cons_of_mem _ hy)]
    rfl
theorem depth_map {α : Type} {d : α → PyData} {n : Nat} : ∀ (xs : List α), (∀ x ∈ xs, (d x).depth ≤ n) → PyData.depthAll (xs.map d) ≤ n
  | [], _ => by unfold PyData.depthAll; exact Nat.zero_le _
  | x :: xs, h => by
    rw [List.map_cons]
    unfold PyData.depthAll
    exact Nat.max_le.mpr ⟨h x List.mem_cons_self, depth_map xs fun y hy => h y (List.mem_cons_of_mem _ hy)⟩
theorem eqvAll_map {α : Type} [DecidableEq α] {d : α → PyData} (hd : ∀ x y, PyData.eqv (d x) (d y) = decide (x = y)) : ∀ xs ys : List α, PyData.eqvAll (xs.map d) (ys.map d) = decide (xs = ys)
  | [], [] => by unfold PyData.eqvAll; simp
  | [], _ :: _ => by
    rw [List.map_cons, List.map_nil]
    unfold PyData.eqvAll
    simp
  | _ :: _, [] => by
    rw [List.map_cons, List.map_nil]
    unfold PyData.eqvAll
    simp
  | x :: xs, y :: ys => by
    rw [List.map_cons, List.map_cons]
    unfold PyData.eqvAll
    rw [hd, eqvAll_map hd xs ys]
    simp
theorem eqv_int (i j : Int) : PyData.eqv (.int i) (.int j) = decide (i = j) := by
  unfold PyData.eqv
  by_cases h : i = j <;> simp [h]
theorem shaped_of {d : PyData} (h1 : d.canLay0 = true) (h2 : d.depth ≤ 64) : SeqAt.shaped d = true := by
  unfold SeqAt.shaped
  rw [h1, decide_eq_true h2]
  rfl
theorem pyd_of {h : Store} {w : W} {d : PyData} (e : toPy h 66 w = some d) (h1 : d.canLay0 = true) (h2 : d.depth ≤ 64) : pyd h w = some d := by
  unfold pyd
  rw [e]
  dsimp only
  rw [if_pos (shaped_of h1 h2)]
theorem pyd_int (h : Store) (i : Int) : pyd h (.int i) = some (.int i) := pyd_of (by unfold toPy; rfl) (by unfold PyData.canLay0; rfl) (by unfold PyData.depth; exact Nat.zero_le _)
def nw (i : Nat) : W := .int (i : Int)
def nd (i : Nat) : PyData := .int (i : Int)
theorem pyd_nats {h : Store} {P : Nat} {ps : List Nat} (e : own? h P = some (ps.map nw)) : pyd h (.ref P) = some (.list (ps.map nd)) := by
  refine pyd_of ?_ ?_ ?_
  · unfold toPy
    rw [lst_own e]
    dsimp only
    rw [toPys_map (d := nd) ps fun x _ => by unfold nw toPy; rfl]
    rfl
  · unfold PyData.canLay0
    exact lay_map ps fun x _ => by unfold nd PyData.canLay0; rfl
  · unfold PyData.depth
    exact Nat.succ_le_succ (Nat.le_trans (depth_map (n := 0) ps fun x _ => by unfold nd PyData.depth; exact Nat.le_refl _) (by decide))
theorem in_nats {h : Store} {P j : Nat} {ps : List Nat} (e : own? h P = some (ps.map nw)) : cmpW .In (.int (j : Int)) (.ref P) h = some (decide (j ∈ ps)) := by
  have z : cmpW .In (.int (j : Int)) (.ref P) h = cmpIn (.int (j : Int)) (.ref P) h := by
    unfold cmpW
    rfl
  rw [z]
  unfold cmpIn
  dsimp only
  rw [pyd_int, pyd_nats e]
  dsimp only
  refine congrArg some ?_
  rw [List.any_map]
  refine Bool.eq_iff_iff.mpr ?_
  rw [List.any_eq_true, decide_eq_true_iff]
  constructor
  · rintro ⟨x, hx, q⟩
    simp only [Function.comp, nd, eqv_int, decide_eq_true_eq] at q
    have : x = j := by omega
    rw [← this]
    exact hx
  · intro hj
    exact ⟨j, hj, by simp [nd, eqv_int]⟩
theorem notin_nats {h : Store} {P j : Nat} {ps : List Nat} (e : own? h P = some (ps.map nw)) : cmpW .NotIn (.int (j : Int)) (.ref P) h = some (!decide (j ∈ ps)) := by
  have := in_nats (j := j) e
  have z : cmpW .In (.int (j : Int)) (.ref P) h = cmpIn (.int (j : Int)) (.ref P) h := by
    unfold cmpW
    rfl
  have y : cmpW .NotIn (.int (j : Int)) (.ref P) h = (cmpIn (.int (j : Int)) (.ref P) h).map (!·) := by
    unfold cmpW
    rfl
  rw [y, ← z, this]
  rfl
/-- the place of j among ps -/
def spot (j : Nat) : List Nat → Option Nat
  | [] => none
  | p :: ps => if p = j then some 0 else (spot j ps).map (· + 1)
theorem firstEq_nats (j : Nat) : ∀ ps : List Nat, firstEq (.int (j : Int)) (ps.map nd) = spot j ps
  | [] => rfl
  | p :: ps => by
    rw [List.map_cons]
    unfold firstEq spot
    rw [firstEq_nats j ps]
    by_cases h : p = j
    · rw [if_pos h, if_pos (by simp [nd, eqv_int, h])]
    · rw [if_neg h, if_neg (by simp [nd, eqv_int]; omega)]
theorem spot_mem {j : Nat} : ∀ {ps : List Nat}, j ∈ ps → ∃ i, spot j ps = some i ∧ ps[i]? = some j
  | [], h => nomatch h
  | p :: ps, h => by
    unfold spot
    by_cases e : p = j
    · exact ⟨0, by rw [if_pos e], by rw [e]; rfl⟩
    · have hm : j ∈ ps := by
        rcases List.mem_cons.mp h with q | q
        · exact absurd q.symm e
        · exact q
      obtain ⟨i, a, b⟩ := spot_mem hm
      exact ⟨i + 1, by rw [if_neg e, a]; rfl, b⟩
end Wv
end
section
set_option Elab.async false
set_option linter.all false
set_option maxRecDepth 100000
set_option maxHeartbeats 4000000
/-! Core Z of ours: loops that fold. -/
namespace Wv
open PySem L2
theorem forL_fold {g : Gd} {T : Tgt} {body : DenS} {α σ : Type} {enc : α → W} {st : σ → Store} {Sh : Rho → Prop} {Iv : σ → Prop} {f : σ → α → σ} (hg : ∀ s, Iv s → gdOk g (st s)) :
    ∀ (xs : List α) (s : σ) (ρ : Rho), (∀ a ∈ xs, ∀ s ρ, Iv s → Sh ρ → ∃ ρ1, T.bind (enc a) ρ = some ρ1 ∧ ∃ ρ2, body ρ1 (st s) = .next ρ2 (st (f s a)) ∧ Sh ρ2 ∧ Iv (f s a)) → Iv s → Sh ρ →
      ∃ ρ2, forL g T body (xs.map enc) ρ (st s) = .next ρ2 (st (xs.foldl f s)) ∧ Sh ρ2 ∧ Iv (xs.foldl f s)
  | [], s, ρ, _, i, h => ⟨ρ, by
    rw [List.map_nil]
    unfold forL
    rw [if_pos (hg s i)]
    rfl, h, i⟩
  | x :: xs, s, ρ, hx, i, h => by
    obtain ⟨ρ1, e1, ρ2, e2, h2, i2⟩ := hx x List.mem_cons_self s ρ i h
    obtain ⟨ρ3, e3, h3, i3⟩ := forL_fold hg xs (f s x) ρ2 (fun a ha => hx a (List.mem_cons_of_mem _ ha)) i2 h2
    refine ⟨ρ3, ?_, h3, i3⟩
    rw [List.map_cons]
    unfold forL
    rw [if_pos (hg s i), e1]
    dsimp only
    rw [e2]
    exact e3
theorem set_same {h : Store} {n : Nat} {ws : List W} (e : own? h n = some ws) : h.set n (.lst ws) = h := by
  unfold own? at e
  split at e
  · rename_i xs q
    cases e
    refine List.ext_getElem? fun i => ?_
    by_cases hi : n = i
    · subst hi
      rw [List.getElem?_set_self (List.getElem?_eq_some_iff.mp q).1, q]
    · rw [List.getElem?_set_ne hi]
  · cases e
/-- two sequences walked together -/
theorem zipW_two {α β : Type} (f : α → W) (g : β → W) : ∀ (xs : List α) (ys : List β), zipW (xs.map f) (ys.map g) = (List.zip xs ys).map fun p => .tup [f p.1, g p.2]
  | [], ys => by simp [zipW]
  | x :: xs, [] => by simp [zipW]
  | x :: xs, y :: ys => by simp [zipW, zipW_two f g xs ys]
theorem gdOk_two {n k : Nat} {ws us : List W} {h : Store} (e : lst? h n = some ws) (e2 : lst? h k = some us) : gdOk [(n, ws), (k, us)] h := fun p hp => by
  rcases List.mem_cons.mp hp with q | hp
  · rw [q]
    exact e
  · rw [List.mem_singleton.mp hp]
    exact e2
theorem lst_of_own {h : Store} {n : Nat} {ws : List W} (e : own? h n = some ws) : itOf h (.ref n) = some (ws, [(n, ws)]) ∧ seqOf h (.ref n) = some (false, ws) ∧ lenV (.ref n) h = some (.int (ws.length : Int), h) ∧ lstRef h (.ref n) = some n ∧ ∀ i, ixW h (.ref n) (.int i) = atI ws i := by
  have l := lst_own e
  refine ⟨?_, ?_, ?_, ?_, fun i => ?_⟩
  · show (lst? h n).map _ = _
    rw [l]
    rfl
  · show (lst? h n).map _ = _
    rw [l]
    rfl
  · show (lst? h n).map _ = _
    rw [l]
    rfl
  · show (lst? h n).map _ = _
    rw [l]
    rfl
  · show (match lst? h n with
      | some ws => atI ws i
      | none => none) = _
    rw [l]
@[simp] theorem s_tupq (b : Bool) (ws : List W) (h : Store) : Out.of (tupQ b ws h) = .ok (.tup ws) h := id rfl
@[simp] theorem s_lenq (b : Bool) (ws : List W) (h : Store) : Out.of (lenQ b ws h) = .ok (.int ws.length) h := id rfl
theorem ixN_at {n j : Nat} (hj : j < n) : ixN n (j : Int) = some j := by
  unfold ixN
  rw [if_pos (by omega), if_pos (by omega)]
  simp
end Wv
end
section
set_option Elab.async false
set_option linter.all false
set_option maxRecDepth 100000
set_option maxHeartbeats 0
namespace K01
open PySem PySem.Spec PyProof.Rows L2
abbrev pr : Program := PySem.Challenge.pw_wireroads_k01_whole_tables_and_their_par
def top (i : Nat) : Stmt := pr.main.body.getD i (.Pass ⟨0, 0, 0, 0⟩)
def dd (x nm : Str) (i : Nat) (dv : List He.Dv) : He.DefD := ⟨(x, none), nm, nm, defArgs (top i), defBody (top i), defScope (top i), dv, []⟩
def fn : List He.DefD := [dd "is_integer" "is_integer" 5 [], dd "greatest_common" "greatest_common" 6 [], dd "lowest_whole" "lowest" 7 [], dd "is_ratio" "is_ratio" 9 [], dd "ratio_sum" "ratio_sum" 10 [], dd "ratio_less" "ratio_less" 11 [], dd "ratio_product" "ratio_product" 12 [], dd "check_number" "check_number" 18 [], dd "is_any_table" "is_any_table" 19 [], dd "width_of" "width_of" 20 [], dd "is_table" "is_table" 21 [.non, .non], dd "check_table" "check_table" 22 [], dd "check_square" "check_square" 23 [], dd "check_alike" "check_alike" 24 [], dd "unit_of" "unit_of" 25 [], dd "unit_table" "unit_table" 26 [], dd "table_sum" "table_sum" 27 [], dd "table_less" "table_less" 28 [], dd "table_scaled" "table_scaled" 29 [], dd "common_multiple" "common_multiple" 30 [], dd "whole_row" "whole_row" 31 [], dd "lowest" "lowest" 32 [], dd "lowest_tables" "lowest" 32 [], dd "turned" "turned" 34 [], dd "multiplied" "multiplied" 35 [], dd "table_product" "table_product" 36 [], dd "table_power" "table_power" 37 [], dd "table_turned" "table_turned" 38 [], dd "is_choice" "is_choice" 39 [], dd "check_choices" "check_choices" 40 []] ++ [dd "part_of" "part_of" 41 [], dd "table_part" "table_part" 42 [], dd "_law_state" "_law_state" 44 [], dd "_law_take" "_law_take" 45 [], dd "_law_same" "_law_same" 46 [], dd "_law_told" "_law_told" 47 [], dd "_law_is_told" "_law_is_told" 48 [], dd "_law_is_raised" "_law_is_raised" 49 [], dd "_law_tells" "_law_tells" 50 [], dd "_law_raises" "_law_raises" 51 [], dd "_law_frac" "_law_frac" 52 [], dd "_law_add" "_law_add" 53 [], dd "_law_less" "_law_less" 54 [], dd "_law_mul" "_law_mul" 55 [], dd "_law_total" "_law_total" 56 [], dd "_law_times" "_law_times" 57 [], dd "_law_dot" "_law_dot" 58 [], dd "_law_drawn" "_law_drawn" 59 [], dd "_law_pick" "_law_pick" 60 [], dd "_law_table" "_law_table" 61 [], dd "_law_width" "_law_width" 62 [], dd "_law_product" "_law_product" 63 [], dd "_law_unit" "_law_unit" 64 [], dd "_law_item_is" "_law_item_is" 65 [], dd "_law_is" "_law_is" 66 [], dd "_law_values" "_law_values" 67 [], dd "_law_forms_hold" "_law_forms_hold" 68 [], dd "_law_is_choice" "_law_is_choice" 69 [], dd "_law_parts_hold" "_law_parts_hold" 70 [], dd "_law_wide_holds" "_law_wide_holds" 71 []] ++ [dd "law" "law" 72 []]
def gnames : List Str := (["is_integer", "greatest_common", "lowest_whole", "is_ratio", "ratio_sum", "ratio_less", "ratio_product", "check_number", "is_any_table", "width_of", "is_table", "check_table", "check_square", "check_alike", "unit_of", "unit_table", "table_sum", "table_less", "table_scaled", "common_multiple", "whole_row", "lowest", "lowest_tables", "turned", "multiplied", "table_product", "table_power", "table_turned", "is_choice", "check_choices"] : List Str) ++ (["part_of", "table_part", "_law_state", "_law_take", "_law_same", "_law_told", "_law_is_told", "_law_is_raised", "_law_tells", "_law_raises", "_law_frac", "_law_add", "_law_less", "_law_mul", "_law_total", "_law_times", "_law_dot", "_law_drawn", "_law_pick", "_law_table", "_law_width", "_law_product", "_law_unit", "_law_item_is", "_law_is", "_law_values", "_law_forms_hold", "_law_is_choice", "_law_parts_hold", "_law_wide_holds"] : List Str) ++ (["law", "Fault", "Malformed", "Refused"] : List Str)
def frees : List Str := (["abs", "all", "any", "bool", "int", "isinstance", "len", "list", "max", "range", "sorted", "str", "sum", "tuple", "zip"] : List Str)
def excs : List Str := (["Fault", "Malformed"] : List Str)
def clss : List Str := (["Fault", "Malformed", "Refused"] : List Str)
def exms : List (Str × Str × Bool) := [("Fault", "Fault", true), ("Fault", "Malformed", false), ("Fault", "Refused", false), ("Malformed", "Fault", true), ("Malformed", "Malformed", true), ("Malformed", "Refused", false), ("Refused", "Fault", true), ("Refused", "Malformed", false), ("Refused", "Refused", true)]
def fa : List He.Fa := Wv.mkFa gnames frees excs exms
def loose : List Str := (["Fault", "Malformed", "Refused", "is_integer", "greatest_common", "lowest", "lowest_whole", "is_ratio", "ratio_sum", "ratio_less", "ratio_product", "MOST_ROWS", "MOST_POWER", "ZERO", "ONE", "check_number", "is_any_table", "width_of", "is_table", "check_table", "check_square", "check_alike", "unit_of", "unit_table", "table_sum", "table_less", "table_scaled", "common_multiple", "whole_row", "lowest_tables"] : List Str) ++ (["turned", "multiplied", "table_product", "table_power", "table_turned", "is_choice", "check_choices", "part_of", "table_part", "_law_state", "_law_take", "_law_same", "_law_told", "_law_is_told", "_law_is_raised", "_law_tells", "_law_raises", "_law_frac", "_law_add", "_law_less", "_law_mul", "_law_total", "_law_times", "_law_dot", "_law_drawn", "_law_pick", "_law_table", "_law_width", "_law_product", "_law_unit"] : List Str) ++ (["_law_item_is", "_law_is", "_law_values", "_law_forms_hold", "_law_is_choice", "_law_parts_hold", "_law_wide_holds"] : List Str)
abbrev R : PySem.W.OpenRow := PySem.W.OpenLaw.row PySem.Challenge.rw_wireroads_k01_whole_tables_and_their_par
abbrev qv : Program := PySem.W.view R.prog [72]
def csl : List (Str × Wv.W) := [("MOST_ROWS", (.int 40)), ("MOST_POWER", (.int 60)), ("ZERO", (.tup [(.int 0), (.int 1)])), ("ONE", (.tup [(.int 1), (.int 1)]))]
def ex (K : PySem.W.Frag) : Bool := csl.all (Wv.cstB K)
abbrev hk : PySem.W.Hook := He.hookX 4 fa fn [] [] ex
def ob (s : PySem.W.SharedT) : He.AlX := He.obsX 4 fa fn [] [] ex (HandSHeadRun.getT s)
theorem ob_eq (s : PySem.W.SharedT) : ob s = hk.obs s.abs := He.obsX_eq (HandSHeadRun.getT_eq s)
theorem run (w : World) : HandSHeadRun.RunEq R qv hk ob 5000 loose w := by
  intro os
  kernel_rfl
end K01
end
section
set_option Elab.async false
set_option linter.all false
set_option maxRecDepth 100000
set_option maxHeartbeats 0
namespace K01
open PySem PySem.Spec Wv L2
def fns : List Fn := ([⟨"is_integer", 1, ["value"], defScope (top 5), defBody (top 5), []⟩, ⟨"greatest_common", 2, ["a", "b"], defScope (top 6), defBody (top 6), []⟩, ⟨"lowest_whole", 2, ["n", "d", "g"], defScope (top 7), defBody (top 7), []⟩, ⟨"is_ratio", 1, ["value"], defScope (top 9), defBody (top 9), []⟩, ⟨"ratio_sum", 2, ["a", "b"], defScope (top 10), defBody (top 10), []⟩, ⟨"ratio_less", 2, ["a", "b"], defScope (top 11), defBody (top 11), []⟩, ⟨"ratio_product", 2, ["a", "b"], defScope (top 12), defBody (top 12), []⟩, ⟨"check_number", 2, ["value", "most"], defScope (top 18), defBody (top 18), []⟩] : List Fn) ++
  ([⟨"is_any_table", 1, ["value", "row", "item"], defScope (top 19), defBody (top 19), []⟩, ⟨"width_of", 1, ["T"], defScope (top 20), defBody (top 20), []⟩, ⟨"is_table", 3, ["value", "rows", "columns", "many"], defScope (top 21), defBody (top 21), [.non, .non]⟩, ⟨"check_table", 1, ["T"], defScope (top 22), defBody (top 22), []⟩, ⟨"check_square", 1, ["T"], defScope (top 23), defBody (top 23), []⟩, ⟨"check_alike", 2, ["S", "T"], defScope (top 24), defBody (top 24), []⟩, ⟨"unit_of", 1, ["n", "i", "j"], defScope (top 25), defBody (top 25), []⟩, ⟨"unit_table", 1, ["n"], defScope (top 26), defBody (top 26), []⟩] : List Fn) ++
  ([⟨"table_sum", 2, ["S", "T", "s", "t", "a", "b"], defScope (top 27), defBody (top 27), []⟩, ⟨"table_less", 2, ["S", "T", "s", "t", "a", "b"], defScope (top 28), defBody (top 28), []⟩, ⟨"table_scaled", 2, ["T", "c", "row", "a"], defScope (top 29), defBody (top 29), []⟩, ⟨"common_multiple", 1, ["row", "found", "item"], defScope (top 30), defBody (top 30), []⟩, ⟨"whole_row", 1, ["row", "d", "item"], defScope (top 31), defBody (top 31), []⟩, ⟨"lowest", 2, ["n", "d", "g"], defScope (top 32), defBody (top 32), []⟩, ⟨"lowest_tables", 2, ["n", "d", "g"], defScope (top 32), defBody (top 32), []⟩, ⟨"turned", 1, ["T", "j", "row"], defScope (top 34), defBody (top 34), []⟩] : List Fn) ++
  ([⟨"multiplied", 2, ["S", "T", "rows", "columns", "row", "column", "d", "e", "a", "b"], defScope (top 35), defBody (top 35), []⟩, ⟨"table_product", 2, ["S", "T"], defScope (top 36), defBody (top 36), []⟩, ⟨"table_power", 2, ["T", "e", "found", "_"], defScope (top 37), defBody (top 37), []⟩, ⟨"table_turned", 1, ["T"], defScope (top 38), defBody (top 38), []⟩, ⟨"is_choice", 2, ["value", "n", "a", "b", "x"], defScope (top 39), defBody (top 39), []⟩, ⟨"check_choices", 3, ["T", "rows", "columns"], defScope (top 40), defBody (top 40), []⟩, ⟨"part_of", 3, ["T", "rows", "columns", "i", "j"], defScope (top 41), defBody (top 41), []⟩, ⟨"table_part", 3, ["T", "rows", "columns"], defScope (top 42), defBody (top 42), []⟩] : List Fn) ++
  ([⟨"_law_state", 1, ["script", "seed", "total", "cell"], defScope (top 44), defBody (top 44), []⟩, ⟨"_law_take", 2, ["state", "m", "value"], defScope (top 45), defBody (top 45), []⟩, ⟨"_law_same", 2, ["value", "due", "k"], defScope (top 46), defBody (top 46), []⟩, ⟨"_law_told", 2, ["f", "given", "error"], defScope (top 47), defBody (top 47), []⟩, ⟨"_law_is_told", 2, ["pair", "due"], defScope (top 48), defBody (top 48), []⟩, ⟨"_law_is_raised", 2, ["pair", "reason"], defScope (top 49), defBody (top 49), []⟩, ⟨"_law_tells", 3, ["f", "given", "due"], defScope (top 50), defBody (top 50), []⟩, ⟨"_law_raises", 3, ["f", "given", "reason"], defScope (top 51), defBody (top 51), []⟩] : List Fn) ++
  ([⟨"_law_frac", 2, ["n", "d", "a", "b"], defScope (top 52), defBody (top 52), []⟩, ⟨"_law_add", 2, ["x", "y"], defScope (top 53), defBody (top 53), []⟩, ⟨"_law_less", 2, ["x", "y"], defScope (top 54), defBody (top 54), []⟩, ⟨"_law_mul", 2, ["x", "y"], defScope (top 55), defBody (top 55), []⟩, ⟨"_law_total", 1, ["items", "found", "x"], defScope (top 56), defBody (top 56), []⟩, ⟨"_law_times", 1, ["items", "found", "x"], defScope (top 57), defBody (top 57), []⟩, ⟨"_law_dot", 2, ["one", "two", "k"], defScope (top 58), defBody (top 58), []⟩, ⟨"_law_drawn", 1, ["state"], defScope (top 59), defBody (top 59), []⟩] : List Fn) ++
  ([⟨"_law_pick", 3, ["state", "n", "k", "left", "found", "t"], defScope (top 60), defBody (top 60), []⟩, ⟨"_law_table", 3, ["state", "p", "q", "rows", "i", "j"], defScope (top 61), defBody (top 61), []⟩, ⟨"_law_width", 1, ["T"], defScope (top 62), defBody (top 62), []⟩, ⟨"_law_product", 2, ["S", "T", "row", "j", "line"], defScope (top 63), defBody (top 63), []⟩, ⟨"_law_unit", 1, ["n", "i", "j"], defScope (top 64), defBody (top 64), []⟩, ⟨"_law_item_is", 1, ["x", "n"], defScope (top 65), defBody (top 65), []⟩, ⟨"_law_is", 1, ["value", "row", "x"], defScope (top 66), defBody (top 66), []⟩, ⟨"_law_values", 1, ["T", "row", "one", "found"], defScope (top 67), defBody (top 67), []⟩] : List Fn) ++
  ([⟨"_law_forms_hold", 2, ["state", "T", "p", "q", "value", "due", "high", "wide", "rows", "columns", "fits", "asked", "bad", "square", "f", "given"], defScope (top 68), defBody (top 68), []⟩, ⟨"_law_is_choice", 2, ["value", "n", "x", "k"], defScope (top 69), defBody (top 69), []⟩, ⟨"_law_parts_hold", 2, ["state", "T", "p", "q", "rows", "columns", "I", "J", "due", "i", "j"], defScope (top 70), defBody (top 70), []⟩, ⟨"_law_wide_holds", 1, ["state", "p", "q", "r", "S", "T", "n", "a", "e", "turn", "power", "jump", "top", "due", "i", "row", "j", "x"], defScope (top 71), defBody (top 71), []⟩, ⟨"law", 1, ["script", "state", "p", "q", "r", "S", "T", "V", "c", "Q", "found", "e", "f", "given", "i", "row", "j", "x"], defScope (top 72), defBody (top 72), []⟩] : List Fn)
def prg : Prg := mkPrg fns gnames frees excs clss exms csl
def dfs : Str → Option Nat := fun f => (findF f prg.fns).map (·.n)
def dvs : Str → List W := fun f => match findF f prg.fns with
  | some G => G.dw
  | none => []
noncomputable def b_is_integer (call : CallT) (big : Bool) : DenS :=
    (sSeq (sRet (cAnd (cIsi1 "int" (cVar 0)) (cNot (cIsi1 "bool" (cVar 0)))))
    sSkip)
theorem e_is_integer (k : Nat) (call : CallT) : bodyOf prg ⟨"is_integer", 1, ["value"], defScope (top 5), defBody (top 5), []⟩ k call = b_is_integer call (decide (32 ≤ k)) := by kernel_rfl
theorem k_is_integer (k : Nat) (ws : List W) (h : Store) : callK prg (k + 1) "is_integer" ws h = if ws.length = 1 then finish h (b_is_integer (callK prg k) (decide (32 ≤ k)) (startR ["value"] ws) h) else .bad := by
  rw [← e_is_integer]
  rfl
noncomputable def b_greatest_common (call : CallT) (big : Bool) : DenS :=
    (sSeq (sPar2 0 1 (cCons (cV1 absV1 (cVar 0)) (cCons (cV1 absV1 (cVar 1)) cNil)))
    (sSeq (sWhile (tcCmp .NotEq (cVar 1) (cVal (.int 0))) (sSeq (sPar2 0 1 (cCons (cVar 1) (cCons (cBin big .Mod (cVar 0) (cVar 1)) cNil)))
    sSkip))
    (sSeq (sRet (cVar 0))
    sSkip)))
theorem e_greatest_common (k : Nat) (call : CallT) : bodyOf prg ⟨"greatest_common", 2, ["a", "b"], defScope (top 6), defBody (top 6), []⟩ k call = b_greatest_common call (decide (32 ≤ k)) := by kernel_rfl
theorem k_greatest_common (k : Nat) (ws : List W) (h : Store) : callK prg (k + 1) "greatest_common" ws h = if ws.length = 2 then finish h (b_greatest_common (callK prg k) (decide (32 ≤ k)) (startR ["a", "b"] ws) h) else .bad := by
  rw [← e_greatest_common]
  rfl
noncomputable def b_lowest_whole (call : CallT) (big : Bool) : DenS :=
    (sSeq (sAsg (cCall call 2 "greatest_common" (cCons (cVar 0) (cCons (cVar 1) cNil))) (gNm 2))
    (sSeq (sIf (tcCmp .Lt (cVar 1) (cVal (.int 0))) (sSeq (sAsg (cNeg (cVar 2)) (gNm 2))
    sSkip) sSkip)
    (sSeq (sRet (cTup (cCons (cBin big .FloorDiv (cVar 0) (cVar 2)) (cCons (cBin big .FloorDiv (cVar 1) (cVar 2)) cNil))))
    sSkip)))
theorem e_lowest_whole (k : Nat) (call : CallT) : bodyOf prg ⟨"lowest_whole", 2, ["n", "d", "g"], defScope (top 7), defBody (top 7), []⟩ k call = b_lowest_whole call (decide (32 ≤ k)) := by kernel_rfl
theorem k_lowest_whole (k : Nat) (ws : List W) (h : Store) : callK prg (k + 1) "lowest_whole" ws h = if ws.length = 2 then finish h (b_lowest_whole (callK prg k) (decide (32 ≤ k)) (startR ["n", "d", "g"] ws) h) else .bad := by
  rw [← e_lowest_whole]
  rfl
noncomputable def b_is_ratio (call : CallT) (big : Bool) : DenS :=
    (sSeq (sIf (tcOr (tcNot (tcVal (cIsi1 "tuple" (cVar 0)))) (tcOr (tcCmp .NotEq (cV1 lenV (cVar 0)) (cVal (.int 2))) (tcOr (tcNot (tcVal (cCall call 1 "is_integer" (cCons (cIx (cVar 0) (cVal (.int 0))) cNil)))) (tcNot (tcVal (cCall call 1 "is_integer" (cCons (cIx (cVar 0) (cVal (.int 1))) cNil))))))) (sSeq (sRet (cVal (.bl false)))
    sSkip) sSkip)
    (sSeq (sRet (cAnd (cCmp .Gt (cIx (cVar 0) (cVal (.int 1))) (cVal (.int 0))) (cCmp .Eq (cCall call 2 "greatest_common" (cCons (cIx (cVar 0) (cVal (.int 0))) (cCons (cIx (cVar 0) (cVal (.int 1))) cNil))) (cVal (.int 1)))))
    sSkip))
theorem e_is_ratio (k : Nat) (call : CallT) : bodyOf prg ⟨"is_ratio", 1, ["value"], defScope (top 9), defBody (top 9), []⟩ k call = b_is_ratio call (decide (32 ≤ k)) := by kernel_rfl
theorem k_is_ratio (k : Nat) (ws : List W) (h : Store) : callK prg (k + 1) "is_ratio" ws h = if ws.length = 1 then finish h (b_is_ratio (callK prg k) (decide (32 ≤ k)) (startR ["value"] ws) h) else .bad := by
  rw [← e_is_ratio]
  rfl
noncomputable def b_ratio_sum (call : CallT) (big : Bool) : DenS :=
    (sSeq (sRet (cCall call 2 "lowest_whole" (cCons (cBin big .Add (cBin big .Mult (cIx (cVar 0) (cVal (.int 0))) (cIx (cVar 1) (cVal (.int 1)))) (cBin big .Mult (cIx (cVar 1) (cVal (.int 0))) (cIx (cVar 0) (cVal (.int 1))))) (cCons (cBin big .Mult (cIx (cVar 0) (cVal (.int 1))) (cIx (cVar 1) (cVal (.int 1)))) cNil))))
    sSkip)
theorem e_ratio_sum (k : Nat) (call : CallT) : bodyOf prg ⟨"ratio_sum", 2, ["a", "b"], defScope (top 10), defBody (top 10), []⟩ k call = b_ratio_sum call (decide (32 ≤ k)) := by kernel_rfl
theorem k_ratio_sum (k : Nat) (ws : List W) (h : Store) : callK prg (k + 1) "ratio_sum" ws h = if ws.length = 2 then finish h (b_ratio_sum (callK prg k) (decide (32 ≤ k)) (startR ["a", "b"] ws) h) else .bad := by
  rw [← e_ratio_sum]
  rfl
noncomputable def b_ratio_less (call : CallT) (big : Bool) : DenS :=
    (sSeq (sRet (cCall call 2 "lowest_whole" (cCons (cBin big .Sub (cBin big .Mult (cIx (cVar 0) (cVal (.int 0))) (cIx (cVar 1) (cVal (.int 1)))) (cBin big .Mult (cIx (cVar 1) (cVal (.int 0))) (cIx (cVar 0) (cVal (.int 1))))) (cCons (cBin big .Mult (cIx (cVar 0) (cVal (.int 1))) (cIx (cVar 1) (cVal (.int 1)))) cNil))))
    sSkip)
theorem e_ratio_less (k : Nat) (call : CallT) : bodyOf prg ⟨"ratio_less", 2, ["a", "b"], defScope (top 11), defBody (top 11), []⟩ k call = b_ratio_less call (decide (32 ≤ k)) := by kernel_rfl
theorem k_ratio_less (k : Nat) (ws : List W) (h : Store) : callK prg (k + 1) "ratio_less" ws h = if ws.length = 2 then finish h (b_ratio_less (callK prg k) (decide (32 ≤ k)) (startR ["a", "b"] ws) h) else .bad := by
  rw [← e_ratio_less]
  rfl
noncomputable def b_ratio_product (call : CallT) (big : Bool) : DenS :=
    (sSeq (sRet (cCall call 2 "lowest_whole" (cCons (cBin big .Mult (cIx (cVar 0) (cVal (.int 0))) (cIx (cVar 1) (cVal (.int 0)))) (cCons (cBin big .Mult (cIx (cVar 0) (cVal (.int 1))) (cIx (cVar 1) (cVal (.int 1)))) cNil))))
    sSkip)
theorem e_ratio_product (k : Nat) (call : CallT) : bodyOf prg ⟨"ratio_product", 2, ["a", "b"], defScope (top 12), defBody (top 12), []⟩ k call = b_ratio_product call (decide (32 ≤ k)) := by kernel_rfl
theorem k_ratio_product (k : Nat) (ws : List W) (h : Store) : callK prg (k + 1) "ratio_product" ws h = if ws.length = 2 then finish h (b_ratio_product (callK prg k) (decide (32 ≤ k)) (startR ["a", "b"] ws) h) else .bad := by
  rw [← e_ratio_product]
  rfl
noncomputable def b_check_number (call : CallT) (big : Bool) : DenS :=
    (sSeq (sIf (tcOr (tcNot (tcVal (cCall call 1 "is_integer" (cCons (cVar 0) cNil)))) (tcNot (tcChain .LtE .LtE (cVal (.int 0)) (cVar 0) (cVar 1)))) (sSeq (sRaise "Malformed")
    sSkip) sSkip)
    sSkip)
theorem e_check_number (k : Nat) (call : CallT) : bodyOf prg ⟨"check_number", 2, ["value", "most"], defScope (top 18), defBody (top 18), []⟩ k call = b_check_number call (decide (32 ≤ k)) := by kernel_rfl
theorem k_check_number (k : Nat) (ws : List W) (h : Store) : callK prg (k + 1) "check_number" ws h = if ws.length = 2 then finish h (b_check_number (callK prg k) (decide (32 ≤ k)) (startR ["value", "most"] ws) h) else .bad := by
  rw [← e_check_number]
  rfl
noncomputable def b_is_any_table (call : CallT) (big : Bool) : DenS :=
    (sSeq (sIf (tcOr (tcNot (tcVal (cIsi1 "tuple" (cVar 0)))) (tcCmp .Gt (cV1 lenV (cVar 0)) (cVal (.int 40)))) (sSeq (sRet (cVal (.bl false)))
    sSkip) sSkip)
    (sSeq (sIf (tcNot (tcVal (cQ1 allQ (cSeqF (cComp (cItV (cVar 0)) [1] (.nm 1) cTrue (cAnd (cIsi1 "tuple" (cVar 1)) (cChain .LtE .LtE (cVal (.int 1)) (cV1 lenV (cVar 1)) (cVal (.int 40))))))))) (sSeq (sRet (cVal (.bl false)))
    sSkip) sSkip)
    (sSeq (sRet (cQ1 allQ (cSeqF (cComp (cItV (cVar 0)) [1] (.nm 1) cTrue (cAnd (cCmp .Eq (cV1 lenV (cVar 1)) (cV1 lenV (cIx (cVar 0) (cVal (.int 0))))) (cQ1 allQ (cSeqF (cComp (cItV (cVar 1)) [2] (.nm 2) cTrue (cCall call 1 "is_ratio" (cCons (cVar 2) cNil))))))))))
    sSkip)))
theorem e_is_any_table (k : Nat) (call : CallT) : bodyOf prg ⟨"is_any_table", 1, ["value", "row", "item"], defScope (top 19), defBody (top 19), []⟩ k call = b_is_any_table call (decide (32 ≤ k)) := by kernel_rfl
theorem k_is_any_table (k : Nat) (ws : List W) (h : Store) : callK prg (k + 1) "is_any_table" ws h = if ws.length = 1 then finish h (b_is_any_table (callK prg k) (decide (32 ≤ k)) (startR ["value", "row", "item"] ws) h) else .bad := by
  rw [← e_is_any_table]
  rfl
noncomputable def b_width_of (call : CallT) (big : Bool) : DenS :=
    (sSeq (sRet (cIf (tcCmp .Gt (cV1 lenV (cVar 0)) (cVal (.int 0))) (cV1 lenV (cIx (cVar 0) (cVal (.int 0)))) (cVal (.int 0))))
    sSkip)
theorem e_width_of (k : Nat) (call : CallT) : bodyOf prg ⟨"width_of", 1, ["T"], defScope (top 20), defBody (top 20), []⟩ k call = b_width_of call (decide (32 ≤ k)) := by kernel_rfl
theorem k_width_of (k : Nat) (ws : List W) (h : Store) : callK prg (k + 1) "width_of" ws h = if ws.length = 1 then finish h (b_width_of (callK prg k) (decide (32 ≤ k)) (startR ["T"] ws) h) else .bad := by
  rw [← e_width_of]
  rfl
noncomputable def b_is_table (call : CallT) (big : Bool) : DenS :=
    (sSeq (sFor (cItV (cTup (cCons (cVar 1) (cCons (cVar 2) cNil)))) (.nm 3) (sSeq (sIf (tcCmp .IsNot (cVar 3) (cVal .non)) (sSeq (sExpr (cCall call 2 "check_number" (cCons (cVar 3) (cCons (cVal (.int 40)) cNil))))
    sSkip) sSkip)
    sSkip))
    (sSeq (sIf (tcNot (tcVal (cCall call 1 "is_any_table" (cCons (cVar 0) cNil)))) (sSeq (sRet (cVal (.bl false)))
    sSkip) sSkip)
    (sSeq (sRet (cAnd (cOr (cCmp .Is (cVar 1) (cVal .non)) (cCmp .Eq (cV1 lenV (cVar 0)) (cVar 1))) (cOr (cCmp .Is (cVar 2) (cVal .non)) (cCmp .Eq (cCall call 1 "width_of" (cCons (cVar 0) cNil)) (cVar 2)))))
    sSkip)))
theorem e_is_table (k : Nat) (call : CallT) : bodyOf prg ⟨"is_table", 3, ["value", "rows", "columns", "many"], defScope (top 21), defBody (top 21), [.non, .non]⟩ k call = b_is_table call (decide (32 ≤ k)) := by kernel_rfl
theorem k_is_table (k : Nat) (ws : List W) (h : Store) : callK prg (k + 1) "is_table" ws h = if ws.length = 3 then finish h (b_is_table (callK prg k) (decide (32 ≤ k)) (startR ["value", "rows", "columns", "many"] ws) h) else .bad := by
  rw [← e_is_table]
  rfl
noncomputable def b_check_table (call : CallT) (big : Bool) : DenS :=
    (sSeq (sIf (tcNot (tcVal (cCall call 1 "is_any_table" (cCons (cVar 0) cNil)))) (sSeq (sRaise "Malformed")
    sSkip) sSkip)
    sSkip)
theorem e_check_table (k : Nat) (call : CallT) : bodyOf prg ⟨"check_table", 1, ["T"], defScope (top 22), defBody (top 22), []⟩ k call = b_check_table call (decide (32 ≤ k)) := by kernel_rfl
theorem k_check_table (k : Nat) (ws : List W) (h : Store) : callK prg (k + 1) "check_table" ws h = if ws.length = 1 then finish h (b_check_table (callK prg k) (decide (32 ≤ k)) (startR ["T"] ws) h) else .bad := by
  rw [← e_check_table]
  rfl
noncomputable def b_check_square (call : CallT) (big : Bool) : DenS :=
    (sSeq (sExpr (cCall call 1 "check_table" (cCons (cVar 0) cNil)))
    (sSeq (sIf (tcCmp .NotEq (cV1 lenV (cVar 0)) (cCall call 1 "width_of" (cCons (cVar 0) cNil))) (sSeq (sRaise "Malformed")
    sSkip) sSkip)
    sSkip))
theorem e_check_square (k : Nat) (call : CallT) : bodyOf prg ⟨"check_square", 1, ["T"], defScope (top 23), defBody (top 23), []⟩ k call = b_check_square call (decide (32 ≤ k)) := by kernel_rfl
theorem k_check_square (k : Nat) (ws : List W) (h : Store) : callK prg (k + 1) "check_square" ws h = if ws.length = 1 then finish h (b_check_square (callK prg k) (decide (32 ≤ k)) (startR ["T"] ws) h) else .bad := by
  rw [← e_check_square]
  rfl
noncomputable def b_check_alike (call : CallT) (big : Bool) : DenS :=
    (sSeq (sExpr (cCall call 1 "check_table" (cCons (cVar 0) cNil)))
    (sSeq (sExpr (cCall call 1 "check_table" (cCons (cVar 1) cNil)))
    (sSeq (sIf (tcOr (tcCmp .NotEq (cV1 lenV (cVar 0)) (cV1 lenV (cVar 1))) (tcCmp .NotEq (cCall call 1 "width_of" (cCons (cVar 0) cNil)) (cCall call 1 "width_of" (cCons (cVar 1) cNil)))) (sSeq (sRaise "Malformed")
    sSkip) sSkip)
    sSkip)))
theorem e_check_alike (k : Nat) (call : CallT) : bodyOf prg ⟨"check_alike", 2, ["S", "T"], defScope (top 24), defBody (top 24), []⟩ k call = b_check_alike call (decide (32 ≤ k)) := by kernel_rfl
theorem k_check_alike (k : Nat) (ws : List W) (h : Store) : callK prg (k + 1) "check_alike" ws h = if ws.length = 2 then finish h (b_check_alike (callK prg k) (decide (32 ≤ k)) (startR ["S", "T"] ws) h) else .bad := by
  rw [← e_check_alike]
  rfl
noncomputable def b_unit_of (call : CallT) (big : Bool) : DenS :=
    (sSeq (sRet (cQ1 tupQ (cSeqF (cComp (cItR rng1 (cCons (cVar 0) cNil)) [1] (.nm 1) cTrue (cQ1 tupQ (cSeqF (cComp (cItR rng1 (cCons (cVar 0) cNil)) [2] (.nm 2) cTrue (cIf (tcCmp .Eq (cVar 1) (cVar 2)) (cVal (.tup [(.int 1), (.int 1)])) (cVal (.tup [(.int 0), (.int 1)]))))))))))
    sSkip)
theorem e_unit_of (k : Nat) (call : CallT) : bodyOf prg ⟨"unit_of", 1, ["n", "i", "j"], defScope (top 25), defBody (top 25), []⟩ k call = b_unit_of call (decide (32 ≤ k)) := by kernel_rfl
theorem k_unit_of (k : Nat) (ws : List W) (h : Store) : callK prg (k + 1) "unit_of" ws h = if ws.length = 1 then finish h (b_unit_of (callK prg k) (decide (32 ≤ k)) (startR ["n", "i", "j"] ws) h) else .bad := by
  rw [← e_unit_of]
  rfl
noncomputable def b_unit_table (call : CallT) (big : Bool) : DenS :=
    (sSeq (sExpr (cCall call 2 "check_number" (cCons (cVar 0) (cCons (cVal (.int 40)) cNil))))
    (sSeq (sRet (cCall call 1 "unit_of" (cCons (cVar 0) cNil)))
    sSkip))
theorem e_unit_table (k : Nat) (call : CallT) : bodyOf prg ⟨"unit_table", 1, ["n"], defScope (top 26), defBody (top 26), []⟩ k call = b_unit_table call (decide (32 ≤ k)) := by kernel_rfl
theorem k_unit_table (k : Nat) (ws : List W) (h : Store) : callK prg (k + 1) "unit_table" ws h = if ws.length = 1 then finish h (b_unit_table (callK prg k) (decide (32 ≤ k)) (startR ["n"] ws) h) else .bad := by
  rw [← e_unit_table]
  rfl
noncomputable def b_table_sum (call : CallT) (big : Bool) : DenS :=
    (sSeq (sExpr (cCall call 2 "check_alike" (cCons (cVar 0) (cCons (cVar 1) cNil))))
    (sSeq (sRet (cQ1 tupQ (cSeqF (cComp (cItS zipOf (cCons (cVar 0) (cCons (cVar 1) cNil))) [2, 3] (.tp [(.nm 2), (.nm 3)]) cTrue (cQ1 tupQ (cSeqF (cComp (cItS zipOf (cCons (cVar 2) (cCons (cVar 3) cNil))) [4, 5] (.tp [(.nm 4), (.nm 5)]) cTrue (cCall call 2 "ratio_sum" (cCons (cVar 4) (cCons (cVar 5) cNil))))))))))
    sSkip))
theorem e_table_sum (k : Nat) (call : CallT) : bodyOf prg ⟨"table_sum", 2, ["S", "T", "s", "t", "a", "b"], defScope (top 27), defBody (top 27), []⟩ k call = b_table_sum call (decide (32 ≤ k)) := by kernel_rfl
theorem k_table_sum (k : Nat) (ws : List W) (h : Store) : callK prg (k + 1) "table_sum" ws h = if ws.length = 2 then finish h (b_table_sum (callK prg k) (decide (32 ≤ k)) (startR ["S", "T", "s", "t", "a", "b"] ws) h) else .bad := by
  rw [← e_table_sum]
  rfl
noncomputable def b_table_less (call : CallT) (big : Bool) : DenS :=
    (sSeq (sExpr (cCall call 2 "check_alike" (cCons (cVar 0) (cCons (cVar 1) cNil))))
    (sSeq (sRet (cQ1 tupQ (cSeqF (cComp (cItS zipOf (cCons (cVar 0) (cCons (cVar 1) cNil))) [2, 3] (.tp [(.nm 2), (.nm 3)]) cTrue (cQ1 tupQ (cSeqF (cComp (cItS zipOf (cCons (cVar 2) (cCons (cVar 3) cNil))) [4, 5] (.tp [(.nm 4), (.nm 5)]) cTrue (cCall call 2 "ratio_less" (cCons (cVar 4) (cCons (cVar 5) cNil))))))))))
    sSkip))
theorem e_table_less (k : Nat) (call : CallT) : bodyOf prg ⟨"table_less", 2, ["S", "T", "s", "t", "a", "b"], defScope (top 28), defBody (top 28), []⟩ k call = b_table_less call (decide (32 ≤ k)) := by kernel_rfl
theorem k_table_less (k : Nat) (ws : List W) (h : Store) : callK prg (k + 1) "table_less" ws h = if ws.length = 2 then finish h (b_table_less (callK prg k) (decide (32 ≤ k)) (startR ["S", "T", "s", "t", "a", "b"] ws) h) else .bad := by
  rw [← e_table_less]
  rfl
noncomputable def b_table_scaled (call : CallT) (big : Bool) : DenS :=
    (sSeq (sExpr (cCall call 1 "check_table" (cCons (cVar 0) cNil)))
    (sSeq (sIf (tcNot (tcVal (cCall call 1 "is_ratio" (cCons (cVar 1) cNil)))) (sSeq (sRaise "Malformed")
    sSkip) sSkip)
    (sSeq (sRet (cQ1 tupQ (cSeqF (cComp (cItV (cVar 0)) [2] (.nm 2) cTrue (cQ1 tupQ (cSeqF (cComp (cItV (cVar 2)) [3] (.nm 3) cTrue (cCall call 2 "ratio_product" (cCons (cVar 3) (cCons (cVar 1) cNil))))))))))
    sSkip)))
theorem e_table_scaled (k : Nat) (call : CallT) : bodyOf prg ⟨"table_scaled", 2, ["T", "c", "row", "a"], defScope (top 29), defBody (top 29), []⟩ k call = b_table_scaled call (decide (32 ≤ k)) := by kernel_rfl
theorem k_table_scaled (k : Nat) (ws : List W) (h : Store) : callK prg (k + 1) "table_scaled" ws h = if ws.length = 2 then finish h (b_table_scaled (callK prg k) (decide (32 ≤ k)) (startR ["T", "c", "row", "a"] ws) h) else .bad := by
  rw [← e_table_scaled]
  rfl
noncomputable def b_common_multiple (call : CallT) (big : Bool) : DenS :=
    (sSeq (sAsg (cVal (.int 1)) (gNm 1))
    (sSeq (sFor (cItV (cVar 0)) (.nm 2) (sSeq (sAsg (cBin big .Mult (cBin big .FloorDiv (cVar 1) (cCall call 2 "greatest_common" (cCons (cVar 1) (cCons (cIx (cVar 2) (cVal (.int 1))) cNil)))) (cIx (cVar 2) (cVal (.int 1)))) (gNm 1))
    sSkip))
    (sSeq (sRet (cVar 1))
    sSkip)))
theorem e_common_multiple (k : Nat) (call : CallT) : bodyOf prg ⟨"common_multiple", 1, ["row", "found", "item"], defScope (top 30), defBody (top 30), []⟩ k call = b_common_multiple call (decide (32 ≤ k)) := by kernel_rfl
theorem k_common_multiple (k : Nat) (ws : List W) (h : Store) : callK prg (k + 1) "common_multiple" ws h = if ws.length = 1 then finish h (b_common_multiple (callK prg k) (decide (32 ≤ k)) (startR ["row", "found", "item"] ws) h) else .bad := by
  rw [← e_common_multiple]
  rfl
noncomputable def b_whole_row (call : CallT) (big : Bool) : DenS :=
    (sSeq (sAsg (cCall call 1 "common_multiple" (cCons (cVar 0) cNil)) (gNm 1))
    (sSeq (sRet (cTup (cCons (cVar 1) (cCons (cFresh (cComp (cItV (cVar 0)) [2] (.nm 2) cTrue (cBin big .Mult (cIx (cVar 2) (cVal (.int 0))) (cBin big .FloorDiv (cVar 1) (cIx (cVar 2) (cVal (.int 1))))))) cNil))))
    sSkip))
theorem e_whole_row (k : Nat) (call : CallT) : bodyOf prg ⟨"whole_row", 1, ["row", "d", "item"], defScope (top 31), defBody (top 31), []⟩ k call = b_whole_row call (decide (32 ≤ k)) := by kernel_rfl
theorem k_whole_row (k : Nat) (ws : List W) (h : Store) : callK prg (k + 1) "whole_row" ws h = if ws.length = 1 then finish h (b_whole_row (callK prg k) (decide (32 ≤ k)) (startR ["row", "d", "item"] ws) h) else .bad := by
  rw [← e_whole_row]
  rfl
noncomputable def b_lowest (call : CallT) (big : Bool) : DenS :=
    (sSeq (sAsg (cCall call 2 "greatest_common" (cCons (cVar 0) (cCons (cVar 1) cNil))) (gNm 2))
    (sSeq (sRet (cTup (cCons (cBin big .FloorDiv (cVar 0) (cVar 2)) (cCons (cBin big .FloorDiv (cVar 1) (cVar 2)) cNil))))
    sSkip))
theorem e_lowest (k : Nat) (call : CallT) : bodyOf prg ⟨"lowest", 2, ["n", "d", "g"], defScope (top 32), defBody (top 32), []⟩ k call = b_lowest call (decide (32 ≤ k)) := by kernel_rfl
theorem k_lowest (k : Nat) (ws : List W) (h : Store) : callK prg (k + 1) "lowest" ws h = if ws.length = 2 then finish h (b_lowest (callK prg k) (decide (32 ≤ k)) (startR ["n", "d", "g"] ws) h) else .bad := by
  rw [← e_lowest]
  rfl
noncomputable def b_lowest_tables (call : CallT) (big : Bool) : DenS :=
    (sSeq (sAsg (cCall call 2 "greatest_common" (cCons (cVar 0) (cCons (cVar 1) cNil))) (gNm 2))
    (sSeq (sRet (cTup (cCons (cBin big .FloorDiv (cVar 0) (cVar 2)) (cCons (cBin big .FloorDiv (cVar 1) (cVar 2)) cNil))))
    sSkip))
theorem e_lowest_tables (k : Nat) (call : CallT) : bodyOf prg ⟨"lowest_tables", 2, ["n", "d", "g"], defScope (top 32), defBody (top 32), []⟩ k call = b_lowest_tables call (decide (32 ≤ k)) := by kernel_rfl
theorem k_lowest_tables (k : Nat) (ws : List W) (h : Store) : callK prg (k + 1) "lowest_tables" ws h = if ws.length = 2 then finish h (b_lowest_tables (callK prg k) (decide (32 ≤ k)) (startR ["n", "d", "g"] ws) h) else .bad := by
  rw [← e_lowest_tables]
  rfl
noncomputable def b_turned (call : CallT) (big : Bool) : DenS :=
    (sSeq (sRet (cQ1 tupQ (cSeqF (cComp (cItR rng1 (cCons (cCall call 1 "width_of" (cCons (cVar 0) cNil)) cNil)) [1] (.nm 1) cTrue (cQ1 tupQ (cSeqF (cComp (cItV (cVar 0)) [2] (.nm 2) cTrue (cIx (cVar 2) (cVar 1)))))))))
    sSkip)
theorem e_turned (k : Nat) (call : CallT) : bodyOf prg ⟨"turned", 1, ["T", "j", "row"], defScope (top 34), defBody (top 34), []⟩ k call = b_turned call (decide (32 ≤ k)) := by kernel_rfl
theorem k_turned (k : Nat) (ws : List W) (h : Store) : callK prg (k + 1) "turned" ws h = if ws.length = 1 then finish h (b_turned (callK prg k) (decide (32 ≤ k)) (startR ["T", "j", "row"] ws) h) else .bad := by
  rw [← e_turned]
  rfl
noncomputable def b_multiplied (call : CallT) (big : Bool) : DenS :=
    (sSeq (sAsg (cFresh (cComp (cItV (cVar 0)) [4] (.nm 4) cTrue (cCall call 1 "whole_row" (cCons (cVar 4) cNil)))) (gNm 2))
    (sSeq (sAsg (cFresh (cComp (cItV (cCall call 1 "turned" (cCons (cVar 1) cNil))) [5] (.nm 5) cTrue (cCall call 1 "whole_row" (cCons (cVar 5) cNil)))) (gNm 3))
    (sSeq (sRet (cQ1 tupQ (cSeqF (cComp (cItV (cVar 2)) [6, 4] (.tp [(.nm 6), (.nm 4)]) cTrue (cQ1 tupQ (cSeqF (cComp (cItV (cVar 3)) [7, 5] (.tp [(.nm 7), (.nm 5)]) cTrue (cCall call 2 "lowest_tables" (cCons (cQ1 sumQ (cSeqF (cComp (cItS zipOf (cCons (cVar 4) (cCons (cVar 5) cNil))) [8, 9] (.tp [(.nm 8), (.nm 9)]) cTrue (cBin big .Mult (cVar 8) (cVar 9))))) (cCons (cBin big .Mult (cVar 6) (cVar 7)) cNil))))))))))
    sSkip)))
theorem e_multiplied (k : Nat) (call : CallT) : bodyOf prg ⟨"multiplied", 2, ["S", "T", "rows", "columns", "row", "column", "d", "e", "a", "b"], defScope (top 35), defBody (top 35), []⟩ k call = b_multiplied call (decide (32 ≤ k)) := by kernel_rfl
theorem k_multiplied (k : Nat) (ws : List W) (h : Store) : callK prg (k + 1) "multiplied" ws h = if ws.length = 2 then finish h (b_multiplied (callK prg k) (decide (32 ≤ k)) (startR ["S", "T", "rows", "columns", "row", "column", "d", "e", "a", "b"] ws) h) else .bad := by
  rw [← e_multiplied]
  rfl
noncomputable def b_table_product (call : CallT) (big : Bool) : DenS :=
    (sSeq (sExpr (cCall call 1 "check_table" (cCons (cVar 0) cNil)))
    (sSeq (sExpr (cCall call 1 "check_table" (cCons (cVar 1) cNil)))
    (sSeq (sIf (tcCmp .NotEq (cCall call 1 "width_of" (cCons (cVar 0) cNil)) (cV1 lenV (cVar 1))) (sSeq (sRaise "Malformed")
    sSkip) sSkip)
    (sSeq (sRet (cCall call 2 "multiplied" (cCons (cVar 0) (cCons (cVar 1) cNil))))
    sSkip))))
theorem e_table_product (k : Nat) (call : CallT) : bodyOf prg ⟨"table_product", 2, ["S", "T"], defScope (top 36), defBody (top 36), []⟩ k call = b_table_product call (decide (32 ≤ k)) := by kernel_rfl
theorem k_table_product (k : Nat) (ws : List W) (h : Store) : callK prg (k + 1) "table_product" ws h = if ws.length = 2 then finish h (b_table_product (callK prg k) (decide (32 ≤ k)) (startR ["S", "T"] ws) h) else .bad := by
  rw [← e_table_product]
  rfl
noncomputable def b_table_power (call : CallT) (big : Bool) : DenS :=
    (sSeq (sExpr (cCall call 1 "check_square" (cCons (cVar 0) cNil)))
    (sSeq (sExpr (cCall call 2 "check_number" (cCons (cVar 1) (cCons (cVal (.int 60)) cNil))))
    (sSeq (sAsg (cCall call 1 "unit_of" (cCons (cV1 lenV (cVar 0)) cNil)) (gNm 2))
    (sSeq (sFor (cItR rng1 (cCons (cVar 1) cNil)) (.nm 3) (sSeq (sAsg (cCall call 2 "multiplied" (cCons (cVar 2) (cCons (cVar 0) cNil))) (gNm 2))
    sSkip))
    (sSeq (sRet (cVar 2))
    sSkip)))))
theorem e_table_power (k : Nat) (call : CallT) : bodyOf prg ⟨"table_power", 2, ["T", "e", "found", "_"], defScope (top 37), defBody (top 37), []⟩ k call = b_table_power call (decide (32 ≤ k)) := by kernel_rfl
theorem k_table_power (k : Nat) (ws : List W) (h : Store) : callK prg (k + 1) "table_power" ws h = if ws.length = 2 then finish h (b_table_power (callK prg k) (decide (32 ≤ k)) (startR ["T", "e", "found", "_"] ws) h) else .bad := by
  rw [← e_table_power]
  rfl
noncomputable def b_table_turned (call : CallT) (big : Bool) : DenS :=
    (sSeq (sExpr (cCall call 1 "check_table" (cCons (cVar 0) cNil)))
    (sSeq (sRet (cCall call 1 "turned" (cCons (cVar 0) cNil)))
    sSkip))
theorem e_table_turned (k : Nat) (call : CallT) : bodyOf prg ⟨"table_turned", 1, ["T"], defScope (top 38), defBody (top 38), []⟩ k call = b_table_turned call (decide (32 ≤ k)) := by kernel_rfl
theorem k_table_turned (k : Nat) (ws : List W) (h : Store) : callK prg (k + 1) "table_turned" ws h = if ws.length = 1 then finish h (b_table_turned (callK prg k) (decide (32 ≤ k)) (startR ["T"] ws) h) else .bad := by
  rw [← e_table_turned]
  rfl
noncomputable def b_is_choice (call : CallT) (big : Bool) : DenS :=
    (sSeq (sIf (tcOr (tcNot (tcVal (cIsi1 "tuple" (cVar 0)))) (tcNot (tcVal (cQ1 allQ (cSeqF (cComp (cItV (cVar 0)) [4] (.nm 4) cTrue (cAnd (cCall call 1 "is_integer" (cCons (cVar 4) cNil)) (cChain .LtE .Lt (cVal (.int 0)) (cVar 4) (cVar 1))))))))) (sSeq (sRet (cVal (.bl false)))
    sSkip) sSkip)
    (sSeq (sRet (cQ1 allQ (cSeqF (cComp (cItS zipOf (cCons (cVar 0) (cCons (cSl (cVar 0) (cPart (cVal (.int 1))) cNoPart) cNil))) [2, 3] (.tp [(.nm 2), (.nm 3)]) cTrue (cCmp .Lt (cVar 2) (cVar 3))))))
    sSkip))
theorem e_is_choice (k : Nat) (call : CallT) : bodyOf prg ⟨"is_choice", 2, ["value", "n", "a", "b", "x"], defScope (top 39), defBody (top 39), []⟩ k call = b_is_choice call (decide (32 ≤ k)) := by kernel_rfl
theorem k_is_choice (k : Nat) (ws : List W) (h : Store) : callK prg (k + 1) "is_choice" ws h = if ws.length = 2 then finish h (b_is_choice (callK prg k) (decide (32 ≤ k)) (startR ["value", "n", "a", "b", "x"] ws) h) else .bad := by
  rw [← e_is_choice]
  rfl
noncomputable def b_check_choices (call : CallT) (big : Bool) : DenS :=
    (sSeq (sExpr (cCall call 1 "check_table" (cCons (cVar 0) cNil)))
    (sSeq (sIf (tcOr (tcNot (tcVal (cCall call 2 "is_choice" (cCons (cVar 1) (cCons (cV1 lenV (cVar 0)) cNil))))) (tcNot (tcVal (cCall call 2 "is_choice" (cCons (cVar 2) (cCons (cCall call 1 "width_of" (cCons (cVar 0) cNil)) cNil)))))) (sSeq (sRaise "Malformed")
    sSkip) sSkip)
    sSkip))
theorem e_check_choices (k : Nat) (call : CallT) : bodyOf prg ⟨"check_choices", 3, ["T", "rows", "columns"], defScope (top 40), defBody (top 40), []⟩ k call = b_check_choices call (decide (32 ≤ k)) := by kernel_rfl
theorem k_check_choices (k : Nat) (ws : List W) (h : Store) : callK prg (k + 1) "check_choices" ws h = if ws.length = 3 then finish h (b_check_choices (callK prg k) (decide (32 ≤ k)) (startR ["T", "rows", "columns"] ws) h) else .bad := by
  rw [← e_check_choices]
  rfl
noncomputable def b_part_of (call : CallT) (big : Bool) : DenS :=
    (sSeq (sRet (cQ1 tupQ (cSeqF (cComp (cItV (cVar 1)) [3] (.nm 3) cTrue (cQ1 tupQ (cSeqF (cComp (cItV (cVar 2)) [4] (.nm 4) cTrue (cIx (cIx (cVar 0) (cVar 3)) (cVar 4)))))))))
    sSkip)
theorem e_part_of (k : Nat) (call : CallT) : bodyOf prg ⟨"part_of", 3, ["T", "rows", "columns", "i", "j"], defScope (top 41), defBody (top 41), []⟩ k call = b_part_of call (decide (32 ≤ k)) := by kernel_rfl
theorem k_part_of (k : Nat) (ws : List W) (h : Store) : callK prg (k + 1) "part_of" ws h = if ws.length = 3 then finish h (b_part_of (callK prg k) (decide (32 ≤ k)) (startR ["T", "rows", "columns", "i", "j"] ws) h) else .bad := by
  rw [← e_part_of]
  rfl
noncomputable def b_table_part (call : CallT) (big : Bool) : DenS :=
    (sSeq (sExpr (cCall call 3 "check_choices" (cCons (cVar 0) (cCons (cVar 1) (cCons (cVar 2) cNil)))))
    (sSeq (sIf (tcCmp .NotEq (cCmp .Eq (cV1 lenV (cVar 1)) (cVal (.int 0))) (cCmp .Eq (cV1 lenV (cVar 2)) (cVal (.int 0)))) (sSeq (sRaise "Malformed")
    sSkip) sSkip)
    (sSeq (sRet (cCall call 3 "part_of" (cCons (cVar 0) (cCons (cVar 1) (cCons (cVar 2) cNil)))))
    sSkip)))
theorem e_table_part (k : Nat) (call : CallT) : bodyOf prg ⟨"table_part", 3, ["T", "rows", "columns"], defScope (top 42), defBody (top 42), []⟩ k call = b_table_part call (decide (32 ≤ k)) := by kernel_rfl
theorem k_table_part (k : Nat) (ws : List W) (h : Store) : callK prg (k + 1) "table_part" ws h = if ws.length = 3 then finish h (b_table_part (callK prg k) (decide (32 ≤ k)) (startR ["T", "rows", "columns"] ws) h) else .bad := by
  rw [← e_table_part]
  rfl
noncomputable def b__law_state (call : CallT) (big : Bool) : DenS :=
    (sSeq (sAsg (cVal (.int 0)) (gNm 1))
    (sSeq (sAsg (cVal (.int 1)) (gNm 2))
    (sSeq (sFor (cItV (cSl (cVar 0) cNoPart (cPart (cVal (.int 63))))) (.nm 3) (sSeq (sAsg (cBin big .Add (cBin big .Mult (cVar 1) (cVal (.int 1000003))) (cV1 absV1 (cVar 3))) (gNm 1))
    (sSeq (sAsg (cBin big .Mod (cV1 intV (cBin big .Add (cBin big .Mult (cVar 2) (cVal (.int 48271))) (cVar 3))) (cVal (.int 2147483647))) (gNm 2))
    sSkip)))
    (sSeq (sRet (cFresh (cLst (cCons (cVar 1) (cCons (cVar 2) cNil)))))
    sSkip))))
theorem e__law_state (k : Nat) (call : CallT) : bodyOf prg ⟨"_law_state", 1, ["script", "seed", "total", "cell"], defScope (top 44), defBody (top 44), []⟩ k call = b__law_state call (decide (32 ≤ k)) := by kernel_rfl
theorem k__law_state (k : Nat) (ws : List W) (h : Store) : callK prg (k + 1) "_law_state" ws h = if ws.length = 1 then finish h (b__law_state (callK prg k) (decide (32 ≤ k)) (startR ["script", "seed", "total", "cell"] ws) h) else .bad := by
  rw [← e__law_state]
  rfl
noncomputable def b__law_take (call : CallT) (big : Bool) : DenS :=
    (sSeq (sIf (tcCmp .Gt (cIx (cVar 0) (cVal (.int 0))) (cVal (.int 0))) (sSeq (sAsg (cBin big .Mod (cV1 intV (cIx (cVar 0) (cVal (.int 0)))) (cVar 1)) (gNm 2))
    (sSeq (sAsg (cBin big .FloorDiv (cIx (cVar 0) (cVal (.int 0))) (cVar 1)) (gSx (cVar 0) (cVal (.int 0))))
    (sSeq (sRet (cVar 2))
    sSkip))) sSkip)
    (sSeq (sAsg (cBin big .Mod (cV1 intV (cBin big .Add (cBin big .Mult (cIx (cVar 0) (cVal (.int 1))) (cVal (.int 48271))) (cVal (.int 11)))) (cVal (.int 2147483647))) (gSx (cVar 0) (cVal (.int 1))))
    (sSeq (sRet (cBin big .Mod (cV1 intV (cBin big .FloorDiv (cIx (cVar 0) (cVal (.int 1))) (cVal (.int 7)))) (cVar 1)))
    sSkip)))
theorem e__law_take (k : Nat) (call : CallT) : bodyOf prg ⟨"_law_take", 2, ["state", "m", "value"], defScope (top 45), defBody (top 45), []⟩ k call = b__law_take call (decide (32 ≤ k)) := by kernel_rfl
theorem k__law_take (k : Nat) (ws : List W) (h : Store) : callK prg (k + 1) "_law_take" ws h = if ws.length = 2 then finish h (b__law_take (callK prg k) (decide (32 ≤ k)) (startR ["state", "m", "value"] ws) h) else .bad := by
  rw [← e__law_take]
  rfl
noncomputable def b__law_same (call : CallT) (big : Bool) : DenS :=
    (sSeq (sIf (tcVal (cIsi1 "tuple" (cVar 1))) (sSeq (sRet (cAnd (cIsi1 "tuple" (cVar 0)) (cAnd (cCmp .Eq (cV1 lenV (cVar 0)) (cV1 lenV (cVar 1))) (cQ1 allQ (cSeqF (cComp (cItR rng1 (cCons (cV1 lenV (cVar 1)) cNil)) [2] (.nm 2) cTrue (cCall call 2 "_law_same" (cCons (cIx (cVar 0) (cVar 2)) (cCons (cIx (cVar 1) (cVar 2)) cNil)))))))))
    sSkip) sSkip)
    (sSeq (sIf (tcCmp .Is (cVar 1) (cVal .non)) (sSeq (sRet (cCmp .Is (cVar 0) (cVal .non)))
    sSkip) sSkip)
    (sSeq (sIf (tcVal (cIsi1 "bool" (cVar 1))) (sSeq (sRet (cAnd (cIsi1 "bool" (cVar 0)) (cCmp .Eq (cVar 0) (cVar 1))))
    sSkip) sSkip)
    (sSeq (sIf (tcVal (cIsi1 "str" (cVar 1))) (sSeq (sRet (cAnd (cIsi1 "str" (cVar 0)) (cCmp .Eq (cVar 0) (cVar 1))))
    sSkip) sSkip)
    (sSeq (sRet (cAnd (cIsi1 "int" (cVar 0)) (cAnd (cNot (cIsi1 "bool" (cVar 0))) (cCmp .Eq (cVar 0) (cVar 1)))))
    sSkip)))))
theorem e__law_same (k : Nat) (call : CallT) : bodyOf prg ⟨"_law_same", 2, ["value", "due", "k"], defScope (top 46), defBody (top 46), []⟩ k call = b__law_same call (decide (32 ≤ k)) := by kernel_rfl
theorem k__law_same (k : Nat) (ws : List W) (h : Store) : callK prg (k + 1) "_law_same" ws h = if ws.length = 2 then finish h (b__law_same (callK prg k) (decide (32 ≤ k)) (startR ["value", "due", "k"] ws) h) else .bad := by
  rw [← e__law_same]
  rfl
noncomputable def b__law_told (call : CallT) (big : Bool) : DenS :=
    (sSeq (sTry prg.ct "Malformed" (sSeq (sIf (tcCmp .Eq (cV1 lenV (cVar 1)) (cVal (.int 1))) (sSeq (sRet (cTup (cCons (cVal (.str "told")) (cCons (cCallV call dfs dvs (cVar 0) (cCons (cIx (cVar 1) (cVal (.int 0))) cNil)) cNil))))
    sSkip) sSkip)
    (sSeq (sIf (tcCmp .Eq (cV1 lenV (cVar 1)) (cVal (.int 2))) (sSeq (sRet (cTup (cCons (cVal (.str "told")) (cCons (cCallV call dfs dvs (cVar 0) (cCons (cIx (cVar 1) (cVal (.int 0))) (cCons (cIx (cVar 1) (cVal (.int 1))) cNil))) cNil))))
    sSkip) sSkip)
    (sSeq (sIf (tcCmp .Eq (cV1 lenV (cVar 1)) (cVal (.int 3))) (sSeq (sRet (cTup (cCons (cVal (.str "told")) (cCons (cCallV call dfs dvs (cVar 0) (cCons (cIx (cVar 1) (cVal (.int 0))) (cCons (cIx (cVar 1) (cVal (.int 1))) (cCons (cIx (cVar 1) (cVal (.int 2))) cNil)))) cNil))))
    sSkip) sSkip)
    (sSeq (sIf (tcCmp .Eq (cV1 lenV (cVar 1)) (cVal (.int 4))) (sSeq (sRet (cTup (cCons (cVal (.str "told")) (cCons (cCallV call dfs dvs (cVar 0) (cCons (cIx (cVar 1) (cVal (.int 0))) (cCons (cIx (cVar 1) (cVal (.int 1))) (cCons (cIx (cVar 1) (cVal (.int 2))) (cCons (cIx (cVar 1) (cVal (.int 3))) cNil))))) cNil))))
    sSkip) sSkip)
    (sSeq (sRet (cTup (cCons (cVal (.str "told")) (cCons (cCallV call dfs dvs (cVar 0) (cCons (cIx (cVar 1) (cVal (.int 0))) (cCons (cIx (cVar 1) (cVal (.int 1))) (cCons (cIx (cVar 1) (cVal (.int 2))) (cCons (cIx (cVar 1) (cVal (.int 3))) (cCons (cIx (cVar 1) (cVal (.int 4))) cNil)))))) cNil))))
    sSkip))))) (sRet (cVal (.tup [(.str "raised"), (.str "malformed")]))))
    sSkip)
theorem e__law_told (k : Nat) (call : CallT) : bodyOf prg ⟨"_law_told", 2, ["f", "given", "error"], defScope (top 47), defBody (top 47), []⟩ k call = b__law_told call (decide (32 ≤ k)) := by kernel_rfl
theorem k__law_told (k : Nat) (ws : List W) (h : Store) : callK prg (k + 1) "_law_told" ws h = if ws.length = 2 then finish h (b__law_told (callK prg k) (decide (32 ≤ k)) (startR ["f", "given", "error"] ws) h) else .bad := by
  rw [← e__law_told]
  rfl
noncomputable def b__law_is_told (call : CallT) (big : Bool) : DenS :=
    (sSeq (sRet (cAnd (cCmp .Eq (cIx (cVar 0) (cVal (.int 0))) (cVal (.str "told"))) (cCall call 2 "_law_same" (cCons (cIx (cVar 0) (cVal (.int 1))) (cCons (cVar 1) cNil)))))
    sSkip)
theorem e__law_is_told (k : Nat) (call : CallT) : bodyOf prg ⟨"_law_is_told", 2, ["pair", "due"], defScope (top 48), defBody (top 48), []⟩ k call = b__law_is_told call (decide (32 ≤ k)) := by kernel_rfl
theorem k__law_is_told (k : Nat) (ws : List W) (h : Store) : callK prg (k + 1) "_law_is_told" ws h = if ws.length = 2 then finish h (b__law_is_told (callK prg k) (decide (32 ≤ k)) (startR ["pair", "due"] ws) h) else .bad := by
  rw [← e__law_is_told]
  rfl
noncomputable def b__law_is_raised (call : CallT) (big : Bool) : DenS :=
    (sSeq (sRet (cAnd (cCmp .Eq (cIx (cVar 0) (cVal (.int 0))) (cVal (.str "raised"))) (cCall call 2 "_law_same" (cCons (cIx (cVar 0) (cVal (.int 1))) (cCons (cVar 1) cNil)))))
    sSkip)
theorem e__law_is_raised (k : Nat) (call : CallT) : bodyOf prg ⟨"_law_is_raised", 2, ["pair", "reason"], defScope (top 49), defBody (top 49), []⟩ k call = b__law_is_raised call (decide (32 ≤ k)) := by kernel_rfl
theorem k__law_is_raised (k : Nat) (ws : List W) (h : Store) : callK prg (k + 1) "_law_is_raised" ws h = if ws.length = 2 then finish h (b__law_is_raised (callK prg k) (decide (32 ≤ k)) (startR ["pair", "reason"] ws) h) else .bad := by
  rw [← e__law_is_raised]
  rfl
noncomputable def b__law_tells (call : CallT) (big : Bool) : DenS :=
    (sSeq (sRet (cCall call 2 "_law_is_told" (cCons (cCall call 2 "_law_told" (cCons (cVar 0) (cCons (cVar 1) cNil))) (cCons (cVar 2) cNil))))
    sSkip)
theorem e__law_tells (k : Nat) (call : CallT) : bodyOf prg ⟨"_law_tells", 3, ["f", "given", "due"], defScope (top 50), defBody (top 50), []⟩ k call = b__law_tells call (decide (32 ≤ k)) := by kernel_rfl
theorem k__law_tells (k : Nat) (ws : List W) (h : Store) : callK prg (k + 1) "_law_tells" ws h = if ws.length = 3 then finish h (b__law_tells (callK prg k) (decide (32 ≤ k)) (startR ["f", "given", "due"] ws) h) else .bad := by
  rw [← e__law_tells]
  rfl
noncomputable def b__law_raises (call : CallT) (big : Bool) : DenS :=
    (sSeq (sRet (cCall call 2 "_law_is_raised" (cCons (cCall call 2 "_law_told" (cCons (cVar 0) (cCons (cVar 1) cNil))) (cCons (cVar 2) cNil))))
    sSkip)
theorem e__law_raises (k : Nat) (call : CallT) : bodyOf prg ⟨"_law_raises", 3, ["f", "given", "reason"], defScope (top 51), defBody (top 51), []⟩ k call = b__law_raises call (decide (32 ≤ k)) := by kernel_rfl
theorem k__law_raises (k : Nat) (ws : List W) (h : Store) : callK prg (k + 1) "_law_raises" ws h = if ws.length = 3 then finish h (b__law_raises (callK prg k) (decide (32 ≤ k)) (startR ["f", "given", "reason"] ws) h) else .bad := by
  rw [← e__law_raises]
  rfl
noncomputable def b__law_frac (call : CallT) (big : Bool) : DenS :=
    (sSeq (sPar2 2 3 (cCons (cV1 absV1 (cVar 0)) (cCons (cV1 absV1 (cVar 1)) cNil)))
    (sSeq (sWhile (tcCmp .NotEq (cVar 3) (cVal (.int 0))) (sSeq (sPar2 2 3 (cCons (cVar 3) (cCons (cBin big .Mod (cV1 intV (cVar 2)) (cVar 3)) cNil)))
    sSkip))
    (sSeq (sAsg (cIf (tcCmp .Gt (cVar 1) (cVal (.int 0))) (cVar 2) (cNeg (cVar 2))) (gNm 2))
    (sSeq (sRet (cTup (cCons (cBin big .FloorDiv (cVar 0) (cVar 2)) (cCons (cBin big .FloorDiv (cVar 1) (cVar 2)) cNil))))
    sSkip))))
theorem e__law_frac (k : Nat) (call : CallT) : bodyOf prg ⟨"_law_frac", 2, ["n", "d", "a", "b"], defScope (top 52), defBody (top 52), []⟩ k call = b__law_frac call (decide (32 ≤ k)) := by kernel_rfl
theorem k__law_frac (k : Nat) (ws : List W) (h : Store) : callK prg (k + 1) "_law_frac" ws h = if ws.length = 2 then finish h (b__law_frac (callK prg k) (decide (32 ≤ k)) (startR ["n", "d", "a", "b"] ws) h) else .bad := by
  rw [← e__law_frac]
  rfl
noncomputable def b__law_add (call : CallT) (big : Bool) : DenS :=
    (sSeq (sRet (cCall call 2 "_law_frac" (cCons (cBin big .Add (cBin big .Mult (cIx (cVar 0) (cVal (.int 0))) (cIx (cVar 1) (cVal (.int 1)))) (cBin big .Mult (cIx (cVar 1) (cVal (.int 0))) (cIx (cVar 0) (cVal (.int 1))))) (cCons (cBin big .Mult (cIx (cVar 0) (cVal (.int 1))) (cIx (cVar 1) (cVal (.int 1)))) cNil))))
    sSkip)
theorem e__law_add (k : Nat) (call : CallT) : bodyOf prg ⟨"_law_add", 2, ["x", "y"], defScope (top 53), defBody (top 53), []⟩ k call = b__law_add call (decide (32 ≤ k)) := by kernel_rfl
theorem k__law_add (k : Nat) (ws : List W) (h : Store) : callK prg (k + 1) "_law_add" ws h = if ws.length = 2 then finish h (b__law_add (callK prg k) (decide (32 ≤ k)) (startR ["x", "y"] ws) h) else .bad := by
  rw [← e__law_add]
  rfl
noncomputable def b__law_less (call : CallT) (big : Bool) : DenS :=
    (sSeq (sRet (cCall call 2 "_law_frac" (cCons (cBin big .Sub (cBin big .Mult (cIx (cVar 0) (cVal (.int 0))) (cIx (cVar 1) (cVal (.int 1)))) (cBin big .Mult (cIx (cVar 1) (cVal (.int 0))) (cIx (cVar 0) (cVal (.int 1))))) (cCons (cBin big .Mult (cIx (cVar 0) (cVal (.int 1))) (cIx (cVar 1) (cVal (.int 1)))) cNil))))
    sSkip)
theorem e__law_less (k : Nat) (call : CallT) : bodyOf prg ⟨"_law_less", 2, ["x", "y"], defScope (top 54), defBody (top 54), []⟩ k call = b__law_less call (decide (32 ≤ k)) := by kernel_rfl
theorem k__law_less (k : Nat) (ws : List W) (h : Store) : callK prg (k + 1) "_law_less" ws h = if ws.length = 2 then finish h (b__law_less (callK prg k) (decide (32 ≤ k)) (startR ["x", "y"] ws) h) else .bad := by
  rw [← e__law_less]
  rfl
noncomputable def b__law_mul (call : CallT) (big : Bool) : DenS :=
    (sSeq (sRet (cCall call 2 "_law_frac" (cCons (cBin big .Mult (cIx (cVar 0) (cVal (.int 0))) (cIx (cVar 1) (cVal (.int 0)))) (cCons (cBin big .Mult (cIx (cVar 0) (cVal (.int 1))) (cIx (cVar 1) (cVal (.int 1)))) cNil))))
    sSkip)
theorem e__law_mul (k : Nat) (call : CallT) : bodyOf prg ⟨"_law_mul", 2, ["x", "y"], defScope (top 55), defBody (top 55), []⟩ k call = b__law_mul call (decide (32 ≤ k)) := by kernel_rfl
theorem k__law_mul (k : Nat) (ws : List W) (h : Store) : callK prg (k + 1) "_law_mul" ws h = if ws.length = 2 then finish h (b__law_mul (callK prg k) (decide (32 ≤ k)) (startR ["x", "y"] ws) h) else .bad := by
  rw [← e__law_mul]
  rfl
noncomputable def b__law_total (call : CallT) (big : Bool) : DenS :=
    (sSeq (sAsg (cTup (cCons (cVal (.int 0)) (cCons (cVal (.int 1)) cNil))) (gNm 1))
    (sSeq (sFor (cItV (cVar 0)) (.nm 2) (sSeq (sAsg (cCall call 2 "_law_add" (cCons (cVar 1) (cCons (cVar 2) cNil))) (gNm 1))
    sSkip))
    (sSeq (sRet (cVar 1))
    sSkip)))
theorem e__law_total (k : Nat) (call : CallT) : bodyOf prg ⟨"_law_total", 1, ["items", "found", "x"], defScope (top 56), defBody (top 56), []⟩ k call = b__law_total call (decide (32 ≤ k)) := by kernel_rfl
theorem k__law_total (k : Nat) (ws : List W) (h : Store) : callK prg (k + 1) "_law_total" ws h = if ws.length = 1 then finish h (b__law_total (callK prg k) (decide (32 ≤ k)) (startR ["items", "found", "x"] ws) h) else .bad := by
  rw [← e__law_total]
  rfl
noncomputable def b__law_times (call : CallT) (big : Bool) : DenS :=
    (sSeq (sAsg (cTup (cCons (cVal (.int 1)) (cCons (cVal (.int 1)) cNil))) (gNm 1))
    (sSeq (sFor (cItV (cVar 0)) (.nm 2) (sSeq (sAsg (cCall call 2 "_law_mul" (cCons (cVar 1) (cCons (cVar 2) cNil))) (gNm 1))
    sSkip))
    (sSeq (sRet (cVar 1))
    sSkip)))
theorem e__law_times (k : Nat) (call : CallT) : bodyOf prg ⟨"_law_times", 1, ["items", "found", "x"], defScope (top 57), defBody (top 57), []⟩ k call = b__law_times call (decide (32 ≤ k)) := by kernel_rfl
theorem k__law_times (k : Nat) (ws : List W) (h : Store) : callK prg (k + 1) "_law_times" ws h = if ws.length = 1 then finish h (b__law_times (callK prg k) (decide (32 ≤ k)) (startR ["items", "found", "x"] ws) h) else .bad := by
  rw [← e__law_times]
  rfl
noncomputable def b__law_dot (call : CallT) (big : Bool) : DenS :=
    (sSeq (sRet (cCall call 1 "_law_total" (cCons (cFresh (cComp (cItR rng1 (cCons (cV1 lenV (cVar 0)) cNil)) [2] (.nm 2) cTrue (cCall call 2 "_law_mul" (cCons (cIx (cVar 0) (cVar 2)) (cCons (cIx (cVar 1) (cVar 2)) cNil))))) cNil)))
    sSkip)
theorem e__law_dot (k : Nat) (call : CallT) : bodyOf prg ⟨"_law_dot", 2, ["one", "two", "k"], defScope (top 58), defBody (top 58), []⟩ k call = b__law_dot call (decide (32 ≤ k)) := by kernel_rfl
theorem k__law_dot (k : Nat) (ws : List W) (h : Store) : callK prg (k + 1) "_law_dot" ws h = if ws.length = 2 then finish h (b__law_dot (callK prg k) (decide (32 ≤ k)) (startR ["one", "two", "k"] ws) h) else .bad := by
  rw [← e__law_dot]
  rfl
noncomputable def b__law_drawn (call : CallT) (big : Bool) : DenS :=
    (sSeq (sRet (cCall call 2 "_law_frac" (cCons (cBin big .Sub (cCall call 2 "_law_take" (cCons (cVar 0) (cCons (cVal (.int 13)) cNil))) (cVal (.int 6))) (cCons (cBin big .Add (cVal (.int 1)) (cCall call 2 "_law_take" (cCons (cVar 0) (cCons (cVal (.int 4)) cNil)))) cNil))))
    sSkip)
theorem e__law_drawn (k : Nat) (call : CallT) : bodyOf prg ⟨"_law_drawn", 1, ["state"], defScope (top 59), defBody (top 59), []⟩ k call = b__law_drawn call (decide (32 ≤ k)) := by kernel_rfl
theorem k__law_drawn (k : Nat) (ws : List W) (h : Store) : callK prg (k + 1) "_law_drawn" ws h = if ws.length = 1 then finish h (b__law_drawn (callK prg k) (decide (32 ≤ k)) (startR ["state"] ws) h) else .bad := by
  rw [← e__law_drawn]
  rfl
noncomputable def b__law_pick (call : CallT) (big : Bool) : DenS :=
    (sSeq (sPar2 3 4 (cCons (cFresh (cRg1 (cVar 1))) (cCons (cFresh (cLst cNil)) cNil)))
    (sSeq (sFor (cItR rng1 (cCons (cVar 2) cNil)) (.nm 5) (sSeq (sExpr (cApp (cVar 4) (cPop (cVar 3) (cCall call 2 "_law_take" (cCons (cVar 0) (cCons (cV1 lenV (cVar 3)) cNil))))))
    sSkip))
    (sSeq (sRet (cVar 4))
    sSkip)))
theorem e__law_pick (k : Nat) (call : CallT) : bodyOf prg ⟨"_law_pick", 3, ["state", "n", "k", "left", "found", "t"], defScope (top 60), defBody (top 60), []⟩ k call = b__law_pick call (decide (32 ≤ k)) := by kernel_rfl
theorem k__law_pick (k : Nat) (ws : List W) (h : Store) : callK prg (k + 1) "_law_pick" ws h = if ws.length = 3 then finish h (b__law_pick (callK prg k) (decide (32 ≤ k)) (startR ["state", "n", "k", "left", "found", "t"] ws) h) else .bad := by
  rw [← e__law_pick]
  rfl
noncomputable def b__law_table (call : CallT) (big : Bool) : DenS :=
    (sSeq (sAsg (cFresh (cLst cNil)) (gNm 3))
    (sSeq (sFor (cItR rng1 (cCons (cVar 1) cNil)) (.nm 4) (sSeq (sExpr (cApp (cVar 3) (cQ1 tupQ (cSeqF (cComp (cItR rng1 (cCons (cVar 2) cNil)) [5] (.nm 5) cTrue (cIf (tcCmp .Gt (cCall call 2 "_law_take" (cCons (cVar 0) (cCons (cVal (.int 4)) cNil))) (cVal (.int 0))) (cCall call 1 "_law_drawn" (cCons (cVar 0) cNil)) (cTup (cCons (cVal (.int 0)) (cCons (cVal (.int 1)) cNil)))))))))
    sSkip))
    (sSeq (sRet (cQ1 tupQ (cSeqV (cVar 3))))
    sSkip)))
theorem e__law_table (k : Nat) (call : CallT) : bodyOf prg ⟨"_law_table", 3, ["state", "p", "q", "rows", "i", "j"], defScope (top 61), defBody (top 61), []⟩ k call = b__law_table call (decide (32 ≤ k)) := by kernel_rfl
theorem k__law_table (k : Nat) (ws : List W) (h : Store) : callK prg (k + 1) "_law_table" ws h = if ws.length = 3 then finish h (b__law_table (callK prg k) (decide (32 ≤ k)) (startR ["state", "p", "q", "rows", "i", "j"] ws) h) else .bad := by
  rw [← e__law_table]
  rfl
noncomputable def b__law_width (call : CallT) (big : Bool) : DenS :=
    (sSeq (sRet (cIf (tcCmp .Gt (cV1 lenV (cVar 0)) (cVal (.int 0))) (cV1 lenV (cIx (cVar 0) (cVal (.int 0)))) (cVal (.int 0))))
    sSkip)
theorem e__law_width (k : Nat) (call : CallT) : bodyOf prg ⟨"_law_width", 1, ["T"], defScope (top 62), defBody (top 62), []⟩ k call = b__law_width call (decide (32 ≤ k)) := by kernel_rfl
theorem k__law_width (k : Nat) (ws : List W) (h : Store) : callK prg (k + 1) "_law_width" ws h = if ws.length = 1 then finish h (b__law_width (callK prg k) (decide (32 ≤ k)) (startR ["T"] ws) h) else .bad := by
  rw [← e__law_width]
  rfl
noncomputable def b__law_product (call : CallT) (big : Bool) : DenS :=
    (sSeq (sRet (cQ1 tupQ (cSeqF (cComp (cItV (cVar 0)) [2] (.nm 2) cTrue (cQ1 tupQ (cSeqF (cComp (cItR rng1 (cCons (cCall call 1 "_law_width" (cCons (cVar 1) cNil)) cNil)) [3] (.nm 3) cTrue (cCall call 2 "_law_dot" (cCons (cVar 2) (cCons (cFresh (cComp (cItV (cVar 1)) [4] (.nm 4) cTrue (cIx (cVar 4) (cVar 3)))) cNil))))))))))
    sSkip)
theorem e__law_product (k : Nat) (call : CallT) : bodyOf prg ⟨"_law_product", 2, ["S", "T", "row", "j", "line"], defScope (top 63), defBody (top 63), []⟩ k call = b__law_product call (decide (32 ≤ k)) := by kernel_rfl
theorem k__law_product (k : Nat) (ws : List W) (h : Store) : callK prg (k + 1) "_law_product" ws h = if ws.length = 2 then finish h (b__law_product (callK prg k) (decide (32 ≤ k)) (startR ["S", "T", "row", "j", "line"] ws) h) else .bad := by
  rw [← e__law_product]
  rfl
noncomputable def b__law_unit (call : CallT) (big : Bool) : DenS :=
    (sSeq (sRet (cQ1 tupQ (cSeqF (cComp (cItR rng1 (cCons (cVar 0) cNil)) [1] (.nm 1) cTrue (cQ1 tupQ (cSeqF (cComp (cItR rng1 (cCons (cVar 0) cNil)) [2] (.nm 2) cTrue (cTup (cCons (cV1 intV (cCmp .Eq (cVar 1) (cVar 2))) (cCons (cVal (.int 1)) cNil))))))))))
    sSkip)
theorem e__law_unit (k : Nat) (call : CallT) : bodyOf prg ⟨"_law_unit", 1, ["n", "i", "j"], defScope (top 64), defBody (top 64), []⟩ k call = b__law_unit call (decide (32 ≤ k)) := by kernel_rfl
theorem k__law_unit (k : Nat) (ws : List W) (h : Store) : callK prg (k + 1) "_law_unit" ws h = if ws.length = 1 then finish h (b__law_unit (callK prg k) (decide (32 ≤ k)) (startR ["n", "i", "j"] ws) h) else .bad := by
  rw [← e__law_unit]
  rfl
noncomputable def b__law_item_is (call : CallT) (big : Bool) : DenS :=
    (sSeq (sIf (tcOr (tcNot (tcVal (cIsi1 "tuple" (cVar 0)))) (tcCmp .NotEq (cV1 lenV (cVar 0)) (cVal (.int 2)))) (sSeq (sRet (cVal (.bl false)))
    sSkip) sSkip)
    (sSeq (sFor (cItV (cVar 0)) (.nm 1) (sSeq (sIf (tcOr (tcNot (tcVal (cIsi1 "int" (cVar 1)))) (tcVal (cIsi1 "bool" (cVar 1)))) (sSeq (sRet (cVal (.bl false)))
    sSkip) sSkip)
    sSkip))
    (sSeq (sRet (cAnd (cCmp .Gt (cIx (cVar 0) (cVal (.int 1))) (cVal (.int 0))) (cCmp .Eq (cCall call 2 "_law_frac" (cCons (cIx (cVar 0) (cVal (.int 0))) (cCons (cIx (cVar 0) (cVal (.int 1))) cNil))) (cVar 0))))
    sSkip)))
theorem e__law_item_is (k : Nat) (call : CallT) : bodyOf prg ⟨"_law_item_is", 1, ["x", "n"], defScope (top 65), defBody (top 65), []⟩ k call = b__law_item_is call (decide (32 ≤ k)) := by kernel_rfl
theorem k__law_item_is (k : Nat) (ws : List W) (h : Store) : callK prg (k + 1) "_law_item_is" ws h = if ws.length = 1 then finish h (b__law_item_is (callK prg k) (decide (32 ≤ k)) (startR ["x", "n"] ws) h) else .bad := by
  rw [← e__law_item_is]
  rfl
noncomputable def b__law_is (call : CallT) (big : Bool) : DenS :=
    (sSeq (sIf (tcOr (tcNot (tcVal (cIsi1 "tuple" (cVar 0)))) (tcCmp .Gt (cV1 lenV (cVar 0)) (cVal (.int 40)))) (sSeq (sRet (cVal (.bl false)))
    sSkip) sSkip)
    (sSeq (sFor (cItV (cVar 0)) (.nm 1) (sSeq (sIf (tcOr (tcNot (tcVal (cIsi1 "tuple" (cVar 1)))) (tcOr (tcNot (tcChain .LtE .LtE (cVal (.int 1)) (cV1 lenV (cVar 1)) (cVal (.int 40)))) (tcCmp .NotEq (cV1 lenV (cVar 1)) (cV1 lenV (cIx (cVar 0) (cVal (.int 0))))))) (sSeq (sRet (cVal (.bl false)))
    sSkip) sSkip)
    (sSeq (sIf (tcNot (tcVal (cQ1 allQ (cSeqF (cComp (cItV (cVar 1)) [2] (.nm 2) cTrue (cCall call 1 "_law_item_is" (cCons (cVar 2) cNil))))))) (sSeq (sRet (cVal (.bl false)))
    sSkip) sSkip)
    sSkip)))
    (sSeq (sRet (cVal (.bl true)))
    sSkip)))
theorem e__law_is (k : Nat) (call : CallT) : bodyOf prg ⟨"_law_is", 1, ["value", "row", "x"], defScope (top 66), defBody (top 66), []⟩ k call = b__law_is call (decide (32 ≤ k)) := by kernel_rfl
theorem k__law_is (k : Nat) (ws : List W) (h : Store) : callK prg (k + 1) "_law_is" ws h = if ws.length = 1 then finish h (b__law_is (callK prg k) (decide (32 ≤ k)) (startR ["value", "row", "x"] ws) h) else .bad := by
  rw [← e__law_is]
  rfl
noncomputable def b__law_values (call : CallT) (big : Bool) : DenS :=
    (sSeq (sPar2 1 2 (cCons (cIx (cVar 0) (cVal (.int 0))) (cCons (cIx (cIx (cVar 0) (cVal (.int 0))) (cVal (.int 0))) cNil)))
    (sSeq (sAsg (cFresh (cLst (cCons (cVar 0) (cCons (cTup cNil) (cCons (cFresh (cListQ (cSeqV (cVar 0)))) (cCons (cBin big .Add (cVar 0) (cTup (cCons (cVar 1) cNil))) (cCons (cBin big .Add (cVar 0) (cTup (cCons (cBin big .Add (cVar 1) (cTup (cCons (cVar 2) cNil))) cNil))) (cCons (cBin big .Add (cVar 0) (cTup (cCons (cSl (cVar 1) cNoPart (cPart (cNeg (cVal (.int 1))))) cNil))) (cCons (cBin big .Add (cVar 0) (cTup (cCons (cFresh (cListQ (cSeqV (cVar 1)))) cNil))) (cCons (cTup (cCons (cVar 1) cNil)) (cCons (cTup (cCons (cTup cNil) cNil)) (cCons (cTup (cCons (cTup cNil) (cCons (cTup cNil) cNil))) (cCons (cVal .non) (cCons (cVal (.int 3)) (cCons (cVal (.bl true)) (cCons (cVal (.str "T")) (cCons (cVar 1) (cCons (cTup (cCons (cVar 1) (cCons (cVal .non) cNil))) (cCons (cTup (cCons (cBin big .Add (cSl (cVar 1) cNoPart (cPart (cNeg (cVal (.int 1))))) (cTup (cCons (cTup (cCons (cVal (.int 2)) (cCons (cVal (.int 4)) cNil))) cNil))) cNil)) cNil))))))))))))))))))) (gNm 3))
    (sSeq (sAsg (cBin big .Add (cVar 3) (cFresh (cLst (cCons (cTup (cCons (cBin big .Add (cSl (cVar 1) cNoPart (cPart (cNeg (cVal (.int 1))))) (cTup (cCons (cVal (.int 1)) cNil))) cNil)) (cCons (cTup (cCons (cBin big .Add (cSl (cVar 1) cNoPart (cPart (cNeg (cVal (.int 1))))) (cTup (cCons (cFresh (cLst (cCons (cVal (.int 1)) (cCons (cVal (.int 2)) cNil)))) cNil))) cNil)) (cCons (cTup (cCons (cBin big .Add (cSl (cVar 1) cNoPart (cPart (cNeg (cVal (.int 1))))) (cTup (cCons (cTup (cCons (cVal (.int 1)) (cCons (cVal (.int 0)) cNil))) cNil))) cNil)) (cCons (cTup (cCons (cBin big .Add (cSl (cVar 1) cNoPart (cPart (cNeg (cVal (.int 1))))) (cTup (cCons (cTup (cCons (cVal (.bl true)) (cCons (cVal (.int 1)) cNil))) cNil))) cNil)) (cCons (cTup (cCons (cBin big .Add (cSl (cVar 1) cNoPart (cPart (cNeg (cVal (.int 1))))) (cTup (cCons (cTup (cCons (cVal (.int 1)) (cCons (cVal (.int 1)) (cCons (cVal (.int 1)) cNil)))) cNil))) cNil)) (cCons (cTup (cCons (cBin big .Add (cSl (cVar 1) cNoPart (cPart (cNeg (cVal (.int 1))))) (cTup (cCons (cVal .non) cNil))) cNil)) (cCons (cTup (cCons (cBin big .Add (cSl (cVar 1) cNoPart (cPart (cNeg (cVal (.int 1))))) (cTup (cCons (cTup (cCons (cVal (.int 1)) (cCons (cNeg (cVal (.int 1))) cNil))) cNil))) cNil)) cNil)))))))))) (gNm 3))
    (sSeq (sRet (cBin big .Add (cVar 3) (cFresh (cLst (cCons (cBin big .Mult (cTup (cCons (cBin big .Mult (cTup (cCons (cVar 2) cNil)) (cVal (.int 40))) cNil)) (cVal (.int 2))) (cCons (cTup (cCons (cBin big .Mult (cTup (cCons (cVar 2) cNil)) (cVal (.int 41))) cNil)) (cCons (cBin big .Mult (cTup (cCons (cTup (cCons (cVar 2) cNil)) cNil)) (cVal (.int 40))) (cCons (cBin big .Mult (cTup (cCons (cTup (cCons (cVar 2) cNil)) cNil)) (cVal (.int 41))) cNil))))))))
    sSkip))))
theorem e__law_values (k : Nat) (call : CallT) : bodyOf prg ⟨"_law_values", 1, ["T", "row", "one", "found"], defScope (top 67), defBody (top 67), []⟩ k call = b__law_values call (decide (32 ≤ k)) := by kernel_rfl
theorem k__law_values (k : Nat) (ws : List W) (h : Store) : callK prg (k + 1) "_law_values" ws h = if ws.length = 1 then finish h (b__law_values (callK prg k) (decide (32 ≤ k)) (startR ["T", "row", "one", "found"] ws) h) else .bad := by
  rw [← e__law_values]
  rfl
noncomputable def b__law_forms_hold (call : CallT) (big : Bool) : DenS :=
    (sSeq (sPar2 2 3 (cCons (cV1 lenV (cVar 1)) (cCons (cV1 lenV (cIx (cVar 1) (cVal (.int 0)))) cNil)))
    (sSeq (sFor (cItV (cCall call 1 "_law_values" (cCons (cVar 1) cNil))) (.nm 4) (sSeq (sAsg (cCall call 1 "_law_is" (cCons (cVar 4) cNil)) (gNm 5))
    (sSeq (sIf (tcNot (tcVal (cCall call 3 "_law_tells" (cCons (cVal (.glo "is_table")) (cCons (cTup (cCons (cVar 4) cNil)) (cCons (cVar 5) cNil)))))) (sSeq (sRet (cVal (.bl false)))
    sSkip) sSkip)
    (sSeq (sAsg (cIf (tcVal (cVar 5)) (cTup (cCons (cV1 lenV (cVar 4)) (cCons (cCall call 1 "_law_width" (cCons (cVar 4) cNil)) cNil))) (cTup (cCons (cVar 2) (cCons (cVar 3) cNil)))) (gTp 2 (gsCons (gNm 6) (gsCons (gNm 7) gsNil))))
    (sSeq (sFor (cItF (cLst (cCons (cTup (cCons (cVar 6) (cCons (cVar 7) cNil))) (cCons (cTup (cCons (cBin big .Add (cVar 6) (cVal (.int 1))) (cCons (cVar 7) cNil))) (cCons (cTup (cCons (cVar 6) (cCons (cBin big .Add (cVar 7) (cVal (.int 1))) cNil))) (cCons (cTup (cCons (cVal .non) (cCons (cVar 7) cNil))) (cCons (cTup (cCons (cVar 6) (cCons (cVal .non) cNil))) (cCons (cTup (cCons (cVal .non) (cCons (cIf (tcCmp .Gt (cVar 7) (cVal (.int 0))) (cBin big .Sub (cVar 7) (cVal (.int 1))) (cVal (.int 1))) cNil))) (cCons (cTup (cCons (cIf (tcCmp .Gt (cVar 6) (cVal (.int 0))) (cBin big .Sub (cVar 6) (cVal (.int 1))) (cVal (.int 1))) (cCons (cVal .non) cNil))) cNil))))))))) (.tp [(.nm 8), (.nm 9)]) (sSeq (sIf (tcOr (tcCmp .Is (cVar 8) (cVal .non)) (tcOr (tcCmp .Is (cVar 9) (cVal .non)) (tcCmp .Lt (cV2 maxV (cVar 8) (cVar 9)) (cVal (.int 41))))) (sSeq (sAsg (cAnd (cVar 5) (cAnd (cCmp .In (cVar 8) (cTup (cCons (cVal .non) (cCons (cVar 6) cNil)))) (cCmp .In (cVar 9) (cTup (cCons (cVal .non) (cCons (cVar 7) cNil)))))) (gNm 10))
    (sSeq (sIf (tcNot (tcVal (cCall call 3 "_law_tells" (cCons (cVal (.glo "is_table")) (cCons (cTup (cCons (cVar 4) (cCons (cVar 8) (cCons (cVar 9) cNil)))) (cCons (cVar 10) cNil)))))) (sSeq (sRet (cVal (.bl false)))
    sSkip) sSkip)
    sSkip)) sSkip)
    sSkip))
    (sSeq (sAsg (cFresh (cLst (cCons (cTup (cCons (cVal (.glo "table_turned")) (cCons (cTup (cCons (cVar 4) cNil)) cNil))) (cCons (cTup (cCons (cVal (.glo "table_sum")) (cCons (cTup (cCons (cVar 4) (cCons (cVar 4) cNil))) cNil))) (cCons (cTup (cCons (cVal (.glo "table_less")) (cCons (cTup (cCons (cVar 4) (cCons (cVar 4) cNil))) cNil))) (cCons (cTup (cCons (cVal (.glo "table_scaled")) (cCons (cTup (cCons (cVar 4) (cCons (cTup (cCons (cVal (.int 1)) (cCons (cVal (.int 2)) cNil))) cNil))) cNil))) (cCons (cTup (cCons (cVal (.glo "table_product")) (cCons (cTup (cCons (cVar 4) (cCons (cVar 1) cNil))) cNil))) (cCons (cTup (cCons (cVal (.glo "table_product")) (cCons (cTup (cCons (cVar 1) (cCons (cVar 4) cNil))) cNil))) cNil)))))))) (gNm 11))
    (sSeq (sAsg (cBin big .Add (cVar 11) (cFresh (cLst (cCons (cTup (cCons (cVal (.glo "table_power")) (cCons (cTup (cCons (cVar 4) (cCons (cVal (.int 1)) cNil))) cNil))) (cCons (cTup (cCons (cVal (.glo "table_part")) (cCons (cTup (cCons (cVar 4) (cCons (cTup cNil) (cCons (cTup cNil) cNil)))) cNil))) (cCons (cTup (cCons (cVal (.glo "table_sum")) (cCons (cTup (cCons (cVar 1) (cCons (cVar 4) cNil))) cNil))) (cCons (cTup (cCons (cVal (.glo "table_less")) (cCons (cTup (cCons (cVar 1) (cCons (cVar 4) cNil))) cNil))) cNil))))))) (gNm 11))
    (sSeq (sIf (tcAnd (tcNot (tcVal (cVar 5))) (tcVal (cQ1 anyQ (cSeqF (cComp (cItV (cVar 11)) [14, 15] (.tp [(.nm 14), (.nm 15)]) cTrue (cNot (cCall call 3 "_law_raises" (cCons (cVar 14) (cCons (cVar 15) (cCons (cVal (.str "malformed")) cNil)))))))))) (sSeq (sRet (cVal (.bl false)))
    sSkip) sSkip)
    sSkip))))))))
    (sSeq (sFor (cItF (cLst (cCons (cNeg (cVal (.int 1))) (cCons (cVal (.int 41)) (cCons (cVal (.bl true)) (cCons (cVal (.str "1")) (cCons (cTup (cCons (cVal (.int 1)) cNil)) (cCons (cBin big .Pow (cVal (.int 10)) (cVal (.int 20))) cNil)))))))) (.nm 12) (sSeq (sIf (tcOr (tcNot (tcVal (cCall call 3 "_law_raises" (cCons (cVal (.glo "is_table")) (cCons (cTup (cCons (cVar 1) (cCons (cVar 12) (cCons (cVal .non) cNil)))) (cCons (cVal (.str "malformed")) cNil)))))) (tcOr (tcNot (tcVal (cCall call 3 "_law_raises" (cCons (cVal (.glo "is_table")) (cCons (cTup (cCons (cVar 1) (cCons (cVal .non) (cCons (cVar 12) cNil)))) (cCons (cVal (.str "malformed")) cNil)))))) (tcNot (tcVal (cCall call 3 "_law_raises" (cCons (cVal (.glo "is_table")) (cCons (cTup (cCons (cVal .non) (cCons (cVar 12) cNil))) (cCons (cVal (.str "malformed")) cNil)))))))) (sSeq (sRet (cVal (.bl false)))
    sSkip) sSkip)
    (sSeq (sIf (tcNot (tcVal (cCall call 3 "_law_raises" (cCons (cVal (.glo "unit_table")) (cCons (cTup (cCons (cVar 12) cNil)) (cCons (cVal (.str "malformed")) cNil)))))) (sSeq (sRet (cVal (.bl false)))
    sSkip) sSkip)
    sSkip)))
    (sSeq (sAsg (cCall call 3 "_law_table" (cCons (cVar 0) (cCons (cVal (.int 2)) (cCons (cVal (.int 2)) cNil)))) (gNm 13))
    (sSeq (sFor (cItF (cLst (cCons (cNeg (cVal (.int 1))) (cCons (cVal (.int 61)) (cCons (cVal (.bl true)) (cCons (cVal .non) (cCons (cVal (.str "1")) (cCons (cTup (cCons (cVal (.int 1)) (cCons (cVal (.int 1)) cNil))) cNil)))))))) (.nm 12) (sSeq (sIf (tcOr (tcNot (tcVal (cCall call 3 "_law_raises" (cCons (cVal (.glo "table_power")) (cCons (cTup (cCons (cVar 13) (cCons (cVar 12) cNil))) (cCons (cVal (.str "malformed")) cNil)))))) (tcAnd (tcCmp .NotEq (cVar 12) (cTup (cCons (cVal (.int 1)) (cCons (cVal (.int 1)) cNil)))) (tcNot (tcVal (cCall call 3 "_law_raises" (cCons (cVal (.glo "table_scaled")) (cCons (cTup (cCons (cVar 13) (cCons (cVar 12) cNil))) (cCons (cVal (.str "malformed")) cNil)))))))) (sSeq (sRet (cVal (.bl false)))
    sSkip) sSkip)
    sSkip))
    (sSeq (sRet (cAnd (cCall call 3 "_law_raises" (cCons (cVal (.glo "unit_table")) (cCons (cTup (cCons (cVal .non) cNil)) (cCons (cVal (.str "malformed")) cNil)))) (cAnd (cCall call 3 "_law_raises" (cCons (cVal (.glo "table_scaled")) (cCons (cTup (cCons (cVar 1) (cCons (cTup (cCons (cVal (.int 2)) (cCons (cVal (.int 4)) cNil))) cNil))) (cCons (cVal (.str "malformed")) cNil)))) (cAnd (cCall call 3 "_law_tells" (cCons (cVal (.glo "is_table")) (cCons (cTup (cCons (cTup cNil) (cCons (cVal (.int 0)) (cCons (cVal (.int 0)) cNil)))) (cCons (cVal (.bl true)) cNil)))) (cCall call 3 "_law_tells" (cCons (cVal (.glo "is_table")) (cCons (cTup (cCons (cTup cNil) (cCons (cVal (.int 0)) (cCons (cVal (.int 1)) cNil)))) (cCons (cVal (.bl false)) cNil))))))))
    sSkip))))))
theorem e__law_forms_hold (k : Nat) (call : CallT) : bodyOf prg ⟨"_law_forms_hold", 2, ["state", "T", "p", "q", "value", "due", "high", "wide", "rows", "columns", "fits", "asked", "bad", "square", "f", "given"], defScope (top 68), defBody (top 68), []⟩ k call = b__law_forms_hold call (decide (32 ≤ k)) := by kernel_rfl
theorem k__law_forms_hold (k : Nat) (ws : List W) (h : Store) : callK prg (k + 1) "_law_forms_hold" ws h = if ws.length = 2 then finish h (b__law_forms_hold (callK prg k) (decide (32 ≤ k)) (startR ["state", "T", "p", "q", "value", "due", "high", "wide", "rows", "columns", "fits", "asked", "bad", "square", "f", "given"] ws) h) else .bad := by
  rw [← e__law_forms_hold]
  rfl
noncomputable def b__law_is_choice (call : CallT) (big : Bool) : DenS :=
    (sSeq (sIf (tcNot (tcVal (cIsi1 "tuple" (cVar 0)))) (sSeq (sRet (cVal (.bl false)))
    sSkip) sSkip)
    (sSeq (sFor (cItV (cVar 0)) (.nm 2) (sSeq (sIf (tcOr (tcNot (tcVal (cIsi1 "int" (cVar 2)))) (tcOr (tcVal (cIsi1 "bool" (cVar 2))) (tcNot (tcChain .LtE .Lt (cVal (.int 0)) (cVar 2) (cVar 1))))) (sSeq (sRet (cVal (.bl false)))
    sSkip) sSkip)
    sSkip))
    (sSeq (sRet (cQ1 allQ (cSeqF (cComp (cItR rng1 (cCons (cBin big .Sub (cV1 lenV (cVar 0)) (cVal (.int 1))) cNil)) [3] (.nm 3) cTrue (cCmp .Lt (cIx (cVar 0) (cVar 3)) (cIx (cVar 0) (cBin big .Add (cVar 3) (cVal (.int 1)))))))))
    sSkip)))
theorem e__law_is_choice (k : Nat) (call : CallT) : bodyOf prg ⟨"_law_is_choice", 2, ["value", "n", "x", "k"], defScope (top 69), defBody (top 69), []⟩ k call = b__law_is_choice call (decide (32 ≤ k)) := by kernel_rfl
theorem k__law_is_choice (k : Nat) (ws : List W) (h : Store) : callK prg (k + 1) "_law_is_choice" ws h = if ws.length = 2 then finish h (b__law_is_choice (callK prg k) (decide (32 ≤ k)) (startR ["value", "n", "x", "k"] ws) h) else .bad := by
  rw [← e__law_is_choice]
  rfl
noncomputable def b__law_parts_hold (call : CallT) (big : Bool) : DenS :=
    (sSeq (sPar2 2 3 (cCons (cV1 lenV (cVar 1)) (cCons (cV1 lenV (cIx (cVar 1) (cVal (.int 0)))) cNil)))
    (sSeq (sAsg (cQ1 tupQ (cSeqF (cSort (cSeqV (cCall call 3 "_law_pick" (cCons (cVar 0) (cCons (cVar 2) (cCons (cBin big .Add (cVal (.int 1)) (cCall call 2 "_law_take" (cCons (cVar 0) (cCons (cVar 2) cNil)))) cNil)))))))) (gNm 4))
    (sSeq (sAsg (cQ1 tupQ (cSeqF (cSort (cSeqV (cCall call 3 "_law_pick" (cCons (cVar 0) (cCons (cVar 3) (cCons (cBin big .Add (cVal (.int 1)) (cCall call 2 "_law_take" (cCons (cVar 0) (cCons (cVar 3) cNil)))) cNil)))))))) (gNm 5))
    (sSeq (sFor (cItF (cLst (cCons (cTup (cCons (cVar 4) (cCons (cVar 5) cNil))) (cCons (cTup (cCons (cVar 5) (cCons (cVar 4) cNil))) (cCons (cTup (cCons (cRev (cVar 4)) (cCons (cVar 5) cNil))) (cCons (cTup (cCons (cVar 4) (cCons (cBin big .Add (cVar 5) (cSl (cVar 5) (cPart (cNeg (cVal (.int 1)))) cNoPart)) cNil))) (cCons (cTup (cCons (cTup cNil) (cCons (cTup cNil) cNil))) (cCons (cTup (cCons (cVar 4) (cCons (cTup cNil) cNil))) (cCons (cTup (cCons (cTup cNil) (cCons (cVar 5) cNil))) (cCons (cTup (cCons (cFresh (cListQ (cSeqV (cVar 4)))) (cCons (cVar 5) cNil))) (cCons (cTup (cCons (cVar 4) (cCons (cVal .non) cNil))) (cCons (cTup (cCons (cTup (cCons (cVar 2) cNil)) (cCons (cVar 5) cNil))) (cCons (cTup (cCons (cVar 4) (cCons (cTup (cCons (cVar 3) cNil)) cNil))) (cCons (cTup (cCons (cTup (cCons (cNeg (cVal (.int 1))) cNil)) (cCons (cVar 5) cNil))) (cCons (cTup (cCons (cVar 4) (cCons (cTup (cCons (cVal (.bl true)) cNil)) cNil))) (cCons (cTup (cCons (cVar 4) (cCons (cTup (cCons (cVal (.str "0")) cNil)) cNil))) cNil)))))))))))))))) (.tp [(.nm 6), (.nm 7)]) (sSeq (sAsg (cAnd (cCall call 2 "_law_is_choice" (cCons (cVar 6) (cCons (cVar 2) cNil))) (cAnd (cCall call 2 "_law_is_choice" (cCons (cVar 7) (cCons (cVar 3) cNil))) (cCmp .Eq (cCmp .Eq (cV1 lenV (cVar 6)) (cVal (.int 0))) (cCmp .Eq (cV1 lenV (cVar 7)) (cVal (.int 0)))))) (gNm 8))
    (sSeq (sIf (tcAnd (tcVal (cVar 8)) (tcNot (tcVal (cCall call 3 "_law_tells" (cCons (cVal (.glo "table_part")) (cCons (cTup (cCons (cVar 1) (cCons (cVar 6) (cCons (cVar 7) cNil)))) (cCons (cQ1 tupQ (cSeqF (cComp (cItV (cVar 6)) [9] (.nm 9) cTrue (cQ1 tupQ (cSeqF (cComp (cItV (cVar 7)) [10] (.nm 10) cTrue (cIx (cIx (cVar 1) (cVar 9)) (cVar 10)))))))) cNil))))))) (sSeq (sRet (cVal (.bl false)))
    sSkip) sSkip)
    (sSeq (sIf (tcAnd (tcNot (tcVal (cVar 8))) (tcNot (tcVal (cCall call 3 "_law_raises" (cCons (cVal (.glo "table_part")) (cCons (cTup (cCons (cVar 1) (cCons (cVar 6) (cCons (cVar 7) cNil)))) (cCons (cVal (.str "malformed")) cNil))))))) (sSeq (sRet (cVal (.bl false)))
    sSkip) sSkip)
    sSkip))))
    (sSeq (sRet (cVal (.bl true)))
    sSkip)))))
theorem e__law_parts_hold (k : Nat) (call : CallT) : bodyOf prg ⟨"_law_parts_hold", 2, ["state", "T", "p", "q", "rows", "columns", "I", "J", "due", "i", "j"], defScope (top 70), defBody (top 70), []⟩ k call = b__law_parts_hold call (decide (32 ≤ k)) := by kernel_rfl
theorem k__law_parts_hold (k : Nat) (ws : List W) (h : Store) : callK prg (k + 1) "_law_parts_hold" ws h = if ws.length = 2 then finish h (b__law_parts_hold (callK prg k) (decide (32 ≤ k)) (startR ["state", "T", "p", "q", "rows", "columns", "I", "J", "due", "i", "j"] ws) h) else .bad := by
  rw [← e__law_parts_hold]
  rfl
noncomputable def b__law_wide_holds (call : CallT) (big : Bool) : DenS :=
    (sSeq (sAsg (cIx (cFresh (cLst (cCons (cTup (cCons (cVal (.int 40)) (cCons (cVal (.int 2)) (cCons (cVal (.int 3)) cNil)))) (cCons (cTup (cCons (cVal (.int 3)) (cCons (cVal (.int 40)) (cCons (cVal (.int 2)) cNil)))) (cCons (cTup (cCons (cVal (.int 2)) (cCons (cVal (.int 3)) (cCons (cVal (.int 40)) cNil)))) (cCons (cTup (cCons (cVal (.int 12)) (cCons (cVal (.int 12)) (cCons (cVal (.int 12)) cNil)))) cNil)))))) (cCall call 2 "_law_take" (cCons (cVar 0) (cCons (cVal (.int 4)) cNil)))) (gTp 3 (gsCons (gNm 1) (gsCons (gNm 2) (gsCons (gNm 3) gsNil)))))
    (sSeq (sAsg (cTup (cCons (cCall call 3 "_law_table" (cCons (cVar 0) (cCons (cVar 1) (cCons (cVar 2) cNil)))) (cCons (cCall call 3 "_law_table" (cCons (cVar 0) (cCons (cVar 2) (cCons (cVar 3) cNil)))) cNil))) (gTp 2 (gsCons (gNm 4) (gsCons (gNm 5) gsNil))))
    (sSeq (sIf (tcOr (tcNot (tcVal (cCall call 3 "_law_tells" (cCons (cVal (.glo "table_product")) (cCons (cTup (cCons (cVar 4) (cCons (cVar 5) cNil))) (cCons (cCall call 2 "_law_product" (cCons (cVar 4) (cCons (cVar 5) cNil))) cNil)))))) (tcNot (tcVal (cCall call 3 "_law_tells" (cCons (cVal (.glo "table_turned")) (cCons (cTup (cCons (cVar 4) cNil)) (cCons (cQ1 tupQ (cSeqF (cComp (cItR rng1 (cCons (cVar 2) cNil)) [16] (.nm 16) cTrue (cQ1 tupQ (cSeqF (cComp (cItV (cVar 4)) [15] (.nm 15) cTrue (cIx (cVar 15) (cVar 16)))))))) cNil))))))) (sSeq (sRet (cVal (.bl false)))
    sSkip) sSkip)
    (sSeq (sIf (tcNot (tcVal (cCall call 3 "_law_tells" (cCons (cVal (.glo "table_sum")) (cCons (cTup (cCons (cVar 4) (cCons (cVar 4) cNil))) (cCons (cQ1 tupQ (cSeqF (cComp (cItV (cVar 4)) [15] (.nm 15) cTrue (cQ1 tupQ (cSeqF (cComp (cItV (cVar 15)) [17] (.nm 17) cTrue (cCall call 2 "_law_mul" (cCons (cVar 17) (cCons (cTup (cCons (cVal (.int 2)) (cCons (cVal (.int 1)) cNil))) cNil))))))))) cNil)))))) (sSeq (sRet (cVal (.bl false)))
    sSkip) sSkip)
    (sSeq (sAsg (cBin big .Add (cVal (.int 30)) (cCall call 2 "_law_take" (cCons (cVar 0) (cCons (cVal (.int 11)) cNil)))) (gNm 6))
    (sSeq (sAsg (cTup (cCons (cCall call 1 "_law_drawn" (cCons (cVar 0) cNil)) (cCons (cBin big .Sub (cVal (.int 60)) (cCall call 2 "_law_take" (cCons (cVar 0) (cCons (cVal (.int 3)) cNil)))) cNil))) (gTp 2 (gsCons (gNm 7) (gsCons (gNm 8) gsNil))))
    (sSeq (sAsg (cQ1 tupQ (cSeqF (cComp (cItR rng1 (cCons (cVal (.int 3)) cNil)) [14] (.nm 14) cTrue (cQ1 tupQ (cSeqF (cComp (cItR rng1 (cCons (cVal (.int 3)) cNil)) [16] (.nm 16) cTrue (cTup (cCons (cV1 intV (cOr (cCmp .Eq (cVar 16) (cBin big .Add (cVar 14) (cVal (.int 1)))) (cAnd (cCmp .Eq (cVar 16) (cVal (.int 0))) (cCmp .Eq (cVar 14) (cVal (.int 2)))))) (cCons (cVal (.int 1)) cNil))))))))) (gNm 9))
    (sSeq (sAsg (cQ1 tupQ (cSeqF (cComp (cItR rng1 (cCons (cVal (.int 3)) cNil)) [14] (.nm 14) cTrue (cQ1 tupQ (cSeqF (cComp (cItR rng1 (cCons (cVal (.int 3)) cNil)) [16] (.nm 16) cTrue (cTup (cCons (cV1 intV (cCmp .Eq (cBin big .Mod (cV1 intV (cBin big .Sub (cBin big .Sub (cVar 16) (cVar 14)) (cVar 8))) (cVal (.int 3))) (cVal (.int 0)))) (cCons (cVal (.int 1)) cNil))))))))) (gNm 10))
    (sSeq (sAsg (cTup (cCons (cTup (cCons (cVar 7) (cCons (cTup (cCons (cVal (.int 1)) (cCons (cVal (.int 1)) cNil))) cNil))) (cCons (cTup (cCons (cTup (cCons (cVal (.int 0)) (cCons (cVal (.int 1)) cNil))) (cCons (cVar 7) cNil))) cNil))) (gNm 11))
    (sSeq (sAsg (cCall call 1 "_law_times" (cCons (cBin big .Mult (cFresh (cLst (cCons (cVar 7) cNil))) (cBin big .Sub (cVar 8) (cVal (.int 1)))) cNil)) (gNm 12))
    (sSeq (sAsg (cTup (cCons (cTup (cCons (cCall call 2 "_law_mul" (cCons (cVar 12) (cCons (cVar 7) cNil))) (cCons (cCall call 2 "_law_mul" (cCons (cVar 12) (cCons (cTup (cCons (cVar 8) (cCons (cVal (.int 1)) cNil))) cNil))) cNil))) (cCons (cTup (cCons (cTup (cCons (cVal (.int 0)) (cCons (cVal (.int 1)) cNil))) (cCons (cCall call 2 "_law_mul" (cCons (cVar 12) (cCons (cVar 7) cNil))) cNil))) cNil))) (gNm 13))
    (sSeq (sRet (cAnd (cCall call 3 "_law_tells" (cCons (cVal (.glo "unit_table")) (cCons (cTup (cCons (cVar 6) cNil)) (cCons (cCall call 1 "_law_unit" (cCons (cVar 6) cNil)) cNil)))) (cAnd (cCall call 3 "_law_tells" (cCons (cVal (.glo "table_power")) (cCons (cTup (cCons (cVar 9) (cCons (cVar 8) cNil))) (cCons (cVar 10) cNil)))) (cCall call 3 "_law_tells" (cCons (cVal (.glo "table_power")) (cCons (cTup (cCons (cVar 11) (cCons (cVar 8) cNil))) (cCons (cVar 13) cNil)))))))
    sSkip))))))))))))
theorem e__law_wide_holds (k : Nat) (call : CallT) : bodyOf prg ⟨"_law_wide_holds", 1, ["state", "p", "q", "r", "S", "T", "n", "a", "e", "turn", "power", "jump", "top", "due", "i", "row", "j", "x"], defScope (top 71), defBody (top 71), []⟩ k call = b__law_wide_holds call (decide (32 ≤ k)) := by kernel_rfl
theorem k__law_wide_holds (k : Nat) (ws : List W) (h : Store) : callK prg (k + 1) "_law_wide_holds" ws h = if ws.length = 1 then finish h (b__law_wide_holds (callK prg k) (decide (32 ≤ k)) (startR ["state", "p", "q", "r", "S", "T", "n", "a", "e", "turn", "power", "jump", "top", "due", "i", "row", "j", "x"] ws) h) else .bad := by
  rw [← e__law_wide_holds]
  rfl
noncomputable def b_law (call : CallT) (big : Bool) : DenS :=
    (sSeq (sAsg (cCall call 1 "_law_state" (cCons (cVar 0) cNil)) (gNm 1))
    (sSeq (sAsg (cTup (cCons (cBin big .Add (cVal (.int 1)) (cCall call 2 "_law_take" (cCons (cVar 1) (cCons (cVal (.int 7)) cNil)))) (cCons (cBin big .Add (cVal (.int 1)) (cCall call 2 "_law_take" (cCons (cVar 1) (cCons (cVal (.int 7)) cNil)))) (cCons (cBin big .Add (cVal (.int 1)) (cCall call 2 "_law_take" (cCons (cVar 1) (cCons (cVal (.int 5)) cNil)))) cNil)))) (gTp 3 (gsCons (gNm 2) (gsCons (gNm 3) (gsCons (gNm 4) gsNil)))))
    (sSeq (sAsg (cTup (cCons (cCall call 3 "_law_table" (cCons (cVar 1) (cCons (cVar 2) (cCons (cVar 3) cNil)))) (cCons (cCall call 3 "_law_table" (cCons (cVar 1) (cCons (cVar 2) (cCons (cVar 3) cNil)))) (cCons (cCall call 3 "_law_table" (cCons (cVar 1) (cCons (cVar 3) (cCons (cVar 4) cNil)))) (cCons (cCall call 1 "_law_drawn" (cCons (cVar 1) cNil)) cNil))))) (gTp 4 (gsCons (gNm 5) (gsCons (gNm 6) (gsCons (gNm 7) (gsCons (gNm 8) gsNil))))))
    (sSeq (sIf (tcNot (tcVal (cCall call 3 "_law_tells" (cCons (cVal (.glo "table_sum")) (cCons (cTup (cCons (cVar 5) (cCons (cVar 6) cNil))) (cCons (cQ1 tupQ (cSeqF (cComp (cItR rng1 (cCons (cVar 2) cNil)) [14] (.nm 14) cTrue (cQ1 tupQ (cSeqF (cComp (cItR rng1 (cCons (cVar 3) cNil)) [16] (.nm 16) cTrue (cCall call 2 "_law_add" (cCons (cIx (cIx (cVar 5) (cVar 14)) (cVar 16)) (cCons (cIx (cIx (cVar 6) (cVar 14)) (cVar 16)) cNil))))))))) cNil)))))) (sSeq (sRet (cVal (.bl false)))
    sSkip) sSkip)
    (sSeq (sIf (tcNot (tcVal (cCall call 3 "_law_tells" (cCons (cVal (.glo "table_less")) (cCons (cTup (cCons (cVar 5) (cCons (cVar 6) cNil))) (cCons (cQ1 tupQ (cSeqF (cComp (cItR rng1 (cCons (cVar 2) cNil)) [14] (.nm 14) cTrue (cQ1 tupQ (cSeqF (cComp (cItR rng1 (cCons (cVar 3) cNil)) [16] (.nm 16) cTrue (cCall call 2 "_law_less" (cCons (cIx (cIx (cVar 5) (cVar 14)) (cVar 16)) (cCons (cIx (cIx (cVar 6) (cVar 14)) (cVar 16)) cNil))))))))) cNil)))))) (sSeq (sRet (cVal (.bl false)))
    sSkip) sSkip)
    (sSeq (sIf (tcOr (tcNot (tcVal (cCall call 3 "_law_tells" (cCons (cVal (.glo "table_scaled")) (cCons (cTup (cCons (cVar 5) (cCons (cVar 8) cNil))) (cCons (cQ1 tupQ (cSeqF (cComp (cItV (cVar 5)) [15] (.nm 15) cTrue (cQ1 tupQ (cSeqF (cComp (cItV (cVar 15)) [17] (.nm 17) cTrue (cCall call 2 "_law_mul" (cCons (cVar 17) (cCons (cVar 8) cNil))))))))) cNil)))))) (tcNot (tcVal (cCall call 3 "_law_tells" (cCons (cVal (.glo "table_product")) (cCons (cTup (cCons (cVar 5) (cCons (cVar 7) cNil))) (cCons (cCall call 2 "_law_product" (cCons (cVar 5) (cCons (cVar 7) cNil))) cNil))))))) (sSeq (sRet (cVal (.bl false)))
    sSkip) sSkip)
    (sSeq (sIf (tcOr (tcNot (tcVal (cCall call 3 "_law_tells" (cCons (cVal (.glo "table_turned")) (cCons (cTup (cCons (cVar 5) cNil)) (cCons (cQ1 tupQ (cSeqF (cComp (cItR rng1 (cCons (cVar 3) cNil)) [16] (.nm 16) cTrue (cQ1 tupQ (cSeqF (cComp (cItV (cVar 5)) [15] (.nm 15) cTrue (cIx (cVar 15) (cVar 16)))))))) cNil)))))) (tcNot (tcVal (cCall call 3 "_law_tells" (cCons (cVal (.glo "unit_table")) (cCons (cTup (cCons (cVar 2) cNil)) (cCons (cCall call 1 "_law_unit" (cCons (cVar 2) cNil)) cNil))))))) (sSeq (sRet (cVal (.bl false)))
    sSkip) sSkip)
    (sSeq (sPar2 9 10 (cCons (cCall call 3 "_law_table" (cCons (cVar 1) (cCons (cVar 4) (cCons (cVar 4) cNil)))) (cCons (cCall call 1 "_law_unit" (cCons (cVar 4) cNil)) cNil)))
    (sSeq (sFor (cItR rng1 (cCons (cVal (.int 5)) cNil)) (.nm 11) (sSeq (sIf (tcNot (tcVal (cCall call 3 "_law_tells" (cCons (cVal (.glo "table_power")) (cCons (cTup (cCons (cVar 9) (cCons (cVar 11) cNil))) (cCons (cVar 10) cNil)))))) (sSeq (sRet (cVal (.bl false)))
    sSkip) sSkip)
    (sSeq (sAsg (cCall call 2 "_law_product" (cCons (cVar 10) (cCons (cVar 9) cNil))) (gNm 10))
    sSkip)))
    (sSeq (sIf (tcAnd (tcCmp .NotEq (cVar 3) (cVar 2)) (tcOr (tcNot (tcVal (cCall call 3 "_law_raises" (cCons (cVal (.glo "table_sum")) (cCons (cTup (cCons (cVar 5) (cCons (cCall call 1 "table_turned" (cCons (cVar 6) cNil)) cNil))) (cCons (cVal (.str "malformed")) cNil)))))) (tcOr (tcNot (tcVal (cCall call 3 "_law_raises" (cCons (cVal (.glo "table_power")) (cCons (cTup (cCons (cVar 5) (cCons (cVal (.int 1)) cNil))) (cCons (cVal (.str "malformed")) cNil)))))) (tcNot (tcVal (cCall call 3 "_law_raises" (cCons (cVal (.glo "table_product")) (cCons (cTup (cCons (cVar 5) (cCons (cVar 6) cNil))) (cCons (cVal (.str "malformed")) cNil))))))))) (sSeq (sRet (cVal (.bl false)))
    sSkip) sSkip)
    (sSeq (sFor (cItV (cTup (cCons (cVal (.glo "table_sum")) (cCons (cVal (.glo "table_less")) cNil)))) (.nm 12) (sSeq (sIf (tcOr (tcNot (tcVal (cCall call 3 "_law_raises" (cCons (cVar 12) (cCons (cTup (cCons (cVar 5) (cCons (cBin big .Add (cVar 5) (cSl (cVar 5) cNoPart (cPart (cVal (.int 1))))) cNil))) (cCons (cVal (.str "malformed")) cNil)))))) (tcOr (tcNot (tcVal (cCall call 3 "_law_raises" (cCons (cVar 12) (cCons (cTup (cCons (cVar 5) (cCons (cQ1 tupQ (cSeqF (cComp (cItV (cVar 5)) [15] (.nm 15) cTrue (cBin big .Add (cVar 15) (cSl (cVar 15) cNoPart (cPart (cVal (.int 1)))))))) cNil))) (cCons (cVal (.str "malformed")) cNil)))))) (tcNot (tcVal (cCall call 3 "_law_tells" (cCons (cVar 12) (cCons (cTup (cCons (cTup cNil) (cCons (cTup cNil) cNil))) (cCons (cTup cNil) cNil)))))))) (sSeq (sRet (cVal (.bl false)))
    sSkip) sSkip)
    sSkip))
    (sSeq (sFor (cItF (cLst (cCons (cTup (cCons (cVal (.glo "table_product")) (cCons (cTup (cCons (cTup cNil) (cCons (cTup cNil) cNil))) cNil))) (cCons (cTup (cCons (cVal (.glo "table_scaled")) (cCons (cTup (cCons (cTup cNil) (cCons (cVar 8) cNil))) cNil))) (cCons (cTup (cCons (cVal (.glo "table_turned")) (cCons (cTup (cCons (cTup cNil) cNil)) cNil))) (cCons (cTup (cCons (cVal (.glo "table_part")) (cCons (cTup (cCons (cTup cNil) (cCons (cTup cNil) (cCons (cTup cNil) cNil)))) cNil))) (cCons (cTup (cCons (cVal (.glo "table_power")) (cCons (cTup (cCons (cTup cNil) (cCons (cVal (.int 3)) cNil))) cNil))) (cCons (cTup (cCons (cVal (.glo "unit_table")) (cCons (cTup (cCons (cVal (.int 0)) cNil)) cNil))) cNil)))))))) (.tp [(.nm 12), (.nm 13)]) (sSeq (sIf (tcNot (tcVal (cCall call 3 "_law_tells" (cCons (cVar 12) (cCons (cVar 13) (cCons (cTup cNil) cNil)))))) (sSeq (sRet (cVal (.bl false)))
    sSkip) sSkip)
    sSkip))
    (sSeq (sRet (cAnd (cCall call 2 "_law_forms_hold" (cCons (cVar 1) (cCons (cVar 5) cNil))) (cAnd (cCall call 2 "_law_parts_hold" (cCons (cVar 1) (cCons (cVar 5) cNil))) (cCall call 1 "_law_wide_holds" (cCons (cVar 1) cNil)))))
    sSkip)))))))))))))
theorem e_law (k : Nat) (call : CallT) : bodyOf prg ⟨"law", 1, ["script", "state", "p", "q", "r", "S", "T", "V", "c", "Q", "found", "e", "f", "given", "i", "row", "j", "x"], defScope (top 72), defBody (top 72), []⟩ k call = b_law call (decide (32 ≤ k)) := by kernel_rfl
theorem k_law (k : Nat) (ws : List W) (h : Store) : callK prg (k + 1) "law" ws h = if ws.length = 1 then finish h (b_law (callK prg k) (decide (32 ≤ k)) (startR ["script", "state", "p", "q", "r", "S", "T", "V", "c", "Q", "found", "e", "f", "given", "i", "row", "j", "x"] ws) h) else .bad := by
  rw [← e_law]
  rfl
end K01
end
section
set_option Elab.async false
set_option linter.all false
set_option maxRecDepth 100000
set_option maxHeartbeats 0
namespace K01
open PySem PySem.Spec PyProof.Rows Wv L2
section
variable {K : PySem.W.Frag} {h : Heap} {mg : Str → Option Value}
theorem w_is_integer (X : K.In h) (G : h.Ns mainGlobals mg) (c : He.SaysD fa fn K) : FnTold K mg ⟨"is_integer", 1, ["value"], defScope (top 5), defBody (top 5), []⟩ := by
  obtain ⟨fd, F⟩ := c.def_ 0 (d := dd "is_integer" "is_integer" 5 []) rfl
  exact ⟨_, fd, _, _, _, He.glo_ok X G (c.fact 0 (f := .glo "is_integer") rfl), rfl, F, .nil (FunD.bindsN (ps := ["value"]) F fun _ _ _ _ _ _ us hl => match us, hl with | [_], _ => rfl)⟩
theorem w_greatest_common (X : K.In h) (G : h.Ns mainGlobals mg) (c : He.SaysD fa fn K) : FnTold K mg ⟨"greatest_common", 2, ["a", "b"], defScope (top 6), defBody (top 6), []⟩ := by
  obtain ⟨fd, F⟩ := c.def_ 1 (d := dd "greatest_common" "greatest_common" 6 []) rfl
  exact ⟨_, fd, _, _, _, He.glo_ok X G (c.fact 1 (f := .glo "greatest_common") rfl), rfl, F, .nil (FunD.bindsN (ps := ["a", "b"]) F fun _ _ _ _ _ _ us hl => match us, hl with | [_, _], _ => rfl)⟩
theorem w_lowest_whole (X : K.In h) (G : h.Ns mainGlobals mg) (c : He.SaysD fa fn K) : FnTold K mg ⟨"lowest_whole", 2, ["n", "d", "g"], defScope (top 7), defBody (top 7), []⟩ := by
  obtain ⟨fd, F⟩ := c.def_ 2 (d := dd "lowest_whole" "lowest" 7 []) rfl
  exact ⟨_, fd, _, _, _, He.glo_ok X G (c.fact 2 (f := .glo "lowest_whole") rfl), rfl, F, .nil (FunD.bindsN (ps := ["n", "d"]) F fun _ _ _ _ _ _ us hl => match us, hl with | [_, _], _ => rfl)⟩
theorem w_is_ratio (X : K.In h) (G : h.Ns mainGlobals mg) (c : He.SaysD fa fn K) : FnTold K mg ⟨"is_ratio", 1, ["value"], defScope (top 9), defBody (top 9), []⟩ := by
  obtain ⟨fd, F⟩ := c.def_ 3 (d := dd "is_ratio" "is_ratio" 9 []) rfl
  exact ⟨_, fd, _, _, _, He.glo_ok X G (c.fact 3 (f := .glo "is_ratio") rfl), rfl, F, .nil (FunD.bindsN (ps := ["value"]) F fun _ _ _ _ _ _ us hl => match us, hl with | [_], _ => rfl)⟩
theorem w_ratio_sum (X : K.In h) (G : h.Ns mainGlobals mg) (c : He.SaysD fa fn K) : FnTold K mg ⟨"ratio_sum", 2, ["a", "b"], defScope (top 10), defBody (top 10), []⟩ := by
  obtain ⟨fd, F⟩ := c.def_ 4 (d := dd "ratio_sum" "ratio_sum" 10 []) rfl
  exact ⟨_, fd, _, _, _, He.glo_ok X G (c.fact 4 (f := .glo "ratio_sum") rfl), rfl, F, .nil (FunD.bindsN (ps := ["a", "b"]) F fun _ _ _ _ _ _ us hl => match us, hl with | [_, _], _ => rfl)⟩
theorem w_ratio_less (X : K.In h) (G : h.Ns mainGlobals mg) (c : He.SaysD fa fn K) : FnTold K mg ⟨"ratio_less", 2, ["a", "b"], defScope (top 11), defBody (top 11), []⟩ := by
  obtain ⟨fd, F⟩ := c.def_ 5 (d := dd "ratio_less" "ratio_less" 11 []) rfl
  exact ⟨_, fd, _, _, _, He.glo_ok X G (c.fact 5 (f := .glo "ratio_less") rfl), rfl, F, .nil (FunD.bindsN (ps := ["a", "b"]) F fun _ _ _ _ _ _ us hl => match us, hl with | [_, _], _ => rfl)⟩
theorem w_ratio_product (X : K.In h) (G : h.Ns mainGlobals mg) (c : He.SaysD fa fn K) : FnTold K mg ⟨"ratio_product", 2, ["a", "b"], defScope (top 12), defBody (top 12), []⟩ := by
  obtain ⟨fd, F⟩ := c.def_ 6 (d := dd "ratio_product" "ratio_product" 12 []) rfl
  exact ⟨_, fd, _, _, _, He.glo_ok X G (c.fact 6 (f := .glo "ratio_product") rfl), rfl, F, .nil (FunD.bindsN (ps := ["a", "b"]) F fun _ _ _ _ _ _ us hl => match us, hl with | [_, _], _ => rfl)⟩
theorem w_check_number (X : K.In h) (G : h.Ns mainGlobals mg) (c : He.SaysD fa fn K) : FnTold K mg ⟨"check_number", 2, ["value", "most"], defScope (top 18), defBody (top 18), []⟩ := by
  obtain ⟨fd, F⟩ := c.def_ 7 (d := dd "check_number" "check_number" 18 []) rfl
  exact ⟨_, fd, _, _, _, He.glo_ok X G (c.fact 7 (f := .glo "check_number") rfl), rfl, F, .nil (FunD.bindsN (ps := ["value", "most"]) F fun _ _ _ _ _ _ us hl => match us, hl with | [_, _], _ => rfl)⟩
theorem w_is_any_table (X : K.In h) (G : h.Ns mainGlobals mg) (c : He.SaysD fa fn K) : FnTold K mg ⟨"is_any_table", 1, ["value", "row", "item"], defScope (top 19), defBody (top 19), []⟩ := by
  obtain ⟨fd, F⟩ := c.def_ 8 (d := dd "is_any_table" "is_any_table" 19 []) rfl
  exact ⟨_, fd, _, _, _, He.glo_ok X G (c.fact 8 (f := .glo "is_any_table") rfl), rfl, F, .nil (FunD.bindsN (ps := ["value"]) F fun _ _ _ _ _ _ us hl => match us, hl with | [_], _ => rfl)⟩
theorem w_width_of (X : K.In h) (G : h.Ns mainGlobals mg) (c : He.SaysD fa fn K) : FnTold K mg ⟨"width_of", 1, ["T"], defScope (top 20), defBody (top 20), []⟩ := by
  obtain ⟨fd, F⟩ := c.def_ 9 (d := dd "width_of" "width_of" 20 []) rfl
  exact ⟨_, fd, _, _, _, He.glo_ok X G (c.fact 9 (f := .glo "width_of") rfl), rfl, F, .nil (FunD.bindsN (ps := ["T"]) F fun _ _ _ _ _ _ us hl => match us, hl with | [_], _ => rfl)⟩
theorem w_is_table (X : K.In h) (G : h.Ns mainGlobals mg) (c : He.SaysD fa fn K) : FnTold K mg ⟨"is_table", 3, ["value", "rows", "columns", "many"], defScope (top 21), defBody (top 21), [.non, .non]⟩ := by
  obtain ⟨fd, F⟩ := c.def_ 10 (d := dd "is_table" "is_table" 21 [.non, .non]) rfl
  refine ⟨_, fd, _, _, _, He.glo_ok X G (c.fact 10 (f := .glo "is_table") rfl), rfl, F, bindsW_by (ps := ["value", "rows", "columns"]) (dvs := [.non, .non]) F (by simp) (fun m H => .cons (.non) (.cons (.non) (.nil))) rfl (by decide) fun j hj T kV doc pm an cdv ct us its h1 h2 => ?_⟩
  have e : j = 0 ∨ j = 1 ∨ j = 2 := by simp at hj; omega
  rcases e with rfl | rfl | rfl
  · have h1 : us.length = 1 := h1
    have h2 : its.length = 2 := h2
    exact match us, its, h1, h2 with | [_], [_, _], _, _ => ⟨_, rfl, rfl⟩
  · have h1 : us.length = 2 := h1
    have h2 : its.length = 2 := h2
    exact match us, its, h1, h2 with | [_, _], [_, _], _, _ => ⟨_, rfl, rfl⟩
  · have h1 : us.length = 3 := h1
    have h2 : its.length = 2 := h2
    exact match us, its, h1, h2 with | [_, _, _], [_, _], _, _ => ⟨_, rfl, rfl⟩
theorem w_check_table (X : K.In h) (G : h.Ns mainGlobals mg) (c : He.SaysD fa fn K) : FnTold K mg ⟨"check_table", 1, ["T"], defScope (top 22), defBody (top 22), []⟩ := by
  obtain ⟨fd, F⟩ := c.def_ 11 (d := dd "check_table" "check_table" 22 []) rfl
  exact ⟨_, fd, _, _, _, He.glo_ok X G (c.fact 11 (f := .glo "check_table") rfl), rfl, F, .nil (FunD.bindsN (ps := ["T"]) F fun _ _ _ _ _ _ us hl => match us, hl with | [_], _ => rfl)⟩
theorem w_check_square (X : K.In h) (G : h.Ns mainGlobals mg) (c : He.SaysD fa fn K) : FnTold K mg ⟨"check_square", 1, ["T"], defScope (top 23), defBody (top 23), []⟩ := by
  obtain ⟨fd, F⟩ := c.def_ 12 (d := dd "check_square" "check_square" 23 []) rfl
  exact ⟨_, fd, _, _, _, He.glo_ok X G (c.fact 12 (f := .glo "check_square") rfl), rfl, F, .nil (FunD.bindsN (ps := ["T"]) F fun _ _ _ _ _ _ us hl => match us, hl with | [_], _ => rfl)⟩
theorem w_check_alike (X : K.In h) (G : h.Ns mainGlobals mg) (c : He.SaysD fa fn K) : FnTold K mg ⟨"check_alike", 2, ["S", "T"], defScope (top 24), defBody (top 24), []⟩ := by
  obtain ⟨fd, F⟩ := c.def_ 13 (d := dd "check_alike" "check_alike" 24 []) rfl
  exact ⟨_, fd, _, _, _, He.glo_ok X G (c.fact 13 (f := .glo "check_alike") rfl), rfl, F, .nil (FunD.bindsN (ps := ["S", "T"]) F fun _ _ _ _ _ _ us hl => match us, hl with | [_, _], _ => rfl)⟩
theorem w_unit_of (X : K.In h) (G : h.Ns mainGlobals mg) (c : He.SaysD fa fn K) : FnTold K mg ⟨"unit_of", 1, ["n", "i", "j"], defScope (top 25), defBody (top 25), []⟩ := by
  obtain ⟨fd, F⟩ := c.def_ 14 (d := dd "unit_of" "unit_of" 25 []) rfl
  exact ⟨_, fd, _, _, _, He.glo_ok X G (c.fact 14 (f := .glo "unit_of") rfl), rfl, F, .nil (FunD.bindsN (ps := ["n"]) F fun _ _ _ _ _ _ us hl => match us, hl with | [_], _ => rfl)⟩
theorem w_unit_table (X : K.In h) (G : h.Ns mainGlobals mg) (c : He.SaysD fa fn K) : FnTold K mg ⟨"unit_table", 1, ["n"], defScope (top 26), defBody (top 26), []⟩ := by
  obtain ⟨fd, F⟩ := c.def_ 15 (d := dd "unit_table" "unit_table" 26 []) rfl
  exact ⟨_, fd, _, _, _, He.glo_ok X G (c.fact 15 (f := .glo "unit_table") rfl), rfl, F, .nil (FunD.bindsN (ps := ["n"]) F fun _ _ _ _ _ _ us hl => match us, hl with | [_], _ => rfl)⟩
theorem w_table_sum (X : K.In h) (G : h.Ns mainGlobals mg) (c : He.SaysD fa fn K) : FnTold K mg ⟨"table_sum", 2, ["S", "T", "s", "t", "a", "b"], defScope (top 27), defBody (top 27), []⟩ := by
  obtain ⟨fd, F⟩ := c.def_ 16 (d := dd "table_sum" "table_sum" 27 []) rfl
  exact ⟨_, fd, _, _, _, He.glo_ok X G (c.fact 16 (f := .glo "table_sum") rfl), rfl, F, .nil (FunD.bindsN (ps := ["S", "T"]) F fun _ _ _ _ _ _ us hl => match us, hl with | [_, _], _ => rfl)⟩
theorem w_table_less (X : K.In h) (G : h.Ns mainGlobals mg) (c : He.SaysD fa fn K) : FnTold K mg ⟨"table_less", 2, ["S", "T", "s", "t", "a", "b"], defScope (top 28), defBody (top 28), []⟩ := by
  obtain ⟨fd, F⟩ := c.def_ 17 (d := dd "table_less" "table_less" 28 []) rfl
  exact ⟨_, fd, _, _, _, He.glo_ok X G (c.fact 17 (f := .glo "table_less") rfl), rfl, F, .nil (FunD.bindsN (ps := ["S", "T"]) F fun _ _ _ _ _ _ us hl => match us, hl with | [_, _], _ => rfl)⟩
theorem w_table_scaled (X : K.In h) (G : h.Ns mainGlobals mg) (c : He.SaysD fa fn K) : FnTold K mg ⟨"table_scaled", 2, ["T", "c", "row", "a"], defScope (top 29), defBody (top 29), []⟩ := by
  obtain ⟨fd, F⟩ := c.def_ 18 (d := dd "table_scaled" "table_scaled" 29 []) rfl
  exact ⟨_, fd, _, _, _, He.glo_ok X G (c.fact 18 (f := .glo "table_scaled") rfl), rfl, F, .nil (FunD.bindsN (ps := ["T", "c"]) F fun _ _ _ _ _ _ us hl => match us, hl with | [_, _], _ => rfl)⟩
theorem w_common_multiple (X : K.In h) (G : h.Ns mainGlobals mg) (c : He.SaysD fa fn K) : FnTold K mg ⟨"common_multiple", 1, ["row", "found", "item"], defScope (top 30), defBody (top 30), []⟩ := by
  obtain ⟨fd, F⟩ := c.def_ 19 (d := dd "common_multiple" "common_multiple" 30 []) rfl
  exact ⟨_, fd, _, _, _, He.glo_ok X G (c.fact 19 (f := .glo "common_multiple") rfl), rfl, F, .nil (FunD.bindsN (ps := ["row"]) F fun _ _ _ _ _ _ us hl => match us, hl with | [_], _ => rfl)⟩
theorem w_whole_row (X : K.In h) (G : h.Ns mainGlobals mg) (c : He.SaysD fa fn K) : FnTold K mg ⟨"whole_row", 1, ["row", "d", "item"], defScope (top 31), defBody (top 31), []⟩ := by
  obtain ⟨fd, F⟩ := c.def_ 20 (d := dd "whole_row" "whole_row" 31 []) rfl
  exact ⟨_, fd, _, _, _, He.glo_ok X G (c.fact 20 (f := .glo "whole_row") rfl), rfl, F, .nil (FunD.bindsN (ps := ["row"]) F fun _ _ _ _ _ _ us hl => match us, hl with | [_], _ => rfl)⟩
theorem w_lowest (X : K.In h) (G : h.Ns mainGlobals mg) (c : He.SaysD fa fn K) : FnTold K mg ⟨"lowest", 2, ["n", "d", "g"], defScope (top 32), defBody (top 32), []⟩ := by
  obtain ⟨fd, F⟩ := c.def_ 21 (d := dd "lowest" "lowest" 32 []) rfl
  exact ⟨_, fd, _, _, _, He.glo_ok X G (c.fact 21 (f := .glo "lowest") rfl), rfl, F, .nil (FunD.bindsN (ps := ["n", "d"]) F fun _ _ _ _ _ _ us hl => match us, hl with | [_, _], _ => rfl)⟩
theorem w_lowest_tables (X : K.In h) (G : h.Ns mainGlobals mg) (c : He.SaysD fa fn K) : FnTold K mg ⟨"lowest_tables", 2, ["n", "d", "g"], defScope (top 32), defBody (top 32), []⟩ := by
  obtain ⟨fd, F⟩ := c.def_ 22 (d := dd "lowest_tables" "lowest" 32 []) rfl
  exact ⟨_, fd, _, _, _, He.glo_ok X G (c.fact 22 (f := .glo "lowest_tables") rfl), rfl, F, .nil (FunD.bindsN (ps := ["n", "d"]) F fun _ _ _ _ _ _ us hl => match us, hl with | [_, _], _ => rfl)⟩
theorem w_turned (X : K.In h) (G : h.Ns mainGlobals mg) (c : He.SaysD fa fn K) : FnTold K mg ⟨"turned", 1, ["T", "j", "row"], defScope (top 34), defBody (top 34), []⟩ := by
  obtain ⟨fd, F⟩ := c.def_ 23 (d := dd "turned" "turned" 34 []) rfl
  exact ⟨_, fd, _, _, _, He.glo_ok X G (c.fact 23 (f := .glo "turned") rfl), rfl, F, .nil (FunD.bindsN (ps := ["T"]) F fun _ _ _ _ _ _ us hl => match us, hl with | [_], _ => rfl)⟩
theorem w_multiplied (X : K.In h) (G : h.Ns mainGlobals mg) (c : He.SaysD fa fn K) : FnTold K mg ⟨"multiplied", 2, ["S", "T", "rows", "columns", "row", "column", "d", "e", "a", "b"], defScope (top 35), defBody (top 35), []⟩ := by
  obtain ⟨fd, F⟩ := c.def_ 24 (d := dd "multiplied" "multiplied" 35 []) rfl
  exact ⟨_, fd, _, _, _, He.glo_ok X G (c.fact 24 (f := .glo "multiplied") rfl), rfl, F, .nil (FunD.bindsN (ps := ["S", "T"]) F fun _ _ _ _ _ _ us hl => match us, hl with | [_, _], _ => rfl)⟩
theorem w_table_product (X : K.In h) (G : h.Ns mainGlobals mg) (c : He.SaysD fa fn K) : FnTold K mg ⟨"table_product", 2, ["S", "T"], defScope (top 36), defBody (top 36), []⟩ := by
  obtain ⟨fd, F⟩ := c.def_ 25 (d := dd "table_product" "table_product" 36 []) rfl
  exact ⟨_, fd, _, _, _, He.glo_ok X G (c.fact 25 (f := .glo "table_product") rfl), rfl, F, .nil (FunD.bindsN (ps := ["S", "T"]) F fun _ _ _ _ _ _ us hl => match us, hl with | [_, _], _ => rfl)⟩
theorem w_table_power (X : K.In h) (G : h.Ns mainGlobals mg) (c : He.SaysD fa fn K) : FnTold K mg ⟨"table_power", 2, ["T", "e", "found", "_"], defScope (top 37), defBody (top 37), []⟩ := by
  obtain ⟨fd, F⟩ := c.def_ 26 (d := dd "table_power" "table_power" 37 []) rfl
  exact ⟨_, fd, _, _, _, He.glo_ok X G (c.fact 26 (f := .glo "table_power") rfl), rfl, F, .nil (FunD.bindsN (ps := ["T", "e"]) F fun _ _ _ _ _ _ us hl => match us, hl with | [_, _], _ => rfl)⟩
theorem w_table_turned (X : K.In h) (G : h.Ns mainGlobals mg) (c : He.SaysD fa fn K) : FnTold K mg ⟨"table_turned", 1, ["T"], defScope (top 38), defBody (top 38), []⟩ := by
  obtain ⟨fd, F⟩ := c.def_ 27 (d := dd "table_turned" "table_turned" 38 []) rfl
  exact ⟨_, fd, _, _, _, He.glo_ok X G (c.fact 27 (f := .glo "table_turned") rfl), rfl, F, .nil (FunD.bindsN (ps := ["T"]) F fun _ _ _ _ _ _ us hl => match us, hl with | [_], _ => rfl)⟩
theorem w_is_choice (X : K.In h) (G : h.Ns mainGlobals mg) (c : He.SaysD fa fn K) : FnTold K mg ⟨"is_choice", 2, ["value", "n", "a", "b", "x"], defScope (top 39), defBody (top 39), []⟩ := by
  obtain ⟨fd, F⟩ := c.def_ 28 (d := dd "is_choice" "is_choice" 39 []) rfl
  exact ⟨_, fd, _, _, _, He.glo_ok X G (c.fact 28 (f := .glo "is_choice") rfl), rfl, F, .nil (FunD.bindsN (ps := ["value", "n"]) F fun _ _ _ _ _ _ us hl => match us, hl with | [_, _], _ => rfl)⟩
theorem w_check_choices (X : K.In h) (G : h.Ns mainGlobals mg) (c : He.SaysD fa fn K) : FnTold K mg ⟨"check_choices", 3, ["T", "rows", "columns"], defScope (top 40), defBody (top 40), []⟩ := by
  obtain ⟨fd, F⟩ := c.def_ 29 (d := dd "check_choices" "check_choices" 40 []) rfl
  exact ⟨_, fd, _, _, _, He.glo_ok X G (c.fact 29 (f := .glo "check_choices") rfl), rfl, F, .nil (FunD.bindsN (ps := ["T", "rows", "columns"]) F fun _ _ _ _ _ _ us hl => match us, hl with | [_, _, _], _ => rfl)⟩
theorem w_part_of (X : K.In h) (G : h.Ns mainGlobals mg) (c : He.SaysD fa fn K) : FnTold K mg ⟨"part_of", 3, ["T", "rows", "columns", "i", "j"], defScope (top 41), defBody (top 41), []⟩ := by
  obtain ⟨fd, F⟩ := c.def_ 30 (d := dd "part_of" "part_of" 41 []) rfl
  exact ⟨_, fd, _, _, _, He.glo_ok X G (c.fact 30 (f := .glo "part_of") rfl), rfl, F, .nil (FunD.bindsN (ps := ["T", "rows", "columns"]) F fun _ _ _ _ _ _ us hl => match us, hl with | [_, _, _], _ => rfl)⟩
theorem w_table_part (X : K.In h) (G : h.Ns mainGlobals mg) (c : He.SaysD fa fn K) : FnTold K mg ⟨"table_part", 3, ["T", "rows", "columns"], defScope (top 42), defBody (top 42), []⟩ := by
  obtain ⟨fd, F⟩ := c.def_ 31 (d := dd "table_part" "table_part" 42 []) rfl
  exact ⟨_, fd, _, _, _, He.glo_ok X G (c.fact 31 (f := .glo "table_part") rfl), rfl, F, .nil (FunD.bindsN (ps := ["T", "rows", "columns"]) F fun _ _ _ _ _ _ us hl => match us, hl with | [_, _, _], _ => rfl)⟩
theorem w__law_state (X : K.In h) (G : h.Ns mainGlobals mg) (c : He.SaysD fa fn K) : FnTold K mg ⟨"_law_state", 1, ["script", "seed", "total", "cell"], defScope (top 44), defBody (top 44), []⟩ := by
  obtain ⟨fd, F⟩ := c.def_ 32 (d := dd "_law_state" "_law_state" 44 []) rfl
  exact ⟨_, fd, _, _, _, He.glo_ok X G (c.fact 32 (f := .glo "_law_state") rfl), rfl, F, .nil (FunD.bindsN (ps := ["script"]) F fun _ _ _ _ _ _ us hl => match us, hl with | [_], _ => rfl)⟩
theorem w__law_take (X : K.In h) (G : h.Ns mainGlobals mg) (c : He.SaysD fa fn K) : FnTold K mg ⟨"_law_take", 2, ["state", "m", "value"], defScope (top 45), defBody (top 45), []⟩ := by
  obtain ⟨fd, F⟩ := c.def_ 33 (d := dd "_law_take" "_law_take" 45 []) rfl
  exact ⟨_, fd, _, _, _, He.glo_ok X G (c.fact 33 (f := .glo "_law_take") rfl), rfl, F, .nil (FunD.bindsN (ps := ["state", "m"]) F fun _ _ _ _ _ _ us hl => match us, hl with | [_, _], _ => rfl)⟩
theorem w__law_same (X : K.In h) (G : h.Ns mainGlobals mg) (c : He.SaysD fa fn K) : FnTold K mg ⟨"_law_same", 2, ["value", "due", "k"], defScope (top 46), defBody (top 46), []⟩ := by
  obtain ⟨fd, F⟩ := c.def_ 34 (d := dd "_law_same" "_law_same" 46 []) rfl
  exact ⟨_, fd, _, _, _, He.glo_ok X G (c.fact 34 (f := .glo "_law_same") rfl), rfl, F, .nil (FunD.bindsN (ps := ["value", "due"]) F fun _ _ _ _ _ _ us hl => match us, hl with | [_, _], _ => rfl)⟩
theorem w__law_told (X : K.In h) (G : h.Ns mainGlobals mg) (c : He.SaysD fa fn K) : FnTold K mg ⟨"_law_told", 2, ["f", "given", "error"], defScope (top 47), defBody (top 47), []⟩ := by
  obtain ⟨fd, F⟩ := c.def_ 35 (d := dd "_law_told" "_law_told" 47 []) rfl
  exact ⟨_, fd, _, _, _, He.glo_ok X G (c.fact 35 (f := .glo "_law_told") rfl), rfl, F, .nil (FunD.bindsN (ps := ["f", "given"]) F fun _ _ _ _ _ _ us hl => match us, hl with | [_, _], _ => rfl)⟩
theorem w__law_is_told (X : K.In h) (G : h.Ns mainGlobals mg) (c : He.SaysD fa fn K) : FnTold K mg ⟨"_law_is_told", 2, ["pair", "due"], defScope (top 48), defBody (top 48), []⟩ := by
  obtain ⟨fd, F⟩ := c.def_ 36 (d := dd "_law_is_told" "_law_is_told" 48 []) rfl
  exact ⟨_, fd, _, _, _, He.glo_ok X G (c.fact 36 (f := .glo "_law_is_told") rfl), rfl, F, .nil (FunD.bindsN (ps := ["pair", "due"]) F fun _ _ _ _ _ _ us hl => match us, hl with | [_, _], _ => rfl)⟩
theorem w__law_is_raised (X : K.In h) (G : h.Ns mainGlobals mg) (c : He.SaysD fa fn K) : FnTold K mg ⟨"_law_is_raised", 2, ["pair", "reason"], defScope (top 49), defBody (top 49), []⟩ := by
  obtain ⟨fd, F⟩ := c.def_ 37 (d := dd "_law_is_raised" "_law_is_raised" 49 []) rfl
  exact ⟨_, fd, _, _, _, He.glo_ok X G (c.fact 37 (f := .glo "_law_is_raised") rfl), rfl, F, .nil (FunD.bindsN (ps := ["pair", "reason"]) F fun _ _ _ _ _ _ us hl => match us, hl with | [_, _], _ => rfl)⟩
theorem w__law_tells (X : K.In h) (G : h.Ns mainGlobals mg) (c : He.SaysD fa fn K) : FnTold K mg ⟨"_law_tells", 3, ["f", "given", "due"], defScope (top 50), defBody (top 50), []⟩ := by
  obtain ⟨fd, F⟩ := c.def_ 38 (d := dd "_law_tells" "_law_tells" 50 []) rfl
  exact ⟨_, fd, _, _, _, He.glo_ok X G (c.fact 38 (f := .glo "_law_tells") rfl), rfl, F, .nil (FunD.bindsN (ps := ["f", "given", "due"]) F fun _ _ _ _ _ _ us hl => match us, hl with | [_, _, _], _ => rfl)⟩
theorem w__law_raises (X : K.In h) (G : h.Ns mainGlobals mg) (c : He.SaysD fa fn K) : FnTold K mg ⟨"_law_raises", 3, ["f", "given", "reason"], defScope (top 51), defBody (top 51), []⟩ := by
  obtain ⟨fd, F⟩ := c.def_ 39 (d := dd "_law_raises" "_law_raises" 51 []) rfl
  exact ⟨_, fd, _, _, _, He.glo_ok X G (c.fact 39 (f := .glo "_law_raises") rfl), rfl, F, .nil (FunD.bindsN (ps := ["f", "given", "reason"]) F fun _ _ _ _ _ _ us hl => match us, hl with | [_, _, _], _ => rfl)⟩
theorem w__law_frac (X : K.In h) (G : h.Ns mainGlobals mg) (c : He.SaysD fa fn K) : FnTold K mg ⟨"_law_frac", 2, ["n", "d", "a", "b"], defScope (top 52), defBody (top 52), []⟩ := by
  obtain ⟨fd, F⟩ := c.def_ 40 (d := dd "_law_frac" "_law_frac" 52 []) rfl
  exact ⟨_, fd, _, _, _, He.glo_ok X G (c.fact 40 (f := .glo "_law_frac") rfl), rfl, F, .nil (FunD.bindsN (ps := ["n", "d"]) F fun _ _ _ _ _ _ us hl => match us, hl with | [_, _], _ => rfl)⟩
theorem w__law_add (X : K.In h) (G : h.Ns mainGlobals mg) (c : He.SaysD fa fn K) : FnTold K mg ⟨"_law_add", 2, ["x", "y"], defScope (top 53), defBody (top 53), []⟩ := by
  obtain ⟨fd, F⟩ := c.def_ 41 (d := dd "_law_add" "_law_add" 53 []) rfl
  exact ⟨_, fd, _, _, _, He.glo_ok X G (c.fact 41 (f := .glo "_law_add") rfl), rfl, F, .nil (FunD.bindsN (ps := ["x", "y"]) F fun _ _ _ _ _ _ us hl => match us, hl with | [_, _], _ => rfl)⟩
theorem w__law_less (X : K.In h) (G : h.Ns mainGlobals mg) (c : He.SaysD fa fn K) : FnTold K mg ⟨"_law_less", 2, ["x", "y"], defScope (top 54), defBody (top 54), []⟩ := by
  obtain ⟨fd, F⟩ := c.def_ 42 (d := dd "_law_less" "_law_less" 54 []) rfl
  exact ⟨_, fd, _, _, _, He.glo_ok X G (c.fact 42 (f := .glo "_law_less") rfl), rfl, F, .nil (FunD.bindsN (ps := ["x", "y"]) F fun _ _ _ _ _ _ us hl => match us, hl with | [_, _], _ => rfl)⟩
theorem w__law_mul (X : K.In h) (G : h.Ns mainGlobals mg) (c : He.SaysD fa fn K) : FnTold K mg ⟨"_law_mul", 2, ["x", "y"], defScope (top 55), defBody (top 55), []⟩ := by
  obtain ⟨fd, F⟩ := c.def_ 43 (d := dd "_law_mul" "_law_mul" 55 []) rfl
  exact ⟨_, fd, _, _, _, He.glo_ok X G (c.fact 43 (f := .glo "_law_mul") rfl), rfl, F, .nil (FunD.bindsN (ps := ["x", "y"]) F fun _ _ _ _ _ _ us hl => match us, hl with | [_, _], _ => rfl)⟩
theorem w__law_total (X : K.In h) (G : h.Ns mainGlobals mg) (c : He.SaysD fa fn K) : FnTold K mg ⟨"_law_total", 1, ["items", "found", "x"], defScope (top 56), defBody (top 56), []⟩ := by
  obtain ⟨fd, F⟩ := c.def_ 44 (d := dd "_law_total" "_law_total" 56 []) rfl
  exact ⟨_, fd, _, _, _, He.glo_ok X G (c.fact 44 (f := .glo "_law_total") rfl), rfl, F, .nil (FunD.bindsN (ps := ["items"]) F fun _ _ _ _ _ _ us hl => match us, hl with | [_], _ => rfl)⟩
theorem w__law_times (X : K.In h) (G : h.Ns mainGlobals mg) (c : He.SaysD fa fn K) : FnTold K mg ⟨"_law_times", 1, ["items", "found", "x"], defScope (top 57), defBody (top 57), []⟩ := by
  obtain ⟨fd, F⟩ := c.def_ 45 (d := dd "_law_times" "_law_times" 57 []) rfl
  exact ⟨_, fd, _, _, _, He.glo_ok X G (c.fact 45 (f := .glo "_law_times") rfl), rfl, F, .nil (FunD.bindsN (ps := ["items"]) F fun _ _ _ _ _ _ us hl => match us, hl with | [_], _ => rfl)⟩
theorem w__law_dot (X : K.In h) (G : h.Ns mainGlobals mg) (c : He.SaysD fa fn K) : FnTold K mg ⟨"_law_dot", 2, ["one", "two", "k"], defScope (top 58), defBody (top 58), []⟩ := by
  obtain ⟨fd, F⟩ := c.def_ 46 (d := dd "_law_dot" "_law_dot" 58 []) rfl
  exact ⟨_, fd, _, _, _, He.glo_ok X G (c.fact 46 (f := .glo "_law_dot") rfl), rfl, F, .nil (FunD.bindsN (ps := ["one", "two"]) F fun _ _ _ _ _ _ us hl => match us, hl with | [_, _], _ => rfl)⟩
theorem w__law_drawn (X : K.In h) (G : h.Ns mainGlobals mg) (c : He.SaysD fa fn K) : FnTold K mg ⟨"_law_drawn", 1, ["state"], defScope (top 59), defBody (top 59), []⟩ := by
  obtain ⟨fd, F⟩ := c.def_ 47 (d := dd "_law_drawn" "_law_drawn" 59 []) rfl
  exact ⟨_, fd, _, _, _, He.glo_ok X G (c.fact 47 (f := .glo "_law_drawn") rfl), rfl, F, .nil (FunD.bindsN (ps := ["state"]) F fun _ _ _ _ _ _ us hl => match us, hl with | [_], _ => rfl)⟩
theorem w__law_pick (X : K.In h) (G : h.Ns mainGlobals mg) (c : He.SaysD fa fn K) : FnTold K mg ⟨"_law_pick", 3, ["state", "n", "k", "left", "found", "t"], defScope (top 60), defBody (top 60), []⟩ := by
  obtain ⟨fd, F⟩ := c.def_ 48 (d := dd "_law_pick" "_law_pick" 60 []) rfl
  exact ⟨_, fd, _, _, _, He.glo_ok X G (c.fact 48 (f := .glo "_law_pick") rfl), rfl, F, .nil (FunD.bindsN (ps := ["state", "n", "k"]) F fun _ _ _ _ _ _ us hl => match us, hl with | [_, _, _], _ => rfl)⟩
theorem w__law_table (X : K.In h) (G : h.Ns mainGlobals mg) (c : He.SaysD fa fn K) : FnTold K mg ⟨"_law_table", 3, ["state", "p", "q", "rows", "i", "j"], defScope (top 61), defBody (top 61), []⟩ := by
  obtain ⟨fd, F⟩ := c.def_ 49 (d := dd "_law_table" "_law_table" 61 []) rfl
  exact ⟨_, fd, _, _, _, He.glo_ok X G (c.fact 49 (f := .glo "_law_table") rfl), rfl, F, .nil (FunD.bindsN (ps := ["state", "p", "q"]) F fun _ _ _ _ _ _ us hl => match us, hl with | [_, _, _], _ => rfl)⟩
theorem w__law_width (X : K.In h) (G : h.Ns mainGlobals mg) (c : He.SaysD fa fn K) : FnTold K mg ⟨"_law_width", 1, ["T"], defScope (top 62), defBody (top 62), []⟩ := by
  obtain ⟨fd, F⟩ := c.def_ 50 (d := dd "_law_width" "_law_width" 62 []) rfl
  exact ⟨_, fd, _, _, _, He.glo_ok X G (c.fact 50 (f := .glo "_law_width") rfl), rfl, F, .nil (FunD.bindsN (ps := ["T"]) F fun _ _ _ _ _ _ us hl => match us, hl with | [_], _ => rfl)⟩
theorem w__law_product (X : K.In h) (G : h.Ns mainGlobals mg) (c : He.SaysD fa fn K) : FnTold K mg ⟨"_law_product", 2, ["S", "T", "row", "j", "line"], defScope (top 63), defBody (top 63), []⟩ := by
  obtain ⟨fd, F⟩ := c.def_ 51 (d := dd "_law_product" "_law_product" 63 []) rfl
  exact ⟨_, fd, _, _, _, He.glo_ok X G (c.fact 51 (f := .glo "_law_product") rfl), rfl, F, .nil (FunD.bindsN (ps := ["S", "T"]) F fun _ _ _ _ _ _ us hl => match us, hl with | [_, _], _ => rfl)⟩
theorem w__law_unit (X : K.In h) (G : h.Ns mainGlobals mg) (c : He.SaysD fa fn K) : FnTold K mg ⟨"_law_unit", 1, ["n", "i", "j"], defScope (top 64), defBody (top 64), []⟩ := by
  obtain ⟨fd, F⟩ := c.def_ 52 (d := dd "_law_unit" "_law_unit" 64 []) rfl
  exact ⟨_, fd, _, _, _, He.glo_ok X G (c.fact 52 (f := .glo "_law_unit") rfl), rfl, F, .nil (FunD.bindsN (ps := ["n"]) F fun _ _ _ _ _ _ us hl => match us, hl with | [_], _ => rfl)⟩
theorem w__law_item_is (X : K.In h) (G : h.Ns mainGlobals mg) (c : He.SaysD fa fn K) : FnTold K mg ⟨"_law_item_is", 1, ["x", "n"], defScope (top 65), defBody (top 65), []⟩ := by
  obtain ⟨fd, F⟩ := c.def_ 53 (d := dd "_law_item_is" "_law_item_is" 65 []) rfl
  exact ⟨_, fd, _, _, _, He.glo_ok X G (c.fact 53 (f := .glo "_law_item_is") rfl), rfl, F, .nil (FunD.bindsN (ps := ["x"]) F fun _ _ _ _ _ _ us hl => match us, hl with | [_], _ => rfl)⟩
theorem w__law_is (X : K.In h) (G : h.Ns mainGlobals mg) (c : He.SaysD fa fn K) : FnTold K mg ⟨"_law_is", 1, ["value", "row", "x"], defScope (top 66), defBody (top 66), []⟩ := by
  obtain ⟨fd, F⟩ := c.def_ 54 (d := dd "_law_is" "_law_is" 66 []) rfl
  exact ⟨_, fd, _, _, _, He.glo_ok X G (c.fact 54 (f := .glo "_law_is") rfl), rfl, F, .nil (FunD.bindsN (ps := ["value"]) F fun _ _ _ _ _ _ us hl => match us, hl with | [_], _ => rfl)⟩
theorem w__law_values (X : K.In h) (G : h.Ns mainGlobals mg) (c : He.SaysD fa fn K) : FnTold K mg ⟨"_law_values", 1, ["T", "row", "one", "found"], defScope (top 67), defBody (top 67), []⟩ := by
  obtain ⟨fd, F⟩ := c.def_ 55 (d := dd "_law_values" "_law_values" 67 []) rfl
  exact ⟨_, fd, _, _, _, He.glo_ok X G (c.fact 55 (f := .glo "_law_values") rfl), rfl, F, .nil (FunD.bindsN (ps := ["T"]) F fun _ _ _ _ _ _ us hl => match us, hl with | [_], _ => rfl)⟩
theorem w__law_forms_hold (X : K.In h) (G : h.Ns mainGlobals mg) (c : He.SaysD fa fn K) : FnTold K mg ⟨"_law_forms_hold", 2, ["state", "T", "p", "q", "value", "due", "high", "wide", "rows", "columns", "fits", "asked", "bad", "square", "f", "given"], defScope (top 68), defBody (top 68), []⟩ := by
  obtain ⟨fd, F⟩ := c.def_ 56 (d := dd "_law_forms_hold" "_law_forms_hold" 68 []) rfl
  exact ⟨_, fd, _, _, _, He.glo_ok X G (c.fact 56 (f := .glo "_law_forms_hold") rfl), rfl, F, .nil (FunD.bindsN (ps := ["state", "T"]) F fun _ _ _ _ _ _ us hl => match us, hl with | [_, _], _ => rfl)⟩
theorem w__law_is_choice (X : K.In h) (G : h.Ns mainGlobals mg) (c : He.SaysD fa fn K) : FnTold K mg ⟨"_law_is_choice", 2, ["value", "n", "x", "k"], defScope (top 69), defBody (top 69), []⟩ := by
  obtain ⟨fd, F⟩ := c.def_ 57 (d := dd "_law_is_choice" "_law_is_choice" 69 []) rfl
  exact ⟨_, fd, _, _, _, He.glo_ok X G (c.fact 57 (f := .glo "_law_is_choice") rfl), rfl, F, .nil (FunD.bindsN (ps := ["value", "n"]) F fun _ _ _ _ _ _ us hl => match us, hl with | [_, _], _ => rfl)⟩
theorem w__law_parts_hold (X : K.In h) (G : h.Ns mainGlobals mg) (c : He.SaysD fa fn K) : FnTold K mg ⟨"_law_parts_hold", 2, ["state", "T", "p", "q", "rows", "columns", "I", "J", "due", "i", "j"], defScope (top 70), defBody (top 70), []⟩ := by
  obtain ⟨fd, F⟩ := c.def_ 58 (d := dd "_law_parts_hold" "_law_parts_hold" 70 []) rfl
  exact ⟨_, fd, _, _, _, He.glo_ok X G (c.fact 58 (f := .glo "_law_parts_hold") rfl), rfl, F, .nil (FunD.bindsN (ps := ["state", "T"]) F fun _ _ _ _ _ _ us hl => match us, hl with | [_, _], _ => rfl)⟩
theorem w__law_wide_holds (X : K.In h) (G : h.Ns mainGlobals mg) (c : He.SaysD fa fn K) : FnTold K mg ⟨"_law_wide_holds", 1, ["state", "p", "q", "r", "S", "T", "n", "a", "e", "turn", "power", "jump", "top", "due", "i", "row", "j", "x"], defScope (top 71), defBody (top 71), []⟩ := by
  obtain ⟨fd, F⟩ := c.def_ 59 (d := dd "_law_wide_holds" "_law_wide_holds" 71 []) rfl
  exact ⟨_, fd, _, _, _, He.glo_ok X G (c.fact 59 (f := .glo "_law_wide_holds") rfl), rfl, F, .nil (FunD.bindsN (ps := ["state"]) F fun _ _ _ _ _ _ us hl => match us, hl with | [_], _ => rfl)⟩
theorem w_law (X : K.In h) (G : h.Ns mainGlobals mg) (c : He.SaysD fa fn K) : FnTold K mg ⟨"law", 1, ["script", "state", "p", "q", "r", "S", "T", "V", "c", "Q", "found", "e", "f", "given", "i", "row", "j", "x"], defScope (top 72), defBody (top 72), []⟩ := by
  obtain ⟨fd, F⟩ := c.def_ 60 (d := dd "law" "law" 72 []) rfl
  exact ⟨_, fd, _, _, _, He.glo_ok X G (c.fact 60 (f := .glo "law") rfl), rfl, F, .nil (FunD.bindsN (ps := ["script"]) F fun _ _ _ _ _ _ us hl => match us, hl with | [_], _ => rfl)⟩
theorem told (X : K.In h) (G : h.Ns mainGlobals mg) (c : He.SaysD fa fn K) : AllF (FnTold K mg) fns := ⟨w_is_integer X G c, ⟨w_greatest_common X G c, ⟨w_lowest_whole X G c, ⟨w_is_ratio X G c, ⟨w_ratio_sum X G c, ⟨w_ratio_less X G c, ⟨w_ratio_product X G c, ⟨w_check_number X G c, ⟨w_is_any_table X G c, ⟨w_width_of X G c, ⟨w_is_table X G c, ⟨w_check_table X G c, ⟨w_check_square X G c, ⟨w_check_alike X G c, ⟨w_unit_of X G c, ⟨w_unit_table X G c, ⟨w_table_sum X G c, ⟨w_table_less X G c, ⟨w_table_scaled X G c, ⟨w_common_multiple X G c, ⟨w_whole_row X G c, ⟨w_lowest X G c, ⟨w_lowest_tables X G c, ⟨w_turned X G c, ⟨w_multiplied X G c, ⟨w_table_product X G c, ⟨w_table_power X G c, ⟨w_table_turned X G c, ⟨w_is_choice X G c, ⟨w_check_choices X G c, ⟨w_part_of X G c, ⟨w_table_part X G c, ⟨w__law_state X G c, ⟨w__law_take X G c, ⟨w__law_same X G c, ⟨w__law_told X G c, ⟨w__law_is_told X G c, ⟨w__law_is_raised X G c, ⟨w__law_tells X G c, ⟨w__law_raises X G c, ⟨w__law_frac X G c, ⟨w__law_add X G c, ⟨w__law_less X G c, ⟨w__law_mul X G c, ⟨w__law_total X G c, ⟨w__law_times X G c, ⟨w__law_dot X G c, ⟨w__law_drawn X G c, ⟨w__law_pick X G c, ⟨w__law_table X G c, ⟨w__law_width X G c, ⟨w__law_product X G c, ⟨w__law_unit X G c, ⟨w__law_item_is X G c, ⟨w__law_is X G c, ⟨w__law_values X G c, ⟨w__law_forms_hold X G c, ⟨w__law_is_choice X G c, ⟨w__law_parts_hold X G c, ⟨w__law_wide_holds X G c, ⟨w_law X G c, trivial⟩⟩⟩⟩⟩⟩⟩⟩⟩⟩⟩⟩⟩⟩⟩⟩⟩⟩⟩⟩⟩⟩⟩⟩⟩⟩⟩⟩⟩⟩⟩⟩⟩⟩⟩⟩⟩⟩⟩⟩⟩⟩⟩⟩⟩⟩⟩⟩⟩⟩⟩⟩⟩⟩⟩⟩⟩⟩⟩⟩⟩
theorem scs : scAll fns = true := by kernel_rfl
end
end K01
end
section
set_option Elab.async false
set_option linter.all false
set_option maxRecDepth 100000
set_option maxHeartbeats 1000000
namespace K01
open PySem PySem.Spec Wv L2
theorem c_isint (k : Nat) (i : Int) (h : Store) : callK prg (k + 1) "is_integer" [.int i] h = .ok (.bl true) h := by
  rw [k_is_integer]
  simp [b_is_integer, startR, cutR_same]
theorem fmod_nat (a b : Nat) : Int.fmod (a : Int) (b : Int) = ((a % b : Nat) : Int) := by
  rw [Int.fmod_eq_emod_of_nonneg _ (by omega)]
  rfl
theorem gcd_loop {t : DenT} {body : DenS} {mk : Int → Int → Rho} (ht : ∀ a b h, t (mk a b) h = .ok (!(b == 0)) h) (hb : ∀ a b h, b ≠ 0 → body (mk a b) h = .next (mk b (a.fmod b)) h) (h : Store) :
    ∀ (n f : Nat) (a b : Nat), b < 2 ^ n → 2 * n + 1 ≤ f → whileL t body f (mk a b) h = .next (mk (Nat.gcd a b) (0 : Nat)) h
  | n, 0, a, b, _, hf => by omega
  | 0, f + 1, a, b, hb0, _ => by
    have e : b = 0 := by simpa using hb0
    subst e
    unfold whileL
    rw [ht, Out.th_ok]
    simp
  | n + 1, 1, a, b, _, hf => by omega
  | n + 1, 2, a, b, _, hf => by omega
  | n + 1, f + 3, a, b, hb0, hf => by
    by_cases e : b = 0
    · subst e
      unfold whileL
      rw [ht, Out.th_ok]
      simp
    · have e1 : ((b : Nat) : Int) ≠ 0 := by omega
      unfold whileL
      rw [ht, Out.th_ok, if_pos (by simpa using e1), hb _ _ _ e1, fmod_nat]
      dsimp only
      by_cases e2 : a % b = 0
      · rw [e2]
        unfold whileL
        rw [ht, Out.th_ok]
        have g : Nat.gcd a b = b := by rw [Nat.gcd_comm, Nat.gcd_rec, e2, Nat.gcd_zero_left]
        simp [g]
      · have e3 : ((a % b : Nat) : Int) ≠ 0 := by omega
        unfold whileL
        rw [ht, Out.th_ok, if_pos (by simpa using e3), hb _ _ _ e3, fmod_nat]
        dsimp only
        have lt : a % b < b := Nat.mod_lt _ (by omega)
        have lt2 : b % (a % b) < a % b := Nat.mod_lt _ (by omega)
        have half : b % (a % b) < 2 ^ n := by
          have q := Nat.div_add_mod b (a % b)
          have q1 : 1 ≤ b / (a % b) := Nat.div_pos (by omega) (by omega)
          have q2 : a % b ≤ (a % b) * (b / (a % b)) := Nat.le_mul_of_pos_right _ q1
          have q3 : 2 ^ (n + 1) = 2 ^ n + 2 ^ n := by rw [Nat.pow_succ]; omega
          omega
        rw [gcd_loop ht hb h n (f + 1) (a % b) (b % (a % b)) half (by omega)]
        have g : Nat.gcd a b = Nat.gcd (a % b) (b % (a % b)) := by
          rw [Nat.gcd_comm a b, Nat.gcd_rec b a, Nat.gcd_comm (a % b) b, Nat.gcd_comm (a % b), ← Nat.gcd_rec, Nat.gcd_comm]
        rw [g]
/-- sizes: below 2 ^ L -/
def sz (L : Nat) (n : Int) : Prop := n.natAbs < 2 ^ L
theorem abs_nat (n : Int) : (if n < 0 then -n else n) = ((n.natAbs : Nat) : Int) := by
  split <;> omega
theorem c_gcd (k : Nat) {L : Nat} {a b : Int} (h : Store) (hL : L ≤ 1000000000) (hb : sz L b) : callK prg (k + 1) "greatest_common" [.int a, .int b] h = .ok (.int (Int.gcd a b)) h := by
  rw [k_greatest_common]
  have z := gcd_loop (t := tcCmp .NotEq (cVar 1) (cVal (.int 0))) (body := sSeq (sPar2 0 1 (cCons (cVar 1) (cCons (cBin (decide (32 ≤ k)) .Mod (cVar 0) (cVar 1)) cNil))) sSkip) (mk := fun a b => [some (.int a), some (.int b)])
    (fun a b h => by simp) (fun a b h hb => by simp [hb]) h L wFuel a.natAbs b.natAbs hb (by unfold wFuel; omega)
  simp [b_greatest_common, startR, abs_nat, z, cutR_same, Int.gcd]
/-- a fraction in lowest terms, the lower number above 0 -/
def gg (n d : Int) : Int := if d < 0 then -(Int.gcd n d : Int) else Int.gcd n d
def low (n d : Int) : Int × Int := (n.fdiv (gg n d), d.fdiv (gg n d))
theorem gg_ne {n d : Int} (h : d ≠ 0) : gg n d ≠ 0 := by
  have : Int.gcd n d ≠ 0 := fun e => h (Int.gcd_eq_zero_iff.mp e).2
  unfold gg
  split <;> omega
abbrev Fr := Int × Int
def fw (x : Fr) : W := .tup [.int x.1, .int x.2]
theorem c_lowest (k : Nat) {L : Nat} {n d : Int} (h : Store) (hk : 33 ≤ k) (hL : L ≤ 1000000000) (hb : sz L d) (hd : d ≠ 0) : callK prg (k + 1) "lowest_whole" [.int n, .int d] h = .ok (fw (low n d)) h := by
  obtain ⟨k, rfl⟩ : ∃ j, k = j + 1 := ⟨k - 1, by omega⟩
  rw [k_lowest_whole]
  have g := gg_ne (n := n) hd
  have hk' : 32 ≤ k + 1 := by omega
  by_cases hn : d < 0
  · have e : gg n d = -(Int.gcd n d : Int) := by unfold gg; rw [if_pos hn]
    rw [e] at g
    simp [b_lowest_whole, startR, c_gcd k h hL hb, hn, hk', cutR_same, fw, low, e, show Int.gcd n d ≠ 0 by omega]
  · have e : gg n d = (Int.gcd n d : Int) := by unfold gg; rw [if_neg hn]
    rw [e] at g
    simp [b_lowest_whole, startR, c_gcd k h hL hb, hn, hk', cutR_same, fw, low, e, show Int.gcd n d ≠ 0 by omega]
/-- the tables' own: the lower number is above 0 -/
theorem c_lowt (k : Nat) {L : Nat} {n d : Int} (h : Store) (hk : 33 ≤ k) (hL : L ≤ 1000000000) (hb : sz L d) (hd : 0 < d) : callK prg (k + 1) "lowest_tables" [.int n, .int d] h = .ok (fw (low n d)) h := by
  obtain ⟨k, rfl⟩ : ∃ j, k = j + 1 := ⟨k - 1, by omega⟩
  rw [k_lowest_tables]
  have g := gg_ne (n := n) (d := d) (by omega)
  have hk' : 32 ≤ k + 1 := by omega
  have e : gg n d = (Int.gcd n d : Int) := by unfold gg; rw [if_neg (by omega)]
  rw [e] at g
  simp [b_lowest_tables, startR, c_gcd k h hL hb, hk', cutR_same, fw, low, e, show Int.gcd n d ≠ 0 by omega]
end K01
end
section
set_option Elab.async false
set_option linter.all false
set_option maxRecDepth 100000
set_option maxHeartbeats 1000000
namespace K01
open PySem PySem.Spec Wv L2
/-! ### sizes -/
theorem sz.mono {L M : Nat} {n : Int} (h : sz L n) (le : L ≤ M) : sz M n := Nat.lt_of_lt_of_le h (Nat.pow_le_pow_right (by omega) le)
theorem sz.mul {L M : Nat} {a b : Int} (ha : sz L a) (hb : sz M b) : sz (L + M) (a * b) := by
  unfold sz at *
  rw [Int.natAbs_mul, Nat.pow_add]
  exact Nat.mul_lt_mul'' ha hb
theorem sz.add {L : Nat} {a b : Int} (ha : sz L a) (hb : sz L b) : sz (L + 1) (a + b) := by
  unfold sz at *
  rw [Nat.pow_succ]
  have := Int.natAbs_add_le a b
  omega
theorem sz.sub {L : Nat} {a b : Int} (ha : sz L a) (hb : sz L b) : sz (L + 1) (a - b) := by
  unfold sz at *
  rw [Nat.pow_succ]
  have := Int.natAbs_sub_le a b
  omega
theorem log_sz {L : Nat} {a : Int} (ha : sz L a) : a.natAbs.log2 ≤ L := by
  by_cases e : a.natAbs = 0
  · rw [e]
    exact Nat.zero_le _
  · exact Nat.le_of_lt ((Nat.log2_lt e).mpr ha)
theorem mul_sz {L M : Nat} {a b : Int} (ha : sz L a) (hb : sz M b) (hl : L + M ≤ 100000000) : mulOk a b = true := by
  unfold mulOk
  have h1 := log_sz ha
  have h2 := log_sz hb
  have : decide (a.natAbs.log2 + b.natAbs.log2 < 134217720) = true := decide_eq_true (by omega)
  rw [this]
  simp
/-! ### fractions -/
structure Good (L : Nat) (x : Fr) : Prop where
  n : sz L x.1
  d : sz L x.2
  pos : 0 < x.2
  one : Int.gcd x.1 x.2 = 1
theorem Good.mono {L M : Nat} {x : Fr} (g : Good L x) (le : L ≤ M) : Good M x := ⟨g.n.mono le, g.d.mono le, g.pos, g.one⟩
theorem gg_dvd (n d : Int) : gg n d ∣ n ∧ gg n d ∣ d := by
  unfold gg
  split
  · exact ⟨Int.neg_dvd.mpr (Int.gcd_dvd_left n d), Int.neg_dvd.mpr (Int.gcd_dvd_right n d)⟩
  · exact ⟨Int.gcd_dvd_left n d, Int.gcd_dvd_right n d⟩
theorem gg_abs (n d : Int) : (gg n d).natAbs = Int.gcd n d := by
  unfold gg
  split <;> simp
theorem low_eq {n d : Int} (hd : d ≠ 0) : n = gg n d * (low n d).1 ∧ d = gg n d * (low n d).2 := by
  obtain ⟨h1, h2⟩ := gg_dvd n d
  have g := gg_ne (n := n) hd
  unfold low
  exact ⟨(Int.mul_fdiv_cancel' h1).symm, (Int.mul_fdiv_cancel' h2).symm⟩
theorem sz_div {L : Nat} {g a b : Int} (e : a = g * b) (hg : g ≠ 0) (h : sz L a) : sz L b := by
  unfold sz at *
  rw [e, Int.natAbs_mul] at h
  have : 1 ≤ g.natAbs := by omega
  exact Nat.lt_of_le_of_lt (Nat.le_mul_of_pos_left _ this) h
theorem pos_of {g d q : Int} (hg : g ≠ 0) (e : d = g * q) (h : 0 < g * d) : 0 < q := by
  have sq : 0 < g * g := by
    rcases Int.lt_or_gt_of_ne hg with z | z
    · exact Int.mul_pos_of_neg_of_neg z z
    · exact Int.mul_pos z z
  rcases Int.lt_or_le 0 q with z | z
  · exact z
  · have y := Int.mul_le_mul_of_nonneg_left z (Int.le_of_lt sq)
    rw [e, ← Int.mul_assoc] at h
    omega
theorem low_good {L : Nat} {n d : Int} (hd : d ≠ 0) (hn : sz L n) (hs : sz L d) : Good L (low n d) := by
  obtain ⟨e1, e2⟩ := low_eq (n := n) hd
  have g := gg_ne (n := n) hd
  refine ⟨sz_div e1 g hn, sz_div e2 g hs, ?_, ?_⟩
  · have pos : 0 < gg n d * d := by
      have gn : Int.gcd n d ≠ 0 := fun e => hd (Int.gcd_eq_zero_iff.mp e).2
      unfold gg
      split
      · rename_i h
        exact Int.mul_pos_of_neg_of_neg (by omega) h
      · rename_i h
        exact Int.mul_pos (by omega) (by omega)
    exact pos_of g e2 pos
  · have q := Int.gcd_mul_left (gg n d) (low n d).1 (low n d).2
    rw [← e1, ← e2, gg_abs] at q
    have gn : 0 < Int.gcd n d := Nat.pos_of_ne_zero fun e => hd (Int.gcd_eq_zero_iff.mp e).2
    exact Nat.eq_of_mul_eq_mul_left gn (by rw [← q, Nat.mul_one])
def addF (x y : Fr) : Fr := low (x.1 * y.2 + y.1 * x.2) (x.2 * y.2)
def lessF (x y : Fr) : Fr := low (x.1 * y.2 - y.1 * x.2) (x.2 * y.2)
def mulF (x y : Fr) : Fr := low (x.1 * y.1) (x.2 * y.2)
def overF (x y : Fr) : Fr := low (x.1 * y.2) (x.2 * y.1)
section
variable {L M : Nat} {x y : Fr}
theorem dd_ne (hx : Good L x) (hy : Good M y) : x.2 * y.2 ≠ 0 := Int.ne_of_gt (Int.mul_pos hx.pos hy.pos)
theorem over_ne (hx : Good L x) (hy : y.1 ≠ 0) : x.2 * y.1 ≠ 0 := Int.mul_ne_zero (Int.ne_of_gt hx.pos) hy
theorem add_sz (hx : Good L x) (hy : Good M y) : sz (L + M + 1) (x.1 * y.2 + y.1 * x.2) := (hx.n.mul hy.d).add ((hy.n.mul hx.d).mono (by omega))
theorem sub_sz (hx : Good L x) (hy : Good M y) : sz (L + M + 1) (x.1 * y.2 - y.1 * x.2) := (hx.n.mul hy.d).sub ((hy.n.mul hx.d).mono (by omega))
theorem addF_good (hx : Good L x) (hy : Good M y) : Good (L + M + 1) (addF x y) := low_good (dd_ne hx hy) (add_sz hx hy) ((hx.d.mul hy.d).mono (by omega))
theorem lessF_good (hx : Good L x) (hy : Good M y) : Good (L + M + 1) (lessF x y) := low_good (dd_ne hx hy) (sub_sz hx hy) ((hx.d.mul hy.d).mono (by omega))
theorem mulF_good (hx : Good L x) (hy : Good M y) : Good (L + M) (mulF x y) := low_good (dd_ne hx hy) (hx.n.mul hy.n) (hx.d.mul hy.d)
theorem overF_good (hx : Good L x) (hy : Good M y) (h0 : y.1 ≠ 0) : Good (L + M) (overF x y) := low_good (over_ne hx h0) (hx.n.mul hy.d) (hx.d.mul hy.n)
end
/-! ### the program's and the law's fractions -/
theorem c_frac (k : Nat) {L : Nat} {n d : Int} (h : Store) (hk : 32 ≤ k) (hL : L ≤ 1000000000) (hb : sz L d) (hd : d ≠ 0) : callK prg (k + 1) "_law_frac" [.int n, .int d] h = .ok (fw (low n d)) h := by
  rw [k__law_frac, decide_eq_true hk]
  have g := gg_ne (n := n) hd
  have z := gcd_loop (t := tcCmp .NotEq (cVar 3) (cVal (.int 0))) (body := sSeq (sPar2 2 3 (cCons (cVar 3) (cCons (cBin true .Mod (cV1 intV (cVar 2)) (cVar 3)) cNil))) sSkip) (mk := fun a b => [some (.int n), some (.int d), some (.int a), some (.int b)])
    (fun a b h => by simp) (fun a b h hb => by simp [hb]) h L wFuel n.natAbs d.natAbs hb (by unfold wFuel; omega)
  by_cases hn : d < 0
  · have e : gg n d = -(Int.gcd n d : Int) := by unfold gg; rw [if_pos hn]
    rw [e] at g
    have hn' : ¬ 0 < d := by omega
    have g' : Nat.gcd n.natAbs d.natAbs ≠ 0 := by
      have : Int.gcd n d ≠ 0 := by omega
      exact this
    have e' : gg n d = -(Nat.gcd n.natAbs d.natAbs : Int) := e
    simp [b__law_frac, startR, abs_nat, z, hn', hk, cutR_same, fw, low, e', g']
  · have e : gg n d = (Int.gcd n d : Int) := by unfold gg; rw [if_neg hn]
    rw [e] at g
    have hn' : 0 < d := by omega
    have g' : Nat.gcd n.natAbs d.natAbs ≠ 0 := by
      have : Int.gcd n d ≠ 0 := by omega
      exact this
    have e' : gg n d = (Nat.gcd n.natAbs d.natAbs : Int) := e
    simp [b__law_frac, startR, abs_nat, z, hn', hk, cutR_same, fw, low, e', g']
section
variable {L M : Nat} {x y : Fr} (k : Nat) (h : Store) (hk : 34 ≤ k) (hx : Good L x) (hy : Good M y) (hl : L + M ≤ 100000000)
include hk hx hy hl
theorem c_add : callK prg (k + 1) "_law_add" [fw x, fw y] h = .ok (fw (addF x y)) h := by
  obtain ⟨k, rfl⟩ : ∃ j, k = j + 1 := ⟨k - 1, by omega⟩
  rw [k__law_add]
  simp [b__law_add, startR, fw, mul_sz hx.n hy.d (by omega), mul_sz hy.n hx.d (by omega), mul_sz hx.d hy.d (by omega), c_frac k h (by omega) (by omega) (hx.d.mul hy.d) (dd_ne hx hy), cutR_same, addF]
theorem c_lless : callK prg (k + 1) "_law_less" [fw x, fw y] h = .ok (fw (lessF x y)) h := by
  obtain ⟨k, rfl⟩ : ∃ j, k = j + 1 := ⟨k - 1, by omega⟩
  rw [k__law_less]
  simp [b__law_less, startR, fw, mul_sz hx.n hy.d (by omega), mul_sz hy.n hx.d (by omega), mul_sz hx.d hy.d (by omega), c_frac k h (by omega) (by omega) (hx.d.mul hy.d) (dd_ne hx hy), cutR_same, lessF]
theorem c_lmul : callK prg (k + 1) "_law_mul" [fw x, fw y] h = .ok (fw (mulF x y)) h := by
  obtain ⟨k, rfl⟩ : ∃ j, k = j + 1 := ⟨k - 1, by omega⟩
  rw [k__law_mul]
  simp [b__law_mul, startR, fw, mul_sz hx.n hy.n (by omega), mul_sz hx.d hy.d (by omega), c_frac k h (by omega) (by omega) (hx.d.mul hy.d) (dd_ne hx hy), cutR_same, mulF]
theorem c_less : callK prg (k + 1) "ratio_less" [fw x, fw y] h = .ok (fw (lessF x y)) h := by
  obtain ⟨k, rfl⟩ : ∃ j, k = j + 1 := ⟨k - 1, by omega⟩
  rw [k_ratio_less]
  simp [b_ratio_less, startR, fw, mul_sz hx.n hy.d (by omega), mul_sz hy.n hx.d (by omega), mul_sz hx.d hy.d (by omega), c_lowest k h (by omega) (by omega) (hx.d.mul hy.d) (dd_ne hx hy), cutR_same, lessF]
theorem c_prod : callK prg (k + 1) "ratio_product" [fw x, fw y] h = .ok (fw (mulF x y)) h := by
  obtain ⟨k, rfl⟩ : ∃ j, k = j + 1 := ⟨k - 1, by omega⟩
  rw [k_ratio_product]
  simp [b_ratio_product, startR, fw, mul_sz hx.n hy.n (by omega), mul_sz hx.d hy.d (by omega), c_lowest k h (by omega) (by omega) (hx.d.mul hy.d) (dd_ne hx hy), cutR_same, mulF]
theorem c_rsum : callK prg (k + 1) "ratio_sum" [fw x, fw y] h = .ok (fw (addF x y)) h := by
  obtain ⟨k, rfl⟩ : ∃ j, k = j + 1 := ⟨k - 1, by omega⟩
  rw [k_ratio_sum]
  simp [b_ratio_sum, startR, fw, mul_sz hx.n hy.d (by omega), mul_sz hy.n hx.d (by omega), mul_sz hx.d hy.d (by omega), c_lowest k h (by omega) (by omega) (hx.d.mul hy.d) (dd_ne hx hy), cutR_same, addF]
end
end K01
end
section
set_option Elab.async false
set_option linter.all false
set_option maxRecDepth 100000
set_option maxHeartbeats 1000000
namespace K01
open PySem PySem.Spec Wv L2
def rw (r : List Fr) : W := .tup (r.map fw)
def tw (T : List (List Fr)) : W := .tup (T.map rw)
/-- a table: L bits, q columns -/
structure Tab (L q : Nat) (T : List (List Fr)) : Prop where
  few : T.length ≤ 40
  q1 : 1 ≤ q
  q40 : q ≤ 40
  len : ∀ r ∈ T, r.length = q
  good : ∀ r ∈ T, ∀ x ∈ r, Good L x
theorem c_ratio (k : Nat) {L : Nat} {x : Fr} (h : Store) (hL : L ≤ 1000000000) (g : Good L x) : callK prg (k + 2) "is_ratio" [fw x] h = .ok (.bl true) h := by
  rw [k_is_ratio]
  simp [b_is_ratio, startR, fw, c_isint, c_gcd k h hL g.d, g.pos, g.one, cutR_same]
theorem c_width (k : Nat) {r : List Fr} {T : List (List Fr)} (h : Store) : callK prg (k + 1) "width_of" [tw (r :: T)] h = .ok (.int r.length) h := by
  rw [k_width_of]
  simp [b_width_of, startR, tw, rw, cutR_same]
theorem c_anytab (k : Nat) {L q : Nat} {T : List (List Fr)} (h : Store) (hL : L ≤ 1000000000) (t : Tab L q T) : callK prg (k + 3) "is_any_table" [tw T] h = .ok (.bl true) h := by
  have few := t.few
  rw [k_is_any_table]
  have c1 : compL [] (.nm 1) cTrue (cAnd (cIsi1 "tuple" (cVar 1)) (cChain .LtE .LtE (cVal (.int 1)) (cV1 lenV (cVar 1)) (cVal (.int 40)))) [some (tw T), none, none] (T.map rw) [] h = .ok (T.map fun _ => .bl true) h := by
    refine comp_map T (by omega) fun r hr => ⟨[some (tw T), some (rw r), none], by simp, rfl, ?_⟩
    have l1 := t.len r hr
    have q1 := t.q1
    have q40 := t.q40
    simp [rw, l1, show (1 : Int) ≤ (q : Int) by omega, show (q : Int) ≤ 40 by omega]
  have c2 : compL [] (.nm 1) cTrue (cAnd (cCmp .Eq (cV1 lenV (cVar 1)) (cV1 lenV (cIx (cVar 0) (cVal (.int 0))))) (cQ1 allQ (cSeqF (cComp (cItV (cVar 1)) [2] (.nm 2) cTrue (cCall (callK prg (k + 2)) 1 "is_ratio" (cCons (cVar 2) cNil)))))) [some (tw T), none, none] (T.map rw) [] h = .ok (T.map fun _ => .bl true) h := by
    refine comp_map T (by omega) fun r hr => ⟨[some (tw T), some (rw r), none], by simp, rfl, ?_⟩
    obtain ⟨r0, T0, e⟩ : ∃ r0 T0, T = r0 :: T0 := by
      cases T with
      | nil => cases hr
      | cons a b => exact ⟨a, b, rfl⟩
    have l1 := t.len r hr
    have l0 := t.len r0 (by rw [e]; exact List.mem_cons_self)
    have q40 := t.q40
    have c3 : compL [] (.nm 2) cTrue (cCall (callK prg (k + 2)) 1 "is_ratio" (cCons (cVar 2) cNil)) [some (tw T), some (rw r), none] (r.map fw) [] h = .ok (r.map fun _ => .bl true) h := by
      refine comp_map r (by omega) fun x hx => ⟨[some (tw T), some (rw r), some (fw x)], by simp, rfl, ?_⟩
      simp [c_ratio k h hL (t.good r hr x hx)]
    subst e
    simp only [tw, rw, List.map_cons] at c3 ⊢
    simp [rw, c3, l1, l0, all_map]
  simp only [tw] at c1 c2 ⊢
  simp [b_is_any_table, startR, c1, c2, all_map, cutR_same, show ¬ (40 < (T.length : Int)) by omega]
theorem c_check (k : Nat) {L q : Nat} {T : List (List Fr)} (h : Store) (hL : L ≤ 1000000000) (t : Tab L q T) : callK prg (k + 4) "check_table" [tw T] h = .ok .non h := by
  rw [k_check_table]
  simp [b_check_table, startR, c_anytab k h hL t, cutR_same]
end K01
end
section
set_option Elab.async false
set_option linter.all false
set_option maxRecDepth 100000
set_option maxHeartbeats 2000000
namespace K01
open PySem PySem.Spec Wv L2
def iw (i : Nat) : W := .int (i : Int)
theorem rng1_nat {n : Nat} (h : n < 1000000) : rng1 [.int (n : Int)] = some ((List.range n).map iw) := by
  unfold rng1
  have : rngOk (n : Int) = true := by
    unfold rngOk
    simp
    omega
  dsimp only
  rw [if_pos this]
  refine congrArg some ?_
  refine List.map_congr_left fun k _ => ?_
  simp [iw]
theorem rng2_nat {k n : Nat} (hk : k ≤ n) (h : n < 1000000) : rng2 [.int (k : Int), .int (n : Int)] = some ((List.range' k (n - k)).map iw) := by
  unfold rng2
  have h1 : rngOk (n : Int) = true := by
    unfold rngOk
    simp
    omega
  have h2 : rngOk (k : Int) = true := by
    unfold rngOk
    simp
    omega
  dsimp only
  rw [if_pos ⟨h2, h1⟩, List.range'_eq_map_range]
  refine congrArg some ?_
  rw [List.map_map]
  have e : ((n : Int) - (k : Int)).toNat = n - k := by omega
  rw [e]
  refine List.map_congr_left fun i _ => ?_
  simp [iw]
structure Mat (L q : Nat) (M : List (List Fr)) : Prop where
  len : ∀ r ∈ M, r.length = q
  good : ∀ r ∈ M, ∀ x ∈ r, Good L x
theorem Mat.mono {L L' q : Nat} {M : List (List Fr)} (m : Mat L q M) (h : L ≤ L') : Mat L' q M := ⟨m.len, fun r hr x hx => (m.good r hr x hx).mono h⟩
theorem mem_set {α : Type} {l : List α} {i : Nat} {a x : α} (h : x ∈ l.set i a) : x = a ∨ x ∈ l := by
  rcases List.mem_or_eq_of_mem_set h with h | h
  · exact .inr h
  · exact .inl h
theorem Mat.set {L q : Nat} {M : List (List Fr)} (m : Mat L q M) {i : Nat} {r : List Fr} (hl : r.length = q) (hg : ∀ x ∈ r, Good L x) : Mat L q (M.set i r) :=
  ⟨fun s hs => by
    rcases mem_set hs with e | hs
    · rw [e]
      exact hl
    · exact m.len s hs, fun s hs => by
    rcases mem_set hs with e | hs
    · rw [e]
      exact hg
    · exact m.good s hs⟩
section
variable {L q : Nat} {M : List (List Fr)}
theorem Mat.row (m : Mat L q M) {i : Nat} (hi : i < M.length) : ∃ r, M[i]? = some r ∧ (M[i]?).getD [] = r ∧ r.length = q ∧ ∀ x ∈ r, Good L x := by
  have e := List.getElem?_eq_getElem hi
  exact ⟨M[i], e, by rw [e]; rfl, m.len _ (List.getElem_mem hi), m.good _ (List.getElem_mem hi)⟩
end
/-- the old store lies ahead -/
def Old (h0 h : Store) : Prop := ∃ t, h = h0 ++ t
theorem Old.app {h0 h : Store} (o : Old h0 h) (t : Store) : Old h0 (h ++ t) := by
  obtain ⟨u, rfl⟩ := o
  exact ⟨u ++ t, by rw [List.append_assoc]⟩
theorem Old.set {h0 h : Store} (o : Old h0 h) {n : Nat} (hn : h0.length ≤ n) (x : Ob) : Old h0 (h.set n x) := by
  obtain ⟨u, rfl⟩ := o
  exact ⟨u.set (n - h0.length) x, by rw [List.set_append_right _ _ hn]⟩
theorem zipW_map (xs ys : List Fr) : zipW (xs.map fw) (ys.map fw) = (List.zip xs ys).map fun p => .tup [fw p.1, fw p.2] := by
  induction xs generalizing ys with
  | nil => simp [zipW]
  | cons x xs ih =>
    cases ys with
    | nil => simp [zipW]
    | cons y ys => simp [zipW, ih]
theorem mem_zip {xs ys : List Fr} {p : Fr × Fr} (h : p ∈ List.zip xs ys) : p.1 ∈ xs ∧ p.2 ∈ ys := List.of_mem_zip h
theorem get_d {xs : List Fr} {t : Nat} (h : t < xs.length) : xs[t]? = some (xs[t]?.getD (0, 1)) ∧ xs[t]?.getD (0, 1) ∈ xs := by
  rw [List.getElem?_eq_getElem h]
  exact ⟨rfl, List.getElem_mem h⟩
theorem good_zero : Good 1 (0, 1) := ⟨by unfold sz; decide, by unfold sz; decide, by decide, by decide⟩
theorem zip_range2 {α β : Type} {l1 : List α} {l2 : List β} {n : Nat} (d1 : α) (d2 : β) (h1 : l1.length = n) (h2 : l2.length = n) : List.zip l1 l2 = (List.range n).map fun i => ((l1[i]?).getD d1, (l2[i]?).getD d2) := by
  refine List.ext_getElem (by simp [h1, h2]) fun i a b => ?_
  rw [List.getElem_zip, List.getElem_map, List.getElem_range]
  rw [List.length_zip] at a
  rw [List.getElem?_eq_getElem (by omega), List.getElem?_eq_getElem (by omega)]
  rfl
theorem get_dd {α : Type} {l : List α} {i : Nat} (d : α) (h : i < l.length) : l[i]? = some ((l[i]?).getD d) ∧ (l[i]?).getD d ∈ l := by
  rw [List.getElem?_eq_getElem h]
  exact ⟨rfl, List.getElem_mem h⟩
theorem flat_rep (q : Nat) (z : W) : (List.replicate q [z]).flatten = List.replicate q z := by
  induction q with
  | zero => rfl
  | succ q ih => rw [List.replicate_succ, List.flatten_cons, ih, List.replicate_succ]; rfl
theorem cutR_keep {w : W} {h h1 : Store} (b : belowW h.length w = false) : cutR h w h1 = .ok w h1 := by
  unfold cutR
  rw [if_neg (by rw [b]; simp)]
/-- rows copied into lists -/
theorem comp_copy {g : Gd} {s : Nat} {ρ0 : Rho} (hs : s < ρ0.length) {h : Store} (hg : ∀ t, gdOk g (h ++ t)) : ∀ (xs : List (List Fr)) (acc : List W) (t : Store), acc.length + xs.length ≤ 1000 →
    compL g (.nm s) cTrue (cFresh (cListQ (cSeqV (cVar s)))) ρ0 (xs.map rw) acc (h ++ t) = .ok (acc ++ (List.range' (h ++ t).length xs.length).map W.ref) (h ++ t ++ xs.map fun r => Ob.lst (r.map fw))
  | [], acc, t, _ => by
    rw [List.map_nil]
    unfold compL
    rw [if_pos (hg t)]
    simp
  | r :: xs, acc, t, hl => by
    rw [List.length_cons] at hl
    rw [List.map_cons]
    unfold compL
    rw [if_pos (hg t), bind_nm]
    have e : cFresh (cListQ (cSeqV (cVar s))) (ρ0.set s (some (rw r))) (h ++ t) = .ok (.ref (h ++ t).length) (h ++ t ++ [Ob.lst (r.map fw)]) := by
      simp [rw, List.getElem?_set_self hs]
    dsimp only
    rw [a_true]
    dsimp only
    rw [e]
    dsimp only
    rw [if_pos (by omega), List.append_assoc h t, comp_copy hs hg xs (acc ++ [W.ref (h ++ t).length]) (t ++ [Ob.lst (r.map fw)]) (by rw [List.length_append]; simp; omega)]
    rw [List.length_cons, List.range'_succ, List.map_cons, List.map_cons]
    simp [Nat.add_assoc]
theorem tq (b : Bool) (ws : List W) (h : Store) : Out.of (tupQ b ws h) = .ok (.tup ws) h := id rfl
def tupAt (h : Store) (r : Nat) : W := match lst? h r with
  | some ws => .tup ws
  | none => .non
/-- rows told as tuples -/
theorem comp_tell {s N : Nat} {ρ0 : Rho} (hs : s < ρ0.length) {h : Store} {rs : List Nat} {A : List (List Fr)} (e : own? h N = some (rs.map W.ref)) (hl : rs.length = A.length) (h1000 : A.length ≤ 1000) (ha : ∀ (i r : Nat) (m : List Fr), rs[i]? = some r → A[i]? = some m → own? h r = some (m.map fw)) :
    compL [(N, rs.map W.ref)] (.nm s) cTrue (cQ1 tupQ (cSeqV (cVar s))) ρ0 (rs.map W.ref) [] h = .ok (A.map rw) h := by
  have hl2 : rs.length ≤ 16777216 := by
    rw [hl]
    exact Nat.le_trans h1000 (by decide)
  rw [comp_mapG (f := tupAt h) (gdOk_one (lst_own e)) rs hl2 fun r hr => ?_]
  · refine congrArg (fun z => Out.ok z h) (List.ext_getElem (by simp [hl]) fun i h1 h2 => ?_)
    rw [List.getElem_map, List.getElem_map]
    rw [List.length_map] at h1 h2
    have := ha i rs[i] A[i] (List.getElem?_eq_getElem h1) (List.getElem?_eq_getElem h2)
    unfold tupAt
    rw [lst_own this]
    rfl
  · obtain ⟨i, hi, e2⟩ := List.getElem_of_mem hr
    have hA : i < A.length := by rw [← hl]; exact hi
    have l := lst_own (ha i r A[i] (by rw [List.getElem?_eq_getElem hi, e2]) (List.getElem?_eq_getElem hA))
    refine ⟨_, bind_nm _ _ _, rfl, ?_⟩
    have sq : seqOf h (.ref r) = some (false, A[i].map fw) := by
      show (lst? h r).map _ = _
      rw [l]
      rfl
    have ta : tupAt h r = .tup (A[i].map fw) := by
      unfold tupAt
      rw [l]
    rw [ta]
    simp [List.getElem?_set_self hs, sq, tq]
theorem ix_tw0 (h : Store) (r : List Fr) (T : List (List Fr)) : ixW h (tw (r :: T)) (.int 0) = some (rw r) := s_ix0 _ _
theorem it_rw (h : Store) (r : List Fr) : itOf h (rw r) = some (r.map fw, []) := id rfl
theorem forL_step {g : Gd} {T : Tgt} {body : DenS} {w : W} {ws : List W} {ρ ρ1 ρ2 : Rho} {h h2 : Store} {o : SO} (hg : gdOk g h) (e1 : T.bind w ρ = some ρ1) (e2 : body ρ1 h = .next ρ2 h2) (e3 : forL g T body ws ρ2 h2 = o) : forL g T body (w :: ws) ρ h = o := by
  unfold forL
  rw [if_pos hg, e1]
  dsimp only
  rw [e2]
  exact e3
theorem len_tw (T : List (List Fr)) (H : Store) : lenV (tw T) H = some (.int (T.length : Int), H) := by
  show some (W.int ((T.map rw).length : Int), H) = _
  rw [List.length_map]
theorem len_rw (r : List Fr) (H : Store) : lenV (rw r) H = some (.int (r.length : Int), H) := by
  show some (W.int ((r.map fw).length : Int), H) = _
  rw [List.length_map]
theorem add_fw (big : Bool) (xs ys : List Fr) (hl : xs.length + ys.length ≤ 1000) (H : Store) : opBin big .Add (.tup (xs.map fw)) (.tup (ys.map fw)) H = some (.tup ((xs ++ ys).map fw), H) := by
  rw [s_addt, List.length_map, List.length_map, if_pos (Nat.le_trans hl (by decide)), List.map_append]
theorem bent_len {R : List Fr} {n : Nat} (hn : n < R.length) (c : Fr) : (R.take n ++ [c] ++ R.drop (n + 1)).length = R.length := by
  rw [List.length_append, List.length_append, List.length_take, List.length_drop, Nat.min_eq_left (by omega)]
  simp
  omega
theorem add_fw1 (big : Bool) (xs : List Fr) (c : Fr) (hl : xs.length ≤ 900) (H : Store) : opBin big .Add (.tup (xs.map fw)) (.tup [fw c]) H = some (.tup ((xs ++ [c]).map fw), H) := by
  rw [show [fw c] = [c].map fw from rfl]
  exact add_fw big xs [c] (by rw [List.length_singleton]; omega) H
theorem good_13 : Good 2 ((1, 3) : Fr) := ⟨by unfold sz; decide, by unfold sz; decide, by decide, by decide⟩
theorem good_15 : Good 3 ((1, 5) : Fr) := ⟨by unfold sz; decide, by unfold sz; decide, by decide, by decide⟩
theorem good_32 : Good 2 ((3, 2) : Fr) := ⟨by unfold sz; decide, by unfold sz; decide, by decide, by decide⟩
theorem good_12 : Good 2 ((1, 2) : Fr) := ⟨by unfold sz; decide, by unfold sz; decide, by decide, by decide⟩
theorem cut_lo (xs : List W) (n : Nat) : cutW xs none (some (n : Int)) = xs.take n := by
  unfold cutW
  rw [HT.sIx_nat]
  show (xs.drop 0).take (min n xs.length - 0) = _
  rw [List.drop_zero, Nat.sub_zero, ← List.take_eq_take_min]
theorem cut_hi (xs : List W) (n : Nat) : cutW xs (some (n : Int)) none = xs.drop n := by
  unfold cutW
  rw [HT.sIx_nat]
  show (xs.drop (min n xs.length)).take (xs.length - min n xs.length) = _
  rcases Nat.le_total n xs.length with h | h
  · rw [Nat.min_eq_left h]
    exact List.take_of_length_le (Nat.le_of_eq (by rw [List.length_drop]))
  · rw [Nat.min_eq_right h, Nat.sub_self, List.drop_of_length_le h]
    rfl
theorem mul_rep (big : Bool) (z : W) (n : Nat) (h1 : 1 ≤ n) (hn : n ≤ 1000) (h : Store) : opBin big .Mult (.tup [z]) (.int (n : Int)) h = some (.tup (List.replicate n z), h) := by
  have e : opBin big .Mult = opMul := rfl
  rw [e]
  unfold opMul
  dsimp only
  by_cases c : n = 1
  · subst c
    rfl
  · rw [if_neg (by omega), if_pos ⟨rfl, by omega, by omega, by simp⟩, Int.toNat_natCast, flat_rep]
theorem cut_neg (xs : List W) : cutW xs none (some (-1)) = xs.take (xs.length - 1) := by
  unfold cutW
  have e : HT.sIx xs.length xs.length (some (-1)) = xs.length - 1 := by
    show (if (-1 : Int) < 0 then ((-1 : Int) + (xs.length : Int)).toNat else min (-1 : Int).toNat xs.length) = _
    rw [if_pos (by decide)]
    omega
  rw [e]
  show (xs.drop 0).take (xs.length - 1 - 0) = _
  rw [List.drop_zero, Nat.sub_zero]
theorem add_one (big : Bool) (ws : List W) (z : W) (hl : ws.length ≤ 1000) (H : Store) : opBin big .Add (.tup ws) (.tup [z]) H = some (.tup (ws ++ [z]), H) := by
  rw [s_addt, List.length_singleton, if_pos (Nat.le_trans (Nat.add_le_add_right hl 1) (by decide))]
theorem add_tw (big : Bool) (A B : List (List Fr)) (hl : A.length + B.length ≤ 1000) (H : Store) : opBin big .Add (tw A) (tw B) H = some (tw (A ++ B), H) := by
  unfold tw
  rw [s_addt, List.length_map, List.length_map, if_pos (Nat.le_trans hl (by decide)), List.map_append]
theorem rev_tw {T : List (List Fr)} {f : Den} {ρ : Rho} {H : Store} (e : f ρ H = .ok (tw T) H) : cRev f ρ H = .ok (tw T.reverse) H := by
  rw [a_rev, e]
  show Out.ok (W.tup (T.map rw).reverse) H = _
  rw [← List.map_reverse]
  rfl
end K01
end
section
set_option Elab.async false
set_option linter.all false
set_option maxRecDepth 100000
set_option maxHeartbeats 2000000
namespace K01
open PySem PySem.Spec Wv L2
/-- plain data of this depth -/
def dep : Nat → W → Bool
  | _, .int _ => true
  | _, .non => true
  | _, .bl _ => true
  | n + 1, .tup ws => ws.all (dep n) && decide (ws.length ≤ 1000)
  | _, _ => false
theorem c_same : ∀ (d : Nat) (w : W) (k : Nat) (h : Store), d ≤ k → dep d w = true → callK prg (k + 1) "_law_same" [w, w] h = .ok (.bl true) h
  | d, .int i, k, h, _, _ => by
    rw [k__law_same]
    simp [b__law_same, startR, cutR_same]
  | d, .non, k, h, _, _ => by
    rw [k__law_same]
    simp [b__law_same, startR, cutR_same]
  | d, .bl b, k, h, _, _ => by
    rw [k__law_same]
    simp [b__law_same, startR, cutR_same]
  | d + 1, .tup ws, k, h, hk, e => by
    obtain ⟨k, rfl⟩ : ∃ z, k = z + 1 := ⟨k - 1, by omega⟩
    unfold dep at e
    obtain ⟨e1, e2⟩ := Bool.and_eq_true_iff.mp e
    have e2 := of_decide_eq_true e2
    have hl : (List.range ws.length).length ≤ 16777216 := by
      rw [List.length_range]
      exact Nat.le_trans e2 (by decide)
    have c0 : compL [] (.nm 2) cTrue (cCall (callK prg (k + 1)) 2 "_law_same" (cCons (cIx (cVar 0) (cVar 2)) (cCons (cIx (cVar 1) (cVar 2)) cNil))) [some (.tup ws), some (.tup ws), none] ((List.range ws.length).map iw) [] h = .ok ((List.range ws.length).map fun _ => .bl true) h := by
      refine comp_map _ hl fun i hi => ?_
      have hi := List.mem_range.mp hi
      have i1 : atI ws (i : Int) = some ws[i] := by
        rw [atI_nat hi, List.getElem?_eq_getElem hi]
      have ih := c_same d ws[i] k h (by omega) (List.all_eq_true.mp e1 _ (List.getElem_mem hi))
      refine ⟨_, bind_nm _ _ _, rfl, ?_⟩
      simp only [iw]
      simp [i1, ih]
    have r1 : rng1 [.int (ws.length : Int)] = some ((List.range ws.length).map iw) := rng1_nat (Nat.lt_of_le_of_lt e2 (by decide))
    rw [k__law_same]
    simp [b__law_same, startR, r1, c0, all_map, cutR_same]
  | 0, .tup _, _, _, _, e => by unfold dep at e; cases e
  | d, .str _, _, _, _, e => by cases d <;> (unfold dep at e; cases e)
  | d, .ref _, _, _, _, e => by cases d <;> (unfold dep at e; cases e)
  | d, .glo _, _, _, _, e => by cases d <;> (unfold dep at e; cases e)
  | d, .kls _, _, _, _, e => by cases d <;> (unfold dep at e; cases e)
theorem c_same_mal (k : Nat) (h : Store) : callK prg (k + 1) "_law_same" [.str "malformed", .str "malformed"] h = .ok (.bl true) h := by
  have e : cmpW .Eq (.str "malformed") (.str "malformed") h = some true := by
    have z : cmpW .Eq (.str "malformed") (.str "malformed") h = cmpEq (.str "malformed") (.str "malformed") h := by
      unfold cmpW
      rfl
    have p : pyd h (.str "malformed") = some (.str "malformed") := pyd_of (by unfold toPy; rfl) (by decide +kernel) (by decide +kernel)
    rw [z]
    unfold cmpEq
    rw [p]
    dsimp only
    rw [show PyData.eqv (.str "malformed") (.str "malformed") = true by decide +kernel]
  rw [k__law_same]
  simp [b__law_same, startR, e, cutR_same]
theorem eq_told (h : Store) : cmpW .Eq (.str "told") (.str "told") h = some true := by
  have z : cmpW .Eq (.str "told") (.str "told") h = cmpEq (.str "told") (.str "told") h := by
    unfold cmpW
    rfl
  have p : pyd h (.str "told") = some (.str "told") := pyd_of (by unfold toPy; rfl) (by decide +kernel) (by decide +kernel)
  rw [z]
  unfold cmpEq
  rw [p]
  dsimp only
  rw [show PyData.eqv (.str "told") (.str "told") = true by decide +kernel]
theorem eq_raised (h : Store) : cmpW .Eq (.str "raised") (.str "raised") h = some true := by
  have z : cmpW .Eq (.str "raised") (.str "raised") h = cmpEq (.str "raised") (.str "raised") h := by
    unfold cmpW
    rfl
  have p : pyd h (.str "raised") = some (.str "raised") := pyd_of (by unfold toPy; rfl) (by decide +kernel) (by decide +kernel)
  rw [z]
  unfold cmpEq
  rw [p]
  dsimp only
  rw [show PyData.eqv (.str "raised") (.str "raised") = true by decide +kernel]
theorem ct_mal : prg.ct "Malformed" "Malformed" = some true := by kernel_rfl
theorem try_ap (ct : Catch) (c : Str) (b s : DenS) (ρ : Rho) (h : Store) : sTry ct c b s ρ h = match b ρ h with
  | .exc e ρ2 h2 => (match ct e.cls c with
    | some true => (match s ρ2 h2 with
      | .exc _ _ _ => .bad
      | o => o)
    | _ => .bad)
  | o => o := id rfl
theorem cutR_set {w : W} {h t : Store} {S : Nat} {o : Ob} (b : belowW h.length w = true) (bo : belowO h.length o = true) : cutR h w (h.set S o ++ t) = .ok w (h.set S o) := by
  refine cutR_of b (by rw [List.length_set]) ?_ fun i x e => ?_
  · rw [List.take_left' (by rw [List.length_set])]
  · by_cases hi : S = i
    · subst hi
      have hl := (List.getElem?_eq_some_iff.mp e).1
      rw [List.length_set] at hl
      rw [List.getElem?_set_self hl] at e
      cases e
      exact .inr bo
    · rw [List.getElem?_set_ne hi] at e
      exact .inl e
/-- the state's two numbers -/
abbrev twoN (s0 s1 : Int) : Ob := .lst [.int s0, .int s1]
def StAt (h : Store) (S : Nat) : Prop := ∃ s0 s1, own? h S = some [.int s0, .int s1]
theorem two_below (n : Nat) (s0 s1 : Int) : belowO n (twoN s0 s1) = true := rfl
theorem StAt.set {h : Store} {S : Nat} (a : StAt h S) (s0 s1 : Int) : StAt (h.set S (twoN s0 s1)) S := by
  obtain ⟨x, y, e⟩ := a
  exact ⟨s0, s1, own_set e⟩
theorem StAt.app {h : Store} {S : Nat} (a : StAt h S) (t : Store) : StAt (h ++ t) S := by
  obtain ⟨x, y, e⟩ := a
  exact ⟨x, y, own_app e⟩
theorem cutR_set0 {w : W} {h : Store} {S : Nat} {o : Ob} (b : belowW h.length w = true) (bo : belowO h.length o = true) : cutR h w (h.set S o) = .ok w (h.set S o) := by
  have := cutR_set (t := []) (S := S) b bo
  rw [List.append_nil] at this
  exact this
theorem c_take {K : Nat} {S : Nat} {m : Int} {h : Store} (a : StAt h S) (h0 : 0 < m) (h1 : m < 1000) : ∃ v s0 s1, 0 ≤ v ∧ v < m ∧ callK prg (K + 1) "_law_take" [.ref S, .int m] h = .ok (.int v) (h.set S (twoN s0 s1)) := by
  obtain ⟨s0, s1, e⟩ := a
  have m0 : m ≠ 0 := by omega
  have dv : divOk m = true := by
    unfold divOk
    simp
    omega
  have d7 : divOk 7 = true := by decide
  have ix : ∀ i, ixW h (.ref S) (.int i) = atI [.int s0, .int s1] i := (lst_of_own e).2.2.2.2
  have mk : ∀ z : Int, mulOk z 48271 = true := fun z => by
    unfold mulOk
    have : decide ((48271 : Int).natAbs < 2 ^ 64) = true := by decide
    rw [this]
    simp
  rw [k__law_take]
  by_cases c : 0 < s0
  · refine ⟨s0.fmod m, s0.fdiv m, s1, Int.fmod_nonneg_of_pos _ h0, Int.fmod_lt_of_pos _ h0, ?_⟩
    have n0 : ixN 2 0 = some 0 := rfl
    simp [b__law_take, startR, ix, c, m0, dv, e, n0]
    exact cutR_set0 rfl rfl
  · have e2 := own_set (ws := [.int s0, .int ((s1 * 48271 + 11).fmod 2147483647)]) e
    have ix2 : ∀ i, ixW (h.set S (twoN s0 ((s1 * 48271 + 11).fmod 2147483647))) (.ref S) (.int i) = atI [.int s0, .int ((s1 * 48271 + 11).fmod 2147483647)] i := (lst_of_own e2).2.2.2.2
    refine ⟨(((s1 * 48271 + 11).fmod 2147483647).fdiv 7).fmod m, s0, (s1 * 48271 + 11).fmod 2147483647, Int.fmod_nonneg_of_pos _ h0, Int.fmod_lt_of_pos _ h0, ?_⟩
    have n1 : ixN 2 1 = some 1 := rfl
    simp [b__law_take, startR, ix, c, m0, d7, e, n1, mk, ix2]
    exact cutR_set0 rfl rfl
theorem c_drawn {K : Nat} (hK : 33 ≤ K) {S : Nat} {h : Store} (a : StAt h S) : ∃ x s0 s1, Good 3 x ∧ callK prg (K + 1) "_law_drawn" [.ref S] h = .ok (fw x) (h.set S (twoN s0 s1)) := by
  obtain ⟨k, rfl⟩ : ∃ z, K = z + 1 := ⟨K - 1, by omega⟩
  obtain ⟨v, s0, s1, v0, v1, e⟩ := c_take (K := k) (m := 13) a (by decide) (by decide)
  obtain ⟨w, t0, t1, w0, w1, e2⟩ := c_take (K := k) (m := 4) (a.set s0 s1) (by decide) (by decide)
  rw [List.set_set] at e2
  have sn : sz 3 (v - 6) := by
    unfold sz
    omega
  have sd : sz 3 (1 + w) := by
    unfold sz
    omega
  have hd : (1 + w : Int) ≠ 0 := by omega
  have fr := c_frac k (n := v - 6) (h.set S (twoN t0 t1)) (by omega) (by decide) sd hd
  refine ⟨low (v - 6) (1 + w), t0, t1, low_good hd sn sd, ?_⟩
  rw [k__law_drawn]
  simp [b__law_drawn, startR, e, e2, fr]
  exact cutR_set0 (flat_below _ _ rfl) rfl
theorem c_state {K : Nat} (ns : List Int) (hn : ns.length ≤ 63) : ∃ s0 s1, callK prg (K + 1) "_law_state" [.kls (ns.map W.int)] [] = .ok (.ref 1) [Ob.lst (ns.map W.int), twoN s0 s1] := by
  have mk1 : ∀ z : Int, mulOk z 1000003 = true := fun z => by
    unfold mulOk
    rw [show decide ((1000003 : Int).natAbs < 2 ^ 64) = true by decide]
    simp
  have mk2 : ∀ z : Int, mulOk z 48271 = true := fun z => by
    unfold mulOk
    rw [show decide ((48271 : Int).natAbs < 2 ^ 64) = true by decide]
    simp
  have sl : slW [] (.kls (ns.map W.int)) none (some 63) = some (.ref 0, [Ob.lst (ns.map W.int)]) := by
    show some (W.ref 0, [Ob.lst (cutW (ns.map W.int) none (some 63))]) = _
    have e1 : HT.sIx (ns.map W.int).length (ns.map W.int).length (some ((63 : Nat) : Int)) = ns.length := by
      rw [HT.sIx_nat, List.length_map]
      exact Nat.min_eq_right hn
    have e2 : cutW (ns.map W.int) none (some 63) = ns.map W.int := cutW_whole ⟨rfl, by rw [show (63 : Int) = ((63 : Nat) : Int) from rfl, e1, List.length_map]⟩
    rw [e2]
  have o1 : own? [Ob.lst (ns.map W.int)] 0 = some (ns.map W.int) := rfl
  obtain ⟨y1, y2, y3, y4, y5⟩ := lst_of_own o1
  obtain ⟨ρ2, f1, ⟨s, t, a3, e⟩, _⟩ := forL_fold (g := [(0, ns.map W.int)]) (T := .nm 3) (body := sSeq (sAsg (cBin (decide (32 ≤ K)) .Add (cBin (decide (32 ≤ K)) .Mult (cVar 1) (cVal (.int 1000003))) (cV1 absV1 (cVar 3))) (gNm 1))
    (sSeq (sAsg (cBin (decide (32 ≤ K)) .Mod (cV1 intV (cBin (decide (32 ≤ K)) .Add (cBin (decide (32 ≤ K)) .Mult (cVar 2) (cVal (.int 48271))) (cVar 3))) (cVal (.int 2147483647))) (gNm 2)) sSkip)) (enc := W.int) (st := fun _ : Unit => [Ob.lst (ns.map W.int)]) (Sh := fun ρ => ∃ s t a3, ρ = [some (.kls (ns.map W.int)), some (.int s), some (.int t), a3]) (Iv := fun _ => True) (f := fun s _ => s)
    (fun _ _ => gdOk_one (lst_own o1)) ns () [some (.kls (ns.map W.int)), some (.int 0), some (.int 1), none] (fun x _ _ ρ _ ⟨s, t, a3, e⟩ => by
      subst e
      refine ⟨_, bind_nm _ _ _, [some (.kls (ns.map W.int)), some (.int (s * 1000003 + (if x < 0 then -x else x))), some (.int ((t * 48271 + x).fmod 2147483647)), some (.int x)], ?_, ⟨_, _, _, rfl⟩, trivial⟩
      simp [mk1, mk2]) trivial ⟨_, _, _, rfl⟩
  subst e
  refine ⟨s, t, ?_⟩
  rw [k__law_state]
  simp [b__law_state, startR, sl, y1, f1]
  rw [cutR_keep rfl]
theorem StAt.same {h : Store} {S : Nat} (a : StAt h S) : ∃ s0 s1, h = h.set S (twoN s0 s1) := by
  obtain ⟨x, y, e⟩ := a
  exact ⟨x, y, (set_same e).symm⟩
/-- a comprehension that draws -/
theorem comp_draw {T : Tgt} {te : Den} {ρ0 : Rho} {S : Nat} {L : Nat} (hs : ∀ (i : Nat) (h : Store), StAt h S → ∃ ρ1, T.bind (iw i) ρ0 = some ρ1 ∧ ∃ x s0 s1, Good L x ∧ te ρ1 h = .ok (fw x) (h.set S (twoN s0 s1))) :
    ∀ (is : List Nat) (acc : List W) (h : Store), acc.length + is.length ≤ 1000 → StAt h S → ∃ (row : List Fr) (s0 s1 : Int), compL [] T cTrue te ρ0 (is.map iw) acc h = .ok (acc ++ row.map fw) (h.set S (twoN s0 s1)) ∧ row.length = is.length ∧ ∀ x ∈ row, Good L x
  | [], acc, h, _, a => by
    obtain ⟨s0, s1, e⟩ := a.same
    refine ⟨[], s0, s1, ?_, rfl, fun x hx => nomatch hx⟩
    rw [List.map_nil]
    unfold compL
    rw [if_pos (gdOk_nil _), ← e]
    simp
  | i :: is, acc, h, hl, a => by
    obtain ⟨ρ1, e1, x, s0, s1, g, e2⟩ := hs i h a
    rw [List.length_cons] at hl
    obtain ⟨row, t0, t1, e3, e4, e5⟩ := comp_draw hs is (acc ++ [fw x]) (h.set S (twoN s0 s1)) (by rw [List.length_append]; simp; omega) (a.set s0 s1)
    have lt : acc.length < 16777216 := Nat.lt_of_le_of_lt (show acc.length ≤ 1000 by omega) (by decide)
    refine ⟨x :: row, t0, t1, ?_, by rw [List.length_cons, List.length_cons, e4], fun y hy => ?_⟩
    · rw [List.map_cons]
      unfold compL
      rw [if_pos (gdOk_nil _), e1]
      dsimp only
      rw [a_true]
      dsimp only
      rw [e2]
      dsimp only
      rw [if_pos lt, e3, List.set_set]
      simp
    · rcases List.mem_cons.mp hy with z | z
      · rw [z]
        exact g
      · exact e5 y z
theorem dep_fw (x : Fr) : dep 3 (fw x) = true := by
  obtain ⟨n, d⟩ := x
  unfold fw
  simp [dep]
theorem dep_rw {r : List Fr} (h : r.length ≤ 1000) : dep 4 (rw r) = true := by
  unfold rw dep
  rw [List.length_map, decide_eq_true h, Bool.and_true, List.all_map]
  exact List.all_eq_true.mpr fun x _ => dep_fw x
theorem dep_rw5 {r : List Fr} (h : r.length ≤ 1000) : dep 5 (rw r) = true := by
  unfold rw dep
  rw [List.length_map, decide_eq_true h, Bool.and_true, List.all_map]
  refine List.all_eq_true.mpr fun x _ => ?_
  obtain ⟨n, d⟩ := x
  simp [fw, dep]
theorem dep_tw {A : List (List Fr)} (h : A.length ≤ 1000) (hr : ∀ r ∈ A, r.length ≤ 1000) : dep 5 (tw A) = true := by
  unfold tw dep
  rw [List.length_map, decide_eq_true h, Bool.and_true, List.all_map]
  exact List.all_eq_true.mpr fun x hx => dep_rw (hr x hx)
theorem comp_drawE {α : Type} {enc : α → W} {T : Tgt} {te : Den} {ρ0 : Rho} {S : Nat} {L : Nat} (hs : ∀ (i : α) (h : Store), StAt h S → ∃ ρ1, T.bind (enc i) ρ0 = some ρ1 ∧ ∃ x s0 s1, Good L x ∧ te ρ1 h = .ok (fw x) (h.set S (twoN s0 s1))) :
    ∀ (is : List α) (acc : List W) (h : Store), acc.length + is.length ≤ 1000 → StAt h S → ∃ (row : List Fr) (s0 s1 : Int), compL [] T cTrue te ρ0 (is.map enc) acc h = .ok (acc ++ row.map fw) (h.set S (twoN s0 s1)) ∧ row.length = is.length ∧ ∀ x ∈ row, Good L x
  | [], acc, h, _, a => by
    obtain ⟨s0, s1, e⟩ := a.same
    refine ⟨[], s0, s1, ?_, rfl, fun x hx => nomatch hx⟩
    rw [List.map_nil]
    unfold compL
    rw [if_pos (gdOk_nil _), ← e]
    simp
  | i :: is, acc, h, hl, a => by
    obtain ⟨ρ1, e1, x, s0, s1, g, e2⟩ := hs i h a
    rw [List.length_cons] at hl
    obtain ⟨row, t0, t1, e3, e4, e5⟩ := comp_drawE hs is (acc ++ [fw x]) (h.set S (twoN s0 s1)) (by rw [List.length_append]; simp; omega) (a.set s0 s1)
    have lt : acc.length < 16777216 := Nat.lt_of_le_of_lt (show acc.length ≤ 1000 by omega) (by decide)
    refine ⟨x :: row, t0, t1, ?_, by rw [List.length_cons, List.length_cons, e4], fun y hy => ?_⟩
    · rw [List.map_cons]
      unfold compL
      rw [if_pos (gdOk_nil _), e1]
      dsimp only
      rw [a_true]
      dsimp only
      rw [e2]
      dsimp only
      rw [if_pos lt, e3, List.set_set]
      simp
    · rcases List.mem_cons.mp hy with z | z
      · rw [z]
        exact g
      · exact e5 y z
theorem StAt.lt {h : Store} {S : Nat} (a : StAt h S) : S < h.length := by
  obtain ⟨x, y, e⟩ := a
  exact own_lt e
theorem set_app {h t : Store} {S : Nat} (a : StAt h S) (o : Ob) : (h ++ t).set S o = h.set S o ++ t := List.set_append_left _ _ a.lt
/-- the store as it was, but for the state's two numbers and new objects -/
def Kept (h H : Store) (S : Nat) : Prop := ∃ s0 s1 t, H = h.set S (twoN s0 s1) ++ t
theorem Kept.old {h H : Store} {S : Nat} (a : StAt h S) (o : Old h H) : Kept h H S := by
  obtain ⟨t, rfl⟩ := o
  obtain ⟨s0, s1, e⟩ := a.same
  exact ⟨s0, s1, t, by rw [← e]⟩
theorem Kept.at_ {h H : Store} {S : Nat} (a : StAt h S) (k : Kept h H S) : StAt H S := by
  obtain ⟨s0, s1, t, rfl⟩ := k
  exact (a.set s0 s1).app t
theorem Kept.app {h H : Store} {S : Nat} (k : Kept h H S) (t : Store) : Kept h (H ++ t) S := by
  obtain ⟨s0, s1, t2, rfl⟩ := k
  exact ⟨s0, s1, t2 ++ t, by rw [List.append_assoc]⟩
theorem Kept.ext {h H H2 : Store} {S : Nat} (k : Kept h H S) (o : Old H H2) : Kept h H2 S := by
  obtain ⟨t, rfl⟩ := o
  exact k.app t
theorem Kept.two {h H : Store} {S : Nat} (a : StAt h S) (k : Kept h H S) (s0 s1 : Int) : Kept h (H.set S (twoN s0 s1)) S := by
  obtain ⟨u0, u1, t2, rfl⟩ := k
  refine ⟨s0, s1, t2, ?_⟩
  rw [set_app (a.set u0 u1), List.set_set]
theorem Kept.le {h H : Store} {S : Nat} (k : Kept h H S) : h.length ≤ H.length := by
  obtain ⟨u0, u1, t2, rfl⟩ := k
  rw [List.length_append, List.length_set]
  omega
theorem Kept.put {h H : Store} {S n : Nat} (k : Kept h H S) (hn : h.length ≤ n) (o : Ob) : Kept h (H.set n o) S := by
  obtain ⟨u0, u1, t2, rfl⟩ := k
  refine ⟨u0, u1, t2.set (n - h.length) o, ?_⟩
  rw [List.set_append_right _ _ (by rw [List.length_set]; exact hn), List.length_set]
theorem Kept.cut {h H : Store} {S : Nat} (k : Kept h H S) {w : W} (b : belowW h.length w = true) : ∃ s0 s1, cutR h w H = .ok w (h.set S (twoN s0 s1)) := by
  obtain ⟨u0, u1, t2, rfl⟩ := k
  exact ⟨u0, u1, cutR_set b rfl⟩
end K01
end
section
set_option Elab.async false
set_option linter.all false
set_option maxRecDepth 100000
set_option maxHeartbeats 2000000
namespace K01
open PySem PySem.Spec Wv L2
theorem sum_good {L : Nat} : ∀ (xs : List Fr) (x : Fr) (M : Nat), (∀ y ∈ xs, Good L y) → Good M x → Good (M + xs.length * (L + 1)) (xs.foldl addF x)
  | [], x, M, _, g => by simpa using g
  | y :: xs, x, M, h, g => by
    rw [List.foldl_cons, List.length_cons]
    have a := addF_good g (h y List.mem_cons_self)
    have b := sum_good xs (addF x y) (M + L + 1) (fun z hz => h z (List.mem_cons_of_mem _ hz)) a
    refine b.mono ?_
    rw [Nat.add_mul]
    omega
theorem c_total {K L X : Nat} (hK : 35 ≤ K) {h : Store} {xs : List Fr} (e : own? h X = some (xs.map fw)) (hg : ∀ y ∈ xs, Good L y) (hs : 1 + xs.length * (L + 1) + L ≤ 90000000) : callK prg (K + 1) "_law_total" [.ref X] h = .ok (fw (xs.foldl addF (0, 1))) h := by
  obtain ⟨k, rfl⟩ : ∃ z, K = z + 1 := ⟨K - 1, by omega⟩
  obtain ⟨y1, y2, y3, y4, y5⟩ := lst_of_own e
  have key : ∀ (ys : List Fr) (x : Fr) (M : Nat) (a2 : Option W), (∀ y ∈ ys, Good L y) → Good M x → M + ys.length * (L + 1) + L ≤ 90000000 → ∃ ρ2 a2', forL [(X, xs.map fw)] (.nm 2) (sSeq (sAsg (cCall (callK prg (k + 1)) 2 "_law_add" (cCons (cVar 1) (cCons (cVar 2) cNil))) (gNm 1)) sSkip) (ys.map fw) [some (.ref X), some (fw x), a2] h = .next ρ2 h ∧ ρ2 = [some (.ref X), some (fw (ys.foldl addF x)), a2'] := by
    intro ys
    induction ys with
    | nil =>
      intro x M a2 _ _ _
      refine ⟨_, a2, ?_, rfl⟩
      rw [List.map_nil]
      unfold forL
      rw [if_pos (gdOk_one (lst_own e))]
      rfl
    | cons y ys ih =>
      intro x M a2 hy gx hs
      rw [List.length_cons, Nat.add_mul] at hs
      have gy := hy y List.mem_cons_self
      have ad := c_add k h (by omega) gx gy (by omega)
      obtain ⟨ρ2, a2', f1, f2⟩ := ih (addF x y) (M + L + 1) (some (fw y)) (fun z hz => hy z (List.mem_cons_of_mem _ hz)) (addF_good gx gy) (by omega)
      refine ⟨ρ2, a2', ?_, f2⟩
      rw [List.map_cons]
      unfold forL
      rw [if_pos (gdOk_one (lst_own e)), bind_nm]
      dsimp only
      simp [ad, f1]
  obtain ⟨ρ2, a2', f1, f2⟩ := key xs (0, 1) 1 none hg good_zero hs
  subst f2
  rw [k__law_total]
  have z : fw (0, 1) = .tup [.int 0, .int 1] := rfl
  rw [z] at f1
  simp [b__law_total, startR, y1, f1, cutR_same]
/-- elements that leave something behind in the store -/
theorem comp_grow {T : Tgt} {tt : DenT} {te : Den} {ρ0 : Rho} {α : Type} {enc : α → W} {f : α → W} {h : Store} : ∀ (xs : List α) (acc : List W) (t : Store), acc.length + xs.length ≤ 1000 →
    (∀ x ∈ xs, ∀ t, ∃ ρ1, T.bind (enc x) ρ0 = some ρ1 ∧ tt ρ1 (h ++ t) = .ok true (h ++ t) ∧ ∃ t2, te ρ1 (h ++ t) = .ok (f x) (h ++ t2)) → ∃ t2, compL [] T tt te ρ0 (xs.map enc) acc (h ++ t) = .ok (acc ++ xs.map f) (h ++ t2)
  | [], acc, t, _, _ => ⟨t, by
    rw [List.map_nil]
    unfold compL
    rw [if_pos (gdOk_nil _)]
    simp⟩
  | x :: xs, acc, t, hl, hx => by
    obtain ⟨ρ1, e1, e2, t2, e3⟩ := hx x List.mem_cons_self t
    rw [List.length_cons] at hl
    obtain ⟨t3, e4⟩ := comp_grow xs (acc ++ [f x]) t2 (by rw [List.length_append]; simp; omega) fun y hy => hx y (List.mem_cons_of_mem _ hy)
    have lt : acc.length < 16777216 := Nat.lt_of_le_of_lt (show acc.length ≤ 1000 by omega) (by decide)
    refine ⟨t3, ?_⟩
    rw [List.map_cons]
    unfold compL
    rw [if_pos (gdOk_nil _), e1]
    dsimp only
    rw [e2]
    dsimp only
    rw [e3]
    dsimp only
    rw [if_pos lt, e4]
    simp
def colM (T : List (List Fr)) (j : Nat) : List Fr := T.map fun line => (line[j]?).getD (0, 1)
end K01
end
section
set_option Elab.async false
set_option linter.all false
set_option maxRecDepth 100000
set_option maxHeartbeats 2000000
namespace K01
open PySem PySem.Spec Wv L2
/-! ### fractions by cross products -/
/-- x = n / d -/
def Is (x : Fr) (n d : Int) : Prop := x.1 * d = n * x.2
theorem is_low {n d : Int} (hd : d ≠ 0) : Is (low n d) n d := by
  obtain ⟨e1, e2⟩ := low_eq (n := n) hd
  unfold Is
  generalize (low n d).1 = l1 at *
  generalize (low n d).2 = l2 at *
  generalize gg n d = g at *
  subst e1 e2
  grind
theorem is_self (x : Fr) : Is x x.1 x.2 := rfl
theorem is_add {x y : Fr} {n m D : Int} (hx : x.2 ≠ 0) (hy : y.2 ≠ 0) (ex : Is x n D) (ey : Is y m D) : Is (addF x y) (n + m) D := by
  have h0 : x.2 * y.2 ≠ 0 := Int.mul_ne_zero hx hy
  have l := is_low (n := x.1 * y.2 + y.1 * x.2) h0
  have e : addF x y = low (x.1 * y.2 + y.1 * x.2) (x.2 * y.2) := rfl
  rw [e]
  generalize low (x.1 * y.2 + y.1 * x.2) (x.2 * y.2) = z at *
  unfold Is at *
  refine Int.eq_of_mul_eq_mul_right h0 ?_
  grind
theorem is_mul {x y : Fr} {n m D E : Int} (hx : x.2 ≠ 0) (hy : y.2 ≠ 0) (ex : Is x n D) (ey : Is y m E) : Is (mulF x y) (n * m) (D * E) := by
  have h0 : x.2 * y.2 ≠ 0 := Int.mul_ne_zero hx hy
  have l := is_low (n := x.1 * y.1) h0
  have e : mulF x y = low (x.1 * y.1) (x.2 * y.2) := rfl
  rw [e]
  generalize low (x.1 * y.1) (x.2 * y.2) = z at *
  unfold Is at *
  refine Int.eq_of_mul_eq_mul_right h0 ?_
  grind
theorem dvd_of_cross {a b c d : Int} (h : a * d = c * b) (g : Int.gcd a b = 1) : b ∣ d := by
  have h1 : b ∣ a * d := ⟨c, by rw [h, Int.mul_comm]⟩
  have h2 : b.natAbs ∣ a.natAbs * d.natAbs := by
    rw [← Int.natAbs_mul]
    exact Int.natAbs_dvd_natAbs.mpr h1
  have co : Nat.Coprime b.natAbs a.natAbs := by
    rw [Nat.coprime_comm]
    exact g
  exact Int.natAbs_dvd_natAbs.mp (co.dvd_of_dvd_mul_left h2)
theorem is_eq {x y : Fr} {n D : Int} (hD : D ≠ 0) (px : 0 < x.2) (gx : Int.gcd x.1 x.2 = 1) (py : 0 < y.2) (gy : Int.gcd y.1 y.2 = 1) (ex : Is x n D) (ey : Is y n D) : x = y := by
  have c : x.1 * y.2 = y.1 * x.2 := by
    unfold Is at *
    refine Int.eq_of_mul_eq_mul_right hD ?_
    grind
  have d1 : x.2 ∣ y.2 := dvd_of_cross c gx
  have d2 : y.2 ∣ x.2 := dvd_of_cross c.symm gy
  have e2 : x.2 = y.2 := Int.le_antisymm (Int.le_of_dvd py d1) (Int.le_of_dvd px d2)
  have e1 : x.1 = y.1 := by
    rw [e2] at c
    exact Int.eq_of_mul_eq_mul_right (by omega) c
  exact Prod.ext e1 e2
/-! ### a row over one number -/
def cmul1 (f : Int) (x : Fr) : Int := f.fdiv (Int.gcd f x.2) * x.2
def cmulF (row : List Fr) (f : Int) : Int := row.foldl cmul1 f
def cmul (row : List Fr) : Int := cmulF row 1
theorem cmul1_ok {f : Int} {x : Fr} (hf : 0 < f) (hx : 0 < x.2) : 0 < cmul1 f x ∧ f ∣ cmul1 f x ∧ x.2 ∣ cmul1 f x := by
  have g1 : (Int.gcd f x.2 : Int) ∣ f := Int.gcd_dvd_left f x.2
  have g2 : (Int.gcd f x.2 : Int) ∣ x.2 := Int.gcd_dvd_right f x.2
  have g0 : 0 < (Int.gcd f x.2 : Int) := by
    have : Int.gcd f x.2 ≠ 0 := fun e => by
      have := (Int.gcd_eq_zero_iff.mp e).1
      omega
    omega
  unfold cmul1
  generalize (Int.gcd f x.2 : Int) = g at *
  obtain ⟨a, ea⟩ := g1
  obtain ⟨b, eb⟩ := g2
  have e : f.fdiv g = a := by
    rw [ea, Int.mul_comm, Int.mul_fdiv_cancel _ (by omega)]
  rw [e]
  have ha : 0 < a := by
    by_cases c : 0 < a
    · exact c
    · have : g * a ≤ 0 := Int.mul_nonpos_of_nonneg_of_nonpos (by omega) (by omega)
      omega
  refine ⟨Int.mul_pos ha hx, ⟨b, ?_⟩, ⟨a, by rw [Int.mul_comm]⟩⟩
  rw [ea, eb]
  grind
theorem cmulF_ok : ∀ (row : List Fr) (f : Int), 0 < f → (∀ x ∈ row, 0 < x.2) → 0 < cmulF row f ∧ f ∣ cmulF row f ∧ ∀ x ∈ row, x.2 ∣ cmulF row f
  | [], f, hf, _ => ⟨hf, Int.dvd_refl f, fun x hx => nomatch hx⟩
  | y :: row, f, hf, h => by
    obtain ⟨a, b, c⟩ := cmul1_ok hf (h y List.mem_cons_self)
    obtain ⟨d, e, g⟩ := cmulF_ok row (cmul1 f y) a fun x hx => h x (List.mem_cons_of_mem _ hx)
    refine ⟨d, Int.dvd_trans b e, fun x hx => ?_⟩
    rcases List.mem_cons.mp hx with z | z
    · rw [z]
      exact Int.dvd_trans c e
    · exact g x z
theorem cmul1_sz {L M : Nat} {f : Int} {x : Fr} (hf : 0 < f) (hx : 0 < x.2) (sf : sz M f) (sx : sz L x.2) : sz (M + L) (cmul1 f x) := by
  have g1 : (Int.gcd f x.2 : Int) ∣ f := Int.gcd_dvd_left f x.2
  have g0 : (Int.gcd f x.2 : Int) ≠ 0 := by
    have : Int.gcd f x.2 ≠ 0 := fun e => by
      have := (Int.gcd_eq_zero_iff.mp e).1
      omega
    omega
  exact (sz_div (Int.mul_fdiv_cancel' g1).symm g0 sf).mul sx
theorem cmulF_sz {L : Nat} : ∀ (row : List Fr) (f : Int) (M : Nat), 0 < f → (∀ x ∈ row, Good L x) → sz M f → sz (M + row.length * L) (cmulF row f)
  | [], f, M, _, _, s => by
    rw [List.length_nil, Nat.zero_mul]
    exact s
  | y :: row, f, M, hf, h, s => by
    have gy := h y List.mem_cons_self
    have := cmulF_sz row (cmul1 f y) (M + L) (cmul1_ok hf gy.pos).1 (fun x hx => h x (List.mem_cons_of_mem _ hx)) (cmul1_sz hf gy.pos s gy.d)
    refine this.mono ?_
    rw [List.length_cons, Nat.add_mul]
    omega
def wholeI (d : Int) (row : List Fr) : List Int := row.map fun x => x.1 * d.fdiv x.2
theorem is_whole {x : Fr} {d : Int} (h : x.2 ∣ d) : Is x (x.1 * d.fdiv x.2) d := by
  unfold Is
  rw [Int.mul_assoc, Int.fdiv_mul_cancel h]
/-! ### the sum of products -/
theorem is_dot {d e : Int} : ∀ (l : List (Fr × Fr)) (acc : Fr) (N : Int), (∀ p ∈ l, (0 < p.1.2 ∧ p.1.2 ∣ d) ∧ (0 < p.2.2 ∧ p.2.2 ∣ e)) → 0 < acc.2 → Is acc N (d * e) →
    Is ((l.map fun p => mulF p.1 p.2).foldl addF acc) (N + (l.map fun p => (p.1.1 * d.fdiv p.1.2) * (p.2.1 * e.fdiv p.2.2)).sum) (d * e)
  | [], acc, N, _, _, i => by simpa using i
  | p :: l, acc, N, h, pa, i => by
    obtain ⟨⟨a1, a2⟩, b1, b2⟩ := h p List.mem_cons_self
    have m := is_mul (by omega) (by omega) (is_whole a2) (is_whole b2)
    have hm : 0 < (mulF p.1 p.2).2 := by
      have h0 : p.1.2 * p.2.2 ≠ 0 := Int.mul_ne_zero (by omega) (by omega)
      exact (low_good h0 (L := (p.1.1 * p.2.1).natAbs + (p.1.2 * p.2.2).natAbs) (Nat.lt_of_le_of_lt (Nat.le_add_right _ _) Nat.lt_two_pow_self) (Nat.lt_of_le_of_lt (Nat.le_add_left _ _) Nat.lt_two_pow_self)).pos
    have ad := is_add (show acc.2 ≠ 0 by omega) (show (mulF p.1 p.2).2 ≠ 0 by omega) i m
    have ha : 0 < (addF acc (mulF p.1 p.2)).2 := by
      have h0 : acc.2 * (mulF p.1 p.2).2 ≠ 0 := Int.mul_ne_zero (by omega) (by omega)
      exact (low_good h0 (L := (acc.1 * (mulF p.1 p.2).2 + (mulF p.1 p.2).1 * acc.2).natAbs + (acc.2 * (mulF p.1 p.2).2).natAbs) (Nat.lt_of_le_of_lt (Nat.le_add_right _ _) Nat.lt_two_pow_self) (Nat.lt_of_le_of_lt (Nat.le_add_left _ _) Nat.lt_two_pow_self)).pos
    have ih := is_dot l _ _ (fun q hq => h q (List.mem_cons_of_mem _ hq)) ha ad
    rw [List.map_cons, List.foldl_cons, List.map_cons, List.sum_cons, ← Int.add_assoc]
    exact ih
def dotZ (a b : List Fr) : Fr := (List.zipWith mulF a b).foldl addF (0, 1)
theorem dotZ_good {L M : Nat} {a b : List Fr} (ga : ∀ x ∈ a, Good L x) (gb : ∀ x ∈ b, Good M x) : Good (1 + (List.zipWith mulF a b).length * (L + M + 1)) (dotZ a b) := by
  refine sum_good _ (0, 1) 1 (fun y hy => ?_) good_zero
  rw [← List.map_uncurry_zip_eq_zipWith] at hy
  obtain ⟨p, hp, rfl⟩ := List.mem_map.mp hy
  have := List.of_mem_zip hp
  exact mulF_good (ga _ this.1) (gb _ this.2)
theorem dot_low {L M : Nat} {a b : List Fr} (ga : ∀ x ∈ a, Good L x) (gb : ∀ x ∈ b, Good M x) : low ((List.zip (wholeI (cmul a) a) (wholeI (cmul b) b)).map fun p : Int × Int => p.1 * p.2).sum (cmul a * cmul b) = dotZ a b := by
  obtain ⟨a1, _, a3⟩ := cmulF_ok a 1 (by decide) fun x hx => (ga x hx).pos
  obtain ⟨b1, _, b3⟩ := cmulF_ok b 1 (by decide) fun x hx => (gb x hx).pos
  have hD : cmul a * cmul b ≠ 0 := Int.mul_ne_zero (by unfold cmul; omega) (by unfold cmul; omega)
  have g := dotZ_good ga gb
  have gl := low_good hD (n := ((List.zip (wholeI (cmul a) a) (wholeI (cmul b) b)).map fun p : Int × Int => p.1 * p.2).sum) (L := ((List.zip (wholeI (cmul a) a) (wholeI (cmul b) b)).map fun p : Int × Int => p.1 * p.2).sum.natAbs + (cmul a * cmul b).natAbs) (Nat.lt_of_le_of_lt (Nat.le_add_right _ _) Nat.lt_two_pow_self) (Nat.lt_of_le_of_lt (Nat.le_add_left _ _) Nat.lt_two_pow_self)
  refine is_eq hD gl.pos gl.one g.pos g.one (is_low hD) ?_
  have := is_dot (d := cmul a) (e := cmul b) (List.zip a b) (0, 1) 0 (fun p hp => by
    have := List.of_mem_zip hp
    exact ⟨⟨(ga _ this.1).pos, a3 _ this.1⟩, (gb _ this.2).pos, b3 _ this.2⟩) (by decide) (by unfold Is; simp)
  rw [Int.zero_add] at this
  unfold dotZ
  rw [← List.map_uncurry_zip_eq_zipWith]
  have e : (List.zip (wholeI (cmul a) a) (wholeI (cmul b) b)).map (fun p : Int × Int => p.1 * p.2) = (List.zip a b).map fun p => (p.1.1 * (cmul a).fdiv p.1.2) * (p.2.1 * (cmul b).fdiv p.2.2) := by
    unfold wholeI
    rw [List.zip_map, List.map_map]
    rfl
  rw [e]
  exact this
end K01
end
section
set_option Elab.async false
set_option linter.all false
set_option maxRecDepth 100000
set_option maxHeartbeats 2000000
namespace K01
open PySem PySem.Spec Wv L2
theorem c_common {k L : Nat} {h : Store} {row : List Fr} (hk : 33 ≤ k) (g : ∀ x ∈ row, Good L x) (hs : 1 + row.length * L + L ≤ 90000000) : callK prg (k + 1) "common_multiple" [rw row] h = .ok (.int (cmul row)) h := by
  obtain ⟨k, rfl⟩ : ∃ j, k = j + 1 := ⟨k - 1, by omega⟩
  have key : ∀ (ys : List Fr) (f : Int) (M : Nat) (a2 : Option W), (∀ x ∈ ys, Good L x) → 0 < f → sz M f → M + ys.length * L + L ≤ 90000000 → ∃ a2', forL [] (.nm 2) (sSeq (sAsg (cBin true .Mult (cBin true .FloorDiv (cVar 1) (cCall (callK prg (k + 1)) 2 "greatest_common" (cCons (cVar 1) (cCons (cIx (cVar 2) (cVal (.int 1))) cNil)))) (cIx (cVar 2) (cVal (.int 1)))) (gNm 1))
    sSkip) (ys.map fw) [some (rw row), some (.int f), a2] h = .next [some (rw row), some (.int (cmulF ys f)), a2'] h := by
    intro ys
    induction ys with
    | nil =>
      intro f M a2 _ _ _ _
      refine ⟨a2, ?_⟩
      rw [List.map_nil]
      unfold forL
      rw [if_pos (gdOk_nil _)]
      rfl
    | cons y ys ih =>
      intro f M a2 hy hf sf hl
      have gy := hy y List.mem_cons_self
      rw [List.length_cons, Nat.add_mul] at hl
      obtain ⟨a2', ih⟩ := ih (cmul1 f y) (M + L) (some (fw y)) (fun x hx => hy x (List.mem_cons_of_mem _ hx)) (cmul1_ok hf gy.pos).1 (cmul1_sz hf gy.pos sf gy.d) (by omega)
      refine ⟨a2', forL_step (gdOk_nil _) (bind_nm _ _ _) ?_ ih⟩
      have cg := c_gcd k (L := L) (a := f) (b := y.2) h (by omega) gy.d
      have g0 : (Int.gcd f y.2 : Int) ≠ 0 := by
        have : Int.gcd f y.2 ≠ 0 := fun e => by
          have := (Int.gcd_eq_zero_iff.mp e).1
          omega
        omega
      have g1 : (Int.gcd f y.2 : Int) ∣ f := Int.gcd_dvd_left f y.2
      have mo : mulOk (f.fdiv (Int.gcd f y.2)) y.2 = true := mul_sz (sz_div (Int.mul_fdiv_cancel' g1).symm g0 sf) gy.d (by omega)
      have i1 : ixW h (fw y) (.int 1) = some (.int y.2) := s_ix1 _ _ _
      have g0' : Int.gcd f y.2 ≠ 0 := by omega
      simp [i1, cg, g0', mo, cmul1]
  obtain ⟨a2', f1⟩ := key row 1 1 none g (by decide) (by unfold sz; decide) hs
  rw [k_common_multiple, decide_eq_true (show 32 ≤ k + 1 by omega)]
  simp [b_common_multiple, startR, it_rw, f1, cutR_same, cmul]
def wholeW (row : List Fr) : List W := (wholeI (cmul row) row).map W.int
theorem c_whole {k L : Nat} {h : Store} {row : List Fr} (hk : 34 ≤ k) (g : ∀ x ∈ row, Good L x) (hl : row.length ≤ 1000) (hs : 1 + row.length * L + L ≤ 90000000) : callK prg (k + 1) "whole_row" [rw row] h = .ok (.tup [.int (cmul row), .ref h.length]) (h ++ [Ob.lst (wholeW row)]) := by
  obtain ⟨k, rfl⟩ : ∃ j, k = j + 1 := ⟨k - 1, by omega⟩
  have cc := c_common (k := k) (h := h) (by omega) g hs
  obtain ⟨a1, _, a3⟩ := cmulF_ok row 1 (by decide) fun x hx => (g x hx).pos
  have sd : sz (1 + row.length * L) (cmul row) := cmulF_sz row 1 1 (by decide) g (by unfold sz; decide)
  have c0 : compL [] (.nm 2) cTrue (cBin true .Mult (cIx (cVar 2) (cVal (.int 0))) (cBin true .FloorDiv (cVar 1) (cIx (cVar 2) (cVal (.int 1))))) [some (rw row), some (.int (cmul row)), none] (row.map fw) [] h = .ok (wholeW row) h := by
    unfold wholeW wholeI
    rw [List.map_map]
    refine comp_map row (Nat.le_trans hl (by decide)) fun x hx => ?_
    have gx := g x hx
    have px := gx.pos
    have dv : x.2 ∣ cmul row := a3 x hx
    have mo : mulOk x.1 ((cmul row).fdiv x.2) = true := mul_sz gx.n (sz_div (Int.mul_fdiv_cancel' dv).symm (by omega) sd) (by omega)
    have i0 : ixW h (fw x) (.int 0) = some (.int x.1) := s_ix0 _ _
    have i1 : ixW h (fw x) (.int 1) = some (.int x.2) := s_ix1 _ _ _
    have x0 : x.2 ≠ 0 := by omega
    refine ⟨_, bind_nm _ _ _, rfl, ?_⟩
    simp [i0, i1, x0, mo]
  rw [k_whole_row, decide_eq_true (show 32 ≤ k + 1 by omega)]
  simp [b_whole_row, startR, cc, it_rw, c0]
  refine cutR_keep ?_
  simp [belowW, belowWs]
def turnM (T : List (List Fr)) (q : Nat) : List (List Fr) := (List.range q).map (colM T)
theorem col_good {M q : Nat} {T : List (List Fr)} (m : Mat M q T) {j : Nat} (hj : j < q) : ∀ x ∈ colM T j, Good M x := fun x hx => by
  unfold colM at hx
  obtain ⟨line, hm, rfl⟩ := List.mem_map.mp hx
  exact m.good line hm _ (get_d (show j < line.length by rw [m.len line hm]; exact hj)).2
theorem col_len (T : List (List Fr)) (j : Nat) : (colM T j).length = T.length := by
  unfold colM
  rw [List.length_map]
theorem turn_mat {M q : Nat} {T : List (List Fr)} (m : Mat M q T) : Mat M T.length (turnM T q) := ⟨fun r hr => by
  unfold turnM at hr
  obtain ⟨j, _, rfl⟩ := List.mem_map.mp hr
  exact col_len T j, fun r hr => by
  unfold turnM at hr
  obtain ⟨j, hj, rfl⟩ := List.mem_map.mp hr
  exact col_good m (List.mem_range.mp hj)⟩
theorem turn_len (T : List (List Fr)) (q : Nat) : (turnM T q).length = q := by
  unfold turnM
  rw [List.length_map, List.length_range]
theorem col_comp {M q : Nat} {T : List (List Fr)} (m : Mat M q T) (hT : T.length ≤ 1000) {j : Nat} (hj : j < q) {h : Store} {ρ0 : Rho} {s t : Nat} (ht : ρ0[t]? = some (some (iw j))) (hs : s < ρ0.length) (ne : s ≠ t) : compL [] (.nm s) cTrue (cIx (cVar s) (cVar t)) ρ0 (T.map rw) [] h = .ok ((colM T j).map fw) h := by
  unfold colM
  rw [List.map_map]
  refine comp_map T (Nat.le_trans hT (by decide)) fun line hm => ?_
  obtain ⟨m1, m2⟩ := get_d (show j < line.length by rw [m.len line hm]; exact hj)
  have i1 : ixW h (rw line) (.int (j : Int)) = some (fw ((line[j]?).getD (0, 1))) := atI_map m1
  refine ⟨_, bind_nm _ _ _, rfl, ?_⟩
  simp only [iw] at ht
  rw [a_ix, a_var, List.getElem?_set_self hs]
  show (cVar t _ h).bind _ = _
  rw [a_var, List.getElem?_set_ne ne, ht]
  show (match ixW h (rw line) (.int (j : Int)) with
    | some w => Out.ok w h
    | none => .bad) = _
  rw [i1]
  rfl
theorem c_turned {k M q : Nat} {h : Store} {r : List Fr} {T : List (List Fr)} (m : Mat M q (r :: T)) (hT : (r :: T).length ≤ 1000) (hq : q ≤ 1000) : callK prg (k + 2) "turned" [tw (r :: T)] h = .ok (tw (turnM (r :: T) q)) h := by
  have r1 : rng1 [.int (q : Int)] = some ((List.range q).map iw) := rng1_nat (Nat.lt_of_le_of_lt hq (by decide))
  have cw := c_width k (r := r) (T := T) h
  rw [m.len r List.mem_cons_self] at cw
  have it : itOf h (tw (r :: T)) = some ((r :: T).map rw, []) := rfl
  have c0 : compL [] (.nm 1) cTrue (cQ1 tupQ (cSeqF (cComp (cItV (cVar 0)) [2] (.nm 2) cTrue (cIx (cVar 2) (cVar 1))))) [some (tw (r :: T)), none, none] ((List.range q).map iw) [] h = .ok ((turnM (r :: T) q).map rw) h := by
    unfold turnM
    rw [List.map_map]
    refine comp_map _ (by rw [List.length_range]; exact Nat.le_trans hq (by decide)) fun j hj => ?_
    have hj := List.mem_range.mp hj
    have cc := col_comp m hT hj (h := h) (ρ0 := [some (tw (r :: T)), some (iw j), none]) (s := 2) (t := 1) rfl (by simp) (by decide)
    refine ⟨_, bind_nm _ _ _, rfl, ?_⟩
    generalize (r :: T).map rw = Y at *
    show _ = Out.ok (rw (colM (r :: T) j)) h
    simp [it, cc, rw]
  generalize (r :: T).map rw = Y at *
  generalize tw (r :: T) = Tw at *
  rw [k_turned]
  simp [b_turned, startR, cw, r1, c0, cutR_same, tw]
end K01
end
section
set_option Elab.async false
set_option linter.all false
set_option maxRecDepth 100000
set_option maxHeartbeats 2000000
namespace K01
open PySem PySem.Spec Wv L2
theorem ints_map : ∀ ns : List Int, intsW (ns.map W.int) = some ns
  | [] => rfl
  | n :: ns => by
    rw [List.map_cons]
    unfold intsW
    rw [ints_map ns]
    rfl
theorem sum_ints (ns : List Int) (h : Store) : Out.of (sumQ false (ns.map W.int) h) = .ok (.int ns.sum) h := by
  unfold sumQ
  rw [if_neg Bool.false_ne_true, ints_map]
  rfl
/-- rows, each with its number, as they stand in the store -/
def wr (n : Nat) (rows : List (List Fr)) : List W := (List.range rows.length).map fun i => .tup [.int (cmul ((rows[i]?).getD [])), .ref (n + i)]
theorem wr_cons (n : Nat) (r : List Fr) (rows : List (List Fr)) : wr n (r :: rows) = .tup [.int (cmul r), .ref n] :: wr (n + 1) rows := by
  unfold wr
  rw [List.length_cons, List.range_succ_eq_map, List.map_cons, List.map_map]
  have e : W.tup [.int (cmul (((r :: rows)[0]?).getD [])), .ref (n + 0)] = .tup [.int (cmul r), .ref n] := rfl
  rw [e]
  refine congrArg (List.cons _) (List.map_congr_left fun i _ => ?_)
  show W.tup [.int (cmul (((r :: rows)[i + 1]?).getD [])), .ref (n + (i + 1))] = _
  rw [List.getElem?_cons_succ, Nat.add_assoc, Nat.add_comm 1 i]
theorem comp_whole {k L n s : Nat} (hk : 35 ≤ k) {ρ0 : Rho} (hs : s < ρ0.length) {h : Store} (hn : n ≤ 1000) (hb : 1 + n * L + L ≤ 90000000) : ∀ (xs : List (List Fr)) (acc : List W) (t : Store), Mat L n xs → acc.length + xs.length ≤ 1000 →
    compL [] (.nm s) cTrue (cCall (callK prg k) 1 "whole_row" (cCons (cVar s) cNil)) ρ0 (xs.map rw) acc (h ++ t) = .ok (acc ++ wr (h ++ t).length xs) (h ++ t ++ xs.map fun r => Ob.lst (wholeW r))
  | [], acc, t, _, _ => by
    rw [List.map_nil]
    unfold compL
    rw [if_pos (gdOk_nil _)]
    simp [wr]
  | r :: xs, acc, t, m, hl => by
    obtain ⟨j, rfl⟩ : ∃ j, k = j + 1 := ⟨k - 1, by omega⟩
    have lr := m.len r List.mem_cons_self
    have cw := c_whole (k := j) (h := h ++ t) (by omega) (m.good r List.mem_cons_self) (by omega) (by rw [lr]; exact hb)
    rw [List.length_cons] at hl
    have ih := comp_whole hk hs (h := h) hn hb xs (acc ++ [.tup [.int (cmul r), .ref (h ++ t).length]]) (t ++ [Ob.lst (wholeW r)]) ⟨fun x hx => m.len x (List.mem_cons_of_mem _ hx), fun x hx => m.good x (List.mem_cons_of_mem _ hx)⟩ (by rw [List.length_append]; simp; omega)
    rw [List.map_cons]
    unfold compL
    rw [if_pos (gdOk_nil _), bind_nm]
    have e : cCall (callK prg (j + 1)) 1 "whole_row" (cCons (cVar s) cNil) (ρ0.set s (some (rw r))) (h ++ t) = .ok (.tup [.int (cmul r), .ref (h ++ t).length]) (h ++ t ++ [Ob.lst (wholeW r)]) := by
      simp [List.getElem?_set_self hs, cw]
    dsimp only
    rw [a_true]
    dsimp only
    rw [e]
    dsimp only
    rw [if_pos (by omega), List.append_assoc h t, ih, wr_cons]
    simp [Nat.add_assoc]
theorem own_whole {H : Store} {T : List (List Fr)} {i : Nat} {m : List Fr} (e : T[i]? = some m) (X : Store) : own? ((H ++ T.map fun r => Ob.lst (wholeW r)) ++ X) (H.length + i) = some (wholeW m) := by
  have hi : i < T.length := (List.getElem?_eq_some_iff.mp e).1
  refine own_app ?_
  unfold own?
  rw [List.getElem?_append_right (by omega), Nat.add_sub_cancel_left, List.getElem?_map, e]
  rfl
def mulM (S T : List (List Fr)) (q : Nat) : List (List Fr) := S.map fun row => (List.range q).map fun j => dotZ row (colM T j)
theorem zip_ints : ∀ a b : List Int, zipW (a.map W.int) (b.map W.int) = (List.zip a b).map fun p => .tup [.int p.1, .int p.2]
  | [], b => by simp [zipW]
  | x :: a, [] => by simp [zipW]
  | x :: a, y :: b => by simp [zipW, zip_ints a b]
end K01
end
section
set_option Elab.async false
set_option linter.all false
set_option maxRecDepth 100000
set_option maxHeartbeats 2000000
namespace K01
open PySem PySem.Spec Wv L2
theorem map_get {α β : Type} (d : α) (f : α → β) (l : List α) : l.map f = (List.range l.length).map fun i => f ((l[i]?).getD d) := by
  refine List.ext_getElem (by simp) fun i h1 h2 => ?_
  rw [List.length_map] at h1
  simp [List.getElem?_eq_getElem h1]
theorem wholeI_sz {L : Nat} {row : List Fr} (g : ∀ x ∈ row, Good L x) : ∀ a ∈ wholeI (cmul row) row, sz (L + (1 + row.length * L)) a := fun a ha => by
  unfold wholeI at ha
  obtain ⟨x, hx, rfl⟩ := List.mem_map.mp ha
  obtain ⟨a1, _, a3⟩ := cmulF_ok row 1 (by decide) fun x hx => (g x hx).pos
  have sd : sz (1 + row.length * L) (cmul row) := cmulF_sz row 1 1 (by decide) g (by unfold sz; decide)
  have px := (g x hx).pos
  have dv : x.2 ∣ cmul row := a3 x hx
  exact (g x hx).n.mul (sz_div (Int.mul_fdiv_cancel' dv).symm (by omega) sd)
theorem turn_get (T : List (List Fr)) {q j : Nat} (hj : j < q) : ((turnM T q)[j]?).getD [] = colM T j := by
  unfold turnM
  rw [List.getElem?_map, List.getElem?_range hj]
  rfl
/-- one item of the product -/
theorem mul_item {k L M n : Nat} (hk : 35 ≤ k) {H : Store} {s c : List Fr} {a b : Nat} (hs : s.length = n) (hc : c.length = n) (gs : ∀ x ∈ s, Good L x) (gc : ∀ x ∈ c, Good M x) (hn : n ≤ 1000) (hb : L + (1 + n * L) + (M + (1 + n * M)) ≤ 90000000) (oa : own? H a = some (wholeW s)) (ob : own? H b = some (wholeW c)) {e0 e1 e2 e3 e8 e9 : Option W} :
    cCall (callK prg k) 2 "lowest_tables" (cCons (cQ1 sumQ (cSeqF (cComp (cItS zipOf (cCons (cVar 4) (cCons (cVar 5) cNil))) [8, 9] (.tp [(.nm 8), (.nm 9)]) cTrue (cBin true .Mult (cVar 8) (cVar 9))))) (cCons (cBin true .Mult (cVar 6) (cVar 7)) cNil)) [e0, e1, e2, e3, some (.ref a), some (.ref b), some (.int (cmul s)), some (.int (cmul c)), e8, e9] H = .ok (fw (dotZ s c)) H := by
  obtain ⟨k, rfl⟩ : ∃ j, k = j + 1 := ⟨k - 1, by omega⟩
  obtain ⟨s1, _, _⟩ := cmulF_ok s 1 (by decide) fun x hx => (gs x hx).pos
  obtain ⟨c1, _, _⟩ := cmulF_ok c 1 (by decide) fun x hx => (gc x hx).pos
  have sS : sz (1 + n * L) (cmul s) := by
    have : sz (1 + s.length * L) (cmul s) := cmulF_sz s 1 1 (by decide) gs (by unfold sz; decide)
    rw [hs] at this
    exact this
  have sC : sz (1 + n * M) (cmul c) := by
    have : sz (1 + c.length * M) (cmul c) := cmulF_sz c 1 1 (by decide) gc (by unfold sz; decide)
    rw [hc] at this
    exact this
  have zS := wholeI_sz gs
  have zC := wholeI_sz gc
  rw [hs] at zS
  rw [hc] at zC
  have mo : mulOk (cmul s) (cmul c) = true := mul_sz sS sC (by omega)
  have pd : 0 < cmul s * cmul c := Int.mul_pos s1 c1
  have lo := c_lowt k (n := ((List.zip (wholeI (cmul s) s) (wholeI (cmul c) c)).map fun p : Int × Int => p.1 * p.2).sum) (d := cmul s * cmul c) H (by omega) (by omega) (sS.mul sC) pd
  rw [dot_low gs gc] at lo
  have zo : zipOf H [.ref a, .ref b] = some ((List.zip (wholeI (cmul s) s) (wholeI (cmul c) c)).map fun p => .tup [.int p.1, .int p.2], [(a, wholeW s), (b, wholeW c)]) := by
    rw [← zip_ints]
    simp [zipOf, lst_own oa, lst_own ob, wholeW]
  have cm : compL [(a, wholeW s), (b, wholeW c)] (.tp [(.nm 8), (.nm 9)]) cTrue (cBin true .Mult (cVar 8) (cVar 9)) [e0, e1, e2, e3, some (.ref a), some (.ref b), some (.int (cmul s)), some (.int (cmul c)), none, none] ((List.zip (wholeI (cmul s) s) (wholeI (cmul c) c)).map fun p : Int × Int => .tup [.int p.1, .int p.2]) [] H = .ok (((List.zip (wholeI (cmul s) s) (wholeI (cmul c) c)).map fun p : Int × Int => p.1 * p.2).map W.int) H := by
    rw [List.map_map]
    refine comp_mapG (enc := fun p : Int × Int => .tup [.int p.1, .int p.2]) (gdOk_two (lst_own oa) (lst_own ob)) _ ?_ fun p hp => ?_
    · rw [List.length_zip]
      unfold wholeI
      rw [List.length_map, List.length_map, hs, hc, Nat.min_self]
      exact Nat.le_trans hn (by decide)
    · have pm := List.of_mem_zip hp
      have m1 : mulOk p.1 p.2 = true := mul_sz (zS _ pm.1) (zC _ pm.2) (by omega)
      refine ⟨_, bind_tp2 _ _ _ _ _, rfl, ?_⟩
      simp [m1]
  generalize (List.zip (wholeI (cmul s) s) (wholeI (cmul c) c)).map (fun p : Int × Int => p.1 * p.2) = N at *
  generalize (List.zip (wholeI (cmul s) s) (wholeI (cmul c) c)).map (fun p : Int × Int => W.tup [.int p.1, .int p.2]) = Z at *
  have su := sum_ints N H
  simp [zo, cm, su, mo, lo]
theorem c_multiplied {k L M n q : Nat} (hk : 36 ≤ k) {h : Store} {S : List (List Fr)} {r : List Fr} {T : List (List Fr)} (mS : Mat L n S) (hS : S.length ≤ 900) (m : Mat M q (r :: T)) (hT : (r :: T).length = n) (hn : n ≤ 900) (hq : q ≤ 900) (hL : L ≤ 20000) (hM : M ≤ 20000) : callK prg (k + 1) "multiplied" [tw S, tw (r :: T)] h = .ok (tw (mulM S (r :: T) q)) h := by
  have b0 : n * L ≤ 900 * 20000 := Nat.mul_le_mul hn hL
  have b1 : n * M ≤ 900 * 20000 := Nat.mul_le_mul hn hM
  have bb : L + (1 + n * L) + (M + (1 + n * M)) ≤ 90000000 := Nat.le_trans (Nat.add_le_add (Nat.add_le_add hL (Nat.add_le_add_left b0 1)) (Nat.add_le_add hM (Nat.add_le_add_left b1 1))) (by decide)
  have bL : 1 + n * L + L ≤ 90000000 := Nat.le_trans (Nat.add_le_add (Nat.add_le_add_left b0 1) hL) (by decide)
  have bM : 1 + n * M + M ≤ 90000000 := Nat.le_trans (Nat.add_le_add (Nat.add_le_add_left b1 1) hM) (by decide)
  have c1 := comp_whole (k := k) (s := 4) (by omega) (ρ0 := [some (tw S), some (tw (r :: T)), none, none, none, none, none, none, none, none]) (by simp) (h := h) (Nat.le_trans hn (by decide)) bL S [] [] mS (by rw [List.length_nil]; omega)
  rw [List.append_nil, List.nil_append] at c1
  have o1 : ∀ (i : Nat) (m : List Fr), S[i]? = some m → ∀ X, own? ((h ++ S.map fun r => Ob.lst (wholeW r)) ++ X) (h.length + i) = some (wholeW m) := fun i m e X => own_whole e X
  have oR := own_new (h ++ S.map fun r => Ob.lst (wholeW r)) (wr h.length S)
  obtain ⟨h1, hh1⟩ : ∃ h1, h1 = h ++ S.map fun r => Ob.lst (wholeW r) := ⟨_, rfl⟩
  rw [← hh1] at c1 o1 oR
  obtain ⟨H1, hH1⟩ : ∃ H1, H1 = h1 ++ [Ob.lst (wr h.length S)] := ⟨_, rfl⟩
  rw [← hH1] at oR
  obtain ⟨k', rfl⟩ : ∃ j, k = j + 2 := ⟨k - 2, by omega⟩
  have ct := c_turned (k := k') (h := H1) m (by omega) (by omega)
  have mt := turn_mat m
  rw [hT] at mt
  have lt := turn_len (r :: T) q
  have c2 := comp_whole (k := k' + 2) (s := 5) (by omega) (ρ0 := [some (tw S), some (tw (r :: T)), some (.ref h1.length), none, none, none, none, none, none, none]) (by simp) (h := H1) (Nat.le_trans hn (by decide)) bM (turnM (r :: T) q) [] [] mt (by rw [List.length_nil, lt]; omega)
  rw [List.append_nil, List.nil_append] at c2
  have o2 : ∀ (i : Nat) (m : List Fr), (turnM (r :: T) q)[i]? = some m → ∀ X, own? ((H1 ++ (turnM (r :: T) q).map fun r => Ob.lst (wholeW r)) ++ X) (H1.length + i) = some (wholeW m) := fun i m e X => own_whole e X
  have oC := own_new (H1 ++ (turnM (r :: T) q).map fun r => Ob.lst (wholeW r)) (wr H1.length (turnM (r :: T) q))
  obtain ⟨h2, hh2⟩ : ∃ h2, h2 = H1 ++ (turnM (r :: T) q).map fun r => Ob.lst (wholeW r) := ⟨_, rfl⟩
  rw [← hh2] at c2 o2 oC
  obtain ⟨H2, hH2⟩ : ∃ H2, H2 = h2 ++ [Ob.lst (wr H1.length (turnM (r :: T) q))] := ⟨_, rfl⟩
  rw [← hH2] at oC
  have o1' : ∀ (i : Nat) (m : List Fr), S[i]? = some m → own? H2 (h.length + i) = some (wholeW m) := fun i m e => by
    have := o1 i m e ([Ob.lst (wr h.length S)] ++ ((turnM (r :: T) q).map (fun r => Ob.lst (wholeW r)) ++ [Ob.lst (wr H1.length (turnM (r :: T) q))]))
    rw [hH2, hh2, hH1, List.append_assoc, List.append_assoc, ← hH1]
    exact this
  have o2' : ∀ (i : Nat) (m : List Fr), (turnM (r :: T) q)[i]? = some m → own? H2 (H1.length + i) = some (wholeW m) := fun i m e => by
    rw [hH2]
    exact o2 i m e _
  have oR' : own? H2 h1.length = some (wr h.length S) := by
    rw [hH2, hh2]
    exact own_app (own_app oR)
  have inner : ∀ (i : Nat), i < S.length → ∀ (e4 e6 : W), e4 = .ref (h.length + i) → e6 = .int (cmul ((S[i]?).getD [])) → compL [(h2.length, wr H1.length (turnM (r :: T) q))] (.tp [(.nm 7), (.nm 5)]) cTrue (cCall (callK prg (k' + 2)) 2 "lowest_tables" (cCons (cQ1 sumQ (cSeqF (cComp (cItS zipOf (cCons (cVar 4) (cCons (cVar 5) cNil))) [8, 9] (.tp [(.nm 8), (.nm 9)]) cTrue (cBin true .Mult (cVar 8) (cVar 9))))) (cCons (cBin true .Mult (cVar 6) (cVar 7)) cNil))) [some (tw S), some (tw (r :: T)), some (.ref h1.length), some (.ref h2.length), some e4, none, some e6, none, none, none] (wr H1.length (turnM (r :: T) q)) [] H2 = .ok (((List.range q).map fun j => dotZ ((S[i]?).getD []) (colM (r :: T) j)).map fw) H2 := fun i hi e4 e6 h4 h6 => by
    subst h4 h6
    obtain ⟨s1, s2⟩ := get_dd ([] : List Fr) hi
    have g := gdOk_one (lst_own oC)
    generalize hGg : [(h2.length, wr H1.length (turnM (r :: T) q))] = gg at g ⊢
    unfold wr
    rw [lt, List.map_map]
    refine comp_mapG (enc := fun j => .tup [.int (cmul (((turnM (r :: T) q)[j]?).getD [])), .ref (H1.length + j)]) g _ (by rw [List.length_range]; exact Nat.le_trans hq (by decide)) fun j hj => ?_
    have hj := List.mem_range.mp hj
    obtain ⟨t1, t2⟩ := get_dd ([] : List Fr) (show j < (turnM (r :: T) q).length by rw [lt]; exact hj)
    rw [turn_get (r :: T) hj] at t1 t2 ⊢
    exact ⟨_, bind_tp2 _ _ _ _ _, rfl, mul_item (by omega) (mS.len _ s2) (by rw [col_len, hT]) (mS.good _ s2) (col_good m hj) (by omega) bb (o1' i _ s1) (o2' j _ t1)⟩
  have outer : compL [(h1.length, wr h.length S)] (.tp [(.nm 6), (.nm 4)]) cTrue (cQ1 tupQ (cSeqF (cComp (cItV (cVar 3)) [7, 5] (.tp [(.nm 7), (.nm 5)]) cTrue (cCall (callK prg (k' + 2)) 2 "lowest_tables" (cCons (cQ1 sumQ (cSeqF (cComp (cItS zipOf (cCons (cVar 4) (cCons (cVar 5) cNil))) [8, 9] (.tp [(.nm 8), (.nm 9)]) cTrue (cBin true .Mult (cVar 8) (cVar 9))))) (cCons (cBin true .Mult (cVar 6) (cVar 7)) cNil)))))) [some (tw S), some (tw (r :: T)), some (.ref h1.length), some (.ref h2.length), none, none, none, none, none, none] (wr h.length S) [] H2 = .ok ((mulM S (r :: T) q).map rw) H2 := by
    have g := gdOk_one (lst_own oR')
    generalize hGg : [(h1.length, wr h.length S)] = gg at g ⊢
    unfold mulM
    rw [map_get ([] : List Fr) _ S, List.map_map]
    unfold wr
    refine comp_mapG (enc := fun i => .tup [.int (cmul ((S[i]?).getD [])), .ref (h.length + i)]) g _ (by rw [List.length_range]; exact Nat.le_trans hS (by decide)) fun i hi => ?_
    have hi := List.mem_range.mp hi
    have inn := inner i hi _ _ rfl rfl
    have it3 := (lst_of_own oC).1
    refine ⟨_, bind_tp2 _ _ _ _ _, rfl, ?_⟩
    show _ = Out.ok (rw ((List.range q).map fun j => dotZ ((S[i]?).getD []) (colM (r :: T) j))) H2
    generalize (List.range q).map (fun j => dotZ ((S[i]?).getD []) (colM (r :: T) j)) = Rr at *
    generalize wr H1.length (turnM (r :: T) q) = Wc at *
    generalize cmul ((S[i]?).getD []) = cs at *
    simp [it3, inn, rw]
  have it2 := (lst_of_own oR').1
  have itS : itOf h (tw S) = some (S.map rw, []) := rfl
  have itT : itOf H1 (tw (turnM (r :: T) q)) = some ((turnM (r :: T) q).map rw, []) := rfl
  have fl : flatR (tw (mulM S (r :: T) q)) = true := flatR_tup (fun m => flatR_tup (fun x => rfl) m) _
  have hend : H2 = h ++ ((S.map fun r => Ob.lst (wholeW r)) ++ (Ob.lst (wr h.length S) :: (((turnM (r :: T) q).map fun r => Ob.lst (wholeW r)) ++ [Ob.lst (wr H1.length (turnM (r :: T) q))]))) := by
    rw [hH2, hh2, hH1, hh1]
    simp
  have fin : cutR h (.tup ((mulM S (r :: T) q).map rw)) H2 = .ok (tw (mulM S (r :: T) q)) h := by
    rw [hend]
    exact cutR_app (w := tw (mulM S (r :: T) q)) (flat_below _ _ fl)
  rw [k_multiplied, decide_eq_true (show 32 ≤ k' + 2 by omega)]
  generalize (turnM (r :: T) q).map rw = Yt at *
  generalize S.map rw = Ys at *
  generalize wr H1.length (turnM (r :: T) q) = Wc at *
  generalize wr h.length S = Ws at *
  generalize (mulM S (r :: T) q).map rw = Ym at *
  generalize tw (turnM (r :: T) q) = Tt at *
  generalize tw (r :: T) = Tr at *
  simp [b_multiplied, startR, itS, c1, ← hH1, ct, itT, c2, ← hH2, it2, outer, fin]
end K01
end
section
set_option Elab.async false
set_option linter.all false
set_option maxRecDepth 100000
set_option maxHeartbeats 2000000
namespace K01
open PySem PySem.Spec Wv L2
def dotF (a b : List Fr) (n : Nat) : Fr := ((List.range n).map fun i => mulF ((a[i]?).getD (0, 1)) ((b[i]?).getD (0, 1))).foldl addF (0, 1)
theorem dot_good {L M n : Nat} {a b : List Fr} (ha : a.length = n) (hb : b.length = n) (ga : ∀ x ∈ a, Good L x) (gb : ∀ x ∈ b, Good M x) : Good (1 + n * (L + M + 1)) (dotF a b n) := by
  have := sum_good (L := L + M) ((List.range n).map fun i => mulF ((a[i]?).getD (0, 1)) ((b[i]?).getD (0, 1))) (0, 1) 1 (fun y hy => by
    obtain ⟨i, hi, rfl⟩ := List.mem_map.mp hy
    have hi := List.mem_range.mp hi
    exact mulF_good (ga _ (get_d (by omega)).2) (gb _ (get_d (by omega)).2)) good_zero
  rw [List.length_map, List.length_range] at this
  exact this
theorem c_dot {K L M n : Nat} (hK : 37 ≤ K) {h : Store} {a b : List Fr} {two : W} (ha : a.length = n) (hb : b.length = n) (ga : ∀ x ∈ a, Good L x) (gb : ∀ x ∈ b, Good M x) (hn : n ≤ 1000) (hs : 1 + n * (L + M + 1) + (L + M) ≤ 90000000) (ix : ∀ (i : Nat) (x : Fr), b[i]? = some x → ixW h two (.int (i : Int)) = some (fw x)) : callK prg (K + 1) "_law_dot" [rw a, two] h = .ok (fw (dotF a b n)) h := by
  obtain ⟨k, rfl⟩ : ∃ z, K = z + 1 := ⟨K - 1, by omega⟩
  have hl : (List.range n).length ≤ 16777216 := by
    rw [List.length_range]
    exact Nat.le_trans hn (by decide)
  have c0 : compL [] (.nm 2) cTrue (cCall (callK prg (k + 1)) 2 "_law_mul" (cCons (cIx (cVar 0) (cVar 2)) (cCons (cIx (cVar 1) (cVar 2)) cNil))) [some (rw a), some two, none] ((List.range n).map iw) [] h = .ok (((List.range n).map fun i => mulF ((a[i]?).getD (0, 1)) ((b[i]?).getD (0, 1))).map fw) h := by
    rw [List.map_map]
    refine comp_map _ hl fun i hi => ?_
    have hi := List.mem_range.mp hi
    obtain ⟨m1, m2⟩ := get_d (show i < a.length by omega)
    obtain ⟨m3, m4⟩ := get_d (show i < b.length by omega)
    have i1 : ixW h (rw a) (.int (i : Int)) = some (fw ((a[i]?).getD (0, 1))) := atI_map m1
    have i2 := ix i _ m3
    refine ⟨_, bind_nm _ _ _, rfl, ?_⟩
    simp only [iw]
    simp [i1, i2, c_lmul k h (by omega) (ga _ m2) (gb _ m4) (by omega)]
  have r1 : rng1 [.int (n : Int)] = some ((List.range n).map iw) := rng1_nat (Nat.lt_of_le_of_lt hn (by decide))
  have lw : lenV (rw a) h = some (.int (n : Int), h) := by
    show some _ = _
    rw [List.length_map, ha]
  have tot := c_total (K := k) (L := L + M) (X := h.length) (by omega) (own_new h _) (fun y hy => by
    obtain ⟨i, hi, rfl⟩ := List.mem_map.mp hy
    have hi := List.mem_range.mp hi
    exact mulF_good (ga _ (get_d (show i < a.length by omega)).2) (gb _ (get_d (show i < b.length by omega)).2)) (xs := (List.range n).map fun i => mulF ((a[i]?).getD (0, 1)) ((b[i]?).getD (0, 1))) (by
    rw [List.length_map, List.length_range]
    exact hs)
  have df : dotF a b n = ((List.range n).map fun i => mulF ((a[i]?).getD (0, 1)) ((b[i]?).getD (0, 1))).foldl addF (0, 1) := rfl
  rw [df]
  generalize (List.range n).map (fun i => mulF ((a[i]?).getD (0, 1)) ((b[i]?).getD (0, 1))) = xs at c0 tot ⊢
  rw [k__law_dot]
  simp [b__law_dot, startR, lw, r1, c0, tot]
  exact cutR_app (flat_below _ _ rfl)
theorem c_lwidth (k : Nat) {r : List Fr} {T : List (List Fr)} (h : Store) : callK prg (k + 1) "_law_width" [tw (r :: T)] h = .ok (.int r.length) h := by
  rw [k__law_width]
  simp [b__law_width, startR, tw, rw, cutR_same]
def mulF2 (S T : List (List Fr)) (q : Nat) : List (List Fr) := S.map fun row => (List.range q).map fun j => dotF row (colM T j) T.length
theorem c_product {K L M q : Nat} (hK : 39 ≤ K) {h : Store} {S : List (List Fr)} {r : List Fr} {T : List (List Fr)} (hS : S.length ≤ 40) (sl : ∀ s ∈ S, s.length = (r :: T).length) (sg : ∀ s ∈ S, ∀ x ∈ s, Good L x) (t : Tab M q (r :: T)) (hs : 1 + (r :: T).length * (L + M + 1) + (L + M) ≤ 90000000) :
    callK prg (K + 1) "_law_product" [tw S, tw (r :: T)] h = .ok (tw (mulF2 S (r :: T) q)) h := by
  obtain ⟨k, rfl⟩ : ∃ z, K = z + 1 := ⟨K - 1, by omega⟩
  have few := t.few
  have q40 := t.q40
  have hr : r.length = q := t.len r List.mem_cons_self
  have r1 : rng1 [.int (q : Int)] = some ((List.range q).map iw) := rng1_nat (Nat.lt_of_le_of_lt q40 (by decide))
  have inner : ∀ s ∈ S, ∀ t1 : Store, ∃ t2, compL [] (.nm 3) cTrue (cCall (callK prg (k + 1)) 2 "_law_dot" (cCons (cVar 2) (cCons (cFresh (cComp (cItV (cVar 1)) [4] (.nm 4) cTrue (cIx (cVar 4) (cVar 3)))) cNil))) [some (tw S), some (tw (r :: T)), some (rw s), none, none] ((List.range q).map iw) [] (h ++ t1) = .ok ((List.range q).map fun j => fw (dotF s (colM (r :: T) j) (r :: T).length)) (h ++ t2) := fun s hs2 t1 => by
    refine comp_grow (List.range q) [] t1 (by rw [List.length_range, List.length_nil]; omega) fun j hj t2 => ?_
    have hj := List.mem_range.mp hj
    have cc : compL [] (.nm 4) cTrue (cIx (cVar 4) (cVar 3)) [some (tw S), some (tw (r :: T)), some (rw s), some (iw j), none] ((r :: T).map rw) [] (h ++ t2) = .ok ((colM (r :: T) j).map fw) (h ++ t2) := by
      have hl : (r :: T).length ≤ 16777216 := Nat.le_trans few (by decide)
      unfold colM
      rw [List.map_map]
      refine comp_map (r :: T) hl fun line hm => ?_
      obtain ⟨m1, m2⟩ := get_d (show j < line.length by rw [t.len line hm]; exact hj)
      have i1 : ixW (h ++ t2) (rw line) (.int (j : Int)) = some (fw ((line[j]?).getD (0, 1))) := atI_map m1
      refine ⟨_, bind_nm _ _ _, rfl, ?_⟩
      simp only [iw]
      simp [i1]
    have cl : (colM (r :: T) j).length = (r :: T).length := by
      unfold colM
      rw [List.length_map]
    have cg : ∀ x ∈ colM (r :: T) j, Good M x := fun x hx => by
      obtain ⟨line, hm, rfl⟩ := List.mem_map.mp hx
      exact t.good line hm _ (get_d (show j < line.length by rw [t.len line hm]; exact hj)).2
    have on := own_new (h ++ t2) ((colM (r :: T) j).map fw)
    have dt := c_dot (K := k) (L := L) (M := M) (by omega) (h := (h ++ t2) ++ [Ob.lst ((colM (r :: T) j).map fw)]) (two := .ref (h ++ t2).length) (sl s hs2) cl (sg s hs2) cg (by omega) hs (fun i x e => by
      rw [(lst_of_own on).2.2.2.2]
      exact atI_map e)
    refine ⟨_, bind_nm _ _ _, rfl, t2 ++ [Ob.lst ((colM (r :: T) j).map fw)], ?_⟩
    have it : itOf (h ++ t2) (tw (r :: T)) = some ((r :: T).map rw, []) := rfl
    rw [← List.append_assoc]
    generalize hX : h ++ t2 = X at *
    generalize (r :: T).map rw = Y at cc it
    simp [it, cc, dt]
  obtain ⟨t9, e9⟩ := comp_grow (T := .nm 2) (tt := cTrue) (te := cQ1 tupQ (cSeqF (cComp (cItR rng1 (cCons (cCall (callK prg (k + 1)) 1 "_law_width" (cCons (cVar 1) cNil)) cNil)) [3] (.nm 3) cTrue (cCall (callK prg (k + 1)) 2 "_law_dot" (cCons (cVar 2) (cCons (cFresh (cComp (cItV (cVar 1)) [4] (.nm 4) cTrue (cIx (cVar 4) (cVar 3)))) cNil)))))) (ρ0 := [some (tw S), some (tw (r :: T)), none, none, none]) (enc := rw) (f := fun row => rw ((List.range q).map fun j => dotF row (colM (r :: T) j) (r :: T).length)) (h := h) S [] [] (by rw [List.length_nil]; omega) (fun s hs2 t1 => by
    obtain ⟨t2, e⟩ := inner s hs2 t1
    refine ⟨_, bind_nm _ _ _, rfl, t2, ?_⟩
    have lw := c_lwidth k (r := r) (T := T) (h ++ t1)
    rw [hr] at lw
    generalize tw (r :: T) = Tw at *
    simp [lw, r1, e]
    simp [rw])
  rw [List.append_nil, List.nil_append] at e9
  have it : itOf h (tw S) = some (S.map rw, []) := rfl
  rw [k__law_product]
  simp [b__law_product, startR, it, e9]
  rw [cutR_app]
  · simp [tw, mulF2]
  · refine flat_below _ _ ?_
    exact flatR_tup (fun m => flatR_tup (fun x => rfl) _) _
theorem dotF_eq {a b : List Fr} {n : Nat} (ha : a.length = n) (hb : b.length = n) : dotF a b n = dotZ a b := by
  unfold dotF dotZ
  rw [← List.map_uncurry_zip_eq_zipWith, zip_range2 (0, 1) (0, 1) ha hb, List.map_map]
  rfl
theorem mulF2_eq {L n q : Nat} {S T : List (List Fr)} (m : Mat L n S) (hT : T.length = n) : mulF2 S T q = mulM S T q := by
  unfold mulF2 mulM
  refine List.map_congr_left fun row hr => List.map_congr_left fun j _ => ?_
  exact dotF_eq (by rw [m.len row hr, hT]) (by rw [col_len])
theorem mul_mat {L M n q : Nat} {S T : List (List Fr)} (a : Mat L n S) (b : Mat M q T) (hT : T.length = n) : Mat (1 + n * (L + M + 1)) q (mulM S T q) := by
  refine ⟨fun r hr => ?_, fun r hr x hx => ?_⟩
  · unfold mulM at hr
    obtain ⟨row, hm, rfl⟩ := List.mem_map.mp hr
    rw [List.length_map, List.length_range]
  · unfold mulM at hr
    obtain ⟨row, hm, rfl⟩ := List.mem_map.mp hr
    obtain ⟨i, hi, rfl⟩ := List.mem_map.mp hx
    have hi := List.mem_range.mp hi
    have g := dotZ_good (a.good row hm) (col_good b hi)
    rw [List.length_zipWith, col_len, a.len row hm, hT, Nat.min_self] at g
    exact g
theorem mul_len (S T : List (List Fr)) (q : Nat) : (mulM S T q).length = S.length := by
  unfold mulM
  rw [List.length_map]
theorem c_lprod {K L M n q : Nat} (hK : 39 ≤ K) {h : Store} {S : List (List Fr)} {r : List Fr} {T : List (List Fr)} (hS : S.length ≤ 40) (m : Mat L n S) (hT : (r :: T).length = n) (t : Tab M q (r :: T)) (hs : 1 + n * (L + M + 1) + (L + M) ≤ 90000000) :
    callK prg (K + 1) "_law_product" [tw S, tw (r :: T)] h = .ok (tw (mulM S (r :: T) q)) h := by
  subst hT
  rw [← mulF2_eq m rfl]
  exact c_product hK hS (fun s hs => m.len s hs) (fun s hs => m.good s hs) t hs
end K01
end
section
set_option Elab.async false
set_option linter.all false
set_option maxRecDepth 100000
set_option maxHeartbeats 2000000
namespace K01
open PySem PySem.Spec Wv L2
theorem c_table {K p q : Nat} (hK : 36 ≤ K) {S : Nat} {h : Store} (a : StAt h S) (hp : p ≤ 1000) (hq : q ≤ 1000) : ∃ T s0 s1, callK prg (K + 1) "_law_table" [.ref S, .int (p : Int), .int (q : Int)] h = .ok (tw T) (h.set S (twoN s0 s1)) ∧ T.length = p ∧ Mat 3 q T := by
  obtain ⟨k, rfl⟩ : ∃ z, K = z + 1 := ⟨K - 1, by omega⟩
  have hS : S < h.length := by
    obtain ⟨x, y, e⟩ := a
    exact own_lt e
  have r1 : rng1 [.int (p : Int)] = some ((List.range p).map iw) := rng1_nat (Nat.lt_of_le_of_lt hp (by decide))
  have r2 : rng1 [.int (q : Int)] = some ((List.range q).map iw) := rng1_nat (Nat.lt_of_le_of_lt hq (by decide))
  have inner : ∀ (a4 : Option W) (h' : Store), StAt h' S → ∃ (row : List Fr) (s0 s1 : Int), compL [] (.nm 5) cTrue (cIf (tcCmp .Gt (cCall (callK prg (k + 1)) 2 "_law_take" (cCons (cVar 0) (cCons (cVal (.int 4)) cNil))) (cVal (.int 0))) (cCall (callK prg (k + 1)) 1 "_law_drawn" (cCons (cVar 0) cNil)) (cTup (cCons (cVal (.int 0)) (cCons (cVal (.int 1)) cNil)))) [some (.ref S), some (.int (p : Int)), some (.int (q : Int)), some (.ref h.length), a4, none] ((List.range q).map iw) [] h' = .ok (row.map fw) (h'.set S (twoN s0 s1)) ∧ row.length = q ∧ ∀ x ∈ row, Good 3 x := fun a4 h' st => by
    obtain ⟨row, s0, s1, e1, e2, e3⟩ := comp_draw (T := .nm 5) (te := cIf (tcCmp .Gt (cCall (callK prg (k + 1)) 2 "_law_take" (cCons (cVar 0) (cCons (cVal (.int 4)) cNil))) (cVal (.int 0))) (cCall (callK prg (k + 1)) 1 "_law_drawn" (cCons (cVar 0) cNil)) (cTup (cCons (cVal (.int 0)) (cCons (cVal (.int 1)) cNil)))) (ρ0 := [some (.ref S), some (.int (p : Int)), some (.int (q : Int)), some (.ref h.length), a4, none]) (S := S) (L := 3) (fun i h2 st2 => by
      obtain ⟨v, s0, s1, v0, v1, e⟩ := c_take (K := k) (m := 4) st2 (by decide) (by decide)
      refine ⟨_, bind_nm _ _ _, ?_⟩
      by_cases c : 0 < v
      · obtain ⟨x, t0, t1, g, e2⟩ := c_drawn (K := k) (by omega) (st2.set s0 s1)
        rw [List.set_set] at e2
        exact ⟨x, t0, t1, g, by simp [e, c, e2]⟩
      · exact ⟨(0, 1), s0, s1, good_zero.mono (by decide), by simp [e, c, fw]⟩) (List.range q) [] h' (by rw [List.length_range, List.length_nil]; omega) st
    rw [List.length_range] at e2
    exact ⟨row, s0, s1, by rw [e1, List.nil_append], e2, e3⟩
  -- the rows, one by one
  obtain ⟨ρ2, h2, f1, J⟩ := forL_inv (g := []) (T := .nm 4) (body := sSeq (sExpr (cApp (cVar 3) (cQ1 tupQ (cSeqF (cComp (cItR rng1 (cCons (cVar 2) cNil)) [5] (.nm 5) cTrue (cIf (tcCmp .Gt (cCall (callK prg (k + 1)) 2 "_law_take" (cCons (cVar 0) (cCons (cVal (.int 4)) cNil))) (cVal (.int 0))) (cCall (callK prg (k + 1)) 1 "_law_drawn" (cCons (cVar 0) cNil)) (cTup (cCons (cVal (.int 0)) (cCons (cVal (.int 1)) cNil))))))))) sSkip)
    (fun ws ρ h' => ∃ (i : Nat) (T : List (List Fr)) (s0 s1 : Int), i ≤ p ∧ ws = (List.range' i (p - i)).map iw ∧ (∃ a4 a5, ρ = [some (.ref S), some (.int (p : Int)), some (.int (q : Int)), some (.ref h.length), a4, a5]) ∧ h' = h.set S (twoN s0 s1) ++ [Ob.lst (T.map rw)] ∧ T.length = i ∧ Mat 3 q T)
    (fun _ _ _ _ => gdOk_nil _)
    (fun w ws ρ h' ⟨i, T, s0, s1, hi, e, ⟨a4, a5, e3⟩, e4, e5, m⟩ => by
      have hlt : i < p := by
        rcases Nat.lt_or_ge i p with z | z
        · exact z
        · rw [show p - i = 0 by omega] at e
          cases e
      rw [show p - i = (p - (i + 1)) + 1 by omega, List.range'_succ, List.map_cons] at e
      injection e with e1 e2
      subst e1 e3 e4
      have on := own_new (h.set S (twoN s0 s1)) (T.map rw)
      rw [List.length_set] at on
      obtain ⟨row, t0, t1, c1, c2, c3⟩ := inner (some (iw i)) (h.set S (twoN s0 s1) ++ [Ob.lst (T.map rw)]) ((a.set s0 s1).app _)
      have on2 := own_other (n := S) (o := twoN t0 t1) on (Nat.ne_of_lt hS)
      refine ⟨_, bind_nm _ _ _, [some (.ref S), some (.int (p : Int)), some (.int (q : Int)), some (.ref h.length), some (iw i), a5], h.set S (twoN t0 t1) ++ [Ob.lst ((T ++ [row]).map rw)], .inl ?_, i + 1, T ++ [row], t0, t1, by omega, e2, ⟨_, _, rfl⟩, rfl, by rw [List.length_append, e5]; rfl, ?_⟩
      · have l3 := (lst_of_own on).2.2.2.1
        have lt : T.length < 16777216 := Nat.lt_of_le_of_lt (show T.length ≤ 1000 by omega) (by decide)
        have fin : ((h.set S (twoN s0 s1) ++ [Ob.lst (T.map rw)]).set S (twoN t0 t1)).set h.length (Ob.lst (T.map rw ++ [W.tup (row.map fw)])) = h.set S (twoN t0 t1) ++ [Ob.lst ((T ++ [row]).map rw)] := by
          rw [List.set_append_left _ _ (by rw [List.length_set]; exact hS), List.set_set, List.set_append_right _ _ (by rw [List.length_set]; exact Nat.le_refl _), List.length_set, Nat.sub_self, List.map_append]
          rfl
        simp only [iw] at *
        simp [l3, r2, c1, on2, lt]
        rw [fin, List.map_append]
        rfl
      · refine ⟨fun r hr => ?_, fun r hr x hx => ?_⟩
        · rcases List.mem_append.mp hr with z | z
          · exact m.len r z
          · rw [List.mem_singleton.mp z]
            exact c2
        · rcases List.mem_append.mp hr with z | z
          · exact m.good r z x hx
          · rw [List.mem_singleton.mp z] at hx
            exact c3 x hx)
    ((List.range p).map iw) [some (.ref S), some (.int (p : Int)), some (.int (q : Int)), some (.ref h.length), none, none] (h ++ [Ob.lst []]) (by
      obtain ⟨s0, s1, e⟩ := a.same
      exact ⟨0, [], s0, s1, by omega, by rw [Nat.sub_zero, List.range_eq_range'], ⟨_, _, rfl⟩, by rw [← e]; rfl, rfl, ⟨fun r hr => (nomatch hr), fun r hr => (nomatch hr)⟩⟩)
  obtain ⟨i, T, s0, s1, hi, e2, ⟨a4, a5, e3⟩, e4, e5, m⟩ := J
  have z : i = p := by
    have y := congrArg List.length e2
    rw [List.length_map, List.length_range'] at y
    simp at y
    omega
  subst z e3 e4
  have on := own_new (h.set S (twoN s0 s1)) (T.map rw)
  rw [List.length_set] at on
  have sq := (lst_of_own on).2.1
  refine ⟨T, s0, s1, ?_, e5, m⟩
  rw [k__law_table]

  simp [b__law_table, startR, r1, f1, sq]
  exact cutR_set (flat_below _ _ (flatR_tup (fun m => flatR_tup (fun x => rfl) m) _)) rfl
section
variable {j n : Nat} {f : Str} {a b c v : W} {us : List W} {h : Store}
theorem c_told1 (hd : dfs f = some n) (hf : fill n (dvs f) [a] = some us) (e : callK prg (j + 1) f us h = .ok v h) : callK prg (j + 2) "_law_told" [.glo f, .tup [a]] h = .ok (.tup [.str "told", v]) h := by
  rw [k__law_told]
  simp [b__law_told, startR, try_ap, hd, hf, e, cutR_same, -a_fill]
theorem c_told2 (hd : dfs f = some n) (hf : fill n (dvs f) [a, b] = some us) (e : callK prg (j + 1) f us h = .ok v h) : callK prg (j + 2) "_law_told" [.glo f, .tup [a, b]] h = .ok (.tup [.str "told", v]) h := by
  rw [k__law_told]
  simp [b__law_told, startR, try_ap, hd, hf, e, cutR_same, -a_fill]
theorem c_told3 (hd : dfs f = some n) (hf : fill n (dvs f) [a, b, c] = some us) (e : callK prg (j + 1) f us h = .ok v h) : callK prg (j + 2) "_law_told" [.glo f, .tup [a, b, c]] h = .ok (.tup [.str "told", v]) h := by
  rw [k__law_told]
  simp [b__law_told, startR, try_ap, hd, hf, e, cutR_same, -a_fill]
abbrev malX (h : Store) : Out W := .exc ⟨"Malformed", none⟩ h
theorem c_told1x (hd : dfs f = some n) (hf : fill n (dvs f) [a] = some us) (e : callK prg (j + 1) f us h = malX h) : callK prg (j + 2) "_law_told" [.glo f, .tup [a]] h = .ok (.tup [.str "raised", .str "malformed"]) h := by
  rw [k__law_told]
  simp [b__law_told, startR, try_ap, hd, hf, e, ct_mal, cutR_same, -a_fill]
theorem c_told2x (hd : dfs f = some n) (hf : fill n (dvs f) [a, b] = some us) (e : callK prg (j + 1) f us h = malX h) : callK prg (j + 2) "_law_told" [.glo f, .tup [a, b]] h = .ok (.tup [.str "raised", .str "malformed"]) h := by
  rw [k__law_told]
  simp [b__law_told, startR, try_ap, hd, hf, e, ct_mal, cutR_same, -a_fill]
theorem c_told3x (hd : dfs f = some n) (hf : fill n (dvs f) [a, b, c] = some us) (e : callK prg (j + 1) f us h = malX h) : callK prg (j + 2) "_law_told" [.glo f, .tup [a, b, c]] h = .ok (.tup [.str "raised", .str "malformed"]) h := by
  rw [k__law_told]
  simp [b__law_told, startR, try_ap, hd, hf, e, ct_mal, cutR_same, -a_fill]
end
section
variable {j : Nat} {f : Str} {a b v : W} {h : Store}
/-- told what is due -/
theorem c_tells {g : W} (hj : 6 ≤ j) (e : callK prg (j + 2) "_law_told" [.glo f, g] h = .ok (.tup [.str "told", v]) h) (d : dep 5 v = true) : callK prg (j + 3) "_law_tells" [.glo f, g, v] h = .ok (.bl true) h := by
  have s := c_same 5 v j h (by omega) d
  have t : callK prg (j + 2) "_law_is_told" [.tup [.str "told", v], v] h = .ok (.bl true) h := by
    rw [k__law_is_told]
    simp [b__law_is_told, startR, eq_told, s, cutR_same]
  rw [k__law_tells]
  simp [b__law_tells, startR, e, t, cutR_same]
theorem c_raises {g : W} (e : callK prg (j + 2) "_law_told" [.glo f, g] h = .ok (.tup [.str "raised", .str "malformed"]) h) : callK prg (j + 3) "_law_raises" [.glo f, g, .str "malformed"] h = .ok (.bl true) h := by
  have s := c_same_mal j h
  have t : callK prg (j + 2) "_law_is_raised" [.tup [.str "raised", .str "malformed"], .str "malformed"] h = .ok (.bl true) h := by
    rw [k__law_is_raised]
    simp [b__law_is_raised, startR, eq_raised, s, cutR_same]
  rw [k__law_raises]
  simp [b__law_raises, startR, e, t, cutR_same]
end
theorem d_table_sum : dfs "table_sum" = some 2 := by kernel_rfl
theorem d_table_less : dfs "table_less" = some 2 := by kernel_rfl
theorem d_table_scaled : dfs "table_scaled" = some 2 := by kernel_rfl
theorem d_table_product : dfs "table_product" = some 2 := by kernel_rfl
theorem d_table_power : dfs "table_power" = some 2 := by kernel_rfl
theorem d_table_turned : dfs "table_turned" = some 1 := by kernel_rfl
theorem d_unit_table : dfs "unit_table" = some 1 := by kernel_rfl
theorem d_table_part : dfs "table_part" = some 3 := by kernel_rfl
theorem d_is_table : dfs "is_table" = some 3 := by kernel_rfl
theorem f_table_sum (a b : W) : fill 2 (dvs "table_sum") [a, b] = some [a, b] := rfl
theorem f_table_less (a b : W) : fill 2 (dvs "table_less") [a, b] = some [a, b] := rfl
theorem f_table_scaled (a b : W) : fill 2 (dvs "table_scaled") [a, b] = some [a, b] := rfl
theorem f_table_product (a b : W) : fill 2 (dvs "table_product") [a, b] = some [a, b] := rfl
theorem f_table_power (a b : W) : fill 2 (dvs "table_power") [a, b] = some [a, b] := rfl
theorem f_table_turned (a : W) : fill 1 (dvs "table_turned") [a] = some [a] := rfl
theorem f_unit_table (a : W) : fill 1 (dvs "unit_table") [a] = some [a] := rfl
theorem f_table_part (a b c : W) : fill 3 (dvs "table_part") [a, b, c] = some [a, b, c] := rfl
theorem f_is_table (a b c : W) : fill 3 (dvs "is_table") [a, b, c] = some [a, b, c] := rfl
theorem v_is_table : dvs "is_table" = [.non, .non] := by kernel_rfl
theorem f_is_table1 (a : W) : fill 3 (dvs "is_table") [a] = some [a, .non, .non] := by rw [v_is_table]; rfl
theorem f_is_table2 (a b : W) : fill 3 (dvs "is_table") [a, b] = some [a, b, .non] := by rw [v_is_table]; rfl
end K01
end
section
set_option Elab.async false
set_option linter.all false
set_option maxRecDepth 100000
set_option maxHeartbeats 2000000
namespace K01
open PySem PySem.Spec Wv L2
/-- the width of a table -/
def wd : List (List Fr) → Nat
  | [] => 0
  | r :: _ => r.length
theorem c_wd (k : Nat) (T : List (List Fr)) (h : Store) : callK prg (k + 1) "width_of" [tw T] h = .ok (.int (wd T : Int)) h := by
  cases T with
  | nil =>
    rw [k_width_of]
    simp [b_width_of, startR, tw, cutR_same, wd]
  | cons r T => exact c_width k h
theorem wd_mat {L q : Nat} {T : List (List Fr)} (m : Mat L q T) (h : 1 ≤ T.length) : wd T = q := by
  cases T with
  | nil => cases h
  | cons r T => exact m.len r List.mem_cons_self
theorem it_tw (h : Store) (T : List (List Fr)) : itOf h (tw T) = some (T.map rw, []) := rfl
theorem zip_tw (h : Store) (S T : List (List Fr)) : zipOf h [tw S, tw T] = some ((List.zip S T).map fun p => .tup [rw p.1, rw p.2], []) := by
  show some (zipW (S.map rw) (T.map rw), ([] : Gd)) = _
  rw [zipW_two]
theorem zip_rw (h : Store) (s t : List Fr) : zipOf h [rw s, rw t] = some ((List.zip s t).map fun p => .tup [fw p.1, fw p.2], []) := by
  show some (zipW (s.map fw) (t.map fw), ([] : Gd)) = _
  rw [zipW_two]
theorem ret_tw (h : Store) (T : List (List Fr)) : cutR h (.tup (T.map rw)) h = .ok (tw T) h := cutR_same _ _
section
variable {k L M q q2 : Nat} {S T : List (List Fr)} (h : Store)
theorem c_alike (tS : Tab L q S) (tT : Tab M q2 T) (hL : L ≤ 20000) (hM : M ≤ 20000) (e1 : S.length = T.length) (e2 : wd S = wd T) : callK prg (k + 5) "check_alike" [tw S, tw T] h = .ok .non h := by
  rw [k_check_alike]
  simp [b_check_alike, startR, c_check k h (by omega) tS, c_check k h (by omega) tT, len_tw, c_wd, e1, e2, cutR_same]
theorem c_alike_x (tS : Tab L q S) (tT : Tab M q2 T) (hL : L ≤ 20000) (hM : M ≤ 20000) (e : S.length ≠ T.length ∨ wd S ≠ wd T) : callK prg (k + 5) "check_alike" [tw S, tw T] h = malX h := by
  rw [k_check_alike]
  by_cases c : S.length = T.length
  · have c2 : wd S ≠ wd T := by
      rcases e with e | e
      · exact absurd c e
      · exact e
    have c3 : ((wd S : Int) == (wd T : Int)) = false := by simpa using fun z => c2 (Int.ofNat.inj z)
    have c4 : ¬ (wd S : Int) = (wd T : Int) := by omega
    simp [b_check_alike, startR, c_check k h (by omega) tS, c_check k h (by omega) tT, len_tw, c_wd, c, c3, c4, cutX_same]
  · have c3 : ((S.length : Int) == (T.length : Int)) = false := by simpa using fun z => c (Int.ofNat.inj z)
    have c4 : ¬ (S.length : Int) = (T.length : Int) := by omega
    simp [b_check_alike, startR, c_check k h (by omega) tS, c_check k h (by omega) tT, len_tw, c_wd, c3, c4, cutX_same]
/-- item by item -/
def zipM (F : Fr → Fr → Fr) (S T : List (List Fr)) : List (List Fr) := List.zipWith (List.zipWith F) S T
theorem zip_comp {F : Fr → Fr → Fr} {f : Str} (mS : Mat L q S) (mT : Mat M q2 T) (hS : S.length ≤ 1000) (hq : q ≤ 1000) (c : ∀ a b, Good L a → Good M b → callK prg k f [fw a, fw b] h = .ok (fw (F a b)) h) {e0 e1 : Option W} :
    compL [] (.tp [(.nm 2), (.nm 3)]) cTrue (cQ1 tupQ (cSeqF (cComp (cItS zipOf (cCons (cVar 2) (cCons (cVar 3) cNil))) [4, 5] (.tp [(.nm 4), (.nm 5)]) cTrue (cCall (callK prg k) 2 f (cCons (cVar 4) (cCons (cVar 5) cNil)))))) [e0, e1, none, none, none, none] ((List.zip S T).map fun p => .tup [rw p.1, rw p.2]) [] h = .ok ((zipM F S T).map rw) h := by
  unfold zipM
  rw [← List.map_uncurry_zip_eq_zipWith, List.map_map]
  refine comp_map (enc := fun p : List Fr × List Fr => .tup [rw p.1, rw p.2]) _ ?_ fun p hp => ?_
  · rw [List.length_zip]
    exact Nat.le_trans (Nat.min_le_left _ _) (Nat.le_trans hS (by decide))
  · have pm := List.of_mem_zip hp
    have ci : compL [] (.tp [(.nm 4), (.nm 5)]) cTrue (cCall (callK prg k) 2 f (cCons (cVar 4) (cCons (cVar 5) cNil))) [e0, e1, some (rw p.1), some (rw p.2), none, none] ((List.zip p.1 p.2).map fun p => .tup [fw p.1, fw p.2]) [] h = .ok ((List.zipWith F p.1 p.2).map fw) h := by
      rw [← List.map_uncurry_zip_eq_zipWith, List.map_map]
      refine comp_map (enc := fun p : Fr × Fr => .tup [fw p.1, fw p.2]) _ ?_ fun x hx => ?_
      · rw [List.length_zip, mS.len _ pm.1]
        exact Nat.le_trans (Nat.min_le_left _ _) (Nat.le_trans hq (by decide))
      · have xm := List.of_mem_zip hx
        refine ⟨_, bind_tp2 _ _ _ _ _, rfl, ?_⟩
        show _ = Out.ok (fw (F x.1 x.2)) h
        simp [c _ _ (mS.good _ pm.1 _ xm.1) (mT.good _ pm.2 _ xm.2)]
    refine ⟨_, bind_tp2 _ _ _ _ _, rfl, ?_⟩
    show _ = Out.ok (W.tup ((List.zipWith F p.1 p.2).map fw)) h
    generalize (List.zipWith F p.1 p.2).map fw = Z at ci
    simp [zip_rw, ci]
theorem c_tsum (hk : 40 ≤ k) (tS : Tab L q S) (tT : Tab M q2 T) (hL : L ≤ 20000) (hM : M ≤ 20000) (e1 : S.length = T.length) (e2 : wd S = wd T) : callK prg (k + 1) "table_sum" [tw S, tw T] h = .ok (tw (zipM addF S T)) h := by
  obtain ⟨k, rfl⟩ : ∃ j, k = j + 5 := ⟨k - 5, by omega⟩
  have fS := tS.few
  have q40 := tS.q40
  have zc := zip_comp (k := k + 5) (F := addF) (f := "ratio_sum") h ⟨tS.len, tS.good⟩ ⟨tT.len, tT.good⟩ (by omega) (by omega) (fun a b ga gb => c_rsum (k + 4) h (by omega) ga gb (by omega)) (e0 := some (tw S)) (e1 := some (tw T))
  rw [k_table_sum]
  simp [b_table_sum, startR, c_alike (k := k) h tS tT hL hM e1 e2, zip_tw, zc, ret_tw]
theorem c_tless (hk : 40 ≤ k) (tS : Tab L q S) (tT : Tab M q2 T) (hL : L ≤ 20000) (hM : M ≤ 20000) (e1 : S.length = T.length) (e2 : wd S = wd T) : callK prg (k + 1) "table_less" [tw S, tw T] h = .ok (tw (zipM lessF S T)) h := by
  obtain ⟨k, rfl⟩ : ∃ j, k = j + 5 := ⟨k - 5, by omega⟩
  have fS := tS.few
  have q40 := tS.q40
  have zc := zip_comp (k := k + 5) (F := lessF) (f := "ratio_less") h ⟨tS.len, tS.good⟩ ⟨tT.len, tT.good⟩ (by omega) (by omega) (fun a b ga gb => c_less (k + 4) h (by omega) ga gb (by omega)) (e0 := some (tw S)) (e1 := some (tw T))
  rw [k_table_less]
  simp [b_table_less, startR, c_alike (k := k) h tS tT hL hM e1 e2, zip_tw, zc, ret_tw]
theorem c_tsum_x (tS : Tab L q S) (tT : Tab M q2 T) (hL : L ≤ 20000) (hM : M ≤ 20000) (e : S.length ≠ T.length ∨ wd S ≠ wd T) : callK prg (k + 6) "table_sum" [tw S, tw T] h = malX h := by
  rw [k_table_sum]
  simp [b_table_sum, startR, c_alike_x (k := k) h tS tT hL hM e, cutX_same]
theorem c_tless_x (tS : Tab L q S) (tT : Tab M q2 T) (hL : L ≤ 20000) (hM : M ≤ 20000) (e : S.length ≠ T.length ∨ wd S ≠ wd T) : callK prg (k + 6) "table_less" [tw S, tw T] h = malX h := by
  rw [k_table_less]
  simp [b_table_less, startR, c_alike_x (k := k) h tS tT hL hM e, cutX_same]
def scaM (T : List (List Fr)) (c : Fr) : List (List Fr) := T.map fun row => row.map fun x => mulF x c
theorem c_scaled (hk : 40 ≤ k) (tT : Tab L q T) (hL : L ≤ 20000) {c : Fr} (g : Good M c) (hM : M ≤ 20000) : callK prg (k + 1) "table_scaled" [tw T, fw c] h = .ok (tw (scaM T c)) h := by
  obtain ⟨k, rfl⟩ : ∃ j, k = j + 5 := ⟨k - 5, by omega⟩
  have fT := tT.few
  have q40 := tT.q40
  have zc : compL [] (.nm 2) cTrue (cQ1 tupQ (cSeqF (cComp (cItV (cVar 2)) [3] (.nm 3) cTrue (cCall (callK prg (k + 5)) 2 "ratio_product" (cCons (cVar 3) (cCons (cVar 1) cNil)))))) [some (tw T), some (fw c), none, none] (T.map rw) [] h = .ok ((scaM T c).map rw) h := by
    unfold scaM
    rw [List.map_map]
    refine comp_map T (Nat.le_trans fT (by decide)) fun row hr => ?_
    have ci : compL [] (.nm 3) cTrue (cCall (callK prg (k + 5)) 2 "ratio_product" (cCons (cVar 3) (cCons (cVar 1) cNil))) [some (tw T), some (fw c), some (rw row), none] (row.map fw) [] h = .ok ((row.map fun x => mulF x c).map fw) h := by
      rw [List.map_map]
      refine comp_map row (by rw [tT.len row hr]; exact Nat.le_trans q40 (by decide)) fun x hx => ?_
      refine ⟨_, bind_nm _ _ _, rfl, ?_⟩
      simp [c_prod (k + 4) h (by omega) (tT.good row hr x hx) g (by omega)]
    refine ⟨_, bind_nm _ _ _, rfl, ?_⟩
    show _ = Out.ok (W.tup ((row.map fun x => mulF x c).map fw)) h
    generalize (row.map fun x => mulF x c).map fw = Rr at ci
    simp [it_rw, ci]
  rw [k_table_scaled]
  simp [b_table_scaled, startR, c_check (k + 1) h (by omega) tT, c_ratio (k + 3) h (by omega) g, it_tw, zc, ret_tw, -List.map_map]
theorem c_tturned (tT : Tab L q T) (hL : L ≤ 20000) : callK prg (k + 5) "table_turned" [tw T] h = .ok (tw (turnM T (wd T))) h := by
  have fT := tT.few
  have q40 := tT.q40
  have ct : callK prg (k + 4) "turned" [tw T] h = .ok (tw (turnM T (wd T))) h := by
    cases T with
    | nil =>
      have r1 : rng1 [.int 0] = some [] := rng1_nat (n := 0) (by decide)
      have c0 := c_wd (k + 2) [] h
      have e : wd [] = 0 := rfl
      rw [e] at c0
      rw [k_turned]
      simp [b_turned, startR, c0, r1, compL, gdOk_nil]
      exact ret_tw h []
    | cons r T =>
      rw [wd_mat ⟨tT.len, tT.good⟩ (by simp)]
      exact c_turned (k := k + 2) ⟨tT.len, tT.good⟩ (by omega) (by omega)
  rw [k_table_turned]
  simp [b_table_turned, startR, c_check k h (by omega) tT, ct, cutR_same]
end
end K01
end
section
set_option Elab.async false
set_option linter.all false
set_option maxRecDepth 100000
set_option maxHeartbeats 2000000
namespace K01
open PySem PySem.Spec Wv L2
theorem tab_nil : Tab 1 1 [] := ⟨by decide, by decide, by decide, fun r hr => (nomatch hr), fun r hr => (nomatch hr)⟩
theorem c_chknum (k : Nat) {i m : Int} (h : Store) (h0 : 0 ≤ i) (h1 : i ≤ m) : callK prg (k + 2) "check_number" [.int i, .int m] h = .ok .non h := by
  rw [k_check_number]
  simp [b_check_number, startR, c_isint k, h0, h1, cutR_same]
theorem c_chknum_x (k : Nat) {i m : Int} (h : Store) (e : i < 0 ∨ m < i) : callK prg (k + 2) "check_number" [.int i, .int m] h = malX h := by
  rw [k_check_number]
  by_cases c : 0 ≤ i
  · have c2 : ¬ i ≤ m := by omega
    simp [b_check_number, startR, c_isint k, c, c2, cutX_same]
  · simp [b_check_number, startR, c_isint k, c, cutX_same]
def unitM (n : Nat) : List (List Fr) := (List.range n).map fun i => (List.range n).map fun j => if i = j then (1, 1) else (0, 1)
theorem good_11 : Good 1 ((1, 1) : Fr) := ⟨by unfold sz; decide, by unfold sz; decide, by decide, by decide⟩
theorem unit_mat (n : Nat) : Mat 1 n (unitM n) := ⟨fun r hr => by
  unfold unitM at hr
  obtain ⟨i, _, rfl⟩ := List.mem_map.mp hr
  rw [List.length_map, List.length_range], fun r hr x hx => by
  unfold unitM at hr
  obtain ⟨i, _, rfl⟩ := List.mem_map.mp hr
  obtain ⟨j, _, rfl⟩ := List.mem_map.mp hx
  split
  · exact good_11
  · exact good_zero⟩
theorem unit_len (n : Nat) : (unitM n).length = n := by
  unfold unitM
  rw [List.length_map, List.length_range]
theorem c_unitof (k n : Nat) (h : Store) (hn : n ≤ 1000) : callK prg (k + 1) "unit_of" [.int (n : Int)] h = .ok (tw (unitM n)) h := by
  have r1 : rng1 [.int (n : Int)] = some ((List.range n).map iw) := rng1_nat (Nat.lt_of_le_of_lt hn (by decide))
  have lr : (List.range n).length ≤ 16777216 := by
    rw [List.length_range]
    exact Nat.le_trans hn (by decide)
  have c0 : compL [] (.nm 1) cTrue (cQ1 tupQ (cSeqF (cComp (cItR rng1 (cCons (cVar 0) cNil)) [2] (.nm 2) cTrue (cIf (tcCmp .Eq (cVar 1) (cVar 2)) (cVal (.tup [(.int 1), (.int 1)])) (cVal (.tup [(.int 0), (.int 1)])))))) [some (.int (n : Int)), none, none] ((List.range n).map iw) [] h = .ok ((unitM n).map rw) h := by
    unfold unitM
    rw [List.map_map]
    refine comp_map _ lr fun i hi => ?_
    have ci : compL [] (.nm 2) cTrue (cIf (tcCmp .Eq (cVar 1) (cVar 2)) (cVal (.tup [(.int 1), (.int 1)])) (cVal (.tup [(.int 0), (.int 1)]))) [some (.int (n : Int)), some (iw i), none] ((List.range n).map iw) [] h = .ok (((List.range n).map fun j => if i = j then ((1, 1) : Fr) else (0, 1)).map fw) h := by
      rw [List.map_map]
      refine comp_map _ lr fun j hj => ?_
      refine ⟨_, bind_nm _ _ _, rfl, ?_⟩
      show _ = Out.ok (fw (if i = j then ((1, 1) : Fr) else (0, 1))) h
      by_cases c : i = j
      · subst c
        simp [iw, fw]
      · have c2 : ¬ (i : Int) = (j : Int) := by omega
        simp [iw, fw, c, c2]
    refine ⟨_, bind_nm _ _ _, rfl, ?_⟩
    show _ = Out.ok (W.tup (((List.range n).map fun j => if i = j then ((1, 1) : Fr) else (0, 1)).map fw)) h
    generalize ((List.range n).map fun j => if i = j then ((1, 1) : Fr) else (0, 1)).map fw = Z at ci
    simp [r1, ci]
  obtain ⟨Z, hZ⟩ : ∃ Z, Z = (unitM n).map rw := ⟨_, rfl⟩
  rw [← hZ] at c0
  rw [k_unit_of]
  simp [b_unit_of, startR, r1, c0]
  rw [hZ]
  exact ret_tw _ _
theorem c_unittab (k n : Nat) (h : Store) (hn : n ≤ 40) : callK prg (k + 3) "unit_table" [.int (n : Int)] h = .ok (tw (unitM n)) h := by
  have c1 := c_chknum k (i := (n : Int)) (m := 40) h (by omega) (by omega)
  have c2 := c_unitof (k + 1) n h (by omega)
  rw [k_unit_table]
  simp [b_unit_table, startR, c1, c2, cutR_same]
section
variable {k L M n q q2 : Nat} {S T : List (List Fr)} (h : Store)
theorem forL_nil {g : Gd} {T : Tgt} {body : DenS} {ρ : Rho} {H : Store} (hg : gdOk g H) : forL g T body [] ρ H = .next ρ H := by
  unfold forL
  rw [if_pos hg]
theorem compL_nil {g : Gd} {T : Tgt} {tt : DenT} {te : Den} {ρ0 : Rho} {H : Store} (hg : gdOk g H) : compL g T tt te ρ0 [] [] H = .ok [] H := by
  unfold compL
  rw [if_pos hg]
theorem c_turned0 : callK prg (k + 2) "turned" [tw []] h = .ok (tw []) h := by
  have r1 : rng1 [.int 0] = some [] := rng1_nat (n := 0) (by decide)
  have c0 := c_wd k [] h
  have e : wd [] = 0 := rfl
  rw [e] at c0
  rw [k_turned]
  simp [b_turned, startR, c0, r1, compL_nil (gdOk_nil _)]
  exact ret_tw h []
theorem c_mul0 : callK prg (k + 3) "multiplied" [tw [], tw []] h = .ok (tw []) h := by
  have ct : ∀ H, callK prg (k + 2) "turned" [tw []] H = .ok (tw []) H := fun H => c_turned0 H
  have it : ∀ H, itOf H (tw []) = some ([], []) := fun H => rfl
  have o1 := own_new h []
  have o2 : own? (h ++ [Ob.lst []] ++ [Ob.lst []]) h.length = some [] := own_app o1
  have i2 := (lst_of_own o2).1
  have g := gdOk_one (lst_own o2)
  simp only [List.append_assoc, List.cons_append, List.nil_append] at i2 g
  rw [k_multiplied]
  simp [b_multiplied, startR, it, compL_nil (gdOk_nil _), ct, i2, compL_nil g]
  exact cutR_app (w := tw []) rfl
theorem c_tproduct (hk : 40 ≤ k) (tS : Tab L n S) (tT : Tab M q T) (hL : L ≤ 20000) (hM : M ≤ 20000) (hS1 : 1 ≤ S.length) (hT : T.length = n) : callK prg (k + 1) "table_product" [tw S, tw T] h = .ok (tw (mulM S T q)) h := by
  obtain ⟨k, rfl⟩ : ∃ j, k = j + 4 := ⟨k - 4, by omega⟩
  have n1 := tS.q1
  have n40 := tS.q40
  have q40 := tT.q40
  have few := tS.few
  have ws := wd_mat ⟨tS.len, tS.good⟩ hS1
  obtain ⟨r, T, rfl⟩ : ∃ r T', T = r :: T' := by
    cases T with
    | nil => rw [List.length_nil] at hT; omega
    | cons r T => exact ⟨r, T, rfl⟩
  have cm := c_multiplied (k := k + 3) (h := h) (by omega) ⟨tS.len, tS.good⟩ (by omega) ⟨tT.len, tT.good⟩ hT (by omega) (by omega) hL hM
  have lt := len_tw (r :: T) h
  rw [hT] at lt
  have c1 := c_check k h (by omega) tS
  have c2 := c_check k h (by omega) tT
  have c3 := c_wd (k + 3) S h
  rw [ws] at c3
  generalize tw (r :: T) = Tw at *
  rw [k_table_product]
  simp [b_table_product, startR, c1, c2, c3, lt, cm, cutR_same]
theorem c_tproduct_x (tS : Tab L n S) (tT : Tab M q T) (hL : L ≤ 20000) (hM : M ≤ 20000) (e : wd S ≠ T.length) : callK prg (k + 5) "table_product" [tw S, tw T] h = malX h := by
  have c3 : ((wd S : Int) == (T.length : Int)) = false := by simpa using fun z => e (Int.ofNat.inj z)
  have c4 : ¬ (wd S : Int) = (T.length : Int) := by omega
  rw [k_table_product]
  simp [b_table_product, startR, c_check k h (by omega) tS, c_check k h (by omega) tT, c_wd, len_tw, c3, c4, cutX_same]
theorem c_tproduct0 : callK prg (k + 5) "table_product" [tw [], tw []] h = .ok (tw []) h := by
  have c1 := c_check k h (L := 1) (q := 1) (T := []) (by omega) tab_nil
  have c3 := c_wd (k + 3) [] h
  have lt := len_tw [] h
  have cm := c_mul0 (k := k + 1) h
  have e : wd [] = 0 := rfl
  rw [e] at c3
  generalize tw [] = Tw at *
  rw [k_table_product]
  simp [b_table_product, startR, c1, c3, lt, cm, cutR_same]
/-! ### powers -/
def powM (T : List (List Fr)) (n : Nat) : Nat → List (List Fr)
  | 0 => unitM n
  | e + 1 => mulM (powM T n e) T n
theorem pow_len (T : List (List Fr)) (n : Nat) : ∀ e, (powM T n e).length = n
  | 0 => unit_len n
  | e + 1 => by
    unfold powM
    rw [mul_len, pow_len T n e]
theorem c_power {e : Nat} (hk : 45 ≤ k) (tT : Tab M n T) (hT : T.length = n) (hL : L ≤ 20000) (hM : M ≤ 20000) (he : e ≤ 60) (hp : ∀ i, i < e → Mat L n (powM T n i)) : callK prg (k + 1) "table_power" [tw T, .int (e : Int)] h = .ok (tw (powM T n e)) h := by
  obtain ⟨k, rfl⟩ : ∃ j, k = j + 5 := ⟨k - 5, by omega⟩
  have n1 := tT.q1
  have n40 := tT.q40
  have wT := wd_mat ⟨tT.len, tT.good⟩ (by omega)
  obtain ⟨r, T, rfl⟩ : ∃ r T', T = r :: T' := by
    cases T with
    | nil => rw [List.length_nil] at hT; omega
    | cons r T => exact ⟨r, T, rfl⟩
  have c1 := c_check k h (by omega) tT
  have c3 := c_wd (k + 3) (r :: T) h
  rw [wT] at c3
  have lt := len_tw (r :: T) h
  rw [hT] at lt
  have cs : callK prg (k + 5) "check_square" [tw (r :: T)] h = .ok .non h := by
    generalize tw (r :: T) = Tw at *
    rw [k_check_square]
    simp [b_check_square, startR, c1, c3, lt, cutR_same]
  have cn := c_chknum (k + 3) (i := (e : Int)) (m := 60) h (by omega) (by omega)
  have cu := c_unitof (k + 4) n h (by omega)
  have r1 : rng1 [.int (e : Int)] = some ((List.range e).map iw) := rng1_nat (Nat.lt_of_le_of_lt he (by decide))
  have loop : ∀ (m i : Nat) (a3 : Option W), i + m = e → ∃ a3', forL [] (.nm 3) (sSeq (sAsg (cCall (callK prg (k + 5)) 2 "multiplied" (cCons (cVar 2) (cCons (cVar 0) cNil))) (gNm 2)) sSkip) ((List.range' i m).map iw) [some (tw (r :: T)), some (.int (e : Int)), some (tw (powM (r :: T) n i)), a3] h = .next [some (tw (r :: T)), some (.int (e : Int)), some (tw (powM (r :: T) n e)), a3'] h := by
    intro m
    induction m with
    | zero =>
      intro i a3 hi
      have z : i = e := by omega
      subst z
      refine ⟨a3, ?_⟩
      rw [List.range'_zero, List.map_nil]
      unfold forL
      rw [if_pos (gdOk_nil _)]
    | succ m ih =>
      intro i a3 hi
      obtain ⟨a3', ih⟩ := ih (i + 1) (some (iw i)) (by omega)
      have cm := c_multiplied (k := k + 4) (h := h) (by omega) (hp i (by omega)) (by rw [pow_len]; omega) ⟨tT.len, tT.good⟩ hT (by omega) (by omega) hL hM
      refine ⟨a3', ?_⟩
      rw [List.range'_succ, List.map_cons]
      refine forL_step (gdOk_nil _) (bind_nm _ _ _) ?_ ih
      have e2 : powM (r :: T) n (i + 1) = mulM (powM (r :: T) n i) (r :: T) n := rfl
      rw [e2]
      generalize tw (r :: T) = Tw at *
      simp [cm]
  obtain ⟨a3', lp⟩ := loop e 0 none (by omega)
  rw [← List.range_eq_range'] at lp
  have e0 : powM (r :: T) n 0 = unitM n := rfl
  rw [e0] at lp
  generalize tw (r :: T) = Tw at *
  rw [k_table_power]
  simp [b_table_power, startR, cs, cn, lt, cu, r1, lp, cutR_same]
theorem c_power_x {e : Nat} (tT : Tab M n T) (hM : M ≤ 20000) (ne : T.length ≠ wd T) {w : W} : callK prg (k + 6) "table_power" [tw T, w] h = malX h := by
  have c3 : ((T.length : Int) == (wd T : Int)) = false := by simpa using fun z => ne (Int.ofNat.inj z)
  have c4 : ¬ (T.length : Int) = (wd T : Int) := by omega
  have cs : callK prg (k + 5) "check_square" [tw T] h = malX h := by
    rw [k_check_square]
    simp [b_check_square, startR, c_check k h (by omega) tT, c_wd, len_tw, c3, c4, cutX_same]
  rw [k_table_power]
  simp [b_table_power, startR, cs, cutX_same]
theorem c_power0 : callK prg (k + 6) "table_power" [tw [], .int 3] h = .ok (tw []) h := by
  have c1 := c_check k h (L := 1) (q := 1) (T := []) (by omega) tab_nil
  have c3 := c_wd (k + 3) [] h
  have lt := len_tw [] h
  have e : wd [] = 0 := rfl
  rw [e] at c3
  have cs : callK prg (k + 5) "check_square" [tw []] h = .ok .non h := by
    generalize tw [] = Tw at *
    rw [k_check_square]
    simp [b_check_square, startR, c1, c3, lt, cutR_same]
  have cn := c_chknum (k + 3) (i := 3) (m := 60) h (by omega) (by omega)
  have cu := c_unitof (k + 4) 0 h (by omega)
  have u0 : unitM 0 = [] := rfl
  rw [u0] at cu
  have cm := c_mul0 (k := k + 2) h
  have r1 : rng1 [.int 3] = some ((List.range 3).map iw) := rng1_nat (n := 3) (by decide)
  have lp : forL [] (.nm 3) (sSeq (sAsg (cCall (callK prg (k + 5)) 2 "multiplied" (cCons (cVar 2) (cCons (cVar 0) cNil))) (gNm 2)) sSkip) ((List.range 3).map iw) [some (tw []), some (.int 3), some (tw []), none] h = .next [some (tw []), some (.int 3), some (tw []), some (iw 2)] h := by
    generalize tw [] = Tw at *
    refine forL_step (h2 := h) (ρ2 := [some Tw, some (.int 3), some Tw, some (iw 0)]) (gdOk_nil _) (bind_nm _ _ _) (by simp [cm]) ?_
    refine forL_step (h2 := h) (ρ2 := [some Tw, some (.int 3), some Tw, some (iw 1)]) (gdOk_nil _) (bind_nm _ _ _) (by simp [cm]) ?_
    refine forL_step (h2 := h) (ρ2 := [some Tw, some (.int 3), some Tw, some (iw 2)]) (gdOk_nil _) (bind_nm _ _ _) (by simp [cm]) ?_
    exact forL_nil (gdOk_nil _)
  have cu' : callK prg (k + 5) "unit_of" [.int 0] h = .ok (tw []) h := cu
  generalize (List.range 3).map iw = Y at *
  generalize tw [] = Tw at *
  rw [k_table_power]
  simp [b_table_power, startR, cs, cn, lt, cu', r1, lp, cutR_same]
end
end K01
end
section
set_option Elab.async false
set_option linter.all false
set_option maxRecDepth 100000
set_option maxHeartbeats 2000000
namespace K01
open PySem PySem.Spec Wv L2
/-! ### choices -/
def leafW : W → Bool
  | .int _ => true
  | .bl _ => true
  | .str _ => true
  | .non => true
  | _ => false
def inCh (n : Int) : W → Bool
  | .int x => decide (0 ≤ x) && decide (x < n)
  | _ => false
def ltW : W × W → Bool
  | (.int a, .int b) => decide (a < b)
  | _ => false
def isCh (n : Int) (ws : List W) : Bool := ws.all (inCh n) && (List.zip ws (ws.drop 1)).all ltW
theorem c_isint_bl (k : Nat) (b : Bool) (h : Store) : callK prg (k + 1) "is_integer" [.bl b] h = .ok (.bl false) h := by
  rw [k_is_integer]
  simp [b_is_integer, startR, cutR_same]
theorem c_isint_str (k : Nat) (x : Str) (h : Store) : callK prg (k + 1) "is_integer" [.str x] h = .ok (.bl false) h := by
  rw [k_is_integer]
  simp [b_is_integer, startR, cutR_same]
theorem c_isint_non (k : Nat) (h : Store) : callK prg (k + 1) "is_integer" [.non] h = .ok (.bl false) h := by
  rw [k_is_integer]
  simp [b_is_integer, startR, cutR_same]
theorem c_isint_tup (k : Nat) (ws : List W) (h : Store) : callK prg (k + 1) "is_integer" [.tup ws] h = .ok (.bl false) h := by
  rw [k_is_integer]
  simp [b_is_integer, startR, cutR_same]
theorem inCh_int {n : Int} {w : W} (h : inCh n w = true) : ∃ x, w = .int x ∧ 0 ≤ x ∧ x < n := by
  cases w with
  | int x =>
    unfold inCh at h
    simp at h
    exact ⟨x, rfl, h.1, h.2⟩
  | _ => cases h
theorem zipW_same : ∀ a b : List W, zipW a b = (List.zip a b).map fun p => .tup [p.1, p.2] := fun a b => by
  have := zipW_two (fun w : W => w) (fun w : W => w) a b
  rw [List.map_id', List.map_id'] at this
  exact this
theorem c_choice (k : Nat) {n : Int} {ws : List W} (h : Store) (hl : ws.length ≤ 1000) (lf : ws.all leafW = true) : callK prg (k + 2) "is_choice" [.tup ws, .int n] h = .ok (.bl (isCh n ws)) h := by
  have hl2 : ws.length ≤ 16777216 := Nat.le_trans hl (by decide)
  have c0 : compL [] (.nm 4) cTrue (cAnd (cCall (callK prg (k + 1)) 1 "is_integer" (cCons (cVar 4) cNil)) (cChain .LtE .Lt (cVal (.int 0)) (cVar 4) (cVar 1))) [some (.tup ws), some (.int n), none, none, none] ws [] h = .ok (ws.map fun w => .bl (inCh n w)) h := by
    have := comp_map (T := .nm 4) (tt := cTrue) (te := cAnd (cCall (callK prg (k + 1)) 1 "is_integer" (cCons (cVar 4) cNil)) (cChain .LtE .Lt (cVal (.int 0)) (cVar 4) (cVar 1))) (ρ0 := [some (.tup ws), some (.int n), none, none, none]) (enc := id) (f := fun w => .bl (inCh n w)) (h := h) ws hl2 fun w hw => by
      have lw := List.all_eq_true.mp lf w hw
      refine ⟨_, bind_nm _ _ _, rfl, ?_⟩
      cases w with
      | int x =>
        by_cases c : 0 ≤ x
        · simp [c_isint, c, inCh]
        · simp [c_isint, c, inCh]
      | bl b => simp [c_isint_bl, inCh]
      | str x => simp [c_isint_str, inCh]
      | non => simp [c_isint_non, inCh]
      | _ => cases lw
    rw [List.map_id] at this
    exact this
  rw [k_is_choice]
  by_cases c : ws.all (inCh n) = true
  · have c1 : compL [] (.tp [(.nm 2), (.nm 3)]) cTrue (cCmp .Lt (cVar 2) (cVar 3)) [some (.tup ws), some (.int n), none, none, none] ((List.zip ws (ws.drop 1)).map fun p : W × W => .tup [p.1, p.2]) [] h = .ok ((List.zip ws (ws.drop 1)).map fun p => .bl (ltW p)) h := by
      refine comp_map (enc := fun p : W × W => .tup [p.1, p.2]) _ ?_ fun p hp => ?_
      · rw [List.length_zip]
        exact Nat.le_trans (Nat.min_le_left _ _) hl2
      · have pm := List.of_mem_zip hp
        obtain ⟨a, ea, _⟩ := inCh_int (List.all_eq_true.mp c _ pm.1)
        obtain ⟨b, eb, _⟩ := inCh_int (List.all_eq_true.mp c _ (List.mem_of_mem_drop pm.2))
        obtain ⟨p1, p2⟩ := p
        dsimp only at ea eb
        subst ea eb
        refine ⟨_, bind_tp2 _ _ _ _ _, rfl, ?_⟩
        simp [ltW]
    have sl : slW h (.tup ws) (some 1) none = some (.tup (ws.drop 1), h) := by
      show some (W.tup (cutW ws (some ((1 : Nat) : Int)) none), h) = _
      rw [cut_hi]
    have zo : zipOf h [.tup ws, .tup (ws.drop 1)] = some ((List.zip ws (ws.drop 1)).map fun p : W × W => .tup [p.1, p.2], []) := by
      show some (zipW ws (ws.drop 1), ([] : Gd)) = _
      rw [zipW_same]
    have e : isCh n ws = (List.zip ws (ws.drop 1)).all ltW := by
      unfold isCh
      rw [c, Bool.true_and]
    rw [e]
    have al := all_map ltW (List.zip ws (ws.drop 1)) h
    generalize (List.zip ws (ws.drop 1)).map (fun p : W × W => W.tup [p.1, p.2]) = Z at *
    generalize (List.zip ws (ws.drop 1)).map (fun p => W.bl (ltW p)) = Z2 at *
    generalize ws.drop 1 = ws1 at *
    simp [b_is_choice, startR, c0, all_map, c, sl, zo, c1, al, cutR_same]
  · have c' : ws.all (inCh n) = false := Bool.eq_false_iff.mpr c
    have e : isCh n ws = false := by
      unfold isCh
      rw [c', Bool.false_and]
    rw [e]
    simp [b_is_choice, startR, c0, all_map, c', cutR_same]
theorem c_choice_no (k : Nat) {n : Int} {w : W} (h : Store) {t : String} (ty : tyW h w = some t) (nt : isOne t "tuple" = some false) : callK prg (k + 2) "is_choice" [w, .int n] h = .ok (.bl false) h := by
  rw [k_is_choice]
  simp [b_is_choice, startR, ty, nt, cutR_same]
theorem c_lchoice_no (k : Nat) {n : Int} {w : W} (h : Store) {t : String} (ty : tyW h w = some t) (nt : isOne t "tuple" = some false) : callK prg (k + 1) "_law_is_choice" [w, .int n] h = .ok (.bl false) h := by
  rw [k__law_is_choice]
  simp [b__law_is_choice, startR, ty, nt, cutR_same]
/-- a loop that may end by a return -/
theorem forL_ret {g : Gd} {T : Tgt} {body : DenS} {w v : W} {ws : List W} {ρ ρ1 : Rho} {h h2 : Store} (hg : gdOk g h) (e1 : T.bind w ρ = some ρ1) (e2 : body ρ1 h = .ret v h2) : forL g T body (w :: ws) ρ h = .ret v h2 := by
  unfold forL
  rw [if_pos hg, e1]
  dsimp only
  rw [e2]
theorem c_lchoice (k : Nat) {n : Int} {ws : List W} (h : Store) (hl : ws.length ≤ 1000) (lf : ws.all leafW = true) : callK prg (k + 1) "_law_is_choice" [.tup ws, .int n] h = .ok (.bl (isCh n ws)) h := by
  have loop : ∀ (us : List W) (a2 : Option W), us.all leafW = true → (us.all (inCh n) = true ∧ ∃ a2', forL [] (.nm 2) (sSeq (sIf (tcOr (tcNot (tcVal (cIsi1 "int" (cVar 2)))) (tcOr (tcVal (cIsi1 "bool" (cVar 2))) (tcNot (tcChain .LtE .Lt (cVal (.int 0)) (cVar 2) (cVar 1))))) (sSeq (sRet (cVal (.bl false)))
    sSkip) sSkip)
    sSkip) us [some (.tup ws), some (.int n), a2, none] h = .next [some (.tup ws), some (.int n), a2', none] h) ∨ (us.all (inCh n) = false ∧ forL [] (.nm 2) (sSeq (sIf (tcOr (tcNot (tcVal (cIsi1 "int" (cVar 2)))) (tcOr (tcVal (cIsi1 "bool" (cVar 2))) (tcNot (tcChain .LtE .Lt (cVal (.int 0)) (cVar 2) (cVar 1))))) (sSeq (sRet (cVal (.bl false)))
    sSkip) sSkip)
    sSkip) us [some (.tup ws), some (.int n), a2, none] h = .ret (.bl false) h) := by
    intro us
    induction us with
    | nil => exact fun a2 _ => .inl ⟨rfl, a2, forL_nil (gdOk_nil _)⟩
    | cons w us ih =>
      intro a2 lf
      rw [List.all_cons] at lf
      obtain ⟨lw, lu⟩ := Bool.and_eq_true_iff.mp lf
      by_cases c : inCh n w = true
      · obtain ⟨x, e, x0, x1⟩ := inCh_int c
        subst e
        rcases ih (some (.int x)) lu with ⟨i1, a2', i2⟩ | ⟨i1, i2⟩
        · exact .inl ⟨by rw [List.all_cons, c, i1]; rfl, a2', forL_step (gdOk_nil _) (bind_nm _ _ _) (by simp [x0, x1]) i2⟩
        · exact .inr ⟨by rw [List.all_cons, i1, Bool.and_false], forL_step (gdOk_nil _) (bind_nm _ _ _) (by simp [x0, x1]) i2⟩
      · have c' : inCh n w = false := Bool.eq_false_iff.mpr c
        refine .inr ⟨by rw [List.all_cons, c']; rfl, forL_ret (gdOk_nil _) (bind_nm _ _ _) ?_⟩
        cases w with
        | int x =>
          by_cases c0 : 0 ≤ x
          · have c1 : ¬ x < n := by
              unfold inCh at c'
              simp [c0] at c'
              omega
            simp [c0, c1]
          · simp [c0]
        | bl b => simp
        | str x => simp
        | non => simp
        | _ => cases lw
  rw [k__law_is_choice]
  rcases loop ws none lf with ⟨c, a2', lp⟩ | ⟨c, lp⟩
  · have e : isCh n ws = (List.zip ws (ws.drop 1)).all ltW := by
      unfold isCh
      rw [c, Bool.true_and]
    have r1 : rng1 [.int ((ws.length : Int) - 1)] = some ((List.range (ws.length - 1)).map iw) := by
      cases ws with
      | nil => rfl
      | cons w ws =>
        have := rng1_nat (n := ws.length) (by rw [List.length_cons] at hl; exact Nat.lt_of_le_of_lt (show ws.length ≤ 1000 by omega) (by decide))
        rw [List.length_cons, Nat.add_sub_cancel]
        have z : ((ws.length + 1 : Nat) : Int) - 1 = (ws.length : Int) := by omega
        rw [z]
        exact this
    have cm : compL [] (.nm 3) cTrue (cCmp .Lt (cIx (cVar 0) (cVar 3)) (cIx (cVar 0) (cBin (decide (32 ≤ k)) .Add (cVar 3) (cVal (.int 1))))) [some (.tup ws), some (.int n), a2', none] ((List.range (ws.length - 1)).map iw) [] h = .ok ((List.zip ws (ws.drop 1)).map fun p => .bl (ltW p)) h := by
      have ez : (List.zip ws (ws.drop 1)).map (fun p => W.bl (ltW p)) = (List.range (ws.length - 1)).map fun i => W.bl (ltW ((ws[i]?).getD .non, (ws[i + 1]?).getD .non)) := by
        refine List.ext_getElem (by simp) fun i h1 h2 => ?_
        simp at h1 h2
        simp [List.getElem?_eq_getElem (show i < ws.length by omega), List.getElem?_eq_getElem (show i + 1 < ws.length by omega), Nat.add_comm 1 i]
      rw [ez]
      refine comp_map _ (by rw [List.length_range]; exact Nat.le_trans (Nat.sub_le _ _) (Nat.le_trans hl (by decide))) fun i hi => ?_
      have hi := List.mem_range.mp hi
      obtain ⟨m1, m2⟩ := get_dd W.non (show i < ws.length by omega)
      obtain ⟨m3, m4⟩ := get_dd W.non (show i + 1 < ws.length by omega)
      obtain ⟨a, ea, _⟩ := inCh_int (List.all_eq_true.mp c _ m2)
      obtain ⟨b, eb, _⟩ := inCh_int (List.all_eq_true.mp c _ m4)
      have i1 : atI ws (i : Int) = some (.int a) := (Wv.atI_nat (by omega)).trans (m1.trans (congrArg some ea))
      have i2 : atI ws ((i : Int) + 1) = some (.int b) := by
        have := Wv.atI_nat (l := ws) (j := i + 1) (by omega)
        exact this.trans (m3.trans (congrArg some eb))
      rw [ea, eb]
      refine ⟨_, bind_nm _ _ _, rfl, ?_⟩
      simp only [iw]
      simp [i1, i2, ltW]
    rw [e]
    have al := all_map ltW (List.zip ws (ws.drop 1)) h
    generalize (List.zip ws (ws.drop 1)).map (fun p => W.bl (ltW p)) = Z2 at *
    generalize (List.range (ws.length - 1)).map iw = Y at *
    simp [b__law_is_choice, startR, lp, r1, cm, al, cutR_same]
  · have e : isCh n ws = false := by
      unfold isCh
      rw [c, Bool.false_and]
    rw [e]
    simp [b__law_is_choice, startR, lp, cutR_same]
end K01
end
section
set_option Elab.async false
set_option linter.all false
set_option maxRecDepth 100000
set_option maxHeartbeats 2000000
namespace K01
open PySem PySem.Spec Wv L2
/-! ### the law picks -/
theorem pick_loop {k S L F : Nat} {h0 : Store} (a0 : StAt h0 S) (hL : h0.length ≤ L) (hF : h0.length ≤ F) (ne : L ≠ F) {e1 e2 : Option W} : ∀ (is : List Nat) (ls fs : List Nat) (a5 : Option W) (H : Store), Kept h0 H S → own? H L = some (ls.map iw) → own? H F = some (fs.map iw) → is.length ≤ ls.length → ls.length + fs.length ≤ 900 →
    ∃ (gs : List Nat) (a5' : Option W) (H' : Store), forL [] (.nm 5) (sSeq (sExpr (cApp (cVar 4) (cPop (cVar 3) (cCall (callK prg (k + 1)) 2 "_law_take" (cCons (cVar 0) (cCons (cV1 lenV (cVar 3)) cNil)))))) sSkip) (is.map iw) [some (.ref S), e1, e2, some (.ref L), some (.ref F), a5] H = .next [some (.ref S), e1, e2, some (.ref L), some (.ref F), a5'] H' ∧ Kept h0 H' S ∧ own? H' F = some (gs.map iw) ∧ gs.length = fs.length + is.length
  | [], ls, fs, a5, H, K, oL, oF, _, _ => ⟨fs, a5, H, forL_nil (gdOk_nil _), K, oF, rfl⟩
  | i :: is, ls, fs, a5, H, K, oL, oF, hl, hs => by
    rw [List.length_cons] at hl
    have sL := a0.lt
    obtain ⟨v, s0, s1, v0, v1, c1⟩ := c_take (K := k) (m := (ls.length : Int)) (K.at_ a0) (by omega) (by omega)
    have K1 := K.two a0 s0 s1
    have oL1 := own_other (n := S) (o := twoN s0 s1) oL (by omega)
    have oF1 := own_other (n := S) (o := twoN s0 s1) oF (by omega)
    generalize H.set S (twoN s0 s1) = H1 at c1 K1 oL1 oF1
    obtain ⟨x, rfl⟩ := Int.eq_ofNat_of_zero_le v0
    have hx : x < ls.length := by omega
    have K2 := K1.put hL (.lst ((ls.eraseIdx x).map iw))
    have oL2 := own_set (ws := (ls.eraseIdx x).map iw) oL1
    have oF2 := own_other (n := L) (o := .lst ((ls.eraseIdx x).map iw)) oF1 ne
    have e2' : (ls.map iw).eraseIdx x = (ls.eraseIdx x).map iw := by
      rw [List.eraseIdx_eq_take_drop_succ, List.eraseIdx_eq_take_drop_succ, List.map_append, List.map_take, List.map_drop]
    obtain ⟨H2, hH2⟩ : ∃ H2, H2 = H1.set L (.lst ((ls.eraseIdx x).map iw)) := ⟨_, rfl⟩
    rw [← hH2] at K2 oL2 oF2
    have K3 := K2.put hF (.lst ((fs ++ [ls[x]]).map iw))
    have oL3 := own_other (n := F) (o := .lst ((fs ++ [ls[x]]).map iw)) oL2 (by omega)
    have oF3 := own_set (ws := (fs ++ [ls[x]]).map iw) oF2
    obtain ⟨H3, hH3⟩ : ∃ H3, H3 = H2.set F (.lst ((fs ++ [ls[x]]).map iw)) := ⟨_, rfl⟩
    rw [← hH3] at K3 oL3 oF3
    obtain ⟨gs, a5', H', f1, K4, oF4, lg⟩ := pick_loop a0 hL hF ne is (ls.eraseIdx x) (fs ++ [ls[x]]) (some (iw i)) H3 K3 oL3 oF3 (by rw [List.length_eraseIdx]; split <;> omega) (by rw [List.length_eraseIdx, List.length_append]; simp; split <;> omega)
    refine ⟨gs, a5', H', forL_step (gdOk_nil _) (bind_nm _ _ _) ?_ f1, K4, oF4, by rw [lg, List.length_append, List.length_cons]; simp; omega⟩
    have lrF := (lst_of_own oF).2.2.2.1
    have lrL := (lst_of_own oL).2.2.2.1
    have lnL := (lst_of_own oL).2.2.1
    rw [List.length_map] at lnL
    have gx : (ls.map iw)[x]? = some (iw ls[x]) := by
      rw [List.getElem?_map, List.getElem?_eq_getElem hx]
      rfl
    have x9 : (x : Int) < 1000000000 := by omega
    have lf : (fs.map iw).length < 16777216 := by
      rw [List.length_map]
      exact Nat.lt_of_le_of_lt (show fs.length ≤ 900 by omega) (by decide)
    have ap : fs.map iw ++ [iw ls[x]] = (fs ++ [ls[x]]).map iw := by
      rw [List.map_append]
      rfl
    have hH2' := hH2
    rw [← e2'] at hH2'
    have hH3' := hH3
    rw [← ap] at hH3'
    generalize ls.map iw = Lw at *
    generalize fs.map iw = Fw at *
    generalize iw ls[x] = u at *
    simp [lrF, lrL, lnL, c1, oL1, x9, gx, ← hH2', oF2, lf, ← hH3']
theorem c_pick {K n k S : Nat} {h : Store} (a : StAt h S) (hn : n ≤ 100) (hk : k ≤ n) : ∃ (ns : List Nat) (N : Nat) (H : Store), callK prg (K + 2) "_law_pick" [.ref S, .int (n : Int), .int (k : Int)] h = .ok (.ref N) H ∧ own? H N = some (ns.map iw) ∧ ns.length = k ∧ Kept h H S := by
  have r1 : rng1 [.int (n : Int)] = some ((List.range n).map iw) := rng1_nat (Nat.lt_of_le_of_lt hn (by decide))
  have r2 : rng1 [.int (k : Int)] = some ((List.range k).map iw) := rng1_nat (Nat.lt_of_le_of_lt (Nat.le_trans hk hn) (by decide))
  have rw1 : rgW (rng1 [.int (n : Int)]) h = .ok ((List.range n).map iw) h := by
    rw [r1]
    unfold rgW
    dsimp only
    rw [if_pos (by rw [List.length_map, List.length_range]; exact Nat.le_trans hn (by decide))]
  have oL0 := own_new h ((List.range n).map iw)
  have oL := own_app (t := [Ob.lst []]) oL0
  have oF := own_new (h ++ [Ob.lst ((List.range n).map iw)]) []
  have lF : (h ++ [Ob.lst ((List.range n).map iw)]).length = h.length + 1 := by simp
  rw [lF] at oF
  have K0 : Kept h (h ++ [Ob.lst ((List.range n).map iw)] ++ [Ob.lst []]) S := ((Kept.old a ⟨[], (List.append_nil h).symm⟩).app _).app _
  obtain ⟨gs, a5', H', f1, K1, oF1, lg⟩ := pick_loop (k := K) (L := h.length) (F := h.length + 1) a (by omega) (by omega) (by omega) (e1 := some (.int (n : Int))) (e2 := some (.int (k : Int))) (List.range k) (List.range n) [] none _ K0 oL oF (by rw [List.length_range, List.length_range]; exact hk) (by rw [List.length_range]; simp; omega)
  refine ⟨gs, h.length + 1, H', ?_, oF1, by rw [lg, List.length_range]; simp, K1⟩
  rw [List.append_assoc] at f1
  generalize (List.range n).map iw = Y1 at *
  generalize (List.range k).map iw = Y2 at *
  rw [k__law_pick]
  simp [b__law_pick, startR, rw1, r2]
  simp at f1
  rw [f1]
  simp
  refine cutR_keep ?_
  simp [belowW]
end K01
end
section
set_option Elab.async false
set_option linter.all false
set_option maxRecDepth 100000
set_option maxHeartbeats 2000000
namespace K01
open PySem PySem.Spec Wv L2
theorem ch_nats {n : Int} : ∀ {ws : List W}, ws.all (inCh n) = true → ∃ ns : List Nat, ws = ns.map iw ∧ ∀ x ∈ ns, (x : Int) < n
  | [], _ => ⟨[], rfl, fun x hx => nomatch hx⟩
  | w :: ws, h => by
    rw [List.all_cons] at h
    obtain ⟨h1, h2⟩ := Bool.and_eq_true_iff.mp h
    obtain ⟨x, e, x0, x1⟩ := inCh_int h1
    obtain ⟨ns, e2, hn⟩ := ch_nats h2
    obtain ⟨y, rfl⟩ := Int.eq_ofNat_of_zero_le x0
    refine ⟨y :: ns, by rw [e, e2]; rfl, fun z hz => ?_⟩
    rcases List.mem_cons.mp hz with q | q
    · rw [q]
      exact x1
    · exact hn z q
def partM (T : List (List Fr)) (is js : List Nat) : List (List Fr) := is.map fun i => js.map fun j => (((T[i]?).getD [])[j]?).getD (0, 1)
/-- the rows of the part, by a comprehension (the program's and the law's) -/
theorem part_comp {L q : Nat} {T : List (List Fr)} (m : Mat L q T) {is js : List Nat} (hi : ∀ i ∈ is, i < T.length) (hj : ∀ j ∈ js, j < q) (li : is.length ≤ 1000) (lj : js.length ≤ 1000) {H : Store} {ρ0 : Rho} {sT sJ si sj : Nat} (hT : ρ0[sT]? = some (some (tw T))) (hJ : ρ0[sJ]? = some (some (.tup (js.map iw)))) (h1 : si < ρ0.length) (h2 : sj < ρ0.length) (n1 : sT ≠ si) (n2 : sT ≠ sj) (n3 : sJ ≠ si) (n5 : si ≠ sj) :
    compL [] (.nm si) cTrue (cQ1 tupQ (cSeqF (cComp (cItV (cVar sJ)) [sj] (.nm sj) cTrue (cIx (cIx (cVar sT) (cVar si)) (cVar sj))))) ρ0 (is.map iw) [] H = .ok ((partM T is js).map rw) H := by
  unfold partM
  rw [List.map_map]
  refine comp_map is (Nat.le_trans li (by decide)) fun i hi2 => ?_
  obtain ⟨row, e1, e2, e3, e4⟩ := m.row (hi i hi2)
  have ci : compL [] (.nm sj) cTrue (cIx (cIx (cVar sT) (cVar si)) (cVar sj)) ((ρ0.set si (some (iw i))).set sj none) (js.map iw) [] H = .ok ((js.map fun j => (row[j]?).getD (0, 1)).map fw) H := by
    rw [List.map_map]
    refine comp_map js (Nat.le_trans lj (by decide)) fun j hj2 => ?_
    obtain ⟨m1, m2⟩ := get_d (show j < row.length by rw [e3]; exact hj j hj2)
    have i1 : ixW H (tw T) (iw i) = some (rw row) := atI_map e1
    have i2 : ixW H (rw row) (iw j) = some (fw ((row[j]?).getD (0, 1))) := atI_map m1
    have g1 : (((ρ0.set si (some (iw i))).set sj none).set sj (some (iw j)))[sT]? = some (some (tw T)) := by
      rw [List.getElem?_set_ne n2.symm, List.getElem?_set_ne n2.symm, List.getElem?_set_ne n1.symm, hT]
    have g2 : (((ρ0.set si (some (iw i))).set sj none).set sj (some (iw j)))[si]? = some (some (iw i)) := by
      rw [List.getElem?_set_ne n5.symm, List.getElem?_set_ne n5.symm, List.getElem?_set_self h1]
    have g3 : (((ρ0.set si (some (iw i))).set sj none).set sj (some (iw j)))[sj]? = some (some (iw j)) := by
      rw [List.getElem?_set_self (by rw [List.length_set, List.length_set]; exact h2)]
    refine ⟨_, bind_nm _ _ _, rfl, ?_⟩
    simp only [a_ix, a_var, g1, g2, g3]
    show ((match ixW H (tw T) (iw i) with
      | some w => Out.ok w H
      | none => .bad).bind _) = _
    rw [i1]
    show (match ixW H (rw row) (iw j) with
      | some w => Out.ok w H
      | none => .bad) = _
    rw [i2]
    rfl
  have gJ : (ρ0.set si (some (iw i)))[sJ]? = some (some (.tup (js.map iw))) := by
    rw [List.getElem?_set_ne n3.symm, hJ]
  refine ⟨_, bind_nm _ _ _, rfl, ?_⟩
  show _ = Out.ok (rw (js.map fun j => (((T[i]?).getD [])[j]?).getD (0, 1))) H
  rw [e2]
  show _ = Out.ok (W.tup ((js.map fun j => (row[j]?).getD (0, 1)).map fw)) H
  generalize (js.map fun j => (row[j]?).getD (0, 1)).map fw = Z at *
  generalize js.map iw = Yj at *
  simp only [a_q1, a_seqF, a_comp, a_itV, a_var, gJ]
  show (((compL [] (.nm sj) cTrue (cIx (cIx (cVar sT) (cVar si)) (cVar sj)) (wipeR (ρ0.set si (some (iw i))) [sj]) Yj [] H).bind _).bind _) = _
  rw [wipe_cons, wipe_nil, ci]
  rfl
theorem c_partof (k : Nat) {L q : Nat} {T : List (List Fr)} (m : Mat L q T) {is js : List Nat} (hi : ∀ i ∈ is, i < T.length) (hj : ∀ j ∈ js, j < q) (li : is.length ≤ 1000) (lj : js.length ≤ 1000) (H : Store) : callK prg (k + 1) "part_of" [tw T, .tup (is.map iw), .tup (js.map iw)] H = .ok (tw (partM T is js)) H := by
  have pc := part_comp m hi hj li lj (H := H) (ρ0 := [some (tw T), some (.tup (is.map iw)), some (.tup (js.map iw)), none, none]) (sT := 0) (sJ := 2) (si := 3) (sj := 4) rfl rfl (by simp) (by simp) (by decide) (by decide) (by decide) (by decide)
  obtain ⟨Z, hZ⟩ : ∃ Z, Z = (partM T is js).map rw := ⟨_, rfl⟩
  rw [← hZ] at pc
  have fin : cutR H (.tup Z) H = .ok (tw (partM T is js)) H := by
    rw [hZ]
    exact ret_tw _ _
  generalize is.map iw = Yi at *
  generalize js.map iw = Yj at *
  generalize tw T = Tw at *
  rw [k_part_of]
  simp [b_part_of, startR, pc, fin]
/-! ### table_part -/
def ChOk (H : Store) (n : Int) (w : W) (b : Bool) : Prop := (∀ k, callK prg (k + 2) "is_choice" [w, .int n] H = .ok (.bl b) H) ∧ ∀ k, callK prg (k + 1) "_law_is_choice" [w, .int n] H = .ok (.bl b) H
section
variable {i L q : Nat} {T : List (List Fr)} {I J : W} {H : Store} (t : Tab L q T) (hL : L ≤ 20000) (hw : wd T = q)
include t hL hw
theorem c_chk_ok (cI : ChOk H T.length I true) (cJ : ChOk H q J true) : callK prg (i + 5) "check_choices" [tw T, I, J] H = .ok .non H := by
  have c1 := c_check i H (by omega) t
  have c2 := c_wd (i + 3) T H
  rw [hw] at c2
  have lt := len_tw T H
  rw [k_check_choices]
  simp [b_check_choices, startR, c1, c2, lt, cI.1 (i + 2), cJ.1 (i + 2), cutR_same]
theorem c_chk_x1 (cI : ChOk H T.length I false) : callK prg (i + 5) "check_choices" [tw T, I, J] H = malX H := by
  have c1 := c_check i H (by omega) t
  have lt := len_tw T H
  rw [k_check_choices]
  simp [b_check_choices, startR, c1, lt, cI.1 (i + 2), cutX_same]
theorem c_chk_x2 (cI : ChOk H T.length I true) (cJ : ChOk H q J false) : callK prg (i + 5) "check_choices" [tw T, I, J] H = malX H := by
  have c1 := c_check i H (by omega) t
  have c2 := c_wd (i + 3) T H
  rw [hw] at c2
  have lt := len_tw T H
  rw [k_check_choices]
  simp [b_check_choices, startR, c1, c2, lt, cI.1 (i + 2), cJ.1 (i + 2), cutX_same]
theorem c_part_x1 (cI : ChOk H T.length I false) : callK prg (i + 6) "table_part" [tw T, I, J] H = malX H := by
  rw [k_table_part]
  simp [b_table_part, startR, c_chk_x1 t hL hw (J := J) (i := i) cI, cutX_same]
theorem c_part_x2 (cI : ChOk H T.length I true) (cJ : ChOk H q J false) : callK prg (i + 6) "table_part" [tw T, I, J] H = malX H := by
  rw [k_table_part]
  simp [b_table_part, startR, c_chk_x2 t hL hw (i := i) cI cJ, cutX_same]
theorem c_part_x3 {is js : List Nat} (cI : ChOk H T.length (.tup (is.map iw)) true) (cJ : ChOk H q (.tup (js.map iw)) true) (ne : ((is.length : Int) == 0) ≠ ((js.length : Int) == 0)) : callK prg (i + 6) "table_part" [tw T, .tup (is.map iw), .tup (js.map iw)] H = malX H := by
  have ck := c_chk_ok t hL hw (i := i) cI cJ
  have l1 : lenV (.tup (is.map iw)) H = some (.int (is.length : Int), H) := by rw [s_lent, List.length_map]
  have l2 : lenV (.tup (js.map iw)) H = some (.int (js.length : Int), H) := by rw [s_lent, List.length_map]
  have ne2 : (((is.length : Int) == 0) == ((js.length : Int) == 0)) = false := by simpa using ne
  have nb : cmpW .NotEq (.bl ((is.length : Int) == 0)) (.bl ((js.length : Int) == 0)) H = some true := by
    show (cmpW .Eq (.bl ((is.length : Int) == 0)) (.bl ((js.length : Int) == 0)) H).map (!·) = _
    rw [s_eq_b, ne2]
    rfl
  generalize W.tup (is.map iw) = Wi at *
  generalize W.tup (js.map iw) = Wj at *
  generalize (is.length : Int) = a at *
  generalize (js.length : Int) = b at *
  rw [k_table_part]
  simp only [List.length_cons, List.length_nil, if_true]
  unfold b_table_part
  simp only [a_seq, a_expr, a_call, a_cons, a_nil, a_var, startR]
  simp [ck, l1, l2, cutX_same, -beq_iff_eq, -Int.natCast_eq_zero, nb]
theorem c_part {is js : List Nat} (m1 : 1 ≤ T.length) (cI : ChOk H T.length (.tup (is.map iw)) true) (cJ : ChOk H q (.tup (js.map iw)) true) (hi : ∀ x ∈ is, x < T.length) (hj : ∀ x ∈ js, x < q) (li : is.length ≤ 1000) (lj : js.length ≤ 1000) (ee : ((is.length : Int) == 0) = ((js.length : Int) == 0)) : callK prg (i + 6) "table_part" [tw T, .tup (is.map iw), .tup (js.map iw)] H = .ok (tw (partM T is js)) H := by
  have ck := c_chk_ok t hL hw (i := i) cI cJ
  have cp := c_partof (i + 4) ⟨t.len, t.good⟩ hi hj li lj H
  have l1 : lenV (.tup (is.map iw)) H = some (.int (is.length : Int), H) := by rw [s_lent, List.length_map]
  have l2 : lenV (.tup (js.map iw)) H = some (.int (js.length : Int), H) := by rw [s_lent, List.length_map]
  have nb : cmpW .NotEq (.bl ((is.length : Int) == 0)) (.bl ((js.length : Int) == 0)) H = some false := by
    show (cmpW .Eq (.bl ((is.length : Int) == 0)) (.bl ((js.length : Int) == 0)) H).map (!·) = _
    rw [s_eq_b, ee]
    simp
  generalize W.tup (is.map iw) = Wi at *
  generalize W.tup (js.map iw) = Wj at *
  generalize (is.length : Int) = a at *
  generalize (js.length : Int) = b at *
  rw [k_table_part]
  simp [b_table_part, startR, ck, l1, l2, nb, cp, cutR_same]
end
end K01
end
section
set_option Elab.async false
set_option linter.all false
set_option maxRecDepth 100000
set_option maxHeartbeats 2000000
namespace K01
open PySem PySem.Spec Wv L2
structure PairOk (H : Store) (p q : Nat) (I J : W) : Prop where
  ex : ∃ bI bJ, ChOk H p I bI ∧ ChOk H q J bJ ∧ (bI = true → ∃ is : List Nat, I = .tup (is.map iw) ∧ (∀ x ∈ is, x < p) ∧ is.length ≤ 100) ∧ (bJ = true → ∃ js : List Nat, J = .tup (js.map iw) ∧ (∀ x ∈ js, x < q) ∧ js.length ≤ 100)
theorem ch_leaf {H : Store} {n : Nat} {ws : List W} (hl : ws.length ≤ 100) (lf : ws.all leafW = true) : ∃ b, ChOk H n (.tup ws) b ∧ (b = true → ∃ is : List Nat, W.tup ws = .tup (is.map iw) ∧ (∀ x ∈ is, x < n) ∧ is.length ≤ 100) := by
  refine ⟨isCh n ws, ⟨fun k => c_choice k H (by omega) lf, fun k => c_lchoice k H (by omega) lf⟩, fun e => ?_⟩
  unfold isCh at e
  obtain ⟨e1, _⟩ := Bool.and_eq_true_iff.mp e
  obtain ⟨ns, e2, hn⟩ := ch_nats e1
  refine ⟨ns, by rw [e2], fun x hx => ?_, ?_⟩
  · have := hn x hx
    omega
  · rw [e2, List.length_map] at hl
    exact hl
theorem ch_none {H : Store} {n : Nat} {w : W} {t : String} (ty : tyW H w = some t) (nt : isOne t "tuple" = some false) : ∃ b, ChOk H n w b ∧ (b = true → ∃ is : List Nat, w = .tup (is.map iw) ∧ (∀ x ∈ is, x < n) ∧ is.length ≤ 100) := ⟨false, ⟨fun k => c_choice_no k H ty nt, fun k => c_lchoice_no k H ty nt⟩, fun e => nomatch e⟩
theorem pair_of {H : Store} {p q : Nat} {I J : W} (a : ∃ b, ChOk H p I b ∧ (b = true → ∃ is : List Nat, I = .tup (is.map iw) ∧ (∀ x ∈ is, x < p) ∧ is.length ≤ 100)) (b : ∃ b, ChOk H q J b ∧ (b = true → ∃ js : List Nat, J = .tup (js.map iw) ∧ (∀ x ∈ js, x < q) ∧ js.length ≤ 100)) : PairOk H p q I J := by
  obtain ⟨bI, cI, tI⟩ := a
  obtain ⟨bJ, cJ, tJ⟩ := b
  exact ⟨bI, bJ, cI, cJ, tI, tJ⟩
theorem part_dep {T : List (List Fr)} {is js : List Nat} (li : is.length ≤ 1000) (lj : js.length ≤ 1000) : dep 5 (tw (partM T is js)) = true := by
  unfold partM
  refine dep_tw (by rw [List.length_map]; exact li) fun r hr => ?_
  obtain ⟨i, _, rfl⟩ := List.mem_map.mp hr
  rw [List.length_map]
  exact lj
noncomputable def partBody (i : Nat) : DenS := sSeq (sAsg (cAnd (cCall (callK prg (i + 8)) 2 "_law_is_choice" (cCons (cVar 6) (cCons (cVar 2) cNil))) (cAnd (cCall (callK prg (i + 8)) 2 "_law_is_choice" (cCons (cVar 7) (cCons (cVar 3) cNil))) (cCmp .Eq (cCmp .Eq (cV1 lenV (cVar 6)) (cVal (.int 0))) (cCmp .Eq (cV1 lenV (cVar 7)) (cVal (.int 0)))))) (gNm 8))
    (sSeq (sIf (tcAnd (tcVal (cVar 8)) (tcNot (tcVal (cCall (callK prg (i + 8)) 3 "_law_tells" (cCons (cVal (.glo "table_part")) (cCons (cTup (cCons (cVar 1) (cCons (cVar 6) (cCons (cVar 7) cNil)))) (cCons (cQ1 tupQ (cSeqF (cComp (cItV (cVar 6)) [9] (.nm 9) cTrue (cQ1 tupQ (cSeqF (cComp (cItV (cVar 7)) [10] (.nm 10) cTrue (cIx (cIx (cVar 1) (cVar 9)) (cVar 10)))))))) cNil))))))) (sSeq (sRet (cVal (.bl false)))
    sSkip) sSkip)
    (sSeq (sIf (tcAnd (tcNot (tcVal (cVar 8))) (tcNot (tcVal (cCall (callK prg (i + 8)) 3 "_law_raises" (cCons (cVal (.glo "table_part")) (cCons (cTup (cCons (cVar 1) (cCons (cVar 6) (cCons (cVar 7) cNil)))) (cCons (cVal (.str "malformed")) cNil))))))) (sSeq (sRet (cVal (.bl false)))
    sSkip) sSkip)
    sSkip))
theorem part_turn {i L p q : Nat} (i1 : 1 ≤ i) {T : List (List Fr)} {I J : W} {H : Store} (t : Tab L q T) (hL : L ≤ 20000) (hw : wd T = q) (hp : T.length = p) (p1 : 1 ≤ p) (pr : PairOk H p q I J) {e0 e4 e5 a8 : Option W} :
    ∃ a8', partBody i [e0, some (tw T), some (.int (p : Int)), some (.int (q : Int)), e4, e5, some I, some J, a8, none, none] H = .next [e0, some (tw T), some (.int (p : Int)), some (.int (q : Int)), e4, e5, some I, some J, a8', none, none] H := by
  subst hp
  obtain ⟨bI, bJ, cI, cJ, tI, tJ⟩ := pr.ex
  have l1 := cI.2 (i + 7)
  have l2 := cJ.2 (i + 7)
  have no : ∀ (x : callK prg (i + 6) "table_part" [tw T, I, J] H = malX H), callK prg (i + 8) "_law_raises" [.glo "table_part", .tup [tw T, I, J], .str "malformed"] H = .ok (.bl true) H := fun x => c_raises (j := i + 5) (c_told3x d_table_part (f_table_part _ _ _) x)
  cases bI with
  | false =>
    have r := no (c_part_x1 t hL hw (i := i) cI)
    refine ⟨some (.bl false), ?_⟩
    unfold partBody
    simp [l1, r]
  | true =>
    cases bJ with
    | false =>
      have r := no (c_part_x2 t hL hw (i := i) cI cJ)
      refine ⟨some (.bl false), ?_⟩
      unfold partBody
      simp [l1, l2, r]
    | true =>
      obtain ⟨is, rfl, hi, li⟩ := tI rfl
      obtain ⟨js, rfl, hj, lj⟩ := tJ rfl
      have n1 : lenV (.tup (is.map iw)) H = some (.int (is.length : Int), H) := by rw [s_lent, List.length_map]
      have n2 : lenV (.tup (js.map iw)) H = some (.int (js.length : Int), H) := by rw [s_lent, List.length_map]
      by_cases ee : ((is.length : Int) == 0) = ((js.length : Int) == 0)
      · have cp := c_part t hL hw (i := i) p1 cI cJ hi hj (by omega) (by omega) ee
        have te : callK prg (i + 8) "_law_tells" [.glo "table_part", .tup [tw T, .tup (is.map iw), .tup (js.map iw)], tw (partM T is js)] H = .ok (.bl true) H := by
          exact c_tells (j := i + 5) (by omega) (c_told3 d_table_part (f_table_part _ _ _) cp) (part_dep (by omega) (by omega))
        have pc := part_comp ⟨t.len, t.good⟩ hi hj (by omega) (by omega) (H := H) (ρ0 := [e0, some (tw T), some (.int (T.length : Int)), some (.int (q : Int)), e4, e5, some (.tup (is.map iw)), some (.tup (js.map iw)), some (.bl true), none, none]) (sT := 1) (sJ := 7) (si := 9) (sj := 10) rfl rfl (by simp) (by simp) (by decide) (by decide) (by decide) (by decide)
        have et : tw (partM T is js) = .tup ((partM T is js).map rw) := rfl
        rw [et] at te
        have it : itOf H (.tup (is.map iw)) = some (is.map iw, []) := rfl
        have eb : cmpW .Eq (.bl ((is.length : Int) == 0)) (.bl ((js.length : Int) == 0)) H = some true := by
          rw [s_eq_b, ee]
          simp
        refine ⟨some (.bl true), ?_⟩
        unfold partBody
        generalize (partM T is js).map rw = Z at *
        generalize hYi : is.map iw = Yi at *
        generalize W.tup Yi = Wi at *
        generalize W.tup (js.map iw) = Wj at *
        generalize (is.length : Int) = a at *
        generalize (js.length : Int) = b at *
        simp [l1, l2, n1, n2, eb, it, pc, te, -s_eq_b]
      · have r := no (c_part_x3 t hL hw (i := i) cI cJ ee)
        have eb : cmpW .Eq (.bl ((is.length : Int) == 0)) (.bl ((js.length : Int) == 0)) H = some false := by
          rw [s_eq_b]
          exact congrArg some (beq_eq_false_iff_ne.mpr ee)
        refine ⟨some (.bl false), ?_⟩
        unfold partBody
        generalize W.tup (is.map iw) = Wi at *
        generalize W.tup (js.map iw) = Wj at *
        generalize (is.length : Int) = a at *
        generalize (js.length : Int) = b at *
        simp [l1, l2, n1, n2, eb, r, -s_eq_b]
end K01
end
section
set_option Elab.async false
set_option linter.all false
set_option maxRecDepth 100000
set_option maxHeartbeats 2000000
namespace K01
open PySem PySem.Spec Wv L2
theorem part_loop {i L p q : Nat} (i1 : 1 ≤ i) {T : List (List Fr)} {H : Store} (t : Tab L q T) (hL : L ≤ 20000) (hw : wd T = q) (hp : T.length = p) (p1 : 1 ≤ p) {e0 e4 e5 : Option W} : ∀ (ps : List (W × W)) (a6 a7 a8 : Option W), (∀ x ∈ ps, PairOk H p q x.1 x.2) →
    ∃ a6' a7' a8', forL [] (.tp [(.nm 6), (.nm 7)]) (partBody i) (ps.map fun x => .tup [x.1, x.2]) [e0, some (tw T), some (.int (p : Int)), some (.int (q : Int)), e4, e5, a6, a7, a8, none, none] H = .next [e0, some (tw T), some (.int (p : Int)), some (.int (q : Int)), e4, e5, a6', a7', a8', none, none] H
  | [], a6, a7, a8, _ => ⟨a6, a7, a8, forL_nil (gdOk_nil _)⟩
  | (I, J) :: ps, a6, a7, a8, h => by
    obtain ⟨a8', e⟩ := part_turn i1 t hL hw hp p1 (h _ List.mem_cons_self) (e0 := e0) (e4 := e4) (e5 := e5) (a8 := a8)
    obtain ⟨b6, b7, b8, ih⟩ := part_loop i1 t hL hw hp p1 (e0 := e0) (e4 := e4) (e5 := e5) ps (some I) (some J) a8' fun x hx => h x (List.mem_cons_of_mem _ hx)
    exact ⟨b6, b7, b8, forL_step (gdOk_nil _) (bind_tp2 _ _ _ _ _) e ih⟩
theorem sort_len (ns : List Int) : (sortI ns).length = ns.length := by
  unfold sortI
  exact List.length_mergeSort _
theorem ints_leaf (ns : List Int) : (ns.map W.int).all leafW = true := List.all_eq_true.mpr fun w hw => by
  obtain ⟨x, _, rfl⟩ := List.mem_map.mp hw
  rfl
theorem nats_ints (ns : List Nat) : ns.map iw = (ns.map fun n : Nat => (n : Int)).map W.int := by
  rw [List.map_map]
  rfl
theorem cut_leaf {ws : List W} (lo hi : Option Int) (lf : ws.all leafW = true) : (cutW ws lo hi).all leafW = true := List.all_eq_true.mpr fun w hw => by
  unfold cutW at hw
  exact List.all_eq_true.mp lf w (List.mem_of_mem_drop (List.mem_of_mem_take hw))
theorem cut_len (ws : List W) (lo hi : Option Int) : (cutW ws lo hi).length ≤ ws.length := by
  unfold cutW
  rw [List.length_take, List.length_drop]
  omega
theorem c_parts_hold {K L q S : Nat} (hK : 60 ≤ K) {h : Store} (a : StAt h S) {r : List Fr} {T : List (List Fr)} (t : Tab L q (r :: T)) (hL : L ≤ 20000) (p7 : (r :: T).length ≤ 7) (q7 : q ≤ 7) : ∃ s0 s1, callK prg (K + 1) "_law_parts_hold" [.ref S, tw (r :: T)] h = .ok (.bl true) (h.set S (twoN s0 s1)) := by
  obtain ⟨j, rfl⟩ : ∃ z, K = z + 8 := ⟨K - 8, by omega⟩
  have q1 := t.q1
  have p1 : 1 ≤ (r :: T).length := by simp
  have hr : r.length = q := t.len r List.mem_cons_self
  have hw : wd (r :: T) = q := hr
  have lT := len_tw (r :: T)
  have lr := len_rw r
  rw [hr] at lr
  have i0 := fun H => ix_tw0 H r T
  obtain ⟨p, hp⟩ : ∃ p, p = (r :: T).length := ⟨_, rfl⟩
  rw [← hp] at lT p7 p1
  -- rows
  obtain ⟨v, s0, s1, v0, v1, c1⟩ := c_take (K := j + 7) (m := (p : Int)) a (by omega) (by omega)
  have k1 : Kept h (h.set S (twoN s0 s1)) S := (Kept.old a ⟨[], (List.append_nil _).symm⟩).two a s0 s1
  generalize h.set S (twoN s0 s1) = h1 at c1 k1
  obtain ⟨n, rfl⟩ := Int.eq_ofNat_of_zero_le v0
  obtain ⟨ns, N, h2, c2, o2, l2, k2⟩ := c_pick (K := j + 6) (n := p) (k := 1 + n) (k1.at_ a) (by omega) (by omega)
  have k2 : Kept h h2 S := by
    obtain ⟨x, y, z, e⟩ := k2
    rw [e]
    exact (k1.two a x y).app z
  rw [show ((1 + n : Nat) : Int) = 1 + (n : Int) by omega] at c2
  have sq2 := (lst_of_own o2).2.1
  rw [nats_ints] at sq2
  obtain ⟨R, hR⟩ : ∃ R, R = (sortI (ns.map fun n : Nat => (n : Int))).map W.int := ⟨_, rfl⟩
  have si2 := ints_map (ns.map fun n : Nat => (n : Int))
  have lR : R.length ≤ 7 := by
    rw [hR, List.length_map, sort_len, List.length_map]
    omega
  have fR : R.all leafW = true := by
    rw [hR]
    exact ints_leaf _
  -- columns
  obtain ⟨v, s0, s1, v2, v3, c3⟩ := c_take (K := j + 7) (m := (q : Int)) (k2.at_ a) (by omega) (by omega)
  have k3 := k2.two a s0 s1
  generalize h2.set S (twoN s0 s1) = h3 at c3 k3
  obtain ⟨m, rfl⟩ := Int.eq_ofNat_of_zero_le v2
  obtain ⟨ms, N2, h4, c4, o4, l4, k4⟩ := c_pick (K := j + 6) (n := q) (k := 1 + m) (k3.at_ a) (by omega) (by omega)
  have k4 : Kept h h4 S := by
    obtain ⟨x, y, z, e⟩ := k4
    rw [e]
    exact (k3.two a x y).app z
  rw [show ((1 + m : Nat) : Int) = 1 + (m : Int) by omega] at c4
  have sq4 := (lst_of_own o4).2.1
  rw [nats_ints] at sq4
  obtain ⟨C, hC⟩ : ∃ C, C = (sortI (ms.map fun n : Nat => (n : Int))).map W.int := ⟨_, rfl⟩
  have si4 := ints_map (ms.map fun n : Nat => (n : Int))
  have lC : C.length ≤ 7 := by
    rw [hC, List.length_map, sort_len, List.length_map]
    omega
  have fC : C.all leafW = true := by
    rw [hC]
    exact ints_leaf _
  -- the pairs
  have oX := own_new h4 R
  have k5 : Kept h (h4 ++ [Ob.lst R]) S := k4.app _
  obtain ⟨h5, hh5⟩ : ∃ h5, h5 = h4 ++ [Ob.lst R] := ⟨_, rfl⟩
  rw [← hh5] at oX k5
  obtain ⟨D, hD⟩ : ∃ D, D = C ++ cutW C (some (-1)) none := ⟨_, rfl⟩
  have lD : D.length ≤ 100 := by
    have := cut_len C (some (-1)) none
    rw [hD, List.length_append]
    omega
  have fD : D.all leafW = true := by
    rw [hD, List.all_append, fC, cut_leaf _ _ fC]
    rfl
  have tyX : tyW h5 (.ref h4.length) = some "list" := by
    have oX2 := oX
    unfold own? at oX2
    split at oX2
    · rename_i xs e
      show (match h5[h4.length]? with
        | some (.lst _) => some "list"
        | some (.dic _) => some "dict"
        | none => none) = _
      rw [e]
    · cases oX2
  have chR := fun n => ch_leaf (H := h5) (n := n) (show R.length ≤ 100 by omega) fR
  have chC := fun n => ch_leaf (H := h5) (n := n) (show C.length ≤ 100 by omega) fC
  have ch0 := fun n => ch_leaf (H := h5) (n := n) (ws := []) (by decide) rfl
  obtain ⟨b6, b7, b8, lp⟩ := part_loop (i := j) (by omega) (H := h5) t hL hw hp.symm p1 (e0 := some (.ref S)) (e4 := some (.tup R)) (e5 := some (.tup C)) [(.tup R, .tup C), (.tup C, .tup R), (.tup R.reverse, .tup C), (.tup R, .tup D), (.tup [], .tup []), (.tup R, .tup []), (.tup [], .tup C), (.ref h4.length, .tup C), (.tup R, .non), (.tup [.int (p : Int)], .tup C), (.tup R, .tup [.int (q : Int)]), (.tup [.int (-1)], .tup C), (.tup R, .tup [.bl true]), (.tup R, .tup [.str "0"])] none none none (fun x hx => by
    simp only [List.mem_cons, List.not_mem_nil, or_false] at hx
    rcases hx with z | z | z | z | z | z | z | z | z | z | z | z | z | z <;> subst z
    · exact pair_of (chR _) (chC _)
    · exact pair_of (chC _) (chR _)
    · exact pair_of (ch_leaf (by rw [List.length_reverse]; omega) (by rw [List.all_reverse]; exact fR)) (chC _)
    · exact pair_of (chR _) (ch_leaf lD fD)
    · exact pair_of (ch0 _) (ch0 _)
    · exact pair_of (chR _) (ch0 _)
    · exact pair_of (ch0 _) (chC _)
    · exact pair_of (ch_none tyX o_list_tuple) (chC _)
    · exact pair_of (chR _) (ch_none rfl o_NoneType_tuple)
    · exact pair_of (ch_leaf (by simp) rfl) (chC _)
    · exact pair_of (chR _) (ch_leaf (by simp) rfl)
    · exact pair_of (ch_leaf (by simp) rfl) (chC _)
    · exact pair_of (chR _) (ch_leaf (by simp) rfl)
    · exact pair_of (chR _) (ch_leaf (by simp) rfl))
  simp only [List.map_cons, List.map_nil] at lp
  have sl : slW h4 (.tup C) (some (-1)) none = some (.tup (cutW C (some (-1)) none), h4) := rfl
  have ad : ∀ big, opBin big .Add (.tup C) (.tup (cutW C (some (-1)) none)) h4 = some (.tup D, h4) := fun big => by
    have := cut_len C (some (-1)) none
    rw [s_addt, if_pos (Nat.le_trans (show C.length + (cutW C (some (-1)) none).length ≤ 100 by omega) (by decide)), hD]
  obtain ⟨c0, c1', ct⟩ := k5.cut (w := .bl true) rfl
  refine ⟨c0, c1', ?_⟩
  have hR' := hR.symm
  have hC' := hC.symm
  have hh5' := hh5.symm
  unfold partBody at lp
  generalize ns.map (fun n : Nat => (n : Int)) = nI at *
  generalize ms.map (fun n : Nat => (n : Int)) = mI at *
  clear hR hC hh5 hD
  generalize tw (r :: T) = Tw at *
  rw [k__law_parts_hold]
  simp [b__law_parts_hold, startR, lT, i0, lr, c1, c2, sq2, si2, hR', c3, c4, sq4, si4, hC', hh5', sl, ad, lp, ct, -s_addt]
end K01
end
section
set_option Elab.async false
set_option linter.all false
set_option maxRecDepth 100000
set_option maxHeartbeats 0
namespace K01
open PySem PySem.Spec Wv L2
/-! ### powers that are known -/
def goodB (x : Fr) : Bool := decide (x.1.natAbs < 2 ^ 400) && (decide (x.2.natAbs < 2 ^ 400) && (decide (0 < x.2) && decide (Int.gcd x.1 x.2 = 1)))
def smallB (n : Nat) (P : List (List Fr)) : Bool := P.all fun r => decide (r.length = n) && r.all goodB
theorem small_mat {n : Nat} {P : List (List Fr)} (h : smallB n P = true) : Mat 400 n P := by
  have z := List.all_eq_true.mp h
  refine ⟨fun r hr => ?_, fun r hr x hx => ?_⟩
  · obtain ⟨a, _⟩ := Bool.and_eq_true_iff.mp (z r hr)
    exact of_decide_eq_true a
  · obtain ⟨_, b⟩ := Bool.and_eq_true_iff.mp (z r hr)
    have y := List.all_eq_true.mp b x hx
    unfold goodB at y
    obtain ⟨y1, y⟩ := Bool.and_eq_true_iff.mp y
    obtain ⟨y2, y⟩ := Bool.and_eq_true_iff.mp y
    obtain ⟨y3, y4⟩ := Bool.and_eq_true_iff.mp y
    have z1 : x.1.natAbs < 2 ^ 400 := of_decide_eq_true y1
    have z2 : x.2.natAbs < 2 ^ 400 := of_decide_eq_true y2
    exact ⟨z1, z2, of_decide_eq_true y3, of_decide_eq_true y4⟩
def runP (T : List (List Fr)) (n : Nat) (due : Nat → List (List Fr)) : Nat → Nat → List (List Fr) → Bool
  | 0, i, P => decide (i < 58) || decide (P = due i)
  | k + 1, i, P => smallB n P && ((decide (i < 58) || decide (P = due i)) && runP T n due k (i + 1) (mulM P T n))
theorem run_ok {T : List (List Fr)} {n : Nat} {due : Nat → List (List Fr)} : ∀ (k i : Nat), runP T n due k i (powM T n i) = true → (∀ j, i ≤ j → j < i + k → Mat 400 n (powM T n j)) ∧ ∀ j, i ≤ j → j ≤ i + k → 58 ≤ j → powM T n j = due j
  | 0, i, h => by
    unfold runP at h
    refine ⟨fun j h1 h2 => by omega, fun j h1 h2 h3 => ?_⟩
    have e : j = i := by omega
    subst e
    rcases Bool.or_eq_true_iff.mp h with z | z
    · have := of_decide_eq_true z
      omega
    · exact of_decide_eq_true z
  | k + 1, i, h => by
    unfold runP at h
    obtain ⟨h1, h⟩ := Bool.and_eq_true_iff.mp h
    obtain ⟨h2, h3⟩ := Bool.and_eq_true_iff.mp h
    obtain ⟨a, b⟩ := run_ok k (i + 1) h3
    refine ⟨fun j j1 j2 => ?_, fun j j1 j2 j3 => ?_⟩
    · by_cases c : j = i
      · subst c
        exact small_mat h1
      · exact a j (by omega) (by omega)
    · by_cases c : j = i
      · subst c
        rcases Bool.or_eq_true_iff.mp h2 with z | z
        · have := of_decide_eq_true z
          omega
        · exact of_decide_eq_true z
      · exact b j (by omega) (by omega) j3
def turnT : List (List Fr) := [[(0, 1), (1, 1), (0, 1)], [(0, 1), (0, 1), (1, 1)], [(1, 1), (0, 1), (0, 1)]]
/-- the turn, e times -/
def turnE (e : Nat) : List (List Fr) := (List.range 3).map fun i : Nat => (List.range 3).map fun j : Nat => if ((j : Int) - (i : Int) - (e : Int)).fmod 3 = 0 then (1, 1) else (0, 1)
theorem turn_run : runP turnT 3 turnE 60 0 (powM turnT 3 0) = true := by decide +kernel
def jumpM (a : Fr) : List (List Fr) := [[a, (1, 1)], [(0, 1), a]]
def timesF (xs : List Fr) : Fr := xs.foldl mulF (1, 1)
def jumpE (a : Fr) (e : Nat) : List (List Fr) := [[mulF (timesF (List.replicate (e - 1) a)) a, mulF (timesF (List.replicate (e - 1) a)) ((e : Int), 1)], [(0, 1), mulF (timesF (List.replicate (e - 1) a)) a]]
theorem jump_runs : ∀ n ∈ List.range 15, ∀ d ∈ List.range 7, Int.gcd ((n : Int) - 7) ((d : Int) + 1) = 1 → runP (jumpM ((n : Int) - 7, (d : Int) + 1)) 2 (jumpE ((n : Int) - 7, (d : Int) + 1)) 60 0 (powM (jumpM ((n : Int) - 7, (d : Int) + 1)) 2 0) = true := by decide +kernel
theorem jump_run {a : Fr} (g : Good 3 a) : runP (jumpM a) 2 (jumpE a) 60 0 (powM (jumpM a) 2 0) = true := by
  obtain ⟨x, y⟩ := a
  have h1 : x.natAbs < 8 := g.n
  have h2 : y.natAbs < 8 := g.d
  have h3 : 0 < y := g.pos
  have h4 : Int.gcd x y = 1 := g.one
  obtain ⟨n, hn⟩ : ∃ n : Nat, x = (n : Int) - 7 := ⟨(x + 7).toNat, by omega⟩
  obtain ⟨d, hd⟩ : ∃ d : Nat, y = (d : Int) + 1 := ⟨(y - 1).toNat, by omega⟩
  have := jump_runs n (List.mem_range.mpr (by omega)) d (List.mem_range.mpr (by omega))
  rw [← hn, ← hd] at this
  exact this h4
end K01
end
section
set_option Elab.async false
set_option linter.all false
set_option maxRecDepth 100000
set_option maxHeartbeats 2000000
namespace K01
open PySem PySem.Spec Wv L2
theorem times_good {L : Nat} : ∀ (xs : List Fr) (x : Fr) (M : Nat), (∀ y ∈ xs, Good L y) → Good M x → Good (M + xs.length * L) (xs.foldl mulF x)
  | [], x, M, _, g => by simpa using g
  | y :: xs, x, M, h, g => by
    rw [List.foldl_cons, List.length_cons]
    have b := times_good xs (mulF x y) (M + L) (fun z hz => h z (List.mem_cons_of_mem _ hz)) (mulF_good g (h y List.mem_cons_self))
    refine b.mono ?_
    rw [Nat.add_mul]
    omega
theorem c_ltimes {K L X : Nat} (hK : 35 ≤ K) {h : Store} {xs : List Fr} (e : own? h X = some (xs.map fw)) (hg : ∀ y ∈ xs, Good L y) (hs : 1 + xs.length * L + L ≤ 20000) : callK prg (K + 1) "_law_times" [.ref X] h = .ok (fw (timesF xs)) h := by
  obtain ⟨k, rfl⟩ : ∃ z, K = z + 1 := ⟨K - 1, by omega⟩
  obtain ⟨y1, y2, y3, y4, y5⟩ := lst_of_own e
  have key : ∀ (ys : List Fr) (x : Fr) (M : Nat) (a2 : Option W), (∀ y ∈ ys, Good L y) → Good M x → M + ys.length * L + L ≤ 20000 → ∃ a2', forL [(X, xs.map fw)] (.nm 2) (sSeq (sAsg (cCall (callK prg (k + 1)) 2 "_law_mul" (cCons (cVar 1) (cCons (cVar 2) cNil))) (gNm 1)) sSkip) (ys.map fw) [some (.ref X), some (fw x), a2] h = .next [some (.ref X), some (fw (ys.foldl mulF x)), a2'] h := by
    intro ys
    induction ys with
    | nil => exact fun x M a2 _ _ _ => ⟨a2, forL_nil (gdOk_one (lst_own e))⟩
    | cons y ys ih =>
      intro x M a2 hy gx hs
      rw [List.length_cons, Nat.add_mul] at hs
      have gy := hy y List.mem_cons_self
      obtain ⟨a2', f1⟩ := ih (mulF x y) (M + L) (some (fw y)) (fun z hz => hy z (List.mem_cons_of_mem _ hz)) (mulF_good gx gy) (by omega)
      refine ⟨a2', forL_step (gdOk_one (lst_own e)) (bind_nm _ _ _) ?_ f1⟩
      simp [c_lmul k h (by omega) gx gy (by omega)]
  obtain ⟨a2', f1⟩ := key xs (1, 1) 1 none hg good_11 hs
  rw [k__law_times]
  have z : fw (1, 1) = .tup [.int 1, .int 1] := rfl
  rw [z] at f1
  simp [b__law_times, startR, y1, f1, cutR_same, timesF]
theorem c_lunit (k n : Nat) (h : Store) (hn : n ≤ 1000) : callK prg (k + 1) "_law_unit" [.int (n : Int)] h = .ok (tw (unitM n)) h := by
  have r1 : rng1 [.int (n : Int)] = some ((List.range n).map iw) := rng1_nat (Nat.lt_of_le_of_lt hn (by decide))
  have lr : (List.range n).length ≤ 16777216 := by
    rw [List.length_range]
    exact Nat.le_trans hn (by decide)
  have c0 : compL [] (.nm 1) cTrue (cQ1 tupQ (cSeqF (cComp (cItR rng1 (cCons (cVar 0) cNil)) [2] (.nm 2) cTrue (cTup (cCons (cV1 intV (cCmp .Eq (cVar 1) (cVar 2))) (cCons (cVal (.int 1)) cNil)))))) [some (.int (n : Int)), none, none] ((List.range n).map iw) [] h = .ok ((unitM n).map rw) h := by
    unfold unitM
    rw [List.map_map]
    refine comp_map _ lr fun i hi => ?_
    have ci : compL [] (.nm 2) cTrue (cTup (cCons (cV1 intV (cCmp .Eq (cVar 1) (cVar 2))) (cCons (cVal (.int 1)) cNil))) [some (.int (n : Int)), some (iw i), none] ((List.range n).map iw) [] h = .ok (((List.range n).map fun j => if i = j then ((1, 1) : Fr) else (0, 1)).map fw) h := by
      rw [List.map_map]
      refine comp_map _ lr fun j hj => ?_
      refine ⟨_, bind_nm _ _ _, rfl, ?_⟩
      show _ = Out.ok (fw (if i = j then ((1, 1) : Fr) else (0, 1))) h
      have iv : ∀ b, intV (.bl b) h = some (.int (if b then 1 else 0), h) := fun b => rfl
      by_cases c : i = j
      · subst c
        simp [iw, fw, iv]
      · have c2 : ¬ (i : Int) = (j : Int) := by omega
        simp [iw, fw, c, c2, iv]
    refine ⟨_, bind_nm _ _ _, rfl, ?_⟩
    show _ = Out.ok (W.tup (((List.range n).map fun j => if i = j then ((1, 1) : Fr) else (0, 1)).map fw)) h
    generalize ((List.range n).map fun j => if i = j then ((1, 1) : Fr) else (0, 1)).map fw = Z at ci
    simp [r1, ci]
  obtain ⟨Z, hZ⟩ : ∃ Z, Z = (unitM n).map rw := ⟨_, rfl⟩
  rw [← hZ] at c0
  rw [k__law_unit]
  simp [b__law_unit, startR, r1, c0]
  rw [hZ]
  exact ret_tw _ _
theorem c_lprod_any {K L M n q : Nat} (hK : 39 ≤ K) {h : Store} {S T : List (List Fr)} (hS : S.length ≤ 40) (m : Mat L n S) (hT : T.length = n) (n1 : 1 ≤ n) (t : Tab M q T) (hs : 1 + n * (L + M + 1) + (L + M) ≤ 90000000) : callK prg (K + 1) "_law_product" [tw S, tw T] h = .ok (tw (mulM S T q)) h := by
  obtain ⟨r, T, rfl⟩ : ∃ r T', T = r :: T' := by
    cases T with
    | nil => rw [List.length_nil] at hT; omega
    | cons r T => exact ⟨r, T, rfl⟩
  exact c_lprod hK hS m hT t hs
theorem twice {L : Nat} {x : Fr} (g : Good L x) : addF x x = mulF x (2, 1) := by
  have p := g.pos
  have g2 : Good 2 ((2, 1) : Fr) := ⟨by unfold sz; decide, by unfold sz; decide, by decide, by decide⟩
  have a := addF_good g g
  have m := mulF_good g g2
  have e1 := is_add (by omega) (by omega) (is_self x) (is_self x)
  have e2 := is_mul (show x.2 ≠ 0 by omega) (show ((2, 1) : Fr).2 ≠ 0 by decide) (is_self x) (is_self ((2, 1) : Fr))
  refine is_eq (show x.2 ≠ 0 by omega) a.pos a.one m.pos m.one e1 ?_
  have z : x.1 + x.1 = x.1 * 2 := by omega
  have y : x.2 * 1 = x.2 := by omega
  dsimp only at e2
  rw [y] at e2
  rw [z]
  exact e2
theorem zip_self {F : Fr → Fr → Fr} (S : List (List Fr)) : zipM F S S = S.map fun r => r.map fun x => F x x := by
  unfold zipM
  rw [List.zipWith_self]
  refine List.map_congr_left fun r _ => ?_
  rw [List.zipWith_self]
theorem twiceM {L q : Nat} {S : List (List Fr)} (m : Mat L q S) : zipM addF S S = scaM S (2, 1) := by
  rw [zip_self]
  unfold scaM
  exact List.map_congr_left fun r hr => List.map_congr_left fun x hx => twice (m.good r hr x hx)
/-- the law's tables by comprehensions -/
theorem lturn_comp {L q : Nat} {S : List (List Fr)} (m : Mat L q S) (hS : S.length ≤ 1000) (hq : q ≤ 1000) {h : Store} {ρ0 : Rho} {sS si sj : Nat} (hT : ρ0[sS]? = some (some (tw S))) (h1 : si < ρ0.length) (h2 : sj < ρ0.length) (n1 : sS ≠ si) (n2 : sS ≠ sj) (n5 : si ≠ sj) :
    compL [] (.nm sj) cTrue (cQ1 tupQ (cSeqF (cComp (cItV (cVar sS)) [si] (.nm si) cTrue (cIx (cVar si) (cVar sj))))) ρ0 ((List.range q).map iw) [] h = .ok ((turnM S q).map rw) h := by
  unfold turnM
  rw [List.map_map]
  refine comp_map _ (by rw [List.length_range]; exact Nat.le_trans hq (by decide)) fun j hj => ?_
  have hj := List.mem_range.mp hj
  have cc := col_comp m hS hj (h := h) (ρ0 := (ρ0.set sj (some (iw j))).set si none) (s := si) (t := sj) (by rw [List.getElem?_set_ne n5, List.getElem?_set_self h2]) (by rw [List.length_set, List.length_set]; exact h1) n5
  have gS : (ρ0.set sj (some (iw j)))[sS]? = some (some (tw S)) := by
    rw [List.getElem?_set_ne n2.symm, hT]
  refine ⟨_, bind_nm _ _ _, rfl, ?_⟩
  show _ = Out.ok (W.tup ((colM S j).map fw)) h
  generalize (colM S j).map fw = Z at *
  simp only [a_q1, a_seqF, a_comp, a_itV, a_var, gS]
  show (((match itOf h (tw S) with
    | some q => Out.ok q h
    | none => .bad).bind _).bind _ |>.bind _) = _
  rw [it_tw]
  show (((compL [] (.nm si) cTrue (cIx (cVar si) (cVar sj)) (wipeR (ρ0.set sj (some (iw j))) [si]) (S.map rw) [] h).bind _).bind _) = _
  rw [wipe_cons, wipe_nil, cc]
  rfl
theorem lsca_comp {k L M q : Nat} (hk : 35 ≤ k) {S : List (List Fr)} (m : Mat L q S) (hS : S.length ≤ 1000) (hq : q ≤ 1000) (hL : L ≤ 20000) {c : Fr} (g : Good M c) (hM : M ≤ 20000) {h : Store} {te : Den} {ρ0 : Rho} {sx si : Nat} (h1 : si < ρ0.length) (h2 : sx < ρ0.length) (n5 : si ≠ sx) (ht : ∀ (ρ : Rho), ρ0.length = ρ.length → (∀ s, s ≠ si → s ≠ sx → ρ[s]? = ρ0[s]?) → ∀ x, ρ[sx]? = some (some (fw x)) → te ρ h = cCall (callK prg k) 2 "_law_mul" (cCons (cVal (fw x)) (cCons (cVal (fw c)) cNil)) ρ h) :
    compL [] (.nm si) cTrue (cQ1 tupQ (cSeqF (cComp (cItV (cVar si)) [sx] (.nm sx) cTrue te))) ρ0 (S.map rw) [] h = .ok ((scaM S c).map rw) h := by
  obtain ⟨k, rfl⟩ : ∃ z, k = z + 1 := ⟨k - 1, by omega⟩
  unfold scaM
  rw [List.map_map]
  refine comp_map S (Nat.le_trans hS (by decide)) fun row hr => ?_
  have cc : compL [] (.nm sx) cTrue te ((ρ0.set si (some (rw row))).set sx none) (row.map fw) [] h = .ok ((row.map fun x => mulF x c).map fw) h := by
    rw [List.map_map]
    refine comp_map row (by rw [m.len row hr]; exact Nat.le_trans hq (by decide)) fun x hx => ?_
    refine ⟨_, bind_nm _ _ _, rfl, ?_⟩
    rw [ht _ (by simp) (fun s n1 n2 => by rw [List.getElem?_set_ne n2.symm, List.getElem?_set_ne n2.symm, List.getElem?_set_ne n1.symm]) x (by rw [List.getElem?_set_self (by simp; exact h2)])]
    simp [c_lmul k h (by omega) (m.good row hr x hx) g (by omega)]
  have gS : (ρ0.set si (some (rw row)))[si]? = some (some (rw row)) := List.getElem?_set_self h1
  refine ⟨_, bind_nm _ _ _, rfl, ?_⟩
  show _ = Out.ok (W.tup ((row.map fun x => mulF x c).map fw)) h
  generalize (row.map fun x => mulF x c).map fw = Z at *
  simp only [a_q1, a_seqF, a_comp, a_itV, a_var, gS]
  show (((match itOf h (rw row) with
    | some q => Out.ok q h
    | none => .bad).bind _).bind _ |>.bind _) = _
  rw [it_rw]
  show (((compL [] (.nm sx) cTrue te (wipeR (ρ0.set si (some (rw row))) [sx]) (row.map fw) [] h).bind _).bind _) = _
  rw [wipe_cons, wipe_nil, cc]
  rfl
end K01
end
section
set_option Elab.async false
set_option linter.all false
set_option maxRecDepth 100000
set_option maxHeartbeats 2000000
namespace K01
open PySem PySem.Spec Wv L2
theorem rng3' : rng1 [.int 3] = some ((List.range 3).map iw) := rng1_nat (n := 3) (by decide)
theorem grid_comp {f : Nat → Nat → Fr} {te : Den} {h : Store} {e0 e1 e2 e3 e4 e5 e6 e7 e8 e9 e10 e11 e12 e13 e15 e17 : Option W} (ht : ∀ i j, i < 3 → j < 3 → te [e0, e1, e2, e3, e4, e5, e6, e7, e8, e9, e10, e11, e12, e13, some (iw i), e15, some (iw j), e17] h = .ok (fw (f i j)) h) :
    compL [] (.nm 14) cTrue (cQ1 tupQ (cSeqF (cComp (cItR rng1 (cCons (cVal (.int 3)) cNil)) [16] (.nm 16) cTrue te))) [e0, e1, e2, e3, e4, e5, e6, e7, e8, e9, e10, e11, e12, e13, none, e15, none, e17] ((List.range 3).map iw) [] h = .ok (((List.range 3).map fun i => (List.range 3).map fun j => f i j).map rw) h := by
  rw [List.map_map]
  refine comp_map (List.range 3) (by decide) fun i hi => ?_
  have hi := List.mem_range.mp hi
  have ci : compL [] (.nm 16) cTrue te [e0, e1, e2, e3, e4, e5, e6, e7, e8, e9, e10, e11, e12, e13, some (iw i), e15, none, e17] ((List.range 3).map iw) [] h = .ok (((List.range 3).map fun j => f i j).map fw) h := by
    rw [List.map_map]
    refine comp_map (List.range 3) (by decide) fun j hj => ?_
    exact ⟨_, bind_nm _ _ _, rfl, ht i j hi (List.mem_range.mp hj)⟩
  refine ⟨_, bind_nm _ _ _, rfl, ?_⟩
  show _ = Out.ok (W.tup (((List.range 3).map fun j => f i j).map fw)) h
  have r3 := rng3'
  generalize ((List.range 3).map fun j => f i j).map fw = Z at *
  generalize (List.range 3).map iw = Y at *
  simp [r3, ci]
def wideL : List W := [.tup [.int 40, .int 2, .int 3], .tup [.int 3, .int 40, .int 2], .tup [.int 2, .int 3, .int 40], .tup [.int 12, .int 12, .int 12]]
theorem wide_at {v : Int} (h0 : 0 ≤ v) (h1 : v < 4) : ∃ p q r : Nat, atI wideL v = some (.tup [.int (p : Int), .int (q : Int), .int (r : Int)]) ∧ (1 ≤ p ∧ p ≤ 40) ∧ (1 ≤ q ∧ q ≤ 40) ∧ (1 ≤ r ∧ r ≤ 40) := by
  have : v = 0 ∨ v = 1 ∨ v = 2 ∨ v = 3 := by omega
  rcases this with z | z | z | z <;> subst z
  · exact ⟨40, 2, 3, rfl, by decide, by decide, by decide⟩
  · exact ⟨3, 40, 2, rfl, by decide, by decide, by decide⟩
  · exact ⟨2, 3, 40, rfl, by decide, by decide, by decide⟩
  · exact ⟨12, 12, 12, rfl, by decide, by decide, by decide⟩
theorem mat_dep {L q : Nat} {T : List (List Fr)} (m : Mat L q T) (hT : T.length ≤ 1000) (hq : q ≤ 1000) : dep 5 (tw T) = true := dep_tw hT fun r hr => by rw [m.len r hr]; exact hq
theorem sca_mat {L M q : Nat} {T : List (List Fr)} (m : Mat L q T) {c : Fr} (g : Good M c) : Mat (L + M) q (scaM T c) := ⟨fun r hr => by
  unfold scaM at hr
  obtain ⟨s, hs, rfl⟩ := List.mem_map.mp hr
  rw [List.length_map]
  exact m.len s hs, fun r hr x hx => by
  unfold scaM at hr
  obtain ⟨s, hs, rfl⟩ := List.mem_map.mp hr
  obtain ⟨y, hy, rfl⟩ := List.mem_map.mp hx
  exact mulF_good (m.good s hs y hy) g⟩
theorem good_21 : Good 2 ((2, 1) : Fr) := ⟨by unfold sz; decide, by unfold sz; decide, by decide, by decide⟩
section
variable {j L M n p q r : Nat} {S T : List (List Fr)} {h : Store}
theorem tell_prod (hj : 45 ≤ j) (mS : Mat L n S) (hS : 1 ≤ S.length ∧ S.length ≤ 40) (hn : 1 ≤ n ∧ n ≤ 40) (mT : Mat M q T) (hT : T.length = n) (hq : 1 ≤ q ∧ q ≤ 40) (hL : L ≤ 20000) (hM : M ≤ 20000) : callK prg (j + 3) "_law_tells" [.glo "table_product", .tup [tw S, tw T], tw (mulM S T q)] h = .ok (.bl true) h :=
  c_tells (by omega) (c_told2 d_table_product (f_table_product _ _) (c_tproduct (k := j) h (by omega) ⟨hS.2, hn.1, hn.2, mS.len, mS.good⟩ ⟨by omega, hq.1, hq.2, mT.len, mT.good⟩ hL hM hS.1 hT)) (mat_dep (mul_mat mS mT hT) (by rw [mul_len]; omega) (by omega))
theorem tell_turn (hj : 45 ≤ j) (mS : Mat L n S) (hS : 1 ≤ S.length ∧ S.length ≤ 40) (hn : 1 ≤ n ∧ n ≤ 40) (hL : L ≤ 20000) : callK prg (j + 3) "_law_tells" [.glo "table_turned", .tup [tw S], tw (turnM S n)] h = .ok (.bl true) h := by
  obtain ⟨i, rfl⟩ : ∃ i, j = i + 4 := ⟨j - 4, by omega⟩
  have c := c_tturned (k := i) h ⟨hS.2, hn.1, hn.2, mS.len, mS.good⟩ hL
  rw [wd_mat mS hS.1] at c
  exact c_tells (by omega) (c_told1 d_table_turned (f_table_turned _) c) (mat_dep (turn_mat mS) (by rw [turn_len]; omega) (by omega))
theorem tell_sum (hj : 45 ≤ j) (mS : Mat L n S) (mT : Mat L n T) (hS : 1 ≤ S.length ∧ S.length ≤ 40) (hT : T.length = S.length) (hn : 1 ≤ n ∧ n ≤ 40) (hL : L ≤ 20000) : callK prg (j + 3) "_law_tells" [.glo "table_sum", .tup [tw S, tw T], tw (zipM addF S T)] h = .ok (.bl true) h := by
  have c := c_tsum (k := j) h (by omega) ⟨hS.2, hn.1, hn.2, mS.len, mS.good⟩ ⟨by omega, hn.1, hn.2, mT.len, mT.good⟩ hL hL hT.symm (by rw [wd_mat mS hS.1, wd_mat mT (by omega)])
  refine c_tells (by omega) (c_told2 d_table_sum (f_table_sum _ _) c) (dep_tw ?_ fun r hr => ?_)
  · unfold zipM
    rw [List.length_zipWith]
    omega
  · unfold zipM at hr
    rw [← List.map_uncurry_zip_eq_zipWith] at hr
    obtain ⟨x, hx, rfl⟩ := List.mem_map.mp hr
    have xm := List.of_mem_zip hx
    show (List.zipWith addF x.1 x.2).length ≤ 1000
    rw [List.length_zipWith, mS.len _ xm.1]
    omega
theorem tell_less (hj : 45 ≤ j) (mS : Mat L n S) (mT : Mat L n T) (hS : 1 ≤ S.length ∧ S.length ≤ 40) (hT : T.length = S.length) (hn : 1 ≤ n ∧ n ≤ 40) (hL : L ≤ 20000) : callK prg (j + 3) "_law_tells" [.glo "table_less", .tup [tw S, tw T], tw (zipM lessF S T)] h = .ok (.bl true) h := by
  have c := c_tless (k := j) h (by omega) ⟨hS.2, hn.1, hn.2, mS.len, mS.good⟩ ⟨by omega, hn.1, hn.2, mT.len, mT.good⟩ hL hL hT.symm (by rw [wd_mat mS hS.1, wd_mat mT (by omega)])
  refine c_tells (by omega) (c_told2 d_table_less (f_table_less _ _) c) (dep_tw ?_ fun r hr => ?_)
  · unfold zipM
    rw [List.length_zipWith]
    omega
  · unfold zipM at hr
    rw [← List.map_uncurry_zip_eq_zipWith] at hr
    obtain ⟨x, hx, rfl⟩ := List.mem_map.mp hr
    have xm := List.of_mem_zip hx
    show (List.zipWith lessF x.1 x.2).length ≤ 1000
    rw [List.length_zipWith, mS.len _ xm.1]
    omega
theorem tell_unit (hj : 45 ≤ j) (hn : n ≤ 40) : callK prg (j + 3) "_law_tells" [.glo "unit_table", .tup [.int (n : Int)], tw (unitM n)] h = .ok (.bl true) h := by
  obtain ⟨i, rfl⟩ : ∃ i, j = i + 2 := ⟨j - 2, by omega⟩
  exact c_tells (by omega) (c_told1 d_unit_table (f_unit_table _) (c_unittab i n h hn)) (mat_dep (unit_mat n) (by rw [unit_len]; omega) (by omega))
theorem tell_power {e : Nat} (hj : 45 ≤ j) (mT : Mat M n T) (hT : T.length = n) (hn : 1 ≤ n ∧ n ≤ 40) (hL : L ≤ 20000) (hM : M ≤ 20000) (he : e ≤ 60) (hp : ∀ i, i < e → Mat L n (powM T n i)) {P : List (List Fr)} (eP : powM T n e = P) (mP : ∀ r ∈ P, r.length = n) : callK prg (j + 3) "_law_tells" [.glo "table_power", .tup [tw T, .int (e : Int)], tw P] h = .ok (.bl true) h := by
  have c := c_power (k := j) (T := T) h hj ⟨by omega, hn.1, hn.2, mT.len, mT.good⟩ hT hL hM he hp
  rw [eP] at c
  refine c_tells (by omega) (c_told2 d_table_power (f_table_power _ _) c) (dep_tw ?_ fun r hr => ?_)
  · rw [← eP, pow_len]
    omega
  · rw [mP r hr]
    omega
end
end K01
end
section
set_option Elab.async false
set_option linter.all false
set_option maxRecDepth 100000
set_option maxHeartbeats 2000000
namespace K01
open PySem PySem.Spec Wv L2
theorem mix_bound {n : Nat} (h : n ≤ 40) : 1 + n * (3 + 3 + 1) + (3 + 3) ≤ 90000000 := Nat.le_trans (Nat.add_le_add_right (Nat.add_le_add_left (Nat.mul_le_mul_right 7 h) 1) 6) (by decide)
theorem turn_grid : ((List.range 3).map fun i : Nat => (List.range 3).map fun j : Nat => if j = i + 1 ∨ (j = 0 ∧ i = 2) then ((1, 1) : Fr) else (0, 1)) = turnT := by decide
theorem turn_mat3 : Mat 400 3 turnT := small_mat (by decide +kernel)
theorem jump_mat {a : Fr} (g : Good 3 a) : Mat 400 2 (jumpM a) := by
  have ga := g.mono (show 3 ≤ 400 by decide)
  have g1 := good_11.mono (show 1 ≤ 400 by decide)
  have g0 := good_zero.mono (show 1 ≤ 400 by decide)
  unfold jumpM
  refine ⟨fun r hr => ?_, fun r hr x hx => ?_⟩
  · simp only [List.mem_cons, List.not_mem_nil, or_false] at hr
    rcases hr with z | z <;> subst z <;> rfl
  · simp only [List.mem_cons, List.not_mem_nil, or_false] at hr
    rcases hr with z | z <;> subst z <;> simp only [List.mem_cons, List.not_mem_nil, or_false] at hx <;> rcases hx with y | y <;> subst y <;> assumption
theorem c_wide_holds {K S : Nat} (hK : 60 ≤ K) {h : Store} (a : StAt h S) : ∃ s0 s1, callK prg (K + 1) "_law_wide_holds" [.ref S] h = .ok (.bl true) (h.set S (twoN s0 s1)) := by
  obtain ⟨j, rfl⟩ : ∃ z, K = z + 3 := ⟨K - 3, by omega⟩
  -- the sizes
  have k0 : Kept h (h ++ [Ob.lst wideL]) S := Kept.old a ⟨_, rfl⟩
  have oW := own_new h wideL
  have nS := a.lt
  obtain ⟨v, s0, s1, v0, v1, c1⟩ := c_take (K := j + 2) (m := 4) (k0.at_ a) (by decide) (by decide)
  have k1 := k0.two a s0 s1
  have oW1 := own_other (n := S) (o := twoN s0 s1) oW (by omega)
  generalize (h ++ [Ob.lst wideL]).set S (twoN s0 s1) = h1 at c1 k1 oW1
  obtain ⟨p, q, r, eW, hp, hq, hr⟩ := wide_at v0 v1
  have ixw : ixW h1 (.ref h.length) (.int v) = some (.tup [.int (p : Int), .int (q : Int), .int (r : Int)]) := by
    rw [(lst_of_own oW1).2.2.2.2]
    exact eW
  -- the tables
  obtain ⟨A, s0, s1, c2, lA, mA⟩ := c_table (K := j + 2) (p := p) (q := q) (by omega) (k1.at_ a) (by omega) (by omega)
  have k2 := k1.two a s0 s1
  generalize h1.set S (twoN s0 s1) = h2 at c2 k2
  obtain ⟨B, s0, s1, c3, lB, mB⟩ := c_table (K := j + 2) (p := q) (q := r) (by omega) (k2.at_ a) (by omega) (by omega)
  have k3 := k2.two a s0 s1
  generalize h2.set S (twoN s0 s1) = h3 at c3 k3
  have lp := c_lprod_any (K := j + 2) (h := h3) (by omega) (by omega) mA lB hq.1 ⟨by omega, hr.1, hr.2, mB.len, mB.good⟩ (mix_bound hq.2)
  have t1 := tell_prod (j := j) (h := h3) (by omega) mA (by omega) hq mB lB hr (by omega) (by omega)
  have tc := lturn_comp mA (by omega) (by omega) (h := h3) (ρ0 := [some (.ref S), some (.int (p : Int)), some (.int (q : Int)), some (.int (r : Int)), some (tw A), some (tw B), none, none, none, none, none, none, none, none, none, none, none, none]) (sS := 4) (si := 15) (sj := 16) rfl (by simp) (by simp) (by decide) (by decide) (by decide)
  have t2 := tell_turn (j := j) (h := h3) (by omega) mA (by omega) hq (by omega)
  have sc := lsca_comp (k := j + 3) (by omega) mA (by omega) (by omega) (by omega) good_21 (by omega) (h := h3) (te := cCall (callK prg (j + 3)) 2 "_law_mul" (cCons (cVar 17) (cCons (cTup (cCons (cVal (.int 2)) (cCons (cVal (.int 1)) cNil))) cNil))) (ρ0 := [some (.ref S), some (.int (p : Int)), some (.int (q : Int)), some (.int (r : Int)), some (tw A), some (tw B), none, none, none, none, none, none, none, none, none, none, none, none]) (sx := 17) (si := 15) (by simp) (by simp) (by decide) (fun ρ _ _ x e => by simp [e, fw])
  have t3 := tell_sum (j := j) (h := h3) (by omega) mA mA (by omega) rfl hq (by omega)
  rw [twiceM mA] at t3
  -- the numbers
  obtain ⟨v, s0, s1, w0, w1, c4⟩ := c_take (K := j + 2) (m := 11) (k3.at_ a) (by decide) (by decide)
  have k4 := k3.two a s0 s1
  generalize h3.set S (twoN s0 s1) = h4 at c4 k4
  obtain ⟨n', rfl⟩ := Int.eq_ofNat_of_zero_le w0
  obtain ⟨n, hn⟩ : ∃ n, n = 30 + n' := ⟨_, rfl⟩
  have en : (30 : Int) + (n' : Int) = (n : Int) := by omega
  have n40 : n ≤ 40 := by omega
  obtain ⟨x, s0, s1, gx, c5⟩ := c_drawn (K := j + 2) (by omega) (k4.at_ a)
  have k5 := k4.two a s0 s1
  generalize h4.set S (twoN s0 s1) = h5 at c5 k5
  obtain ⟨v, s0, s1, x0, x1, c6⟩ := c_take (K := j + 2) (m := 3) (k5.at_ a) (by decide) (by decide)
  have k6 := k5.two a s0 s1
  generalize h5.set S (twoN s0 s1) = h6 at c6 k6
  obtain ⟨e', rfl⟩ := Int.eq_ofNat_of_zero_le x0
  obtain ⟨e, he⟩ : ∃ e, e = 60 - e' := ⟨_, rfl⟩
  have ee : (60 : Int) - (e' : Int) = (e : Int) := by omega
  have e58 : 58 ≤ e := by omega
  have e60 : e ≤ 60 := by omega
  -- the turn
  have g1 := grid_comp (f := fun i j : Nat => if j = i + 1 ∨ (j = 0 ∧ i = 2) then ((1, 1) : Fr) else (0, 1)) (te := cTup (cCons (cV1 intV (cOr (cCmp .Eq (cVar 16) (cBin true .Add (cVar 14) (cVal (.int 1)))) (cAnd (cCmp .Eq (cVar 16) (cVal (.int 0))) (cCmp .Eq (cVar 14) (cVal (.int 2)))))) (cCons (cVal (.int 1)) cNil))) (h := h6) (e0 := some (.ref S)) (e1 := some (.int (p : Int))) (e2 := some (.int (q : Int))) (e3 := some (.int (r : Int))) (e4 := some (tw A)) (e5 := some (tw B)) (e6 := some (.int (n : Int))) (e7 := some (fw x)) (e8 := some (.int (e : Int))) (e9 := none) (e10 := none) (e11 := none) (e12 := none) (e13 := none) (e15 := none) (e17 := none) (fun i k hi hk => by
    have h1 : i = 0 ∨ i = 1 ∨ i = 2 := by omega
    have h2 : k = 0 ∨ k = 1 ∨ k = 2 := by omega
    rcases h1 with z | z | z <;> subst z <;> rcases h2 with y | y | y <;> subst y <;> rfl)
  rw [turn_grid] at g1
  have g2 := grid_comp (f := fun i j : Nat => if ((j : Int) - (i : Int) - (e : Int)).fmod 3 = 0 then ((1, 1) : Fr) else (0, 1)) (te := cTup (cCons (cV1 intV (cCmp .Eq (cBin true .Mod (cV1 intV (cBin true .Sub (cBin true .Sub (cVar 16) (cVar 14)) (cVar 8))) (cVal (.int 3))) (cVal (.int 0)))) (cCons (cVal (.int 1)) cNil))) (h := h6) (e0 := some (.ref S)) (e1 := some (.int (p : Int))) (e2 := some (.int (q : Int))) (e3 := some (.int (r : Int))) (e4 := some (tw A)) (e5 := some (tw B)) (e6 := some (.int (n : Int))) (e7 := some (fw x)) (e8 := some (.int (e : Int))) (e9 := some (tw turnT)) (e10 := none) (e11 := none) (e12 := none) (e13 := none) (e15 := none) (e17 := none) (fun i k hi hk => by
    have iv : ∀ b, intV (.bl b) h6 = some (.int (if b then 1 else 0), h6) := fun b => rfl
    by_cases c : ((k : Int) - (i : Int) - (e : Int)).fmod 3 = 0
    · simp [iw, iv, c, fw]
    · simp [iw, iv, c, fw])
  have tE : ((List.range 3).map fun i : Nat => (List.range 3).map fun j : Nat => if ((j : Int) - (i : Int) - (e : Int)).fmod 3 = 0 then ((1, 1) : Fr) else (0, 1)) = turnE e := rfl
  rw [tE] at g2
  -- the jump
  have oA := own_new h6 [fw x]
  have k7 : Kept h (h6 ++ [Ob.lst [fw x]] ++ [Ob.lst (List.replicate (e - 1) (fw x))]) S := (k6.app _).app _
  have oB := own_new (h6 ++ [Ob.lst [fw x]]) (List.replicate (e - 1) (fw x))
  have lB' : (h6 ++ [Ob.lst [fw x]]).length = h6.length + 1 := by simp
  have om : ∀ big, opBin big .Mult (.ref h6.length) (.int ((e : Int) - 1)) (h6 ++ [Ob.lst [fw x]]) = some (.ref (h6.length + 1), h6 ++ [Ob.lst [fw x]] ++ [Ob.lst (List.replicate (e - 1) (fw x))]) := fun big => by
    have z : opBin big .Mult = opMul := rfl
    rw [z]
    unfold opMul
    dsimp only
    rw [oA]
    dsimp only
    have tn : ((e : Int) - 1).toNat = e - 1 := by omega
    rw [if_pos ⟨by omega, by omega, by rw [tn]; simp; omega⟩, tn, flat_rep, lB']
  rw [lB', ← List.map_replicate] at oB
  have tm := c_ltimes (K := j + 2) (by omega) oB (fun y hy => by rw [(List.mem_replicate.mp hy).2]; exact gx) (by rw [List.length_replicate]; omega)
  obtain ⟨h7, hh7⟩ : ∃ h7, h7 = h6 ++ [Ob.lst [fw x]] ++ [Ob.lst (List.replicate (e - 1) (fw x))] := ⟨_, rfl⟩
  rw [List.map_replicate] at tm
  rw [← hh7] at tm k7 om
  have gt : Good (1 + (e - 1) * 3) (timesF (List.replicate (e - 1) x)) := by
    have := times_good (L := 3) (List.replicate (e - 1) x) (1, 1) 1 (fun y hy => by rw [(List.mem_replicate.mp hy).2]; exact gx) good_11
    rw [List.length_replicate] at this
    exact this
  have ge : Good 6 (((e : Int), 1) : Fr) := by
    refine ⟨?_, ?_, by show (0 : Int) < 1; decide, by simp⟩
    · show ((e : Int)).natAbs < 2 ^ 6
      omega
    · show ((1 : Int)).natAbs < 2 ^ 6
      decide
  have m1 := c_lmul (j + 2) h7 (by omega) gt gx (by omega)
  have m2 := c_lmul (j + 2) h7 (by omega) gt ge (by omega)
  rw [show fw ((e : Int), 1) = .tup [.int (e : Int), .int 1] from rfl] at m2
  -- told
  have u1 := tell_unit (j := j) (h := h7) (by omega) n40
  have u2 := c_lunit (j + 2) n h7 (by omega)
  obtain ⟨r1, r2⟩ := run_ok 60 0 turn_run
  have t4 := tell_power (j := j) (h := h7) (by omega) turn_mat3 rfl (by decide) (by decide) (by decide) e60 (fun i hi => r1 i (by omega) (by omega)) (r2 e (by omega) (by omega) e58) (fun r hr => by
    unfold turnE at hr
    obtain ⟨i, _, rfl⟩ := List.mem_map.mp hr
    simp)
  obtain ⟨r3, r4⟩ := run_ok 60 0 (jump_run gx)
  have t5 := tell_power (j := j) (h := h7) (by omega) (jump_mat gx) rfl (by decide) (by decide) (by decide) e60 (fun i hi => r3 i (by omega) (by omega)) (r4 e (by omega) (by omega) e58) (fun r hr => by
    unfold jumpE at hr
    simp only [List.mem_cons, List.not_mem_nil, or_false] at hr
    rcases hr with z | z <;> subst z <;> rfl)
  have ej : tw (jumpM x) = .tup [.tup [fw x, .tup [.int 1, .int 1]], .tup [.tup [.int 0, .int 1], fw x]] := rfl
  have eE : tw (jumpE x e) = .tup [.tup [fw (mulF (timesF (List.replicate (e - 1) x)) x), fw (mulF (timesF (List.replicate (e - 1) x)) ((e : Int), 1))], .tup [.tup [.int 0, .int 1], fw (mulF (timesF (List.replicate (e - 1) x)) x)]] := rfl
  rw [ej, eE] at t5
  have eA : tw (turnM A q) = .tup ((turnM A q).map rw) := rfl
  have eS : tw (scaM A (2, 1)) = .tup ((scaM A (2, 1)).map rw) := rfl
  have eT : tw turnT = .tup (turnT.map rw) := rfl
  have eP : tw (turnE e) = .tup ((turnE e).map rw) := rfl
  rw [eA] at t2
  rw [eS] at t3
  rw [eT, eP] at t4
  rw [eT] at g2
  have r3' := rng3'
  have rq : rng1 [.int (q : Int)] = some ((List.range q).map iw) := rng1_nat (Nat.lt_of_le_of_lt hq.2 (by decide))
  have itA := it_tw h3 A
  obtain ⟨c0, c1', ct⟩ := k7.cut (w := .bl true) rfl
  refine ⟨c0, c1', ?_⟩
  have hh7' := hh7.symm
  have dk : decide (32 ≤ j + 3) = true := decide_eq_true (by omega)
  have wl : wideL.length ≤ 16777216 := by decide
  have hW : [W.tup [.int 40, .int 2, .int 3], .tup [.int 3, .int 40, .int 2], .tup [.int 2, .int 3, .int 40], .tup [.int 12, .int 12, .int 12]] = wideL := rfl
  generalize mulF (timesF (List.replicate (e - 1) x)) x = y1 at *
  generalize mulF (timesF (List.replicate (e - 1) x)) ((e : Int), 1) = y2 at *
  generalize timesF (List.replicate (e - 1) x) = y3 at *
  generalize (turnM A q).map rw = Z1 at *
  generalize (scaM A (2, 1)).map rw = Z2 at *
  generalize turnT.map rw = Z3 at *
  generalize (turnE e).map rw = Z4 at *
  generalize (List.range 3).map iw = Y3 at *
  generalize (List.range q).map iw = Yq at *
  generalize A.map rw = YA at *
  generalize tw A = TA at *
  generalize tw B = TB at *
  generalize fw x = X at *
  rw [k__law_wide_holds, dk]
  unfold b__law_wide_holds
  simp [startR, hW, wl, c1, ixw, c2, c3, lp, t1, rq, tc, t2, itA, sc, t3, c4, en, c5, c6, ee, r3', g1, g2, om, tm, m1, m2, u1, u2, t4, t5, ct]
end K01
end
section
set_option Elab.async false
set_option linter.all false
set_option maxRecDepth 100000
set_option maxHeartbeats 2000000
namespace K01
open PySem PySem.Spec Wv L2
def frD (x : Fr) : PyData := .tuple [.int x.1, .int x.2]
theorem toPy_fw (h : Store) (n : Nat) (x : Fr) : toPy h (n + 1) (fw x) = some (frD x) := by
  unfold fw toPy toPys
  unfold toPy
  unfold toPys
  unfold toPy
  unfold toPys
  rfl
theorem eqv_fr (x y : Fr) : PyData.eqv (frD x) (frD y) = decide (x = y) := by
  have e : PyData.eqv (frD x) (frD y) = PyData.eqvAll [.int x.1, .int x.2] [.int y.1, .int y.2] := by
    unfold frD PyData.eqv
    rfl
  rw [e]
  have e2 := eqvAll_map (d := fun i : Int => PyData.int i) (fun i j => eqv_int i j) [x.1, x.2] [y.1, y.2]
  have e3 : PyData.eqvAll [.int x.1, .int x.2] [.int y.1, .int y.2] = decide ([x.1, x.2] = [y.1, y.2]) := e2
  rw [e3]
  refine decide_eq_decide.mpr ?_
  constructor
  · intro z
    injection z with z1 z2
    injection z2 with z2 _
    exact Prod.ext z1 z2
  · intro z
    rw [z]
def rowD (m : List Fr) : PyData := .list (m.map frD)
theorem eqv_row (x y : List Fr) : PyData.eqv (rowD x) (rowD y) = decide (x = y) := by
  have e : PyData.eqv (rowD x) (rowD y) = PyData.eqvAll (x.map frD) (y.map frD) := by
    unfold rowD PyData.eqv
    rfl
  rw [e]
  exact eqvAll_map eqv_fr x y
end K01
end
section
set_option Elab.async false
set_option linter.all false
set_option maxRecDepth 100000
set_option maxHeartbeats 2000000
namespace K01
open PySem PySem.Spec Wv L2
/-! ### items of all forms -/
def isR2 : W → W → Bool
  | .int n, .int d => decide (0 < d) && decide (Int.gcd n d = 1)
  | _, _ => false
def isRp : List W → Bool
  | [a, b] => isR2 a b
  | _ => false
def isR : W → Bool
  | .tup us => isRp us
  | _ => false
theorem isR_fr (n d : Int) : isR (.tup [.int n, .int d]) = (decide (0 < d) && decide (Int.gcd n d = 1)) := rfl
def NoTup (H : Store) (u : W) : Prop := ∃ t, tyW H u = some t ∧ isOne t "tuple" = some false
inductive ItemSh (H : Store) : W → Prop
  | fr (n d : Int) : sz 20000 d → ItemSh H (.tup [.int n, .int d])
  | few (us : List W) : us.length ≠ 2 → ItemSh H (.tup us)
  | bo (b : Bool) (n : Int) : ItemSh H (.tup [.bl b, .int n])
  | no (u : W) : NoTup H u → ItemSh H u
theorem noTup_ne {H : Store} {u : W} (h : NoTup H u) : ∀ us, u ≠ .tup us := fun us e => by
  subst e
  obtain ⟨t, e1, e2⟩ := h
  cases e1
  rw [o_tuple_tuple] at e2
  cases e2
theorem isR_no {H : Store} {u : W} (h : NoTup H u) : isR u = false := by
  have := noTup_ne h
  cases u with
  | tup us => exact absurd rfl (this us)
  | _ => rfl
theorem isR_few {us : List W} (h : us.length ≠ 2) : isR (.tup us) = false := by
  match us, h with
  | [], _ => rfl
  | [_], _ => rfl
  | [_, _], h => exact absurd rfl h
  | _ :: _ :: _ :: _, _ => rfl
theorem low_one {n d : Int} (hd : 0 < d) : decide (low n d = (n, d)) = decide (Int.gcd n d = 1) := by
  obtain ⟨e1, e2⟩ := low_eq (n := n) (d := d) (by omega)
  have eg : gg n d = (Int.gcd n d : Int) := by unfold gg; rw [if_neg (by omega)]
  by_cases c : Int.gcd n d = 1
  · have : low n d = (n, d) := by
      rw [eg, c] at e1 e2
      have z1 : (low n d).1 = n := by omega
      have z2 : (low n d).2 = d := by omega
      exact Prod.ext z1 z2
    simp [this, c]
  · have : low n d ≠ (n, d) := fun z => by
      rw [z, eg] at e2
      dsimp only at e2
      have : (Int.gcd n d : Int) = 1 := Int.eq_of_mul_eq_mul_right (show d ≠ 0 by omega) (by rw [Int.one_mul]; exact e2.symm)
      omega
    simp [this, c]
theorem eq_fw (h : Store) (x y : Fr) : cmpW .Eq (fw x) (fw y) h = some (decide (x = y)) := by
  have py : ∀ x : Fr, pyd h (fw x) = some (frD x) := fun x => pyd_of (toPy_fw h 65 x) (by unfold frD PyData.canLay0 PyData.canLayAll0 PyData.canLay0 PyData.canLayAll0 PyData.canLay0 PyData.canLayAll0; rfl) (by
    unfold frD PyData.depth PyData.depthAll PyData.depth PyData.depthAll PyData.depth PyData.depthAll
    decide)
  have z : cmpW .Eq (fw x) (fw y) h = cmpEq (fw x) (fw y) h := by
    unfold cmpW
    rfl
  rw [z]
  unfold cmpEq
  rw [py x, py y]
  dsimp only
  rw [eqv_fr]
theorem c_ratio_sh (k : Nat) {H : Store} {u : W} (s : ItemSh H u) : callK prg (k + 2) "is_ratio" [u] H = .ok (.bl (isR u)) H := by
  cases s with
  | fr n d sd =>
    have g := c_gcd k (a := n) H (by omega) sd
    rw [k_is_ratio]
    rw [isR_fr]
    by_cases c : 0 < d
    · by_cases c1 : Int.gcd n d = 1
      · simp [b_is_ratio, startR, c_isint, g, c, c1, cutR_same]
      · have c2 : ¬ (Int.gcd n d : Int) = 1 := by omega
        simp [b_is_ratio, startR, c_isint, g, c, c1, c2, cutR_same]
    · simp [b_is_ratio, startR, c_isint, c, cutR_same]
  | few us h =>
    rw [isR_few h]
    have h2 : ((us.length : Int) == 2) = false := by simpa using fun z => h (by omega)
    have h3 : ¬ (us.length : Int) = 2 := by omega
    rw [k_is_ratio]
    simp [b_is_ratio, startR, h2, h3, cutR_same]
  | bo b n =>
    have e : isR (.tup [.bl b, .int n]) = false := rfl
    rw [e, k_is_ratio]
    simp [b_is_ratio, startR, c_isint_bl, cutR_same]
  | no u h =>
    rw [isR_no h]
    obtain ⟨t, e1, e2⟩ := h
    rw [k_is_ratio]
    simp [b_is_ratio, startR, e1, e2, cutR_same]
theorem c_litem_sh (k : Nat) (hk : 34 ≤ k) {H : Store} {u : W} (s : ItemSh H u) : callK prg (k + 1) "_law_item_is" [u] H = .ok (.bl (isR u)) H := by
  obtain ⟨k, rfl⟩ : ∃ z, k = z + 1 := ⟨k - 1, by omega⟩
  cases s with
  | fr n d sd =>
    have lp : forL [] (.nm 1) (sSeq (sIf (tcOr (tcNot (tcVal (cIsi1 "int" (cVar 1)))) (tcVal (cIsi1 "bool" (cVar 1)))) (sSeq (sRet (cVal (.bl false)))
    sSkip) sSkip)
    sSkip) [.int n, .int d] [some (.tup [.int n, .int d]), none] H = .next [some (.tup [.int n, .int d]), some (.int d)] H := by
      refine forL_step (h2 := H) (ρ2 := [some (.tup [.int n, .int d]), some (.int n)]) (gdOk_nil _) (bind_nm _ _ _) (by simp) ?_
      refine forL_step (h2 := H) (ρ2 := [some (.tup [.int n, .int d]), some (.int d)]) (gdOk_nil _) (bind_nm _ _ _) (by simp) ?_
      exact forL_nil (gdOk_nil _)
    by_cases c : 0 < d
    · have fr := c_frac k (n := n) H (by omega) (by omega) sd (show d ≠ 0 by omega)
      have eq := eq_fw H (low n d) (n, d)
      have e3 : fw (n, d) = .tup [.int n, .int d] := rfl
      rw [e3, low_one c] at eq
      have e4 : isR (.tup [.int n, .int d]) = decide (Int.gcd n d = 1) := by
        show (decide (0 < d) && _) = _
        rw [decide_eq_true c, Bool.true_and]
      rw [e4]
      generalize fw (low n d) = X at *
      generalize decide (Int.gcd n d = 1) = bb at *
      rw [k__law_item_is]
      simp [b__law_item_is, startR, lp, c, fr, eq, cutR_same]
    · have e4 : isR (.tup [.int n, .int d]) = false := by
        show (decide (0 < d) && _) = _
        rw [decide_eq_false c, Bool.false_and]
      rw [e4, k__law_item_is]
      simp [b__law_item_is, startR, lp, c, cutR_same]
  | few us h =>
    rw [isR_few h]
    have h2 : ((us.length : Int) == 2) = false := by simpa using fun z => h (by omega)
    have h3 : ¬ (us.length : Int) = 2 := by omega
    rw [k__law_item_is]
    simp [b__law_item_is, startR, h2, h3, cutR_same]
  | bo b n =>
    have e : isR (.tup [.bl b, .int n]) = false := rfl
    have lp : forL [] (.nm 1) (sSeq (sIf (tcOr (tcNot (tcVal (cIsi1 "int" (cVar 1)))) (tcVal (cIsi1 "bool" (cVar 1)))) (sSeq (sRet (cVal (.bl false)))
    sSkip) sSkip)
    sSkip) [.bl b, .int n] [some (.tup [.bl b, .int n]), none] H = .ret (.bl false) H := forL_ret (gdOk_nil _) (bind_nm _ _ _) (by simp)
    rw [e, k__law_item_is]
    simp [b__law_item_is, startR, lp, cutR_same]
  | no u h =>
    rw [isR_no h]
    obtain ⟨t, e1, e2⟩ := h
    rw [k__law_item_is]
    simp [b__law_item_is, startR, e1, e2, cutR_same]
end K01
end
section
set_option Elab.async false
set_option linter.all false
set_option maxRecDepth 100000
set_option maxHeartbeats 2000000
namespace K01
open PySem PySem.Spec Wv L2
/-! ### values of all forms -/
def RowSh (H : Store) (v : W) : Prop := (∃ us, v = .tup us ∧ us.length ≤ 41 ∧ ∀ u ∈ us, ItemSh H u) ∨ NoTup H v
def t1 : W → Bool
  | .tup us => decide (1 ≤ us.length) && decide (us.length ≤ 40)
  | _ => false
def t2 (n : Nat) : W → Bool
  | .tup us => decide (us.length = n) && us.all isR
  | _ => false
def fl : List W → Nat
  | .tup us :: _ => us.length
  | _ => 0
def isT (ws : List W) : Bool := decide (ws.length ≤ 40) && (ws.all t1 && ws.all (t2 (fl ws)))
theorem t1_no {H : Store} {v : W} (h : NoTup H v) : t1 v = false := by
  have := noTup_ne h
  cases v with
  | tup us => exact absurd rfl (this us)
  | _ => rfl
theorem t1_ok {H : Store} {wT : Option W} {v : W} (s : RowSh H v) : cAnd (cIsi1 "tuple" (cVar 1)) (cChain .LtE .LtE (cVal (.int 1)) (cV1 lenV (cVar 1)) (cVal (.int 40))) [wT, some v, none] H = .ok (.bl (t1 v)) H := by
  rcases s with ⟨us, rfl, hl, _⟩ | h
  · by_cases c : 1 ≤ us.length
    · have c2 : (1 : Int) ≤ (us.length : Int) := by omega
      by_cases d : us.length ≤ 40
      · have d2 : (us.length : Int) ≤ 40 := by omega
        simp [t1, c, d, c2, d2]
      · have d2 : ¬ (us.length : Int) ≤ 40 := by omega
        simp [t1, c, d, c2, d2]
    · have c2 : ¬ (1 : Int) ≤ (us.length : Int) := by omega
      simp [t1, c, c2]
  · rw [t1_no h]
    obtain ⟨t, e1, e2⟩ := h
    simp [e1, e2]
theorem items_comp {te : Den} {H : Store} {us : List W} (hl : us.length ≤ 41) {e0 e1 : Option W} (ht : ∀ u ∈ us, te [e0, e1, some u] H = .ok (.bl (isR u)) H) : compL [] (.nm 2) cTrue te [e0, e1, none] us [] H = .ok (us.map fun u => .bl (isR u)) H := by
  have := comp_map (T := .nm 2) (tt := cTrue) (te := te) (ρ0 := [e0, e1, none]) (enc := id) (f := fun u => .bl (isR u)) (h := H) us (Nat.le_trans hl (by decide)) fun u hu => ⟨_, bind_nm _ _ _, rfl, ht u hu⟩
  rw [List.map_id] at this
  exact this
theorem c_any_sh (k : Nat) {H : Store} {ws : List W} (hl : ws.length ≤ 41) (hs : ∀ v ∈ ws, RowSh H v) : callK prg (k + 3) "is_any_table" [.tup ws] H = .ok (.bl (isT ws)) H := by
  by_cases c40 : ws.length ≤ 40
  · have hl2 : ws.length ≤ 16777216 := Nat.le_trans c40 (by decide)
    have e0 : isT ws = (ws.all t1 && ws.all (t2 (fl ws))) := by
      unfold isT
      rw [decide_eq_true c40, Bool.true_and]
    have e1 : compL [] (.nm 1) cTrue (cAnd (cIsi1 "tuple" (cVar 1)) (cChain .LtE .LtE (cVal (.int 1)) (cV1 lenV (cVar 1)) (cVal (.int 40)))) [some (.tup ws), none, none] ws [] H = .ok (ws.map fun w => .bl (t1 w)) H := by
      have := comp_map (T := .nm 1) (tt := cTrue) (te := cAnd (cIsi1 "tuple" (cVar 1)) (cChain .LtE .LtE (cVal (.int 1)) (cV1 lenV (cVar 1)) (cVal (.int 40)))) (ρ0 := [some (.tup ws), none, none]) (enc := id) (f := fun w => .bl (t1 w)) (h := H) ws hl2 fun w hw => ⟨_, bind_nm _ _ _, rfl, t1_ok (hs w hw)⟩
      rw [List.map_id] at this
      exact this
    rw [e0, k_is_any_table]
    by_cases c : ws.all t1 = true
    · have e2 : compL [] (.nm 1) cTrue (cAnd (cCmp .Eq (cV1 lenV (cVar 1)) (cV1 lenV (cIx (cVar 0) (cVal (.int 0))))) (cQ1 allQ (cSeqF (cComp (cItV (cVar 1)) [2] (.nm 2) cTrue (cCall (callK prg (k + 2)) 1 "is_ratio" (cCons (cVar 2) cNil)))))) [some (.tup ws), none, none] ws [] H = .ok (ws.map fun w => .bl (t2 (fl ws) w)) H := by
        have := comp_map (T := .nm 1) (tt := cTrue) (te := cAnd (cCmp .Eq (cV1 lenV (cVar 1)) (cV1 lenV (cIx (cVar 0) (cVal (.int 0))))) (cQ1 allQ (cSeqF (cComp (cItV (cVar 1)) [2] (.nm 2) cTrue (cCall (callK prg (k + 2)) 1 "is_ratio" (cCons (cVar 2) cNil)))))) (ρ0 := [some (.tup ws), none, none]) (enc := id) (f := fun w => .bl (t2 (fl ws) w)) (h := H) ws hl2 fun w hw => by
          have ct := List.all_eq_true.mp c
          rcases hs w hw with ⟨us, rfl, lu, iu⟩ | h
          · obtain ⟨u0, r0, e⟩ : ∃ u0 r0, ws = .tup u0 :: r0 := by
              cases ws with
              | nil => cases hw
              | cons a b =>
                have := ct a List.mem_cons_self
                cases a with
                | tup u0 => exact ⟨u0, b, rfl⟩
                | _ => cases this
            have ic := items_comp lu (te := cCall (callK prg (k + 2)) 1 "is_ratio" (cCons (cVar 2) cNil)) (H := H) (e0 := some (.tup ws)) (e1 := some (.tup us)) (fun u hu => by simp [c_ratio_sh k (iu u hu)])
            refine ⟨_, bind_nm _ _ _, rfl, ?_⟩
            subst e
            show _ = Out.ok (W.bl (decide (us.length = u0.length) && us.all isR)) H
            by_cases cl : us.length = u0.length
            · simp [cl, ic, all_map]
            · have c2 : ((us.length : Int) == (u0.length : Int)) = false := by simpa using fun z => cl (Int.ofNat.inj z)
              have c3 : ¬ (us.length : Int) = (u0.length : Int) := by omega
              simp [cl, c2, c3]
          · have := ct w hw
            rw [t1_no h] at this
            cases this
        rw [List.map_id] at this
        exact this
      rw [c, Bool.true_and]
      simp [b_is_any_table, startR, e1, e2, all_map, c, cutR_same, show ¬ (40 < (ws.length : Int)) by omega]
    · have c' : ws.all t1 = false := Bool.eq_false_iff.mpr c
      rw [c', Bool.false_and]
      simp [b_is_any_table, startR, e1, all_map, c', cutR_same, show ¬ (40 < (ws.length : Int)) by omega]
  · have e0 : isT ws = false := by
      unfold isT
      rw [decide_eq_false c40, Bool.false_and]
    rw [e0, k_is_any_table]
    simp [b_is_any_table, startR, cutR_same, show (40 < (ws.length : Int)) by omega]
theorem c_any_no (k : Nat) {H : Store} {w : W} (h : NoTup H w) : callK prg (k + 1) "is_any_table" [w] H = .ok (.bl false) H := by
  obtain ⟨t, e1, e2⟩ := h
  rw [k_is_any_table]
  simp [b_is_any_table, startR, e1, e2, cutR_same]
theorem c_lis_no (k : Nat) {H : Store} {w : W} (h : NoTup H w) : callK prg (k + 1) "_law_is" [w] H = .ok (.bl false) H := by
  obtain ⟨t, e1, e2⟩ := h
  rw [k__law_is]
  simp [b__law_is, startR, e1, e2, cutR_same]
noncomputable def lisBody (k : Nat) : DenS := sSeq (sIf (tcOr (tcNot (tcVal (cIsi1 "tuple" (cVar 1)))) (tcOr (tcNot (tcChain .LtE .LtE (cVal (.int 1)) (cV1 lenV (cVar 1)) (cVal (.int 40)))) (tcCmp .NotEq (cV1 lenV (cVar 1)) (cV1 lenV (cIx (cVar 0) (cVal (.int 0))))))) (sSeq (sRet (cVal (.bl false)))
    sSkip) sSkip)
    (sSeq (sIf (tcNot (tcVal (cQ1 allQ (cSeqF (cComp (cItV (cVar 1)) [2] (.nm 2) cTrue (cCall (callK prg k) 1 "_law_item_is" (cCons (cVar 2) cNil))))))) (sSeq (sRet (cVal (.bl false)))
    sSkip) sSkip)
    sSkip)
theorem lis_turn {k : Nat} (hk : 35 ≤ k) {H : Store} {u0 r0 : List W} {v : W} (s : RowSh H v) : lisBody k [some (.tup (.tup u0 :: r0)), some v, none] H = if (t1 v && t2 u0.length v) = true then .next [some (.tup (.tup u0 :: r0)), some v, none] H else .ret (.bl false) H := by
  obtain ⟨k, rfl⟩ : ∃ z, k = z + 1 := ⟨k - 1, by omega⟩
  unfold lisBody
  rcases s with ⟨us, rfl, lu, iu⟩ | h
  · have ic := items_comp lu (te := cCall (callK prg (k + 1)) 1 "_law_item_is" (cCons (cVar 2) cNil)) (H := H) (e0 := some (.tup (.tup u0 :: r0))) (e1 := some (.tup us)) (fun u hu => by simp [c_litem_sh k (by omega) (iu u hu)])
    by_cases c : 1 ≤ us.length
    · have c2 : (1 : Int) ≤ (us.length : Int) := by omega
      by_cases d : us.length ≤ 40
      · have d2 : (us.length : Int) ≤ 40 := by omega
        by_cases cl : us.length = u0.length
        · have e : (t1 (.tup us) && t2 u0.length (.tup us)) = us.all isR := by
            show ((decide (1 ≤ us.length) && decide (us.length ≤ 40)) && (decide (us.length = u0.length) && us.all isR)) = _
            rw [decide_eq_true c, decide_eq_true d, decide_eq_true cl]
            rfl
          rw [e]
          rw [cl] at c2 d2
          cases ha : us.all isR with
          | true => simp [c2, d2, cl, ic, all_map, ha]
          | false => simp [c2, d2, cl, ic, all_map, ha]
        · have e : (t1 (.tup us) && t2 u0.length (.tup us)) = false := by
            show (_ && (decide (us.length = u0.length) && us.all isR)) = _
            rw [decide_eq_false cl, Bool.false_and, Bool.and_false]
          rw [e]
          have n2 : ((us.length : Int) == (u0.length : Int)) = false := by simpa using fun z => cl (Int.ofNat.inj z)
          have n3 : ¬ (us.length : Int) = (u0.length : Int) := by omega
          simp [c2, d2, n2, n3]
      · have d2 : ¬ (us.length : Int) ≤ 40 := by omega
        have e : (t1 (.tup us) && t2 u0.length (.tup us)) = false := by
          show ((decide (1 ≤ us.length) && decide (us.length ≤ 40)) && _) = _
          rw [decide_eq_false d, Bool.and_false, Bool.false_and]
        rw [e]
        simp [c2, d2]
    · have c2 : ¬ (1 : Int) ≤ (us.length : Int) := by omega
      have e : (t1 (.tup us) && t2 u0.length (.tup us)) = false := by
        show ((decide (1 ≤ us.length) && decide (us.length ≤ 40)) && _) = _
        rw [decide_eq_false c, Bool.false_and, Bool.false_and]
      rw [e]
      simp [c2]
  · rw [t1_no h, Bool.false_and]
    obtain ⟨t, e1, e2⟩ := h
    simp [e1, e2]
theorem lis_loop {k : Nat} (hk : 35 ≤ k) {H : Store} {u0 r0 : List W} : ∀ (vs : List W) (a1 : Option W), (∀ v ∈ vs, RowSh H v) → (vs.all (fun v => t1 v && t2 u0.length v) = true ∧ ∃ a1', forL [] (.nm 1) (lisBody k) vs [some (.tup (.tup u0 :: r0)), a1, none] H = .next [some (.tup (.tup u0 :: r0)), a1', none] H) ∨ (vs.all (fun v => t1 v && t2 u0.length v) = false ∧ forL [] (.nm 1) (lisBody k) vs [some (.tup (.tup u0 :: r0)), a1, none] H = .ret (.bl false) H)
  | [], a1, _ => .inl ⟨rfl, a1, forL_nil (gdOk_nil _)⟩
  | v :: vs, a1, h => by
    have t := lis_turn hk (u0 := u0) (r0 := r0) (h v List.mem_cons_self)
    by_cases c : (t1 v && t2 u0.length v) = true
    · rw [if_pos c] at t
      rcases lis_loop hk vs (some v) (fun x hx => h x (List.mem_cons_of_mem _ hx)) with ⟨i1, a1', i2⟩ | ⟨i1, i2⟩
      · exact .inl ⟨by rw [List.all_cons, c, i1]; rfl, a1', forL_step (gdOk_nil _) (bind_nm _ _ _) t i2⟩
      · exact .inr ⟨by rw [List.all_cons, i1, Bool.and_false], forL_step (gdOk_nil _) (bind_nm _ _ _) t i2⟩
    · rw [if_neg c] at t
      exact .inr ⟨by rw [List.all_cons, Bool.eq_false_iff.mpr c, Bool.false_and], forL_ret (gdOk_nil _) (bind_nm _ _ _) t⟩
theorem all_both (p q : W → Bool) : ∀ l : List W, l.all (fun v => p v && q v) = (l.all p && l.all q)
  | [] => rfl
  | v :: l => by
    rw [List.all_cons, List.all_cons, List.all_cons, all_both p q l]
    cases p v <;> cases q v <;> cases l.all p <;> rfl
theorem c_lis_sh (k : Nat) (hk : 35 ≤ k) {H : Store} {ws : List W} (hl : ws.length ≤ 41) (hs : ∀ v ∈ ws, RowSh H v) : callK prg (k + 1) "_law_is" [.tup ws] H = .ok (.bl (isT ws)) H := by
  by_cases c40 : ws.length ≤ 40
  · have e0 : isT ws = (ws.all t1 && ws.all (t2 (fl ws))) := by
      unfold isT
      rw [decide_eq_true c40, Bool.true_and]
    rw [e0]
    have c41 : ¬ (40 < (ws.length : Int)) := by omega
    cases ws with
    | nil =>
      rw [k__law_is]
      simp [b__law_is, startR, forL_nil (gdOk_nil _), cutR_same]
    | cons v vs =>
      have hv := hs v List.mem_cons_self
      by_cases tv : t1 v = true
      · obtain ⟨u0, rfl⟩ : ∃ u0, v = .tup u0 := by
          cases v with
          | tup u0 => exact ⟨u0, rfl⟩
          | _ => cases tv
        have ef : fl (.tup u0 :: vs) = u0.length := rfl
        rw [ef, ← all_both]
        have lp := lis_loop hk (H := H) (u0 := u0) (r0 := vs) (.tup u0 :: vs) none hs
        unfold lisBody at lp
        generalize hb : (W.tup u0 :: vs).all (fun v => t1 v && t2 u0.length v) = b at lp ⊢
        have itw : itOf H (.tup (.tup u0 :: vs)) = some (.tup u0 :: vs, []) := rfl
        have lw : lenV (.tup (.tup u0 :: vs)) H = some (.int ((W.tup u0 :: vs).length : Int), H) := rfl
        generalize hW : (W.tup u0 :: vs) = Ws at *
        rcases lp with ⟨rfl, a1', lp⟩ | ⟨rfl, lp⟩
        · rw [k__law_is]
          simp [b__law_is, startR, c41, lp, cutR_same]
        · rw [k__law_is]
          simp [b__law_is, startR, c41, lp, cutR_same]
      · have tv' : t1 v = false := Bool.eq_false_iff.mpr tv
        have e1 : ((v :: vs).all t1 && (v :: vs).all (t2 (fl (v :: vs)))) = false := by
          rw [List.all_cons, tv', Bool.false_and, Bool.false_and]
        rw [e1]
        have st : lisBody k [some (.tup (v :: vs)), some v, none] H = .ret (.bl false) H := by
          unfold lisBody
          rcases hv with ⟨us, rfl, lu, iu⟩ | h
          · by_cases c : 1 ≤ us.length
            · have c2 : (1 : Int) ≤ (us.length : Int) := by omega
              have d : ¬ us.length ≤ 40 := fun z => tv (by
                show (decide (1 ≤ us.length) && decide (us.length ≤ 40)) = true
                rw [decide_eq_true c, decide_eq_true z]
                rfl)
              have d2 : ¬ (us.length : Int) ≤ 40 := by omega
              simp [c2, d2]
            · have c2 : ¬ (1 : Int) ≤ (us.length : Int) := by omega
              simp [c2]
          · obtain ⟨t, e1, e2⟩ := h
            simp [e1, e2]
        have lp : forL [] (.nm 1) (lisBody k) (v :: vs) [some (.tup (v :: vs)), none, none] H = .ret (.bl false) H := forL_ret (gdOk_nil _) (bind_nm _ _ _) st
        unfold lisBody at lp
        generalize hW : (v :: vs) = Ws at *
        rw [k__law_is]
        simp [b__law_is, startR, c41, lp, cutR_same]
  · have e0 : isT ws = false := by
      unfold isT
      rw [decide_eq_false c40, Bool.false_and]
    rw [e0, k__law_is]
    simp [b__law_is, startR, cutR_same, show (40 < (ws.length : Int)) by omega]
end K01
end
section
set_option Elab.async false
set_option linter.all false
set_option maxRecDepth 100000
set_option maxHeartbeats 2000000
namespace K01
open PySem PySem.Spec Wv L2
/-! ### is_table with told numbers -/
def oW : Option Int → W
  | none => .non
  | some i => .int i
def fitO : Option Int → Int → Bool
  | none, _ => true
  | some i, a => decide (a = i)
theorem isn_n (H : Store) : cmpW .IsNot .non .non H = some false := rfl
theorem isn_i (H : Store) (i : Int) : cmpW .IsNot (.int i) .non H = some true := rfl
theorem isn_b (H : Store) (i : Bool) : cmpW .IsNot (.bl i) .non H = some true := rfl
theorem isn_s (H : Store) (i : Str) : cmpW .IsNot (.str i) .non H = some true := rfl
theorem isn_t (H : Store) (i : List W) : cmpW .IsNot (.tup i) .non H = some true := rfl
theorem c_istable (k : Nat) {H : Store} {w : W} {b : Bool} {a c : Int} (any : callK prg (k + 3) "is_any_table" [w] H = .ok (.bl b) H) (tr : b = true → lenV w H = some (.int a, H) ∧ callK prg (k + 3) "width_of" [w] H = .ok (.int c) H) (R C : Option Int) (hR : ∀ i, R = some i → 0 ≤ i ∧ i ≤ 40) (hC : ∀ i, C = some i → 0 ≤ i ∧ i ≤ 40) : callK prg (k + 4) "is_table" [w, oW R, oW C] H = .ok (.bl (b && (fitO R a && fitO C c))) H := by
  have step : ∀ (o : Option Int), (∀ i, o = some i → 0 ≤ i ∧ i ≤ 40) → ∀ e0 e1 e2 a3 : Option W, (sSeq (sIf (tcCmp .IsNot (cVar 3) (cVal .non)) (sSeq (sExpr (cCall (callK prg (k + 3)) 2 "check_number" (cCons (cVar 3) (cCons (cVal (.int 40)) cNil))))
    sSkip) sSkip)
    sSkip) [e0, e1, e2, some (oW o)] H = .next [e0, e1, e2, some (oW o)] H := fun o ho e0 e1 e2 a3 => by
    cases o with
    | none => simp [oW, isn_n]
    | some i =>
      obtain ⟨h0, h1⟩ := ho i rfl
      simp [oW, isn_i, c_chknum (k + 1) H h0 h1]
  have lp : forL [] (.nm 3) (sSeq (sIf (tcCmp .IsNot (cVar 3) (cVal .non)) (sSeq (sExpr (cCall (callK prg (k + 3)) 2 "check_number" (cCons (cVar 3) (cCons (cVal (.int 40)) cNil))))
    sSkip) sSkip)
    sSkip) [oW R, oW C] [some w, some (oW R), some (oW C), none] H = .next [some w, some (oW R), some (oW C), some (oW C)] H := by
    refine forL_step (gdOk_nil _) (bind_nm _ _ _) (step R hR _ _ _ none) ?_
    refine forL_step (gdOk_nil _) (bind_nm _ _ _) (step C hC _ _ _ none) ?_
    exact forL_nil (gdOk_nil _)
  cases b with
  | false =>
    rw [k_is_table]
    simp [b_is_table, startR, lp, any, cutR_same]
  | true =>
    obtain ⟨l1, l2⟩ := tr rfl
    have o1 : ∀ (o : Option Int) (z : Int), cmpW .Is (oW o) .non H = some (decide (o = none)) := fun o z => by cases o <;> rfl
    rw [k_is_table]
    cases R with
    | none =>
      cases C with
      | none =>
        simp [oW] at lp
        simp [b_is_table, startR, oW, lp, any, fitO, cutR_same]
      | some c' =>
        simp [oW] at lp
        by_cases z : c = c'
        · simp [b_is_table, startR, oW, lp, any, l2, fitO, z, cutR_same]
        · simp [b_is_table, startR, oW, lp, any, l2, fitO, z, cutR_same]
    | some r' =>
      simp [oW] at lp
      by_cases y : a = r'
      · cases C with
        | none => simp [b_is_table, startR, oW, lp, any, l1, fitO, y, cutR_same]
        | some c' =>
          by_cases z : c = c'
          · simp [b_is_table, startR, oW, lp, any, l1, l2, fitO, y, z, cutR_same]
          · simp [b_is_table, startR, oW, lp, any, l1, l2, fitO, y, z, cutR_same]
      · have y2 : (a == r') = false := by simpa using y
        cases C with
        | none => simp [b_is_table, startR, oW, lp, any, l1, fitO, y, y2, cutR_same]
        | some c' => simp [b_is_table, startR, oW, lp, any, l1, fitO, y, y2, cutR_same]
/-! ### numbers that are none -/
structure NumBad (H : Store) (w : W) (m : Int) : Prop where
  isn : cmpW .IsNot w .non H = some true
  chk : ∀ k, callK prg (k + 2) "check_number" [w, .int m] H = malX H
theorem nb_int {H : Store} {i m : Int} (e : i < 0 ∨ m < i) : NumBad H (.int i) m := ⟨rfl, fun k => c_chknum_x k H e⟩
theorem nb_bl {H : Store} {b : Bool} {m : Int} : NumBad H (.bl b) m := ⟨rfl, fun k => by
  rw [k_check_number]
  simp [b_check_number, startR, c_isint_bl, cutX_same]⟩
theorem nb_str {H : Store} {x : Str} {m : Int} : NumBad H (.str x) m := ⟨rfl, fun k => by
  rw [k_check_number]
  simp [b_check_number, startR, c_isint_str, cutX_same]⟩
theorem nb_tup {H : Store} {us : List W} {m : Int} : NumBad H (.tup us) m := ⟨rfl, fun k => by
  rw [k_check_number]
  simp [b_check_number, startR, c_isint_tup, cutX_same]⟩
theorem chk_non {H : Store} {m : Int} (k : Nat) : callK prg (k + 2) "check_number" [.non, .int m] H = malX H := by
  rw [k_check_number]
  simp [b_check_number, startR, c_isint_non, cutX_same]
theorem c_istable_x1 (k : Nat) {H : Store} {w v u : W} (n : NumBad H v 40) : callK prg (k + 3) "is_table" [w, v, u] H = malX H := by
  have lp : forL [] (.nm 3) (sSeq (sIf (tcCmp .IsNot (cVar 3) (cVal .non)) (sSeq (sExpr (cCall (callK prg (k + 2)) 2 "check_number" (cCons (cVar 3) (cCons (cVal (.int 40)) cNil))))
    sSkip) sSkip)
    sSkip) [v, u] [some w, some v, some u, none] H = .exc ⟨"Malformed", none⟩ [some w, some v, some u, some v] H := by
    unfold forL
    rw [if_pos (gdOk_nil _), bind_nm]
    dsimp only
    have e : (sSeq (sIf (tcCmp .IsNot (cVar 3) (cVal .non)) (sSeq (sExpr (cCall (callK prg (k + 2)) 2 "check_number" (cCons (cVar 3) (cCons (cVal (.int 40)) cNil))))
    sSkip) sSkip)
    sSkip) ([some w, some v, some u, none].set 3 (some v)) H = .exc ⟨"Malformed", none⟩ [some w, some v, some u, some v] H := by
      simp [n.isn, n.chk k]
    rw [e]
  rw [k_is_table]
  simp [b_is_table, startR, lp, cutX_same]
theorem c_istable_x2 (k : Nat) {H : Store} {w v : W} (n : NumBad H v 40) : callK prg (k + 3) "is_table" [w, .non, v] H = malX H := by
  have lp : forL [] (.nm 3) (sSeq (sIf (tcCmp .IsNot (cVar 3) (cVal .non)) (sSeq (sExpr (cCall (callK prg (k + 2)) 2 "check_number" (cCons (cVar 3) (cCons (cVal (.int 40)) cNil))))
    sSkip) sSkip)
    sSkip) [.non, v] [some w, some .non, some v, none] H = .exc ⟨"Malformed", none⟩ [some w, some .non, some v, some v] H := by
    refine forL_step (h2 := H) (ρ2 := [some w, some .non, some v, some .non]) (gdOk_nil _) (bind_nm _ _ _) (by simp [isn_n]) ?_
    unfold forL
    rw [if_pos (gdOk_nil _), bind_nm]
    dsimp only
    have e : (sSeq (sIf (tcCmp .IsNot (cVar 3) (cVal .non)) (sSeq (sExpr (cCall (callK prg (k + 2)) 2 "check_number" (cCons (cVar 3) (cCons (cVal (.int 40)) cNil))))
    sSkip) sSkip)
    sSkip) ([some w, some .non, some v, some .non].set 3 (some v)) H = .exc ⟨"Malformed", none⟩ [some w, some .non, some v, some v] H := by
      simp [n.isn, n.chk k]
    rw [e]
  rw [k_is_table]
  simp [b_is_table, startR, lp, cutX_same]
theorem c_unit_x (k : Nat) {H : Store} {v : W} (n : ∀ k, callK prg (k + 2) "check_number" [v, .int 40] H = malX H) : callK prg (k + 3) "unit_table" [v] H = malX H := by
  rw [k_unit_table]
  simp [b_unit_table, startR, n k, cutX_same]
theorem c_power_x2 (k : Nat) {M n : Nat} {T : List (List Fr)} {H : Store} {v : W} (tT : Tab M n T) (hM : M ≤ 20000) (e : T.length = wd T) (nb : ∀ k, callK prg (k + 2) "check_number" [v, .int 60] H = malX H) : callK prg (k + 6) "table_power" [tw T, v] H = malX H := by
  have cs : callK prg (k + 5) "check_square" [tw T] H = .ok .non H := by
    rw [k_check_square]
    simp [b_check_square, startR, c_check k H (by omega) tT, c_wd, len_tw, e, cutR_same]
  rw [k_table_power]
  simp [b_table_power, startR, cs, nb (k + 3), cutX_same]
theorem c_scaled_x (k : Nat) {M n : Nat} {T : List (List Fr)} {H : Store} {v : W} (tT : Tab M n T) (hM : M ≤ 20000) (nr : callK prg (k + 4) "is_ratio" [v] H = .ok (.bl false) H) : callK prg (k + 5) "table_scaled" [tw T, v] H = malX H := by
  rw [k_table_scaled]
  simp [b_table_scaled, startR, c_check k H (by omega) tT, nr, cutX_same]
/-! ### the ten asked at a value that is no table -/
section
variable {i L q : Nat} {w : W} {H : Store} {T : List (List Fr)}
theorem ten_raise (hi : 50 ≤ i) (any : ∀ k, callK prg (k + 3) "is_any_table" [w] H = .ok (.bl false) H) (t : Tab L q T) (hL : L ≤ 20000) : ∀ p ∈ ([("table_turned", [w]), ("table_sum", [w, w]), ("table_less", [w, w]), ("table_scaled", [w, .tup [.int 1, .int 2]]), ("table_product", [w, tw T]), ("table_product", [tw T, w]), ("table_power", [w, .int 1]), ("table_part", [w, .tup [], .tup []]), ("table_sum", [tw T, w]), ("table_less", [tw T, w])] : List (Str × List W)), callK prg (i + 8) "_law_raises" [.glo p.1, .tup p.2, .str "malformed"] H = .ok (.bl true) H := fun p hp => by
  have ck : ∀ k, callK prg (k + 4) "check_table" [w] H = malX H := fun k => by
    rw [k_check_table]
    simp [b_check_table, startR, any k, cutX_same]
  have cT : ∀ k, callK prg (k + 4) "check_table" [tw T] H = .ok .non H := fun k => c_check k H (by omega) t
  have al1 : ∀ v, callK prg (i + 5) "check_alike" [w, v] H = malX H := fun v => by
    rw [k_check_alike]
    simp [b_check_alike, startR, ck i, cutX_same]
  have al2 : callK prg (i + 5) "check_alike" [tw T, w] H = malX H := by
    rw [k_check_alike]
    simp [b_check_alike, startR, ck i, cT i, cutX_same]
  have s1 : ∀ v, callK prg (i + 6) "table_sum" [w, v] H = malX H := fun v => by
    rw [k_table_sum]
    simp [b_table_sum, startR, al1, cutX_same]
  have s2 : ∀ v, callK prg (i + 6) "table_less" [w, v] H = malX H := fun v => by
    rw [k_table_less]
    simp [b_table_less, startR, al1, cutX_same]
  simp only [List.mem_cons, List.not_mem_nil, or_false] at hp
  rcases hp with z | z | z | z | z | z | z | z | z | z <;> subst z
  · refine c_raises (j := i + 5) (c_told1x d_table_turned (f_table_turned _) ?_)
    rw [k_table_turned]
    simp [b_table_turned, startR, ck (i + 1), cutX_same]
  · exact c_raises (j := i + 5) (c_told2x d_table_sum (f_table_sum _ _) (s1 w))
  · exact c_raises (j := i + 5) (c_told2x d_table_less (f_table_less _ _) (s2 w))
  · refine c_raises (j := i + 5) (c_told2x d_table_scaled (f_table_scaled _ _) ?_)
    rw [k_table_scaled]
    simp [b_table_scaled, startR, ck (i + 1), cutX_same]
  · refine c_raises (j := i + 5) (c_told2x d_table_product (f_table_product _ _) ?_)
    rw [k_table_product]
    simp [b_table_product, startR, ck (i + 1), cutX_same]
  · refine c_raises (j := i + 5) (c_told2x d_table_product (f_table_product _ _) ?_)
    rw [k_table_product]
    simp [b_table_product, startR, ck (i + 1), cT (i + 1), cutX_same]
  · refine c_raises (j := i + 5) (c_told2x d_table_power (f_table_power _ _) ?_)
    have cs : callK prg (i + 5) "check_square" [w] H = malX H := by
      rw [k_check_square]
      simp [b_check_square, startR, ck i, cutX_same]
    rw [k_table_power]
    simp [b_table_power, startR, cs, cutX_same]
  · refine c_raises (j := i + 5) (c_told3x d_table_part (f_table_part _ _ _) ?_)
    have cc : callK prg (i + 5) "check_choices" [w, .tup [], .tup []] H = malX H := by
      rw [k_check_choices]
      simp [b_check_choices, startR, ck i, cutX_same]
    rw [k_table_part]
    simp [b_table_part, startR, cc, cutX_same]
  · refine c_raises (j := i + 5) (c_told2x d_table_sum (f_table_sum _ _) ?_)
    rw [k_table_sum]
    simp [b_table_sum, startR, al2, cutX_same]
  · refine c_raises (j := i + 5) (c_told2x d_table_less (f_table_less _ _) ?_)
    rw [k_table_less]
    simp [b_table_less, startR, al2, cutX_same]
end
end K01
end
section
set_option Elab.async false
set_option linter.all false
set_option maxRecDepth 100000
set_option maxHeartbeats 2000000
namespace K01
open PySem PySem.Spec Wv L2
noncomputable def sevenI (call : CallT) (big : Bool) : DenI := (cItF (cLst (cCons (cTup (cCons (cVar 6) (cCons (cVar 7) cNil))) (cCons (cTup (cCons (cBin big .Add (cVar 6) (cVal (.int 1))) (cCons (cVar 7) cNil))) (cCons (cTup (cCons (cVar 6) (cCons (cBin big .Add (cVar 7) (cVal (.int 1))) cNil))) (cCons (cTup (cCons (cVal .non) (cCons (cVar 7) cNil))) (cCons (cTup (cCons (cVar 6) (cCons (cVal .non) cNil))) (cCons (cTup (cCons (cVal .non) (cCons (cIf (tcCmp .Gt (cVar 7) (cVal (.int 0))) (cBin big .Sub (cVar 7) (cVal (.int 1))) (cVal (.int 1))) cNil))) (cCons (cTup (cCons (cIf (tcCmp .Gt (cVar 6) (cVal (.int 0))) (cBin big .Sub (cVar 6) (cVal (.int 1))) (cVal (.int 1))) (cCons (cVal .non) cNil))) cNil)))))))))
noncomputable def pairBody (call : CallT) (big : Bool) : DenS := (sSeq (sIf (tcOr (tcCmp .Is (cVar 8) (cVal .non)) (tcOr (tcCmp .Is (cVar 9) (cVal .non)) (tcCmp .Lt (cV2 maxV (cVar 8) (cVar 9)) (cVal (.int 41))))) (sSeq (sAsg (cAnd (cVar 5) (cAnd (cCmp .In (cVar 8) (cTup (cCons (cVal .non) (cCons (cVar 6) cNil)))) (cCmp .In (cVar 9) (cTup (cCons (cVal .non) (cCons (cVar 7) cNil)))))) (gNm 10))
    (sSeq (sIf (tcNot (tcVal (cCall call 3 "_law_tells" (cCons (cVal (.glo "is_table")) (cCons (cTup (cCons (cVar 4) (cCons (cVar 8) (cCons (cVar 9) cNil)))) (cCons (cVar 10) cNil)))))) (sSeq (sRet (cVal (.bl false)))
    sSkip) sSkip)
    sSkip)) sSkip)
    sSkip)
noncomputable def valBody (call : CallT) (big : Bool) : DenS := (sSeq (sAsg (cCall call 1 "_law_is" (cCons (cVar 4) cNil)) (gNm 5))
    (sSeq (sIf (tcNot (tcVal (cCall call 3 "_law_tells" (cCons (cVal (.glo "is_table")) (cCons (cTup (cCons (cVar 4) cNil)) (cCons (cVar 5) cNil)))))) (sSeq (sRet (cVal (.bl false)))
    sSkip) sSkip)
    (sSeq (sAsg (cIf (tcVal (cVar 5)) (cTup (cCons (cV1 lenV (cVar 4)) (cCons (cCall call 1 "_law_width" (cCons (cVar 4) cNil)) cNil))) (cTup (cCons (cVar 2) (cCons (cVar 3) cNil)))) (gTp 2 (gsCons (gNm 6) (gsCons (gNm 7) gsNil))))
    (sSeq (sFor (sevenI call big) (.tp [(.nm 8), (.nm 9)]) (pairBody call big))
    (sSeq (sAsg (cFresh (cLst (cCons (cTup (cCons (cVal (.glo "table_turned")) (cCons (cTup (cCons (cVar 4) cNil)) cNil))) (cCons (cTup (cCons (cVal (.glo "table_sum")) (cCons (cTup (cCons (cVar 4) (cCons (cVar 4) cNil))) cNil))) (cCons (cTup (cCons (cVal (.glo "table_less")) (cCons (cTup (cCons (cVar 4) (cCons (cVar 4) cNil))) cNil))) (cCons (cTup (cCons (cVal (.glo "table_scaled")) (cCons (cTup (cCons (cVar 4) (cCons (cTup (cCons (cVal (.int 1)) (cCons (cVal (.int 2)) cNil))) cNil))) cNil))) (cCons (cTup (cCons (cVal (.glo "table_product")) (cCons (cTup (cCons (cVar 4) (cCons (cVar 1) cNil))) cNil))) (cCons (cTup (cCons (cVal (.glo "table_product")) (cCons (cTup (cCons (cVar 1) (cCons (cVar 4) cNil))) cNil))) cNil)))))))) (gNm 11))
    (sSeq (sAsg (cBin big .Add (cVar 11) (cFresh (cLst (cCons (cTup (cCons (cVal (.glo "table_power")) (cCons (cTup (cCons (cVar 4) (cCons (cVal (.int 1)) cNil))) cNil))) (cCons (cTup (cCons (cVal (.glo "table_part")) (cCons (cTup (cCons (cVar 4) (cCons (cTup cNil) (cCons (cTup cNil) cNil)))) cNil))) (cCons (cTup (cCons (cVal (.glo "table_sum")) (cCons (cTup (cCons (cVar 1) (cCons (cVar 4) cNil))) cNil))) (cCons (cTup (cCons (cVal (.glo "table_less")) (cCons (cTup (cCons (cVar 1) (cCons (cVar 4) cNil))) cNil))) cNil))))))) (gNm 11))
    (sSeq (sIf (tcAnd (tcNot (tcVal (cVar 5))) (tcVal (cQ1 anyQ (cSeqF (cComp (cItV (cVar 11)) [14, 15] (.tp [(.nm 14), (.nm 15)]) cTrue (cNot (cCall call 3 "_law_raises" (cCons (cVar 14) (cCons (cVar 15) (cCons (cVal (.str "malformed")) cNil)))))))))) (sSeq (sRet (cVal (.bl false)))
    sSkip) sSkip)
    sSkip)))))))
noncomputable def badBody (call : CallT) (big : Bool) : DenS := (sSeq (sIf (tcOr (tcNot (tcVal (cCall call 3 "_law_raises" (cCons (cVal (.glo "is_table")) (cCons (cTup (cCons (cVar 1) (cCons (cVar 12) (cCons (cVal .non) cNil)))) (cCons (cVal (.str "malformed")) cNil)))))) (tcOr (tcNot (tcVal (cCall call 3 "_law_raises" (cCons (cVal (.glo "is_table")) (cCons (cTup (cCons (cVar 1) (cCons (cVal .non) (cCons (cVar 12) cNil)))) (cCons (cVal (.str "malformed")) cNil)))))) (tcNot (tcVal (cCall call 3 "_law_raises" (cCons (cVal (.glo "is_table")) (cCons (cTup (cCons (cVal .non) (cCons (cVar 12) cNil))) (cCons (cVal (.str "malformed")) cNil)))))))) (sSeq (sRet (cVal (.bl false)))
    sSkip) sSkip)
    (sSeq (sIf (tcNot (tcVal (cCall call 3 "_law_raises" (cCons (cVal (.glo "unit_table")) (cCons (cTup (cCons (cVar 12) cNil)) (cCons (cVal (.str "malformed")) cNil)))))) (sSeq (sRet (cVal (.bl false)))
    sSkip) sSkip)
    sSkip))
noncomputable def powBody (call : CallT) (big : Bool) : DenS := (sSeq (sIf (tcOr (tcNot (tcVal (cCall call 3 "_law_raises" (cCons (cVal (.glo "table_power")) (cCons (cTup (cCons (cVar 13) (cCons (cVar 12) cNil))) (cCons (cVal (.str "malformed")) cNil)))))) (tcAnd (tcCmp .NotEq (cVar 12) (cTup (cCons (cVal (.int 1)) (cCons (cVal (.int 1)) cNil)))) (tcNot (tcVal (cCall call 3 "_law_raises" (cCons (cVal (.glo "table_scaled")) (cCons (cTup (cCons (cVar 13) (cCons (cVar 12) cNil))) (cCons (cVal (.str "malformed")) cNil)))))))) (sSeq (sRet (cVal (.bl false)))
    sSkip) sSkip)
    sSkip)
end K01
end
section
set_option Elab.async false
set_option linter.all false
set_option maxRecDepth 100000
set_option maxHeartbeats 2000000
namespace K01
open PySem PySem.Spec Wv L2
def seven (hi wi : Nat) : List (Option Int × Option Int) := [(some hi, some wi), (some (hi + 1), some wi), (some hi, some (wi + 1)), (none, some wi), (some hi, none), (none, some (if 0 < wi then (wi : Int) - 1 else 1)), (some (if 0 < hi then (hi : Int) - 1 else 1), none)]
theorem seven_ok {call : CallT} {big : Bool} {H : Store} {hi wi : Nat} {e0 e1 e2 e3 e4 e5 e8 e9 e10 e11 e12 e13 e14 e15 : Option W} : sevenI call big [e0, e1, e2, e3, e4, e5, some (.int (hi : Int)), some (.int (wi : Int)), e8, e9, e10, e11, e12, e13, e14, e15] H = .ok ((seven hi wi).map fun x => .tup [oW x.1, oW x.2], []) H := by
  unfold sevenI seven
  by_cases c : 0 < wi
  · have c2 : (0 : Int) < (wi : Int) := by omega
    by_cases d : 0 < hi
    · have d2 : (0 : Int) < (hi : Int) := by omega
      simp [c, d, c2, d2, oW]
    · have d2 : ¬ (0 : Int) < (hi : Int) := by omega
      simp [c, d, c2, d2, oW]
  · have c2 : ¬ (0 : Int) < (wi : Int) := by omega
    by_cases d : 0 < hi
    · have d2 : (0 : Int) < (hi : Int) := by omega
      simp [c, d, c2, d2, oW]
    · have d2 : ¬ (0 : Int) < (hi : Int) := by omega
      simp [c, d, c2, d2, oW]
theorem in_fit (H : Store) (R : Option Int) (a : Int) : cmpW .In (oW R) (.tup [.non, .int a]) H = some (fitO R a) := by
  cases R with
  | none => rfl
  | some i =>
    show some (inV (.int i) [.non, .int a]) = _
    unfold inV fitO
    simp [eqV]
    by_cases c : a = i
    · simp [c]
    · simp [c]
/-- a pair that may be asked, or is passed over -/
def PairB (R C : Option Int) : Prop := (∀ i, R = some i → 0 ≤ i) ∧ (∀ i, C = some i → 0 ≤ i) ∧ ((R = none ∨ C = none) → (∀ i, R = some i → i ≤ 40) ∧ ∀ i, C = some i → i ≤ 40)
theorem pb_ss {r c : Int} (h1 : 0 ≤ r) (h2 : 0 ≤ c) : PairB (some r) (some c) := ⟨fun i e => by cases e; exact h1, fun i e => by cases e; exact h2, fun h => by rcases h with h | h <;> cases h⟩
theorem pb_ns {c : Int} (h1 : 0 ≤ c) (h2 : c ≤ 40) : PairB none (some c) := ⟨(fun i e => nomatch e), fun i e => by cases e; exact h1, fun _ => ⟨(fun i e => nomatch e), fun i e => by cases e; exact h2⟩⟩
theorem pb_sn {c : Int} (h1 : 0 ≤ c) (h2 : c ≤ 40) : PairB (some c) none := ⟨fun i e => by cases e; exact h1, (fun i e => nomatch e), fun _ => ⟨fun i e => by cases e; exact h2, (fun i e => nomatch e)⟩⟩
theorem seven_b {hi wi : Nat} (h1 : hi ≤ 40) (h2 : wi ≤ 40) : ∀ x ∈ seven hi wi, PairB x.1 x.2 := fun x hx => by
  unfold seven at hx
  simp only [List.mem_cons, List.not_mem_nil, or_false] at hx
  rcases hx with z | z | z | z | z | z | z <;> subst z
  · exact pb_ss (by omega) (by omega)
  · exact pb_ss (by omega) (by omega)
  · exact pb_ss (by omega) (by omega)
  · exact pb_ns (by omega) (by omega)
  · exact pb_sn (by omega) (by omega)
  · exact pb_ns (by split <;> omega) (by split <;> omega)
  · exact pb_sn (by split <;> omega) (by split <;> omega)
theorem pair_turn {j : Nat} {H : Store} {w : W} {b : Bool} {hi wi : Nat} {R C : Option Int} (pb : PairB R C) (tell : (∀ i, R = some i → 0 ≤ i ∧ i ≤ 40) → (∀ i, C = some i → 0 ≤ i ∧ i ≤ 40) → callK prg (j + 3) "_law_tells" [.glo "is_table", .tup [w, oW R, oW C], .bl (b && (fitO R hi && fitO C wi))] H = .ok (.bl true) H) {big : Bool} {e0 e1 e2 e3 a10 e11 e12 e13 e14 e15 : Option W} :
    ∃ a10', pairBody (callK prg (j + 3)) big [e0, e1, e2, e3, some w, some (.bl b), some (.int (hi : Int)), some (.int (wi : Int)), some (oW R), some (oW C), a10, e11, e12, e13, e14, e15] H = .next [e0, e1, e2, e3, some w, some (.bl b), some (.int (hi : Int)), some (.int (wi : Int)), some (oW R), some (oW C), a10', e11, e12, e13, e14, e15] H := by
  obtain ⟨p1, p2, p3⟩ := pb
  have i1 := in_fit H R hi
  have i2 := in_fit H C wi
  have isn : ∀ o : Option Int, cmpW .Is (oW o) .non H = some (decide (o = none)) := fun o => by cases o <;> rfl
  have main : ∀ (tl : callK prg (j + 3) "_law_tells" [.glo "is_table", .tup [w, oW R, oW C], .bl (b && (fitO R hi && fitO C wi))] H = .ok (.bl true) H) (go : tcOr (tcCmp .Is (cVar 8) (cVal .non)) (tcOr (tcCmp .Is (cVar 9) (cVal .non)) (tcCmp .Lt (cV2 maxV (cVar 8) (cVar 9)) (cVal (.int 41)))) [e0, e1, e2, e3, some w, some (.bl b), some (.int (hi : Int)), some (.int (wi : Int)), some (oW R), some (oW C), a10, e11, e12, e13, e14, e15] H = .ok true H), ∃ a10', pairBody (callK prg (j + 3)) big [e0, e1, e2, e3, some w, some (.bl b), some (.int (hi : Int)), some (.int (wi : Int)), some (oW R), some (oW C), a10, e11, e12, e13, e14, e15] H = .next [e0, e1, e2, e3, some w, some (.bl b), some (.int (hi : Int)), some (.int (wi : Int)), some (oW R), some (oW C), a10', e11, e12, e13, e14, e15] H := fun tl go => by
    refine ⟨some (.bl (b && (fitO R hi && fitO C wi))), ?_⟩
    unfold pairBody
    rw [a_seq, a_sif, go]
    generalize oW R = WR at *
    generalize oW C = WC at *
    generalize fitO R hi = f1 at *
    generalize fitO C wi = f2 at *
    cases b <;> cases f1 <;> cases f2 <;> simp at tl <;> simp [i1, i2, tl]
  cases R with
  | none => exact main (tell (fun i e => nomatch e) (fun i e => ⟨p2 i e, (p3 (.inl rfl)).2 i e⟩)) (by simp [oW])
  | some r =>
    cases C with
    | none => exact main (tell (fun i e => ⟨p1 i e, (p3 (.inr rfl)).1 i e⟩) (fun i e => nomatch e)) (by simp [oW])
    | some c =>
      have r0 := p1 r rfl
      have c0 := p2 c rfl
      have mx : maxV (.int r) (.int c) H = some (.int (if c > r then c else r), H) := rfl
      by_cases lt : (if c > r then c else r) < 41
      · have rb : r ≤ 40 ∧ c ≤ 40 := by
          split at lt <;> omega
        exact main (tell (fun i e => by cases e; exact ⟨r0, rb.1⟩) (fun i e => by cases e; exact ⟨c0, rb.2⟩)) (by simp [oW, mx]; exact lt)
      · refine ⟨a10, ?_⟩
        unfold pairBody
        have lt' : ¬ (if r < c then c else r) < 41 := lt
        simp [oW, mx, lt']
end K01
end
section
set_option Elab.async false
set_option linter.all false
set_option maxRecDepth 100000
set_option maxHeartbeats 2000000
namespace K01
open PySem PySem.Spec Wv L2
theorem any_map {α : Type} (f : α → Bool) (xs : List α) (h : Store) : Out.of (anyQ false (xs.map fun x => .bl (f x)) h) = .ok (.bl (xs.any f)) h := by
  unfold anyQ
  rw [if_neg Bool.false_ne_true, bls_map]
  show Out.ok (W.bl ((xs.map f).any id)) h = _
  rw [List.any_map]
  rfl
theorem pair_loop {j : Nat} {H : Store} {w : W} {b : Bool} {hi wi : Nat} (tell : ∀ R C : Option Int, (∀ i, R = some i → 0 ≤ i ∧ i ≤ 40) → (∀ i, C = some i → 0 ≤ i ∧ i ≤ 40) → callK prg (j + 3) "_law_tells" [.glo "is_table", .tup [w, oW R, oW C], .bl (b && (fitO R hi && fitO C wi))] H = .ok (.bl true) H) {big : Bool} {e0 e1 e2 e3 e11 e12 e13 e14 e15 : Option W} : ∀ (ps : List (Option Int × Option Int)) (a8 a9 a10 : Option W), (∀ x ∈ ps, PairB x.1 x.2) →
    ∃ a8' a9' a10', forL [] (.tp [(.nm 8), (.nm 9)]) (pairBody (callK prg (j + 3)) big) (ps.map fun x => .tup [oW x.1, oW x.2]) [e0, e1, e2, e3, some w, some (.bl b), some (.int (hi : Int)), some (.int (wi : Int)), a8, a9, a10, e11, e12, e13, e14, e15] H = .next [e0, e1, e2, e3, some w, some (.bl b), some (.int (hi : Int)), some (.int (wi : Int)), a8', a9', a10', e11, e12, e13, e14, e15] H
  | [], a8, a9, a10, _ => ⟨a8, a9, a10, forL_nil (gdOk_nil _)⟩
  | (R, C) :: ps, a8, a9, a10, hp => by
    obtain ⟨a10', e⟩ := pair_turn (hp _ List.mem_cons_self) (tell R C) (big := big) (e0 := e0) (e1 := e1) (e2 := e2) (e3 := e3) (a10 := a10) (e11 := e11) (e12 := e12) (e13 := e13) (e14 := e14) (e15 := e15)
    obtain ⟨b8, b9, b10, ih⟩ := pair_loop tell (big := big) (e0 := e0) (e1 := e1) (e2 := e2) (e3 := e3) (e11 := e11) (e12 := e12) (e13 := e13) (e14 := e14) (e15 := e15) ps (some (oW R)) (some (oW C)) a10' fun x hx => hp x (List.mem_cons_of_mem _ hx)
    exact ⟨b8, b9, b10, forL_step (gdOk_nil _) (bind_tp2 _ _ _ _ _) e ih⟩
structure ValOk (H : Store) (w : W) : Prop where
  ex : ∃ (b : Bool) (a c : Nat), (∀ k t, callK prg (k + 3) "is_any_table" [w] (H ++ t) = .ok (.bl b) (H ++ t)) ∧ (∀ k t, 35 ≤ k → callK prg (k + 1) "_law_is" [w] (H ++ t) = .ok (.bl b) (H ++ t)) ∧
    (b = true → a ≤ 40 ∧ c ≤ 40 ∧ (∀ t, lenV w (H ++ t) = some (.int (a : Int), H ++ t)) ∧ (∀ k t, callK prg (k + 1) "width_of" [w] (H ++ t) = .ok (.int (c : Int)) (H ++ t)) ∧ ∀ k t, callK prg (k + 1) "_law_width" [w] (H ++ t) = .ok (.int (c : Int)) (H ++ t))
def six (w : W) (T : List (List Fr)) : List W := [.tup [.glo "table_turned", .tup [w]], .tup [.glo "table_sum", .tup [w, w]], .tup [.glo "table_less", .tup [w, w]], .tup [.glo "table_scaled", .tup [w, .tup [.int 1, .int 2]]], .tup [.glo "table_product", .tup [w, tw T]], .tup [.glo "table_product", .tup [tw T, w]]]
def four (w : W) (T : List (List Fr)) : List W := [.tup [.glo "table_power", .tup [w, .int 1]], .tup [.glo "table_part", .tup [w, .tup [], .tup []]], .tup [.glo "table_sum", .tup [tw T, w]], .tup [.glo "table_less", .tup [tw T, w]]]
theorem ten_comp {i L q : Nat} (hi : 50 ≤ i) {w : W} {H : Store} {T : List (List Fr)} {N : Nat} (any : ∀ k, callK prg (k + 3) "is_any_table" [w] H = .ok (.bl false) H) (t : Tab L q T) (hL : L ≤ 20000) (oN : own? H N = some (six w T ++ four w T)) {e0 e1 e2 e3 e4 e5 e6 e7 e8 e9 e10 e11 e12 e13 : Option W} :
    compL [(N, six w T ++ four w T)] (.tp [(.nm 14), (.nm 15)]) cTrue (cNot (cCall (callK prg (i + 8)) 3 "_law_raises" (cCons (cVar 14) (cCons (cVar 15) (cCons (cVal (.str "malformed")) cNil))))) [e0, e1, e2, e3, e4, e5, e6, e7, e8, e9, e10, e11, e12, e13, none, none] (six w T ++ four w T) [] H = .ok (([0, 1, 2, 3, 4, 5, 6, 7, 8, 9] : List Nat).map fun _ => .bl false) H := by
  have ten := ten_raise hi any t hL
  have g := gdOk_one (lst_own oN)
  generalize [(N, six w T ++ four w T)] = gg at g ⊢
  have := comp_mapG (T := .tp [(.nm 14), (.nm 15)]) (tt := cTrue) (te := cNot (cCall (callK prg (i + 8)) 3 "_law_raises" (cCons (cVar 14) (cCons (cVar 15) (cCons (cVal (.str "malformed")) cNil))))) (ρ0 := [e0, e1, e2, e3, e4, e5, e6, e7, e8, e9, e10, e11, e12, e13, none, none]) (enc := fun p : Str × List W => .tup [.glo p.1, .tup p.2]) (f := fun _ => .bl false) g [("table_turned", [w]), ("table_sum", [w, w]), ("table_less", [w, w]), ("table_scaled", [w, .tup [.int 1, .int 2]]), ("table_product", [w, tw T]), ("table_product", [tw T, w]), ("table_power", [w, .int 1]), ("table_part", [w, .tup [], .tup []]), ("table_sum", [tw T, w]), ("table_less", [tw T, w])] (by simp) (fun p hp => ⟨_, bind_tp2 _ _ _ _ _, rfl, by simp [ten p hp]⟩)
  exact this
theorem val_turn {j L q p : Nat} (hj : 60 ≤ j) {H t : Store} {w : W} {T : List (List Fr)} (v : ValOk H w) (tT : Tab L q T) (hL : L ≤ 20000) (hp : p ≤ 40) {big : Bool} {e0 a5 a6 a7 a8 a9 a10 a11 e12 e13 : Option W} :
    ∃ b5 b6 b7 b8 b9 b10 b11 t', valBody (callK prg (j + 3)) big [e0, some (tw T), some (.int (p : Int)), some (.int (q : Int)), some w, a5, a6, a7, a8, a9, a10, a11, e12, e13, none, none] (H ++ t) = .next [e0, some (tw T), some (.int (p : Int)), some (.int (q : Int)), some w, b5, b6, b7, b8, b9, b10, b11, e12, e13, none, none] (H ++ t') := by
  obtain ⟨b, a, c, any, law, tru⟩ := v.ex
  have q40 := tT.q40
  obtain ⟨i, rfl⟩ : ∃ i, j = i + 5 := ⟨j - 5, by omega⟩
  have l1 := law (i + 7) t (by omega)
  have ist : ∀ (R C : Option Int), (∀ i, R = some i → 0 ≤ i ∧ i ≤ 40) → (∀ i, C = some i → 0 ≤ i ∧ i ≤ 40) → callK prg (i + 6) "is_table" [w, oW R, oW C] (H ++ t) = .ok (.bl (b && (fitO R a && fitO C c))) (H ++ t) := fun R C hR hC => c_istable (i + 2) (any (i + 2) t) (fun e => ⟨(tru e).2.2.1 t, (tru e).2.2.2.1 (i + 4) t⟩) R C hR hC
  have tl1 : callK prg (i + 8) "_law_tells" [.glo "is_table", .tup [w], .bl b] (H ++ t) = .ok (.bl true) (H ++ t) := by
    have z := ist none none (fun _ e => nomatch e) (fun _ e => nomatch e)
    have y : (b && (fitO none a && fitO none c)) = b := by cases b <;> rfl
    rw [y] at z
    exact c_tells (j := i + 5) (by omega) (c_told1 d_is_table (f_is_table1 w) z) rfl
  have tell : ∀ (hi wi : Nat), (b = true → hi = a ∧ wi = c) → ∀ R C : Option Int, (∀ i, R = some i → 0 ≤ i ∧ i ≤ 40) → (∀ i, C = some i → 0 ≤ i ∧ i ≤ 40) → callK prg (i + 8) "_law_tells" [.glo "is_table", .tup [w, oW R, oW C], .bl (b && (fitO R hi && fitO C wi))] (H ++ t) = .ok (.bl true) (H ++ t) := fun hi wi hh R C hR hC => by
    have z := ist R C hR hC
    have y : (b && (fitO R a && fitO C c)) = (b && (fitO R hi && fitO C wi)) := by
      cases b with
      | false => rfl
      | true =>
        obtain ⟨e1, e2⟩ := hh rfl
        rw [e1, e2]
    rw [y] at z
    exact c_tells (j := i + 5) (by omega) (c_told3 d_is_table (f_is_table _ _ _) z) rfl
  -- the lists of what is asked
  have o1 := own_new (H ++ t) (six w T)
  have o1' := own_app (t := [Ob.lst (four w T)]) o1
  have o2 := own_new (H ++ t ++ [Ob.lst (six w T)]) (four w T)
  have n2 : (H ++ t ++ [Ob.lst (six w T)]).length = (H ++ t).length + 1 := by
    rw [List.length_append]
    rfl
  rw [n2] at o2
  have n3 : (H ++ t ++ [Ob.lst (six w T)] ++ [Ob.lst (four w T)]).length = (H ++ t).length + 2 := by
    rw [List.length_append, n2]
    rfl
  have o3 := own_new (H ++ t ++ [Ob.lst (six w T)] ++ [Ob.lst (four w T)]) (six w T ++ four w T)
  rw [n3] at o3
  have ad : opBin big .Add (.ref (H ++ t).length) (.ref ((H ++ t).length + 1)) (H ++ t ++ [Ob.lst (six w T)] ++ [Ob.lst (four w T)]) = some (.ref ((H ++ t).length + 2), H ++ t ++ [Ob.lst (six w T)] ++ [Ob.lst (four w T)] ++ [Ob.lst (six w T ++ four w T)]) := by
    have z : opBin big .Add = opAdd := rfl
    rw [z]
    unfold opAdd
    dsimp only
    rw [o1', o2]
    dsimp only
    rw [if_pos (show (six w T).length + (four w T).length ≤ 16777216 from by
      show 6 + 4 ≤ 16777216
      decide), n3]
  have it3 := (lst_of_own o3).1
  obtain ⟨H4, hH4⟩ : ∃ H4, H4 = H ++ t ++ [Ob.lst (six w T)] ++ [Ob.lst (four w T)] ++ [Ob.lst (six w T ++ four w T)] := ⟨_, rfl⟩
  have eH4 : H4 = H ++ (t ++ [Ob.lst (six w T)] ++ [Ob.lst (four w T)] ++ [Ob.lst (six w T ++ four w T)]) := by
    rw [hH4]
    simp
  rw [← hH4] at o3 ad it3
  have s6 : [W.tup [.glo "table_turned", .tup [w]], .tup [.glo "table_sum", .tup [w, w]], .tup [.glo "table_less", .tup [w, w]], .tup [.glo "table_scaled", .tup [w, .tup [.int 1, .int 2]]], .tup [.glo "table_product", .tup [w, tw T]], .tup [.glo "table_product", .tup [tw T, w]]] = six w T := rfl
  have s4 : [W.tup [.glo "table_power", .tup [w, .int 1]], .tup [.glo "table_part", .tup [w, .tup [], .tup []]], .tup [.glo "table_sum", .tup [tw T, w]], .tup [.glo "table_less", .tup [tw T, w]]] = four w T := rfl
  have z6 : (six w T).length ≤ 16777216 := by
    show 6 ≤ 16777216
    decide
  have z4 : (four w T).length ≤ 16777216 := by
    show 4 ≤ 16777216
    decide
  cases b with
  | true =>
    obtain ⟨ha, hc, tl, tw1, tw2⟩ := tru rfl
    have l2 := tl t
    have l3 := tw2 (i + 7) t
    obtain ⟨b8, b9, b10, pl⟩ := pair_loop (j := i + 5) (tell a c fun _ => ⟨rfl, rfl⟩) (big := big) (e0 := e0) (e1 := some (tw T)) (e2 := some (.int (p : Int))) (e3 := some (.int (q : Int))) (e11 := a11) (e12 := e12) (e13 := e13) (e14 := none) (e15 := none) (seven a c) a8 a9 a10 (seven_b ha hc)
    have so := @seven_ok (callK prg (i + 8)) big (H ++ t) a c e0 (some (tw T)) (some (.int (p : Int))) (some (.int (q : Int))) (some w) (some (.bl true)) a8 a9 a10 a11 e12 e13 none none
    refine ⟨some (.bl true), some (.int (a : Int)), some (.int (c : Int)), b8, b9, b10, some (.ref ((H ++ t).length + 2)), t ++ [Ob.lst (six w T)] ++ [Ob.lst (four w T)] ++ [Ob.lst (six w T ++ four w T)], ?_⟩
    rw [← eH4]
    generalize H ++ t = H1 at *
    rw [List.append_assoc H1, List.cons_append, List.nil_append] at ad
    generalize tw T = Tw at *
    generalize (seven a c).map (fun x => W.tup [oW x.1, oW x.2]) = Sv at *
    unfold valBody
    simp [l1, tl1, l2, l3, so, pl, s6, s4, z6, z4, ad]
  | false =>
    obtain ⟨b8, b9, b10, pl⟩ := pair_loop (j := i + 5) (tell p q fun e => nomatch e) (big := big) (e0 := e0) (e1 := some (tw T)) (e2 := some (.int (p : Int))) (e3 := some (.int (q : Int))) (e11 := a11) (e12 := e12) (e13 := e13) (e14 := none) (e15 := none) (seven p q) a8 a9 a10 (seven_b hp q40)
    have so := @seven_ok (callK prg (i + 8)) big (H ++ t) p q e0 (some (tw T)) (some (.int (p : Int))) (some (.int (q : Int))) (some w) (some (.bl false)) a8 a9 a10 a11 e12 e13 none none
    have tc := ten_comp (i := i) (by omega) (fun k => by
      rw [eH4]
      exact any k _) tT hL o3 (e0 := e0) (e1 := some (tw T)) (e2 := some (.int (p : Int))) (e3 := some (.int (q : Int))) (e4 := some w) (e5 := some (.bl false)) (e6 := some (.int (p : Int))) (e7 := some (.int (q : Int))) (e8 := b8) (e9 := b9) (e10 := b10) (e11 := some (.ref ((H ++ t).length + 2))) (e12 := e12) (e13 := e13)
    have an := any_map (fun _ : Nat => false) [0, 1, 2, 3, 4, 5, 6, 7, 8, 9] H4
    refine ⟨some (.bl false), some (.int (p : Int)), some (.int (q : Int)), b8, b9, b10, some (.ref ((H ++ t).length + 2)), t ++ [Ob.lst (six w T)] ++ [Ob.lst (four w T)] ++ [Ob.lst (six w T ++ four w T)], ?_⟩
    rw [← eH4]
    generalize ([0, 1, 2, 3, 4, 5, 6, 7, 8, 9] : List Nat).map (fun _ => W.bl false) = Ff at *
    generalize six w T ++ four w T = S10 at *
    generalize H ++ t = H1 at *
    rw [List.append_assoc H1, List.cons_append, List.nil_append] at ad
    generalize tw T = Tw at *
    generalize (seven p q).map (fun x => W.tup [oW x.1, oW x.2]) = Sv at *
    unfold valBody
    simp [l1, tl1, so, pl, s6, s4, z6, z4, ad, it3, tc, an]
end K01
end
section
set_option Elab.async false
set_option linter.all false
set_option maxRecDepth 100000
set_option maxHeartbeats 2000000
namespace K01
open PySem PySem.Spec Wv L2
/-! ### the values -/
theorem val_no {H : Store} {w : W} (h : ∀ t, NoTup (H ++ t) w) : ValOk H w := ⟨false, 0, 0, fun k t => c_any_no (k + 2) (h t), fun k t _ => c_lis_no k (h t), fun e => nomatch e⟩
theorem val_tup {H : Store} {ws : List W} (hl : ws.length ≤ 41) (hs : ∀ t, ∀ v ∈ ws, RowSh (H ++ t) v) : ValOk H (.tup ws) := by
  refine ⟨isT ws, ws.length, fl ws, fun k t => c_any_sh k hl (hs t), fun k t hk => c_lis_sh k hk hl (hs t), fun e => ?_⟩
  unfold isT at e
  obtain ⟨e1, e2⟩ := Bool.and_eq_true_iff.mp e
  obtain ⟨e2, e3⟩ := Bool.and_eq_true_iff.mp e2
  have e1 := of_decide_eq_true e1
  cases ws with
  | nil =>
    refine ⟨by decide, by decide, fun t => rfl, fun k t => ?_, fun k t => ?_⟩
    · rw [k_width_of]
      simp [b_width_of, startR, cutR_same, fl]
    · rw [k__law_width]
      simp [b__law_width, startR, cutR_same, fl]
  | cons v vs =>
    have tv := List.all_eq_true.mp e2 v List.mem_cons_self
    obtain ⟨us, rfl⟩ : ∃ us, v = .tup us := by
      cases v with
      | tup us => exact ⟨us, rfl⟩
      | _ => cases tv
    have ef : fl (.tup us :: vs) = us.length := rfl
    rw [ef]
    have t2 : us.length ≤ 40 := by
      have : (decide (1 ≤ us.length) && decide (us.length ≤ 40)) = true := tv
      exact of_decide_eq_true (Bool.and_eq_true_iff.mp this).2
    refine ⟨e1, t2, fun t => rfl, fun k t => ?_, fun k t => ?_⟩
    · have g0 : (0 : Int) < (vs.length : Int) + 1 := by omega
      rw [k_width_of]
      simp [b_width_of, startR, cutR_same, g0]
    · have g0 : (0 : Int) < (vs.length : Int) + 1 := by omega
      rw [k__law_width]
      simp [b__law_width, startR, cutR_same, g0]
theorem sh_fw {L : Nat} {H : Store} {x : Fr} (g : Good L x) (hL : L ≤ 20000) : ItemSh H (fw x) := .fr x.1 x.2 (g.d.mono hL)
theorem sh_fws {L : Nat} {H : Store} {r : List Fr} (g : ∀ x ∈ r, Good L x) (hL : L ≤ 20000) : ∀ u ∈ r.map fw, ItemSh H u := fun u hu => by
  obtain ⟨x, hx, rfl⟩ := List.mem_map.mp hu
  exact sh_fw (g x hx) hL
theorem row_rw {L : Nat} {H : Store} {r : List Fr} (g : ∀ x ∈ r, Good L x) (hL : L ≤ 20000) (hl : r.length ≤ 41) : RowSh H (rw r) := .inl ⟨_, rfl, by rw [List.length_map]; exact hl, sh_fws g hL⟩
theorem row_add {L : Nat} {H : Store} {r : List Fr} {u : W} (g : ∀ x ∈ r, Good L x) (hL : L ≤ 20000) (hl : r.length ≤ 40) (hu : ItemSh H u) : RowSh H (.tup (r.map fw ++ [u])) := .inl ⟨_, rfl, by rw [List.length_append, List.length_map, List.length_singleton]; omega, fun v hv => by
  rcases List.mem_append.mp hv with z | z
  · exact sh_fws g hL v z
  · rw [List.mem_singleton.mp z]
    exact hu⟩
theorem val_rows {L : Nat} {H : Store} {A : List (List Fr)} (g : ∀ r ∈ A, ∀ x ∈ r, Good L x) (hL : L ≤ 20000) (hl : A.length ≤ 41) (hr : ∀ r ∈ A, r.length ≤ 41) : ValOk H (tw A) := val_tup (by rw [List.length_map]; exact hl) fun t v hv => by
  obtain ⟨r, hm, rfl⟩ := List.mem_map.mp hv
  exact row_rw (g r hm) hL (hr r hm)
theorem no_ref {H : Store} {N : Nat} {ws : List W} (e : own? H N = some ws) (t : Store) : NoTup (H ++ t) (.ref N) := by
  have e2 := own_app (t := t) e
  refine ⟨"list", ?_, o_list_tuple⟩
  unfold own? at e2
  split at e2
  · rename_i xs z
    show (match (H ++ t)[N]? with
      | some (.lst _) => some "list"
      | some (.dic _) => some "dict"
      | none => none) = _
    rw [z]
  · cases e2
def vals1 (r : List Fr) (T : List (List Fr)) (q n0 : Nat) : List W := [tw (r :: T), .tup [], .ref n0, tw ((r :: T) ++ [r]), tw ((r :: T) ++ [r ++ [(r[0]?).getD (0, 1)]]), tw ((r :: T) ++ [r.take (q - 1)]), .tup ((r :: T).map rw ++ [.ref (n0 + 1)]), .tup [rw r], .tup [.tup []], .tup [.tup [], .tup []], .non, .int 3, .bl true, .str "T", rw r, .tup [rw r, .non], .tup [.tup ((r.take (q - 1)).map fw ++ [.tup [.int 2, .int 4]])]]
def vals2 (r : List Fr) (q n0 : Nat) : List W := [.tup [.tup ((r.take (q - 1)).map fw ++ [.int 1])], .tup [.tup ((r.take (q - 1)).map fw ++ [.ref (n0 + 3)])], .tup [.tup ((r.take (q - 1)).map fw ++ [.tup [.int 1, .int 0]])], .tup [.tup ((r.take (q - 1)).map fw ++ [.tup [.bl true, .int 1]])], .tup [.tup ((r.take (q - 1)).map fw ++ [.tup [.int 1, .int 1, .int 1]])], .tup [.tup ((r.take (q - 1)).map fw ++ [.non])], .tup [.tup ((r.take (q - 1)).map fw ++ [.tup [.int 1, .int (-1)]])]]
def vals3 (r : List Fr) : List W := [.tup (List.replicate 2 (.tup (List.replicate 40 (fw ((r[0]?).getD (0, 1)))))), .tup [.tup (List.replicate 41 (fw ((r[0]?).getD (0, 1))))], .tup (List.replicate 40 (.tup [fw ((r[0]?).getD (0, 1))])), .tup (List.replicate 41 (.tup [fw ((r[0]?).getD (0, 1))]))]
theorem vals_ok {L q : Nat} {H : Store} {r : List Fr} {T : List (List Fr)} {n0 : Nat} (t : Tab L q (r :: T)) (hL : L ≤ 20000) (p7 : (r :: T).length ≤ 7) (q7 : q ≤ 7) {w0 w1 w3 : List W} (o0 : own? H n0 = some w0) (o1 : own? H (n0 + 1) = some w1) (o3 : own? H (n0 + 3) = some w3) : ∀ w ∈ vals1 r T q n0 ++ vals2 r q n0 ++ vals3 r, ValOk H w := fun w hw => by
  have q1 := t.q1
  have hr : r.length = q := t.len r List.mem_cons_self
  have gr : ∀ x ∈ r, Good L x := t.good r List.mem_cons_self
  obtain ⟨e1, m1⟩ := get_d (show 0 < r.length by omega)
  have gx := gr _ m1
  generalize hx : (r[0]?).getD (0, 1) = x at *
  have gd : ∀ y ∈ r.take (q - 1), Good L y := fun y hy => gr y (List.mem_of_mem_take hy)
  have ld : (r.take (q - 1)).length ≤ 40 := by
    rw [List.length_take]
    omega
  have tr : ∀ v ∈ (r :: T).map rw, ∀ t', RowSh (H ++ t') v := fun v hv t' => by
    obtain ⟨s, hm, rfl⟩ := List.mem_map.mp hv
    exact row_rw (t.good s hm) hL (by rw [t.len s hm]; omega)
  have item : ∀ u : W, (∀ t', ItemSh (H ++ t') u) → ValOk H (.tup [.tup ((r.take (q - 1)).map fw ++ [u])]) := fun u hu => val_tup (by simp) fun t' v hv => by
    rw [List.mem_singleton.mp hv]
    exact row_add gd hL ld (hu t')
  have app : ∀ s : List Fr, (∀ y ∈ s, Good L y) → s.length ≤ 41 → ValOk H (tw ((r :: T) ++ [s])) := fun s gs ls => val_rows (L := L) (fun m hm => by
    rcases List.mem_append.mp hm with z | z
    · exact t.good m z
    · rw [List.mem_singleton.mp z]
      exact gs) hL (by rw [List.length_append, List.length_singleton]; omega) (fun m hm => by
    rcases List.mem_append.mp hm with z | z
    · rw [t.len m z]
      omega
    · rw [List.mem_singleton.mp z]
      exact ls)
  have nr := fun t' => no_ref o0 t'
  unfold vals1 vals2 vals3 at hw
  rw [hx] at hw
  simp only [List.cons_append, List.nil_append, List.mem_cons, List.not_mem_nil, or_false] at hw
  rcases hw with z | z | z | z | z | z | z | z | z | z | z | z | z | z | z | z | z | z | z | z | z | z | z | z | z | z | z | z <;> subst z
  · exact val_rows t.good hL (by omega) (fun m hm => by rw [t.len m hm]; omega)
  · exact val_tup (by simp) fun _ _ h => nomatch h
  · exact val_no nr
  · exact app r gr (by omega)
  · exact app (r ++ [x]) (fun y hy => by
      rcases List.mem_append.mp hy with z | z
      · exact gr y z
      · rw [List.mem_singleton.mp z]
        exact gx) (by rw [List.length_append, List.length_singleton]; omega)
  · exact app _ gd (by omega)
  · refine val_tup (by rw [List.length_append, List.length_map, List.length_singleton]; omega) fun t' v hv => ?_
    rcases List.mem_append.mp hv with z | z
    · exact tr v z t'
    · rw [List.mem_singleton.mp z]
      exact .inr (no_ref o1 t')
  · exact val_tup (by simp) fun t' v hv => by
      rw [List.mem_singleton.mp hv]
      exact row_rw gr hL (by omega)
  · exact val_tup (by simp) fun t' v hv => by
      rw [List.mem_singleton.mp hv]
      exact .inl ⟨[], rfl, by simp, fun _ h => nomatch h⟩
  · exact val_tup (by simp) fun t' v hv => by
      have : v = .tup [] := by simpa using hv
      rw [this]
      exact .inl ⟨[], rfl, by simp, fun _ h => nomatch h⟩
  · exact val_no fun _ => ⟨_, rfl, o_NoneType_tuple⟩
  · exact val_no fun _ => ⟨_, rfl, o_int_tuple⟩
  · exact val_no fun _ => ⟨_, rfl, o_bool_tuple⟩
  · exact val_no fun _ => ⟨_, rfl, o_str_tuple⟩
  · refine val_tup (by rw [List.length_map]; omega) fun t' v hv => ?_
    obtain ⟨y, hy, rfl⟩ := List.mem_map.mp hv
    exact .inl ⟨[.int y.1, .int y.2], rfl, by simp, fun u hu => by
      have : u = .int y.1 ∨ u = .int y.2 := by simpa using hu
      rcases this with e | e <;> rw [e] <;> exact .no _ ⟨_, rfl, o_int_tuple⟩⟩
  · exact val_tup (by simp) fun t' v hv => by
      have : v = rw r ∨ v = .non := by simpa using hv
      rcases this with e | e <;> rw [e]
      · exact row_rw gr hL (by omega)
      · exact .inr ⟨_, rfl, o_NoneType_tuple⟩
  · exact item _ fun _ => .fr 2 4 (by unfold sz; exact Nat.lt_of_lt_of_le (show (4 : Int).natAbs < 2 ^ 3 by decide) (Nat.pow_le_pow_right (by decide) (by decide)))
  · exact item _ fun _ => .no _ ⟨_, rfl, o_int_tuple⟩
  · exact item _ fun t' => .no _ (no_ref o3 t')
  · exact item _ fun _ => .fr 1 0 (by unfold sz; exact Nat.lt_of_lt_of_le (show (0 : Int).natAbs < 2 ^ 3 by decide) (Nat.pow_le_pow_right (by decide) (by decide)))
  · exact item _ fun _ => .bo true 1
  · exact item _ fun _ => .few _ (by simp)
  · exact item _ fun _ => .no _ ⟨_, rfl, o_NoneType_tuple⟩
  · exact item _ fun _ => .fr 1 (-1) (by unfold sz; exact Nat.lt_of_lt_of_le (show (-1 : Int).natAbs < 2 ^ 3 by decide) (Nat.pow_le_pow_right (by decide) (by decide)))
  · exact val_tup (by simp) fun t' v hv => by
      rw [(List.mem_replicate.mp hv).2]
      exact .inl ⟨_, rfl, by simp, fun u hu => by rw [(List.mem_replicate.mp hu).2]; exact sh_fw gx hL⟩
  · exact val_tup (by simp) fun t' v hv => by
      rw [List.mem_singleton.mp hv]
      exact .inl ⟨_, rfl, by simp, fun u hu => by rw [(List.mem_replicate.mp hu).2]; exact sh_fw gx hL⟩
  · exact val_tup (by simp) fun t' v hv => by
      rw [(List.mem_replicate.mp hv).2]
      exact .inl ⟨_, rfl, by simp, fun u hu => by rw [List.mem_singleton.mp hu]; exact sh_fw gx hL⟩
  · exact val_tup (by simp) fun t' v hv => by
      rw [(List.mem_replicate.mp hv).2]
      exact .inl ⟨_, rfl, by simp, fun u hu => by rw [List.mem_singleton.mp hu]; exact sh_fw gx hL⟩
end K01
end
section
set_option Elab.async false
set_option linter.all false
set_option maxRecDepth 100000
set_option maxHeartbeats 2000000
namespace K01
open PySem PySem.Spec Wv L2
theorem own_lit {h l : Store} {i : Nat} {ws : List W} (e : l[i]? = some (.lst ws)) : own? (h ++ l) (h.length + i) = some ws := by
  unfold own?
  rw [List.getElem?_append_right (by omega), Nat.add_sub_cancel_left, e]
theorem add_refs {big : Bool} {H : Store} {a b : Nat} {xs ys : List W} (e1 : own? H a = some xs) (e2 : own? H b = some ys) (hl : xs.length + ys.length ≤ 1000) : opBin big .Add (.ref a) (.ref b) H = some (.ref H.length, H ++ [Ob.lst (xs ++ ys)]) := by
  have z : opBin big .Add = opAdd := rfl
  rw [z]
  unfold opAdd
  dsimp only
  rw [e1, e2]
  dsimp only
  rw [if_pos (Nat.le_trans hl (by decide))]
theorem c_lvalues (k : Nat) {L q : Nat} {r : List Fr} {T : List (List Fr)} (t : Tab L q (r :: T)) (p7 : (r :: T).length ≤ 7) (q7 : q ≤ 7) (h : Store) : ∃ H, callK prg (k + 1) "_law_values" [tw (r :: T)] h = .ok (.ref (h.length + 7)) H ∧ own? H (h.length + 7) = some (vals1 r T q h.length ++ vals2 r q h.length ++ vals3 r) ∧ own? H h.length = some ((r :: T).map rw) ∧ own? H (h.length + 1) = some (r.map fw) ∧ own? H (h.length + 3) = some [.int 1, .int 2] ∧ Old h H := by
  have q1 := t.q1
  have hr : r.length = q := t.len r List.mem_cons_self
  obtain ⟨e1, me1⟩ := get_d (show 0 < r.length by omega)
  have i0 := fun H => ix_tw0 H r T
  have ix : ∀ H, ixW H (rw r) (.int 0) = some (fw ((r[0]?).getD (0, 1))) := fun H => atI_map e1
  have sqT : ∀ H, seqOf H (tw (r :: T)) = some (true, (r :: T).map rw) := fun H => rfl
  have sqR : ∀ H, seqOf H (rw r) = some (true, r.map fw) := fun H => rfl
  have a1 : ∀ big H, opBin big .Add (tw (r :: T)) (.tup [rw r]) H = some (tw ((r :: T) ++ [r]), H) := fun big H => add_tw big (r :: T) [r] (by rw [List.length_singleton]; omega) H
  have a2 : ∀ big H, opBin big .Add (rw r) (.tup [fw ((r[0]?).getD (0, 1))]) H = some (rw (r ++ [(r[0]?).getD (0, 1)]), H) := fun big H => add_fw1 big r _ (by omega) H
  have a3 : ∀ big H, opBin big .Add (tw (r :: T)) (.tup [rw (r ++ [(r[0]?).getD (0, 1)])]) H = some (tw ((r :: T) ++ [r ++ [(r[0]?).getD (0, 1)]]), H) := fun big H => add_tw big (r :: T) [r ++ [(r[0]?).getD (0, 1)]] (by rw [List.length_singleton]; omega) H
  have sl : ∀ H, slW H (rw r) none (some (-1)) = some (.tup ((r.take (q - 1)).map fw), H) := fun H => by
    show some (W.tup (cutW (r.map fw) _ _), H) = _
    rw [cut_neg, List.length_map, hr, List.map_take]
  have a4 : ∀ big H, opBin big .Add (tw (r :: T)) (.tup [.tup ((r.take (q - 1)).map fw)]) H = some (tw ((r :: T) ++ [r.take (q - 1)]), H) := fun big H => add_tw big (r :: T) [r.take (q - 1)] (by rw [List.length_singleton]; omega) H
  have a5 : ∀ big n H, opBin big .Add (tw (r :: T)) (.tup [.ref n]) H = some (.tup ((r :: T).map rw ++ [.ref n]), H) := fun big n H => add_one big _ _ (by rw [List.length_map]; omega) H
  have a6 : ∀ big z H, opBin big .Add (.tup ((r.take (q - 1)).map fw)) (.tup [z]) H = some (.tup ((r.take (q - 1)).map fw ++ [z]), H) := fun big z H => add_one big _ z (by
    rw [List.length_map, List.length_take, hr]
    omega) H
  have mr : ∀ big z (n : Nat) H, 1 ≤ n → n ≤ 1000 → opBin big .Mult (.tup [z]) (.int (n : Int)) H = some (.tup (List.replicate n z), H) := fun big z n H h1 h2 => mul_rep big z n h1 h2 H
  have r40 : ∀ big z H, opBin big .Mult (.tup [z]) (.int 40) H = some (.tup (List.replicate 40 z), H) := fun big z H => mr big z 40 H (by decide) (by decide)
  have r41 : ∀ big z H, opBin big .Mult (.tup [z]) (.int 41) H = some (.tup (List.replicate 41 z), H) := fun big z H => mr big z 41 H (by decide) (by decide)
  have r2 : ∀ big z H, opBin big .Mult (.tup [z]) (.int 2) H = some (.tup (List.replicate 2 z), H) := fun big z H => mr big z 2 H (by decide) (by decide)
  have m1 := fun big H => r40 big (fw ((r[0]?).getD (0, 1))) H
  have m2 := fun big H => r41 big (fw ((r[0]?).getD (0, 1))) H
  have m3 := fun big H => r2 big (.tup (List.replicate 40 (fw ((r[0]?).getD (0, 1))))) H
  have m4 := fun big H => r40 big (.tup [fw ((r[0]?).getD (0, 1))]) H
  have m5 := fun big H => r41 big (.tup [fw ((r[0]?).getD (0, 1))]) H
  clear r40 r41 r2 mr
  obtain ⟨F1, hF1⟩ : ∃ F1, F1 = vals1 r T q h.length := ⟨_, rfl⟩
  obtain ⟨F2, hF2⟩ : ∃ F2, F2 = vals2 r q h.length := ⟨_, rfl⟩
  obtain ⟨F3, hF3⟩ : ∃ F3, F3 = vals3 r := ⟨_, rfl⟩
  have l1 : F1.length = 17 := by rw [hF1]; rfl
  have l2 : F2.length = 7 := by rw [hF2]; rfl
  have l3 : F3.length = 4 := by rw [hF3]; rfl
  have g1 : F1.length ≤ 16777216 := by rw [l1]; decide
  have g2 : F2.length ≤ 16777216 := by rw [l2]; decide
  have g3 : F3.length ≤ 16777216 := by rw [l3]; decide
  have ad1 : ∀ big, opBin big .Add (.ref (h.length + 2)) (.ref (h.length + 4)) (h ++ [Ob.lst ((r :: T).map rw), Ob.lst (r.map fw), Ob.lst F1, Ob.lst [.int 1, .int 2], Ob.lst F2]) = some (.ref (h.length + 5), h ++ [Ob.lst ((r :: T).map rw), Ob.lst (r.map fw), Ob.lst F1, Ob.lst [.int 1, .int 2], Ob.lst F2, Ob.lst (F1 ++ F2)]) := fun big => by
    rw [add_refs (own_lit (i := 2) rfl) (own_lit (i := 4) rfl) (by omega), List.length_append, List.append_assoc]
    rfl
  have ad2 : ∀ big, opBin big .Add (.ref (h.length + 5)) (.ref (h.length + 6)) (h ++ [Ob.lst ((r :: T).map rw), Ob.lst (r.map fw), Ob.lst F1, Ob.lst [.int 1, .int 2], Ob.lst F2, Ob.lst (F1 ++ F2), Ob.lst F3]) = some (.ref (h.length + 7), h ++ [Ob.lst ((r :: T).map rw), Ob.lst (r.map fw), Ob.lst F1, Ob.lst [.int 1, .int 2], Ob.lst F2, Ob.lst (F1 ++ F2), Ob.lst F3, Ob.lst (F1 ++ F2 ++ F3)]) := fun big => by
    rw [add_refs (own_lit (i := 5) rfl) (own_lit (i := 6) rfl) (by rw [List.length_append]; omega), List.length_append, List.append_assoc]
    rfl
  refine ⟨h ++ [Ob.lst ((r :: T).map rw), Ob.lst (r.map fw), Ob.lst F1, Ob.lst [.int 1, .int 2], Ob.lst F2, Ob.lst (F1 ++ F2), Ob.lst F3, Ob.lst (F1 ++ F2 ++ F3)], ?_, ?_, own_lit (i := 0) rfl, own_lit (i := 1) rfl, own_lit (i := 3) rfl, ⟨_, rfl⟩⟩
  · unfold vals1 at hF1
    unfold vals2 at hF2
    unfold vals3 at hF3
    generalize (r :: T).map rw = Y at *
    generalize r.map fw = R at *
    generalize (r.take (q - 1)).map fw = D at *
    generalize tw ((r :: T) ++ [r]) = W3 at *
    generalize tw ((r :: T) ++ [r ++ [(r[0]?).getD (0, 1)]]) = W4 at *
    generalize tw ((r :: T) ++ [r.take (q - 1)]) = W5 at *
    generalize rw (r ++ [(r[0]?).getD (0, 1)]) = W6 at *
    generalize tw (r :: T) = W0 at *
    generalize rw r = W1 at *
    generalize fw ((r[0]?).getD (0, 1)) = W2 at *
    generalize List.replicate 40 W2 = Q1 at *
    generalize List.replicate 41 W2 = Q2 at *
    generalize List.replicate 2 (W.tup Q1) = Q3 at *
    generalize List.replicate 40 (W.tup [W2]) = Q4 at *
    generalize List.replicate 41 (W.tup [W2]) = Q5 at *
    have hF1' := hF1.symm
    have hF2' := hF2.symm
    have hF3' := hF3.symm
    clear hF1 hF2 hF3
    rw [k__law_values]
    simp [b__law_values, startR, i0, ix, sqT, sqR, a1, a2, a3, sl, a4, a5, a6, hF1', hF2', hF3', g1, g2, g3, ad1, ad2, m1, m2, m3, m4, m5, -s_addt]
    refine cutR_keep ?_
    unfold belowW
    exact decide_eq_false (by omega)
  · rw [← hF1, ← hF2, ← hF3]
    exact own_lit (i := 7) rfl
end K01
end
section
set_option Elab.async false
set_option linter.all false
set_option maxRecDepth 100000
set_option maxHeartbeats 2000000
namespace K01
open PySem PySem.Spec Wv L2
theorem vals_loop {j L q p N : Nat} (hj : 60 ≤ j) {H : Store} {T : List (List Fr)} {allv : List W} (tT : Tab L q T) (hL : L ≤ 20000) (hp : p ≤ 40) (oN : own? H N = some allv) {big : Bool} {e0 e12 e13 : Option W} : ∀ (vs : List W) (a4 a5 a6 a7 a8 a9 a10 a11 : Option W) (t : Store), (∀ w ∈ vs, ValOk H w) →
    ∃ b4 b5 b6 b7 b8 b9 b10 b11 t', forL [(N, allv)] (.nm 4) (valBody (callK prg (j + 3)) big) vs [e0, some (tw T), some (.int (p : Int)), some (.int (q : Int)), a4, a5, a6, a7, a8, a9, a10, a11, e12, e13, none, none] (H ++ t) = .next [e0, some (tw T), some (.int (p : Int)), some (.int (q : Int)), b4, b5, b6, b7, b8, b9, b10, b11, e12, e13, none, none] (H ++ t')
  | [], a4, a5, a6, a7, a8, a9, a10, a11, t, _ => ⟨a4, a5, a6, a7, a8, a9, a10, a11, t, forL_nil (gdOk_one (lst_own (own_app oN)))⟩
  | w :: vs, a4, a5, a6, a7, a8, a9, a10, a11, t, h => by
    obtain ⟨b5, b6, b7, b8, b9, b10, b11, t', e⟩ := val_turn hj (t := t) (h w List.mem_cons_self) tT hL hp (big := big) (e0 := e0) (a5 := a5) (a6 := a6) (a7 := a7) (a8 := a8) (a9 := a9) (a10 := a10) (a11 := a11) (e12 := e12) (e13 := e13)
    obtain ⟨c4, c5, c6, c7, c8, c9, c10, c11, t2, ih⟩ := vals_loop hj tT hL hp oN (big := big) (e0 := e0) (e12 := e12) (e13 := e13) vs (some w) b5 b6 b7 b8 b9 b10 b11 t' fun x hx => h x (List.mem_cons_of_mem _ hx)
    exact ⟨c4, c5, c6, c7, c8, c9, c10, c11, t2, forL_step (gdOk_one (lst_own (own_app oN))) (bind_nm _ _ _) e ih⟩
/-! ### numbers that are none, in each place -/
theorem bad_loop {i : Nat} (hi : 1 ≤ i) {H : Store} {big : Bool} {w : W} {e0 e2 e3 e4 e5 e6 e7 e8 e9 e10 e11 e13 e14 e15 : Option W} : ∀ (vs : List W) (a12 : Option W), (∀ v ∈ vs, NumBad H v 40) →
    ∃ b12, forL [] (.nm 12) (badBody (callK prg (i + 8)) big) vs [e0, some w, e2, e3, e4, e5, e6, e7, e8, e9, e10, e11, a12, e13, e14, e15] H = .next [e0, some w, e2, e3, e4, e5, e6, e7, e8, e9, e10, e11, b12, e13, e14, e15] H
  | [], a12, _ => ⟨a12, forL_nil (gdOk_nil _)⟩
  | v :: vs, a12, h => by
    have n := h v List.mem_cons_self
    obtain ⟨b12, ih⟩ := bad_loop hi (big := big) (w := w) (e0 := e0) (e2 := e2) (e3 := e3) (e4 := e4) (e5 := e5) (e6 := e6) (e7 := e7) (e8 := e8) (e9 := e9) (e10 := e10) (e11 := e11) (e13 := e13) (e14 := e14) (e15 := e15) vs (some v) fun x hx => h x (List.mem_cons_of_mem _ hx)
    have r1 : callK prg (i + 8) "_law_raises" [.glo "is_table", .tup [w, v, .non], .str "malformed"] H = .ok (.bl true) H := c_raises (j := i + 5) (c_told3x d_is_table (f_is_table _ _ _) (c_istable_x1 (i + 3) n))
    have r2 : callK prg (i + 8) "_law_raises" [.glo "is_table", .tup [w, .non, v], .str "malformed"] H = .ok (.bl true) H := c_raises (j := i + 5) (c_told3x d_is_table (f_is_table _ _ _) (c_istable_x2 (i + 3) n))
    have r3 : callK prg (i + 8) "_law_raises" [.glo "is_table", .tup [.non, v], .str "malformed"] H = .ok (.bl true) H := c_raises (j := i + 5) (c_told2x d_is_table (f_is_table2 _ _) (c_istable_x1 (i + 3) n))
    have r4 : callK prg (i + 8) "_law_raises" [.glo "unit_table", .tup [v], .str "malformed"] H = .ok (.bl true) H := c_raises (j := i + 5) (c_told1x d_unit_table (f_unit_table _) (c_unit_x (i + 3) n.chk))
    refine ⟨b12, forL_step (gdOk_nil _) (bind_nm _ _ _) ?_ ih⟩
    unfold badBody
    simp [r1, r2, r3, r4]
structure PowBad (H : Store) (v : W) : Prop where
  chk : ∀ k, callK prg (k + 2) "check_number" [v, .int 60] H = malX H
  ne : ∃ b, cmpW .NotEq v (.tup [.int 1, .int 1]) H = some b ∧ (b = true → ∀ k, callK prg (k + 2) "is_ratio" [v] H = .ok (.bl false) H)
theorem pow_loop {i L n : Nat} (hi : 1 ≤ i) {H : Store} {big : Bool} {Q : List (List Fr)} (tQ : Tab L n Q) (hL : L ≤ 20000) (sq : Q.length = wd Q) {e0 e1 e2 e3 e4 e5 e6 e7 e8 e9 e10 e11 e14 e15 : Option W} : ∀ (vs : List W) (a12 : Option W), (∀ v ∈ vs, PowBad H v) →
    ∃ b12, forL [] (.nm 12) (powBody (callK prg (i + 8)) big) vs [e0, e1, e2, e3, e4, e5, e6, e7, e8, e9, e10, e11, a12, some (tw Q), e14, e15] H = .next [e0, e1, e2, e3, e4, e5, e6, e7, e8, e9, e10, e11, b12, some (tw Q), e14, e15] H
  | [], a12, _ => ⟨a12, forL_nil (gdOk_nil _)⟩
  | v :: vs, a12, h => by
    have n := h v List.mem_cons_self
    obtain ⟨b12, ih⟩ := pow_loop hi (big := big) tQ hL sq (e0 := e0) (e1 := e1) (e2 := e2) (e3 := e3) (e4 := e4) (e5 := e5) (e6 := e6) (e7 := e7) (e8 := e8) (e9 := e9) (e10 := e10) (e11 := e11) (e14 := e14) (e15 := e15) vs (some v) fun x hx => h x (List.mem_cons_of_mem _ hx)
    have r1 : callK prg (i + 8) "_law_raises" [.glo "table_power", .tup [tw Q, v], .str "malformed"] H = .ok (.bl true) H := c_raises (j := i + 5) (c_told2x d_table_power (f_table_power _ _) (c_power_x2 i tQ hL sq n.chk))
    obtain ⟨b, nb, rr⟩ := n.ne
    refine ⟨b12, forL_step (gdOk_nil _) (bind_nm _ _ _) ?_ ih⟩
    unfold powBody
    cases b with
    | false =>
      generalize tw Q = Tq at *
      simp [r1, nb]
    | true =>
      have r2 : callK prg (i + 8) "_law_raises" [.glo "table_scaled", .tup [tw Q, v], .str "malformed"] H = .ok (.bl true) H := c_raises (j := i + 5) (c_told2x d_table_scaled (f_table_scaled _ _) (c_scaled_x (i + 1) tQ hL (rr rfl (i + 3))))
      generalize tw Q = Tq at *
      simp [r1, nb, r2]
theorem ne_tup {H : Store} {v : W} {d : PyData} (e : pyd H v = some d) (ne : PyData.eqv d (.tuple [.int 1, .int 1]) = false) : cmpW .NotEq v (.tup [.int 1, .int 1]) H = some true := by
  have p : pyd H (.tup [.int 1, .int 1]) = some (.tuple [.int 1, .int 1]) := pyd_of (toPy_fw H 65 (1, 1)) (by decide +kernel) (by decide +kernel)
  show (cmpEq _ _ H).map (!·) = _
  unfold cmpEq
  rw [e, p]
  dsimp only
  rw [ne]
  rfl
theorem eq_11 (H : Store) : cmpW .NotEq (.tup [.int 1, .int 1]) (.tup [.int 1, .int 1]) H = some false := by
  have := eq_fw H (1, 1) (1, 1)
  show (cmpW .Eq (fw (1, 1)) (fw (1, 1)) H).map (!·) = _
  rw [this]
  rfl
theorem pb_int {H : Store} {i : Int} (h : i < 0 ∨ 60 < i) : PowBad H (.int i) := ⟨fun k => c_chknum_x k H h, true, ne_tup (pyd_int H i) rfl, fun _ k => c_ratio_sh k (.no _ ⟨_, rfl, o_int_tuple⟩)⟩
theorem pb_bl {H : Store} {b : Bool} : PowBad H (.bl b) := ⟨nb_bl.chk, true, ne_tup (d := .bool b) (pyd_of (by unfold toPy; rfl) (by unfold PyData.canLay0; rfl) (by unfold PyData.depth; exact Nat.zero_le _)) rfl, fun _ k => c_ratio_sh k (.no _ ⟨_, rfl, o_bool_tuple⟩)⟩
theorem pb_non {H : Store} : PowBad H .non := ⟨fun k => chk_non k, true, ne_tup (d := .none) (pyd_of (by unfold toPy; rfl) (by unfold PyData.canLay0; rfl) (by unfold PyData.depth; exact Nat.zero_le _)) rfl, fun _ k => c_ratio_sh k (.no _ ⟨_, rfl, o_NoneType_tuple⟩)⟩
theorem pb_str {H : Store} : PowBad H (.str "1") := ⟨nb_str.chk, true, ne_tup (d := .str "1") (pyd_of (by unfold toPy; rfl) (by decide +kernel) (by decide +kernel)) rfl, fun _ k => c_ratio_sh k (.no _ ⟨_, rfl, o_str_tuple⟩)⟩
theorem pb_11 {H : Store} : PowBad H (.tup [.int 1, .int 1]) := ⟨nb_tup.chk, false, eq_11 H, fun e => nomatch e⟩
end K01
end
section
set_option Elab.async false
set_option linter.all false
set_option maxRecDepth 100000
set_option maxHeartbeats 2000000
namespace K01
open PySem PySem.Spec Wv L2
theorem empty_told {i : Nat} (hi : 1 ≤ i) {H : Store} (c : Int) (h0 : 0 ≤ c) (h1 : c ≤ 40) : callK prg (i + 8) "_law_tells" [.glo "is_table", .tup [.tup [], .int 0, .int c], .bl (decide (0 = c))] H = .ok (.bl true) H := by
  obtain ⟨b, a, cc, any, law, tru⟩ := (val_tup (H := H) (ws := []) (by decide) fun _ _ h => nomatch h).ex
  have an := any (i + 2) []
  rw [List.append_nil] at an
  have an2 := c_any_sh (i + 2) (H := H) (ws := []) (by decide) (fun _ h => nomatch h)
  have z := c_istable (i + 2) (H := H) (w := .tup []) (b := true) (a := 0) (c := 0) an2 (fun _ => ⟨rfl, c_wd (i + 4) [] H⟩) (some 0) (some c) (fun _ e => by cases e; exact ⟨by decide, by decide⟩) (fun _ e => by cases e; exact ⟨h0, h1⟩)
  have y : (true && (fitO (some 0) 0 && fitO (some c) 0)) = decide (0 = c) := by
    show (true && (decide ((0 : Int) = 0) && decide (0 = c))) = _
    simp
  rw [y] at z
  exact c_tells (j := i + 5) (by omega) (c_told3 d_is_table (f_is_table _ _ _) z) rfl
theorem c_forms_hold {K L q S : Nat} (hK : 70 ≤ K) {h : Store} (a : StAt h S) {r : List Fr} {T : List (List Fr)} (t : Tab L q (r :: T)) (hL : L ≤ 20000) (p7 : (r :: T).length ≤ 7) (q7 : q ≤ 7) : ∃ s0 s1, callK prg (K + 1) "_law_forms_hold" [.ref S, tw (r :: T)] h = .ok (.bl true) (h.set S (twoN s0 s1)) := by
  obtain ⟨i, rfl⟩ : ∃ z, K = z + 8 := ⟨K - 8, by omega⟩
  have q1 := t.q1
  have hr : r.length = q := t.len r List.mem_cons_self
  have lT := len_tw (r :: T)
  have lr := len_rw r
  rw [hr] at lr
  have i0 := fun H => ix_tw0 H r T
  obtain ⟨H, c1, oN, o0, o1, o3, old⟩ := c_lvalues (i + 7) t p7 q7 h
  have vo := vals_ok (H := H) t hL p7 q7 o0 o1 o3
  have itN := (lst_of_own oN).1
  generalize vals1 r T q h.length ++ vals2 r q h.length ++ vals3 r = V at *
  obtain ⟨p, hp⟩ : ∃ p, p = (r :: T).length := ⟨_, rfl⟩
  rw [← hp] at lT p7
  have k0 : Kept h H S := Kept.old a old
  obtain ⟨b4, b5, b6, b7, b8, b9, b10, b11, t', lp⟩ := vals_loop (j := i + 5) (by omega) t hL (show p ≤ 40 by omega) oN (big := decide (32 ≤ i + 8)) (e0 := some (.ref S)) (e12 := none) (e13 := none) V none none none none none none none none [] vo
  rw [List.append_nil] at lp
  have k1 : Kept h (H ++ t') S := k0.app t'
  obtain ⟨b12, lp2⟩ := bad_loop (i := i) (by omega) (H := H ++ t') (big := decide (32 ≤ i + 8)) (w := tw (r :: T)) (e0 := some (.ref S)) (e2 := some (.int (p : Int))) (e3 := some (.int (q : Int))) (e4 := b4) (e5 := b5) (e6 := b6) (e7 := b7) (e8 := b8) (e9 := b9) (e10 := b10) (e11 := b11) (e13 := none) (e14 := none) (e15 := none) [.int (-1), .int 41, .bl true, .str "1", .tup [.int 1], .int 100000000000000000000] none (fun v hv => by
    simp only [List.mem_cons, List.not_mem_nil, or_false] at hv
    rcases hv with z | z | z | z | z | z <;> subst z
    · exact nb_int (by decide)
    · exact nb_int (by decide)
    · exact nb_bl
    · exact nb_str
    · exact nb_tup
    · exact nb_int (by decide))
  generalize H ++ t' = H1 at *
  obtain ⟨Q, s0, s1, c2, lQ, mQ⟩ := c_table (K := i + 7) (p := 2) (q := 2) (by omega) (k1.at_ a) (by decide) (by decide)
  have k2 := k1.two a s0 s1
  generalize H1.set S (twoN s0 s1) = H2 at c2 k2
  have c2' : callK prg (i + 8) "_law_table" [.ref S, .int 2, .int 2] H1 = .ok (tw Q) H2 := c2
  have tQ : Tab 3 2 Q := ⟨by omega, by decide, by decide, mQ.len, mQ.good⟩
  have wQ := wd_mat mQ (by omega)
  obtain ⟨d12, lp3⟩ := pow_loop (i := i) (by omega) (H := H2) (big := decide (32 ≤ i + 8)) tQ (by decide) (by omega) (e0 := some (.ref S)) (e1 := some (tw (r :: T))) (e2 := some (.int (p : Int))) (e3 := some (.int (q : Int))) (e4 := b4) (e5 := b5) (e6 := b6) (e7 := b7) (e8 := b8) (e9 := b9) (e10 := b10) (e11 := b11) (e14 := none) (e15 := none) [.int (-1), .int 61, .bl true, .non, .str "1", .tup [.int 1, .int 1]] b12 (fun v hv => by
    simp only [List.mem_cons, List.not_mem_nil, or_false] at hv
    rcases hv with z | z | z | z | z | z <;> subst z
    · exact pb_int (by decide)
    · exact pb_int (by decide)
    · exact pb_bl
    · exact pb_non
    · exact pb_str
    · exact pb_11)
  have f1 : callK prg (i + 8) "_law_raises" [.glo "unit_table", .tup [.non], .str "malformed"] H2 = .ok (.bl true) H2 := c_raises (j := i + 5) (c_told1x d_unit_table (f_unit_table _) (c_unit_x (i + 3) fun k => chk_non k))
  have f2 : callK prg (i + 8) "_law_raises" [.glo "table_scaled", .tup [tw (r :: T), .tup [.int 2, .int 4]], .str "malformed"] H2 = .ok (.bl true) H2 := by
    have nr := c_ratio_sh (i + 3) (H := H2) (.fr 2 4 (by unfold sz; exact Nat.lt_of_lt_of_le (show (4 : Int).natAbs < 2 ^ 3 by decide) (Nat.pow_le_pow_right (by decide) (by decide))))
    have e : isR (.tup [.int 2, .int 4]) = false := by decide
    rw [e] at nr
    exact c_raises (j := i + 5) (c_told2x d_table_scaled (f_table_scaled _ _) (c_scaled_x (i + 1) t hL nr))
  have f3 := empty_told (i := i) (by omega) (H := H2) 0 (by decide) (by decide)
  have f4 := empty_told (i := i) (by omega) (H := H2) 1 (by decide) (by decide)
  rw [show decide ((0 : Int) = 0) = true from rfl] at f3
  rw [show decide ((0 : Int) = 1) = false from rfl] at f4
  have pw : ∀ big H, opBin big .Pow (.int 10) (.int 20) H = some (.int 100000000000000000000, H) := fun big H => rfl
  obtain ⟨c0, c1', ct⟩ := k2.cut (w := .bl true) rfl
  refine ⟨c0, c1', ?_⟩
  unfold valBody sevenI pairBody at lp
  unfold badBody at lp2
  unfold powBody at lp3
  generalize hbig : decide (32 ≤ i + 8) = big at *
  generalize tw (r :: T) = Tw at *
  generalize tw Q = Tq at *
  rw [k__law_forms_hold, hbig]
  unfold b__law_forms_hold
  simp [startR, lT, i0, lr, c1, itN, lp, pw, lp2, c2', lp3, f1, f2, f3, f4, ct, -s_pow]
end K01
end
section
set_option Elab.async false
set_option linter.all false
set_option maxRecDepth 100000
set_option maxHeartbeats 2000000
namespace K01
open PySem PySem.Spec Wv L2
theorem zipWith_range {F : Fr → Fr → Fr} {s t : List Fr} {q : Nat} (h1 : s.length = q) (h2 : t.length = q) : List.zipWith F s t = (List.range q).map fun j => F ((s[j]?).getD (0, 1)) ((t[j]?).getD (0, 1)) := by
  rw [← List.map_uncurry_zip_eq_zipWith, zip_range2 (0, 1) (0, 1) h1 h2, List.map_map]
  rfl
theorem zipM_range {F : Fr → Fr → Fr} {S T : List (List Fr)} {p : Nat} (h1 : S.length = p) (h2 : T.length = p) : zipM F S T = (List.range p).map fun i => List.zipWith F ((S[i]?).getD []) ((T[i]?).getD []) := by
  unfold zipM
  rw [← List.map_uncurry_zip_eq_zipWith, zip_range2 [] [] h1 h2, List.map_map]
  rfl
/-- item by item, by the law's comprehension -/
theorem lzip_comp {k L p q : Nat} {F : Fr → Fr → Fr} {f : Str} {S T : List (List Fr)} (mS : Mat L q S) (mT : Mat L q T) (lS : S.length = p) (lT : T.length = p) (hp : p ≤ 1000) (hq : q ≤ 1000) {h : Store} (c : ∀ a b, Good L a → Good L b → callK prg k f [fw a, fw b] h = .ok (fw (F a b)) h) {e0 e1 e4 e7 e8 e9 e10 e11 e12 e13 e15 e17 : Option W} :
    compL [] (.nm 14) cTrue (cQ1 tupQ (cSeqF (cComp (cItR rng1 (cCons (cVar 3) cNil)) [16] (.nm 16) cTrue (cCall (callK prg k) 2 f (cCons (cIx (cIx (cVar 5) (cVar 14)) (cVar 16)) (cCons (cIx (cIx (cVar 6) (cVar 14)) (cVar 16)) cNil)))))) [e0, e1, some (.int (p : Int)), some (.int (q : Int)), e4, some (tw S), some (tw T), e7, e8, e9, e10, e11, e12, e13, none, e15, none, e17] ((List.range p).map iw) [] h = .ok ((zipM F S T).map rw) h := by
  rw [zipM_range lS lT, List.map_map]
  have rq : rng1 [.int (q : Int)] = some ((List.range q).map iw) := rng1_nat (Nat.lt_of_le_of_lt hq (by decide))
  refine comp_map _ (by rw [List.length_range]; exact Nat.le_trans hp (by decide)) fun i hi => ?_
  have hi := List.mem_range.mp hi
  obtain ⟨s, s1, s2, s3, s4⟩ := mS.row (show i < S.length by omega)
  obtain ⟨t, t1, t2, t3, t4⟩ := mT.row (show i < T.length by omega)
  have iS : ixW h (tw S) (.int (i : Int)) = some (rw s) := atI_map s1
  have iT : ixW h (tw T) (.int (i : Int)) = some (rw t) := atI_map t1
  have ci : compL [] (.nm 16) cTrue (cCall (callK prg k) 2 f (cCons (cIx (cIx (cVar 5) (cVar 14)) (cVar 16)) (cCons (cIx (cIx (cVar 6) (cVar 14)) (cVar 16)) cNil))) [e0, e1, some (.int (p : Int)), some (.int (q : Int)), e4, some (tw S), some (tw T), e7, e8, e9, e10, e11, e12, e13, some (iw i), e15, none, e17] ((List.range q).map iw) [] h = .ok ((List.zipWith F s t).map fw) h := by
    rw [zipWith_range s3 t3, List.map_map]
    refine comp_map _ (by rw [List.length_range]; exact Nat.le_trans hq (by decide)) fun j hj => ?_
    have hj := List.mem_range.mp hj
    obtain ⟨m1, m2⟩ := get_d (show j < s.length by omega)
    obtain ⟨m3, m4⟩ := get_d (show j < t.length by omega)
    have jS : ixW h (rw s) (.int (j : Int)) = some (fw ((s[j]?).getD (0, 1))) := atI_map m1
    have jT : ixW h (rw t) (.int (j : Int)) = some (fw ((t[j]?).getD (0, 1))) := atI_map m3
    have cc := c _ _ (s4 _ m2) (t4 _ m4)
    refine ⟨_, bind_nm _ _ _, rfl, ?_⟩
    show _ = Out.ok (fw (F ((s[j]?).getD (0, 1)) ((t[j]?).getD (0, 1)))) h
    simp only [iw]
    simp [iS, iT, jS, jT, cc]
  refine ⟨_, bind_nm _ _ _, rfl, ?_⟩
  show _ = Out.ok (rw (List.zipWith F ((S[i]?).getD []) ((T[i]?).getD []))) h
  rw [s2, t2]
  show _ = Out.ok (W.tup ((List.zipWith F s t).map fw)) h
  generalize (List.zipWith F s t).map fw = Z at *
  generalize (List.range q).map iw = Yq at *
  simp [rq, ci]
/-! ### small powers -/
def bdP : Nat → Nat
  | 0 => 1
  | e + 1 => 1 + 5 * (bdP e + 3 + 1)
theorem pow_mat {n : Nat} {Q : List (List Fr)} (m : Mat 3 n Q) (lQ : Q.length = n) (n5 : n ≤ 5) : ∀ e, Mat (bdP e) n (powM Q n e)
  | 0 => unit_mat n
  | e + 1 => by
    unfold powM bdP
    exact (mul_mat (pow_mat m lQ n5 e) m lQ).mono (Nat.add_le_add_left (Nat.mul_le_mul_right _ n5) 1)
theorem bd_le {e : Nat} (h : e ≤ 5) : bdP e ≤ 19526 := by
  have : e = 0 ∨ e = 1 ∨ e = 2 ∨ e = 3 ∨ e = 4 ∨ e = 5 := by omega
  rcases this with z | z | z | z | z | z <;> subst z <;> decide
theorem lp_bound {n L : Nat} (n5 : n ≤ 5) (hL : L ≤ 19526) : 1 + n * (L + 3 + 1) + (L + 3) ≤ 90000000 := Nat.le_trans (Nat.add_le_add (Nat.add_le_add_left (Nat.mul_le_mul n5 (Nat.add_le_add_right hL (3 + 1))) 1) (Nat.add_le_add_right hL 3)) (by decide)
theorem pow_loop5 {j n : Nat} (hj : 45 ≤ j) {H : Store} {Q : List (List Fr)} (m : Mat 3 n Q) (lQ : Q.length = n) (n1 : 1 ≤ n) (n5 : n ≤ 5) {e0 e1 e2 e3 e4 e5 e6 e7 e8 e12 e13 e14 e15 e16 e17 : Option W} : ∀ (k i : Nat) (a11 : Option W), i + k = 5 →
    ∃ b11, forL [] (.nm 11) (sSeq (sIf (tcNot (tcVal (cCall (callK prg (j + 3)) 3 "_law_tells" (cCons (cVal (.glo "table_power")) (cCons (cTup (cCons (cVar 9) (cCons (cVar 11) cNil))) (cCons (cVar 10) cNil)))))) (sSeq (sRet (cVal (.bl false)))
    sSkip) sSkip)
    (sSeq (sAsg (cCall (callK prg (j + 3)) 2 "_law_product" (cCons (cVar 10) (cCons (cVar 9) cNil))) (gNm 10))
    sSkip)) ((List.range' i k).map iw) [e0, e1, e2, e3, e4, e5, e6, e7, e8, some (tw Q), some (tw (powM Q n i)), a11, e12, e13, e14, e15, e16, e17] H = .next [e0, e1, e2, e3, e4, e5, e6, e7, e8, some (tw Q), some (tw (powM Q n 5)), b11, e12, e13, e14, e15, e16, e17] H
  | 0, i, a11, hi => by
    have z : i = 5 := by omega
    subst z
    exact ⟨a11, by rw [List.range'_zero, List.map_nil]; exact forL_nil (gdOk_nil _)⟩
  | k + 1, i, a11, hi => by
    obtain ⟨b11, ih⟩ := pow_loop5 hj (H := H) m lQ n1 n5 (e0 := e0) (e1 := e1) (e2 := e2) (e3 := e3) (e4 := e4) (e5 := e5) (e6 := e6) (e7 := e7) (e8 := e8) (e12 := e12) (e13 := e13) (e14 := e14) (e15 := e15) (e16 := e16) (e17 := e17) k (i + 1) (some (iw i)) (by omega)
    have pm := pow_mat m lQ n5
    have t := tell_power (j := j) (h := H) (L := 20000) (e := i) (by omega) m lQ ⟨n1, by omega⟩ (by decide) (by decide) (by omega) (fun e he => (pm e).mono (Nat.le_trans (bd_le (by omega)) (by decide))) rfl (fun r hr => (pm i).len r hr)
    have lp := c_lprod_any (K := j + 2) (h := H) (by omega) (by rw [pow_len]; omega) (pm i) lQ n1 ⟨by omega, n1, by omega, m.len, m.good⟩ (lp_bound n5 (bd_le (by omega)))
    have e2' : mulM (powM Q n i) Q n = powM Q n (i + 1) := rfl
    rw [e2'] at lp
    refine ⟨b11, ?_⟩
    rw [List.range'_succ, List.map_cons]
    refine forL_step (gdOk_nil _) (bind_nm _ _ _) ?_ ih
    generalize tw Q = Tq at *
    generalize tw (powM Q n i) = P0 at *
    generalize tw (powM Q n (i + 1)) = P1 at *
    simp only [iw]
    simp [t, lp]
end K01
end
section
set_option Elab.async false
set_option linter.all false
set_option maxRecDepth 100000
set_option maxHeartbeats 2000000
namespace K01
open PySem PySem.Spec Wv L2
def wider (T : List (List Fr)) : List (List Fr) := T.map fun m => m ++ m.take 1
theorem wider_mat {L q : Nat} {T : List (List Fr)} (m : Mat L q T) (q1 : 1 ≤ q) : Mat L (q + 1) (wider T) := ⟨fun r hr => by
  unfold wider at hr
  obtain ⟨s, hs, rfl⟩ := List.mem_map.mp hr
  rw [List.length_append, List.length_take, m.len s hs]
  omega, fun r hr x hx => by
  unfold wider at hr
  obtain ⟨s, hs, rfl⟩ := List.mem_map.mp hr
  rcases List.mem_append.mp hx with z | z
  · exact m.good s hs x z
  · exact m.good s hs x (List.mem_of_mem_take z)⟩
theorem wider_len (T : List (List Fr)) : (wider T).length = T.length := by
  unfold wider
  rw [List.length_map]
theorem wider_comp {L q : Nat} {T : List (List Fr)} (m : Mat L q T) (hT : T.length ≤ 1000) (hq : q ≤ 900) {h : Store} {e0 e1 e2 e3 e4 e5 e6 e7 e8 e9 e10 e11 e12 e13 e14 e16 e17 : Option W} : compL [] (.nm 15) cTrue (cBin true .Add (cVar 15) (cSl (cVar 15) cNoPart (cPart (cVal (.int 1))))) [e0, e1, e2, e3, e4, e5, e6, e7, e8, e9, e10, e11, e12, e13, e14, none, e16, e17] (T.map rw) [] h = .ok ((wider T).map rw) h := by
  unfold wider
  rw [List.map_map]
  refine comp_map T (Nat.le_trans hT (by decide)) fun l hl => ?_
  have ll := m.len l hl
  have s1 : ∀ H, slW H (rw l) none (some 1) = some (.tup ((l.take 1).map fw), H) := fun H => by
    show some (W.tup (cutW (l.map fw) _ (some ((1 : Nat) : Int))), H) = _
    rw [cut_lo, List.map_take]
  have s2 : ∀ H, opBin true .Add (rw l) (.tup ((l.take 1).map fw)) H = some (rw (l ++ l.take 1), H) := fun H => add_fw true l (l.take 1) (by
    rw [List.length_take, ll]
    omega) H
  refine ⟨_, bind_nm _ _ _, rfl, ?_⟩
  show _ = Out.ok (rw (l ++ l.take 1)) _
  generalize (l.take 1).map fw = B at s1 s2
  simp [s1, s2, -s_addt]
/-! ### the empty table -/
theorem c_part0 (i : Nat) {H : Store} : callK prg (i + 6) "table_part" [tw [], .tup [], .tup []] H = .ok (tw []) H := by
  have c1 := c_check i H (L := 1) (q := 1) (T := []) (by omega) tab_nil
  have c2 := c_wd (i + 3) [] H
  have e : wd [] = 0 := rfl
  rw [e] at c2
  have lt := len_tw [] H
  have ch := c_choice (i + 2) (n := 0) (ws := []) H (by decide) rfl
  have e2 : isCh 0 [] = true := rfl
  rw [e2] at ch
  have cp := c_partof (i + 4) (L := 1) (q := 1) (T := []) (is := []) (js := []) ⟨fun r hr => (nomatch hr), fun r hr => (nomatch hr)⟩ (fun _ h => nomatch h) (fun _ h => nomatch h) (by decide) (by decide) H
  have e3 : partM [] [] [] = [] := rfl
  rw [e3, List.map_nil] at cp
  have ck : callK prg (i + 5) "check_choices" [tw [], .tup [], .tup []] H = .ok .non H := by
    generalize tw [] = Tw at *
    rw [k_check_choices]
    simp [b_check_choices, startR, c1, c2, lt, ch, cutR_same]
  have nb : cmpW .NotEq (.bl true) (.bl true) H = some false := rfl
  generalize tw [] = Tw at *
  rw [k_table_part]
  simp [b_table_part, startR, ck, cp, nb, cutR_same]
theorem tw_nil : tw [] = .tup [] := rfl
theorem empty_prod (i : Nat) {H : Store} : callK prg (i + 6) "table_product" [.tup [], .tup []] H = .ok (.tup []) H := by
  have z := c_tproduct0 (k := i + 1) H
  rw [tw_nil] at z
  exact z
theorem empty_scal (i : Nat) (hi : 50 ≤ i) {M : Nat} {H : Store} {c : Fr} (g : Good M c) (hM : M ≤ 20000) : callK prg (i + 6) "table_scaled" [.tup [], fw c] H = .ok (.tup []) H := by
  have z := c_scaled (k := i + 5) (T := []) (L := 1) (q := 1) (M := M) (c := c) H (by omega) tab_nil (by decide) g hM
  have e : scaM [] c = [] := rfl
  rw [e, tw_nil] at z
  exact z
theorem empty_turn (i : Nat) {H : Store} : callK prg (i + 6) "table_turned" [.tup []] H = .ok (.tup []) H := by
  have z := c_tturned (k := i + 1) (T := []) (L := 1) (q := 1) H tab_nil (by decide)
  have e : turnM [] (wd []) = [] := rfl
  rw [e, tw_nil] at z
  exact z
theorem empty_part (i : Nat) {H : Store} : callK prg (i + 6) "table_part" [.tup [], .tup [], .tup []] H = .ok (.tup []) H := by
  have z := c_part0 i (H := H)
  rw [tw_nil] at z
  exact z
theorem empty_pow (i : Nat) {H : Store} : callK prg (i + 6) "table_power" [.tup [], .int 3] H = .ok (.tup []) H := by
  have z := c_power0 (k := i) H
  rw [tw_nil] at z
  exact z
theorem empty_unit (i : Nat) {H : Store} : callK prg (i + 6) "unit_table" [.int 0] H = .ok (.tup []) H := by
  have z := c_unittab (i + 3) 0 H (by decide)
  have e : unitM 0 = [] := rfl
  rw [e, tw_nil] at z
  exact z
theorem empty_sum (i : Nat) (hi : 50 ≤ i) {H : Store} : callK prg (i + 6) "table_sum" [.tup [], .tup []] H = .ok (.tup []) H := by
  have z := c_tsum (k := i + 5) (S := []) (T := []) (L := 1) (M := 1) (q := 1) (q2 := 1) H (by omega) tab_nil tab_nil (by decide) (by decide) rfl rfl
  have e : zipM addF [] [] = [] := rfl
  rw [e, tw_nil] at z
  exact z
theorem empty_less (i : Nat) (hi : 50 ≤ i) {H : Store} : callK prg (i + 6) "table_less" [.tup [], .tup []] H = .ok (.tup []) H := by
  have z := c_tless (k := i + 5) (S := []) (T := []) (L := 1) (M := 1) (q := 1) (q2 := 1) H (by omega) tab_nil tab_nil (by decide) (by decide) rfl rfl
  have e : zipM lessF [] [] = [] := rfl
  rw [e, tw_nil] at z
  exact z
theorem empty_six {i M : Nat} (hi : 50 ≤ i) {H : Store} {c : Fr} (g : Good M c) (hM : M ≤ 20000) : ∀ p ∈ ([("table_product", [.tup [], .tup []]), ("table_scaled", [.tup [], fw c]), ("table_turned", [.tup []]), ("table_part", [.tup [], .tup [], .tup []]), ("table_power", [.tup [], .int 3]), ("unit_table", [.int 0])] : List (Str × List W)), callK prg (i + 8) "_law_tells" [.glo p.1, .tup p.2, .tup []] H = .ok (.bl true) H := fun p hp => by
  simp only [List.mem_cons, List.not_mem_nil, or_false] at hp
  rcases hp with z | z | z | z | z | z <;> subst z
  · exact c_tells (j := i + 5) (by omega) (c_told2 d_table_product (f_table_product _ _) (empty_prod i)) rfl
  · exact c_tells (j := i + 5) (by omega) (c_told2 d_table_scaled (f_table_scaled _ _) (empty_scal i hi g hM)) rfl
  · exact c_tells (j := i + 5) (by omega) (c_told1 d_table_turned (f_table_turned _) (empty_turn i)) rfl
  · exact c_tells (j := i + 5) (by omega) (c_told3 d_table_part (f_table_part _ _ _) (empty_part i)) rfl
  · exact c_tells (j := i + 5) (by omega) (c_told2 d_table_power (f_table_power _ _) (empty_pow i)) rfl
  · exact c_tells (j := i + 5) (by omega) (c_told1 d_unit_table (f_unit_table _) (empty_unit i)) rfl
theorem given_loop {j : Nat} {H : Store} {e0 e1 e2 e3 e4 e5 e6 e7 e8 e9 e10 e11 e14 e15 e16 e17 : Option W} : ∀ (ps : List (Str × List W)) (a12 a13 : Option W), (∀ p ∈ ps, callK prg (j + 3) "_law_tells" [.glo p.1, .tup p.2, .tup []] H = .ok (.bl true) H) →
    ∃ b12 b13, forL [] (.tp [(.nm 12), (.nm 13)]) (sSeq (sIf (tcNot (tcVal (cCall (callK prg (j + 3)) 3 "_law_tells" (cCons (cVar 12) (cCons (cVar 13) (cCons (cTup cNil) cNil)))))) (sSeq (sRet (cVal (.bl false)))
    sSkip) sSkip)
    sSkip) (ps.map fun p => .tup [.glo p.1, .tup p.2]) [e0, e1, e2, e3, e4, e5, e6, e7, e8, e9, e10, e11, a12, a13, e14, e15, e16, e17] H = .next [e0, e1, e2, e3, e4, e5, e6, e7, e8, e9, e10, e11, b12, b13, e14, e15, e16, e17] H
  | [], a12, a13, _ => ⟨a12, a13, forL_nil (gdOk_nil _)⟩
  | (f, us) :: ps, a12, a13, h => by
    have e := h _ List.mem_cons_self
    obtain ⟨b12, b13, ih⟩ := given_loop (e0 := e0) (e1 := e1) (e2 := e2) (e3 := e3) (e4 := e4) (e5 := e5) (e6 := e6) (e7 := e7) (e8 := e8) (e9 := e9) (e10 := e10) (e11 := e11) (e14 := e14) (e15 := e15) (e16 := e16) (e17 := e17) ps (some (.glo f)) (some (.tup us)) fun p hp => h p (List.mem_cons_of_mem _ hp)
    refine ⟨b12, b13, forL_step (gdOk_nil _) (bind_tp2 _ _ _ _ _) ?_ ih⟩
    dsimp only at e
    simp [e]
/-! ### two functions of unlike tables -/
theorem unlike_two {i L q : Nat} {H : Store} {S : List (List Fr)} (t : Tab L q S) (hL : L ≤ 20000) (s1 : 1 ≤ S.length) (s7 : S.length ≤ 30) (q30 : q ≤ 30) (i1 : 50 ≤ i) : ∀ f ∈ (["table_sum", "table_less"] : List Str), callK prg (i + 8) "_law_raises" [.glo f, .tup [tw S, tw (S ++ S.take 1)], .str "malformed"] H = .ok (.bl true) H ∧ callK prg (i + 8) "_law_raises" [.glo f, .tup [tw S, tw (wider S)], .str "malformed"] H = .ok (.bl true) H ∧ callK prg (i + 8) "_law_tells" [.glo f, .tup [.tup [], .tup []], .tup []] H = .ok (.bl true) H := fun f hf => by
  have q1 := t.q1
  have m : Mat L q S := ⟨t.len, t.good⟩
  have l1 : (S ++ S.take 1).length = S.length + 1 := by
    rw [List.length_append, List.length_take]
    omega
  have tA : Tab L q (S ++ S.take 1) := ⟨by omega, t.q1, t.q40, fun r hr => by
    rcases List.mem_append.mp hr with z | z
    · exact t.len r z
    · exact t.len r (List.mem_of_mem_take z), fun r hr => by
    rcases List.mem_append.mp hr with z | z
    · exact t.good r z
    · exact t.good r (List.mem_of_mem_take z)⟩
  have wm := wider_mat m t.q1
  have tW : Tab L (q + 1) (wider S) := ⟨by rw [wider_len]; omega, by omega, by omega, wm.len, wm.good⟩
  have n1 : S.length ≠ (S ++ S.take 1).length ∨ wd S ≠ wd (S ++ S.take 1) := .inl (by omega)
  have n2 : S.length ≠ (wider S).length ∨ wd S ≠ wd (wider S) := .inr (by
    rw [wd_mat m s1, wd_mat wm (by rw [wider_len]; exact s1)]
    omega)
  simp only [List.mem_cons, List.not_mem_nil, or_false] at hf
  rcases hf with z | z <;> subst z
  · exact ⟨c_raises (j := i + 5) (c_told2x d_table_sum (f_table_sum _ _) (c_tsum_x (k := i) H t tA hL hL n1)), c_raises (j := i + 5) (c_told2x d_table_sum (f_table_sum _ _) (c_tsum_x (k := i) H t tW hL hL n2)), c_tells (j := i + 5) (by omega) (c_told2 d_table_sum (f_table_sum _ _) (empty_sum i i1)) rfl⟩
  · exact ⟨c_raises (j := i + 5) (c_told2x d_table_less (f_table_less _ _) (c_tless_x (k := i) H t tA hL hL n1)), c_raises (j := i + 5) (c_told2x d_table_less (f_table_less _ _) (c_tless_x (k := i) H t tW hL hL n2)), c_tells (j := i + 5) (by omega) (c_told2 d_table_less (f_table_less _ _) (empty_less i i1)) rfl⟩
end K01
end
section
set_option Elab.async false
set_option linter.all false
set_option maxRecDepth 100000
set_option maxHeartbeats 2000000
namespace K01
open PySem PySem.Spec Wv L2
theorem two_loop {j : Nat} {H : Store} {S : List (List Fr)} {X1 : W} {Y : List W} {big : Bool} (hS : slW H (tw S) none (some 1) = some (X1, H)) {X2 : W} (ad : opBin big .Add (tw S) X1 H = some (X2, H)) (itS : itOf H (tw S) = some (Y, [])) {Z : List W} (wc : ∀ a12 : Option W, ∀ e0 e1 e2 e3 e4 e6 e7 e8 e9 e10 e11 e13 e14 e16 e17 : Option W, compL [] (.nm 15) cTrue (cBin big .Add (cVar 15) (cSl (cVar 15) cNoPart (cPart (cVal (.int 1))))) [e0, e1, e2, e3, e4, some (tw S), e6, e7, e8, e9, e10, e11, a12, e13, e14, none, e16, e17] Y [] H = .ok Z H) {e0 e1 e2 e3 e4 e6 e7 e8 e9 e10 e11 e13 e14 e16 e17 : Option W} : ∀ (fs : List Str) (a12 : Option W), (∀ f ∈ fs, callK prg (j + 3) "_law_raises" [.glo f, .tup [tw S, X2], .str "malformed"] H = .ok (.bl true) H ∧ callK prg (j + 3) "_law_raises" [.glo f, .tup [tw S, .tup Z], .str "malformed"] H = .ok (.bl true) H ∧ callK prg (j + 3) "_law_tells" [.glo f, .tup [.tup [], .tup []], .tup []] H = .ok (.bl true) H) →
    ∃ b12, forL [] (.nm 12) (sSeq (sIf (tcOr (tcNot (tcVal (cCall (callK prg (j + 3)) 3 "_law_raises" (cCons (cVar 12) (cCons (cTup (cCons (cVar 5) (cCons (cBin big .Add (cVar 5) (cSl (cVar 5) cNoPart (cPart (cVal (.int 1))))) cNil))) (cCons (cVal (.str "malformed")) cNil)))))) (tcOr (tcNot (tcVal (cCall (callK prg (j + 3)) 3 "_law_raises" (cCons (cVar 12) (cCons (cTup (cCons (cVar 5) (cCons (cQ1 tupQ (cSeqF (cComp (cItV (cVar 5)) [15] (.nm 15) cTrue (cBin big .Add (cVar 15) (cSl (cVar 15) cNoPart (cPart (cVal (.int 1)))))))) cNil))) (cCons (cVal (.str "malformed")) cNil)))))) (tcNot (tcVal (cCall (callK prg (j + 3)) 3 "_law_tells" (cCons (cVar 12) (cCons (cTup (cCons (cTup cNil) (cCons (cTup cNil) cNil))) (cCons (cTup cNil) cNil)))))))) (sSeq (sRet (cVal (.bl false)))
    sSkip) sSkip)
    sSkip) (fs.map W.glo) [e0, e1, e2, e3, e4, some (tw S), e6, e7, e8, e9, e10, e11, a12, e13, e14, none, e16, e17] H = .next [e0, e1, e2, e3, e4, some (tw S), e6, e7, e8, e9, e10, e11, b12, e13, e14, none, e16, e17] H
  | [], a12, _ => ⟨a12, forL_nil (gdOk_nil _)⟩
  | f :: fs, a12, h => by
    obtain ⟨c1, c2, c3⟩ := h f List.mem_cons_self
    obtain ⟨b12, ih⟩ := two_loop hS ad itS wc (e0 := e0) (e1 := e1) (e2 := e2) (e3 := e3) (e4 := e4) (e6 := e6) (e7 := e7) (e8 := e8) (e9 := e9) (e10 := e10) (e11 := e11) (e13 := e13) (e14 := e14) (e16 := e16) (e17 := e17) fs (some (.glo f)) fun g hg => h g (List.mem_cons_of_mem _ hg)
    refine ⟨b12, forL_step (gdOk_nil _) (bind_nm _ _ _) ?_ ih⟩
    generalize tw S = Tw at *
    simp [hS, ad, c1, itS, wc, c2, c3]
theorem law_true (ns : List Int) (hn : ns.length ≤ 63) : callK prg 80 "law" [.kls (ns.map W.int)] [] = .ok (.bl true) [] := by
  obtain ⟨s0, s1, c0⟩ := c_state (K := 78) ns hn
  have a0 : StAt [Ob.lst (ns.map W.int), twoN s0 s1] 1 := ⟨s0, s1, rfl⟩
  generalize [Ob.lst (ns.map W.int), twoN s0 s1] = H0 at c0 a0
  obtain ⟨v, s0, s1, v0, v1, c1⟩ := c_take (K := 78) (m := 7) a0 (by decide) (by decide)
  have a1 := a0.set s0 s1
  generalize H0.set 1 (twoN s0 s1) = H1 at c1 a1
  obtain ⟨p', rfl⟩ := Int.eq_ofNat_of_zero_le v0
  obtain ⟨v, s0, s1, w0, w1, c2⟩ := c_take (K := 78) (m := 7) a1 (by decide) (by decide)
  have a2 := a1.set s0 s1
  generalize H1.set 1 (twoN s0 s1) = H2 at c2 a2
  obtain ⟨q', rfl⟩ := Int.eq_ofNat_of_zero_le w0
  obtain ⟨v, s0, s1, x0, x1, c3⟩ := c_take (K := 78) (m := 5) a2 (by decide) (by decide)
  have a3 := a2.set s0 s1
  generalize H2.set 1 (twoN s0 s1) = H3 at c3 a3
  obtain ⟨r', rfl⟩ := Int.eq_ofNat_of_zero_le x0
  obtain ⟨p, hp⟩ : ∃ p, p = 1 + p' := ⟨_, rfl⟩
  obtain ⟨q, hq⟩ : ∃ q, q = 1 + q' := ⟨_, rfl⟩
  obtain ⟨r, hr⟩ : ∃ r, r = 1 + r' := ⟨_, rfl⟩
  have ip : (1 : Int) + (p' : Int) = (p : Int) := by omega
  have iq : (1 : Int) + (q' : Int) = (q : Int) := by omega
  have ir : (1 : Int) + (r' : Int) = (r : Int) := by omega
  have p1 : 1 ≤ p ∧ p ≤ 7 := by omega
  have q1 : 1 ≤ q ∧ q ≤ 7 := by omega
  have r1 : 1 ≤ r ∧ r ≤ 5 := by omega
  clear hp hq hr
  -- the tables
  obtain ⟨S, s0, s1, c4, lS, mS⟩ := c_table (K := 78) (p := p) (q := q) (by decide) a3 (by omega) (by omega)
  have a4 := a3.set s0 s1
  generalize H3.set 1 (twoN s0 s1) = H4 at c4 a4
  obtain ⟨T, s0, s1, c5, lT, mT⟩ := c_table (K := 78) (p := p) (q := q) (by decide) a4 (by omega) (by omega)
  have a5 := a4.set s0 s1
  generalize H4.set 1 (twoN s0 s1) = H5 at c5 a5
  obtain ⟨V, s0, s1, c6, lV, mV⟩ := c_table (K := 78) (p := q) (q := r) (by decide) a5 (by omega) (by omega)
  have a6 := a5.set s0 s1
  generalize H5.set 1 (twoN s0 s1) = H6 at c6 a6
  obtain ⟨c, s0, s1, gc, c7⟩ := c_drawn (K := 78) (by decide) a6
  have a7 := a6.set s0 s1
  generalize H6.set 1 (twoN s0 s1) = H7 at c7 a7
  have tS : Tab 3 q S := ⟨by omega, by omega, by omega, mS.len, mS.good⟩
  have tT : Tab 3 q T := ⟨by omega, by omega, by omega, mT.len, mT.good⟩
  have wS := wd_mat mS (by omega)
  -- sums, differences
  have z1 := lzip_comp (k := 79) (F := addF) (f := "_law_add") mS mT lS lT (by omega) (by omega) (h := H7) (fun a b ga gb => c_add 78 H7 (by decide) ga gb (by decide)) (e0 := some (.kls (ns.map W.int))) (e1 := some (.ref 1)) (e4 := some (.int (r : Int))) (e7 := some (tw V)) (e8 := some (fw c)) (e9 := none) (e10 := none) (e11 := none) (e12 := none) (e13 := none) (e15 := none) (e17 := none)
  have t1 := tell_sum (j := 76) (h := H7) (by decide) mS mT (by omega) (by omega) (by omega) (by decide)
  have z2 := lzip_comp (k := 79) (F := lessF) (f := "_law_less") mS mT lS lT (by omega) (by omega) (h := H7) (fun a b ga gb => c_lless 78 H7 (by decide) ga gb (by decide)) (e0 := some (.kls (ns.map W.int))) (e1 := some (.ref 1)) (e4 := some (.int (r : Int))) (e7 := some (tw V)) (e8 := some (fw c)) (e9 := none) (e10 := none) (e11 := none) (e12 := none) (e13 := none) (e15 := none) (e17 := none)
  have t2 := tell_less (j := 76) (h := H7) (by decide) mS mT (by omega) (by omega) (by omega) (by decide)
  -- multiples, products
  have z3 := lsca_comp (k := 79) (by decide) mS (by omega) (by omega) (by decide) gc (by decide) (h := H7) (te := cCall (callK prg 79) 2 "_law_mul" (cCons (cVar 17) (cCons (cVar 8) cNil))) (ρ0 := [some (.kls (ns.map W.int)), some (.ref 1), some (.int (p : Int)), some (.int (q : Int)), some (.int (r : Int)), some (tw S), some (tw T), some (tw V), some (fw c), none, none, none, none, none, none, none, none, none]) (sx := 17) (si := 15) (by simp) (by simp) (by decide) (fun ρ _ hs x e => by
    have e8 : ρ[8]? = some (some (fw c)) := by
      rw [hs 8 (by decide) (by decide)]
      rfl
    simp [e, e8])
  have t3 : callK prg 79 "_law_tells" [.glo "table_scaled", .tup [tw S, fw c], tw (scaM S c)] H7 = .ok (.bl true) H7 := c_tells (j := 76) (by decide) (c_told2 d_table_scaled (f_table_scaled _ _) (c_scaled (k := 76) H7 (by decide) tS (by decide) gc (by decide))) (mat_dep (sca_mat mS gc) (by unfold scaM; rw [List.length_map]; omega) (by omega))
  have z4 := c_lprod_any (K := 78) (h := H7) (by decide) (by omega) mS lV (by omega) ⟨by omega, by omega, by omega, mV.len, mV.good⟩ (mix_bound (by omega))
  have t4 := tell_prod (j := 76) (h := H7) (by decide) mS (by omega) (by omega) mV lV (by omega) (by decide) (by decide)
  -- turned, unit
  have z5 := lturn_comp mS (by omega) (by omega) (h := H7) (ρ0 := [some (.kls (ns.map W.int)), some (.ref 1), some (.int (p : Int)), some (.int (q : Int)), some (.int (r : Int)), some (tw S), some (tw T), some (tw V), some (fw c), none, none, none, none, none, none, none, none, none]) (sS := 5) (si := 15) (sj := 16) rfl (by simp) (by simp) (by decide) (by decide) (by decide)
  have t5 := tell_turn (j := 76) (h := H7) (by decide) mS (by omega) (by omega) (by decide)
  have z6 := c_lunit 78 p H7 (by omega)
  have t6 := tell_unit (j := 76) (n := p) (h := H7) (by decide) (by omega)
  -- powers
  obtain ⟨Q, s0, s1, c8, lQ, mQ⟩ := c_table (K := 78) (p := r) (q := r) (by decide) a7 (by omega) (by omega)
  have a8 := a7.set s0 s1
  generalize H7.set 1 (twoN s0 s1) = H8 at c8 a8
  have z7 := c_lunit 78 r H8 (by omega)
  obtain ⟨b11, lp⟩ := pow_loop5 (j := 76) (by decide) (H := H8) mQ lQ r1.1 r1.2 (e0 := some (.kls (ns.map W.int))) (e1 := some (.ref 1)) (e2 := some (.int (p : Int))) (e3 := some (.int (q : Int))) (e4 := some (.int (r : Int))) (e5 := some (tw S)) (e6 := some (tw T)) (e7 := some (tw V)) (e8 := some (fw c)) (e12 := none) (e13 := none) (e14 := none) (e15 := none) (e16 := none) (e17 := none) 5 0 none rfl
  rw [← List.range_eq_range'] at lp
  have e0 : powM Q r 0 = unitM r := rfl
  rw [e0] at lp
  have r5 : rng1 [.int 5] = some ((List.range 5).map iw) := rng1_nat (n := 5) (by decide)
  -- what does not fit
  have y1 := c_tturned (k := 74) H8 tT (by decide)
  rw [wd_mat mT (by omega)] at y1
  have tTt := turn_mat mT
  have unf : p ≠ q → callK prg 79 "_law_raises" [.glo "table_sum", .tup [tw S, tw (turnM T q)], .str "malformed"] H8 = .ok (.bl true) H8 ∧ callK prg 79 "_law_raises" [.glo "table_power", .tup [tw S, .int 1], .str "malformed"] H8 = .ok (.bl true) H8 ∧ callK prg 79 "_law_raises" [.glo "table_product", .tup [tw S, tw T], .str "malformed"] H8 = .ok (.bl true) H8 := fun ne => by
    refine ⟨?_, ?_, ?_⟩
    · exact c_raises (j := 76) (c_told2x d_table_sum (f_table_sum _ _) (c_tsum_x (k := 71) H8 tS ⟨by rw [turn_len]; omega, by omega, by omega, tTt.len, tTt.good⟩ (by decide) (by decide) (.inl (by rw [turn_len]; omega))))
    · exact c_raises (j := 76) (c_told2x d_table_power (f_table_power _ _) (c_power_x (e := 0) (k := 71) H8 tS (by decide) (by omega)))
    · exact c_raises (j := 76) (c_told2x d_table_product (f_table_product _ _) (c_tproduct_x (k := 72) H8 tS tT (by decide) (by decide) (by omega)))
  have u2 := unlike_two (i := 71) (H := H8) tS (by decide) (by omega) (by omega) (by omega) (by decide)
  have sl1 : slW H8 (tw S) none (some 1) = some (tw (S.take 1), H8) := by
    show some (W.tup (cutW _ _ (some ((1 : Nat) : Int))), H8) = _
    rw [cut_lo, ← List.map_take]
    rfl
  have ad1 : ∀ big, opBin big .Add (tw S) (tw (S.take 1)) H8 = some (tw (S ++ S.take 1), H8) := fun big => add_tw big S (S.take 1) (by rw [List.length_take]; omega) H8
  obtain ⟨b12, lp2⟩ := two_loop (j := 76) sl1 (ad1 true) (it_tw H8 S) (fun a12 e0 e1 e2 e3 e4 e6 e7 e8 e9 e10 e11 e13 e14 e16 e17 => wider_comp mS (by omega) (by omega)) (e0 := some (.kls (ns.map W.int))) (e1 := some (.ref 1)) (e2 := some (.int (p : Int))) (e3 := some (.int (q : Int))) (e4 := some (.int (r : Int))) (e6 := some (tw T)) (e7 := some (tw V)) (e8 := some (fw c)) (e9 := some (tw Q)) (e10 := some (tw (powM Q r 5))) (e11 := b11) (e13 := none) (e14 := none) (e16 := none) (e17 := none) ["table_sum", "table_less"] none u2
  simp only [List.map_cons, List.map_nil] at lp2
  have e6 := empty_six (i := 71) (by decide) (H := H8) gc (by decide)
  obtain ⟨d12, d13, lp3⟩ := given_loop (j := 76) (H := H8) (e0 := some (.kls (ns.map W.int))) (e1 := some (.ref 1)) (e2 := some (.int (p : Int))) (e3 := some (.int (q : Int))) (e4 := some (.int (r : Int))) (e5 := some (tw S)) (e6 := some (tw T)) (e7 := some (tw V)) (e8 := some (fw c)) (e9 := some (tw Q)) (e10 := some (tw (powM Q r 5))) (e11 := b11) (e14 := none) (e15 := none) (e16 := none) (e17 := none) _ b12 none e6
  simp only [List.map_cons, List.map_nil] at lp3
  -- the rest
  obtain ⟨rS, TS, eS⟩ : ∃ r T', S = r :: T' := by
    cases S with
    | nil => exact absurd lS (by rw [List.length_nil]; omega)
    | cons r T' => exact ⟨r, T', rfl⟩
  obtain ⟨s0, s1, f1⟩ : ∃ s0 s1, callK prg 79 "_law_forms_hold" [.ref 1, tw S] H8 = .ok (.bl true) (H8.set 1 (twoN s0 s1)) := by
    subst eS
    exact c_forms_hold (K := 78) (by decide) a8 tS (by decide) (by omega) q1.2
  have a9 := a8.set s0 s1
  generalize H8.set 1 (twoN s0 s1) = H9 at f1 a9
  obtain ⟨s0, s1, f2⟩ : ∃ s0 s1, callK prg 79 "_law_parts_hold" [.ref 1, tw S] H9 = .ok (.bl true) (H9.set 1 (twoN s0 s1)) := by
    subst eS
    exact c_parts_hold (K := 78) (by decide) a9 tS (by decide) (by omega) q1.2
  have a10 := a9.set s0 s1
  generalize H9.set 1 (twoN s0 s1) = H10 at f2 a10
  obtain ⟨s0, s1, f3⟩ := c_wide_holds (K := 78) (by decide) a10
  generalize H10.set 1 (twoN s0 s1) = H11 at f3
  clear eS
  have ct : ∀ H, cutR [] (.bl true) H = .ok (.bl true) [] := fun H => cutR_app (h := []) rfl
  have rp : rng1 [.int (p : Int)] = some ((List.range p).map iw) := rng1_nat (Nat.lt_of_le_of_lt p1.2 (by decide))
  have rq : rng1 [.int (q : Int)] = some ((List.range q).map iw) := rng1_nat (Nat.lt_of_le_of_lt q1.2 (by decide))
  have itS := it_tw H7 S
  have g1 : tw (zipM addF S T) = .tup ((zipM addF S T).map rw) := rfl
  have g2 : tw (zipM lessF S T) = .tup ((zipM lessF S T).map rw) := rfl
  have g3 : tw (scaM S c) = .tup ((scaM S c).map rw) := rfl
  have g5 : tw (turnM S q) = .tup ((turnM S q).map rw) := rfl
  rw [g1] at t1
  rw [g2] at t2
  rw [g3] at t3
  rw [g5] at t5
  generalize (zipM addF S T).map rw = Z1 at *
  generalize (zipM lessF S T).map rw = Z2 at *
  generalize (scaM S c).map rw = Z3 at *
  generalize (turnM S q).map rw = Z5 at *
  generalize tw (mulM S V r) = Z4 at *
  generalize (List.range p).map iw = Yp at *
  generalize (List.range q).map iw = Yq at *
  generalize (List.range 5).map iw = Y5 at *
  generalize S.map rw = YS at *
  generalize tw (unitM p) = Up at *
  generalize tw (unitM r) = Ur at *
  generalize tw (turnM T q) = Tt at *
  generalize tw (powM Q r 5) = P5 at *
  generalize tw S = TS at *
  generalize tw T = TT at *
  generalize tw V = TV at *
  generalize tw Q = TQ at *
  generalize fw c = C at *
  rw [k_law]
  by_cases pq : p = q
  · have e1 : ((q : Int) == (p : Int)) = true := by
      rw [pq]
      simp
    have e2 : cmpW .NotEq (.int (q : Int)) (.int (p : Int)) H8 = some false := by rw [s_ne_i, e1]; rfl
    simp [b_law, startR, c0, c1, c2, c3, ip, iq, ir, c4, c5, c6, c7, rp, rq, z1, t1, z2, t2, itS, z3, t3, z4, t4, z5, t5, z6, t6, c8, z7, r5, lp, e2, lp2, lp3, f1, f2, f3, ct, -s_ne_i]
  · obtain ⟨n1, n2, n3⟩ := unf pq
    have e1 : ((q : Int) == (p : Int)) = false := by simpa using fun z => pq (by omega)
    have e2 : cmpW .NotEq (.int (q : Int)) (.int (p : Int)) H8 = some true := by rw [s_ne_i, e1]; rfl
    simp [b_law, startR, c0, c1, c2, c3, ip, iq, ir, c4, c5, c6, c7, rp, rq, z1, t1, z2, t2, itS, z3, t3, z4, t4, z5, t5, z6, t6, c8, z7, r5, lp, e2, y1, n1, n2, n3, lp2, lp3, f1, f2, f3, ct, -s_ne_i]
end K01
end
set_option Elab.async false
set_option linter.all false
set_option maxRecDepth 100000
set_option maxHeartbeats 0
open PySem PySem.W PySem.Calls PyProof.Rows
theorem PySem.Challenge.cw_wireroads_k01_whole_tables_and_their_par_holds : PySem.Challenge.rw_wireroads_k01_whole_tables_and_their_par.Holds := by
  w_on; o_law
  refine HandSHeadRun.head_any (r := OpenLaw.row PySem.Challenge.rw_wireroads_k01_whole_tables_and_their_par) (q := K01.qv) (H := K01.hk) (ob := K01.ob) (M := 5000) (loose := K01.loose) (d := HandSHeadRun.topDef (OpenLaw.row PySem.Challenge.rw_wireroads_k01_whole_tables_and_their_par).prog 72) (kwd := []) K01.ob_eq
    (by kernel_rfl) (fun s => by kernel_rfl) K01.run (by kernel_rfl) (by kernel_rfl) (by kernel_rfl) (by rfl) (by first | assumption | decide +kernel) (by decide +kernel) ⟨rfl, rfl, rfl, rfl, rfl, by decide +kernel⟩ ?hw ?hc
  case hw => w_witness2
  case hc =>
    refine Wv.walkW (l := PySem.Challenge.rw_wireroads_k01_whole_tables_and_their_par) (n := 63) (k := 80) (P := K01.prg) rfl (by decide) (by kernel_rfl) ⟨rfl, by decide, by decide⟩ (by decide +kernel) ?F (by kernel_rfl) ?law
    case F =>
      intro w mg f h Y G hmg
      obtain ⟨K, X, c⟩ := Y
      have e : (HandSHeadRun.topDef (OpenLaw.row PySem.Challenge.rw_wireroads_k01_whole_tables_and_their_par).prog 72).name = ("law" : PySem.Str) := by kernel_rfl
      rw [e] at hmg ⊢
      refine ⟨Wv.gB K, X, fun base _ _ seer => Wv.world_of X G c.t.d c.more (by decide +kernel) (by decide +kernel) (K01.told X G c.t.d) K01.scs (by kernel_rfl) seer, ?_⟩
      have z := He.glo_ok X G (c.t.d.fact 60 (f := .glo "law") rfl)
      rw [hmg] at z
      cases z
      rfl
    case law =>
      intro ns hn
      have e : (HandSHeadRun.topDef (OpenLaw.row PySem.Challenge.rw_wireroads_k01_whole_tables_and_their_par).prog 72).name = ("law" : PySem.Str) := by kernel_rfl
      rw [e]
      exact K01.law_true ns hn
