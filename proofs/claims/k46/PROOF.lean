import PyProof.Rows.All
import PySem.Challenge.RW_mapwebs_k46_whole_pairings_and_bans_judg
import HandS.ForMost
import HandS.DictComp
import HandS.IsInst
import HandS.Deep
import HandS.SortRule
import HandS.SortInts
import HandS.TupAny
import HandS.TupMul
import HandS.Style
import HandS.Walk
import HandS.TupLen
import HandS.WordsDict
import HandS.Conv
import HandS.ForExc
import KE.KSortedM
set_option Elab.async false
set_option linter.all false
set_option maxRecDepth 100000
set_option Elab.async false
set_option linter.all false
set_option maxRecDepth 100000
namespace Mr
open PySem PySem.Spec PyProof.Rows L2

/-! ### data -/
inductive D where
  | non | bl (b : Bool) | int (i : Int) | str (x : Str)
  | tup (ds : List D) | lst (ds : List D) | kt (ds : List D)
  | dK (ks : List Key) (ds : List D) | dT (ks : List (List Key)) (ds : List D)
  | ob (c : Str) (ns : List Str) (ds : List D) | bag

/-- the law's own source of numbers -/
structure Bag where
  great : List Int
  seed : Int
  len : Int
  cnt : Int

/-- where the data stand -/
structure MC where
  K : PySem.W.Frag
  mg : Str → Option Value
  pb : Addr
  pg : Addr

/-- a tuple of the written part -/
def KTup (K : PySem.W.Frag) (a : Addr) (xs : List V) : Prop :=
  ∃ (o : Obj) (its : Array Value) (n : Nat), K.lookup a = some o ∧ o.cls = .type "tuple" ∧ o.data = .seq its n ∧ its.size ≤ sizeLine ∧ Vals xs its.toList

mutual
def Rep (c : MC) (G : Hp) : D → V → Prop
  | .non, v => v = .non
  | .bl b, v => v = .bl b
  | .int i, v => v = .int i
  | .str x, v => v = .str x
  | .tup ds, v => ∃ p vs, v = .ref p ∧ G p = some (.tup vs) ∧ Reps c G ds vs
  | .lst ds, v => ∃ p vs, v = .ref p ∧ G p = some (.lst vs) ∧ Reps c G ds vs
  | .kt ds, v => ∃ p vs, v = .ref p ∧ KTup c.K p vs ∧ Reps c G ds vs
  | .dK ks ds, v => ∃ p vs, v = .ref p ∧ G p = some (.dK (ks.zip vs)) ∧ ks.length = vs.length ∧ Reps c G ds vs
  | .dT ks ds, v => ∃ p vs, v = .ref p ∧ G p = some (.dT (ks.zip vs)) ∧ ks.length = vs.length ∧ Reps c G ds vs
  | .ob n ns ds, v => ∃ p C dx vs, v = .ref p ∧ G p = some (.ins C dx (ns.zip vs)) ∧ ns.length = vs.length ∧ c.mg n = some (.ref C) ∧ Reps c G ds vs
  | .bag, v => v = .ref c.pb
def Reps (c : MC) (G : Hp) : List D → List V → Prop
  | [], vs => vs = []
  | d :: ds, vs => ∃ v ws, vs = v :: ws ∧ Rep c G d v ∧ Reps c G ds ws
end

def Le (G G' : Hp) : Prop := ∀ a u, G a = some u → G' a = some u
theorem Le.refl (G : Hp) : Le G G := fun _ _ h => h
theorem Le.trans {G G' G'' : Hp} (a : Le G G') (b : Le G' G'') : Le G G'' := fun x u h => b x u (a x u h)
theorem Le.rd {G G' : Hp} (h : Le G G') {a : Addr} {u : HO} (r : Rd G a u) : Rd G' a u := by
  rcases r with r | ⟨o, r⟩
  · exact .inl (h _ _ r)
  · exact .inr ⟨o, h _ _ r⟩
theorem Le.l {K : PySem.W.Frag} {G G' : Hp} (h : Le G G') {a : Addr} {xs : List V} (r : SqL K G a xs) : SqL K G' a xs := by
  rcases r with r | r
  · exact .inl (h.rd r)
  · exact .inr r
theorem Le.t {K : PySem.W.Frag} {G G' : Hp} (h : Le G G') {a : Addr} {xs : List V} (r : SqT K G a xs) : SqT K G' a xs := by
  rcases r with r | r
  · exact .inl (h.rd r)
  · exact .inr r
theorem Le.new {G : Hp} {p : Addr} {o : HO} (h : G p = none) : Le G (upd G p o) := fun a u e => by
  rw [upd_ne (ne_of_none e h)]
  exact e

section
variable {c : MC} {G G' : Hp}
mutual
theorem Rep.mono (h : Le G G') : ∀ (d : D) (v : V), Rep c G d v → Rep c G' d v
  | .non, _, r => r
  | .bl _, _, r => r
  | .int _, _, r => r
  | .str _, _, r => r
  | .tup ds, v, r => by
    obtain ⟨p, vs, e, s, r⟩ := r
    exact ⟨p, vs, e, h _ _ s, Reps.mono h ds vs r⟩
  | .lst ds, v, r => by
    obtain ⟨p, vs, e, s, r⟩ := r
    exact ⟨p, vs, e, h _ _ s, Reps.mono h ds vs r⟩
  | .kt ds, v, r => by
    obtain ⟨p, vs, e, s, r⟩ := r
    exact ⟨p, vs, e, s, Reps.mono h ds vs r⟩
  | .dK ks ds, v, r => by
    obtain ⟨p, vs, e, s, l, r⟩ := r
    exact ⟨p, vs, e, h _ _ s, l, Reps.mono h ds vs r⟩
  | .dT ks ds, v, r => by
    obtain ⟨p, vs, e, s, l, r⟩ := r
    exact ⟨p, vs, e, h _ _ s, l, Reps.mono h ds vs r⟩
  | .ob n ns ds, v, r => by
    obtain ⟨p, C, dx, vs, e, s, l, m, r⟩ := r
    exact ⟨p, C, dx, vs, e, h _ _ s, l, m, Reps.mono h ds vs r⟩
  | .bag, _, r => r
theorem Reps.mono (h : Le G G') : ∀ (ds : List D) (vs : List V), Reps c G ds vs → Reps c G' ds vs
  | [], _, r => r
  | d :: ds, vs, r => by
    obtain ⟨v, ws, e, r1, r2⟩ := r
    exact ⟨v, ws, e, Rep.mono h d v r1, Reps.mono h ds ws r2⟩
end
theorem Reps.nil : Reps c G [] [] := by unfold Reps; rfl
theorem Reps.cons {d : D} {ds : List D} {v : V} {vs : List V} (h : Rep c G d v) (t : Reps c G ds vs) : Reps c G (d :: ds) (v :: vs) := by
  unfold Reps
  exact ⟨v, vs, rfl, h, t⟩
theorem Reps.len : ∀ {ds : List D} {vs : List V}, Reps c G ds vs → ds.length = vs.length
  | [], vs, r => by
    unfold Reps at r
    rw [r]; rfl
  | d :: ds, vs, r => by
    unfold Reps at r
    obtain ⟨v, ws, rfl, _, r⟩ := r
    rw [List.length_cons, List.length_cons, Reps.len r]
theorem Reps.get : ∀ {ds : List D} {vs : List V} {i : Nat} {d : D}, Reps c G ds vs → ds[i]? = some d → ∃ v, vs[i]? = some v ∧ Rep c G d v
  | [], _, _, _, _, e => by simp at e
  | x :: ds, vs, 0, d, r, e => by
    unfold Reps at r
    obtain ⟨v, ws, rfl, r1, _⟩ := r
    have : x = d := by simpa using e
    subst this
    exact ⟨v, rfl, r1⟩
  | x :: ds, vs, i + 1, d, r, e => by
    unfold Reps at r
    obtain ⟨v, ws, rfl, _, r2⟩ := r
    obtain ⟨w, h1, h2⟩ := Reps.get (i := i) (d := d) r2 (by simpa using e)
    exact ⟨w, by simpa using h1, h2⟩
theorem Reps.getV : ∀ {ds : List D} {vs : List V} {i : Nat} {v : V}, Reps c G ds vs → vs[i]? = some v → ∃ d, ds[i]? = some d ∧ Rep c G d v
  | [], vs, i, v, r, e => by
    unfold Reps at r
    subst r
    simp at e
  | x :: ds, vs, 0, v, r, e => by
    unfold Reps at r
    obtain ⟨w, ws, rfl, r1, _⟩ := r
    have : w = v := by simpa using e
    subst this
    exact ⟨x, rfl, r1⟩
  | x :: ds, vs, i + 1, v, r, e => by
    unfold Reps at r
    obtain ⟨w, ws, rfl, _, r2⟩ := r
    obtain ⟨d, h1, h2⟩ := Reps.getV (i := i) (v := v) r2 (by simpa using e)
    exact ⟨d, by simpa using h1, h2⟩
theorem Reps.append : ∀ {ds es : List D} {vs ws : List V}, Reps c G ds vs → Reps c G es ws → Reps c G (ds ++ es) (vs ++ ws)
  | [], _, vs, _, r, s => by
    unfold Reps at r
    subst r
    exact s
  | d :: ds, es, vs, ws, r, s => by
    unfold Reps at r
    obtain ⟨v, us, rfl, r1, r2⟩ := r
    exact .cons r1 (Reps.append r2 s)
theorem Reps.one {d : D} {v : V} (h : Rep c G d v) : Reps c G [d] [v] := .cons h .nil
theorem Reps.take (n : Nat) : ∀ {ds : List D} {vs : List V}, Reps c G ds vs → Reps c G (ds.take n) (vs.take n) := by
  induction n with
  | zero => intro ds vs _; exact .nil
  | succ n ih =>
    intro ds vs r
    cases ds with
    | nil => unfold Reps at r; subst r; exact .nil
    | cons d ds =>
      unfold Reps at r
      obtain ⟨v, us, rfl, r1, r2⟩ := r
      exact .cons r1 (ih r2)
theorem Reps.drop (n : Nat) : ∀ {ds : List D} {vs : List V}, Reps c G ds vs → Reps c G (ds.drop n) (vs.drop n) := by
  induction n with
  | zero => intro ds vs r; exact r
  | succ n ih =>
    intro ds vs r
    cases ds with
    | nil => unfold Reps at r; subst r; exact .nil
    | cons d ds =>
      unfold Reps at r
      obtain ⟨v, us, rfl, r1, r2⟩ := r
      exact ih r2
theorem Reps.set {d : D} {v : V} (h : Rep c G d v) : ∀ (i : Nat) {ds : List D} {vs : List V}, Reps c G ds vs → Reps c G (ds.set i d) (vs.set i v)
  | _, [], vs, r => by
    unfold Reps at r
    subst r
    exact .nil
  | 0, x :: ds, vs, r => by
    unfold Reps at r
    obtain ⟨w, us, rfl, r1, r2⟩ := r
    exact .cons h r2
  | i + 1, x :: ds, vs, r => by
    unfold Reps at r
    obtain ⟨w, us, rfl, r1, r2⟩ := r
    exact .cons r1 (Reps.set h i r2)
theorem Reps.erase : ∀ (i : Nat) {ds : List D} {vs : List V}, Reps c G ds vs → Reps c G (ds.eraseIdx i) (vs.eraseIdx i)
  | _, [], vs, r => by
    unfold Reps at r
    subst r
    exact .nil
  | 0, x :: ds, vs, r => by
    unfold Reps at r
    obtain ⟨w, us, rfl, r1, r2⟩ := r
    exact r2
  | i + 1, x :: ds, vs, r => by
    unfold Reps at r
    obtain ⟨w, us, rfl, r1, r2⟩ := r
    exact .cons r1 (Reps.erase i r2)
theorem Reps.reverse : ∀ {ds : List D} {vs : List V}, Reps c G ds vs → Reps c G ds.reverse vs.reverse
  | [], vs, r => by
    unfold Reps at r
    subst r
    exact .nil
  | d :: ds, vs, r => by
    unfold Reps at r
    obtain ⟨v, us, rfl, r1, r2⟩ := r
    rw [List.reverse_cons, List.reverse_cons]
    exact (Reps.reverse r2).append (.one r1)
theorem Reps.ints {ns : List Int} : ∀ {vs : List V}, Reps c G (ns.map D.int) vs → vs = ns.map V.int := by
  induction ns with
  | nil => intro vs r; exact r
  | cons n ns ih =>
    intro vs r
    unfold Reps at r
    obtain ⟨v, ws, rfl, r1, r2⟩ := (show ∃ v ws, vs = v :: ws ∧ Rep c G (.int n) v ∧ Reps c G (ns.map D.int) ws from r)
    rw [List.map_cons, ih r2]
    congr 1
theorem Reps.of_ints (ns : List Int) : Reps c G (ns.map D.int) (ns.map V.int) := by
  induction ns with
  | nil => exact .nil
  | cons n ns ih => exact .cons rfl ih
theorem Reps.bls {bs : List Bool} : ∀ {vs : List V}, Reps c G (bs.map D.bl) vs → vs = bs.map V.bl := by
  induction bs with
  | nil => intro vs r; exact r
  | cons n ns ih =>
    intro vs r
    unfold Reps at r
    obtain ⟨v, ws, rfl, r1, r2⟩ := (show ∃ v ws, vs = v :: ws ∧ Rep c G (.bl n) v ∧ Reps c G (ns.map D.bl) ws from r)
    rw [List.map_cons, ih r2]
    congr 1
end

/-! ### the world: what stands still (G) within what is (H), and the bag -/
/-- what a walk may lock -/
def lk : HO → Bool
  | .lst _ => true
  | .dK _ => true
  | .dT _ => true
  | _ => false
def nfz : HO → Bool
  | .frz _ _ => false
  | _ => true
structure Wd (c : MC) (b : Bag) (G H : Hp) : Prop where
  sub : ∀ a u, G a = some u → H a = some u ∨ (lk u = true ∧ ∃ o, H a = some (.frz o u))
  nz : ∀ a u, G a = some u → nfz u = true
  gb : G c.pb = none
  gg : G c.pg = none
  ne : c.pb ≠ c.pg
  hb : H c.pb = some (.lst [.ref c.pg, .int b.seed, .int b.len, .int b.cnt])
  hg : H c.pg = some (.lst (b.great.map V.int))
  bz : b.great.length ≤ 63

structure Stp (c : MC) (G H G' H' : Hp) : Prop where
  g : Le G G'
  h : ∀ a u, a ≠ c.pb → a ≠ c.pg → H a = some u → H' a = some u
  fr : ∀ a, H a ≠ none → G a = none → G' a = none
  dm : ∀ a, H a ≠ none → H' a ≠ none
theorem Stp.refl (c : MC) (G H : Hp) : Stp c G H G H := ⟨Le.refl G, fun _ _ _ _ e => e, fun _ _ e => e, fun _ e => e⟩
theorem Stp.trans {c : MC} {G H G1 H1 G2 H2 : Hp} (a : Stp c G H G1 H1) (b : Stp c G1 H1 G2 H2) : Stp c G H G2 H2 :=
  ⟨a.g.trans b.g, fun x u n m e => b.h x u n m (a.h x u n m e), fun x h e => b.fr x (a.dm x h) (a.fr x h e), fun x h => b.dm x (a.dm x h)⟩

section
variable {c : MC} {b : Bag} {G H G' H' : Hp}
theorem Wd.rd (w : Wd c b G H) {a : Addr} {u : HO} (e : G a = some u) : Rd H a u := by
  rcases w.sub a u e with z | ⟨_, o, z⟩
  · exact .inl z
  · exact .inr ⟨o, z⟩
theorem Wd.tup (w : Wd c b G H) {a : Addr} {xs : List V} (e : G a = some (.tup xs)) : H a = some (.tup xs) := by
  rcases w.sub a _ e with z | ⟨z, _⟩
  · exact z
  · cases z
theorem Wd.ins (w : Wd c b G H) {a C dx : Addr} {fs : List (Str × V)} (e : G a = some (.ins C dx fs)) : H a = some (.ins C dx fs) := by
  rcases w.sub a _ e with z | ⟨z, _⟩
  · exact z
  · cases z
theorem Wd.hbne (w : Wd c b G H) : H c.pb ≠ none := by rw [w.hb]; exact fun z => nomatch z
theorem Wd.hgne (w : Wd c b G H) : H c.pg ≠ none := by rw [w.hg]; exact fun z => nomatch z
theorem Wd.there (w : Wd c b G H) {a : Addr} {u : HO} (e : G a = some u) : H a ≠ none := by
  rcases w.sub a u e with z | ⟨_, o, z⟩ <;> (rw [z]; exact fun z => nomatch z)
theorem Wd.notb (w : Wd c b G H) {a : Addr} {u : HO} (e : G a = some u) : a ≠ c.pb ∧ a ≠ c.pg := by
  constructor
  · rintro rfl
    rw [w.gb] at e; cases e
  · rintro rfl
    rw [w.gg] at e; cases e
theorem Wd.gnone (w : Wd c b G H) {p : Addr} (hp : H p = none) : G p = none := by
  cases e : G p with
  | none => rfl
  | some u => exact absurd hp (w.there e)
theorem rd_none {G : Hp} {a : Addr} {u : HO} (e : Rd G a u) (n : G a = none) : False := by
  rcases e with e | ⟨o, e⟩
  · rw [n] at e; cases e
  · rw [n] at e; cases e
/-- a new object, to stand still from now on -/
theorem Stp.new (w : Wd c b G H) {p : Addr} {o : HO} (hp : H p = none) (hz : nfz o = true := by rfl) : Stp c G H (upd G p o) (upd H p o) ∧ (Wd c b (upd G p o) (upd H p o)) := by
  have gp : G p = none := w.gnone hp
  have nb : c.pb ≠ p := fun z => by rw [← z] at hp; exact w.hbne hp
  have ng : c.pg ≠ p := fun z => by rw [← z] at hp; exact w.hgne hp
  have k : ∀ a, H a ≠ none → a ≠ p := fun a h z => by rw [z] at h; exact h hp
  refine ⟨⟨Le.new gp, fun a u _ _ e => ?_, fun a h e => ?_, fun a h => ?_⟩, ⟨fun a u e => ?_, fun a u e => ?_, ?_, ?_, w.ne, ?_, ?_, w.bz⟩⟩
  · rw [upd_ne (ne_of_none e hp)]; exact e
  · rw [upd_ne (k a h)]; exact e
  · rw [upd_ne (k a h)]; exact h
  · by_cases h : a = p
    · subst h
      rw [upd_same] at e
      exact .inl (by rw [upd_same]; exact e)
    · rw [upd_ne h] at e
      rw [upd_ne h]
      exact w.sub a u e
  · by_cases h : a = p
    · subst h
      rw [upd_same] at e
      cases e
      exact hz
    · rw [upd_ne h] at e
      exact w.nz a u e
  · rw [upd_ne nb]; exact w.gb
  · rw [upd_ne ng]; exact w.gg
  · rw [upd_ne nb]; exact w.hb
  · rw [upd_ne ng]; exact w.hg
/-- an object that is not among those that stand still is written -/
theorem Wd.put (w : Wd c b G H) {p : Addr} {o : HO} (gp : G p = none) (nb : p ≠ c.pb) (ng : p ≠ c.pg) : Wd c b G (upd H p o) := by
  refine ⟨fun a u e => ?_, w.nz, w.gb, w.gg, w.ne, by rw [upd_ne (Ne.symm nb)]; exact w.hb, by rw [upd_ne (Ne.symm ng)]; exact w.hg, w.bz⟩
  have ne : a ≠ p := fun z => by subst z; rw [gp] at e; cases e
  rw [upd_ne ne]
  exact w.sub a u e
/-- a new object that may still change -/
theorem Stp.newO (w : Wd c b G H) {p : Addr} {o : HO} (hp : H p = none) : Stp c G H G (upd H p o) ∧ Wd c b G (upd H p o) ∧ G p = none := by
  have gp : G p = none := w.gnone hp
  have nb : p ≠ c.pb := fun z => by rw [z] at hp; exact w.hbne hp
  have ng : p ≠ c.pg := fun z => by rw [z] at hp; exact w.hgne hp
  have k : ∀ a, H a ≠ none → a ≠ p := fun a h z => by rw [z] at h; exact h hp
  refine ⟨⟨Le.refl _, fun a u _ _ e => ?_, fun a h e => e, fun a h => ?_⟩, w.put gp nb ng, gp⟩
  · rw [upd_ne (ne_of_none e hp)]; exact e
  · rw [upd_ne (k a h)]; exact h
/-- what may change is frozen -/
theorem Stp.freeze {H0 G0 : Hp} (s : Stp c G0 H0 G H) (w : Wd c b G H) {p : Addr} {o : HO} (hp : H p = some o) (h0 : H0 p = none) (gp : G p = none) (nb : p ≠ c.pb) (ng : p ≠ c.pg) (hz : nfz o = true := by rfl) : Stp c G0 H0 (upd G p o) H ∧ Wd c b (upd G p o) H := by
  refine ⟨⟨s.g.trans (Le.new gp), s.h, fun a h e => ?_, s.dm⟩, ⟨fun a u e => ?_, fun a u e => ?_, ?_, ?_, w.ne, w.hb, w.hg, w.bz⟩⟩
  · have : a ≠ p := fun z => by subst z; exact h h0
    rw [upd_ne this]; exact s.fr a h e
  · by_cases h : a = p
    · subst h
      rw [upd_same] at e
      exact .inl (hp.trans e)
    · rw [upd_ne h] at e
      exact w.sub a u e
  · by_cases h : a = p
    · subst h
      rw [upd_same] at e
      cases e
      exact hz
    · rw [upd_ne h] at e
      exact w.nz a u e
  · rw [upd_ne (Ne.symm nb)]; exact w.gb
  · rw [upd_ne (Ne.symm ng)]; exact w.gg
/-- an own object is written: seen from the entry -/
theorem Stp.put {H0 G0 : Hp} (s : Stp c G0 H0 G H) {p : Addr} {o : HO} (h0 : H0 p = none) : Stp c G0 H0 G (upd H p o) := by
  refine ⟨s.g, fun a u n m e => ?_, s.fr, fun a h => ?_⟩
  · rw [upd_ne (ne_of_none e h0)]; exact s.h a u n m e
  · have : a ≠ p := fun z => by subst z; exact h h0
    rw [upd_ne this]; exact s.dm a h
end
end Mr

set_option Elab.async false
set_option linter.all false
set_option maxRecDepth 100000
namespace Mr
open PySem PySem.Spec PyProof.Rows L2

structure Exn where
  nm : Str
  args : List D

inductive R (α : Type) where
  | ok (a : α) (b : Bag)
  | exc (e : Exn) (b : Bag)
  | stuck

def R.bind {α β : Type} (x : R α) (f : α → Bag → R β) : R β := match x with
  | .ok a b => f a b
  | .exc e b => .exc e b
  | .stuck => .stuck
@[simp] theorem R.bind_ok {α β : Type} (a : α) (b : Bag) (f : α → Bag → R β) : (R.ok a b).bind f = f a b := rfl
@[simp] theorem R.bind_exc {α β : Type} (e : Exn) (b : Bag) (f : α → Bag → R β) : (R.exc e b : R α).bind f = .exc e b := rfl
@[simp] theorem R.bind_stuck {α β : Type} (f : α → Bag → R β) : (R.stuck : R α).bind f = .stuck := rfl
def R.opt {α : Type} (o : Option α) (b : Bag) : R α := match o with
  | some a => .ok a b
  | none => .stuck
@[simp] theorem R.opt_some {α : Type} (a : α) (b : Bag) : R.opt (some a) b = .ok a b := rfl
@[simp] theorem R.opt_none {α : Type} (b : Bag) : R.opt (none : Option α) b = .stuck := rfl

/-- a slot: not yet stored; a datum that stands still; a list, a dict of this frame's alone -/
inductive Sl where
  | un
  | va (d : D)
  | ol (ds : List D)
  | oK (ks : List Key) (ds : List D)
  | oT (ks : List (List Key)) (ds : List D)
abbrev Ev := List Sl
def Sl.own : Sl → Bool
  | .un => false
  | .va _ => false
  | _ => true

abbrev ME := Ev → Bag → R D
abbrev MT := Ev → Bag → R Bool
abbrev MA := Ev → Bag → R (List D)

def LstV (c : MC) (H : Hp) (p : Addr) (vs : List V) : Prop := Rd H p (.lst vs) ∧ p ≠ c.pb ∧ p ≠ c.pg
theorem LstV.l {c : MC} {K : PySem.W.Frag} {H : Hp} {p : Addr} {vs : List V} (h : LstV c H p vs) : SqL K H p vs := .inl h.1

/-- a datum, or a list or a dict that may still change, at one level -/
def Vw (c : MC) (G H : Hp) : D → V → Prop
  | .lst ds, v => ∃ p vs, v = .ref p ∧ LstV c H p vs ∧ Reps c G ds vs
  | .dK ks ds, v => ∃ p vs, v = .ref p ∧ Rd H p (.dK (ks.zip vs)) ∧ ks.length = vs.length ∧ Reps c G ds vs ∧ p ≠ c.pb ∧ p ≠ c.pg
  | .dT ks ds, v => ∃ p vs, v = .ref p ∧ Rd H p (.dT (ks.zip vs)) ∧ ks.length = vs.length ∧ Reps c G ds vs ∧ p ≠ c.pb ∧ p ≠ c.pg
  | d, v => Rep c G d v

section
variable {c : MC} {b : Bag} {G H G' H' G0 H0 : Hp}
theorem Rep.vw (w : Wd c b G H) {d : D} {v : V} (r : Rep c G d v) : Vw c G H d v := by
  cases d with
  | lst ds =>
    unfold Rep at r
    obtain ⟨p, vs, e, s, r⟩ := r
    exact ⟨p, vs, e, ⟨w.rd s, w.notb s⟩, r⟩
  | dK ks ds =>
    unfold Rep at r
    obtain ⟨p, vs, e, s, l, r⟩ := r
    exact ⟨p, vs, e, w.rd s, l, r, w.notb s⟩
  | dT ks ds =>
    unfold Rep at r
    obtain ⟨p, vs, e, s, l, r⟩ := r
    exact ⟨p, vs, e, w.rd s, l, r, w.notb s⟩
  | _ => exact r
theorem rd_stp (s : Stp c G H G' H') {a : Addr} {u : HO} (nb : a ≠ c.pb) (ng : a ≠ c.pg) (e : Rd H a u) : Rd H' a u := by
  rcases e with e | ⟨o, e⟩
  · exact .inl (s.h _ _ nb ng e)
  · exact .inr ⟨o, s.h _ _ nb ng e⟩
theorem LstV.mono (s : Stp c G H G' H') {p : Addr} {vs : List V} (h : LstV c H p vs) : LstV c H' p vs := by
  exact ⟨rd_stp s h.2.1 h.2.2 h.1, h.2⟩
theorem Vw.mono (s : Stp c G H G' H') {d : D} {v : V} (r : Vw c G H d v) : Vw c G' H' d v := by
  cases d with
  | lst ds =>
    obtain ⟨p, vs, e, q, r⟩ := r
    exact ⟨p, vs, e, q.mono s, r.mono s.g⟩
  | dK ks ds =>
    obtain ⟨p, vs, e, q, l, r, nb, ng⟩ := r
    exact ⟨p, vs, e, rd_stp s nb ng q, l, r.mono s.g, nb, ng⟩
  | dT ks ds =>
    obtain ⟨p, vs, e, q, l, r, nb, ng⟩ := r
    exact ⟨p, vs, e, rd_stp s nb ng q, l, r.mono s.g, nb, ng⟩
  | non => exact Rep.mono (c := c) s.g .non v r
  | bl x => exact Rep.mono (c := c) s.g (.bl x) v r
  | int x => exact Rep.mono (c := c) s.g (.int x) v r
  | str x => exact Rep.mono (c := c) s.g (.str x) v r
  | tup ds => exact Rep.mono (c := c) s.g (.tup ds) v r
  | kt ds => exact Rep.mono (c := c) s.g (.kt ds) v r
  | ob n ns ds => exact Rep.mono (c := c) s.g (.ob n ns ds) v r
  | bag => exact Rep.mono (c := c) s.g .bag v r

/-- slots -/
def SlOk (c : MC) (H0 G H : Hp) : Sl → Option V → Prop
  | .un, _ => True
  | .va d, v => ∃ x, v = some x ∧ Rep c G d x
  | .ol ds, v => ∃ p vs, v = some (.ref p) ∧ H p = some (.lst vs) ∧ G p = none ∧ H0 p = none ∧ Reps c G ds vs
  | .oK ks ds, v => ∃ p vs, v = some (.ref p) ∧ H p = some (.dK (ks.zip vs)) ∧ ks.length = vs.length ∧ G p = none ∧ H0 p = none ∧ Reps c G ds vs
  | .oT ks ds, v => ∃ p vs, v = some (.ref p) ∧ H p = some (.dT (ks.zip vs)) ∧ ks.length = vs.length ∧ G p = none ∧ H0 p = none ∧ Reps c G ds vs
structure EvOk (c : MC) (H0 G H : Hp) (env : Ev) (σ : L2.St) : Prop where
  len : env.length = σ.length
  at_ : ∀ (i : Nat) (s : Sl), env[i]? = some s → ∃ v, σ[i]? = some v ∧ SlOk c H0 G H s v
  dis : ∀ (i j : Nat) (si sj : Sl) (p : Addr), i ≠ j → env[i]? = some si → env[j]? = some sj → si.own = true → sj.own = true → σ[i]? = some (some (V.ref p)) → σ[j]? ≠ some (some (V.ref p))
  bb : H0 c.pb ≠ none
  bg : H0 c.pg ≠ none
theorem ne_h0 {a p : Addr} (h : H0 a ≠ none) (n : H0 p = none) : p ≠ a := fun z => by
  subst z
  exact h n
theorem SlOk.step (bb : H0 c.pb ≠ none) (bg : H0 c.pg ≠ none) (s : Stp c G H G' H') {x : Sl} {v : Option V} (h : SlOk c H0 G H x v) : SlOk c H0 G' H' x v := by
  cases x with
  | un => exact True.intro
  | va d =>
    obtain ⟨y, e, r⟩ := h
    exact ⟨y, e, r.mono s.g d y⟩
  | ol ds =>
    obtain ⟨p, vs, e, hp, gp, h0, r⟩ := h
    exact ⟨p, vs, e, s.h _ _ (ne_h0 bb h0) (ne_h0 bg h0) hp, s.fr p (by rw [hp]; exact fun z => nomatch z) gp, h0, r.mono s.g⟩
  | oK ks ds =>
    obtain ⟨p, vs, e, hp, l, gp, h0, r⟩ := h
    exact ⟨p, vs, e, s.h _ _ (ne_h0 bb h0) (ne_h0 bg h0) hp, l, s.fr p (by rw [hp]; exact fun z => nomatch z) gp, h0, r.mono s.g⟩
  | oT ks ds =>
    obtain ⟨p, vs, e, hp, l, gp, h0, r⟩ := h
    exact ⟨p, vs, e, s.h _ _ (ne_h0 bb h0) (ne_h0 bg h0) hp, l, s.fr p (by rw [hp]; exact fun z => nomatch z) gp, h0, r.mono s.g⟩
theorem EvOk.step {env : Ev} {σ : L2.St} (h : EvOk c H0 G H env σ) (s : Stp c G H G' H') : EvOk c H0 G' H' env σ :=
  ⟨h.len, fun i x e => by
    obtain ⟨v, e1, e2⟩ := h.at_ i x e
    exact ⟨v, e1, e2.step h.bb h.bg s⟩, h.dis, h.bb, h.bg⟩
end

/-- an exception -/
def ExOk (c : MC) (G H : Hp) (e : Exn) (cls : Value) (dd : Option Addr) : Prop :=
  ∃ C, c.mg e.nm = some (.ref C) ∧ cls = .ref C ∧ ((e.args = [] ∧ dd = none) ∨ ∃ (d : Addr) (ns : List Str) (vs : List V), dd = some d ∧ H d = some (.xd (ns.zip vs)) ∧ ns.length = vs.length ∧ Reps c G e.args vs)

/-! ### readings -/
def PstX (c : MC) (E : XK) (G H : Hp) (e : Exn) (b : Bag) : Prop :=
  ∀ cls dd G' H', Stp c G H G' H' → Wd c b G' H' → ExOk c G' H' e cls dd → E cls dd H'
/-- what is wanted of an evaluation, by what it hands on (P: how the value stands) -/
def PstG {α β : Type} (c : MC) (E : XK) (G H : Hp) (P : Hp → Hp → α → β → Prop) (Q : β → Hp → Prop) : R α → Prop
  | .ok a b => ∀ v G' H', Stp c G H G' H' → Wd c b G' H' → P G' H' a v → Q v H'
  | .exc e b => PstX c E G H e b
  | .stuck => False
/-- a value that stands still; a view; a new list; a truth; arguments -/
abbrev pM (c : MC) : Hp → Hp → D → V → Prop := fun G _ d v => Rep c G d v
abbrev pV (c : MC) : Hp → Hp → D → V → Prop := fun G H d v => Vw c G H d v
abbrev pT : Hp → Hp → Bool → Bool → Prop := fun _ _ a v => v = a
abbrev pA (c : MC) : Hp → Hp → List D → List V → Prop := fun G _ ds vs => Reps c G ds vs
/-- new: it may still change -/
def pF (c : MC) (H1 : Hp) : Hp → Hp → D → V → Prop := fun G H d v => match d with
  | .lst ds => ∃ p vs, v = .ref p ∧ H p = some (.lst vs) ∧ G p = none ∧ H1 p = none ∧ Reps c G ds vs
  | .dK ks ds => ∃ p vs, v = .ref p ∧ H p = some (.dK (ks.zip vs)) ∧ ks.length = vs.length ∧ G p = none ∧ H1 p = none ∧ Reps c G ds vs
  | .dT ks ds => ∃ p vs, v = .ref p ∧ H p = some (.dT (ks.zip vs)) ∧ ks.length = vs.length ∧ G p = none ∧ H1 p = none ∧ Reps c G ds vs
  | _ => False

abbrev cx (K : PySem.W.Frag) (mg : Str → Option Value) (pb pg : Addr) : MC := ⟨K, mg, pb, pg⟩
def tM (K : PySem.W.Frag) (mg : Str → Option Value) (E : XK) (m : ME) : TE := fun σ H Q => ∃ pb pg H0 env b G, Wd (cx K mg pb pg) b G H ∧ EvOk (cx K mg pb pg) H0 G H env σ ∧ PstG (cx K mg pb pg) E G H (pM (cx K mg pb pg)) Q (m env b)
def tV (K : PySem.W.Frag) (mg : Str → Option Value) (E : XK) (m : ME) : TE := fun σ H Q => ∃ pb pg H0 env b G, Wd (cx K mg pb pg) b G H ∧ EvOk (cx K mg pb pg) H0 G H env σ ∧ PstG (cx K mg pb pg) E G H (pV (cx K mg pb pg)) Q (m env b)
def tF (K : PySem.W.Frag) (mg : Str → Option Value) (E : XK) (m : ME) : TE := fun σ H Q => ∃ pb pg H0 env b G, Wd (cx K mg pb pg) b G H ∧ EvOk (cx K mg pb pg) H0 G H env σ ∧ PstG (cx K mg pb pg) E G H (pF (cx K mg pb pg) H) Q (m env b)
def tT (K : PySem.W.Frag) (mg : Str → Option Value) (E : XK) (m : MT) : TT := fun σ H Q => ∃ pb pg H0 env b G, Wd (cx K mg pb pg) b G H ∧ EvOk (cx K mg pb pg) H0 G H env σ ∧ PstG (cx K mg pb pg) E G H pT Q (m env b)
def tA (K : PySem.W.Frag) (mg : Str → Option Value) (E : XK) (m : MA) : TA := fun σ H Q => ∃ pb pg H0 env b G, Wd (cx K mg pb pg) b G H ∧ EvOk (cx K mg pb pg) H0 G H env σ ∧ PstG (cx K mg pb pg) E G H (pA (cx K mg pb pg)) Q (m env b)

theorem PE.imp {X : Cx} {e : Expr} {t t' : TE} (h : PE X e t) (k : ∀ σ H Q, t' σ H Q → t σ H Q) : PE X e t' := ⟨fun pins s σ H Q I hq => h.run pins s σ H Q I (k _ _ _ hq)⟩
theorem PT.imp {X : Cx} {e : Expr} {t t' : TT} (h : PT X e t) (k : ∀ σ H Q, t' σ H Q → t σ H Q) : PT X e t' := ⟨fun pins s σ H Q I hq => h.run pins s σ H Q I (k _ _ _ hq)⟩
theorem PW.imp {X : Cx} {e : Expr} {t t' : TT} (h : PW X e t) (k : ∀ σ H Q, t' σ H Q → t σ H Q) : PW X e t' := ⟨fun wh pins s σ H Q I hq => h.run wh pins s σ H Q I (k _ _ _ hq)⟩
theorem PA.imp {X : Cx} {e : List Expr} {t t' : TA} (h : PA X e t) (k : ∀ σ H Q, t' σ H Q → t σ H Q) : PA X e t' := ⟨fun pos pins s σ H Q I hq => h.run pos pins s σ H Q I (k _ _ _ hq)⟩
theorem PS.imp {X : Cx} {e : Stmt} {t t' : TS} (h : PS X e t) (k : ∀ D σ H, t' D σ H → t D σ H) : PS X e t' := ⟨fun pins s σ H D I hq => h.run pins s σ H D I (k _ _ _ hq)⟩
theorem PSs.imp {X : Cx} {e : List Stmt} {t t' : TS} (h : PSs X e t) (k : ∀ D σ H, t' D σ H → t D σ H) : PSs X e t' := ⟨fun pins s σ H D I hq => h.run pins s σ H D I (k _ _ _ hq)⟩

abbrev DE (X : Cx) (E : XK) (e : Expr) (m : ME) : Prop := PE X e (tM X.K X.mg E m)
abbrev DV (X : Cx) (E : XK) (e : Expr) (m : ME) : Prop := PE X e (tV X.K X.mg E m)
abbrev DF (X : Cx) (E : XK) (e : Expr) (m : ME) : Prop := PE X e (tF X.K X.mg E m)
abbrev DT (X : Cx) (E : XK) (e : Expr) (m : MT) : Prop := PT X e (tT X.K X.mg E m)
abbrev DW (X : Cx) (E : XK) (e : Expr) (m : MT) : Prop := PW X e (tT X.K X.mg E m)
abbrev DA (X : Cx) (E : XK) (es : List Expr) (m : MA) : Prop := PA X es (tA X.K X.mg E m)

theorem PstX.of {c : MC} {E : XK} {G H G1 H1 : Hp} {e : Exn} {b : Bag} (s : Stp c G H G1 H1) (h : PstX c E G H e b) : PstX c E G1 H1 e b := fun cls dd G' H' s' w r => h cls dd G' H' (s.trans s') w r
/-- what is wanted, from a later state (P does not look at where it began) -/
theorem PstG.of {α β : Type} {c : MC} {E : XK} {G H G1 H1 : Hp} {P : Hp → Hp → α → β → Prop} {Q : β → Hp → Prop} (s : Stp c G H G1 H1) : ∀ {r : R α}, PstG c E G H P Q r → PstG c E G1 H1 P Q r
  | .ok _ _, h => fun v G' H' s' w p => h v G' H' (s.trans s') w p
  | .exc _ _, h => PstX.of s h
  | .stuck, h => h
/-- one part, then the rest -/
theorem PstG.bind {α β γ δ : Type} {c : MC} {E : XK} {G H : Hp} {P : Hp → Hp → α → β → Prop} {P2 : Hp → Hp → γ → δ → Prop} {Q : δ → Hp → Prop} {x : R α} {f : α → Bag → R γ} {Q' : β → Hp → Prop}
    (h : PstG c E G H P2 Q (x.bind f)) (k : ∀ a b v G' H', Stp c G H G' H' → Wd c b G' H' → P G' H' a v → PstG c E G' H' P2 Q (f a b) → Q' v H') : PstG c E G H P Q' x := by
  cases x with
  | ok a b => exact fun v G' H' s w p => k a b v G' H' s w p (PstG.of s h)
  | exc e b => exact h
  | stuck => exact h

section
variable {X : Cx} {E : XK} {e : Expr} {m : ME}
theorem DE.v (h : DE X E e m) : DV X E e m := PE.imp h fun σ H Q ⟨pb, pg, H0, env, b, G, w, ev, q⟩ => ⟨pb, pg, H0, env, b, G, w, ev, by
  cases hm : m env b with
  | ok a b1 => rw [hm] at q; exact fun v G' H' s w p => q v G' H' s w (Rep.vw w p)
  | exc e b1 => rw [hm] at q; exact q
  | stuck => rw [hm] at q; exact q⟩
theorem DF.d (h : DF X E e m) : DE X E e m := PE.imp h fun σ H Q ⟨pb, pg, H0, env, b, G, w, ev, q⟩ => ⟨pb, pg, H0, env, b, G, w, ev, by
  cases hm : m env b with
  | ok a b1 =>
    rw [hm] at q
    refine fun v G' H' s w1 p => ?_
    cases a with
    | lst ds =>
      obtain ⟨p, vs, rfl, hp, gp, h0, r⟩ := p
      obtain ⟨s2, w2⟩ := s.freeze w1 hp h0 gp (fun z => by rw [z] at h0; exact w.hbne h0) (fun z => by rw [z] at h0; exact w.hgne h0)
      refine q _ _ _ s2 w2 ?_
      show Rep _ _ (.lst ds) _
      unfold Rep
      exact ⟨p, vs, rfl, upd_same, r.mono (Le.new gp)⟩
    | dK ks ds =>
      obtain ⟨p, vs, rfl, hp, hl, gp, h0, r⟩ := p
      obtain ⟨s2, w2⟩ := s.freeze w1 hp h0 gp (fun z => by rw [z] at h0; exact w.hbne h0) (fun z => by rw [z] at h0; exact w.hgne h0)
      refine q _ _ _ s2 w2 ?_
      show Rep _ _ (.dK ks ds) _
      unfold Rep
      exact ⟨p, vs, rfl, upd_same, hl, r.mono (Le.new gp)⟩
    | dT ks ds =>
      obtain ⟨p, vs, rfl, hp, hl, gp, h0, r⟩ := p
      obtain ⟨s2, w2⟩ := s.freeze w1 hp h0 gp (fun z => by rw [z] at h0; exact w.hbne h0) (fun z => by rw [z] at h0; exact w.hgne h0)
      refine q _ _ _ s2 w2 ?_
      show Rep _ _ (.dT ks ds) _
      unfold Rep
      exact ⟨p, vs, rfl, upd_same, hl, r.mono (Le.new gp)⟩
    | _ => exact p.elim
  | exc e b1 => rw [hm] at q; exact q
  | stuck => rw [hm] at q; exact q⟩
theorem DF.v (h : DF X E e m) : DV X E e m := DE.v (DF.d h)
end
end Mr

set_option Elab.async false
set_option linter.all false
set_option maxRecDepth 100000
namespace Mr
open PySem PySem.Spec L2

/-! ### mirrors of expressions -/
def mC (d : D) : ME := fun _ b => .ok d b
def mVar (i : Nat) : ME := fun env b => match env[i]? with
  | some (.va d) => .ok d b
  | _ => .stuck
def mOwn (i : Nat) : ME := fun env b => match env[i]? with
  | some (.va d) => .ok d b
  | some (.ol ds) => .ok (.lst ds) b
  | some (.oK ks ds) => .ok (.dK ks ds) b
  | some (.oT ks ds) => .ok (.dT ks ds) b
  | _ => .stuck
def m1 (g : D → Option D) (ma : ME) : ME := fun env b => (ma env b).bind fun x b => R.opt (g x) b
def m2 (g : D → D → Option D) (ma mb : ME) : ME := fun env b => (ma env b).bind fun x b => (mb env b).bind fun y b => R.opt (g x y) b
def mNil : MA := fun _ b => .ok [] b
def mCons (ma : ME) (mr : MA) : MA := fun env b => (ma env b).bind fun x b => (mr env b).bind fun xs b => .ok (x :: xs) b
/-- a built-in, by its arguments -/
def mB (g : List D → Option D) (ma : MA) : ME := fun env b => (ma env b).bind fun xs b => R.opt (g xs) b
def asB : D → Option Bool
  | .bl b => some b
  | _ => none
@[simp] theorem asB_bl (b : Bool) : asB (.bl b) = some b := rfl
/-- tests -/
def mT (ma : ME) : MT := fun env b => (ma env b).bind fun x b => R.opt (asB x) b
def mAndT (a c : MT) : MT := fun env b => (a env b).bind fun x b => if x = true then c env b else .ok false b
def mOrT (a c : MT) : MT := fun env b => (a env b).bind fun x b => if x = true then .ok true b else c env b
def mNotT (a : MT) : MT := fun env b => (a env b).bind fun x b => .ok (!x) b
def mAnd (a c : ME) : ME := fun env b => (a env b).bind fun x b => match x with
  | .bl true => c env b
  | .bl false => .ok (.bl false) b
  | _ => .stuck
def mOr (a c : ME) : ME := fun env b => (a env b).bind fun x b => match x with
  | .bl true => .ok (.bl true) b
  | .bl false => c env b
  | _ => .stuck
def mNot (a : ME) : ME := fun env b => (a env b).bind fun x b => match x with
  | .bl k => .ok (.bl (!k)) b
  | _ => .stuck
def mIf (t : MT) (a c : ME) : ME := fun env b => (t env b).bind fun x b => if x = true then a env b else c env b
/-- a < b < c -/
def mCh (g g' : D → D → Option D) (ma mb mc : ME) : ME := fun env b => (ma env b).bind fun x b => (mb env b).bind fun y b => match g x y with
  | some (.bl true) => (mc env b).bind fun z b => R.opt (g' y z) b
  | some (.bl false) => .ok (.bl false) b
  | _ => .stuck

/-- views of arguments -/
def Vws (c : MC) (G H : Hp) : List D → List V → Prop
  | [], vs => vs = []
  | d :: ds, vs => ∃ v ws, vs = v :: ws ∧ Vw c G H d v ∧ Vws c G H ds ws
abbrev pW (c : MC) : Hp → Hp → List D → List V → Prop := fun G H ds vs => Vws c G H ds vs
def tW (K : PySem.W.Frag) (mg : Str → Option Value) (E : XK) (m : MA) : TA := fun σ H Q => ∃ pb pg H0 env b G, Wd (cx K mg pb pg) b G H ∧ EvOk (cx K mg pb pg) H0 G H env σ ∧ PstG (cx K mg pb pg) E G H (pW (cx K mg pb pg)) Q (m env b)
abbrev DAv (X : Cx) (E : XK) (es : List Expr) (m : MA) : Prop := PA X es (tW X.K X.mg E m)

/-- rules on values -/
def rD2 (K : PySem.W.Frag) (mg : Str → Option Value) (g : D → D → Option D) : R2 := fun x y H Q => ∃ pb pg b G dx dy d, Wd (cx K mg pb pg) b G H ∧ Vw (cx K mg pb pg) G H dx x ∧ Vw (cx K mg pb pg) G H dy y ∧ g dx dy = some d ∧
  ∀ v G' H', Stp (cx K mg pb pg) G H G' H' → Wd (cx K mg pb pg) b G' H' → Rep (cx K mg pb pg) G' d v → Q v H'
def rD1 (K : PySem.W.Frag) (mg : Str → Option Value) (g : D → Option D) : V → Hp → VK → Prop := fun x H Q => ∃ pb pg b G dx d, Wd (cx K mg pb pg) b G H ∧ Vw (cx K mg pb pg) G H dx x ∧ g dx = some d ∧
  ∀ v G' H', Stp (cx K mg pb pg) G H G' H' → Wd (cx K mg pb pg) b G' H' → Rep (cx K mg pb pg) G' d v → Q v H'
def rDC (K : PySem.W.Frag) (mg : Str → Option Value) (g : List D → Option D) : List V → Hp → VK → Prop := fun xs H Q => ∃ pb pg b G dxs d, Wd (cx K mg pb pg) b G H ∧ Vws (cx K mg pb pg) G H dxs xs ∧ g dxs = some d ∧
  ∀ v G' H', Stp (cx K mg pb pg) G H G' H' → Wd (cx K mg pb pg) b G' H' → Rep (cx K mg pb pg) G' d v → Q v H'
/-- the result is new -/
def rFC (K : PySem.W.Frag) (mg : Str → Option Value) (g : List D → Option D) : List V → Hp → VK → Prop := fun xs H Q => ∃ pb pg b G dxs d, Wd (cx K mg pb pg) b G H ∧ Vws (cx K mg pb pg) G H dxs xs ∧ g dxs = some d ∧
  ∀ v G' H', Stp (cx K mg pb pg) G H G' H' → Wd (cx K mg pb pg) b G' H' → pF (cx K mg pb pg) H G' H' d v → Q v H'
abbrev OpD (X : Cx) (f : Value → Value → Sem Value) (g : D → D → Option D) : Prop := OpR X f (rD2 X.K X.mg g)
abbrev UnD (X : Cx) (f : Value → Sem Value) (g : D → Option D) : Prop := UnR X f (rD1 X.K X.mg g)
abbrev CallD (X : Cx) (f : Value) (g : List D → Option D) : Prop := CallR X f (rDC X.K X.mg g)
abbrev CallF (X : Cx) (f : Value) (g : List D → Option D) : Prop := CallR X f (rFC X.K X.mg g)

section
variable {X : Cx} {E : XK} {e a b c : Expr} {es : List Expr} {ma mb mc : ME} {mr : MA} {mt mu : MT} {pos : Pos}

theorem Vws.mono {c : MC} {G H G' H' : Hp} (s : Stp c G H G' H') : ∀ {ds : List D} {vs : List V}, Vws c G H ds vs → Vws c G' H' ds vs
  | [], _, h => h
  | d :: ds, _, ⟨v, ws, e, h1, h2⟩ => ⟨v, ws, e, h1.mono s, Vws.mono s h2⟩

theorem de_c {d : D} {v : V} {t : TE} (h : PE X e (tC v)) (r : ∀ pb pg G, Rep (cx X.K X.mg pb pg) G d v) : DE X E e (mC d) := PE.imp h fun σ H Q ⟨pb, pg, H0, env, b, G, w, ev, q⟩ => q v G H (Stp.refl _ _ _) w (r pb pg G)
theorem de_int {i : Int} {j : Nat} : DE X E (.Constant (.int i) j pos) (mC (.int i)) := de_c (t := tC (.int i)) pe_int fun _ _ _ => rfl
theorem de_bl {i : Bool} {j : Nat} : DE X E (.Constant (.bool i) j pos) (mC (.bl i)) := de_c (t := tC (.int 0)) pe_bl fun _ _ _ => rfl
theorem de_non {j : Nat} : DE X E (.Constant .none j pos) (mC .non) := de_c (t := tC (.int 0)) pe_non fun _ _ _ => rfl
theorem de_str {x : Str} {j : Nat} : DE X E (.Constant (.str x) j pos) (mC (.str x)) := de_c (t := tC (.int 0)) pe_str fun _ _ _ => rfl
/-- a constant of the module: an int -/
theorem de_gint {x : Str} {i : Int} {t : Tok} (hg : Gl X x) (hm : X.mg x = some (.int i t)) (hd : (x == ("__debug__" : Str)) = false := by decide) : DE X E (.Name x pos) (mC (.int i)) :=
  de_c (t := tC (.int 0)) (pe_glob (v := .int i) hg hm ⟨t, rfl⟩ hd) fun _ _ _ => rfl
theorem de_gstr {x z : Str} {t : Tok} (hg : Gl X x) (hm : X.mg x = some (.str z t)) (hd : (x == ("__debug__" : Str)) = false := by decide) : DE X E (.Name x pos) (mC (.str z)) :=
  de_c (t := tC (.int 0)) (pe_glob (v := .str z) hg hm ⟨t, rfl⟩ hd) fun _ _ _ => rfl
theorem de_var (i : Nat) {x : Str} (hN : X.N[i]? = some x := by rfl) (hv : Vis X.env.scope x := by first | exact Or.inl rfl | exact Or.inr (Or.inl rfl) | exact Or.inr (Or.inr rfl)) (hd : (x == ("__debug__" : Str)) = false := by decide)
    (hcd : (x == ("__classdict__" : Str)) = false := by decide) : DE X E (.Name x pos) (mVar i) := PE.imp (pe_var hN hv hd hcd) fun σ H Q ⟨pb, pg, H0, env, b, G, w, ev, q⟩ => by
  unfold mVar at q
  split at q
  · rename_i d hd'
    obtain ⟨v, e1, x, rfl, r⟩ := ev.at_ _ _ hd'
    exact ⟨x, e1, q x G H (Stp.refl _ _ _) w r⟩
  · exact q.elim
theorem dv_own (i : Nat) {x : Str} (hN : X.N[i]? = some x := by rfl) (hv : Vis X.env.scope x := by first | exact Or.inl rfl | exact Or.inr (Or.inl rfl) | exact Or.inr (Or.inr rfl)) (hd : (x == ("__debug__" : Str)) = false := by decide)
    (hcd : (x == ("__classdict__" : Str)) = false := by decide) : DV X E (.Name x pos) (mOwn i) := PE.imp (pe_var hN hv hd hcd) fun σ H Q ⟨pb, pg, H0, env, b, G, w, ev, q⟩ => by
  unfold mOwn at q
  split at q
  · rename_i d hd'
    obtain ⟨v, e1, x, rfl, r⟩ := ev.at_ _ _ hd'
    exact ⟨x, e1, q x G H (Stp.refl _ _ _) w (Rep.vw w r)⟩
  · rename_i ds hd'
    obtain ⟨v, e1, p, vs, rfl, hp, gp, h0, r⟩ := ev.at_ _ _ hd'
    exact ⟨.ref p, e1, q _ G H (Stp.refl _ _ _) w ⟨p, vs, rfl, ⟨.inl hp, ne_h0 ev.bb h0, ne_h0 ev.bg h0⟩, r⟩⟩
  · rename_i ks ds hd'
    obtain ⟨v, e1, p, vs, rfl, hp, hl, gp, h0, r⟩ := ev.at_ _ _ hd'
    exact ⟨.ref p, e1, q _ G H (Stp.refl _ _ _) w ⟨p, vs, rfl, .inl hp, hl, r, ne_h0 ev.bb h0, ne_h0 ev.bg h0⟩⟩
  · rename_i ks ds hd'
    obtain ⟨v, e1, p, vs, rfl, hp, hl, gp, h0, r⟩ := ev.at_ _ _ hd'
    exact ⟨.ref p, e1, q _ G H (Stp.refl _ _ _) w ⟨p, vs, rfl, .inl hp, hl, r, ne_h0 ev.bb h0, ne_h0 ev.bg h0⟩⟩
  · exact q.elim

theorem read2 {K : PySem.W.Frag} {mg : Str → Option Value} {g : D → D → Option D} {σ : L2.St} {H : Hp} {Q : VK} (h : tM K mg E (m2 g ma mb) σ H Q) : tOp (rD2 K mg g) (tV K mg E ma) (tV K mg E mb) σ H Q := by
  obtain ⟨pb, pg, H0, env, b, G, w, ev, q⟩ := h
  refine ⟨pb, pg, H0, env, b, G, w, ev, PstG.bind q fun a1 b1 v1 G1 H1 s1 w1 p1 q1 => ?_⟩
  refine ⟨pb, pg, H0, env, b1, G1, w1, ev.step s1, PstG.bind q1 fun a2 b2 v2 G2 H2 s2 w2 p2 q2 => ?_⟩
  cases hg : g a1 a2 with
  | none => rw [hg] at q2; exact q2.elim
  | some d => rw [hg] at q2; exact ⟨pb, pg, b2, G2, a1, a2, d, w2, p1.mono s2, p2, hg, q2⟩
theorem de_op {op : Operator} {g : D → D → Option D} (ho : OpD X (binaryOp op) g) (ha : DV X E a ma) (hb : DV X E b mb) : DE X E (.BinOp a op b pos) (m2 g ma mb) :=
  PE.imp (pe_op ho ha hb) fun _ _ _ h => read2 h
theorem de_cmp {op : CmpOp} {g : D → D → Option D} (ho : OpD X (compareOp op) g) (ha : DV X E a ma) (hb : DV X E b mb) (hm : behindInMarks op b = false := by first | exact nobehind _ (by decide) (by decide) | rfl) : DE X E (.Compare a [op] [b] pos) (m2 g ma mb) :=
  PE.imp (pe_cmpR ho ha hb hm) fun _ _ _ h => read2 h
theorem readT {K : PySem.W.Frag} {mg : Str → Option Value} {σ : L2.St} {H : Hp} {Q : Bool → Hp → Prop} (h : tT K mg E (mT ma) σ H Q) : tM K mg E ma σ H fun x H' => ∃ k, x = .bl k ∧ Q k H' := by
  obtain ⟨pb, pg, H0, env, b, G, w, ev, q⟩ := h
  refine ⟨pb, pg, H0, env, b, G, w, ev, PstG.bind q fun a1 b1 v1 G1 H1 s1 w1 p1 q1 => ?_⟩
  cases a1 with
  | bl k => exact ⟨k, p1, q1 k G1 H1 (Stp.refl _ _ _) w1 rfl⟩
  | _ => exact q1.elim
theorem dt_cmp {op : CmpOp} {g : D → D → Option D} (ho : OpD X (compareOp op) g) (ha : DV X E a ma) (hb : DV X E b mb) (hm : behindInMarks op b = false := by first | exact nobehind _ (by decide) (by decide) | rfl) : DT X E (.Compare a [op] [b] pos) (mT (m2 g ma mb)) :=
  PT.imp (pt_cmpR ho ha hb hm) fun _ _ _ h => read2 (readT h)
theorem dt_val (ha : DE X E e ma) (he : ∀ whole, isTrue e X.env whole = (do let v ← whole; standAt e.pos; holding [v] (truthy v)) := by intro _; rfl) : DT X E e (mT ma) :=
  PT.imp (pt_val ha he) fun _ _ _ h => readT h
theorem dw_and1 (ha : DT X E a mt) : DW X E (.BoolOp .And [a] pos) mt := pw_and1 ha
theorem dw_or1 (ha : DT X E a mt) : DW X E (.BoolOp .Or [a] pos) mt := pw_or1 ha
theorem dw_and {rest : List Expr} (ha : DT X E a mt) (hb : DW X E (.BoolOp .And (b :: rest) pos) mu) : DW X E (.BoolOp .And (a :: b :: rest) pos) (mAndT mt mu) :=
  PW.imp (pw_and ha hb) fun σ H Q ⟨pb, pg, H0, env, b, G, w, ev, q⟩ => ⟨pb, pg, H0, env, b, G, w, ev, PstG.bind q fun a1 b1 v1 G1 H1 s1 w1 p1 q1 => by
    cases (show v1 = a1 from p1)
    cases a1 with
    | true => rw [if_pos rfl] at q1 ⊢; exact ⟨pb, pg, H0, env, b1, G1, w1, ev.step s1, q1⟩
    | false => rw [if_neg Bool.false_ne_true] at q1 ⊢; exact q1 false G1 H1 (Stp.refl _ _ _) w1 rfl⟩
theorem dw_or {rest : List Expr} (ha : DT X E a mt) (hb : DW X E (.BoolOp .Or (b :: rest) pos) mu) : DW X E (.BoolOp .Or (a :: b :: rest) pos) (mOrT mt mu) :=
  PW.imp (pw_or ha hb) fun σ H Q ⟨pb, pg, H0, env, b, G, w, ev, q⟩ => ⟨pb, pg, H0, env, b, G, w, ev, PstG.bind q fun a1 b1 v1 G1 H1 s1 w1 p1 q1 => by
    cases (show v1 = a1 from p1)
    cases a1 with
    | false => rw [if_neg Bool.false_ne_true] at q1 ⊢; exact ⟨pb, pg, H0, env, b1, G1, w1, ev.step s1, q1⟩
    | true => rw [if_pos rfl] at q1 ⊢; exact q1 true G1 H1 (Stp.refl _ _ _) w1 rfl⟩
theorem dw_t (h : DW X E e mt) : DT X E e mt := h.pt
theorem dt_not (ha : DT X E a mt) : DT X E (.UnaryOp .Not a pos) (mNotT mt) :=
  PT.imp (pt_not ha) fun σ H Q ⟨pb, pg, H0, env, b, G, w, ev, q⟩ => ⟨pb, pg, H0, env, b, G, w, ev, PstG.bind q fun a1 b1 v1 G1 H1 s1 w1 p1 q1 => by
    cases (show v1 = a1 from p1)
    exact q1 _ G1 H1 (Stp.refl _ _ _) w1 rfl⟩
theorem de_and {rest : List Expr} (ha : DE X E a ma) (hb : DE X E (.BoolOp .And (b :: rest) pos) mb) : DE X E (.BoolOp .And (a :: b :: rest) pos) (mAnd ma mb) :=
  PE.imp (pe_and ha hb) fun σ H Q ⟨pb, pg, H0, env, b, G, w, ev, q⟩ => ⟨pb, pg, H0, env, b, G, w, ev, PstG.bind q fun a1 b1 v1 G1 H1 s1 w1 p1 q1 => by
    cases a1 with
    | bl k =>
      refine ⟨k, p1, ?_⟩
      cases k with
      | true => rw [if_pos rfl]; exact ⟨pb, pg, H0, env, b1, G1, w1, ev.step s1, q1⟩
      | false => rw [if_neg Bool.false_ne_true]; exact q1 (.bl false) G1 H1 (Stp.refl _ _ _) w1 rfl
    | _ => exact q1.elim⟩
theorem de_or {rest : List Expr} (ha : DE X E a ma) (hb : DE X E (.BoolOp .Or (b :: rest) pos) mb) : DE X E (.BoolOp .Or (a :: b :: rest) pos) (mOr ma mb) :=
  PE.imp (pe_or ha hb) fun σ H Q ⟨pb, pg, H0, env, b, G, w, ev, q⟩ => ⟨pb, pg, H0, env, b, G, w, ev, PstG.bind q fun a1 b1 v1 G1 H1 s1 w1 p1 q1 => by
    cases a1 with
    | bl k =>
      refine ⟨k, p1, ?_⟩
      cases k with
      | false => rw [if_neg Bool.false_ne_true]; exact ⟨pb, pg, H0, env, b1, G1, w1, ev.step s1, q1⟩
      | true => rw [if_pos rfl]; exact q1 (.bl true) G1 H1 (Stp.refl _ _ _) w1 rfl
    | _ => exact q1.elim⟩
theorem de_one {op : BoolOp} (h : DE X E a ma) : DE X E (.BoolOp op [a] pos) ma := pe_one h
theorem de_not (ha : DE X E a ma) : DE X E (.UnaryOp .Not a pos) (mNot ma) :=
  PE.imp (pe_not ha) fun σ H Q ⟨pb, pg, H0, env, b, G, w, ev, q⟩ => ⟨pb, pg, H0, env, b, G, w, ev, PstG.bind q fun a1 b1 v1 G1 H1 s1 w1 p1 q1 => by
    cases a1 with
    | bl k => exact ⟨k, p1, q1 _ G1 H1 (Stp.refl _ _ _) w1 rfl⟩
    | _ => exact q1.elim⟩
theorem de_if (ht : DT X E c mt) (ha : DE X E a ma) (hb : DE X E b mb) : DE X E (.IfExp c a b pos) (mIf mt ma mb) :=
  PE.imp (pe_ifExp ht ha hb) fun σ H Q ⟨pb, pg, H0, env, b, G, w, ev, q⟩ => ⟨pb, pg, H0, env, b, G, w, ev, PstG.bind q fun a1 b1 v1 G1 H1 s1 w1 p1 q1 => by
    cases (show v1 = a1 from p1)
    cases a1 with
    | true => rw [if_pos rfl] at q1 ⊢; exact ⟨pb, pg, H0, env, b1, G1, w1, ev.step s1, q1⟩
    | false => rw [if_neg Bool.false_ne_true] at q1 ⊢; exact ⟨pb, pg, H0, env, b1, G1, w1, ev.step s1, q1⟩⟩
theorem de_un {op : UnaryOp} {g : D → Option D} (ho : UnD X (unaryOp op) g) (ha : DV X E a ma) : DE X E (.UnaryOp op a pos) (m1 g ma) :=
  PE.imp (pe_un ho ha) fun σ H Q ⟨pb, pg, H0, env, b, G, w, ev, q⟩ => ⟨pb, pg, H0, env, b, G, w, ev, PstG.bind q fun a1 b1 v1 G1 H1 s1 w1 p1 q1 => by
    cases hg : g a1 with
    | none => rw [hg] at q1; exact q1.elim
    | some d => rw [hg] at q1; exact ⟨pb, pg, b1, G1, a1, d, w1, p1, hg, q1⟩⟩
theorem readCh {K : PySem.W.Frag} {mg : Str → Option Value} {g g' : D → D → Option D} {σ : L2.St} {H : Hp} {Q : VK} (h : tM K mg E (mCh g g' ma mb mc) σ H Q) : tChain (rD2 K mg g) (rD2 K mg g') (tV K mg E ma) (tV K mg E mb) (tV K mg E mc) σ H Q := by
  obtain ⟨pb, pg, H0, env, b, G, w, ev, q⟩ := h
  refine ⟨pb, pg, H0, env, b, G, w, ev, PstG.bind q fun a1 b1 v1 G1 H1 s1 w1 p1 q1 => ?_⟩
  refine ⟨pb, pg, H0, env, b1, G1, w1, ev.step s1, PstG.bind q1 fun a2 b2 v2 G2 H2 s2 w2 p2 q2 => ?_⟩
  cases hg : g a1 a2 with
  | none => rw [hg] at q2; exact q2.elim
  | some d =>
    rw [hg] at q2
    refine ⟨pb, pg, b2, G2, a1, a2, d, w2, p1.mono s2, p2, hg, fun v G3 H3 s3 w3 r3 => ?_⟩
    cases d with
    | bl k =>
      refine ⟨k, r3, ?_⟩
      cases k with
      | true =>
        rw [if_pos rfl]
        refine ⟨pb, pg, H0, env, b2, G3, w3, (ev.step (s1.trans s2)).step s3, PstG.bind (PstG.of s3 q2) fun a4 b4 v4 G4 H4 s4 w4 p4 q4 => ?_⟩
        cases hg' : g' a2 a4 with
        | none => rw [hg'] at q4; exact q4.elim
        | some d' => rw [hg'] at q4; exact ⟨pb, pg, b4, G4, a2, a4, d', w4, (p2.mono s3).mono s4, p4, hg', q4⟩
      | false =>
        rw [if_neg Bool.false_ne_true]
        exact q2 (.bl false) G3 H3 s3 w3 rfl
    | _ => exact q2.elim
theorem de_chain {op op' : CmpOp} {g g' : D → D → Option D} (ho : OpD X (compareOp op) g) (ho' : OpD X (compareOp op') g') (ha : DV X E a ma) (hb : DV X E b mb) (hc : DV X E c mc) (hm : lastMarks [op, op'] [b, c] = false := by rfl) : DE X E (.Compare a [op, op'] [b, c] pos) (mCh g g' ma mb mc) :=
  PE.imp (pe_chain ho ho' ha hb hc hm) fun _ _ _ h => readCh h
theorem dt_chain {op op' : CmpOp} {g g' : D → D → Option D} (ho : OpD X (compareOp op) g) (ho' : OpD X (compareOp op') g') (ha : DV X E a ma) (hb : DV X E b mb) (hc : DV X E c mc) (hm : lastMarks [op, op'] [b, c] = false := by rfl) : DT X E (.Compare a [op, op'] [b, c] pos) (mT (mCh g g' ma mb mc)) :=
  PT.imp (pt_chain ho ho' ha hb hc hm) fun _ _ _ h => readCh (readT h)

/-! ### arguments -/
theorem da_nil : DA X E [] mNil := PA.imp pa_nil fun σ H Q ⟨pb, pg, H0, env, b, G, w, ev, q⟩ => q [] G H (Stp.refl _ _ _) w .nil
theorem da_cons (ha : DE X E e ma) (hr : DA X E es mr) (hs : starEach (e :: es) X.env = (false, eval e X.env) :: starEach es X.env := by rfl) : DA X E (e :: es) (mCons ma mr) :=
  PA.imp (pa_cons ha hr hs) fun σ H Q ⟨pb, pg, H0, env, b, G, w, ev, q⟩ => ⟨pb, pg, H0, env, b, G, w, ev, PstG.bind q fun a1 b1 v1 G1 H1 s1 w1 p1 q1 =>
    ⟨pb, pg, H0, env, b1, G1, w1, ev.step s1, PstG.bind q1 fun a2 b2 v2 G2 H2 s2 w2 p2 q2 => q2 (v1 :: v2) G2 H2 (Stp.refl _ _ _) w2 (.cons (Rep.mono s2.g _ _ p1) p2)⟩⟩
theorem dw_nil : DAv X E [] mNil := PA.imp pa_nil fun σ H Q ⟨pb, pg, H0, env, b, G, w, ev, q⟩ => q [] G H (Stp.refl _ _ _) w rfl
theorem dw_cons (ha : DV X E e ma) (hr : DAv X E es mr) (hs : starEach (e :: es) X.env = (false, eval e X.env) :: starEach es X.env := by rfl) : DAv X E (e :: es) (mCons ma mr) :=
  PA.imp (pa_cons ha hr hs) fun σ H Q ⟨pb, pg, H0, env, b, G, w, ev, q⟩ => ⟨pb, pg, H0, env, b, G, w, ev, PstG.bind q fun a1 b1 v1 G1 H1 s1 w1 p1 q1 =>
    ⟨pb, pg, H0, env, b1, G1, w1, ev.step s1, PstG.bind q1 fun a2 b2 v2 G2 H2 s2 w2 p2 q2 => q2 (v1 :: v2) G2 H2 (Stp.refl _ _ _) w2 ⟨v1, v2, rfl, p1.mono s2, p2⟩⟩⟩
theorem readB {K : PySem.W.Frag} {mg : Str → Option Value} {g : List D → Option D} {σ : L2.St} {H : Hp} {Q : VK} (h : tM K mg E (mB g mr) σ H Q) : tCB (rDC K mg g) (tW K mg E mr) σ H Q := by
  obtain ⟨pb, pg, H0, env, b, G, w, ev, q⟩ := h
  refine ⟨pb, pg, H0, env, b, G, w, ev, PstG.bind q fun a1 b1 v1 G1 H1 s1 w1 p1 q1 => ?_⟩
  cases hg : g a1 with
  | none => rw [hg] at q1; exact q1.elim
  | some d => rw [hg] at q1; exact ⟨pb, pg, b1, G1, a1, d, w1, p1, hg, q1⟩
theorem pF.weak {c : MC} {H H1 G' H' : Hp} {d : D} {v : V} (k : ∀ a, H a ≠ none → H1 a ≠ none) (h : pF c H1 G' H' d v) : pF c H G' H' d v := by
  have kk : ∀ p, H1 p = none → H p = none := fun p e => Classical.byContradiction fun z => k p z e
  cases d with
  | lst ds => obtain ⟨p, vs, e, hp, gp, h0, r⟩ := h; exact ⟨p, vs, e, hp, gp, kk p h0, r⟩
  | dK ks ds => obtain ⟨p, vs, e, hp, hl, gp, h0, r⟩ := h; exact ⟨p, vs, e, hp, hl, gp, kk p h0, r⟩
  | dT ks ds => obtain ⟨p, vs, e, hp, hl, gp, h0, r⟩ := h; exact ⟨p, vs, e, hp, hl, gp, kk p h0, r⟩
  | _ => exact h.elim
theorem readF {K : PySem.W.Frag} {mg : Str → Option Value} {g : List D → Option D} {σ : L2.St} {H : Hp} {Q : VK} (h : tF K mg E (mB g mr) σ H Q) : tCB (rFC K mg g) (tW K mg E mr) σ H Q := by
  obtain ⟨pb, pg, H0, env, b, G, w, ev, q⟩ := h
  refine ⟨pb, pg, H0, env, b, G, w, ev, PstG.bind q fun a1 b1 v1 G1 H1 s1 w1 p1 q1 => ?_⟩
  cases hg : g a1 with
  | none => rw [hg] at q1; exact q1.elim
  | some d => rw [hg] at q1; exact ⟨pb, pg, b1, G1, a1, d, w1, p1, hg, fun v G' H' s' w' f' => q1 v G' H' s' w' (pF.weak s1.dm f')⟩
theorem de_callB {id : String} {x : Str} {p : Pos} {g : List D → Option D} (hc : CallD X (.builtin id) g) (hg : Gl X x) (hm : X.mg x = none) (hv : bootBuiltins x = some (.builtin id)) (ha : DAv X E (e :: es) mr)
    (hn : x ≠ "__name__" := by decide) (hdb : (x == ("__debug__" : Str)) = false := by decide) (he : starEach (e :: es) X.env = (false, eval e X.env) :: starEach es X.env := by rfl) (hpl : (backTo pos (starEach es X.env)).any (·.1) = false := by rfl) : DE X E (.Call (.Name x p) (e :: es) [] pos) (mB g mr) :=
  PE.imp (pe_callB hc hg hm hv ha hn hdb he hpl) fun _ _ _ h => readB h
theorem de_callTy {T : String} {x : Str} {p : Pos} {g : List D → Option D} (hc : CallD X (.type T) g) (hg : Gl X x) (hm : X.mg x = none) (hv : bootBuiltins x = some (.type T)) (ha : DAv X E (e :: es) mr)
    (hn : x ≠ "__name__" := by decide) (hdb : (x == ("__debug__" : Str)) = false := by decide) (he : starEach (e :: es) X.env = (false, eval e X.env) :: starEach es X.env := by rfl) (hpl : (backTo pos (starEach es X.env)).any (·.1) = false := by rfl) : DE X E (.Call (.Name x p) (e :: es) [] pos) (mB g mr) :=
  PE.imp (pe_callTy hc hg hm hv ha hn hdb he hpl) fun _ _ _ h => readB h
theorem df_callB {id : String} {x : Str} {p : Pos} {g : List D → Option D} (hc : CallF X (.builtin id) g) (hg : Gl X x) (hm : X.mg x = none) (hv : bootBuiltins x = some (.builtin id)) (ha : DAv X E (e :: es) mr)
    (hn : x ≠ "__name__" := by decide) (hdb : (x == ("__debug__" : Str)) = false := by decide) (he : starEach (e :: es) X.env = (false, eval e X.env) :: starEach es X.env := by rfl) (hpl : (backTo pos (starEach es X.env)).any (·.1) = false := by rfl) : DF X E (.Call (.Name x p) (e :: es) [] pos) (mB g mr) :=
  PE.imp (pe_callB hc hg hm hv ha hn hdb he hpl) fun _ _ _ h => readF h
theorem df_callTy {T : String} {x : Str} {p : Pos} {g : List D → Option D} (hc : CallF X (.type T) g) (hg : Gl X x) (hm : X.mg x = none) (hv : bootBuiltins x = some (.type T)) (ha : DAv X E (e :: es) mr)
    (hn : x ≠ "__name__" := by decide) (hdb : (x == ("__debug__" : Str)) = false := by decide) (he : starEach (e :: es) X.env = (false, eval e X.env) :: starEach es X.env := by rfl) (hpl : (backTo pos (starEach es X.env)).any (·.1) = false := by rfl) : DF X E (.Call (.Name x p) (e :: es) [] pos) (mB g mr) :=
  PE.imp (pe_callTy hc hg hm hv ha hn hdb he hpl) fun _ _ _ h => readF h
end
end Mr

set_option Elab.async false
set_option linter.all false
set_option maxRecDepth 100000
namespace Mr
open PySem PySem.Spec L2

/-! ### data as the library's plain data -/
mutual
def toPy : D → PyData
  | .non => .none
  | .bl b => .bool b
  | .int i => .int i
  | .str x => .str x
  | .tup ds => .tuple (toPys ds)
  | .kt ds => .tuple (toPys ds)
  | .lst ds => .list (toPys ds)
  | .dK _ _ => .dict []
  | .dT _ _ => .dict []
  | .ob _ _ _ => .dict []
  | .bag => .dict []
def toPys : List D → List PyData
  | [] => []
  | d :: ds => toPy d :: toPys ds
end
theorem toPys_map (ds : List D) : toPys ds = ds.map toPy := by
  induction ds with
  | nil => rfl
  | cons d ds ih => rw [toPys, ih]; rfl
section
variable {c : MC} {b : Bag} {G H : Hp}
mutual
theorem Rep.dp (w : Wd c b G H) : ∀ (d : D) (v : V), Rep c G d v → (toPy d).canLay0 = true → Dp c.K H v (toPy d)
  | .non, _, r, _ => by cases r; exact .non
  | .bl b, _, r, _ => by cases r; exact .bl b
  | .int i, _, r, _ => by cases r; exact .int i
  | .str x, _, r, _ => by cases r; exact .str x
  | .tup ds, _, r, k => by
    obtain ⟨p, vs, rfl, s, r⟩ := r
    exact .tup (.inl (.inl (w.tup s))) (Reps.dp w ds vs r (by simpa [toPy, PyData.canLay0] using k))
  | .lst ds, _, r, k => by
    obtain ⟨p, vs, rfl, s, r⟩ := r
    exact .lst (.inl (w.rd s)) (Reps.dp w ds vs r (by simpa [toPy, PyData.canLay0] using k))
  | .kt ds, _, r, k => by
    obtain ⟨p, vs, rfl, s, r⟩ := r
    exact .tup (.inr s) (Reps.dp w ds vs r (by simpa [toPy, PyData.canLay0] using k))
  | .dK _ _, _, _, k => by simp [toPy, PyData.canLay0] at k
  | .dT _ _, _, _, k => by simp [toPy, PyData.canLay0] at k
  | .ob _ _ _, _, _, k => by simp [toPy, PyData.canLay0] at k
  | .bag, _, _, k => by simp [toPy, PyData.canLay0] at k
theorem Reps.dp (w : Wd c b G H) : ∀ (ds : List D) (vs : List V), Reps c G ds vs → PyData.canLayAll0 (toPys ds) = true → DpAll c.K H vs (toPys ds)
  | [], _, r, _ => by cases (show _ = [] from r); exact .nil
  | d :: ds, _, r, k => by
    obtain ⟨v, ws, rfl, r1, r2⟩ := r
    have k' : (toPy d).canLay0 = true ∧ PyData.canLayAll0 (toPys ds) = true := by simpa [toPys, PyData.canLayAll0] using k
    exact .cons (Rep.dp w d v r1 k'.1) (Reps.dp w ds ws r2 k'.2)
end
theorem Vw.dp (w : Wd c b G H) {d : D} {v : V} (r : Vw c G H d v) (k : (toPy d).canLay0 = true) : Dp c.K H v (toPy d) := by
  cases d with
  | lst ds =>
    obtain ⟨p, vs, rfl, s, r⟩ := r
    exact .lst s.l (Reps.dp w ds vs r (by simpa [toPy, PyData.canLay0] using k))
  | dK _ _ => simp [toPy, PyData.canLay0] at k
  | dT _ _ => simp [toPy, PyData.canLay0] at k
  | non => exact Rep.dp w .non v r k
  | bl x => exact Rep.dp w (.bl x) v r k
  | int x => exact Rep.dp w (.int x) v r k
  | str x => exact Rep.dp w (.str x) v r k
  | tup ds => exact Rep.dp w (.tup ds) v r k
  | kt ds => exact Rep.dp w (.kt ds) v r k
  | ob n ns ds => exact Rep.dp w (.ob n ns ds) v r k
  | bag => exact Rep.dp w .bag v r k
end

/-- plain data: what == compares -/
def okD (d : D) : Bool := SeqAt.shaped (toPy d)
def eqv (d e : D) : Bool := PyData.eqv (toPy d) (toPy e)
def eqG (x y : D) : Option D := if okD x = true ∧ okD y = true then some (.bl (eqv x y)) else none
def neG (x y : D) : Option D := if okD x = true ∧ okD y = true then some (.bl (!eqv x y)) else none
section
variable {X : Cx}
theorem okD_lay {d : D} (h : okD d = true) : (toPy d).canLay0 = true := SeqAt.canLay_of_shaped h
theorem op_eqG (hu : X.A.units + 64 < cLine) : OpD X (compareOp .Eq) eqG := by
  intro pins s σ H x y v u Q I rx ry h
  obtain ⟨pb, pg, b, G, dx, dy, d, w, vx, vy, e, q⟩ := h
  unfold eqG at e
  split at e
  · rename_i ok
    cases e
    exact op_eqD hu pins s σ H x y v u Q I rx ry ⟨_, _, vx.dp w (okD_lay ok.1), vy.dp w (okD_lay ok.2), ok.1, ok.2, q _ G H (Stp.refl _ _ _) w rfl⟩
  · cases e
theorem op_neG (hu : X.A.units + 64 < cLine) : OpD X (compareOp .NotEq) neG := by
  intro pins s σ H x y v u Q I rx ry h
  obtain ⟨pb, pg, b, G, dx, dy, d, w, vx, vy, e, q⟩ := h
  unfold neG at e
  split at e
  · rename_i ok
    cases e
    exact op_neD hu pins s σ H x y v u Q I rx ry ⟨_, _, vx.dp w (okD_lay ok.1), vy.dp w (okD_lay ok.2), ok.1, ok.2, q _ G H (Stp.refl _ _ _) w rfl⟩
  · cases e

/-! ### arithmetic -/
def smallI (i : Int) : Bool := decide (-(2 ^ 64) < i) && decide (i < 2 ^ 64)
def mulG : D → D → Option D
  | .int i, .int j => if smallI i = true ∨ smallI j = true then some (.int (i * j)) else none
  | _, _ => none
def subG : D → D → Option D
  | .int i, .int j => some (.int (i - j))
  | _, _ => none
def addG : D → D → Option D
  | .int i, .int j => some (.int (i + j))
  | .str i, .str j => if i.length + j.length ≤ 100000 then some (.str (i ++ j)) else none
  | .tup a, .tup b => if a.length + b.length ≤ 100000 then some (.tup (a ++ b)) else none
  | .lst a, .lst b => if a.length + b.length ≤ 100000 then some (.lst (a ++ b)) else none
  | _, _ => none
def divG : D → D → Option D
  | .int i, .int j => if 0 < j ∧ j < 1073741824 then some (.int (i / j)) else none
  | _, _ => none
def modG : D → D → Option D
  | .int i, .int j => if 0 < j then some (.int (i % j)) else none
  | _, _ => none
def powG : D → D → Option D
  | .int i, .int j => if 0 ≤ j ∧ j ≤ 1000000 ∧ i.natAbs < 2 ^ 64 then some (.int (i ^ j.toNat)) else none
  | _, _ => none
def ltG : D → D → Option D
  | .int i, .int j => some (.bl (decide (i < j)))
  | _, _ => none
def leG : D → D → Option D
  | .int i, .int j => some (.bl (decide (i ≤ j)))
  | _, _ => none
def gtG : D → D → Option D
  | .int i, .int j => some (.bl (decide (j < i)))
  | _, _ => none
def geG : D → D → Option D
  | .int i, .int j => some (.bl (decide (j ≤ i)))
  | _, _ => none
def negG : D → Option D
  | .int i => some (.int (-i))
  | _ => none
theorem ite_some {α : Type} {c : Prop} [Decidable c] {a d : α} (h : (if c then some a else none) = some d) : c ∧ d = a := by
  split at h
  · rename_i hc
    exact ⟨hc, (Option.some.inj h).symm⟩
  · cases h
/-- two ints -/
theorem op_ints {f : Value → Value → Sem Value} {C : Int → Int → Prop} {k : Int → Int → D} {kv : Int → Int → V} {g : D → D → Option D} (h : OpR X f (rI C kv)) (hk : ∀ (c : MC) G i j, Rep c G (k i j) (kv i j))
    (hg : ∀ x y d, g x y = some d → ∃ i j, x = .int i ∧ y = .int j ∧ C i j ∧ d = k i j) : OpD X f g := by
  intro pins s σ H x y v u Q I rx ry hh
  obtain ⟨pb, pg, b, G, dx, dy, d, w, vx, vy, e, q⟩ := hh
  obtain ⟨i, j, rfl, rfl, hc, rfl⟩ := hg _ _ _ e
  cases (show x = .int i from vx)
  cases (show y = .int j from vy)
  exact h pins s σ H _ _ v u Q I rx ry ⟨i, j, rfl, rfl, hc, q _ G H (Stp.refl _ _ _) w (hk _ _ _ _)⟩
theorem rI_of {f : Value → Value → Sem Value} {g : Int → Int → V} (h : OpR X f (rI0 g)) : OpR X f (rI (fun _ _ => True) g) := fun pins s σ H x y v u Q I rx ry ⟨i, j, e1, e2, _, q⟩ => h pins s σ H x y v u Q I rx ry ⟨i, j, e1, e2, q⟩
theorem op_subG : OpD X (binaryOp .Sub) subG := op_ints (k := fun i j => .int (i - j)) (rI_of op_sub) (fun _ _ _ _ => rfl) fun x y d e => by
  cases x <;> cases y <;> cases e
  exact ⟨_, _, rfl, rfl, trivial, rfl⟩
theorem op_ltG : OpD X (compareOp .Lt) ltG := op_ints (k := fun i j => .bl (decide (i < j))) (rI_of op_lt) (fun _ _ _ _ => rfl) fun x y d e => by
  cases x <;> cases y <;> cases e
  exact ⟨_, _, rfl, rfl, trivial, rfl⟩
theorem op_leG : OpD X (compareOp .LtE) leG := op_ints (k := fun i j => .bl (decide (i ≤ j))) (rI_of op_le) (fun _ _ _ _ => rfl) fun x y d e => by
  cases x <;> cases y <;> cases e
  exact ⟨_, _, rfl, rfl, trivial, rfl⟩
theorem op_gtG : OpD X (compareOp .Gt) gtG := op_ints (k := fun i j => .bl (decide (j < i))) (rI_of op_gt) (fun _ _ _ _ => rfl) fun x y d e => by
  cases x <;> cases y <;> cases e
  exact ⟨_, _, rfl, rfl, trivial, rfl⟩
theorem op_geG : OpD X (compareOp .GtE) geG := op_ints (k := fun i j => .bl (decide (j ≤ i))) (rI_of op_ge) (fun _ _ _ _ => rfl) fun x y d e => by
  cases x <;> cases y <;> cases e
  exact ⟨_, _, rfl, rfl, trivial, rfl⟩
theorem op_divG : OpD X (binaryOp .FloorDiv) divG := op_ints (k := fun i j => .int (i / j)) op_fdiv (fun _ _ _ _ => rfl) fun x y d e => by
  cases x <;> cases y <;> first | (cases e; done) | skip
  rename_i i j
  obtain ⟨h, rfl⟩ := ite_some (c := 0 < j ∧ j < 1073741824) (a := D.int (i / j)) e
  exact ⟨_, _, rfl, rfl, h, rfl⟩
theorem op_modG : OpD X (binaryOp .Mod) modG := op_ints (k := fun i j => .int (i % j)) op_mod (fun _ _ _ _ => rfl) fun x y d e => by
  cases x <;> cases y <;> first | (cases e; done) | skip
  rename_i i j
  obtain ⟨h, rfl⟩ := ite_some (c := 0 < j) (a := D.int (i % j)) e
  exact ⟨_, _, rfl, rfl, h, rfl⟩
theorem op_powG : OpD X (binaryOp .Pow) powG := op_ints (k := fun i j => .int (i ^ j.toNat)) op_pow (fun _ _ _ _ => rfl) fun x y d e => by
  cases x <;> cases y <;> first | (cases e; done) | skip
  rename_i i j
  obtain ⟨h, rfl⟩ := ite_some (c := 0 ≤ j ∧ j ≤ 1000000 ∧ i.natAbs < 2 ^ 64) (a := D.int (i ^ j.toNat)) e
  exact ⟨_, _, rfl, rfl, h, rfl⟩
theorem un_negG : UnD X (unaryOp .USub) negG := by
  intro pins s σ H x v Q I rx h
  obtain ⟨pb, pg, b, G, dx, d, w, vx, e, q⟩ := h
  cases dx <;> cases e
  cases (show x = .int _ from vx)
  exact un_neg pins s σ H _ v Q I rx ⟨_, rfl, q _ G H (Stp.refl _ _ _) w rfl⟩

/-! ### sequences put together -/
theorem inv_lstR {pins : List (Addr × Obj)} {σ : L2.St} {H : Hp} {s : Shared} {l : Addr} {xs : List V} (I : Inv X pins σ H s) (hH : Rd H l (.lst xs)) :
    xs.length ≤ sizeLine ∧ ∃ (its : List Value) (n : Nat), Vals xs its ∧ xs.length = its.length ∧ s.heap.get? l = some { cls := .type "list", data := .seq its.toArray n } := by
  obtain ⟨z, its, n, r, e⟩ := hH.ok I.hok
  exact ⟨z, its, n, r, r.length, e⟩
theorem op_catR : OpR X (binaryOp .Add) (fun x y H Q => ∃ l b xs zs, x = .ref l ∧ y = .ref b ∧ Rd H l (.lst xs) ∧ Rd H b (.lst zs) ∧ xs.length + zs.length ≤ sizeLine ∧ ∀ p, H p = none → Q (.ref p) (upd H p (.lst (xs ++ zs)))) := by
  intro pins s σ H x y v u Q I rx ry h
  obtain ⟨l, b, xs, zs, rfl, rfl, hH, hB, hz, q⟩ := h
  cases rx
  cases ry
  obtain ⟨z, its, n, r, hl, e⟩ := inv_lstR I hH
  obtain ⟨z2, its2, n2, r2, hl2, e2⟩ := inv_lstR I hB
  refine PySem.P.add_list e e2 ?_ (by rw [List.size_toArray, List.size_toArray]; omega)
  have ea : its.toArray ++ its2.toArray = (its ++ its2).toArray := by simp
  rw [ea]
  exact ⟨.ref _, _, I.lnew (t' := s.toks) (r.append r2) (by rw [List.length_append]; omega), rfl, q _ I.fresh⟩
theorem sz_of {n : Nat} (h : n ≤ 100000) : n ≤ sizeLine := Nat.le_trans h (by decide)
theorem op_addG : OpD X (binaryOp .Add) addG := by
  intro pins s σ H x y v u Q I rx ry h
  obtain ⟨pb, pg, b, G, dx, dy, d, w, vx, vy, e, q⟩ := h
  cases dx <;> cases dy <;> first | (cases e; done) | skip
  · cases e
    exact op_add pins s σ H x y v u Q I rx ry ⟨_, _, vx, vy, q _ G H (Stp.refl _ _ _) w rfl⟩
  · rename_i i j
    obtain ⟨hz, rfl⟩ := ite_some (c := i.length + j.length ≤ 100000) (a := D.str (i ++ j)) e
    exact op_add_str pins s σ H x y v u Q I rx ry ⟨_, _, vx, vy, sz_of hz, q _ G H (Stp.refl _ _ _) w rfl⟩
  · rename_i ds es
    obtain ⟨hz, rfl⟩ := ite_some (c := ds.length + es.length ≤ 100000) (a := D.tup (ds ++ es)) e
    obtain ⟨p1, vs, rfl, h1, r1⟩ := vx
    obtain ⟨p2, ws, rfl, h2, r2⟩ := vy
    have l1 := r1.len
    have l2 := r2.len
    refine op_catA pins s σ H _ _ v u Q I rx ry ⟨p1, p2, vs, ws, rfl, rfl, .inl (.inl (w.tup h1)), .inl (.inl (w.tup h2)), sz_of (by omega), fun z => ?_, fun _ z => ?_, fun _ _ p hp => ?_⟩
    · subst z
      have : ds = [] := List.length_eq_zero_iff.mp l1
      subst this
      exact q _ G H (Stp.refl _ _ _) w ⟨p2, ws, rfl, h2, r2⟩
    · subst z
      have : es = [] := List.length_eq_zero_iff.mp l2
      subst this
      rw [List.append_nil] at q
      exact q _ G H (Stp.refl _ _ _) w ⟨p1, vs, rfl, h1, r1⟩
    · obtain ⟨s2, w2⟩ := Stp.new (o := .tup (vs ++ ws)) w hp
      exact q _ _ _ s2 w2 ⟨p, _, rfl, upd_same, (r1.append r2).mono s2.g⟩
  · rename_i ds es
    obtain ⟨hz, rfl⟩ := ite_some (c := ds.length + es.length ≤ 100000) (a := D.lst (ds ++ es)) e
    obtain ⟨p1, vs, rfl, h1, r1⟩ := vx
    obtain ⟨p2, ws, rfl, h2, r2⟩ := vy
    have l1 := r1.len
    have l2 := r2.len
    refine op_catR pins s σ H _ _ v u Q I rx ry ⟨p1, p2, vs, ws, rfl, rfl, h1.1, h2.1, sz_of (by omega), fun p hp => ?_⟩
    obtain ⟨s2, w2⟩ := Stp.new (o := .lst (vs ++ ws)) w hp
    exact q _ _ _ s2 w2 ⟨p, _, rfl, upd_same, (r1.append r2).mono s2.g⟩
theorem CMul_of {i j : Int} (h : smallI i = true ∨ smallI j = true) : CMul i j := by
  unfold smallI at h
  simp only [Bool.and_eq_true, decide_eq_true_eq] at h
  exact h

theorem op_mulG : OpD X (binaryOp .Mult) mulG := op_ints (k := fun i j => .int (i * j)) op_mul (fun _ _ _ _ => rfl) fun x y d e => by
  cases x <;> cases y <;> first | (cases e; done) | skip
  rename_i i j
  obtain ⟨h, rfl⟩ := ite_some (c := smallI i = true ∨ smallI j = true) (a := D.int (i * j)) e
  exact ⟨_, _, rfl, rfl, CMul_of h, rfl⟩

/-! ### is None -/
def isNonD : D → Bool
  | .non => true
  | _ => false
def isG (x y : D) : Option D := match y with
  | .non => some (.bl (isNonD x))
  | _ => none
def isnG (x y : D) : Option D := match y with
  | .non => some (.bl (!isNonD x))
  | _ => none
theorem vw_non {c : MC} {G H : Hp} {d : D} {v : V} (r : Vw c G H d v) : decide (v = .non) = isNonD d := by
  cases d with
  | non => cases (show v = .non from r); rfl
  | bl x => cases (show v = .bl x from r); rfl
  | int x => cases (show v = .int x from r); rfl
  | str x => cases (show v = .str x from r); rfl
  | tup ds => obtain ⟨p, vs, rfl, _⟩ := r; rfl
  | kt ds => obtain ⟨p, vs, rfl, _⟩ := r; rfl
  | lst ds => obtain ⟨p, vs, rfl, _⟩ := r; rfl
  | dK ks ds => obtain ⟨p, vs, rfl, _⟩ := r; rfl
  | dT ks ds => obtain ⟨p, vs, rfl, _⟩ := r; rfl
  | ob n ns ds => obtain ⟨p, C, dx, vs, rfl, _⟩ := r; rfl
  | bag => cases (show v = .ref c.pb from r); rfl
theorem op_isG : OpD X (compareOp .Is) isG := by
  intro pins s σ H x y v u Q I rx ry h
  obtain ⟨pb, pg, b, G, dx, dy, d, w, vx, vy, e, q⟩ := h
  cases dy <;> cases e
  exact op_isN pins s σ H x y v u Q I rx ry ⟨vy, q _ G H (Stp.refl _ _ _) w (congrArg V.bl (vw_non vx))⟩
theorem op_isnG : OpD X (compareOp .IsNot) isnG := by
  intro pins s σ H x y v u Q I rx ry h
  obtain ⟨pb, pg, b, G, dx, dy, d, w, vx, vy, e, q⟩ := h
  cases dy <;> cases e
  exact op_notN pins s σ H x y v u Q I rx ry ⟨vy, q _ G H (Stp.refl _ _ _) w (congrArg V.bl (congrArg (!·) (vw_non vx)))⟩
end
end Mr

set_option Elab.async false
set_option linter.all false
set_option maxRecDepth 100000
namespace Mr
open PySem PySem.Spec L2

/-! ### in -/
def flatD : D → Bool
  | .non => true
  | .bl _ => true
  | .int _ => true
  | .str _ => true
  | _ => false
section
variable {c : MC} {b : Bag} {G H : Hp}
theorem rep_flat {d : D} {v : V} (r : Rep c G d v) (h : flatD d = true) : flatV v = true := by
  cases d <;> first | (cases h; done) | skip
  all_goals (cases r; rfl)
theorem rep_eqv {d e : D} {v w : V} (r : Rep c G d v) (r2 : Rep c G e w) (h : flatD d = true) (h2 : flatD e = true) : eqV v w = eqv d e := by
  cases d <;> first | (cases h; done) | skip
  all_goals cases e <;> first | (cases h2; done) | skip
  all_goals
    cases r
    cases r2
    simp [eqV, eqv, toPy, PyData.eqv]
theorem reps_flat : ∀ {ds : List D} {vs : List V}, Reps c G ds vs → ds.all flatD = true → vs.all flatV = true
  | [], vs, r, _ => by cases (show vs = [] from r); rfl
  | d :: ds, vs, r, h => by
    obtain ⟨v, ws, rfl, r1, r2⟩ := r
    rw [List.all_cons, Bool.and_eq_true] at h ⊢
    exact ⟨rep_flat r1 h.1, reps_flat r2 h.2⟩
theorem reps_in {e : D} {w : V} (r2 : Rep c G e w) (h2 : flatD e = true) : ∀ {ds : List D} {vs : List V}, Reps c G ds vs → ds.all flatD = true → inV w vs = ds.any fun z => eqv z e
  | [], vs, r, _ => by cases (show vs = [] from r); rfl
  | d :: ds, vs, r, h => by
    obtain ⟨v, ws, rfl, r1, r3⟩ := r
    rw [List.all_cons, Bool.and_eq_true] at h
    have ih := reps_in r2 h2 r3 h.2
    unfold inV at ih ⊢
    rw [List.any_cons, List.any_cons, rep_eqv r1 r2 h.1 h2, ih]
end
section
variable {κ : Type} [DecidableEq κ]
def getK : List κ → List D → κ → Option D
  | k' :: ks, d :: ds, k => if k' = k then some d else getK ks ds k
  | _, _, _ => none
def putKs (ks : List κ) (k : κ) : List κ := if k ∈ ks then ks else ks ++ [k]
def putDs (ks : List κ) (ds : List D) (k : κ) (d : D) : List D := if k ∈ ks then List.zipWith (fun k' d' => if k' = k then d else d') ks ds else ds ++ [d]
theorem getK_rep {c : MC} {G : Hp} : ∀ {ks : List κ} {ds : List D} {vs : List V} (k : κ), Reps c G ds vs → ks.length = vs.length →
    (∀ d, getK ks ds k = some d → ∃ v, valV (ks.zip vs) k = some v ∧ Rep c G d v) ∧ (getK ks ds k = none → valV (ks.zip vs) k = none)
  | [], ds, vs, k, _, _ => ⟨fun d h => by simp [getK] at h, fun _ => by simp [valV]⟩
  | k' :: ks, [], vs, k, r, l => by
    cases (show vs = [] from r)
    simp at l
  | k' :: ks, d' :: ds, vs, k, r, l => by
    obtain ⟨v, ws, rfl, r1, r2⟩ := r
    have ih := getK_rep (ks := ks) k r2 (by simpa using l)
    by_cases h : k' = k
    · subst h
      refine ⟨fun d e => ?_, fun e => ?_⟩
      · simp [getK] at e
        subst e
        exact ⟨v, valV_pos rfl, r1⟩
      · simp [getK] at e
    · refine ⟨fun d e => ?_, fun e => ?_⟩
      · simp only [getK, if_neg h] at e
        obtain ⟨w, h1, h2⟩ := ih.1 d e
        exact ⟨w, by rw [List.zip_cons_cons, valV_neg h]; exact h1, h2⟩
      · simp only [getK, if_neg h] at e
        rw [List.zip_cons_cons, valV_neg h]
        exact ih.2 e
theorem zip_any {ks : List κ} {vs : List V} (k : κ) (l : ks.length = vs.length) : ((ks.zip vs).any fun kv => decide (kv.1 = k)) = decide (k ∈ ks) := by
  induction ks generalizing vs with
  | nil => simp
  | cons k' ks ih =>
    cases vs with
    | nil => simp at l
    | cons v vs =>
      rw [List.zip_cons_cons, List.any_cons, ih (by simpa using l)]
      by_cases h : k' = k
      · subst h; simp
      · simp [h, Ne.symm h, eq_comm]
theorem zip_put {c : MC} {G : Hp} {ks : List κ} {ds : List D} {vs : List V} {k : κ} {d : D} {v : V} (r : Reps c G ds vs) (l : ks.length = vs.length) (rd : Rep c G d v) :
    ∃ ws, putK (ks.zip vs) k v = (putKs ks k).zip ws ∧ (putKs ks k).length = ws.length ∧ Reps c G (putDs ks ds k d) ws := by
  unfold putK putKs putDs
  rw [zip_any k l]
  by_cases h : k ∈ ks
  · rw [if_pos (by simpa using h), if_pos h, if_pos h]
    refine ⟨List.zipWith (fun k' v' => if k' = k then v else v') ks vs, ?_, ?_, ?_⟩
    · clear h r
      induction ks generalizing vs with
      | nil => simp
      | cons k' ks ih =>
        cases vs with
        | nil => simp
        | cons v' vs =>
          rw [List.zip_cons_cons, List.map_cons, List.zipWith_cons_cons, List.zip_cons_cons, ih (by simpa using l)]
          by_cases h : k' = k
          · simp [h]
          · simp [h]
    · rw [List.length_zipWith]; omega
    · clear h
      induction ks generalizing vs ds with
      | nil => simp; exact .nil
      | cons k' ks ih =>
        cases ds with
        | nil => cases (show vs = [] from r); simp; exact .nil
        | cons d' ds =>
          obtain ⟨v', ws, rfl, r1, r2⟩ := r
          rw [List.zipWith_cons_cons, List.zipWith_cons_cons]
          refine .cons ?_ (ih r2 (by simpa using l))
          by_cases h : k' = k
          · rw [if_pos h, if_pos h]; exact rd
          · rw [if_neg h, if_neg h]; exact r1
  · rw [if_neg (by simpa using h), if_neg h, if_neg h]
    refine ⟨vs ++ [v], ?_, ?_, r.append (.one rd)⟩
    · rw [List.zip_append l]; rfl
    · rw [List.length_append, List.length_append, l]; rfl
end
def keyD : D → Option Key
  | .int i => some (.inl i)
  | .str x => some (.inr x)
  | _ => none
def keysD : List D → Option (List Key)
  | [] => some []
  | d :: ds => match keyD d, keysD ds with
    | some k, some ks => some (k :: ks)
    | _, _ => none
def keyT : D → Option (List Key)
  | .tup ds => keysD ds
  | _ => none
section
variable {c : MC} {b : Bag} {G H : Hp}
theorem rep_key {d : D} {v : V} {k : Key} (r : Rep c G d v) (h : keyD d = some k) : v = kV k := by
  cases d <;> cases h <;> exact r
theorem reps_keys : ∀ {ds : List D} {vs : List V} {ks : List Key}, Reps c G ds vs → keysD ds = some ks → vs = ks.map kV
  | [], vs, ks, r, h => by cases (show vs = [] from r); cases h; rfl
  | d :: ds, vs, ks, r, h => by
    obtain ⟨v, ws, rfl, r1, r2⟩ := r
    simp only [keysD] at h
    split at h
    · rename_i k ks' e1 e2
      cases h
      rw [rep_key r1 e1, reps_keys r2 e2]
      rfl
    · cases h
theorem vw_key {d : D} {v : V} {k : Key} (r : Vw c G H d v) (h : keyD d = some k) : v = kV k := by
  cases d <;> cases h <;> exact r
end
def seqD : D → Option (List D)
  | .tup ds => some ds
  | .kt ds => some ds
  | .lst ds => some ds
  | _ => none
/-- x in y -/
def inG (neg : Bool) (x y : D) : Option D := match y with
  | .tup ds => if flatD x = true ∧ ds.all flatD = true then some (.bl (neg ^^ ds.any fun z => eqv z x)) else none
  | .kt ds => if flatD x = true ∧ ds.all flatD = true then some (.bl (neg ^^ ds.any fun z => eqv z x)) else none
  | .lst ds => if flatD x = true ∧ ds.all flatD = true then some (.bl (neg ^^ ds.any fun z => eqv z x)) else if okD x = true ∧ okD (.lst ds) = true then some (.bl (neg ^^ ds.any fun z => eqv z x)) else none
  | .dK ks ds => (keyD x).map fun k => .bl (neg ^^ (getK ks ds k).isSome)
  | .dT ks ds => (keyT x).map fun k => .bl (neg ^^ (getK ks ds k).isSome)
  | .str z => match x with
    | .str s => if h : s.cps.size = 1 then some (.bl (neg ^^ decide (s.cps[0] ∈ z.cps.toList))) else none
    | _ => none
  | _ => none
section
variable {X : Cx}
theorem op_dIn (hu : X.A.units + 1 < cLine) : OpR X (compareOp .In) (fun y x H Q => ∃ a o, x = .ref a ∧ DGet H a y o ∧ Q (.bl o.isSome) H) := by
  intro pins s σ H y x iv u Q I ry rx h
  obtain ⟨a, ov, rfl, g, q⟩ := h
  obtain rfl : u = Value.ref a := rx
  exact d_in hu I g ry fun s3 I3 => ⟨.bl ov.isSome, H, I3, rfl, q⟩
theorem op_dNotIn (hu : X.A.units + 1 < cLine) : OpR X (compareOp .NotIn) (fun y x H Q => ∃ a o, x = .ref a ∧ DGet H a y o ∧ Q (.bl (!o.isSome)) H) := by
  intro pins s σ H y x iv u Q I ry rx h
  obtain ⟨a, ov, rfl, g, q⟩ := h
  obtain rfl : u = Value.ref a := rx
  exact d_notIn hu I g ry fun s3 I3 => ⟨.bl (!ov.isSome), H, I3, rfl, q⟩
theorem any_py (ds : List D) (x : D) : ((toPys ds).any fun z => PyData.eqv z (toPy x)) = ds.any fun z => eqv z x := by
  rw [toPys_map, List.any_map]
  rfl
/-- what stands at a key -/
theorem vw_dget {c : MC} {b : Bag} {G H : Hp} (w : Wd c b G H) {y : D} {v : V} {ks : List Key} {ds : List D} {k : Key} {vx : V} (ry : Vw c G H y v) (hk : keyD y = some k) (rd : Vw c G H (.dK ks ds) vx) :
    ∃ a, vx = .ref a ∧ (∀ d, getK ks ds k = some d → ∃ z, DGet H a v (some z) ∧ Rep c G d z) ∧ (getK ks ds k = none → DGet H a v none) := by
  obtain ⟨p, vs, rfl, hp, hl, r, _⟩ := rd
  have e := vw_key ry hk
  subst e
  obtain ⟨h1, h2⟩ := getK_rep k r hl
  refine ⟨p, rfl, fun d hd => ?_, fun hn => ?_⟩
  · obtain ⟨z, hz, rz⟩ := h1 d hd
    exact ⟨z, .inl ⟨_, k, hp, rfl, hz.symm⟩, rz⟩
  · exact .inl ⟨_, k, hp, rfl, (h2 hn).symm⟩
theorem vw_dgetT {c : MC} {b : Bag} {G H : Hp} (w : Wd c b G H) {y : D} {v : V} {ks : List (List Key)} {ds : List D} {k : List Key} {vx : V} (ry : Vw c G H y v) (hk : keyT y = some k) (rd : Vw c G H (.dT ks ds) vx) :
    ∃ a, vx = .ref a ∧ (∀ d, getK ks ds k = some d → ∃ z, DGet H a v (some z) ∧ Rep c G d z) ∧ (getK ks ds k = none → DGet H a v none) := by
  obtain ⟨p, vs, rfl, hp, hl, r, _⟩ := rd
  cases y <;> first | (cases hk; done) | skip
  rename_i es
  obtain ⟨q, us, rfl, hq, rq⟩ := ry
  have e := reps_keys rq hk
  subst e
  obtain ⟨h1, h2⟩ := getK_rep k r hl
  refine ⟨p, rfl, fun d hd => ?_, fun hn => ?_⟩
  · obtain ⟨z, hz, rz⟩ := h1 d hd
    exact ⟨z, .inr ⟨_, k, q, hp, rfl, w.tup hq, hz.symm⟩, rz⟩
  · exact .inr ⟨_, k, q, hp, rfl, w.tup hq, (h2 hn).symm⟩
theorem bl_isSome {o : Option D} {x : Option V} (h1 : ∀ d, o = some d → x.isSome = true) (h2 : o = none → x = none) : x.isSome = o.isSome := by
  cases o with
  | none => rw [h2 rfl]; rfl
  | some d => rw [h1 d rfl]; rfl
theorem vw_flat {c : MC} {G H : Hp} {d : D} {v : V} (r : Vw c G H d v) (h : flatD d = true) : Rep c G d v := by
  cases d <;> first | (cases h; done) | exact r
theorem op_inG (hu : X.A.units + 65 < cLine) : OpD X (compareOp .In) (inG false) := by
  intro pins s σ H x y v u Q I rx ry h
  obtain ⟨pb, pg, b, G, dx, dy, d, w, vx, vy, e, q⟩ := h
  have q := fun k (hk : d = .bl k) => q (.bl k) G H (Stp.refl _ _ _) w (by subst hk; rfl)
  cases dy <;> first | (cases e; done) | skip
  · rename_i z
    cases dx <;> first | (cases e; done) | skip
    rename_i sg
    simp only [inG] at e
    split at e
    · rename_i h1
      cases e
      cases (show x = .str sg from vx)
      cases (show y = .str z from vy)
      have es : sg = ⟨#[sg.cps[0]]⟩ := by
        obtain ⟨cps⟩ := sg
        congr 1
        simp at h1 ⊢
        apply Array.ext
        · simpa using h1
        · intro i h2 h3
          simp at h3
          subst h3
          rfl
      refine op_in_sign pins s σ H _ _ v u Q I rx ry ⟨sg.cps[0], z, congrArg V.str es, rfl, q _ (by simp)⟩
    · cases e
  · rename_i ds
    obtain ⟨hf, rfl⟩ := ite_some (c := flatD dx = true ∧ ds.all flatD = true) e
    obtain ⟨p, vs, rfl, hp, r⟩ := vy
    have rx' := vw_flat vx hf.1
    refine op_in_seq pins s σ H x _ v u Q I rx ry ⟨p, vs, rfl, .inr (.inl (.inl (w.tup hp))), rep_flat rx' hf.1, reps_flat r hf.2, q _ ?_⟩
    rw [if_neg Bool.false_ne_true, reps_in rx' hf.1 r hf.2, Bool.false_xor]
  · rename_i ds
    simp only [inG] at e
    obtain ⟨p, vs, rfl, hp, r⟩ := vy
    split at e
    · rename_i hf
      cases e
      have rx' := vw_flat vx hf.1
      refine op_in_seq pins s σ H x _ v u Q I rx ry ⟨p, vs, rfl, .inl hp.l, rep_flat rx' hf.1, reps_flat r hf.2, q _ ?_⟩
      rw [if_neg Bool.false_ne_true, reps_in rx' hf.1 r hf.2, Bool.false_xor]
    · obtain ⟨ok, rfl⟩ := ite_some (c := okD dx = true ∧ okD (.lst ds) = true) e
      have vy' : Vw (cx X.K X.mg pb pg) G H (.lst ds) (.ref p) := ⟨p, vs, rfl, hp, r⟩
      refine op_inD hu pins s σ H x _ v u Q I rx ry ⟨toPy dx, toPys ds, vx.dp w (okD_lay ok.1), vy'.dp w (okD_lay ok.2), ok.1, ok.2, q _ ?_⟩
      rw [any_py, Bool.false_xor]
  · rename_i ds
    obtain ⟨hf, rfl⟩ := ite_some (c := flatD dx = true ∧ ds.all flatD = true) e
    obtain ⟨p, vs, rfl, hp, r⟩ := vy
    have rx' := vw_flat vx hf.1
    refine op_in_seq pins s σ H x _ v u Q I rx ry ⟨p, vs, rfl, .inr (.inr hp), rep_flat rx' hf.1, reps_flat r hf.2, q _ ?_⟩
    rw [if_neg Bool.false_ne_true, reps_in rx' hf.1 r hf.2, Bool.false_xor]
  · rename_i ks ds
    simp only [inG, Option.map_eq_some_iff] at e
    obtain ⟨k, hk, rfl⟩ := e
    obtain ⟨a, rfl, g1, g2⟩ := vw_dget w vx hk vy
    cases hg : getK ks ds k with
    | none => exact op_dIn (by omega) pins s σ H x _ v u Q I rx ry ⟨a, none, rfl, g2 hg, q _ (by rw [hg]; rfl)⟩
    | some d =>
      obtain ⟨z, gz, _⟩ := g1 d hg
      exact op_dIn (by omega) pins s σ H x _ v u Q I rx ry ⟨a, _, rfl, gz, q _ (by rw [hg]; rfl)⟩
  · rename_i ks ds
    simp only [inG, Option.map_eq_some_iff] at e
    obtain ⟨k, hk, rfl⟩ := e
    obtain ⟨a, rfl, g1, g2⟩ := vw_dgetT w vx hk vy
    cases hg : getK ks ds k with
    | none => exact op_dIn (by omega) pins s σ H x _ v u Q I rx ry ⟨a, none, rfl, g2 hg, q _ (by rw [hg]; rfl)⟩
    | some d =>
      obtain ⟨z, gz, _⟩ := g1 d hg
      exact op_dIn (by omega) pins s σ H x _ v u Q I rx ry ⟨a, _, rfl, gz, q _ (by rw [hg]; rfl)⟩
theorem op_ninG (hu : X.A.units + 65 < cLine) : OpD X (compareOp .NotIn) (inG true) := by
  intro pins s σ H x y v u Q I rx ry h
  obtain ⟨pb, pg, b, G, dx, dy, d, w, vx, vy, e, q⟩ := h
  have q := fun k (hk : d = .bl k) => q (.bl k) G H (Stp.refl _ _ _) w (by subst hk; rfl)
  cases dy <;> first | (cases e; done) | skip
  · rename_i z
    cases dx <;> first | (cases e; done) | skip
    rename_i sg
    simp only [inG] at e
    split at e
    · rename_i h1
      cases e
      cases (show x = .str sg from vx)
      cases (show y = .str z from vy)
      have es : sg = ⟨#[sg.cps[0]]⟩ := by
        obtain ⟨cps⟩ := sg
        congr 1
        simp at h1 ⊢
        apply Array.ext
        · simpa using h1
        · intro i h2 h3
          simp at h3
          subst h3
          rfl
      refine op_notIn_sign pins s σ H _ _ v u Q I rx ry ⟨sg.cps[0], z, congrArg V.str es, rfl, q _ (by simp)⟩
    · cases e
  · rename_i ds
    obtain ⟨hf, rfl⟩ := ite_some (c := flatD dx = true ∧ ds.all flatD = true) e
    obtain ⟨p, vs, rfl, hp, r⟩ := vy
    have rx' := vw_flat vx hf.1
    refine op_notIn_seq pins s σ H x _ v u Q I rx ry ⟨p, vs, rfl, .inr (.inl (.inl (w.tup hp))), rep_flat rx' hf.1, reps_flat r hf.2, q _ ?_⟩
    rw [if_pos rfl, reps_in rx' hf.1 r hf.2, Bool.true_xor]
  · rename_i ds
    simp only [inG] at e
    obtain ⟨p, vs, rfl, hp, r⟩ := vy
    split at e
    · rename_i hf
      cases e
      have rx' := vw_flat vx hf.1
      refine op_notIn_seq pins s σ H x _ v u Q I rx ry ⟨p, vs, rfl, .inl hp.l, rep_flat rx' hf.1, reps_flat r hf.2, q _ ?_⟩
      rw [if_pos rfl, reps_in rx' hf.1 r hf.2, Bool.true_xor]
    · obtain ⟨ok, rfl⟩ := ite_some (c := okD dx = true ∧ okD (.lst ds) = true) e
      have vy' : Vw (cx X.K X.mg pb pg) G H (.lst ds) (.ref p) := ⟨p, vs, rfl, hp, r⟩
      refine op_notInD hu pins s σ H x _ v u Q I rx ry ⟨toPy dx, toPys ds, vx.dp w (okD_lay ok.1), vy'.dp w (okD_lay ok.2), ok.1, ok.2, q _ ?_⟩
      rw [any_py, Bool.true_xor]
  · rename_i ds
    obtain ⟨hf, rfl⟩ := ite_some (c := flatD dx = true ∧ ds.all flatD = true) e
    obtain ⟨p, vs, rfl, hp, r⟩ := vy
    have rx' := vw_flat vx hf.1
    refine op_notIn_seq pins s σ H x _ v u Q I rx ry ⟨p, vs, rfl, .inr (.inr hp), rep_flat rx' hf.1, reps_flat r hf.2, q _ ?_⟩
    rw [if_pos rfl, reps_in rx' hf.1 r hf.2, Bool.true_xor]
  · rename_i ks ds
    simp only [inG, Option.map_eq_some_iff] at e
    obtain ⟨k, hk, rfl⟩ := e
    obtain ⟨a, rfl, g1, g2⟩ := vw_dget w vx hk vy
    cases hg : getK ks ds k with
    | none => exact op_dNotIn (by omega) pins s σ H x _ v u Q I rx ry ⟨a, none, rfl, g2 hg, q _ (by rw [hg]; rfl)⟩
    | some d =>
      obtain ⟨z, gz, _⟩ := g1 d hg
      exact op_dNotIn (by omega) pins s σ H x _ v u Q I rx ry ⟨a, _, rfl, gz, q _ (by rw [hg]; rfl)⟩
  · rename_i ks ds
    simp only [inG, Option.map_eq_some_iff] at e
    obtain ⟨k, hk, rfl⟩ := e
    obtain ⟨a, rfl, g1, g2⟩ := vw_dgetT w vx hk vy
    cases hg : getK ks ds k with
    | none => exact op_dNotIn (by omega) pins s σ H x _ v u Q I rx ry ⟨a, none, rfl, g2 hg, q _ (by rw [hg]; rfl)⟩
    | some d =>
      obtain ⟨z, gz, _⟩ := g1 d hg
      exact op_dNotIn (by omega) pins s σ H x _ v u Q I rx ry ⟨a, _, rfl, gz, q _ (by rw [hg]; rfl)⟩
end
end Mr

set_option Elab.async false
set_option linter.all false
set_option maxRecDepth 100000
namespace Mr
open PySem PySem.Spec L2
section
variable {X : Cx} {E : XK} {e a b c : Expr} {es : List Expr} {ma mb mc : ME} {mr : MA} {mt mu : MT} {pos : Pos}

/-! ### len -/
def lenG : List D → Option D
  | [.tup ds] => some (.int ds.length)
  | [.kt ds] => some (.int ds.length)
  | [.lst ds] => some (.int ds.length)
  | [.str x] => if x.length ≤ 100000 then some (.int x.length) else none
  | [.dK ks _] => some (.int ks.length)
  | [.dT ks _] => some (.int ks.length)
  | _ => none
theorem call_lenDR : CallR X (.builtin "len") (fun xs H Q => ∃ a kvs, xs = [V.ref a] ∧ Rd H a (.dK kvs) ∧ Q (.int kvs.length) H) := by
  intro pins s σ H xs us Q I r h
  obtain ⟨a, kvs, rfl, ha, q⟩ := h
  obtain ⟨u, rfl, ru⟩ := vals1 r
  cases ru
  exact d_len I ha fun t s' I' => ⟨.int kvs.length, H, I', ⟨t, rfl⟩, q⟩
theorem call_lenTR : CallR X (.builtin "len") (fun xs H Q => ∃ (p : Addr) (kvs : List (List Key × V)), xs = [.ref p] ∧ Rd H p (.dT kvs) ∧ Q (.int ((kvs.length : Nat) : Int)) H) := by
  intro pins s σ H xs us Q I r h
  obtain ⟨p, kvs, rfl, hp, q⟩ := h
  obtain ⟨u, rfl, rx⟩ := vals1 r
  obtain rfl : u = .ref p := rx
  obtain ⟨z, hd, ys, rel, dd⟩ := dt_rd I.hok hp
  have hl : kvs.length = ys.length := Paired.length rel
  refine call_len_dictH hd dd (by rw [← hl]; rw [sizeLine_eq] at z; omega) ?_
  rw [← hl]
  exact ⟨.int ((kvs.length : Nat) : Int), H, I.tok _, ⟨_, rfl⟩, q⟩
theorem zip_len {κ : Type} {ks : List κ} {vs : List V} (l : ks.length = vs.length) : (ks.zip vs).length = ks.length := by
  rw [List.length_zip]; omega
theorem vws1 {c : MC} {G H : Hp} {d : D} {xs : List V} (h : Vws c G H [d] xs) : ∃ v, xs = [v] ∧ Vw c G H d v := by
  obtain ⟨v, ws, rfl, h1, h2⟩ := h
  cases (show ws = [] from h2)
  exact ⟨v, rfl, h1⟩
theorem vws2 {c : MC} {G H : Hp} {d e : D} {xs : List V} (h : Vws c G H [d, e] xs) : ∃ v w, xs = [v, w] ∧ Vw c G H d v ∧ Vw c G H e w := by
  obtain ⟨v, ws, rfl, h1, h2⟩ := h
  obtain ⟨w, rfl, h3⟩ := vws1 h2
  exact ⟨v, w, rfl, h1, h3⟩
theorem call_lenG : CallD X (.builtin "len") lenG := by
  intro pins s σ H xs us Q I r h
  obtain ⟨pb, pg, b, G, dxs, d, w, vx, e, q⟩ := h
  match dxs, vx, e with
  | [d1], vx, e =>
    obtain ⟨v, rfl, vz⟩ := vws1 vx
    have q' := fun k (hk : d = .int k) => q (.int k) G H (Stp.refl _ _ _) w (by subst hk; rfl)
    cases d1 <;> first | (cases e; done) | skip
    · rename_i x
      obtain ⟨hz, rfl⟩ := ite_some (c := x.length ≤ 100000) (a := D.int x.length) e
      cases (show v = .str x from vz)
      exact call_len pins s σ H _ us Q I r ⟨.str x, x.length, rfl, ⟨sz_of hz, rfl⟩, q' _ rfl⟩
    · cases e
      obtain ⟨p, vs, rfl, hp, rr⟩ := vz
      exact call_len pins s σ H _ us Q I r ⟨.ref p, vs.length, rfl, .inr ⟨vs, .inl (.inl (w.tup hp)), rfl⟩, q' _ (by rw [rr.len])⟩
    · cases e
      obtain ⟨p, vs, rfl, hp, rr⟩ := vz
      exact call_len pins s σ H _ us Q I r ⟨.ref p, vs.length, rfl, .inl ⟨vs, hp.l, rfl⟩, q' _ (by rw [rr.len])⟩
    · cases e
      obtain ⟨p, vs, rfl, hp, rr⟩ := vz
      exact call_len pins s σ H _ us Q I r ⟨.ref p, vs.length, rfl, .inr ⟨vs, .inr hp, rfl⟩, q' _ (by rw [rr.len])⟩
    · cases e
      obtain ⟨p, vs, rfl, hp, hl, rr⟩ := vz
      exact call_lenDR pins s σ H _ us Q I r ⟨p, _, rfl, hp, q' _ (by rw [zip_len hl])⟩
    · cases e
      obtain ⟨p, vs, rfl, hp, hl, rr⟩ := vz
      exact call_lenTR pins s σ H _ us Q I r ⟨p, _, rfl, hp, q' _ (by rw [zip_len hl])⟩
  | [], _, e => cases e
  | d1 :: d2 :: ds, _, e => cases d1 <;> cases e

/-! ### numbers -/
def absG : List D → Option D
  | [.int i] => some (.int (if i < 0 then -i else i))
  | _ => none
def max2G : List D → Option D
  | [.int i, .int j] => some (.int (if j > i then j else i))
  | _ => none
def min2G : List D → Option D
  | [.int i, .int j] => some (.int (if j < i then j else i))
  | _ => none
def intG : List D → Option D
  | [.int i] => some (.int i)
  | [.bl k] => some (.int (if k then 1 else 0))
  | _ => none
def boolG : List D → Option D
  | [.int i] => some (.bl (i != 0))
  | [.bl k] => some (.bl k)
  | _ => none
theorem call_absG : CallD X (.builtin "abs") absG := by
  intro pins s σ H xs us Q I r h
  obtain ⟨pb, pg, b, G, dxs, d, w, vx, e, q⟩ := h
  unfold absG at e
  split at e
  · rename_i i
    obtain ⟨v, rfl, vz⟩ := vws1 vx
    cases (show v = .int i from vz)
    cases e
    exact call_abs pins s σ H _ us Q I r ⟨i, rfl, q _ G H (Stp.refl _ _ _) w rfl⟩
  · cases e
theorem call_max2G (hc : X.calm = true) : CallD X (.builtin "max") max2G := by
  intro pins s σ H xs us Q I r h
  obtain ⟨pb, pg, b, G, dxs, d, w, vx, e, q⟩ := h
  unfold max2G at e
  split at e
  · rename_i i j
    obtain ⟨v, u, rfl, vz, vy⟩ := vws2 vx
    cases (show v = .int i from vz)
    cases (show u = .int j from vy)
    cases e
    exact call_max2 hc pins s σ H _ us Q I r ⟨i, j, rfl, q _ G H (Stp.refl _ _ _) w rfl⟩
  · cases e
theorem call_min2G (hc : X.calm = true) : CallD X (.builtin "min") min2G := by
  intro pins s σ H xs us Q I r h
  obtain ⟨pb, pg, b, G, dxs, d, w, vx, e, q⟩ := h
  unfold min2G at e
  split at e
  · rename_i i j
    obtain ⟨v, u, rfl, vz, vy⟩ := vws2 vx
    cases (show v = .int i from vz)
    cases (show u = .int j from vy)
    cases e
    exact call_min2 hc pins s σ H _ us Q I r ⟨i, j, rfl, q _ G H (Stp.refl _ _ _) w rfl⟩
  · cases e
theorem call_intG : CallD X (.type "int") intG := by
  intro pins s σ H xs us Q I r h
  obtain ⟨pb, pg, b, G, dxs, d, w, vx, e, q⟩ := h
  unfold intG at e
  split at e
  · rename_i i
    obtain ⟨v, rfl, vz⟩ := vws1 vx
    cases (show v = .int i from vz)
    cases e
    exact call_int1 pins s σ H _ us Q I r (.inl ⟨i, rfl, q _ G H (Stp.refl _ _ _) w rfl⟩)
  · rename_i i
    obtain ⟨v, rfl, vz⟩ := vws1 vx
    cases (show v = .bl i from vz)
    cases e
    exact call_int1 pins s σ H _ us Q I r (.inr ⟨i, rfl, q _ G H (Stp.refl _ _ _) w rfl⟩)
  · cases e
theorem call_boolG : CallD X (.type "bool") boolG := by
  intro pins s σ H xs us Q I r h
  obtain ⟨pb, pg, b, G, dxs, d, w, vx, e, q⟩ := h
  unfold boolG at e
  split at e
  · rename_i i
    obtain ⟨v, rfl, vz⟩ := vws1 vx
    cases (show v = .int i from vz)
    cases e
    exact call_bool1 pins s σ H _ us Q I r (.inl ⟨i, rfl, q _ G H (Stp.refl _ _ _) w rfl⟩)
  · rename_i i
    obtain ⟨v, rfl, vz⟩ := vws1 vx
    cases (show v = .bl i from vz)
    cases e
    exact call_bool1 pins s σ H _ us Q I r (.inr ⟨i, rfl, q _ G H (Stp.refl _ _ _) w rfl⟩)
  · cases e

/-! ### all, any, sum, max, min of a list -/
def blsD : List D → Option (List Bool)
  | [] => some []
  | .bl k :: ds => (blsD ds).map (k :: ·)
  | _ :: _ => none
def intsD : List D → Option (List Int)
  | [] => some []
  | .int k :: ds => (intsD ds).map (k :: ·)
  | _ :: _ => none
theorem blsD_rep {c : MC} {G : Hp} : ∀ {ds : List D} {vs : List V} {bs : List Bool}, Reps c G ds vs → blsD ds = some bs → vs = bs.map V.bl
  | [], vs, bs, r, h => by cases (show vs = [] from r); cases h; rfl
  | d :: ds, vs, bs, r, h => by
    obtain ⟨v, ws, rfl, r1, r2⟩ := r
    cases d <;> first | (cases h; done) | skip
    simp only [blsD, Option.map_eq_some_iff] at h
    obtain ⟨bs', h, rfl⟩ := h
    rw [blsD_rep r2 h, (show v = .bl _ from r1)]
    rfl
theorem intsD_rep {c : MC} {G : Hp} : ∀ {ds : List D} {vs : List V} {bs : List Int}, Reps c G ds vs → intsD ds = some bs → vs = bs.map V.int
  | [], vs, bs, r, h => by cases (show vs = [] from r); cases h; rfl
  | d :: ds, vs, bs, r, h => by
    obtain ⟨v, ws, rfl, r1, r2⟩ := r
    cases d <;> first | (cases h; done) | skip
    simp only [intsD, Option.map_eq_some_iff] at h
    obtain ⟨bs', h, rfl⟩ := h
    rw [intsD_rep r2 h, (show v = .int _ from r1)]
    rfl
theorem intsD_map (ns : List Int) : intsD (ns.map D.int) = some ns := by
  induction ns with
  | nil => rfl
  | cons n ns ih => simp [intsD, ih]
theorem blsD_map (ns : List Bool) : blsD (ns.map D.bl) = some ns := by
  induction ns with
  | nil => rfl
  | cons n ns ih => simp [blsD, ih]
def allG : List D → Option D
  | [.lst ds] => (blsD ds).map fun bs => .bl (bs.all id)
  | _ => none
def anyG : List D → Option D
  | [.lst ds] => (blsD ds).map fun bs => .bl (bs.any id)
  | _ => none
def sumG : List D → Option D
  | [.lst ds] => (intsD ds).map fun bs => .int bs.sum
  | _ => none
theorem call_allG (hc : X.calm = true) : CallD X (.builtin "all") allG := by
  intro pins s σ H xs us Q I r h
  obtain ⟨pb, pg, b, G, dxs, d, w, vx, e, q⟩ := h
  unfold allG at e
  split at e
  · rename_i ds
    obtain ⟨v, rfl, p, vs, rfl, hp, rr⟩ := vws1 vx
    simp only [Option.map_eq_some_iff] at e
    obtain ⟨bs, hb, rfl⟩ := e
    cases blsD_rep rr hb
    exact cr_all hc pins s σ H _ us Q I r ⟨p, bs, rfl, hp.l, q _ G H (Stp.refl _ _ _) w rfl⟩
  · cases e
theorem call_anyG (hc : X.calm = true) : CallD X (.builtin "any") anyG := by
  intro pins s σ H xs us Q I r h
  obtain ⟨pb, pg, b, G, dxs, d, w, vx, e, q⟩ := h
  unfold anyG at e
  split at e
  · rename_i ds
    obtain ⟨v, rfl, p, vs, rfl, hp, rr⟩ := vws1 vx
    simp only [Option.map_eq_some_iff] at e
    obtain ⟨bs, hb, rfl⟩ := e
    cases blsD_rep rr hb
    exact cr_any hc pins s σ H _ us Q I r ⟨p, bs, rfl, hp.l, q _ G H (Stp.refl _ _ _) w rfl⟩
  · cases e
theorem call_sumG (hc : X.calm = true) : CallD X (.builtin "sum") sumG := by
  intro pins s σ H xs us Q I r h
  obtain ⟨pb, pg, b, G, dxs, d, w, vx, e, q⟩ := h
  unfold sumG at e
  split at e
  · rename_i ds
    obtain ⟨v, rfl, p, vs, rfl, hp, rr⟩ := vws1 vx
    simp only [Option.map_eq_some_iff] at e
    obtain ⟨bs, hb, rfl⟩ := e
    cases intsD_rep rr hb
    exact cr_sum hc pins s σ H _ us Q I r ⟨p, bs, rfl, hp.l, q _ G H (Stp.refl _ _ _) w rfl⟩
  · cases e

/-! ### tuple, list -/
def tupleG : List D → Option D
  | [.lst ds] => some (.tup ds)
  | [.tup ds] => some (.tup ds)
  | _ => none
def listG : List D → Option D
  | [.lst ds] => some (.lst ds)
  | [.tup ds] => some (.lst ds)
  | [.kt ds] => some (.lst ds)
  | _ => none
theorem call_tupleG : CallD X (.type "tuple") tupleG := by
  intro pins s σ H xs us Q I r h
  obtain ⟨pb, pg, b, G, dxs, d, w, vx, e, q⟩ := h
  unfold tupleG at e
  split at e
  · rename_i ds
    obtain ⟨v, rfl, p, vs, rfl, hp, rr⟩ := vws1 vx
    cases e
    refine call_tuple_of pins s σ H _ us Q I r ⟨p, vs, rfl, .inl ⟨hp.l, fun l hl => ?_⟩⟩
    obtain ⟨s2, w2⟩ := Stp.new (o := .tup vs) w hl
    exact q _ _ _ s2 w2 ⟨l, vs, rfl, upd_same, rr.mono s2.g⟩
  · rename_i ds
    obtain ⟨v, rfl, p, vs, rfl, hp, rr⟩ := vws1 vx
    cases e
    exact call_tuple_of pins s σ H _ us Q I r ⟨p, vs, rfl, .inr ⟨.inl (.inl (w.tup hp)), q _ G H (Stp.refl _ _ _) w ⟨p, vs, rfl, hp, rr⟩⟩⟩
  · cases e
theorem pF_new {c : MC} {b : Bag} {G H : Hp} {ds : List D} {vs : List V} (w : Wd c b G H) (rr : Reps c G ds vs) {l : Addr} (hl : H l = none) {Q : VK} (q : ∀ v G' H', Stp c G H G' H' → Wd c b G' H' → pF c H G' H' (.lst ds) v → Q v H') : Q (.ref l) (upd H l (.lst vs)) := by
  obtain ⟨s2, w2, g2⟩ := Stp.newO (o := .lst vs) w hl
  exact q _ _ _ s2 w2 ⟨l, vs, rfl, upd_same, g2, hl, rr⟩
theorem call_listG : CallF X (.type "list") listG := by
  intro pins s σ H xs us Q I r h
  obtain ⟨pb, pg, b, G, dxs, d, w, vx, e, q⟩ := h
  unfold listG at e
  split at e
  · rename_i ds
    obtain ⟨v, rfl, p, vs, rfl, hp, rr⟩ := vws1 vx
    cases e
    exact call_list_of pins s σ H _ us Q I r ⟨p, vs, rfl, .inl hp.l, fun l hl => pF_new w rr hl q⟩
  · rename_i ds
    obtain ⟨v, rfl, p, vs, rfl, hp, rr⟩ := vws1 vx
    cases e
    exact call_list_of pins s σ H _ us Q I r ⟨p, vs, rfl, .inr (.inl (.inl (w.tup hp))), fun l hl => pF_new w rr hl q⟩
  · rename_i ds
    obtain ⟨v, rfl, p, vs, rfl, hp, rr⟩ := vws1 vx
    cases e
    exact call_list_of pins s σ H _ us Q I r ⟨p, vs, rfl, .inr (.inr hp), fun l hl => pF_new w rr hl q⟩
  · cases e

/-! ### subscripts -/
def ixG (x y : D) : Option D := match x, y with
  | .tup ds, .int i => atI ds i
  | .kt ds, .int i => atI ds i
  | .lst ds, .int i => atI ds i
  | .str z, .int i => if z.length ≤ 100000 then (atI z.cps.toList i).map fun c => .str ⟨#[c]⟩ else none
  | _, _ => none
theorem atI_rep {c : MC} {G : Hp} {ds : List D} {vs : List V} {i : Int} {d : D} (r : Reps c G ds vs) (h : atI ds i = some d) : ∃ v, atI vs i = some v ∧ Rep c G d v := by
  unfold atI at h ⊢
  rw [← r.len]
  cases hx : ixN ds.length i with
  | none => rw [hx] at h; cases h
  | some j =>
    rw [hx] at h
    exact r.get h
theorem ix_G : IxR X (rD2 X.K X.mg ixG) := by
  intro value slice pins s σ H x y v u Q I rx ry h hs
  obtain ⟨pb, pg, b, G, dx, dy, d, w, vx, vy, e, q⟩ := h
  cases dx <;> cases dy <;> first | (cases e; done) | skip
  all_goals cases (show y = .int _ from vy)
  · rename_i z i
    obtain ⟨hz, e⟩ : z.length ≤ 100000 ∧ (atI z.cps.toList i).map (fun c => D.str ⟨#[c]⟩) = some d := by
      simp only [ixG] at e
      split at e
      · exact ⟨by assumption, e⟩
      · cases e
    simp only [Option.map_eq_some_iff] at e
    obtain ⟨cc, hc, rfl⟩ := e
    cases (show x = .str z from vx)
    exact ix_str value slice pins s σ H _ _ v u Q I rx ry ⟨z, i, cc, rfl, rfl, sz_of hz, hc, q _ G H (Stp.refl _ _ _) w rfl⟩ hs
  · obtain ⟨p, vs, rfl, hp, rr⟩ := vx
    obtain ⟨z, hz, rz⟩ := atI_rep rr e
    exact ix_tup value slice pins s σ H _ _ v u Q I rx ry ⟨p, vs, _, z, rfl, rfl, .inl (.inl (w.tup hp)), hz, q _ G H (Stp.refl _ _ _) w rz⟩ hs
  · obtain ⟨p, vs, rfl, hp, rr⟩ := vx
    obtain ⟨z, hz, rz⟩ := atI_rep rr e
    exact ix_list value slice pins s σ H _ _ v u Q I rx ry ⟨p, vs, _, z, rfl, rfl, hp.l, hz, q _ G H (Stp.refl _ _ _) w rz⟩ hs
  · obtain ⟨p, vs, rfl, hp, rr⟩ := vx
    obtain ⟨z, hz, rz⟩ := atI_rep rr e
    exact ix_tup value slice pins s σ H _ _ v u Q I rx ry ⟨p, vs, _, z, rfl, rfl, .inr hp, hz, q _ G H (Stp.refl _ _ _) w rz⟩ hs
theorem de_ix (ha : DV X E a ma) (hb : DV X E b mb) (hs : PlainIx b := by exact fun _ _ => rfl) : DE X E (.Subscript a b pos) (m2 ixG ma mb) := PE.imp (pe_ix ix_G ha hb hs) fun _ _ _ h => read2 h
/-- d[k] -/
def dgetG (x y : D) : Option D := match x with
  | .dK ks ds => (keyD y).bind fun k => getK ks ds k
  | .dT ks ds => (keyT y).bind fun k => getK ks ds k
  | _ => none
theorem readDG {K : PySem.W.Frag} {mg : Str → Option Value} {σ : L2.St} {H : Hp} {Q : VK} (h : tM K mg E (m2 dgetG ma mb) σ H Q) : tDGet (tV K mg E ma) (tV K mg E mb) σ H Q := by
  obtain ⟨pb, pg, H0, env, b, G, w, ev, q⟩ := h
  refine ⟨pb, pg, H0, env, b, G, w, ev, PstG.bind q fun a1 b1 v1 G1 H1 s1 w1 p1 q1 => ?_⟩
  refine ⟨pb, pg, H0, env, b1, G1, w1, ev.step s1, PstG.bind q1 fun a2 b2 v2 G2 H2 s2 w2 p2 q2 => ?_⟩
  cases hg : dgetG a1 a2 with
  | none => rw [hg] at q2; exact q2.elim
  | some d =>
    rw [hg] at q2
    cases a1 <;> first | (cases hg; done) | skip
    · simp only [dgetG, Option.bind_eq_some_iff] at hg
      obtain ⟨k, hk, hg⟩ := hg
      obtain ⟨x, rfl, g1, _⟩ := vw_dget w2 p2 hk (p1.mono s2)
      obtain ⟨z, gz, rz⟩ := g1 d hg
      exact ⟨x, z, rfl, gz, q2 z G2 H2 (Stp.refl _ _ _) w2 rz⟩
    · simp only [dgetG, Option.bind_eq_some_iff] at hg
      obtain ⟨k, hk, hg⟩ := hg
      obtain ⟨x, rfl, g1, _⟩ := vw_dgetT w2 p2 hk (p1.mono s2)
      obtain ⟨z, gz, rz⟩ := g1 d hg
      exact ⟨x, z, rfl, gz, q2 z G2 H2 (Stp.refl _ _ _) w2 rz⟩
theorem de_dget (hu : X.A.units + 65 < cLine) (ha : DV X E a ma) (hb : DV X E b mb) (hs : NoSl b := by exact fun _ _ => rfl) : DE X E (.Subscript a b pos) (m2 dgetG ma mb) :=
  PE.imp (pe_dget (by omega) ha hb hs) fun _ _ _ h => readDG h

/-! ### slices -/
abbrev MO := Ev → Bag → R (Option Int)
def oNo : MO := fun _ b => .ok none b
def asI : D → Option Int
  | .int i => some i
  | _ => none
def oSo (m : ME) : MO := fun env b => (m env b).bind fun x b => R.opt ((asI x).map some) b
def cutD (ds : List D) (lo hi : Option Int) : List D := (ds.drop (HT.sIx ds.length 0 lo)).take (HT.sIx ds.length ds.length hi - HT.sIx ds.length 0 lo)
def slG (x : D) (lo hi : Option Int) : Option D := match x with
  | .tup ds => some (.tup (cutD ds lo hi))
  | .lst ds => some (.lst (cutD ds lo hi))
  | _ => none
def mSl (ma : ME) (ml mh : MO) : ME := fun env b => (ma env b).bind fun x b => (ml env b).bind fun l b => (mh env b).bind fun h b => R.opt (slG x l h) b
def tO (K : PySem.W.Frag) (mg : Str → Option Value) (E : XK) (m : MO) : TO := fun σ H Q => ∃ pb pg H0 env b G, Wd (cx K mg pb pg) b G H ∧ EvOk (cx K mg pb pg) H0 G H env σ ∧ PstG (cx K mg pb pg) E G H (fun _ _ a v => v = a) Q (m env b)
abbrev DO (X : Cx) (E : XK) (e : Option Expr) (m : MO) : Prop := PO X e (tO X.K X.mg E m)
theorem PO.imp {X : Cx} {e : Option Expr} {t t' : TO} (h : PO X e t) (k : ∀ σ H Q, t' σ H Q → t σ H Q) : PO X e t' := ⟨fun pins s σ H Q I hq => h.run pins s σ H Q I (k _ _ _ hq)⟩
theorem do_no : DO X E none oNo := PO.imp po_none fun σ H Q ⟨pb, pg, H0, env, b, G, w, ev, q⟩ => q none G H (Stp.refl _ _ _) w rfl
theorem do_so (h : DE X E e ma) : DO X E (some e) (oSo ma) := PO.imp (po_some h) fun σ H Q ⟨pb, pg, H0, env, b, G, w, ev, q⟩ => ⟨pb, pg, H0, env, b, G, w, ev, PstG.bind q fun a1 b1 v1 G1 H1 s1 w1 p1 q1 => by
  cases a1 with
  | int i => exact ⟨i, p1, q1 (some i) G1 H1 (Stp.refl _ _ _) w1 rfl⟩
  | _ => exact q1.elim⟩
theorem cut_rep {c : MC} {G : Hp} {ds : List D} {vs : List V} (r : Reps c G ds vs) (lo hi : Option Int) : Reps c G (cutD ds lo hi) (cutV vs lo hi) := by
  unfold cutD cutV
  rw [r.len]
  exact Reps.take _ (Reps.drop _ r)
theorem cut_whole {ds : List D} {lo hi : Option Int} (h : HT.sIx ds.length 0 lo = 0 ∧ HT.sIx ds.length ds.length hi = ds.length) : cutD ds lo hi = ds := by
  unfold cutD
  rw [h.1, h.2]
  simp
def rSlG (K : PySem.W.Frag) (mg : Str → Option Value) : V → Option Int → Option Int → Hp → VK → Prop := fun x lo hi H Q => ∃ pb pg b G dx d, Wd (cx K mg pb pg) b G H ∧ Vw (cx K mg pb pg) G H dx x ∧ slG dx lo hi = some d ∧
  ∀ v G' H', Stp (cx K mg pb pg) G H G' H' → Wd (cx K mg pb pg) b G' H' → Rep (cx K mg pb pg) G' d v → Q v H'
theorem sl_G : SlR X (rSlG X.K X.mg) := by
  intro pins s σ H x v vl vu lo hi sl Q I rx hs pl pu h
  obtain ⟨pb, pg, b, G, dx, d, w, vx, e, q⟩ := h
  cases dx <;> first | (cases e; done) | skip
  · cases e
    obtain ⟨p, vs, rfl, hp, rr⟩ := vx
    refine sl_tupA pins s σ H _ v vl vu lo hi sl Q I rx hs pl pu ⟨p, vs, rfl, .inl (.inl (w.tup hp)), fun z => ?_, fun _ p2 hp2 => ?_⟩
    · rw [← rr.len] at z
      rw [cut_whole z] at q
      exact q _ G H (Stp.refl _ _ _) w ⟨p, vs, rfl, hp, rr⟩
    · obtain ⟨s2, w2⟩ := Stp.new (o := .tup (cutV vs lo hi)) w hp2
      exact q _ _ _ s2 w2 ⟨p2, _, rfl, upd_same, (cut_rep rr lo hi).mono s2.g⟩
  · cases e
    obtain ⟨p, vs, rfl, hp, rr⟩ := vx
    refine sl_list pins s σ H _ v vl vu lo hi sl Q I rx hs pl pu ⟨p, vs, rfl, hp.l, fun p2 hp2 => ?_⟩
    obtain ⟨s2, w2⟩ := Stp.new (o := .lst (cutV vs lo hi)) w hp2
    exact q _ _ _ s2 w2 ⟨p2, _, rfl, upd_same, (cut_rep rr lo hi).mono s2.g⟩
theorem de_sl {lo hi : Option Expr} {ml mh : MO} {p2 : Pos} (ha : DV X E a ma) (hl : DO X E lo ml) (hh : DO X E hi mh) : DE X E (.Subscript a (.Slice lo hi none p2) pos) (mSl ma ml mh) :=
  PE.imp (pe_slice sl_G ha hl hh) fun σ H Q ⟨pb, pg, H0, env, b, G, w, ev, q⟩ => ⟨pb, pg, H0, env, b, G, w, ev, PstG.bind q fun a1 b1 v1 G1 H1 s1 w1 p1 q1 =>
    ⟨pb, pg, H0, env, b1, G1, w1, ev.step s1, PstG.bind q1 fun a2 b2 v2 G2 H2 s2 w2 p2 q2 =>
      ⟨pb, pg, H0, env, b2, G2, w2, (ev.step s1).step s2, PstG.bind q2 fun a3 b3 v3 G3 H3 s3 w3 p3 q3 => by
        cases (show v2 = a2 from p2)
        cases (show v3 = a3 from p3)
        cases hg : slG a1 a2 a3 with
        | none => rw [hg] at q3; exact q3.elim
        | some d => rw [hg] at q3; exact ⟨pb, pg, b3, G3, a1, d, w3, (p1.mono s2).mono s3, hg, q3⟩⟩⟩⟩

/-! ### displays -/
def tupG (ds : List D) : Option D := some (.tup ds)
def mTup (ma : MA) : ME := fun env b => (ma env b).bind fun xs b => if xs.length ≤ 100000 then .ok (.tup xs) b else .stuck
def mLst (ma : MA) : ME := fun env b => (ma env b).bind fun xs b => if xs.length ≤ 100000 then .ok (.lst xs) b else .stuck
theorem de_tup {k : Nat} (h : DA X E es mr) : DE X E (.Tuple es k pos) (mTup mr) := PE.imp (pe_tup h) fun σ H Q ⟨pb, pg, H0, env, b, G, w, ev, q⟩ => ⟨pb, pg, H0, env, b, G, w, ev, PstG.bind q fun a1 b1 v1 G1 H1 s1 w1 p1 q1 => by
  split at q1
  · rename_i hz
    refine ⟨sz_of (by rw [← p1.len]; exact hz), fun p hp => ?_⟩
    obtain ⟨s2, w2⟩ := Stp.new (o := .tup v1) w1 hp
    exact q1 _ _ _ s2 w2 ⟨p, _, rfl, upd_same, p1.mono s2.g⟩
  · exact q1.elim⟩
theorem df_lst (h : DA X E es mr) : DF X E (.List es pos) (mLst mr) := PE.imp (pe_lst h) fun σ H Q ⟨pb, pg, H0, env, b, G, w, ev, q⟩ => ⟨pb, pg, H0, env, b, G, w, ev, PstG.bind q fun a1 b1 v1 G1 H1 s1 w1 p1 q1 => by
  split at q1
  · rename_i hz
    refine ⟨sz_of (by rw [← p1.len]; exact hz), fun p hp => ?_⟩
    exact pF_new w1 p1 hp fun v G' H' s' w' f' => q1 v G' H' s' w' (pF.weak s1.dm f')
  · exact q1.elim⟩
/-- {} -/
theorem df_dK : DF X E (.Dict [] [] pos) (mC (.dK [] [])) := PE.imp pe_dnewK fun σ H Q ⟨pb, pg, H0, env, b, G, w, ev, q⟩ p hp => by
  obtain ⟨s2, w2, g2⟩ := Stp.newO (o := .dK []) w hp
  exact q _ _ _ s2 w2 ⟨p, [], rfl, upd_same, rfl, g2, hp, .nil⟩
theorem df_dT : DF X E (.Dict [] [] pos) (mC (.dT [] [])) := PE.imp pe_dnewT fun σ H Q ⟨pb, pg, H0, env, b, G, w, ev, q⟩ p hp => by
  obtain ⟨s2, w2, g2⟩ := Stp.newO (o := .dT []) w hp
  exact q _ _ _ s2 w2 ⟨p, [], rfl, upd_same, rfl, g2, hp, .nil⟩

/-! ### isinstance -/
def tyD : D → Option String
  | .non => some "NoneType"
  | .bl _ => some "bool"
  | .int _ => some "int"
  | .str _ => some "str"
  | .tup _ => some "tuple"
  | .kt _ => some "tuple"
  | .lst _ => some "list"
  | .dK _ _ => some "dict"
  | _ => none
theorem vw_ty {c : MC} {b : Bag} {G H : Hp} (w : Wd c b G H) {d : D} {v : V} {t : String} (r : Vw c G H d v) (h : tyD d = some t) : TyX c.K H v (.type t) := by
  cases d <;> first | (cases h; done) | skip
  all_goals cases h
  · cases (show v = .non from r); exact .base .non
  · cases (show v = .bl _ from r); exact .base (.bl _)
  · cases (show v = .int _ from r); exact .base (.int _)
  · cases (show v = .str _ from r); exact .base (.str _)
  · obtain ⟨p, vs, rfl, hp, _⟩ := r
    exact .base (.tup (w.tup hp))
  · obtain ⟨p, vs, rfl, hp, _⟩ := r
    rcases hp.1 with hp | ⟨o, hp⟩
    · exact .base (.lst hp)
    · exact .base (.frz hp)
  · obtain ⟨p, vs, rfl, ⟨o, its, n, h1, h2, _⟩, _⟩ := r
    exact .kTuple h1 h2
  · obtain ⟨p, vs, rfl, hp, _⟩ := r
    rcases hp with hp | ⟨o, hp⟩
    · exact .base (.dK hp)
    · exact .fDict hp
def isiG (T : String) (d : D) : Option D := match tyD d with
  | some t => (kitB t T).map D.bl
  | none => none
theorem de_isi {T : String} {x : Str} {p p2 : Pos} (hg : Gl X "isinstance") (hm : X.mg "isinstance" = none) (hgT : Gl X x) (hmT : X.mg x = none) (hb : bootBuiltins x = some (.type T)) (ha : DV X E a ma) (hnT : x ≠ "__name__" := by decide) (hdT : (x == ("__debug__" : Str)) = false := by decide)
    (h1 : starEach [a, .Name x p2] X.env = (false, eval a X.env) :: starEach [.Name x p2] X.env := by rfl) (hpl : (backTo pos (starEach [.Name x p2] X.env)).any (·.1) = false := by rfl) (h2 : starEach [.Name x p2] X.env = (false, eval (.Name x p2) X.env) :: starEach [] X.env := by rfl) :
    DE X E (.Call (.Name "isinstance" p) [a, .Name x p2] [] pos) (m1 (isiG T) ma) :=
  PE.imp (pe_callB call_isi hg hm (by decide +kernel) (pa_cons ha (pa_cons (pe_bltn (v := .ty T) hgT hmT hb rfl hnT hdT) pa_nil h2) h1) (by decide) (by decide) h1 hpl) fun σ H Q ⟨pb, pg, H0, env, b, G, w, ev, q⟩ => ⟨pb, pg, H0, env, b, G, w, ev, PstG.bind q fun a1 b1 v1 G1 H1 s1 w1 p1 q1 => by
      cases hi : isiG T a1 with
      | none => rw [hi] at q1; exact q1.elim
      | some d =>
        rw [hi] at q1
        unfold isiG at hi
        split at hi
        · rename_i t ht
          simp only [Option.map_eq_some_iff] at hi
          obtain ⟨k, hk, rfl⟩ := hi
          exact ⟨v1, .ty T, .type t, .type T, k, rfl, .ty T, vw_ty w1 p1 ht, kit_ty hk, q1 _ G1 H1 (Stp.refl _ _ _) w1 rfl⟩
        · cases hi⟩
end
end Mr

set_option Elab.async false
set_option linter.all false
set_option maxRecDepth 100000
namespace Mr
open PySem PySem.Spec L2

/-! ### statements -/
inductive SO where
  | nx (env : Ev) (b : Bag)
  | rt (d : D) (b : Bag)
  | bk (env : Ev) (b : Bag)
  | ct (env : Ev) (b : Bag)
  | exc (e : Exn) (b : Bag)
  | stuck
abbrev MS := Ev → Bag → SO
def PstS (c : MC) (E : XK) (G0 H0 : Hp) (D : Ends) : SO → Prop
  | .nx env b => ∀ σ G H, Stp c G0 H0 G H → Wd c b G H → EvOk c H0 G H env σ → D.nx σ H
  | .bk env b => ∀ σ G H, Stp c G0 H0 G H → Wd c b G H → EvOk c H0 G H env σ → D.bk σ H
  | .ct env b => ∀ σ G H, Stp c G0 H0 G H → Wd c b G H → EvOk c H0 G H env σ → D.ct σ H
  | .rt d b => ∀ v G H, Stp c G0 H0 G H → Wd c b G H → Rep c G d v → D.rt v H
  | .exc e b => ∀ cls dd G H, Stp c G0 H0 G H → Wd c b G H → ExOk c G H e cls dd → E cls dd H
  | .stuck => False
def tS (K : PySem.W.Frag) (mg : Str → Option Value) (E : XK) (m : MS) : TS := fun D σ H => ∃ pb pg G0 H0 env b G, Stp (cx K mg pb pg) G0 H0 G H ∧ Wd (cx K mg pb pg) b G H ∧ EvOk (cx K mg pb pg) H0 G H env σ ∧ PstS (cx K mg pb pg) E G0 H0 D (m env b)
abbrev DS (X : Cx) (E : XK) (st : Stmt) (m : MS) : Prop := PS X st (tS X.K X.mg E m)
abbrev DSs (X : Cx) (E : XK) (st : List Stmt) (m : MS) : Prop := PSs X st (tS X.K X.mg E m)
/-- targets -/
abbrev MG := D → Ev → Option Ev
abbrev MGs := List D → Ev → Option Ev
def tG (K : PySem.W.Frag) (mg : Str → Option Value) (m : MG) : TG := fun v σ H Q => ∃ pb pg H0 env b G d env', Wd (cx K mg pb pg) b G H ∧ EvOk (cx K mg pb pg) H0 G H env σ ∧ Rep (cx K mg pb pg) G d v ∧ m d env = some env' ∧ ∀ σ', EvOk (cx K mg pb pg) H0 G H env' σ' → Q σ' H
def tGs (K : PySem.W.Frag) (mg : Str → Option Value) (m : MGs) : TGs := fun vs σ H Q => ∃ pb pg H0 env b G ds env', Wd (cx K mg pb pg) b G H ∧ EvOk (cx K mg pb pg) H0 G H env σ ∧ Reps (cx K mg pb pg) G ds vs ∧ m ds env = some env' ∧ ∀ σ', EvOk (cx K mg pb pg) H0 G H env' σ' → Q σ' H
abbrev DG (X : Cx) (tg : Expr) (m : MG) : Prop := PG X tg (tG X.K X.mg m)
abbrev DGs (X : Cx) (tg : List Expr) (m : MGs) : Prop := PGs X tg (tGs X.K X.mg m)
theorem PG.imp {X : Cx} {e : Expr} {t t' : TG} (h : PG X e t) (k : ∀ v σ H Q, t' v σ H Q → t v σ H Q) : PG X e t' := ⟨fun pins s σ H v u Q I r hq => h.run pins s σ H v u Q I r (k _ _ _ _ hq)⟩
theorem PGs.imp {X : Cx} {e : List Expr} {t t' : TGs} (h : PGs X e t) (k : ∀ v σ H Q, t' v σ H Q → t v σ H Q) : PGs X e t' := ⟨fun pins s σ H v u Q I r hq => h.run pins s σ H v u Q I r (k _ _ _ _ hq)⟩

section
variable {c : MC} {b : Bag} {G H G' H' G0 H0 : Hp} {env : Ev} {σ : L2.St}
theorem EvOk.set_va (h : EvOk c H0 G H env σ) {d : D} {v : V} (r : Rep c G d v) (i : Nat) : EvOk c H0 G H (env.set i (.va d)) (σ.set i (some v)) := by
  refine ⟨by rw [List.length_set, List.length_set]; exact h.len, fun j s e => ?_, fun j k sj sk p ne e1 e2 o1 o2 p1 => ?_, h.bb, h.bg⟩
  · rw [List.getElem?_set] at e ⊢
    by_cases hij : i = j
    · subst hij
      rw [if_pos rfl] at e ⊢
      rw [← h.len]
      split at e
      · rename_i hl
        cases e
        rw [if_pos hl]
        exact ⟨_, rfl, v, rfl, r⟩
      · cases e
    · rw [if_neg hij] at e ⊢
      exact h.at_ j s e
  · rw [List.getElem?_set] at e1 e2 p1 ⊢
    by_cases hj : i = j
    · subst hj
      rw [if_pos rfl] at e1
      split at e1
      · cases e1; cases o1
      · cases e1
    · by_cases hk : i = k
      · subst hk
        rw [if_pos rfl] at e2
        split at e2
        · cases e2; cases o2
        · cases e2
      · rw [if_neg hj] at e1 p1
        rw [if_neg hk] at e2 ⊢
        exact h.dis j k sj sk p ne e1 e2 o1 o2 p1
/-- a slot is given a new object of its own -/
theorem EvOk.set_own (h : EvOk c H0 G H env σ) {s : Sl} {p : Addr} (r : SlOk c H0 G H s (some (.ref p))) (hn : ∀ (j : Nat) (sj : Sl), env[j]? = some sj → sj.own = true → σ[j]? ≠ some (some (.ref p))) (i : Nat) : EvOk c H0 G H (env.set i s) (σ.set i (some (.ref p))) := by
  refine ⟨by rw [List.length_set, List.length_set]; exact h.len, fun j s' e => ?_, fun j k sj sk q ne e1 e2 o1 o2 p1 => ?_, h.bb, h.bg⟩
  · rw [List.getElem?_set] at e ⊢
    by_cases hij : i = j
    · subst hij
      rw [if_pos rfl] at e ⊢
      rw [← h.len]
      split at e
      · rename_i hl
        cases e
        rw [if_pos hl]
        exact ⟨_, rfl, r⟩
      · cases e
    · rw [if_neg hij] at e ⊢
      exact h.at_ j s' e
  · rw [List.getElem?_set] at e1 e2 p1 ⊢
    by_cases hj : i = j
    · subst hj
      rw [if_neg ne] at e2 ⊢
      rw [if_pos rfl] at p1
      split at p1
      · cases p1
        exact hn k sk e2 o2
      · cases p1
    · by_cases hk : i = k
      · subst hk
        rw [if_neg hj] at e1 p1
        rw [if_pos rfl]
        split
        · intro z
          cases z
          exact hn j sj e1 o1 p1
        · exact fun z => nomatch z
      · rw [if_neg hj] at e1 p1
        rw [if_neg hk] at e2 ⊢
        exact h.dis j k sj sk q ne e1 e2 o1 o2 p1
/-- the object of a slot's own is written -/
theorem EvOk.put (h : EvOk c H0 G H env σ) {i : Nat} {si s : Sl} {p : Addr} {o : HO} (e : env[i]? = some si) (o1 : si.own = true) (e2 : σ[i]? = some (some (.ref p))) (h0 : H0 p = none)
    (r : SlOk c H0 G (upd H p o) s (some (.ref p))) (os : s.own = true) : EvOk c H0 G (upd H p o) (env.set i s) σ := by
  have ownAt : ∀ (j : Nat) (sj : Sl) (v : Option V), env[j]? = some sj → sj.own = true → σ[j]? = some v → SlOk c H0 G H sj v → j ≠ i → SlOk c H0 G (upd H p o) sj v := by
    intro j sj v ej oj ev sl ne
    cases sj with
    | un => cases oj
    | va d => cases oj
    | ol ds =>
      obtain ⟨q, vs, rfl, hq, r⟩ := sl
      have : q ≠ p := fun z => by subst z; exact h.dis j i _ _ q ne ej e oj o1 ev e2
      exact ⟨q, vs, rfl, by rw [upd_ne this]; exact hq, r⟩
    | oK ks ds =>
      obtain ⟨q, vs, rfl, hq, r⟩ := sl
      have : q ≠ p := fun z => by subst z; exact h.dis j i _ _ q ne ej e oj o1 ev e2
      exact ⟨q, vs, rfl, by rw [upd_ne this]; exact hq, r⟩
    | oT ks ds =>
      obtain ⟨q, vs, rfl, hq, r⟩ := sl
      have : q ≠ p := fun z => by subst z; exact h.dis j i _ _ q ne ej e oj o1 ev e2
      exact ⟨q, vs, rfl, by rw [upd_ne this]; exact hq, r⟩
  refine ⟨by rw [List.length_set]; exact h.len, fun j s' ej => ?_, fun j k sj sk q ne ej ek oj ok pj => ?_, h.bb, h.bg⟩
  · rw [List.getElem?_set] at ej
    by_cases hij : i = j
    · subst hij
      rw [if_pos rfl] at ej
      split at ej
      · cases ej
        exact ⟨_, e2, r⟩
      · cases ej
    · rw [if_neg hij] at ej
      obtain ⟨v, ev, sl⟩ := h.at_ j s' ej
      refine ⟨v, ev, ?_⟩
      cases hs : s'.own with
      | true => exact ownAt j s' v ej hs ev sl (Ne.symm hij)
      | false =>
        cases s' with
        | un => exact sl
        | va d => exact sl
        | _ => cases hs
  · have back : ∀ (m : Nat) (sm : Sl), (env.set i s)[m]? = some sm → sm.own = true → ∃ sm', env[m]? = some sm' ∧ sm'.own = true := by
      intro m sm em om
      rw [List.getElem?_set] at em
      by_cases him : i = m
      · subst him
        exact ⟨si, e, o1⟩
      · rw [if_neg him] at em
        exact ⟨sm, em, om⟩
    obtain ⟨sj', ej', oj'⟩ := back j sj ej oj
    obtain ⟨sk', ek', ok'⟩ := back k sk ek ok
    exact h.dis j k sj' sk' q ne ej' ek' oj' ok' pj
/-- a slot's own object is frozen -/
def frzS : Sl → Sl
  | .ol ds => .va (.lst ds)
  | .oK ks ds => .va (.dK ks ds)
  | .oT ks ds => .va (.dT ks ds)
  | s => s
theorem frzS_own (s : Sl) : (frzS s).own = false := by cases s <;> rfl
def frz (env : Ev) (i : Nat) : Ev := match env[i]? with
  | some s => env.set i (frzS s)
  | none => env
theorem own_ref {s : Sl} {v : Option V} (r : SlOk c H0 G H s v) (o : s.own = true) : ∃ p u, v = some (.ref p) ∧ H p = some u ∧ nfz u = true ∧ G p = none ∧ H0 p = none ∧ (∀ G', Le G G' → G' p = some u → SlOk c H0 G' H (frzS s) v) := by
  cases s with
  | un => cases o
  | va d => cases o
  | ol ds =>
    obtain ⟨p, vs, rfl, hp, gp, h0, r⟩ := r
    exact ⟨p, _, rfl, hp, rfl, gp, h0, fun G' le e => ⟨_, rfl, p, vs, rfl, e, r.mono le⟩⟩
  | oK ks ds =>
    obtain ⟨p, vs, rfl, hp, l, gp, h0, r⟩ := r
    exact ⟨p, _, rfl, hp, rfl, gp, h0, fun G' le e => ⟨_, rfl, p, vs, rfl, e, l, r.mono le⟩⟩
  | oT ks ds =>
    obtain ⟨p, vs, rfl, hp, l, gp, h0, r⟩ := r
    exact ⟨p, _, rfl, hp, rfl, gp, h0, fun G' le e => ⟨_, rfl, p, vs, rfl, e, l, r.mono le⟩⟩
theorem EvOk.freeze (h : EvOk c H0 G H env σ) (st : Stp c G0 H0 G H) (w : Wd c b G H) (i : Nat) : ∃ G', Stp c G0 H0 G' H ∧ Wd c b G' H ∧ EvOk c H0 G' H (frz env i) σ ∧ Le G G' := by
  unfold frz
  cases e : env[i]? with
  | none => exact ⟨G, st, w, h, Le.refl G⟩
  | some s =>
    dsimp only
    cases o : s.own with
    | false =>
      have : frzS s = s := by cases s <;> first | rfl | cases o
      rw [this]
      have e3 : env.set i s = env := by
        apply List.ext_getElem?
        intro j
        rw [List.getElem?_set]
        by_cases hij : i = j
        · subst hij
          rw [if_pos rfl]
          rw [if_pos (List.getElem?_eq_some_iff.mp e).1, e]
        · rw [if_neg hij]
      simp only [e3]
      exact ⟨G, st, w, h, Le.refl G⟩
    | true =>
      obtain ⟨v, ev, sl⟩ := h.at_ i s e
      obtain ⟨p, u, rfl, hp, hz, gp, h0, k⟩ := own_ref sl o
      obtain ⟨s2, w2⟩ := st.freeze w hp h0 gp (ne_h0 h.bb h0) (ne_h0 h.bg h0) hz
      have le : Le G (upd G p u) := Le.new gp
      refine ⟨upd G p u, s2, w2, ⟨by rw [List.length_set]; exact h.len, fun j s' ej => ?_, fun j k sj sk q ne ej ek oj ok pj => ?_, h.bb, h.bg⟩, le⟩
      · rw [List.getElem?_set] at ej
        by_cases hij : i = j
        · subst hij
          rw [if_pos rfl] at ej
          split at ej
          · cases ej
            exact ⟨_, ev, k _ le upd_same⟩
          · cases ej
        · rw [if_neg hij] at ej
          obtain ⟨v', ev', sl'⟩ := h.at_ j s' ej
          refine ⟨v', ev', ?_⟩
          cases s' with
          | un => exact sl'
          | va d =>
            obtain ⟨x, e1, r1⟩ := sl'
            exact ⟨x, e1, r1.mono le _ _⟩
          | ol ds =>
            obtain ⟨q, vs, rfl, hq, gq, hq0, r⟩ := sl'
            have : q ≠ p := fun z => by subst z; exact h.dis j i _ _ q (Ne.symm hij) ej e rfl o ev' ev
            exact ⟨q, vs, rfl, hq, by rw [upd_ne this]; exact gq, hq0, r.mono le⟩
          | oK ks ds =>
            obtain ⟨q, vs, rfl, hq, l, gq, hq0, r⟩ := sl'
            have : q ≠ p := fun z => by subst z; exact h.dis j i _ _ q (Ne.symm hij) ej e rfl o ev' ev
            exact ⟨q, vs, rfl, hq, l, by rw [upd_ne this]; exact gq, hq0, r.mono le⟩
          | oT ks ds =>
            obtain ⟨q, vs, rfl, hq, l, gq, hq0, r⟩ := sl'
            have : q ≠ p := fun z => by subst z; exact h.dis j i _ _ q (Ne.symm hij) ej e rfl o ev' ev
            exact ⟨q, vs, rfl, hq, l, by rw [upd_ne this]; exact gq, hq0, r.mono le⟩
      · rw [List.getElem?_set] at ej ek
        by_cases hj : i = j
        · subst hj
          rw [if_pos rfl] at ej
          split at ej
          · cases ej
            rw [frzS_own] at oj; cases oj
          · cases ej
        · by_cases hk : i = k
          · subst hk
            rw [if_pos rfl] at ek
            split at ek
            · cases ek
              rw [frzS_own] at ok; cases ok
            · cases ek
          · rw [if_neg hj] at ej
            rw [if_neg hk] at ek
            exact h.dis j k sj sk q ne ej ek oj ok pj
end

/-! ### targets -/
def gNm (i : Nat) : MG := fun d env => some (env.set i (.va d))
def gNl : MGs := fun ds env => match ds with
  | [] => some env
  | _ => none
def gCn (g : MG) (gs : MGs) : MGs := fun ds env => match ds with
  | d :: ds => (g d env).bind fun env => gs ds env
  | [] => none
def gTp (gs : MGs) : MG := fun d env => match d with
  | .tup ds => gs ds env
  | .kt ds => gs ds env
  | _ => none
section
variable {X : Cx} {E : XK} {e tg : Expr} {es : List Expr} {st : Stmt} {sts : List Stmt} {ma mb : ME} {mt : MT} {ms mu : MS} {g : MG} {gs : MGs} {pos : Pos}
theorem dg_name (i : Nat) {x : Str} (hN : X.N.Nodup) (hi : X.N[i]? = some x := by rfl) (hx : Loc X.env.scope x := by first | exact .inl rfl | exact .inr rfl) (hf : X.fn x = true ∨ X.env.scope.names.lookup x = some .local := by first | exact .inl rfl | exact .inr rfl | assumption) : DG X (.Name x pos) (gNm i) :=
  PG.imp (pg_name hN hi hx hf) fun v σ H Q ⟨pb, pg, H0, env, b, G, d, env', w, ev, r, e, q⟩ => by
    cases e
    exact q _ (ev.set_va r i)
theorem dg_nil : DGs X [] gNl := PGs.imp pgs_nil fun vs σ H Q ⟨pb, pg, H0, env, b, G, ds, env', w, ev, r, e, q⟩ => by
  cases ds with
  | nil =>
    cases e
    exact ⟨r, q σ ev⟩
  | cons d ds => cases e
theorem dg_cons (h : DG X tg g) (hr : DGs X es gs) (hs : (assignEach (tg :: es) X.env).map (·.2) = assign tg X.env :: (assignEach es X.env).map (·.2) := by rfl) : DGs X (tg :: es) (gCn g gs) :=
  PGs.imp (pgs_cons h hr hs) fun vs σ H Q ⟨pb, pg, H0, env, b, G, ds, env', w, ev, r, e, q⟩ => by
    cases ds with
    | nil => cases e
    | cons d ds =>
      obtain ⟨v, ws, rfl, r1, r2⟩ := r
      simp only [gCn, Option.bind_eq_some_iff] at e
      obtain ⟨env1, e1, e2⟩ := e
      exact ⟨v, ws, rfl, pb, pg, H0, env, b, G, d, env1, w, ev, r1, e1, fun σ' ev' => ⟨pb, pg, H0, env1, b, G, ds, env', w, ev', r2, e2, q⟩⟩
theorem gCn_len : ∀ {gs : MGs}, True := trivial
/-- how many names a target has -/
structure Cnt (gs : MGs) (n : Nat) : Prop where
  len : ∀ ds env env', gs ds env = some env' → ds.length = n
theorem cnt_nil : Cnt gNl 0 := ⟨fun ds env env' h => by
  cases ds with
  | nil => rfl
  | cons d ds => cases h⟩
theorem cnt_cons {n : Nat} (h : Cnt gs n) : Cnt (gCn g gs) (n + 1) := ⟨fun ds env env' e => by
  cases ds with
  | nil => cases e
  | cons d ds =>
    simp only [gCn, Option.bind_eq_some_iff] at e
    obtain ⟨env1, e1, e2⟩ := e
    rw [List.length_cons, h.len ds env1 env' e2]⟩
theorem dg_tup {k n : Nat} (hc : X.calm = true) (h : DGs X es gs) (cn : Cnt gs n) (hn : (assignEach es X.env).length = n := by rfl) (hst : (assignEach es X.env).findIdx? (·.1) = none := by rfl) : DG X (.Tuple es k pos) (gTp gs) :=
  PG.imp (pg_tup hc h hn hst) fun v σ H Q ⟨pb, pg, H0, env, b, G, d, env', w, ev, r, e, q⟩ => by
    cases d <;> first | (cases e; done) | skip
    · obtain ⟨p, vs, rfl, hp, r⟩ := r
      exact ⟨p, vs, rfl, .inl (.inl (w.tup hp)), by rw [← r.len]; exact cn.len _ _ _ e, pb, pg, H0, env, b, G, _, env', w, ev, r, e, q⟩
    · obtain ⟨p, vs, rfl, hp, r⟩ := r
      exact ⟨p, vs, rfl, .inr hp, by rw [← r.len]; exact cn.len _ _ _ e, pb, pg, H0, env, b, G, _, env', w, ev, r, e, q⟩

/-! ### small statements -/
def sSkip : MS := fun env b => .nx env b
def sBk : MS := fun env b => .bk env b
def sCt : MS := fun env b => .ct env b
def sStuck : MS := fun _ _ => .stuck
def sSeq (m1 m2 : MS) : MS := fun env b => match m1 env b with
  | .nx env b => m2 env b
  | o => o
def R.so {α : Type} (x : R α) (f : α → Bag → SO) : SO := match x with
  | .ok a b => f a b
  | .exc e b => .exc e b
  | .stuck => .stuck
@[simp] theorem R.so_ok {α : Type} (a : α) (b : Bag) (f : α → Bag → SO) : (R.ok a b).so f = f a b := rfl
@[simp] theorem R.so_exc {α : Type} (e : Exn) (b : Bag) (f : α → Bag → SO) : (R.exc e b : R α).so f = .exc e b := rfl
@[simp] theorem R.so_stuck {α : Type} (f : α → Bag → SO) : (R.stuck : R α).so f = .stuck := rfl
def sDrop (m : ME) : MS := fun env b => (m env b).so fun _ b => .nx env b
def sRet (m : ME) : MS := fun env b => (m env b).so fun d b => .rt d b
def sRetN : MS := fun _ b => .rt .non b
def sIf (t : MT) (a c : MS) : MS := fun env b => (t env b).so fun k b => if k = true then a env b else c env b
def sAsg (g : MG) (m : ME) : MS := fun env b => (m env b).so fun d b => match g d env with
  | some env => .nx env b
  | none => .stuck
def ownS : D → Option Sl
  | .lst ds => some (.ol ds)
  | .dK ks ds => some (.oK ks ds)
  | .dT ks ds => some (.oT ks ds)
  | _ => none
/-- x = a new list, a new dict: x alone has it -/
def sOwn (i : Nat) (m : ME) : MS := fun env b => (m env b).so fun d b => match ownS d with
  | some s => .nx (env.set i s) b
  | none => .stuck
def sFrz (i : Nat) (m : MS) : MS := fun env b => m (frz env i) b

/-- one part, then the rest of a statement -/
theorem PstS.bind {α β : Type} {c : MC} {E : XK} {G0 H0 G H : Hp} {P : Hp → Hp → α → β → Prop} {D : Ends} {x : R α} {f : α → Bag → SO} {Q' : β → Hp → Prop} (s0 : Stp c G0 H0 G H)
    (h : PstS c E G0 H0 D (x.so f)) (k : ∀ a b v G' H', Stp c G H G' H' → Wd c b G' H' → P G' H' a v → PstS c E G0 H0 D (f a b) → Q' v H') : PstG c E G H P Q' x := by
  cases x with
  | ok a b => exact fun v G' H' s w p => k a b v G' H' s w p h
  | exc e b => exact fun cls dd G' H' s w r => h cls dd G' H' (s0.trans s) w r
  | stuck => exact h
theorem ds_nil : DSs X E [] sSkip := PSs.imp pss_nil fun D σ H ⟨pb, pg, G0, H0, env, b, G, st, w, ev, q⟩ => q σ G H st w ev
theorem ds_pass : DS X E (.Pass pos) sSkip := PS.imp ps_pass fun D σ H ⟨pb, pg, G0, H0, env, b, G, st, w, ev, q⟩ => q σ G H st w ev
theorem ds_break : DS X E (.Break pos) sBk := PS.imp ps_break fun D σ H ⟨pb, pg, G0, H0, env, b, G, st, w, ev, q⟩ => q σ G H st w ev
theorem ds_cont : DS X E (.Continue pos) sCt := PS.imp ps_continue fun D σ H ⟨pb, pg, G0, H0, env, b, G, st, w, ev, q⟩ => q σ G H st w ev
theorem ds_never : DS X E st sStuck := PS.imp ps_never fun D σ H ⟨pb, pg, G0, H0, env, b, G, st, w, ev, q⟩ => q
theorem ds_cons (h1 : DS X E st ms) (h2 : DSs X E sts mu) : DSs X E (st :: sts) (sSeq ms mu) := PSs.imp (pss_cons h1 h2) fun D σ H ⟨pb, pg, G0, H0, env, b, G, st, w, ev, q⟩ => ⟨pb, pg, G0, H0, env, b, G, st, w, ev, by
  unfold sSeq at q
  cases hm : ms env b with
  | nx env' b' => rw [hm] at q; exact fun σ' G' H' s' w' e' => ⟨pb, pg, G0, H0, env', b', G', s', w', e', q⟩
  | rt d b' => rw [hm] at q; exact q
  | bk env' b' => rw [hm] at q; exact q
  | ct env' b' => rw [hm] at q; exact q
  | exc e b' => rw [hm] at q; exact q
  | stuck => rw [hm] at q; exact q⟩
theorem ds_one (h1 : DS X E st ms) : DSs X E [st] ms := pss_one h1
theorem ds_doc {x j} {pos' : Pos} : DS X E (.Expr (.Constant (.str x) j pos) pos') sSkip := PS.imp ps_doc fun D σ H ⟨pb, pg, G0, H0, env, b, G, st, w, ev, q⟩ => q σ G H st w ev
theorem ds_drop (h : DE X E e ma) (hs : swapsWith e none pos.line X.env = pure false := by rfl) : DS X E (.Expr e pos) (sDrop ma) := PS.imp (ps_expr h hs) fun D σ H ⟨pb, pg, G0, H0, env, b, G, st, w, ev, q⟩ =>
  ⟨pb, pg, H0, env, b, G, w, ev, PstS.bind st q fun a1 b1 v1 G1 H1 s1 w1 p1 q1 => q1 σ G1 H1 (st.trans s1) w1 (ev.step s1)⟩
theorem ds_ret (h : DE X E e ma) : DS X E (.Return (some e) pos) (sRet ma) := PS.imp (ps_ret h) fun D σ H ⟨pb, pg, G0, H0, env, b, G, st, w, ev, q⟩ =>
  ⟨pb, pg, H0, env, b, G, w, ev, PstS.bind st q fun a1 b1 v1 G1 H1 s1 w1 p1 q1 => q1 v1 G1 H1 (st.trans s1) w1 p1⟩
theorem ds_retN : DS X E (.Return none pos) sRetN := PS.imp ps_retN fun D σ H ⟨pb, pg, G0, H0, env, b, G, st, w, ev, q⟩ => q .non G H st w rfl
theorem ds_if {a c : List Stmt} {t : Expr} (ht : DT X E t mt) (ha : DSs X E a ms) (hb : DSs X E c mu) : DS X E (.If t a c pos) (sIf mt ms mu) := PS.imp (ps_if ht ha hb) fun D σ H ⟨pb, pg, G0, H0, env, b, G, st, w, ev, q⟩ =>
  ⟨pb, pg, H0, env, b, G, w, ev, PstS.bind st q fun a1 b1 v1 G1 H1 s1 w1 p1 q1 => by
    cases (show v1 = a1 from p1)
    cases a1 with
    | true => rw [if_pos rfl] at q1 ⊢; exact ⟨pb, pg, G0, H0, env, b1, G1, st.trans s1, w1, ev.step s1, q1⟩
    | false => rw [if_neg Bool.false_ne_true] at q1 ⊢; exact ⟨pb, pg, G0, H0, env, b1, G1, st.trans s1, w1, ev.step s1, q1⟩⟩
theorem readAsg {K : PySem.W.Frag} {mg : Str → Option Value} {D : Ends} {σ : L2.St} {H : Hp} (h : tS K mg E (sAsg g ma) D σ H) : tAsg (tM K mg E ma) (tG K mg g) D σ H := by
  obtain ⟨pb, pg, G0, H0, env, b, G, st, w, ev, q⟩ := h
  refine ⟨pb, pg, H0, env, b, G, w, ev, PstS.bind st q fun a1 b1 v1 G1 H1 s1 w1 p1 q1 => ?_⟩
  cases hg : g a1 env with
  | none => rw [hg] at q1; exact q1.elim
  | some env' => rw [hg] at q1; exact ⟨pb, pg, H0, env, b1, G1, a1, env', w1, ev.step s1, p1, hg, fun σ' ev' => q1 σ' G1 H1 (st.trans s1) w1 ev'⟩
theorem ds_asg (he : DE X E e ma) (hg : DG X tg g) (hs : swapsWithSole [tg] e pos.line X.env = pure false := by rfl) (hw : swappedStores [tg] e X.env = pure none := by rfl)
    (h1 : (assignEach [tg] X.env).map (·.2) = [assign tg X.env] := by rfl) : DS X E (.Assign [tg] e pos) (sAsg g ma) := PS.imp (ps_asg he hg hs hw h1) fun _ _ _ h => readAsg h
theorem ds_set (i : Nat) {x : Str} {pos' : Pos} (he : DE X E e ma) (hN : X.N.Nodup) (hi : X.N[i]? = some x := by rfl) (hx : Loc X.env.scope x := by first | exact .inl rfl | exact .inr rfl) (hs : swapsWith e (some (.Name x pos')) pos.line X.env = pure false := by rfl) (hf : X.fn x = true ∨ X.env.scope.names.lookup x = some .local := by first | exact .inl rfl | exact .inr rfl | assumption) :
    DS X E (.Assign [.Name x pos'] e pos) (sAsg (gNm i) ma) := PS.imp (ps_set hN hi hx he hs hf) fun D σ H ⟨pb, pg, G0, H0, env, b, G, st, w, ev, q⟩ =>
  ⟨pb, pg, H0, env, b, G, w, ev, PstS.bind st q fun a1 b1 v1 G1 H1 s1 w1 p1 q1 => q1 _ G1 H1 (st.trans s1) w1 ((ev.step s1).set_va p1 i)⟩
theorem readOwn {K : PySem.W.Frag} {mg : Str → Option Value} {D : Ends} {σ : L2.St} {H : Hp} {i : Nat} (h : tS K mg E (sOwn i ma) D σ H) : tAsg (tF K mg E ma) (gName i) D σ H := by
  obtain ⟨pb, pg, G0, H0, env, b, G, st, w, ev, q⟩ := h
  refine ⟨pb, pg, H0, env, b, G, w, ev, PstS.bind st q fun a1 b1 v1 G1 H1 s1 w1 p1 q1 => ?_⟩
  have st1 := st.trans s1
  have ev1 := ev.step s1
  have h00 : ∀ {p : Addr}, H p = none → H0 p = none := fun {p} hp => Classical.byContradiction fun z => st.dm p z hp
  have fr : ∀ {p : Addr}, H p = none → ∀ (j : Nat) (sj : Sl), env[j]? = some sj → sj.own = true → σ[j]? ≠ some (some (.ref p)) := fun {p} hp j sj ej oj z => by
    obtain ⟨v, ev', sl⟩ := ev.at_ j sj ej
    obtain ⟨p', u, rfl, hp', _⟩ := own_ref sl oj
    rw [z] at ev'
    cases ev'
    rw [hp] at hp'; cases hp'
  cases a1 <;> first | (exact q1.elim) | skip
  · obtain ⟨p, vs, rfl, hp, gp, hn, r⟩ := p1
    exact q1 _ G1 H1 st1 w1 (ev1.set_own (s := .ol _) ⟨p, vs, rfl, hp, gp, h00 hn, r⟩ (fr hn) i)
  · obtain ⟨p, vs, rfl, hp, hl, gp, hn, r⟩ := p1
    exact q1 _ G1 H1 st1 w1 (ev1.set_own (s := .oK _ _) ⟨p, vs, rfl, hp, hl, gp, h00 hn, r⟩ (fr hn) i)
  · obtain ⟨p, vs, rfl, hp, hl, gp, hn, r⟩ := p1
    exact q1 _ G1 H1 st1 w1 (ev1.set_own (s := .oT _ _) ⟨p, vs, rfl, hp, hl, gp, h00 hn, r⟩ (fr hn) i)
theorem ds_own (i : Nat) {x : Str} {pos' : Pos} (he : DF X E e ma) (hN : X.N.Nodup) (hi : X.N[i]? = some x := by rfl) (hx : Loc X.env.scope x := by first | exact .inl rfl | exact .inr rfl) (hs : swapsWith e (some (.Name x pos')) pos.line X.env = pure false := by rfl) (hf : X.fn x = true ∨ X.env.scope.names.lookup x = some .local := by first | exact .inl rfl | exact .inr rfl | assumption) :
    DS X E (.Assign [.Name x pos'] e pos) (sOwn i ma) := PS.imp (ps_set hN hi hx he hs hf) fun _ _ _ h => readOwn h
theorem ds_frz (i : Nat) (h : DS X E st ms) : DS X E st (sFrz i ms) := PS.imp h fun D σ H ⟨pb, pg, G0, H0, env, b, G, st, w, ev, q⟩ => by
  obtain ⟨G', s', w', ev', _⟩ := ev.freeze st w i
  exact ⟨pb, pg, G0, H0, frz env i, b, G', s', w', ev', q⟩
end
end Mr

set_option Elab.async false
set_option linter.all false
set_option maxRecDepth 100000
namespace Mr
open PySem PySem.Spec L2

/-! ### what is walked -/
abbrev MI := Ev → Bag → R (List D)
/-- the walk of a thing that stands still -/
def WlkS (c : MC) (J : It) (ds : List D) (G' : Hp) : Prop := ∀ (i : Nat) (b : Bag) (G2 H2 : Hp), Le G' G2 → Wd c b G2 H2 →
  (∀ d, ds[i]? = some d → J.go i H2 ∧ ∀ x H3, J.yld i H2 x H3 → ∃ G3, Stp c G2 H2 G3 H3 ∧ Wd c b G3 H3 ∧ Rep c G3 d x) ∧ (i = ds.length → J.stop i H2)
/-- the walk of a thing that may change, while nothing changes it -/
def WlkC (c : MC) (J : It) (ds : List D) (G' H' : Hp) : Prop := ∀ (i : Nat) (b : Bag) (G2 H2 : Hp), Stp c G' H' G2 H2 → Wd c b G2 H2 →
  (∀ d, ds[i]? = some d → J.go i H2 ∧ ∀ x H3, J.yld i H2 x H3 → ∃ G3, Stp c G2 H2 G3 H3 ∧ Wd c b G3 H3 ∧ Rep c G3 d x) ∧ (i = ds.length → J.stop i H2)
theorem WlkS.c {c : MC} {J : It} {ds : List D} {G' H' : Hp} (h : WlkS c J ds G') : WlkC c J ds G' H' := fun i b G2 H2 s w => h i b G2 H2 s.g w
def PstI (c : MC) (E : XK) (G H : Hp) (P : It → List D → Hp → Hp → Prop) (Rr : It → Hp → Prop) : R (List D) → Prop
  | .ok ds b => ∀ J G' H', Stp c G H G' H' → Wd c b G' H' → P J ds G' H' → Rr J H'
  | .exc e b => PstX c E G H e b
  | .stuck => False
def tIS (K : PySem.W.Frag) (mg : Str → Option Value) (E : XK) (m : MI) : TI := fun σ H Rr => ∃ pb pg H0 env b G, Wd (cx K mg pb pg) b G H ∧ EvOk (cx K mg pb pg) H0 G H env σ ∧ PstI (cx K mg pb pg) E G H (fun J ds G' _ => WlkS (cx K mg pb pg) J ds G') Rr (m env b)
def tIC (K : PySem.W.Frag) (mg : Str → Option Value) (E : XK) (m : MI) : TI := fun σ H Rr => ∃ pb pg H0 env b G, Wd (cx K mg pb pg) b G H ∧ EvOk (cx K mg pb pg) H0 G H env σ ∧ PstI (cx K mg pb pg) E G H (fun J ds G' H' => WlkC (cx K mg pb pg) J ds G' H') Rr (m env b)
abbrev DI (X : Cx) (E : XK) (tg it : Expr) (m : MI) : Prop := PI X tg it (tIS X.K X.mg E m)
abbrev DIc (X : Cx) (E : XK) (tg it : Expr) (m : MI) : Prop := PI X tg it (tIC X.K X.mg E m)
theorem PI.imp {X : Cx} {tg e : Expr} {t t' : TI} (h : PI X tg e t) (k : ∀ σ H Q, t' σ H Q → t σ H Q) : PI X tg e t' := ⟨fun pins s σ H Q I hq => h.run pins s σ H Q I (k _ _ _ hq)⟩
theorem PI.or {X : Cx} {tg e : Expr} {t t' : TI} (h : PI X tg e t) (h' : PI X tg e t') : PI X tg e (fun σ H Q => t σ H Q ∨ t' σ H Q) := ⟨fun pins s σ H Q I hq => by
  rcases hq with hq | hq
  · exact h.run pins s σ H Q I hq
  · exact h'.run pins s σ H Q I hq⟩
theorem DI.c {X : Cx} {E : XK} {tg it : Expr} {m : MI} (h : DI X E tg it m) : DIc X E tg it m := PI.imp h fun σ H Rr ⟨pb, pg, H0, env, b, G, w, ev, q⟩ => ⟨pb, pg, H0, env, b, G, w, ev, by
  cases hm : m env b with
  | ok ds b1 => rw [hm] at q; exact fun J G' H' s w p => q J G' H' s w (WlkS.c p)
  | exc e b1 => rw [hm] at q; exact q
  | stuck => rw [hm] at q; exact q⟩

/-- items of a list, a tuple -/
def mSeq (m : ME) : MI := fun env b => (m env b).bind fun d b => R.opt (seqD d) b
def mRg1 (m : ME) : MI := fun env b => (m env b).bind fun d b => match d with
  | .int n => if -1000000 ≤ n ∧ n ≤ 1000000 then .ok ((List.range n.toNat).map fun i => .int (i : Nat)) b else .stuck
  | _ => .stuck
def mRg2 (m1 m2 : ME) : MI := fun env b => (m1 env b).bind fun d b => (m2 env b).bind fun e b => match d, e with
  | .int l, .int n => if -1000000 ≤ l ∧ l ≤ 1000000 ∧ -1000000 ≤ n ∧ n ≤ 1000000 then .ok ((List.range (n - l).toNat).map fun i => .int (l + (i : Nat))) b else .stuck
  | _, _ => .stuck
def enumD (k : Nat) : List D → List D
  | [] => []
  | d :: ds => .tup [.int (k : Nat), d] :: enumD (k + 1) ds
theorem enumD_len : ∀ (k : Nat) (ds : List D), (enumD k ds).length = ds.length
  | _, [] => rfl
  | k, d :: ds => by rw [enumD, List.length_cons, List.length_cons, enumD_len (k + 1) ds]
theorem enumD_get : ∀ (k : Nat) (ds : List D) (i : Nat), (enumD k ds)[i]? = (ds[i]?).map fun d => .tup [.int ((k + i : Nat) : Nat), d]
  | _, [], i => by simp [enumD]
  | k, d :: ds, 0 => by simp [enumD]
  | k, d :: ds, i + 1 => by
    rw [enumD, List.getElem?_cons_succ, List.getElem?_cons_succ, enumD_get (k + 1) ds i, show k + 1 + i = k + (i + 1) by omega]
def mEnum (m : ME) : MI := fun env b => (m env b).bind fun d b => R.opt ((seqD d).map (enumD 0)) b
section
variable {c : MC} {b : Bag} {G H : Hp}
theorem wlk_of {J : It} {n : Nat} {Gd : Hp → Prop} {Y : Nat → Hp → V → Hp → Prop} (wk : Walk J n Gd Y) : True := trivial
theorem wlk_list {K : PySem.W.Frag} {ds : List D} {p : Addr} {vs : List V} (hp : G p = some (.lst vs)) (r : Reps c G ds vs) : WlkS c (Itl K p) ds G := fun i b G2 H2 le w => by
  have hs : SqL K H2 p vs := .inl (w.rd (le _ _ hp))
  refine ⟨fun d hd => ?_, fun e => ⟨vs, hs, by rw [← r.len]; omega⟩⟩
  obtain ⟨v, hv, rv⟩ := r.get hd
  exact ⟨⟨vs, v, hs, hv⟩, fun x H3 ⟨e1, e2⟩ => by
    subst e1
    have e3 := e2 vs hs
    rw [hv] at e3
    cases e3
    exact ⟨G2, Stp.refl _ _ _, w, rv.mono le _ _⟩⟩
theorem wlk_listC {K : PySem.W.Frag} {ds : List D} {p : Addr} {vs : List V} (hp : LstV c H p vs) (r : Reps c G ds vs) : WlkC c (Itl K p) ds G H := fun i b G2 H2 s w => by
  have hs : SqL K H2 p vs := (hp.mono s).l
  refine ⟨fun d hd => ?_, fun e => ⟨vs, hs, by rw [← r.len]; omega⟩⟩
  obtain ⟨v, hv, rv⟩ := r.get hd
  exact ⟨⟨vs, v, hs, hv⟩, fun x H3 ⟨e1, e2⟩ => by
    subst e1
    have e3 := e2 vs hs
    rw [hv] at e3
    cases e3
    exact ⟨G2, Stp.refl _ _ _, w, rv.mono s.g _ _⟩⟩
theorem wlk_tup {K : PySem.W.Frag} {ds : List D} {p : Addr} {vs : List V} (hp : G p = some (.tup vs)) (r : Reps c G ds vs) : WlkS c (Itt K p) ds G := fun i b G2 H2 le w => by
  have hs : SqT K H2 p vs := .inl (.inl (w.tup (le _ _ hp)))
  refine ⟨fun d hd => ?_, fun e => ⟨vs, hs, by rw [← r.len]; omega⟩⟩
  obtain ⟨v, hv, rv⟩ := r.get hd
  exact ⟨⟨vs, v, hs, hv⟩, fun x H3 ⟨e1, e2⟩ => by
    subst e1
    have e3 := e2 vs hs
    rw [hv] at e3
    cases e3
    exact ⟨G2, Stp.refl _ _ _, w, rv.mono le _ _⟩⟩
theorem wlk_kt {ds : List D} {p : Addr} {vs : List V} (hp : KTup c.K p vs) (r : Reps c G ds vs) : WlkS c (Itt c.K p) ds G := fun i b G2 H2 le w => by
  have hs : SqT c.K H2 p vs := .inr hp
  refine ⟨fun d hd => ?_, fun e => ⟨vs, hs, by rw [← r.len]; omega⟩⟩
  obtain ⟨v, hv, rv⟩ := r.get hd
  exact ⟨⟨vs, v, hs, hv⟩, fun x H3 ⟨e1, e2⟩ => by
    subst e1
    have e3 := e2 vs hs
    rw [hv] at e3
    cases e3
    exact ⟨G2, Stp.refl _ _ _, w, rv.mono le _ _⟩⟩
theorem wlk_rng {lo : Int} {n : Nat} : WlkS c (Itr lo n) ((List.range n).map fun i => .int (lo + (i : Nat))) G := fun i b G2 H2 le w => by
  refine ⟨fun d hd => ?_, fun e => ?_⟩
  · rw [List.getElem?_map] at hd
    simp only [Option.map_eq_some_iff] at hd
    obtain ⟨j, hj, rfl⟩ := hd
    obtain ⟨h1, h2⟩ := List.getElem?_eq_some_iff.mp hj
    rw [List.getElem_range] at h2
    subst h2
    rw [List.length_range] at h1
    exact ⟨h1, fun x H3 ⟨e1, e2⟩ => by
      subst e1 e2
      exact ⟨G2, Stp.refl _ _ _, w, rfl⟩⟩
  · rw [List.length_map, List.length_range] at e
    show n ≤ i
    omega
theorem wlk_enum {K : PySem.W.Frag} {ds : List D} {p : Addr} {vs : List V} (hp : G p = some (.lst vs)) (r : Reps c G ds vs) : WlkS c (Ite K p) (enumD 0 ds) G := fun i b G2 H2 le w => by
  have hs : SqL K H2 p vs := .inl (w.rd (le _ _ hp))
  obtain ⟨go, st, yl⟩ := (walk_enum (K := K) (a := p) (xs := vs))
  refine ⟨fun d hd => ?_, fun e => ?_⟩
  · rw [enumD_get] at hd
    simp only [Option.map_eq_some_iff] at hd
    obtain ⟨d', hd', rfl⟩ := hd
    obtain ⟨v, hv, rv⟩ := r.get hd'
    have hi : i < vs.length := (List.getElem?_eq_some_iff.mp hv).1
    refine ⟨go i H2 hi hs, fun x H3 hy => ?_⟩
    obtain ⟨T, x1, y1, rfl, nT, rfl, e1, e2⟩ := yl i H2 x H3 hi hs hy
    have e2 : vs[i]? = some y1 := e2
    rw [hv] at e2
    cases e1
    cases e2
    obtain ⟨s2, w2⟩ := Stp.new (o := .tup [.int (i : Nat), v]) w nT
    refine ⟨_, s2, w2, T, _, rfl, upd_same, ?_⟩
    rw [Nat.zero_add]
    exact .cons rfl (.one ((rv.mono le _ _).mono s2.g _ _))
  · rw [enumD_len] at e
    have : i = vs.length := by rw [← r.len]; exact e
    subst this
    exact st H2 hs
theorem wlk_enumC {K : PySem.W.Frag} {ds : List D} {p : Addr} {vs : List V} (hp : LstV c H p vs) (r : Reps c G ds vs) : WlkC c (Ite K p) (enumD 0 ds) G H := fun i b G2 H2 s w => by
  have hs : SqL K H2 p vs := (hp.mono s).l
  obtain ⟨go, st, yl⟩ := (walk_enum (K := K) (a := p) (xs := vs))
  refine ⟨fun d hd => ?_, fun e => ?_⟩
  · rw [enumD_get] at hd
    simp only [Option.map_eq_some_iff] at hd
    obtain ⟨d', hd', rfl⟩ := hd
    obtain ⟨v, hv, rv⟩ := r.get hd'
    have hi : i < vs.length := (List.getElem?_eq_some_iff.mp hv).1
    refine ⟨go i H2 hi hs, fun x H3 hy => ?_⟩
    obtain ⟨T, x1, y1, rfl, nT, rfl, e1, e2⟩ := yl i H2 x H3 hi hs hy
    have e2 : vs[i]? = some y1 := e2
    rw [hv] at e2
    cases e1
    cases e2
    obtain ⟨s2, w2⟩ := Stp.new (o := .tup [.int (i : Nat), v]) w nT
    refine ⟨_, s2, w2, T, _, rfl, upd_same, ?_⟩
    rw [Nat.zero_add]
    exact .cons rfl (.one ((rv.mono s.g _ _).mono s2.g _ _))
  · rw [enumD_len] at e
    have : i = vs.length := by rw [← r.len]; exact e
    subst this
    exact st H2 hs
end
end Mr

set_option Elab.async false
set_option linter.all false
set_option maxRecDepth 100000
namespace Mr
open PySem PySem.Spec L2

section
variable {X : Cx} {E : XK} {e tg it elt : Expr} {st : Stmt} {sts body : List Stmt} {ma mb me : ME} {mi : MI} {mt : MT} {ms mu : MS} {g : MG} {gs : MGs} {pos : Pos}

theorem di_seq (h : DE X E e ma) : DI X E tg e (mSeq ma) := PI.imp (PI.or (pi_list h) (pi_tup h)) fun σ H Rr ⟨pb, pg, H0, env, b, G, w, ev, q⟩ => by
  unfold mSeq at q
  cases hm : ma env b with
  | stuck => rw [hm] at q; exact q.elim
  | exc e b1 => rw [hm] at q; exact .inl ⟨pb, pg, H0, env, b, G, w, ev, by rw [hm]; exact q⟩
  | ok d b1 =>
    rw [hm] at q
    cases d <;> first | exact q.elim | skip
    · refine .inr ⟨pb, pg, H0, env, b, G, w, ev, ?_⟩
      rw [hm]
      intro v G' H' s w' p
      obtain ⟨a, vs, rfl, hp, r⟩ := p
      exact ⟨a, rfl, ⟨vs, .inl (.inl (w'.tup hp))⟩, q _ G' H' s w' (wlk_tup hp r)⟩
    · refine .inl ⟨pb, pg, H0, env, b, G, w, ev, ?_⟩
      rw [hm]
      intro v G' H' s w' p
      obtain ⟨a, vs, rfl, hp, r⟩ := p
      exact ⟨a, rfl, ⟨vs, .inl (w'.rd hp)⟩, q _ G' H' s w' (wlk_list hp r)⟩
    · refine .inr ⟨pb, pg, H0, env, b, G, w, ev, ?_⟩
      rw [hm]
      intro v G' H' s w' p
      obtain ⟨a, vs, rfl, hp, r⟩ := p
      exact ⟨a, rfl, ⟨vs, .inr hp⟩, q _ G' H' s w' (wlk_kt hp r)⟩
theorem dic_seq (h : DV X E e ma) : DIc X E tg e (mSeq ma) := PI.imp (PI.or (pi_list h) (pi_tup h)) fun σ H Rr ⟨pb, pg, H0, env, b, G, w, ev, q⟩ => by
  unfold mSeq at q
  cases hm : ma env b with
  | stuck => rw [hm] at q; exact q.elim
  | exc e b1 => rw [hm] at q; exact .inl ⟨pb, pg, H0, env, b, G, w, ev, by rw [hm]; exact q⟩
  | ok d b1 =>
    rw [hm] at q
    cases d <;> first | exact q.elim | skip
    · refine .inr ⟨pb, pg, H0, env, b, G, w, ev, ?_⟩
      rw [hm]
      intro v G' H' s w' p
      obtain ⟨a, vs, rfl, hp, r⟩ := p
      exact ⟨a, rfl, ⟨vs, .inl (.inl (w'.tup hp))⟩, q _ G' H' s w' (wlk_tup hp r).c⟩
    · refine .inl ⟨pb, pg, H0, env, b, G, w, ev, ?_⟩
      rw [hm]
      intro v G' H' s w' p
      obtain ⟨a, vs, rfl, hp, r⟩ := p
      exact ⟨a, rfl, ⟨vs, hp.l⟩, q _ G' H' s w' (wlk_listC hp r)⟩
    · refine .inr ⟨pb, pg, H0, env, b, G, w, ev, ?_⟩
      rw [hm]
      intro v G' H' s w' p
      obtain ⟨a, vs, rfl, hp, r⟩ := p
      exact ⟨a, rfl, ⟨vs, .inr hp⟩, q _ G' H' s w' (wlk_kt hp r).c⟩
theorem pa1 {K : PySem.W.Frag} {mg : Str → Option Value} {σ : L2.St} {H : Hp} {Q : List V → Hp → Prop} (h : tM K mg E ma σ H fun v H' => Q [v] H') : tCons (tM K mg E ma) tNil σ H Q := h
theorem di_rg1 {p : Pos} (hg : Gl X "range") (hm : X.mg "range" = none) (h : DE X E e ma) (h1 : starEach [e] X.env = (false, eval e X.env) :: starEach [] X.env := by rfl) (hs : starEach [e] X.env = [(false, eval e X.env)] := by rfl) : DI X E tg (.Call (.Name "range" p) [e] [] pos) (mRg1 ma) :=
  PI.imp (pi_range1 hg hm (pa_cons h pa_nil h1) hs) fun σ H Rr ⟨pb, pg, H0, env, b, G, w, ev, q⟩ => pa1 ⟨pb, pg, H0, env, b, G, w, ev, by
    unfold mRg1 at q
    cases hm : ma env b with
    | stuck => rw [hm] at q; exact q.elim
    | exc e b1 => rw [hm] at q; exact q
    | ok d b1 =>
      rw [hm] at q
      simp only [R.bind_ok] at q
      intro v G' H' s w' p
      cases d <;> first | exact q.elim | skip
      rename_i n
      dsimp only at q
      split at q
      · rename_i hz
        cases (show v = .int n from p)
        refine ⟨n, rfl, by omega, by omega, q _ G' H' s w' ?_⟩
        have := @wlk_rng (cx X.K X.mg pb pg) G' 0 n.toNat
        simp only [Int.zero_add] at this
        exact this
      · exact q.elim⟩
theorem di_rg2 {p : Pos} {e2 : Expr} (hg : Gl X "range") (hm : X.mg "range" = none) (h : DE X E e ma) (h2 : DE X E e2 mb) (h1 : starEach [e, e2] X.env = (false, eval e X.env) :: starEach [e2] X.env := by rfl) (h3 : starEach [e2] X.env = (false, eval e2 X.env) :: starEach [] X.env := by rfl)
    (hs : starEach [e, e2] X.env = [(false, eval e X.env), (false, eval e2 X.env)] := by rfl) (hs2 : starEach [e2] X.env = [(false, eval e2 X.env)] := by rfl) : DI X E tg (.Call (.Name "range" p) [e, e2] [] pos) (mRg2 ma mb) :=
  PI.imp (pi_range2 hg hm (pa_cons h (pa_cons h2 pa_nil h3) h1) hs hs2) fun σ H Rr ⟨pb, pg, H0, env, b, G, w, ev, q⟩ => (⟨pb, pg, H0, env, b, G, w, ev, by
    unfold mRg2 at q
    cases hm : ma env b with
    | stuck => rw [hm] at q; exact q.elim
    | exc e b1 => rw [hm] at q; exact q
    | ok d b1 =>
      rw [hm] at q
      simp only [R.bind_ok] at q
      intro v G1 H1 s1 w1 p1
      refine ⟨pb, pg, H0, env, b1, G1, w1, ev.step s1, ?_⟩
      cases hm2 : mb env b1 with
      | stuck => rw [hm2] at q; exact q.elim
      | exc e b2 => rw [hm2] at q; exact PstX.of s1 q
      | ok d2 b2 =>
        rw [hm2] at q
        simp only [R.bind_ok] at q
        intro v2 G' H' s w' p
        cases d <;> first | exact q.elim | skip
        cases d2 <;> first | exact q.elim | skip
        rename_i l n
        dsimp only at q
        split at q
        · rename_i hz
          cases (show v = .int l from p1)
          cases (show v2 = .int n from p)
          exact ⟨l, n, rfl, by omega, q _ G' H' (s1.trans s) w' wlk_rng⟩
        · exact q.elim⟩ : tM X.K X.mg E ma σ H fun v H1 => tM X.K X.mg E mb σ H1 fun v2 H2 => ∃ i j : Int, [v, v2] = [V.int i, V.int j] ∧ (-(2 ^ 62) ≤ i ∧ i < 2 ^ 62 ∧ -(2 ^ 62) ≤ j ∧ j < 2 ^ 62) ∧ Rr (Itr i (j - i).toNat) H2)
def mEnumL (m : ME) : MI := fun env b => (m env b).bind fun d b => match d with
  | .lst ds => .ok (enumD 0 ds) b
  | _ => .stuck
theorem di_enumL {p tpos : Pos} {elts : List Expr} {kk : Nat} (hg : Gl X "enumerate") (hm : X.mg "enumerate" = none) (h : DE X E e ma) (h1 : starEach [e] X.env = (false, eval e X.env) :: starEach [] X.env := by rfl) (hs : starEach [e] X.env = [(false, eval e X.env)] := by rfl) :
    DI X E (.Tuple elts kk tpos) (.Call (.Name "enumerate" p) [e] [] pos) (mEnumL ma) :=
  PI.imp (pi_enum hg hm (pa_cons h pa_nil h1) hs) fun σ H Rr ⟨pb, pg, H0, env, b, G, w, ev, q⟩ => pa1 ⟨pb, pg, H0, env, b, G, w, ev, by
    unfold mEnumL at q
    cases hm : ma env b with
    | stuck => rw [hm] at q; exact q.elim
    | exc e b1 => rw [hm] at q; exact q
    | ok d b1 =>
      rw [hm] at q
      simp only [R.bind_ok] at q
      intro v G' H' s w' p
      cases d <;> first | exact q.elim | skip
      obtain ⟨a, vs, rfl, hp, r⟩ := p
      exact ⟨a, vs, rfl, .inl (w'.rd hp), q _ G' H' s w' (wlk_enum hp r)⟩⟩
theorem pa1v {K : PySem.W.Frag} {mg : Str → Option Value} {σ : L2.St} {H : Hp} {Q : List V → Hp → Prop} (h : tV K mg E ma σ H fun v H' => Q [v] H') : tCons (tV K mg E ma) tNil σ H Q := h
theorem dic_enumL {p tpos : Pos} {elts : List Expr} {kk : Nat} (hg : Gl X "enumerate") (hm : X.mg "enumerate" = none) (h : DV X E e ma) (h1 : starEach [e] X.env = (false, eval e X.env) :: starEach [] X.env := by rfl) (hs : starEach [e] X.env = [(false, eval e X.env)] := by rfl) :
    DIc X E (.Tuple elts kk tpos) (.Call (.Name "enumerate" p) [e] [] pos) (mEnumL ma) :=
  PI.imp (pi_enum hg hm (pa_cons h pa_nil h1) hs) fun σ H Rr ⟨pb, pg, H0, env, b, G, w, ev, q⟩ => pa1v ⟨pb, pg, H0, env, b, G, w, ev, by
    unfold mEnumL at q
    cases hm : ma env b with
    | stuck => rw [hm] at q; exact q.elim
    | exc e b1 => rw [hm] at q; exact q
    | ok d b1 =>
      rw [hm] at q
      simp only [R.bind_ok] at q
      intro v G' H' s w' p
      cases d <;> first | exact q.elim | skip
      obtain ⟨a, vs, rfl, hp, r⟩ := p
      exact ⟨a, vs, rfl, hp.l, q _ G' H' s w' (wlk_enumC hp r)⟩⟩

/-! ### for -/
def forL (g : MG) (body : MS) : List D → Ev → Bag → SO
  | [], env, b => .nx env b
  | d :: ds, env, b => match g d env with
    | none => .stuck
    | some env1 => match body env1 b with
      | .nx env2 b2 => forL g body ds env2 b2
      | .ct env2 b2 => forL g body ds env2 b2
      | .bk env2 b2 => .nx env2 b2
      | o => o
def sFor (mi : MI) (g : MG) (body : MS) : MS := fun env b => (mi env b).so fun ds b => forL g body ds env b
theorem Stp.rebase {c : MC} {G0 H0 G' H' G H : Hp} (a : Stp c G0 H0 G' H') (b : Stp c G' H0 G H) : Stp c G0 H0 G H :=
  ⟨a.g.trans b.g, b.h, fun x h e => b.fr x h (a.fr x h e), b.dm⟩
theorem Stp.here {c : MC} {G0 H0 G' H' : Hp} (a : Stp c G0 H0 G' H') : Stp c G' H0 G' H' := ⟨Le.refl _, a.h, fun x h e => e, a.dm⟩
theorem PstS.base {c : MC} {E : XK} {G0 H0 G' H' : Hp} {D : Ends} (a : Stp c G0 H0 G' H') : ∀ {o : SO}, PstS c E G0 H0 D o → PstS c E G' H0 D o
  | .nx _ _, q => fun σ G H s w e => q σ G H (a.rebase s) w e
  | .bk _ _, q => fun σ G H s w e => q σ G H (a.rebase s) w e
  | .ct _ _, q => fun σ G H s w e => q σ G H (a.rebase s) w e
  | .rt _ _, q => fun v G H s w r => q v G H (a.rebase s) w r
  | .exc _ _, q => fun cls dd G H s w r => q cls dd G H (a.rebase s) w r
  | .stuck, q => q
theorem readFor {K : PySem.W.Frag} {mg : Str → Option Value} {D : Ends} {σ : L2.St} {H : Hp} (h : tS K mg E (sFor mi g ms) D σ H) : tFor (tIS K mg E mi) (tG K mg g) (tS K mg E ms) D σ H := by
  obtain ⟨pb, pg, G0, H0, env, b, G, st, w, ev, q⟩ := h
  refine ⟨pb, pg, H0, env, b, G, w, ev, ?_⟩
  unfold sFor at q
  cases hm : mi env b with
  | stuck => rw [hm] at q; exact q.elim
  | exc e b1 => rw [hm] at q; exact fun cls dd G' H' s w r => q cls dd G' H' (st.trans s) w r
  | ok ds b1 =>
    rw [hm] at q
    intro J G1 H1 s1 w1 wk
    have st1 := st.trans s1
    refine ⟨fun i m σ H => ∃ env b G, Stp (cx K mg pb pg) G1 H0 G H ∧ Wd (cx K mg pb pg) b G H ∧ EvOk (cx K mg pb pg) H0 G H env σ ∧ m = ds.length - i ∧ i ≤ ds.length ∧ PstS (cx K mg pb pg) E G1 H0 D (forL g ms (ds.drop i) env b), ⟨ds.length, env, b1, G1, st1.here, w1, ev.step s1, rfl, Nat.zero_le _, PstS.base st1 q⟩, ?_⟩
    rintro i m σ2 H2 ⟨env2, b2, G2, s2, w2, e2, rfl, hi, q2⟩
    obtain ⟨wg, ws⟩ := wk i b2 G2 H2 s2.g w2
    by_cases hlt : i < ds.length
    · right
      obtain ⟨go, yl⟩ := wg ds[i] (List.getElem?_eq_getElem hlt)
      rw [List.drop_eq_getElem_cons hlt, forL] at q2
      refine ⟨go, fun σ3 H3 => ∃ env b G, Stp (cx K mg pb pg) G1 H0 G H3 ∧ Wd (cx K mg pb pg) b G H3 ∧ EvOk (cx K mg pb pg) H0 G H3 env σ3 ∧ PstS (cx K mg pb pg) E G1 H0 D (forL g ms (ds.drop (i + 1)) env b), fun σ3 H3 ⟨env3, b3, G3, s3, w3, e3, q3⟩ => ⟨ds.length - (i + 1), by omega, env3, b3, G3, s3, w3, e3, rfl, hlt, q3⟩, fun x H3 hy => ?_⟩
      obtain ⟨G3, s3, w3, r3⟩ := yl x H3 hy
      cases hg : g ds[i] env2 with
      | none => rw [hg] at q2; exact q2.elim
      | some env3 =>
        rw [hg] at q2
        dsimp only at q2
        refine ⟨pb, pg, H0, env2, b2, G3, ds[i], env3, w3, e2.step s3, r3, hg, fun σ4 e4 => ⟨pb, pg, G1, H0, env3, b2, G3, s2.trans s3, w3, e4, ?_⟩⟩
        cases hb : ms env3 b2 with
        | nx env5 b5 => rw [hb] at q2; exact fun σ5 G5 H5 s5 w5 e5 => ⟨env5, b5, G5, s5, w5, e5, q2⟩
        | ct env5 b5 => rw [hb] at q2; exact fun σ5 G5 H5 s5 w5 e5 => ⟨env5, b5, G5, s5, w5, e5, q2⟩
        | bk env5 b5 => rw [hb] at q2; exact q2
        | rt d b5 => rw [hb] at q2; exact q2
        | exc e b5 => rw [hb] at q2; exact q2
        | stuck => rw [hb] at q2; exact q2
    · left
      have hi2 : i = ds.length := by omega
      subst hi2
      rw [List.drop_length] at q2
      exact ⟨ws rfl, q2 σ2 G2 H2 s2 w2 e2⟩
theorem ds_for (hp : PassesOwn (model X.prog X.w) X.A X.env X.xe) (hc : X.calm = true) (hi : DI X E tg it mi) (hg : DG X tg g) (hb : DSs X E body ms) (hs : ∀ x, foldedSetIterable it X.env x = pure x := by intro _; rfl) : DS X E (.For tg it body [] pos) (sFor mi g ms) :=
  PS.imp (ps_for hp hc hi hg hb hs) fun _ _ _ h => readFor h

/-! ### while -/
def whl (t : MT) (body : MS) : Nat → Ev → Bag → SO
  | 0, _, _ => .stuck
  | n + 1, env, b => match t env b with
    | .stuck => .stuck
    | .exc e b => .exc e b
    | .ok false b => .nx env b
    | .ok true b => match body env b with
      | .nx env2 b2 => whl t body n env2 b2
      | .ct env2 b2 => whl t body n env2 b2
      | .bk env2 b2 => .nx env2 b2
      | o => o
def sWhile (n : Nat) (t : MT) (body : MS) : MS := fun env b => whl t body n env b
theorem readWhile {n : Nat} {K : PySem.W.Frag} {mg : Str → Option Value} {D : Ends} {σ : L2.St} {H : Hp} (h : tS K mg E (sWhile n mt ms) D σ H) : tWhile (tT K mg E mt) (tS K mg E ms) D σ H := by
  obtain ⟨pb, pg, G0, H0, env, b, G, st, w, ev, q⟩ := h
  refine ⟨fun m σ H => ∃ env b G, Stp (cx K mg pb pg) G0 H0 G H ∧ Wd (cx K mg pb pg) b G H ∧ EvOk (cx K mg pb pg) H0 G H env σ ∧ PstS (cx K mg pb pg) E G0 H0 D (whl mt ms m env b), ⟨n, env, b, G, st, w, ev, q⟩, ?_⟩
  rintro m σ2 H2 ⟨env2, b2, G2, s2, w2, e2, q2⟩
  cases m with
  | zero => exact q2.elim
  | succ m =>
    rw [whl] at q2
    refine ⟨pb, pg, H0, env2, b2, G2, w2, e2, ?_⟩
    cases ht : mt env2 b2 with
    | stuck => rw [ht] at q2; exact q2
    | exc e b3 => rw [ht] at q2; exact fun cls dd G' H' s w r => q2 cls dd G' H' (s2.trans s) w r
    | ok k b3 =>
      rw [ht] at q2
      intro v G3 H3 s3 w3 p3
      cases (show v = k from p3)
      cases k with
      | false =>
        rw [if_neg Bool.false_ne_true]
        exact q2 σ2 G3 H3 (s2.trans s3) w3 (e2.step s3)
      | true =>
        rw [if_pos rfl]
        dsimp only at q2
        refine ⟨fun σ4 H4 => ∃ env b G, Stp (cx K mg pb pg) G0 H0 G H4 ∧ Wd (cx K mg pb pg) b G H4 ∧ EvOk (cx K mg pb pg) H0 G H4 env σ4 ∧ PstS (cx K mg pb pg) E G0 H0 D (whl mt ms m env b), fun σ4 H4 h => ⟨m, Nat.lt_succ_self m, h⟩, pb, pg, G0, H0, env2, b3, G3, s2.trans s3, w3, e2.step s3, ?_⟩
        cases hb : ms env2 b3 with
        | nx env5 b5 => rw [hb] at q2; exact fun σ5 G5 H5 s5 w5 e5 => ⟨env5, b5, G5, s5, w5, e5, q2⟩
        | ct env5 b5 => rw [hb] at q2; exact fun σ5 G5 H5 s5 w5 e5 => ⟨env5, b5, G5, s5, w5, e5, q2⟩
        | bk env5 b5 => rw [hb] at q2; exact q2
        | rt d b5 => rw [hb] at q2; exact q2
        | exc e b5 => rw [hb] at q2; exact q2
        | stuck => rw [hb] at q2; exact q2
theorem ds_while {t : Expr} (n : Nat) (hp : PassesOwn (model X.prog X.w) X.A X.env X.xe) (hc : DT X E t mt) (hb : DSs X E body ms) : DS X E (.While t body [] pos) (sWhile n mt ms) :=
  PS.imp (ps_while hp hc hb) fun _ _ _ h => readWhile h

/-! ### list comprehensions -/
def wipeE (env : Ev) : List Nat → Ev
  | [] => env
  | v :: vs => (wipeE env vs).set v .un
/-- within a comprehension nothing is raised -/
def R.sq {α β : Type} (x : R α) (f : α → Bag → R β) : R β := match x with
  | .ok a b => f a b
  | _ => .stuck
@[simp] theorem R.sq_ok {α β : Type} (a : α) (b : Bag) (f : α → Bag → R β) : (R.ok a b).sq f = f a b := rfl
@[simp] theorem R.sq_exc {α β : Type} (e : Exn) (b : Bag) (f : α → Bag → R β) : (R.exc e b : R α).sq f = .stuck := rfl
@[simp] theorem R.sq_stuck {α β : Type} (f : α → Bag → R β) : (R.stuck : R α).sq f = .stuck := rfl
def lcL (g : MG) (t : MT) (el : ME) (env : Ev) : List D → Bag → R (List D)
  | [], b => .ok [] b
  | d :: ds, b => match g d env with
    | none => .stuck
    | some env1 => (t env1 b).sq fun k b => if k = true then (el env1 b).sq fun y b => (lcL g t el env ds b).bind fun r b => .ok (y :: r) b else lcL g t el env ds b
def mLc (mi : MI) (g : MG) (t : MT) (el : ME) (vs : List Nat) : ME := fun env b => (mi env b).bind fun ds b => if ds.length ≤ 100000 then (lcL g t el (wipeE env vs) ds b).bind fun r b => .ok (.lst r) b else .stuck
def mYes : MT := fun _ b => .ok true b
abbrev DTs (X : Cx) (E : XK) (ifs : List Expr) (m : MT) : Prop := PTs X ifs (tT X.K X.mg E m)
theorem PTs.imp {X : Cx} {e : List Expr} {t t' : TT} (h : PTs X e t) (k : ∀ σ H Q, t' σ H Q → t σ H Q) : PTs X e t' := ⟨fun pins s σ H Q I hq => h.run pins s σ H Q I (k _ _ _ hq)⟩
theorem dts_nil : DTs X E [] mYes := PTs.imp pts_nil fun σ H Q ⟨pb, pg, H0, env, b, G, w, ev, q⟩ => q true G H (Stp.refl _ _ _) w rfl
theorem dts_one (h : DT X E e mt) : DTs X E [e] mt := pts_one h
theorem EvOk.wipe {c : MC} {H0 G H : Hp} {env : Ev} {σ : L2.St} (h : EvOk c H0 G H env σ) : ∀ vs : List Nat, EvOk c H0 G H (wipeE env vs) (L2.wipe σ vs)
  | [] => h
  | v :: vs => by
    have ih := EvOk.wipe h vs
    unfold wipeE L2.wipe
    refine ⟨by rw [List.length_set, List.length_set]; exact ih.len, fun j s e => ?_, fun j k sj sk p ne e1 e2 o1 o2 p1 => ?_, ih.bb, ih.bg⟩
    · rw [List.getElem?_set] at e ⊢
      by_cases hij : v = j
      · subst hij
        rw [if_pos rfl] at e ⊢
        rw [← ih.len]
        split at e
        · rename_i hl
          cases e
          rw [if_pos hl]
          exact ⟨_, rfl, trivial⟩
        · cases e
      · rw [if_neg hij] at e ⊢
        exact ih.at_ j s e
    · rw [List.getElem?_set] at e1 e2 p1 ⊢
      by_cases hj : v = j
      · subst hj
        rw [if_pos rfl] at e1
        split at e1
        · cases e1; cases o1
        · cases e1
      · by_cases hk : v = k
        · subst hk
          rw [if_pos rfl] at e2
          split at e2
          · cases e2; cases o2
          · cases e2
        · rw [if_neg hj] at e1 p1
          rw [if_neg hk] at e2 ⊢
          exact ih.dis j k sj sk p ne e1 e2 o1 o2 p1
/-- a comprehension's target stores its own names alone -/
def tGc (K : PySem.W.Frag) (mg : Str → Option Value) (vs : List Nat) (m : MG) : TG := fun v σ H Q => ∃ pb pg H0 env b G d env', Wd (cx K mg pb pg) b G H ∧ EvOk (cx K mg pb pg) H0 G H env σ ∧ Rep (cx K mg pb pg) G d v ∧ m d env = some env' ∧ ∀ σ', EvOk (cx K mg pb pg) H0 G H env' σ' → L2.wipe σ' vs = L2.wipe σ vs → Q σ' H
def tGsc (K : PySem.W.Frag) (mg : Str → Option Value) (vs : List Nat) (m : MGs) : TGs := fun us σ H Q => ∃ pb pg H0 env b G ds env', Wd (cx K mg pb pg) b G H ∧ EvOk (cx K mg pb pg) H0 G H env σ ∧ Reps (cx K mg pb pg) G ds us ∧ m ds env = some env' ∧ ∀ σ', EvOk (cx K mg pb pg) H0 G H env' σ' → L2.wipe σ' vs = L2.wipe σ vs → Q σ' H
abbrev DGc (X : Cx) (vs : List Nat) (tg : Expr) (m : MG) : Prop := PG X tg (tGc X.K X.mg vs m)
abbrev DGsc (X : Cx) (vs : List Nat) (tg : List Expr) (m : MGs) : Prop := PGs X tg (tGsc X.K X.mg vs m)
theorem wipe_set {σ : L2.St} {i : Nat} {x : Option V} : ∀ {vs : List Nat}, i ∈ vs → L2.wipe (σ.set i x) vs = L2.wipe σ vs
  | v :: vs, h => by
    unfold L2.wipe
    by_cases hv : i ∈ vs
    · rw [wipe_set hv]
    · have e : i = v := by
        rcases List.mem_cons.mp h with h | h
        · exact h
        · exact absurd h hv
      subst e
      apply List.ext_getElem?
      intro j
      rw [List.getElem?_set, List.getElem?_set, wipe_length, wipe_length, List.length_set]
      by_cases hj : i = j
      · rw [if_pos hj, if_pos hj]
      · rw [if_neg hj, if_neg hj]
        by_cases hjv : j ∈ vs
        · rw [wipe_eq hjv, wipe_eq hjv]
          simp
        · rw [wipe_out hjv, wipe_out hjv, List.getElem?_set, if_neg hj]
where wipe_eq {σ : L2.St} {j : Nat} : ∀ {vs : List Nat}, j ∈ vs → (L2.wipe σ vs)[j]? = if j < σ.length then some none else none
  | v :: vs, h => by
    unfold L2.wipe
    rw [List.getElem?_set, wipe_length]
    by_cases hv : v = j
    · rw [if_pos hv, hv]
    · rw [if_neg hv]
      rcases List.mem_cons.mp h with h | h
      · exact absurd h.symm hv
      · exact wipe_eq h
theorem wipe_idem (σ : L2.St) (vs : List Nat) : L2.wipe (L2.wipe σ vs) vs = L2.wipe σ vs := by
  have gen : ∀ us : List Nat, (∀ u ∈ us, u ∈ vs) → L2.wipe (L2.wipe σ us) vs = L2.wipe σ vs := by
    intro us
    induction us with
    | nil => intro _; rfl
    | cons u us ih =>
      intro h
      show L2.wipe ((L2.wipe σ us).set u none) vs = _
      rw [wipe_set (h u (by simp)), ih fun x hx => h x (by simp [hx])]
  exact gen vs fun u h => h
theorem dgc_name (i : Nat) {x : Str} {vs : List Nat} (hv : i ∈ vs) (hN : X.N.Nodup) (hi : X.N[i]? = some x := by rfl) (hx : Loc X.env.scope x := by first | exact .inl rfl | exact .inr rfl) (hf : X.fn x = true ∨ X.env.scope.names.lookup x = some .local := by first | exact .inl rfl | exact .inr rfl | assumption) : DGc X vs (.Name x pos) (gNm i) :=
  PG.imp (pg_name hN hi hx hf) fun v σ H Q ⟨pb, pg, H0, env, b, G, d, env', w, ev, r, e, q⟩ => by
    cases e
    exact q _ (ev.set_va r i) (wipe_set hv)
theorem dgc_nil {vs : List Nat} : DGsc X vs [] gNl := PGs.imp pgs_nil fun us σ H Q ⟨pb, pg, H0, env, b, G, ds, env', w, ev, r, e, q⟩ => by
  cases ds with
  | nil =>
    cases e
    exact ⟨r, q σ ev rfl⟩
  | cons d ds => cases e
theorem dgc_cons {vs : List Nat} {es : List Expr} (h : DGc X vs tg g) (hr : DGsc X vs es gs) (hs : (assignEach (tg :: es) X.env).map (·.2) = assign tg X.env :: (assignEach es X.env).map (·.2) := by rfl) : DGsc X vs (tg :: es) (gCn g gs) :=
  PGs.imp (pgs_cons h hr hs) fun us σ H Q ⟨pb, pg, H0, env, b, G, ds, env', w, ev, r, e, q⟩ => by
    cases ds with
    | nil => cases e
    | cons d ds =>
      obtain ⟨v, ws, rfl, r1, r2⟩ := r
      simp only [gCn, Option.bind_eq_some_iff] at e
      obtain ⟨env1, e1, e2⟩ := e
      exact ⟨v, ws, rfl, pb, pg, H0, env, b, G, d, env1, w, ev, r1, e1, fun σ' ev' hw => ⟨pb, pg, H0, env1, b, G, ds, env', w, ev', r2, e2, fun σ2 ev2 hw2 => q σ2 ev2 (hw2.trans hw)⟩⟩
theorem dgc_tup {vs : List Nat} {es : List Expr} {k n : Nat} (hc : X.calm = true) (h : DGsc X vs es gs) (cn : Cnt gs n) (hn : (assignEach es X.env).length = n := by rfl) (hst : (assignEach es X.env).findIdx? (·.1) = none := by rfl) : DGc X vs (.Tuple es k pos) (gTp gs) :=
  PG.imp (pg_tup hc h hn hst) fun v σ H Q ⟨pb, pg, H0, env, b, G, d, env', w, ev, r, e, q⟩ => by
    cases d <;> first | (cases e; done) | skip
    · obtain ⟨p, ws, rfl, hp, r⟩ := r
      exact ⟨p, ws, rfl, .inl (.inl (w.tup hp)), by rw [← r.len]; exact cn.len _ _ _ e, pb, pg, H0, env, b, G, _, env', w, ev, r, e, q⟩
    · obtain ⟨p, ws, rfl, hp, r⟩ := r
      exact ⟨p, ws, rfl, .inr hp, by rw [← r.len]; exact cn.len _ _ _ e, pb, pg, H0, env, b, G, _, env', w, ev, r, e, q⟩
/-- a list that is being made -/
theorem Stp.putD {c : MC} {G1 H1 G H : Hp} (s : Stp c G1 H1 G H) {D : Addr} {o : HO} (h : H1 D = none) : Stp c G1 H1 G (upd H D o) := s.put h
theorem readLc {K : PySem.W.Frag} {mg : Str → Option Value} {σ : L2.St} {H : Hp} {Q : VK} {vs : List Nat} (h : tF K mg E (mLc mi g mt me vs) σ H Q) :
    tLc (tIC K mg E mi) (tGc K mg vs g) (tT K mg E0 mt) (tM K mg E0 me) vs σ H Q := by
  obtain ⟨pb, pg, H0, env, b, G, w, ev, q⟩ := h
  refine ⟨pb, pg, H0, env, b, G, w, ev, ?_⟩
  unfold mLc at q
  cases hm : mi env b with
  | stuck => rw [hm] at q; exact q.elim
  | exc e b1 => rw [hm] at q; exact q
  | ok ds b1 =>
    rw [hm] at q
    simp only [R.bind_ok] at q
    intro J G1 H1 s1 w1 wk Dl hD
    split at q
    · rename_i hz
      -- the state behind some turns: what is still to come gives, with what is made, the whole
      refine ⟨fun i m H2 => ∃ b2 G2 acc vs2, Stp (cx K mg pb pg) G1 H1 G2 H2 ∧ Wd (cx K mg pb pg) b2 G2 H2 ∧ H2 Dl = some (.lst vs2) ∧ G2 Dl = none ∧ Reps (cx K mg pb pg) G2 acc vs2 ∧ acc.length ≤ i ∧ m = ds.length - i ∧ i ≤ ds.length ∧
        (lcL g mt me (wipeE env vs) ds b1).bind (fun r b => .ok (.lst r) b) = (lcL g mt me (wipeE env vs) (ds.drop i) b2).bind (fun r b => R.ok (D.lst (acc ++ r)) b), ⟨ds.length, b1, G1, [], [], ?_⟩, ?_⟩
      · obtain ⟨sD, wD, gD⟩ := Stp.newO (o := .lst []) w1 hD
        exact ⟨sD, wD, upd_same, gD, .nil, Nat.zero_le _, rfl, Nat.zero_le _, rfl⟩
      · rintro i m H2 ⟨b2, G2, acc, vs2, s2, w2, hD2, gD2, r2, hacc, rfl, hi, heq⟩
        obtain ⟨wg, ws⟩ := wk i b2 G2 H2 s2 w2
        by_cases hlt : i < ds.length
        · right
          obtain ⟨go, yl⟩ := wg ds[i] (List.getElem?_eq_getElem hlt)
          rw [List.drop_eq_getElem_cons hlt, lcL] at heq
          refine ⟨go, fun H4 => ∃ b4 G4 acc4 vs4, Stp (cx K mg pb pg) G1 H1 G4 H4 ∧ Wd (cx K mg pb pg) b4 G4 H4 ∧ H4 Dl = some (.lst vs4) ∧ G4 Dl = none ∧ Reps (cx K mg pb pg) G4 acc4 vs4 ∧ acc4.length ≤ i + 1 ∧
            (lcL g mt me (wipeE env vs) ds b1).bind (fun r b => .ok (.lst r) b) = (lcL g mt me (wipeE env vs) (ds.drop (i + 1)) b4).bind (fun r b => R.ok (D.lst (acc4 ++ r)) b),
            fun H4 ⟨b4, G4, acc4, vs4, s4, w4, h4, g4, r4, l4, e4⟩ => ⟨ds.length - (i + 1), by omega, b4, G4, acc4, vs4, s4, w4, h4, g4, r4, l4, rfl, hlt, e4⟩, fun x H3 hy => ?_⟩
          obtain ⟨G3, s3, w3, r3⟩ := yl x H3 hy
          have evw : EvOk (cx K mg pb pg) H0 G3 H3 (wipeE env vs) (L2.wipe σ vs) := (((ev.step s1).step s2).step s3).wipe vs
          have qn : (R.stuck : R D) = (lcL g mt me (wipeE env vs) ds b1).bind (fun r b => .ok (.lst r) b) → False := fun z => by
            rw [← z] at q; exact q
          cases hg : g ds[i] (wipeE env vs) with
          | none => rw [hg] at heq; exact (qn heq.symm).elim
          | some env3 =>
            rw [hg] at heq
            dsimp only at heq
            refine ⟨pb, pg, H0, _, b2, G3, ds[i], env3, w3, evw, r3, hg, fun σ4 e4 hw4 => ⟨hw4.trans (wipe_idem σ vs), pb, pg, H0, env3, b2, G3, w3, e4, ?_⟩⟩
            cases ht : mt env3 b2 with
            | stuck => rw [ht] at heq; exact (qn heq.symm).elim
            | exc e b5 => rw [ht] at heq; exact (qn heq.symm).elim
            | ok k b5 =>
              rw [ht] at heq
              simp only [R.sq_ok] at heq
              intro v5 G5 H5 s5 w5 p5
              cases (show v5 = k from p5)
              have hD5 : H5 Dl = some (.lst vs2) := by
                have nb : Dl ≠ pb := fun z => by rw [z] at hD; exact w1.hbne hD
                have ng : Dl ≠ pg := fun z => by rw [z] at hD; exact w1.hgne hD
                exact s5.h _ _ nb ng (s3.h _ _ nb ng hD2)
              have gD5 : G5 Dl = none := (s3.trans s5).fr Dl (by rw [hD2]; exact fun z => nomatch z) gD2
              have st5 := s2.trans (s3.trans s5)
              cases k with
              | false =>
                rw [if_neg Bool.false_ne_true] at heq ⊢
                exact ⟨b5, G5, acc, vs2, st5, w5, hD5, gD5, r2.mono (s3.trans s5).g, by omega, heq⟩
              | true =>
                rw [if_pos rfl] at heq ⊢
                refine ⟨pb, pg, H0, env3, b5, G5, w5, e4.step s5, ?_⟩
                cases hel : me env3 b5 with
                | stuck => rw [hel] at heq; exact (qn heq.symm).elim
                | exc e b6 => rw [hel] at heq; exact (qn heq.symm).elim
                | ok y b6 =>
                  rw [hel] at heq
                  simp only [R.sq_ok] at heq
                  intro v6 G6 H6 s6 w6 p6
                  have nb : Dl ≠ pb := fun z => by rw [z] at hD; exact w1.hbne hD
                  have ng : Dl ≠ pg := fun z => by rw [z] at hD; exact w1.hgne hD
                  have hD6 := s6.h _ _ nb ng hD5
                  have gD6 : G6 Dl = none := s6.fr Dl (by rw [hD5]; exact fun z => nomatch z) gD5
                  have r6 := (r2.mono (s3.trans s5).g).mono s6.g
                  refine ⟨vs2, hD6, ?_, b6, G6, acc ++ [y], vs2 ++ [v6], (st5.trans s6).put hD, w6.put gD6 nb ng, upd_same, gD6, r6.append (.one p6), by rw [List.length_append]; simp; omega, ?_⟩
                  · have := r2.len
                    have : sizeLine = 16777216 := sizeLine_eq
                    omega
                  · rw [heq]
                    cases lcL g mt me (wipeE env vs) (ds.drop (i + 1)) b6 with
                    | ok r b7 => simp
                    | exc e b7 => rfl
                    | stuck => rfl
        · left
          have hi2 : i = ds.length := by omega
          subst hi2
          rw [List.drop_length] at heq
          refine ⟨ws rfl, ?_⟩
          rw [heq] at q
          simp only [lcL, R.bind_ok, List.append_nil] at q
          have hDn : H Dl = none := Classical.byContradiction fun z => s1.dm Dl z hD
          exact q (.ref Dl) G2 H2 (s1.trans s2) w2 ⟨Dl, vs2, rfl, hD2, gD2, hDn, r2⟩
    · exact q.elim
/-- [elt for tg in it if ..] -/
theorem df_lc {ifs : List Expr} {scope : Scope} {own : List (Str × Nat)} (hc : X.calm = true) (hN : X.N.Nodup) (hi : DIc X E tg it mi) (ok : BlkOk X.N X.env.scope scope own)
    (hg : ∀ (s : Shared) (H : Hp) (C : Addr) (cl : List (Str × Addr)) (fp : List Addr), DGc (X.blk s H scope (compEnvC scope cl C X.env) fp) (own.map (·.2)) tg g) (ht : ∀ (s : Shared) (H : Hp) (C : Addr) (cl : List (Str × Addr)) (fp : List Addr), DTs (X.blk s H scope (compEnvC scope cl C X.env) fp) E0 ifs mt)
    (he : ∀ (s : Shared) (H : Hp) (C : Addr) (cl : List (Str × Addr)) (fp : List Addr), DE (X.blk s H scope (compEnvC scope cl C X.env) fp) E0 elt me) (hs : ∀ x, foldedSetIterable it X.env x = pure x := by intro _; rfl) :
    DF X E (.ListComp elt [⟨tg, it, ifs, 0⟩] scope pos) (mLc mi g mt me (own.map (·.2))) :=
  PE.imp (pe_lc hc hN hi ok hg ht he hs) fun σ H Q h => readLc h
end
end Mr

set_option Elab.async false
set_option linter.all false
set_option maxRecDepth 100000
namespace Mr
open PySem PySem.Spec L2

/-! ### defs -/
abbrev MF := List D → Bag → R D
/-- nothing is raised -/
def R.nox {α : Type} (x : R α) : R α := match x with
  | .ok a b => .ok a b
  | _ => .stuck
@[simp] theorem R.nox_ok {α : Type} (a : α) (b : Bag) : (R.ok a b).nox = .ok a b := rfl
@[simp] theorem R.nox_exc {α : Type} (e : Exn) (b : Bag) : (R.exc e b : R α).nox = .stuck := rfl
@[simp] theorem R.nox_stuck {α : Type} : (R.stuck : R α).nox = .stuck := rfl
/-- a def's promise: what its mirror hands back -/
def spM (K : PySem.W.Frag) (mg : Str → Option Value) (n : Nat) (fm : MF) : Sp := fun vs H Q E => ∃ pb pg G b ds, Wd (cx K mg pb pg) b G H ∧ Reps (cx K mg pb pg) G ds vs ∧ ds.length = n ∧ PstG (cx K mg pb pg) E G H (pM (cx K mg pb pg)) Q (fm ds b)
def spM0 (K : PySem.W.Frag) (mg : Str → Option Value) (n : Nat) (fm : MF) : Sp := fun vs H Q _ => ∃ pb pg G b ds, Wd (cx K mg pb pg) b G H ∧ Reps (cx K mg pb pg) G ds vs ∧ ds.length = n ∧ PstG (cx K mg pb pg) E0 G H (pM (cx K mg pb pg)) Q (fm ds b).nox
def fnM (n : Nat) (ms : MS) : MF := fun ds b => match ms (ds.map Sl.va ++ List.replicate (n - ds.length) .un) b with
  | .nx _ b => .ok .non b
  | .rt d b => .ok d b
  | .exc e b => .exc e b
  | _ => .stuck
def mCall (fm : MF) (ma : MA) : ME := fun env b => (ma env b).bind fun ds b => fm ds b
def mCall0 (fm : MF) (ma : MA) : ME := fun env b => (ma env b).bind fun ds b => (fm ds b).nox
/-- a def of the text that stands behind the top, its promise -/
structure Fk (P : Program) (w : World) (K : PySem.W.Frag) (mg : Str → Option Value) (base : Heap) (CX : CXT) (x : Str) (k : Nat) (n : Nat) (sp : Sp) : Prop where
  ex : ∃ (f : Addr) (fd : FuncData) (ps : List Str), mg x = some (.ref f) ∧ PySem.W.keepIn K (.ref f) = true ∧ Binds K fd ps [] ∧ FnOk P w K mg base CX k f fd ps sp
abbrev F0 (P : Program) (w : World) (K : PySem.W.Frag) (mg : Str → Option Value) (base : Heap) (x : Str) (k : Nat) (n : Nat) (fm : MF) : Prop := Fk P w K mg base CX0 x k n (spM0 K mg n fm)
abbrev F1 (P : Program) (w : World) (K : PySem.W.Frag) (mg : Str → Option Value) (base : Heap) (x : Str) (k : Nat) (n : Nat) (fm : MF) : Prop := Fk P w K mg base (L2.CX P w) x k n (spM K mg n fm)
section
variable {X : Cx} {E : XK} {e : Expr} {es : List Expr} {mr : MA} {pos p : Pos} {fm : MF} {k n : Nat} {x : Str}
theorem da_len {m : MA} (h : DA X E es m) : True := trivial
/-- how many arguments a list of mirrors has -/
structure CntA (m : MA) (n : Nat) : Prop where
  len : ∀ env b ds b', m env b = .ok ds b' → ds.length = n
theorem cntA_nil : CntA mNil 0 := ⟨fun env b ds b' h => by cases h; rfl⟩
theorem cntA_cons {ma : ME} {n : Nat} (h : CntA mr n) : CntA (mCons ma mr) (n + 1) := ⟨fun env b ds b' e => by
  unfold mCons at e
  cases h1 : ma env b with
  | ok a b1 =>
    rw [h1] at e
    simp only [R.bind_ok] at e
    cases h2 : mr env b1 with
    | ok as b2 =>
      rw [h2] at e
      cases e
      rw [List.length_cons, h.len _ _ _ _ h2]
    | exc _ _ => rw [h2] at e; cases e
    | stuck => rw [h2] at e; cases e
  | exc _ _ => rw [h1] at e; cases e
  | stuck => rw [h1] at e; cases e⟩
theorem readCall0 {K : PySem.W.Frag} {mg : Str → Option Value} {σ : L2.St} {H : Hp} {Q : VK} (cn : CntA mr n) (h : tM K mg E (mCall0 fm mr) σ H Q) : tCall (spM0 K mg n fm) [] E0 (tA K mg E mr) σ H Q := by
  obtain ⟨pb, pg, H0, env, b, G, w, ev, q⟩ := h
  refine ⟨pb, pg, H0, env, b, G, w, ev, ?_⟩
  unfold mCall0 at q
  cases hm : mr env b with
  | stuck => rw [hm] at q; exact q
  | exc e b1 => rw [hm] at q; exact q
  | ok ds b1 =>
    rw [hm] at q
    simp only [R.bind_ok] at q
    intro vs G1 H1 s1 w1 r1
    refine ⟨pb, pg, G1, b1, ds, w1, by rw [List.append_nil]; exact r1, cn.len _ _ _ _ hm, ?_⟩
    cases hf : fm ds b1 with
    | ok d b2 => rw [hf] at q; exact PstG.of s1 q
    | exc e b2 => rw [hf] at q; exact q.elim
    | stuck => rw [hf] at q; exact q.elim
theorem readCall {K : PySem.W.Frag} {mg : Str → Option Value} {σ : L2.St} {H : Hp} {Q : VK} (cn : CntA mr n) (h : tM K mg E (mCall fm mr) σ H Q) : tCall (spM K mg n fm) [] E (tA K mg E mr) σ H Q := by
  obtain ⟨pb, pg, H0, env, b, G, w, ev, q⟩ := h
  refine ⟨pb, pg, H0, env, b, G, w, ev, ?_⟩
  unfold mCall at q
  cases hm : mr env b with
  | stuck => rw [hm] at q; exact q
  | exc e b1 => rw [hm] at q; exact q
  | ok ds b1 =>
    rw [hm] at q
    simp only [R.bind_ok] at q
    intro vs G1 H1 s1 w1 r1
    exact ⟨pb, pg, G1, b1, ds, w1, by rw [List.append_nil]; exact r1, cn.len _ _ _ _ hm, PstG.of s1 q⟩
theorem de_call0 {j : Nat} (F : F0 X.prog X.w X.K X.mg X.base x k n fm) (hr : Room j X.A) (hg : Gl X x) (ha : DA X E (e :: es) mr) (cn : CntA mr n) (hj : k ≤ j := by decide) (hdb : (x == ("__debug__" : Str)) = false := by decide)
    (he : starEach (e :: es) X.env = (false, eval e X.env) :: starEach es X.env := by rfl) (hpl : (backTo pos (starEach es X.env)).any (·.1) = false := by rfl) : DE X E (.Call (.Name x p) (e :: es) [] pos) (mCall0 fm mr) := by
  obtain ⟨f, fd, ps, hm, hk, hb, G⟩ := F.ex
  exact PE.imp (pe_call G (hr.mono hj) hg hm hk hb .nil pass0 ha hdb he hpl) fun _ _ _ h => readCall0 cn h
/-- a def that may raise: what it raises is wished as here -/
theorem de_call {j : Nat} (F : F1 X.prog X.w X.K X.mg X.base x k n fm) (hr : Room j X.A) (hg : Gl X x) (hx : Passes (L2.CX X.prog X.w) X E) (ha : DA X E (e :: es) mr) (cn : CntA mr n) (hj : k ≤ j := by decide) (hdb : (x == ("__debug__" : Str)) = false := by decide)
    (he : starEach (e :: es) X.env = (false, eval e X.env) :: starEach es X.env := by rfl) (hpl : (backTo pos (starEach es X.env)).any (·.1) = false := by rfl) : DE X E (.Call (.Name x p) (e :: es) [] pos) (mCall fm mr) := by
  obtain ⟨f, fd, ps, hm, hk, hb, G⟩ := F.ex
  exact PE.imp (pe_call G (hr.mono hj) hg hm hk hb .nil hx ha hdb he hpl) fun _ _ _ h => readCall cn h
end

theorem ev_start {c : MC} {b : Bag} {G H : Hp} (w : Wd c b G H) {ds : List D} {vs : List V} (r : Reps c G ds vs) (N : List Str) : EvOk c H G H (ds.map Sl.va ++ List.replicate (N.length - ds.length) .un) (L2.start N vs) := by
  have l := r.len
  have noOwn : ∀ (i : Nat) (s : Sl), (ds.map Sl.va ++ List.replicate (N.length - ds.length) Sl.un)[i]? = some s → s.own = false := by
    intro i s e
    have hm := List.mem_of_getElem? e
    rw [List.mem_append] at hm
    rcases hm with hm | hm
    · obtain ⟨d, _, rfl⟩ := List.mem_map.mp hm
      rfl
    · rw [(List.mem_replicate.mp hm).2]; rfl
  refine ⟨?_, fun i s e => ?_, fun i j si sj p ne e1 e2 o1 o2 => ?_, w.hbne, w.hgne⟩
  · unfold L2.start
    rw [List.length_append, List.length_append, List.length_map, List.length_map, List.length_replicate, List.length_replicate, l]
  · unfold L2.start
    by_cases hi : i < ds.length
    · rw [List.getElem?_append_left (by rw [List.length_map]; exact hi), List.getElem?_map] at e
      rw [List.getElem?_append_left (by rw [List.length_map, ← l]; exact hi), List.getElem?_map]
      cases hd : ds[i]? with
      | none => rw [hd] at e; cases e
      | some d =>
        rw [hd] at e
        cases e
        obtain ⟨v, hv, rv⟩ := r.get hd
        rw [hv]
        exact ⟨some v, rfl, v, rfl, rv⟩
    · rw [List.getElem?_append_right (by rw [List.length_map]; omega), List.length_map] at e
      rw [List.getElem?_append_right (by rw [List.length_map, ← l]; omega), List.length_map, ← l]
      rw [List.getElem?_replicate] at e ⊢
      split at e
      · rename_i h
        cases e
        rw [if_pos h]
        exact ⟨none, rfl, trivial⟩
      · cases e
  · rw [noOwn i si e1] at o1
    cases o1

section
variable {P : Program} {w : World} {K : PySem.W.Frag} {mg : Str → Option Value} {base : Heap} {x qual : Str} {st : Stmt} {f : Addr} {fd : FuncData} {N ps : List Str} {k : Nat} {ms : MS}
theorem fn_read0 {E : XK} {Q : VK} {vs : List V} {H : Hp} {n : Nat} (h : spM0 K mg n (fnM N.length ms) vs H Q E) : tS K mg E0 ms { nx := fun _ H' => Q .non H', rt := Q } (L2.start N vs) H := by
  obtain ⟨pb, pg, G, b, ds, w, r, hl, q⟩ := h
  refine ⟨pb, pg, G, H, _, b, G, Stp.refl _ _ _, w, ev_start w r N, ?_⟩
  unfold fnM at q
  cases hm : ms (ds.map Sl.va ++ List.replicate (N.length - ds.length) .un) b with
  | nx env b1 => rw [hm] at q; exact fun σ G' H' s w _ => q .non G' H' s w rfl
  | rt d b1 => rw [hm] at q; exact q
  | exc e b1 => rw [hm] at q; exact q.elim
  | bk env b1 => rw [hm] at q; exact q.elim
  | ct env b1 => rw [hm] at q; exact q.elim
  | stuck => rw [hm] at q; exact q.elim
theorem fn_read {E : XK} {Q : VK} {vs : List V} {H : Hp} {n : Nat} (h : spM K mg n (fnM N.length ms) vs H Q E) : tS K mg E ms { nx := fun _ H' => Q .non H', rt := Q } (L2.start N vs) H := by
  obtain ⟨pb, pg, G, b, ds, w, r, hl, q⟩ := h
  refine ⟨pb, pg, G, H, _, b, G, Stp.refl _ _ _, w, ev_start w r N, ?_⟩
  unfold fnM at q
  cases hm : ms (ds.map Sl.va ++ List.replicate (N.length - ds.length) .un) b with
  | nx env b1 => rw [hm] at q; exact fun σ G' H' s w _ => q .non G' H' s w rfl
  | rt d b1 => rw [hm] at q; exact q
  | exc e b1 => rw [hm] at q; exact q
  | bk env b1 => rw [hm] at q; exact q.elim
  | ct env b1 => rw [hm] at q; exact q.elim
  | stuck => rw [hm] at q; exact q.elim
/-- a def that raises nothing -/
theorem fn_ok0 (F : Fun K x qual st f fd) (S : FnScope N ps (defScope st)) (hm : mg x = some (.ref f)) (hb : Binds K fd ps [])
    (hbody : ∀ (cdv : Value) (A : Around) (outer : List Env) (s : Shared) (H : Hp) (E : XK), Room k (A.deeper (PyProof.Rows.envOfC qual (defScope st) s.heap.objs.size f cdv)) →
      DSs (cxOf CX0 P w K mg base N qual (defScope st) f cdv A outer s H E).nox E0 (defBody st) ms) : F0 P w K mg base x (k + 1) ps.length (fnM N.length ms) := by
  refine ⟨f, fd, ps, hm, F.kp, hb, F.ok S (fun vs H Q E h => ?_) fun cdv A outer s H vs Q E hr h => ⟨_, hbody cdv A outer s H E hr, fn_read0 h⟩⟩
  obtain ⟨pb, pg, G, b, ds, w, r, hl, q⟩ := h
  rw [← hl, r.len]
/-- a def that may raise -/
theorem fn_ok1 (F : Fun K x qual st f fd) (S : FnScope N ps (defScope st)) (hm : mg x = some (.ref f)) (hb : Binds K fd ps [])
    (hbody : ∀ (cdv : Value) (A : Around) (outer : List Env) (s : Shared) (H : Hp) (E : XK), Room k (A.deeper (PyProof.Rows.envOfC qual (defScope st) s.heap.objs.size f cdv)) →
      DSs (cxOf (L2.CX P w) P w K mg base N qual (defScope st) f cdv A outer s H E) E (defBody st) ms) : F1 P w K mg base x (k + 1) ps.length (fnM N.length ms) := by
  refine ⟨f, fd, ps, hm, F.kp, hb, F.okX S (fun vs H Q E h => ?_) fun cdv A outer s H vs Q E hr h => ⟨_, hbody cdv A outer s H E hr, fn_read h⟩⟩
  obtain ⟨pb, pg, G, b, ds, w, r, hl, q⟩ := h
  rw [← hl, r.len]
end
end Mr

set_option Elab.async false
set_option linter.all false
set_option maxRecDepth 100000
namespace Mr
open PySem PySem.Spec L2

section
variable {c : MC} {b : Bag} {G H G' H' G0 H0 : Hp} {env : Ev} {σ : L2.St}
/-- a slot's own list -/
theorem EvOk.ol (h : EvOk c H0 G H env σ) {i : Nat} {ds : List D} (e : env[i]? = some (.ol ds)) : ∃ p vs, σ[i]? = some (some (.ref p)) ∧ H p = some (.lst vs) ∧ G p = none ∧ H0 p = none ∧ Reps c G ds vs := by
  obtain ⟨v, ev, p, vs, rfl, q⟩ := h.at_ i _ e
  exact ⟨p, vs, ev, q⟩
theorem EvOk.putL (h : EvOk c H0 G H env σ) {i : Nat} {ds : List D} {p : Addr} {vs vs' : List V} {ds' : List D} (e : env[i]? = some (.ol ds)) (e2 : σ[i]? = some (some (.ref p))) (gp : G p = none) (h0 : H0 p = none) (r : Reps c G ds' vs') :
    EvOk c H0 G (upd H p (.lst vs')) (env.set i (.ol ds')) σ := h.put e rfl e2 h0 (s := .ol ds') ⟨p, vs', rfl, upd_same, gp, h0, r⟩ rfl
end

/-- a statement that changes a slot's own list by what it is handed -/
def sMeth (i : Nat) (ma : MA) (g : List D → List D → Option (List D)) : MS := fun env b => match env[i]? with
  | some (.ol ds) => (ma env b).so fun as b => match g ds as with
    | some ds' => .nx (env.set i (.ol ds')) b
    | none => .stuck
  | _ => .stuck
def appG (ds as : List D) : Option (List D) := match as with
  | [d] => if ds.length < 100000 then some (ds ++ [d]) else none
  | _ => none
def insG (ds as : List D) : Option (List D) := match as with
  | [.int i, d] => if ds.length < 100000 ∧ 0 ≤ i ∧ i < 1000000 then some (ds.take i.toNat ++ [d] ++ ds.drop i.toNat) else none
  | _ => none
def extG (ds as : List D) : Option (List D) := match as with
  | [.lst es] => if ds.length + es.length ≤ 100000 then some (ds ++ es) else none
  | _ => none
/-- a position that is popped -/
def popAt (n : Nat) (i : Int) : Option Nat := ixN n i
def sz_lt {n : Nat} (h : n < 100000) : n < sizeLine := Nat.lt_of_lt_of_le h (by decide)
section
variable {X : Cx} {E : XK} {e tg it elt a a2 : Expr} {es : List Expr} {st : Stmt} {sts body : List Stmt} {ma mb me : ME} {mr : MA} {mi : MI} {mt : MT} {ms mu : MS} {g : MG} {gs : MGs} {pos p p2 : Pos}
theorem one_read {K : PySem.W.Frag} {mg : Str → Option Value} {σ : L2.St} {H : Hp} {Q : List V → Hp → Prop} {m : ME} (h : tM K mg E m σ H fun v H' => Q [v] H') : tCons (tM K mg E m) tNil σ H Q := h
theorem readMeth {K : PySem.W.Frag} {mg : Str → Option Value} {Dn : Ends} {σ : L2.St} {H : Hp} {i : Nat} {gg : List D → List D → Option (List D)} {r : V → List V → Hp → VK → Prop} (h : tS K mg E (sMeth i mr gg) Dn σ H)
    (hr : ∀ (c : MC) (G H : Hp) (p : Addr) (vs : List V) (ds as ds' : List D) (ws : List V) (Q : VK), H p = some (.lst vs) → Reps c G ds vs → Reps c G as ws → (∀ a xs, G a = some (.lst xs) → Rd H a (.lst xs)) → gg ds as = some ds' → (∀ vs', Reps c G ds' vs' → Q .non (upd H p (.lst vs'))) → r (.ref p) ws H Q) :
    tDrop (tBM K "list" r (tVar i) (tA K mg E mr)) Dn σ H := by
  obtain ⟨pb, pg, G0, H0, env, b, G, st, w, ev, q⟩ := h
  unfold sMeth at q
  split at q
  · rename_i ds he
    obtain ⟨p, vs, e2, hp, gp, h0, rr⟩ := ev.ol he
    refine ⟨.ref p, e2, .inl ⟨rfl, vs, .inl (.inl hp)⟩, pb, pg, H0, env, b, G, w, ev, PstS.bind st q fun a1 b1 v1 G1 H1 s1 w1 p1 q1 => ?_⟩
    have ev1 := ev.step s1
    obtain ⟨p', vs', e2', hp', gp', h0', rr'⟩ := ev1.ol he
    rw [e2] at e2'
    cases e2'
    cases hg : gg ds a1 with
    | none => rw [hg] at q1; exact q1.elim
    | some ds' =>
      rw [hg] at q1
      refine hr _ G1 H1 p vs' ds a1 ds' v1 _ hp' rr' p1 (fun a xs e => w1.rd e) hg fun vs2 r2 => ?_
      exact q1 σ G1 _ ((st.trans s1).put h0') (w1.put gp' (ne_h0 ev1.bb h0') (ne_h0 ev1.bg h0')) (ev1.putL (vs := vs') he e2 gp' h0' r2)
  · exact q.elim
theorem mt_extendR : MtR X "list.extend" (fun x vs H Q => ∃ l b xs zs, x = .ref l ∧ vs = [.ref b] ∧ H l = some (.lst xs) ∧ Rd H b (.lst zs) ∧ xs.length + zs.length ≤ sizeLine ∧ Q .non (upd H l (.lst (xs ++ zs)))) := by
  intro pins s σ H x vs v us Q I rx rv h
  obtain ⟨l, b, xs, zs, rfl, rfl, hH, hB, hz, q⟩ := h
  cases rx
  obtain ⟨u, rfl, ru⟩ := rv.one
  cases ru
  obtain ⟨z, its, n, r, hl, e⟩ := I.lstM hH
  obtain ⟨z2, its2, n2, r2, hl2, e2⟩ := inv_lstR I hB
  have hsz : its.toArray.size + its2.toArray.size ≤ sizeLine := by rw [List.size_toArray, List.size_toArray]; omega
  have hlong : ¬ (!its.toArray.isEmpty && Builtin.List.listTooLong (its.toArray.size + its2.toArray.size)) = true := by
    rw [notLongL hsz, Bool.and_false]
    exact Bool.false_ne_true
  refine call_meets F.slot_list_extend ⟨_, e, rfl⟩ F.entry_list_extend (F.args_list_extend_2 _ _)
    (AutoSeq1.list_extend_list_list_0 l its.toArray n b its2.toArray n2 hlong (by rw [List.size_toArray]; omega) (by omega)) ⟨e, e2, ?_⟩
  refine ⟨.non, _, I.lset (its' := its ++ its2) (t' := s.toks) hH e (by simp) (r.append r2) ?_, rfl, q⟩
  rw [List.length_append]
  omega
/-- x.append(e) -/
theorem ds_app (i : Nat) {x : Str} {apos cpos : Pos} (h : DA X E [e] mr) (hN : X.N[i]? = some x := by rfl) (hv : Vis X.env.scope x := by first | exact Or.inl rfl | exact Or.inr (Or.inl rfl) | exact Or.inr (Or.inr rfl)) (hd : (x == ("__debug__" : Str)) = false := by decide)
    (hcd : (x == ("__classdict__" : Str)) = false := by decide) (h1 : attributeBase (.Name x p) "append" X.env (eval (.Name x p) X.env) = eval (.Name x p) X.env := by rfl) (hf : ((backTo cpos (starEach ([e]) X.env)).all (fun x => !x.1) && (backToKw cpos (keywordEach [] X.env)).all (fun x => x.1.isSome) && decide (([e]).length + ([] : List Keyword).length + (if ([] : List Keyword).isEmpty then 0 else 1) < 30)) = true := by rfl) (h2 : (apos.endLine == cpos.line) = true := by rfl) (he : starEach [e] X.env = (false, eval e X.env) :: starEach [] X.env := by rfl) (hpl : (backTo cpos (starEach ([] : List Expr) X.env)).any (·.1) = false := by rfl)
    (hs : swapsWith (.Call (.Attribute (.Name x p) "append" apos) [e] [] cpos) none pos.line X.env = pure false := by rfl) : DS X E (.Expr (.Call (.Attribute (.Name x p) "append" apos) [e] [] cpos) pos) (sMeth i mr appG) :=
  PS.imp (ps_expr (pe_bm PySem.F.plainAttrs_list PySem.F.slot_list_append PySem.F.type_list_append mt_append (pe_var hN hv hd hcd) h h1 hf h2 he hpl) hs) fun _ _ _ hh => readMeth hh fun c G H p vs ds as ds' ws Q hp r1 r2 _ hg q => by
    unfold appG at hg
    split at hg
    · rename_i d
      obtain ⟨hz, rfl⟩ := ite_some hg
      obtain ⟨v, ws', rfl, rd, rn⟩ := r2
      cases (show ws' = [] from rn)
      exact ⟨p, vs, v, rfl, rfl, hp, sz_lt (by rw [← r1.len]; exact hz), q _ (r1.append (.one rd))⟩
    · cases hg
theorem ds_ins (i : Nat) {x : Str} {apos cpos : Pos} (h : DA X E [e, a2] mr) (hN : X.N[i]? = some x := by rfl) (hv : Vis X.env.scope x := by first | exact Or.inl rfl | exact Or.inr (Or.inl rfl) | exact Or.inr (Or.inr rfl)) (hd : (x == ("__debug__" : Str)) = false := by decide)
    (hcd : (x == ("__classdict__" : Str)) = false := by decide) (h1 : attributeBase (.Name x p) "insert" X.env (eval (.Name x p) X.env) = eval (.Name x p) X.env := by rfl) (hf : ((backTo cpos (starEach ([e, a2]) X.env)).all (fun x => !x.1) && (backToKw cpos (keywordEach [] X.env)).all (fun x => x.1.isSome) && decide (([e, a2]).length + ([] : List Keyword).length + (if ([] : List Keyword).isEmpty then 0 else 1) < 30)) = true := by rfl) (h2 : (apos.endLine == cpos.line) = true := by rfl) (he : starEach [e, a2] X.env = (false, eval e X.env) :: starEach [a2] X.env := by rfl) (hpl : (backTo cpos (starEach [a2] X.env)).any (·.1) = false := by rfl)
    (hs : swapsWith (.Call (.Attribute (.Name x p) "insert" apos) [e, a2] [] cpos) none pos.line X.env = pure false := by rfl) : DS X E (.Expr (.Call (.Attribute (.Name x p) "insert" apos) [e, a2] [] cpos) pos) (sMeth i mr insG) :=
  PS.imp (ps_expr (pe_bm PySem.F.plainAttrs_list PySem.F.slot_list_insert PySem.F.type_list_insert mt_insert (pe_var hN hv hd hcd) h h1 hf h2 he hpl) hs) fun _ _ _ hh => readMeth hh fun c G H p vs ds as ds' ws Q hp r1 r2 _ hg q => by
    unfold insG at hg
    split at hg
    · rename_i k d
      obtain ⟨hz, rfl⟩ := ite_some hg
      obtain ⟨v, ws', rfl, rd, v2, ws2, rfl, rd2, rn⟩ := r2
      cases (show ws2 = [] from rn)
      cases (show v = .int k from rd)
      exact ⟨p, vs, k, v2, rfl, rfl, hp, sz_lt (by rw [← r1.len]; exact hz.1), hz.2.1, by omega, q _ (((r1.take _).append (.one rd2)).append (r1.drop _))⟩
    · cases hg
theorem ds_ext (i : Nat) {x : Str} {apos cpos : Pos} (h : DA X E [e] mr) (hN : X.N[i]? = some x := by rfl) (hv : Vis X.env.scope x := by first | exact Or.inl rfl | exact Or.inr (Or.inl rfl) | exact Or.inr (Or.inr rfl)) (hd : (x == ("__debug__" : Str)) = false := by decide)
    (hcd : (x == ("__classdict__" : Str)) = false := by decide) (h1 : attributeBase (.Name x p) "extend" X.env (eval (.Name x p) X.env) = eval (.Name x p) X.env := by rfl) (hf : ((backTo cpos (starEach ([e]) X.env)).all (fun x => !x.1) && (backToKw cpos (keywordEach [] X.env)).all (fun x => x.1.isSome) && decide (([e]).length + ([] : List Keyword).length + (if ([] : List Keyword).isEmpty then 0 else 1) < 30)) = true := by rfl) (h2 : (apos.endLine == cpos.line) = true := by rfl) (he : starEach [e] X.env = (false, eval e X.env) :: starEach [] X.env := by rfl) (hpl : (backTo cpos (starEach ([] : List Expr) X.env)).any (·.1) = false := by rfl)
    (hs : swapsWith (.Call (.Attribute (.Name x p) "extend" apos) [e] [] cpos) none pos.line X.env = pure false := by rfl) : DS X E (.Expr (.Call (.Attribute (.Name x p) "extend" apos) [e] [] cpos) pos) (sMeth i mr extG) :=
  PS.imp (ps_expr (pe_bm PySem.F.plainAttrs_list PySem.F.slot_list_extend PySem.F.type_list_extend mt_extendR (pe_var hN hv hd hcd) h h1 hf h2 he hpl) hs) fun _ _ _ hh => readMeth hh fun c G H p vs ds as ds' ws Q hp r1 r2 hw hg q => by
    unfold extG at hg
    split at hg
    · rename_i es
      obtain ⟨hz, rfl⟩ := ite_some hg
      obtain ⟨v, ws', rfl, ⟨p3, vs3, rfl, hp3, r3⟩, rn⟩ := r2
      cases (show ws' = [] from rn)
      exact ⟨p, p3, vs, vs3, rfl, rfl, hp, hw _ _ hp3, sz_of (by rw [← r1.len, ← r3.len]; exact hz), q _ (r1.append r3)⟩
    · cases hg

/-! ### several names at once -/
abbrev MSl := Ev → Bag → R (List Sl)
def slNil : MSl := fun _ b => .ok [] b
def slM (m : ME) (r : MSl) : MSl := fun env b => (m env b).bind fun d b => (r env b).bind fun ss b => .ok (.va d :: ss) b
def slF (m : ME) (r : MSl) : MSl := fun env b => (m env b).bind fun d b => match ownS d with
  | some s => (r env b).bind fun ss b => .ok (s :: ss) b
  | none => .stuck
end
/-- new slots: their objects are new, one of each -/
def SlsNew (c : MC) (H1 G H : Hp) : List Sl → List V → Prop
  | [], vs => vs = []
  | s :: ss, vs => ∃ v ws, vs = v :: ws ∧ SlOk c H1 G H s (some v) ∧ SlsNew c H1 G H ss ws ∧ (s.own = true → ∀ (j : Nat) (sj : Sl), ss[j]? = some sj → sj.own = true → ws[j]? ≠ some v)
def tSl (K : PySem.W.Frag) (mg : Str → Option Value) (E : XK) (m : MSl) : TA := fun σ H Q => ∃ pb pg H0 env b G, Wd (cx K mg pb pg) b G H ∧ EvOk (cx K mg pb pg) H0 G H env σ ∧ PstG (cx K mg pb pg) E G H (SlsNew (cx K mg pb pg) H) Q (m env b)
abbrev DSl (X : Cx) (E : XK) (es : List Expr) (m : MSl) : Prop := PA X es (tSl X.K X.mg E m)
/-- own slots, seen from an earlier heap -/
theorem SlOk.weak {c : MC} {H H1 G2 H2 : Hp} (k : ∀ a, H a ≠ none → H1 a ≠ none) {s : Sl} {v : Option V} (h : SlOk c H1 G2 H2 s v) : SlOk c H G2 H2 s v := by
  have kk : ∀ p, H1 p = none → H p = none := fun p e => Classical.byContradiction fun z => k p z e
  cases s with
  | un => trivial
  | va d => exact h
  | ol ds => obtain ⟨p, vs, e, hp, gp, h0, r⟩ := h; exact ⟨p, vs, e, hp, gp, kk p h0, r⟩
  | oK ks ds => obtain ⟨p, vs, e, hp, l, gp, h0, r⟩ := h; exact ⟨p, vs, e, hp, l, gp, kk p h0, r⟩
  | oT ks ds => obtain ⟨p, vs, e, hp, l, gp, h0, r⟩ := h; exact ⟨p, vs, e, hp, l, gp, kk p h0, r⟩
theorem SlsNew.weak {c : MC} {H H1 G2 H2 : Hp} (k : ∀ a, H a ≠ none → H1 a ≠ none) : ∀ {ss : List Sl} {vs : List V}, SlsNew c H1 G2 H2 ss vs → SlsNew c H G2 H2 ss vs
  | [], _, h => h
  | _ :: _, _, ⟨v, ws, e, h1, h2, h3⟩ => ⟨v, ws, e, h1.weak k, SlsNew.weak k h2, h3⟩
/-- an own new slot has an object that was not there -/
theorem SlsNew.fresh {c : MC} {H1 G2 H2 : Hp} : ∀ {ss : List Sl} {vs : List V} {j : Nat} {sj : Sl} {p : Addr}, SlsNew c H1 G2 H2 ss vs → ss[j]? = some sj → sj.own = true → vs[j]? = some (.ref p) → H1 p = none
  | [], _, _, _, _, _, e, _, _ => by simp at e
  | s :: ss, _, 0, sj, p, ⟨v, ws, rfl, h1, h2, h3⟩, e, o, ev => by
    have e1 : s = sj := by simpa using e
    have e2 : v = .ref p := by simpa using ev
    subst e1 e2
    obtain ⟨p', u, e', _, _, _, h0, _⟩ := own_ref h1 o
    cases e'
    exact h0
  | s :: ss, _, j + 1, sj, p, ⟨v, ws, rfl, h1, h2, h3⟩, e, o, ev => SlsNew.fresh h2 (j := j) (by simpa using e) o (by simpa using ev)
section
variable {X : Cx} {E : XK} {e : Expr} {es : List Expr} {ma : ME} {mr : MSl} {pos : Pos}
theorem dsl_nil : DSl X E [] slNil := PA.imp pa_nil fun σ H Q ⟨pb, pg, H0, env, b, G, w, ev, q⟩ => q [] G H (Stp.refl _ _ _) w rfl
theorem dsl_m (ha : DE X E e ma) (hr : DSl X E es mr) (hs : starEach (e :: es) X.env = (false, eval e X.env) :: starEach es X.env := by rfl) : DSl X E (e :: es) (slM ma mr) :=
  PA.imp (pa_cons ha hr hs) fun σ H Q ⟨pb, pg, H0, env, b, G, w, ev, q⟩ => ⟨pb, pg, H0, env, b, G, w, ev, PstG.bind q fun a1 b1 v1 G1 H1 s1 w1 p1 q1 =>
    ⟨pb, pg, H0, env, b1, G1, w1, ev.step s1, by
      cases hm : mr env b1 with
      | stuck => rw [hm] at q1; exact q1
      | exc e b2 => rw [hm] at q1; exact q1
      | ok a2 b2 =>
        rw [hm] at q1
        intro v2 G2 H2 s2 w2 p2
        exact q1 (v1 :: v2) G2 H2 s2 w2 ⟨v1, v2, rfl, ⟨v1, rfl, Rep.mono s2.g _ _ p1⟩, p2.weak s1.dm, fun z => nomatch z⟩⟩⟩
theorem dsl_f (ha : DF X E e ma) (hr : DSl X E es mr) (hs : starEach (e :: es) X.env = (false, eval e X.env) :: starEach es X.env := by rfl) : DSl X E (e :: es) (slF ma mr) :=
  PA.imp (pa_cons ha hr hs) fun σ H Q ⟨pb, pg, H0, env, b, G, w, ev, q⟩ => ⟨pb, pg, H0, env, b, G, w, ev, PstG.bind q fun a1 b1 v1 G1 H1 s1 w1 p1 q1 =>
    ⟨pb, pg, H0, env, b1, G1, w1, ev.step s1, by
      cases ho : ownS a1 with
      | none => rw [ho] at q1; exact q1.elim
      | some so =>
        rw [ho] at q1
        dsimp only at q1
        have key : ∀ (b2 : Bag) (G2 H2 : Hp), Stp (cx X.K X.mg pb pg) G1 H1 G2 H2 → Wd (cx X.K X.mg pb pg) b2 G2 H2 → SlOk (cx X.K X.mg pb pg) H G2 H2 so (some v1) ∧ so.own = true ∧ ∃ p, v1 = .ref p ∧ H1 p ≠ none := by
          intro b2 G2 H2 s2 w2
          have nbg : ∀ {p : Addr}, H p = none → p ≠ pb ∧ p ≠ pg := fun {p} hn => ⟨fun z => by rw [z] at hn; exact w.hbne hn, fun z => by rw [z] at hn; exact w.hgne hn⟩
          cases a1 <;> first | (cases ho; done) | skip
          · cases ho
            obtain ⟨p, vs, rfl, hp, gp, hn, r⟩ := p1
            exact ⟨⟨p, vs, rfl, s2.h _ _ (nbg hn).1 (nbg hn).2 hp, s2.fr p (by rw [hp]; exact fun z => nomatch z) gp, hn, r.mono s2.g⟩, rfl, p, rfl, by rw [hp]; exact fun z => nomatch z⟩
          · cases ho
            obtain ⟨p, vs, rfl, hp, l, gp, hn, r⟩ := p1
            exact ⟨⟨p, vs, rfl, s2.h _ _ (nbg hn).1 (nbg hn).2 hp, l, s2.fr p (by rw [hp]; exact fun z => nomatch z) gp, hn, r.mono s2.g⟩, rfl, p, rfl, by rw [hp]; exact fun z => nomatch z⟩
          · cases ho
            obtain ⟨p, vs, rfl, hp, l, gp, hn, r⟩ := p1
            exact ⟨⟨p, vs, rfl, s2.h _ _ (nbg hn).1 (nbg hn).2 hp, l, s2.fr p (by rw [hp]; exact fun z => nomatch z) gp, hn, r.mono s2.g⟩, rfl, p, rfl, by rw [hp]; exact fun z => nomatch z⟩
        cases hm : mr env b1 with
        | stuck => rw [hm] at q1; exact q1
        | exc e b2 => rw [hm] at q1; exact q1
        | ok a2 b2 =>
          rw [hm] at q1
          intro v2 G2 H2 s2 w2 p2
          obtain ⟨k1, k2, p, rfl, k3⟩ := key b2 G2 H2 s2 w2
          exact q1 (_ :: v2) G2 H2 s2 w2 ⟨_, v2, rfl, k1, p2.weak s1.dm, fun _ j sj ej oj z => k3 (p2.fresh ej oj z)⟩⟩⟩
def setAll (env : Ev) : List Nat → List Sl → Option Ev
  | [], [] => some env
  | i :: is, s :: ss => setAll (env.set i s) is ss
  | _, _ => none
def sPar (is : List Nat) (m : MSl) : MS := fun env b => (m env b).so fun ss b => match setAll env is ss with
  | some env => .nx env b
  | none => .stuck
def gNs : List Nat → TGs
  | [] => gNil
  | i :: is => gCons (gName i) (gNs is)
theorem set_all {c : MC} {H0 H G2 H2 : Hp} : ∀ {is : List Nat} {ss : List Sl} {vs : List V} {env env' : Ev} {σ : L2.St} (h : EvOk c H0 G2 H2 env σ) (hf : ∀ (j : Nat) (sj : Sl) (p : Addr), env[j]? = some sj → sj.own = true → σ[j]? = some (some (.ref p)) → ∀ (m : Nat) (sm : Sl), ss[m]? = some sm → sm.own = true → vs[m]? ≠ some (.ref p))
    (sl : SlsNew c H G2 H2 ss vs) (k : ∀ a, H0 a ≠ none → H a ≠ none) (e : setAll env is ss = some env') {Q : L2.St → Hp → Prop} (q : ∀ σ', EvOk c H0 G2 H2 env' σ' → Q σ' H2), gNs is vs σ H2 Q
  | [], [], vs, env, env', σ, h, hf, sl, k, e, Q, q => by
    cases e
    cases (show vs = [] from sl)
    exact ⟨rfl, q σ h⟩
  | i :: is, s :: ss, vs, env, env', σ, h, hf, sl, k, e, Q, q => by
    obtain ⟨v, ws, rfl, h1, h2, h3⟩ := sl
    refine ⟨v, ws, rfl, ?_⟩
    have hv : EvOk c H0 G2 H2 (env.set i s) (σ.set i (some v)) := by
      cases ho : s.own with
      | false =>
        cases s with
        | va d =>
          obtain ⟨x, e1, r⟩ := h1
          cases e1
          exact h.set_va r i
        | un =>
          have := h.set_va (d := .non) (v := .non) rfl i
          refine ⟨by rw [List.length_set, List.length_set]; exact h.len, fun j s' e => ?_, fun j m sj sm p ne e1 e2 o1 o2 p1 => ?_, h.bb, h.bg⟩
          · rw [List.getElem?_set] at e ⊢
            by_cases hij : i = j
            · subst hij
              rw [if_pos rfl] at e ⊢
              rw [← h.len]
              split at e
              · rename_i hl
                cases e
                rw [if_pos hl]
                exact ⟨_, rfl, trivial⟩
              · cases e
            · rw [if_neg hij] at e ⊢
              exact h.at_ j s' e
          · rw [List.getElem?_set] at e1 e2 p1 ⊢
            by_cases hj : i = j
            · subst hj
              rw [if_pos rfl] at e1
              split at e1
              · cases e1; cases o1
              · cases e1
            · by_cases hk : i = m
              · subst hk
                rw [if_pos rfl] at e2
                split at e2
                · cases e2; cases o2
                · cases e2
              · rw [if_neg hj] at e1 p1
                rw [if_neg hk] at e2 ⊢
                exact h.dis j m sj sm p ne e1 e2 o1 o2 p1
        | ol _ => cases ho
        | oK _ _ => cases ho
        | oT _ _ => cases ho
      | true =>
        have h1' := h1.weak k
        obtain ⟨p, u, e1, _⟩ := own_ref h1' ho
        cases e1
        exact h.set_own h1' (fun j sj ej oj z => hf j sj p ej oj z 0 s rfl ho rfl) i
    refine set_all hv (fun j sj p ej oj ep m sm em om z => ?_) h2 k e q
    rw [List.getElem?_set] at ej ep
    by_cases hij : i = j
    · subst hij
      rw [if_pos rfl] at ej ep
      split at ej
      · cases ej
        split at ep
        · cases ep
          exact h3 oj m sm em om z
        · cases ep
      · cases ej
    · rw [if_neg hij] at ej ep
      exact hf j sj p ej oj ep (m + 1) sm em om z
  | [], _ :: _, _, _, _, _, _, _, _, _, e, _, _ => by cases e
  | _ :: _, [], _, _, _, _, _, _, _, _, e, _, _ => by cases e
theorem sls_len {c : MC} {H1 G H : Hp} : ∀ {ss : List Sl} {vs : List V}, SlsNew c H1 G H ss vs → vs.length = ss.length
  | [], _, h => by cases (show _ = [] from h); rfl
  | _ :: _, _, ⟨v, ws, rfl, _, h2, _⟩ => by rw [List.length_cons, List.length_cons, sls_len h2]
theorem setAll_len : ∀ {is : List Nat} {ss : List Sl} {env env' : Ev}, setAll env is ss = some env' → ss.length = is.length
  | [], [], _, _, _ => rfl
  | i :: is, s :: ss, _, _, e => by rw [List.length_cons, List.length_cons, setAll_len (show setAll _ is ss = some _ from e)]
  | [], _ :: _, _, _, e => by cases e
  | _ :: _, [], _, _, e => by cases e
theorem par_fresh {c : MC} {b : Bag} {H0 G H G1 H1 : Hp} {env : Ev} {σ : L2.St} {ss : List Sl} {vs : List V} (ev : EvOk c H0 G H env σ) (p1 : SlsNew c H G1 H1 ss vs) : ∀ (j : Nat) (sj : Sl) (p : Addr), env[j]? = some sj → sj.own = true → σ[j]? = some (some (.ref p)) → ∀ (m : Nat) (sm : Sl), ss[m]? = some sm → sm.own = true → vs[m]? ≠ some (.ref p) := fun j sj p ej oj ep m sm em om z => by
  obtain ⟨v, ev', sl⟩ := ev.at_ j sj ej
  obtain ⟨p', u, rfl, hp', _⟩ := own_ref sl oj
  rw [ep] at ev'
  cases ev'
  rw [p1.fresh em om z] at hp'
  cases hp'
/-- x, y, .. = e1, e2, ..: through a tuple -/
theorem ds_parT (is : List Nat) {ts : List Expr} {kt k2 : Nat} {tp ep : Pos} (h : DSl X E es mr) (hc : X.calm = true) (hg : PGs X ts (gNs is)) (hn : (assignEach ts X.env).length = is.length := by rfl) (hst : (assignEach ts X.env).findIdx? (·.1) = none := by rfl) (hz : is.length ≤ 1000 := by decide)
    (hs : swapsWithSole [.Tuple ts kt tp] (.Tuple es k2 ep) pos.line X.env = pure false := by rfl) (hw : swappedStores [.Tuple ts kt tp] (.Tuple es k2 ep) X.env = pure none := by rfl)
    (h1 : (assignEach [.Tuple ts kt tp] X.env).map (·.2) = [assign (.Tuple ts kt tp) X.env] := by rfl) : DS X E (.Assign [.Tuple ts kt tp] (.Tuple es k2 ep) pos) (sPar is mr) :=
  PS.imp (ps_asg (pe_tup h) (pg_tup hc hg hn hst) hs hw h1) fun D σ H ⟨pb, pg, G0, H0, env, b, G, st, w, ev, q⟩ => ⟨pb, pg, H0, env, b, G, w, ev, PstS.bind st q fun a1 b1 v1 G1 H1 s1 w1 p1 q1 => by
    cases hsa : setAll env is a1 with
    | none => rw [hsa] at q1; exact q1.elim
    | some env' =>
      rw [hsa] at q1
      have hl : v1.length = is.length := by rw [sls_len p1, setAll_len hsa]
      refine ⟨Nat.le_trans (by omega) (by decide : 1000 ≤ sizeLine), fun p hp => ?_⟩
      obtain ⟨s2, w2, g2⟩ := Stp.newO (o := .tup v1) w1 hp
      have sl2 : SlsNew (cx X.K X.mg pb pg) H G1 (upd H1 p (.tup v1)) a1 v1 := by
        have gen : ∀ {ss : List Sl} {vs : List V}, SlsNew (cx X.K X.mg pb pg) H G1 H1 ss vs → SlsNew (cx X.K X.mg pb pg) H G1 (upd H1 p (.tup v1)) ss vs := by
          intro ss
          induction ss with
          | nil => intro vs h; exact h
          | cons s ss ih =>
            intro vs h
            obtain ⟨v, ws, rfl, h1, h2, h3⟩ := h
            refine ⟨v, ws, rfl, ?_, ih h2, h3⟩
            have ne : ∀ {q : Addr} {u : HO}, H1 q = some u → upd H1 p (.tup v1) q = some u := fun {q u} hq => by rw [upd_ne (ne_of_none hq hp)]; exact hq
            cases s with
            | un => trivial
            | va d => exact h1
            | ol ds => obtain ⟨q, vs, e, hq, gq, h0, r⟩ := h1; exact ⟨q, vs, e, ne hq, gq, h0, r⟩
            | oK ks ds => obtain ⟨q, vs, e, hq, l, gq, h0, r⟩ := h1; exact ⟨q, vs, e, ne hq, l, gq, h0, r⟩
            | oT ks ds => obtain ⟨q, vs, e, hq, l, gq, h0, r⟩ := h1; exact ⟨q, vs, e, ne hq, l, gq, h0, r⟩
        exact gen p1
      exact ⟨p, v1, rfl, .inl (.inl upd_same), hl, set_all ((ev.step s1).step s2) (par_fresh (b := b) ev p1) sl2 st.dm hsa fun σ' ev' => q1 σ' G1 _ ((st.trans s1).trans s2) w2 ev'⟩⟩
theorem ds_par2 {i j : Nat} {x y : Str} {a a2 : Expr} {px py pt : Pos} {kt k2 pt2} (hc : X.calm = true) (hN : X.N.Nodup) (h : DSl X E [a, a2] mr) (hi : X.N[i]? = some x := by rfl) (hj : X.N[j]? = some y := by rfl) (hij : i ≠ j := by decide)
    (hx : X.env.scope.names.lookup x = some .local := by rfl) (hy : X.env.scope.names.lookup y = some .local := by rfl)
    (hw : swappedStores [.Tuple [.Name x px, .Name y py] kt pt] (.Tuple [a, a2] k2 pt2) X.env = pure (some [x, y]) := by rfl)
    (hs : swapsWithSole [.Tuple [.Name x px, .Name y py] kt pt] (.Tuple [a, a2] k2 pt2) pos.line X.env = pure false := by rfl) :
    DS X E (.Assign [.Tuple [.Name x px, .Name y py] kt pt] (.Tuple [a, a2] k2 pt2) pos) (sPar [i, j] mr) :=
  PS.imp (ps_par hc hN hi hj hij hx hy h hw hs) fun D σ H ⟨pb, pg, G0, H0, env, b, G, st, w, ev, q⟩ => ⟨pb, pg, H0, env, b, G, w, ev, PstS.bind st q fun a1 b1 v1 G1 H1 s1 w1 p1 q1 => by
    cases hsa : setAll env [i, j] a1 with
    | none => rw [hsa] at q1; exact q1.elim
    | some env' =>
      rw [hsa] at q1
      have z := set_all (Q := fun σ' H' => D.nx σ' H') (ev.step s1) (par_fresh (b := b) ev p1) p1 st.dm hsa fun σ' ev' => q1 σ' G1 _ (st.trans s1) w1 ev'
      obtain ⟨u, r, rfl, u2, r2, rfl, rfl, z⟩ := z
      exact ⟨u, u2, rfl, z⟩⟩
theorem ds_par3 {i j l : Nat} {x y z : Str} {a a2 a3 : Expr} {px py pz pt : Pos} {kt k2 pt2} (hc : X.calm = true) (hN : X.N.Nodup) (h : DSl X E [a, a2, a3] mr) (hi : X.N[i]? = some x := by rfl) (hj : X.N[j]? = some y := by rfl) (hl : X.N[l]? = some z := by rfl) (hij : i ≠ j := by decide) (hil : i ≠ l := by decide) (hjl : j ≠ l := by decide)
    (hx : X.env.scope.names.lookup x = some .local := by rfl) (hy : X.env.scope.names.lookup y = some .local := by rfl) (hz : X.env.scope.names.lookup z = some .local := by rfl)
    (hw : swappedStores [.Tuple [.Name x px, .Name y py, .Name z pz] kt pt] (.Tuple [a, a2, a3] k2 pt2) X.env = pure (some [x, y, z]) := by rfl)
    (hs : swapsWithSole [.Tuple [.Name x px, .Name y py, .Name z pz] kt pt] (.Tuple [a, a2, a3] k2 pt2) pos.line X.env = pure false := by rfl) :
    DS X E (.Assign [.Tuple [.Name x px, .Name y py, .Name z pz] kt pt] (.Tuple [a, a2, a3] k2 pt2) pos) (sPar [i, j, l] mr) :=
  PS.imp (ps_par3 hc hN hi hj hl hij hil hjl hx hy hz h hw hs) fun D σ H ⟨pb, pg, G0, H0, env, b, G, st, w, ev, q⟩ => ⟨pb, pg, H0, env, b, G, w, ev, PstS.bind st q fun a1 b1 v1 G1 H1 s1 w1 p1 q1 => by
    cases hsa : setAll env [i, j, l] a1 with
    | none => rw [hsa] at q1; exact q1.elim
    | some env' =>
      rw [hsa] at q1
      have z := set_all (Q := fun σ' H' => D.nx σ' H') (ev.step s1) (par_fresh (b := b) ev p1) p1 st.dm hsa fun σ' ev' => q1 σ' G1 _ (st.trans s1) w1 ev'
      obtain ⟨u, r, rfl, u2, r2, rfl, u3, r3, rfl, rfl, z⟩ := z
      exact ⟨u, u2, u3, rfl, z⟩⟩
end
end Mr

set_option Elab.async false
set_option linter.all false
set_option maxRecDepth 100000
namespace PySem
open Builtin.Slice L2
section
variable {prog : Program} {w : World} {A : Around} {E : Value → Shared → Prop} {s : Shared}
theorem adjust_rev (n : Nat) : sliceAdjust none none (-1) (n : Int) = ((n : Int) - 1, -1) := by
  unfold sliceAdjust
  simp
theorem places_rev (n : Nat) : slicePlaces ((n : Int) - 1) (-1) (-1) = n := by
  unfold slicePlaces
  have h1 : ¬ ((-1 : Int) > 0) := by omega
  have h2 : (-(-1) : Int) = 1 := rfl
  simp only [h1, if_false, h2, Int.ediv_one]
  split <;> omega
theorem sliceApplied_rev {sl : Addr} {vs : Value} {n : Nat} {Q : Int × Int × Nat → Shared → Prop} (hs : s.heap.IsSliceOf sl .none .none vs) (ps : IsPart vs (some (-1)))
    (h : Q ((n : Int) - 1, -1, n) s) : wpAny (model prog w) A (sliceApplied (.ref sl) (pure (n : Int))) Q E s := by
  obtain ⟨os, hos, hcs, hds⟩ := id hs
  unfold sliceApplied sliceFields
  refine wpAny_bind (wpAny_bind (wpAny_field hos hds (x := .none) rfl (wpAny_bind (wpAny_field hos hds (x := .none) rfl (wpAny_bind (wpAny_field hos hds (x := vs) rfl (wpAny_pure ?_)))))))
  refine wpAny_bind (HT.slicePart_ ps ?_)
  show wpAny _ _ (if ((-1 : Int) == 0) = true then _ else _) _ _ s
  rw [if_neg (by decide)]
  refine wpAny_bind (HT.slicePart_ .none (wpAny_bind (HT.slicePart_ .none (wpAny_bind (wpAny_pure ?_)))))
  show wpAny _ _ (match sliceAdjust none none (-1) (n : Int) with | (lo, hi) => pure (lo, (-1 : Int), slicePlaces lo hi (-1))) _ _ s
  rw [adjust_rev n]
  show wpAny _ _ (pure ((n : Int) - 1, (-1 : Int), slicePlaces ((n : Int) - 1) (-1) (-1))) _ _ s
  rw [places_rev]
  exact wpAny_pure h
theorem pick_rev (xs : Array Value) : ((List.range xs.size).filterMap fun (m : Nat) => xs[(((xs.size : Int) - 1) + (m : Int) * (-1)).toNat]?).toArray = xs.toList.reverse.toArray := by
  congr 1
  have gen : ∀ (k : Nat) (h : k ≤ xs.size), ((List.range k).filterMap fun (m : Nat) => xs[(((xs.size : Int) - 1) + (m : Int) * (-1)).toNat]?) = xs.toList.reverse.take k := by
    intro k
    induction k with
    | zero => intro _; simp
    | succ k ih =>
      intro h
      rw [List.range_succ, List.filterMap_append, ih (by omega)]
      have e1 : (((xs.size : Int) - 1) + (k : Int) * (-1)).toNat = xs.size - 1 - k := by omega
      have hk : k < xs.toList.reverse.length := by rw [List.length_reverse, Array.length_toList]; omega
      rw [List.take_succ_eq_append_getElem hk]
      congr 1
      simp only [List.filterMap_cons, List.filterMap_nil, e1]
      have h2 : xs.size - 1 - k < xs.size := by omega
      rw [Array.getElem?_eq_getElem h2]
      simp only [List.getElem_reverse, Array.length_toList, Array.getElem_toList]
  have := gen xs.size (Nat.le_refl _)
  rw [this]
  apply List.take_of_length_le
  rw [List.length_reverse, Array.length_toList]
  exact Nat.le_refl _
theorem getItem_tuple_rev {t sl : Addr} {items : Array Value} {vs : Value} {Q : Value → Shared → Prop} (ht : PyProof.Rows.IsTup s.heap t items) (hs : s.heap.IsSliceOf sl .none .none vs) (ps : IsPart vs (some (-1)))
    (h : Q (.ref s.heap.objs.size) { s with heap := s.heap.push { cls := .type "tuple", data := .seq items.toList.reverse.toArray } })
    (hsz : items.size ≤ sizeLine) : wpAny (model prog w) A (getItem (.ref t) (.ref sl)) Q E s := by
  have htake : sizeOk (.seq items.toList.reverse.toArray) := by
    show items.toList.reverse.toArray.size ≤ sizeLine
    rw [List.size_toArray, List.length_reverse, Array.length_toList]
    exact hsz
  obtain ⟨os, hos, hcs, hds⟩ := id hs
  have hTs : s.TypeIs (.ref sl) "slice" := ⟨os, hos, hcs⟩
  unfold getItem
  try with_reducible refine wpAny_holding ?_
  first | refine wpAny_bind (wpAny_pure ?_) | skip
  refine wpAny_bind (wpAny_sequenceKey ht.typeIs (by decide) ?_)
  refine wpAny_bind (wpAny_callSpecial?_slot (name := Str.ofString "__getitem__") ht.typeIs PyProof.Rows.slot_tuple_getitem
    (wpAny_call_entry PyProof.Rows.slot_tuple_getitem ht.typeIs PyProof.Rows.entry_tuple_getitem ?_ (PyProof.Rows.args_tuple_getitem _ _)))
  show wpAny _ _ (Builtin.Tuple.tupleItemsOf (.ref t) >>= _) _ _ s
  refine wpAny_bind (PyProof.Rows.tupleItemsOf_ ht ?_)
  refine wpAny_bind (wpAny_typeOf hTs ?_)
  rw [if_pos (by decide)]
  refine wpAny_bind (sliceApplied_rev hs ps ?_)
  have hno : ¬ ((((items.size : Int) - 1) == 0 && (-1 : Int) == 1 && items.size == items.size) = true) := by
    intro q
    rw [Bool.and_eq_true, Bool.and_eq_true] at q
    have := q.1.2
    revert this
    decide
  show wpAny _ _ (if (((items.size : Int) - 1) == 0 && (-1 : Int) == 1 && items.size == items.size) = true then _ else _) _ _ s
  rw [if_neg hno, pick_rev]
  first
    | exact wpAny_bind (m := Builtin.Tuple.tupleExact _) (wpAny_newObj_type (wpAny_pure ⟨_, rfl, wpAny_pure h⟩) htake)
    | exact wpAny_bind (m := Builtin.Tuple.tupleExact _) (wpAny_newObj_type (wpAny_bind (wpAny_pure (wpAny_pure ⟨_, rfl, wpAny_pure h⟩))) htake)
    | exact wpAny_bind (wpAny_bind (m := Builtin.Tuple.tupleExact _) (wpAny_newObj_type (wpAny_pure (wpAny_pure ⟨_, rfl, wpAny_pure h⟩)) htake))
    | exact wpAny_bind (wpAny_bind (m := Builtin.Tuple.tupleExact _) (wpAny_newObj_type (wpAny_pure ⟨_, rfl, wpAny_pure h⟩) htake))
end
end PySem
namespace Mr
open PySem PySem.Spec L2
section
variable {X : Cx} {E : XK} {e a b c : Expr} {es : List Expr} {ma mb mc : ME} {mr : MA} {mt mu : MT} {pos : Pos}
theorem PE.or {t t' : TE} (h : PE X e t) (h' : PE X e t') : PE X e (fun σ H Q => t σ H Q ∨ t' σ H Q) := ⟨fun pins s σ H Q I hq => by
  rcases hq with hq | hq
  · exact h.run pins s σ H Q I hq
  · exact h'.run pins s σ H Q I hq⟩
def tRevT (K : PySem.W.Frag) (te : TE) : TE := fun σ H Q => te σ H fun x H1 => ∃ a xs, x = .ref a ∧ SqT K H1 a xs ∧ ∀ p, H1 p = none → Q (.ref p) (upd H1 p (.tup xs.reverse))
theorem pe_revT {te : TE} {k : Nat} {p1 p2 p3 : Pos} (he : PE X e te) : PE X (.Subscript e (.Slice none none (some (.UnaryOp .USub (.Constant (.int 1) k p1) p2)) p3) pos) (tRevT X.K te) := by
  refine ⟨fun pins s σ H Q I h => ?_⟩
  refine PyProof.Rows.Subscript_ (thn (he.run pins s σ H _ I h) fun v s1 ⟨x, H1, I1, r1, q1⟩ => ?_)
  obtain ⟨a, xs, ex, hx, q⟩ := q1
  subst ex
  cases r1
  have hst : PO X (some (.UnaryOp .USub (.Constant (.int 1) k p1) p2)) (tPart (tUn (rU fun i => .int (-i)) (tC (.int 1)))) := po_some (pe_un un_neg pe_int)
  refine wpAny_Slice ?_
  rw [evalPart_none]
  refine wpAny_pure ?_
  refine wpAny_pure ?_
  refine thn (hst.run pins s1 σ H1 (fun o H4 => o = some (-1) ∧ H4 = H1) I1 ⟨1, rfl, -1, rfl, rfl, rfl⟩) fun vs s4 ⟨o, H4, I4, ps, eo, e4⟩ => ?_
  subst eo e4
  have I5 : Inv X pins σ H4 { s4 with heap := s4.heap.push { cls := .type "slice", data := .fields #[.none, .none, vs] } } := I4.kept (t' := s4.toks) fun b ob q => Heap.get?_push_of_some _ q
  obtain ⟨its, r, ht, hz⟩ := I5.tuple hx
  have hlen := r.length
  show wpAny (model X.prog X.w) X.A (PyProof.Rows.subscriptTail e (.Slice none none (some (.UnaryOp .USub (.Constant (.int 1) k p1) p2)) p3) (.ref a) (.ref s4.heap.objs.size)) (EP X pins σ Q) X.xe { s4 with heap := s4.heap.push { cls := .type "slice", data := .fields #[.none, .none, vs] } }
  refine PyProof.Rows.tail_any (ops := [.ref a, .ref s4.heap.objs.size]) ht.typeIs PyProof.Rows.slot_tuple_getitem.lookup ?_ (by with_unfolding_all rfl)
  refine getItem_tuple_rev ht (Heap.IsSliceOf.new _ .none .none vs) ps ?_ (by rw [List.size_toArray]; omega)
  refine ⟨.ref _, _, I5.laid (t' := s4.toks) (o := .tup xs.reverse) (fun b ob q => Heap.get?_push_of_some _ q) (Nat.le_refl _) ?_, rfl, q _ (I5.hok.fresh (Nat.le_refl _))⟩
  exact ⟨by rw [List.length_reverse]; exact hz, _, r.reverse, PyProof.Rows.IsTup.new _ _⟩
def revG : D → Option D
  | .lst ds => some (.lst ds.reverse)
  | .tup ds => some (.tup ds.reverse)
  | _ => none
theorem de_rev {k : Nat} {p1 p2 p3 : Pos} (he : DV X E e ma) : DE X E (.Subscript e (.Slice none none (some (.UnaryOp .USub (.Constant (.int 1) k p1) p2)) p3) pos) (m1 revG ma) :=
  PE.imp (PE.or (pe_revL he) (pe_revT he)) fun σ H Q ⟨pb, pg, H0, env, b, G, w, ev, q⟩ => by
    unfold m1 at q
    cases hm : ma env b with
    | stuck => rw [hm] at q; exact q.elim
    | exc e b1 => rw [hm] at q; exact .inl ⟨pb, pg, H0, env, b, G, w, ev, by rw [hm]; exact q⟩
    | ok d b1 =>
      rw [hm] at q
      cases d <;> first | exact q.elim | skip
      · refine .inr ⟨pb, pg, H0, env, b, G, w, ev, ?_⟩
        rw [hm]
        intro v G1 H1 s1 w1 p1
        obtain ⟨p, vs, rfl, hp, r⟩ := p1
        refine ⟨p, vs, rfl, .inl (.inl (w1.tup hp)), fun p2 hp2 => ?_⟩
        obtain ⟨s2, w2⟩ := Stp.new (o := .tup vs.reverse) w1 hp2
        exact q _ _ _ (s1.trans s2) w2 ⟨p2, _, rfl, upd_same, r.reverse.mono s2.g⟩
      · refine .inl ⟨pb, pg, H0, env, b, G, w, ev, ?_⟩
        rw [hm]
        intro v G1 H1 s1 w1 p1
        obtain ⟨p, vs, rfl, hp, r⟩ := p1
        refine ⟨p, vs, rfl, hp.l, fun p2 hp2 => ?_⟩
        obtain ⟨s2, w2⟩ := Stp.new (o := .lst vs.reverse) w1 hp2
        exact q _ _ _ (s1.trans s2) w2 ⟨p2, _, rfl, upd_same, r.reverse.mono s2.g⟩
end
end Mr

set_option Elab.async false
set_option linter.all false
set_option maxRecDepth 100000
namespace Mr
open PySem PySem.Spec L2
section
variable {X : Cx} {E : XK} {e a b c kx vx tg it : Expr} {es : List Expr} {ma mb mc mk me : ME} {mi : MI} {g : MG} {mr : MA} {mt mu : MT} {pos : Pos}

/-! ### sorted -/
def pairsD : List D → Option (List (Int × Int))
  | [] => some []
  | .tup [.int i, .int j] :: ds => (pairsD ds).map ((i, j) :: ·)
  | _ :: _ => none
def leP (x y : Int × Int) : Bool := decide (x.1 < y.1) || (decide (x.1 = y.1) && decide (x.2 ≤ y.2))
def encP (x : Int × Int) : D := .tup [.int x.1, .int x.2]
def sortI (ns : List Int) : List Int := ns.mergeSort (fun x y => decide (x ≤ y))
def sortP (ns : List (Int × Int)) : List (Int × Int) := ns.mergeSort leP
/-- sorted(xs), a list of ints -/
def sortedIG : List D → Option D
  | [.lst ds] => (intsD ds).map fun ns => .lst ((sortI ns).map D.int)
  | _ => none
/-- sorted(xs), a list of pairs of ints -/
def sortedPG : List D → Option D
  | [.lst ds] => (pairsD ds).map fun ns => .lst ((sortP ns).map encP)
  | _ => none
theorem sortI_perm (ns : List Int) : (sortI ns).Perm ns := List.mergeSort_perm _ _
theorem sortI_sorted (ns : List Int) : (sortI ns).Pairwise (· ≤ ·) := by
  have := List.pairwise_mergeSort (le := fun x y : Int => decide (x ≤ y)) (fun a b c h1 h2 => by simp at *; omega) (fun a b => by simp; omega) ns
  exact this.imp fun h => by simpa using h
theorem leP_trans (a b c : Int × Int) (h1 : leP a b = true) (h2 : leP b c = true) : leP a c = true := by
  simp only [leP, Bool.or_eq_true, Bool.and_eq_true, decide_eq_true_eq] at *
  omega
theorem leP_total (a b : Int × Int) : (leP a b || leP b a) = true := by
  simp only [leP, Bool.or_eq_true, Bool.and_eq_true, decide_eq_true_eq]
  omega
theorem leP_anti (a b : Int × Int) (h1 : leP a b = true) (h2 : leP b a = true) : a = b := by
  simp only [leP, Bool.or_eq_true, Bool.and_eq_true, decide_eq_true_eq] at *
  exact Prod.ext (by omega) (by omega)
theorem sortP_perm (ns : List (Int × Int)) : (sortP ns).Perm ns := List.mergeSort_perm _ _
theorem sortP_sorted (ns : List (Int × Int)) : (sortP ns).Pairwise (fun x y => leP x y = true) := List.pairwise_mergeSort leP_trans leP_total ns
theorem sortP_uniq {xs ys : List (Int × Int)} (p : xs.Perm ys) (h : xs.Pairwise (fun x y => leP x y = true)) : xs = sortP ys :=
  (p.trans (sortP_perm ys).symm).eq_of_pairwise (fun x y _ _ h1 h2 => leP_anti x y h1 h2) h (sortP_sorted ys)
theorem call_sortedIG : CallF X (.builtin "sorted") sortedIG := by
  intro pins s σ H xs us Q I r h
  obtain ⟨pb, pg, b, G, dxs, d, w, vx, e, q⟩ := h
  unfold sortedIG at e
  split at e
  · rename_i ds
    obtain ⟨v, rfl, p, vs, rfl, hp, rr⟩ := vws1 vx
    simp only [Option.map_eq_some_iff] at e
    obtain ⟨ns, hb, rfl⟩ := e
    cases intsD_rep rr hb
    refine cr_sortedI pins s σ H _ us Q I r ⟨p, ns, rfl, hp.l, fun ns' l hperm hs hl => ?_⟩
    have : ns' = sortI ns := PySem.W.ksm_same (hperm.trans (sortI_perm ns).symm) hs (sortI_sorted ns)
    subst this
    exact pF_new w (Reps.of_ints _) hl q
  · cases e
theorem pairsD_rep {c : MC} {G : Hp} : ∀ {ds : List D} {vs : List V} {ps : List (Int × Int)}, Reps c G ds vs → pairsD ds = some ps → ∀ (k : V → Int × Int), (∀ t i j, G t = some (.tup [.int i, .int j]) → k (.ref t) = (i, j)) → vs.map k = ps ∧ ∀ v ∈ vs, ∃ t, v = .ref t ∧ G t = some (.tup [.int (k v).1, .int (k v).2])
  | [], vs, ps, r, h, k, hk => by cases (show vs = [] from r); cases h; exact ⟨rfl, fun v hv => by cases hv⟩
  | d :: ds, vs, ps, r, h, k, hk => by
    obtain ⟨v, ws, rfl, r1, r2⟩ := r
    unfold pairsD at h
    split at h
    · rename_i heq; cases heq
    · rename_i i j ds' heq
      cases heq
      simp only [Option.map_eq_some_iff] at h
      obtain ⟨ps', h, rfl⟩ := h
      obtain ⟨t, us, rfl, ht, v1, w1, rfl, rv1, v2, w2, rfl, rv2, rn⟩ := r1
      cases (show w2 = [] from rn)
      cases (show v1 = .int i from rv1)
      cases (show v2 = .int j from rv2)
      have e := hk t i j ht
      obtain ⟨h1, h2⟩ := pairsD_rep r2 h k hk
      refine ⟨by rw [List.map_cons, e, h1], fun v hv => ?_⟩
      rcases List.mem_cons.mp hv with rfl | hv
      · exact ⟨t, rfl, by rw [e]; exact ht⟩
      · exact h2 v hv
    · cases h
theorem call_sortedPG : CallF X (.builtin "sorted") sortedPG := by
  intro pins s σ H xs us Q I r h
  obtain ⟨pb, pg, b, G, dxs, d, w, vx, e, q⟩ := h
  unfold sortedPG at e
  split at e
  · rename_i ds
    obtain ⟨v, rfl, p, vs, rfl, hp, rr⟩ := vws1 vx
    simp only [Option.map_eq_some_iff] at e
    obtain ⟨ps, hb, rfl⟩ := e
    obtain ⟨k, hk⟩ : ∃ k : V → Int × Int, ∀ t i j, G t = some (.tup [.int i, .int j]) → k (.ref t) = (i, j) :=
      ⟨fun v => match v with
        | .ref t => match G t with
          | some (.tup [.int i, .int j]) => (i, j)
          | _ => (0, 0)
        | _ => (0, 0), fun t i j e => by simp [e]⟩
    obtain ⟨h1, h2⟩ := pairsD_rep rr hb k hk
    refine cr_sortedPO pins s σ H _ us Q I r ⟨p, vs, k, rfl, hp.l, fun x hx => ?_, fun ys l hs hst hl => ?_⟩
    · obtain ⟨t, rfl, ht⟩ := h2 x hx
      exact ⟨t, rfl, w.tup ht⟩
    · have hys : ys.map k = sortP ps := by
        refine sortP_uniq (by rw [← h1]; exact hst.perm.map k) ?_
        rw [List.pairwise_map]
        refine hs.imp fun {x y} hxy => ?_
        have hxy : SrtO.lexB (k y) (k x) = false := hxy
        rw [← Bool.not_eq_true, SrtO.lexB_iff] at hxy
        simp only [leP, Bool.or_eq_true, Bool.and_eq_true, decide_eq_true_eq]
        omega
      have rys : ∀ zs : List V, (∀ z ∈ zs, z ∈ vs) → Reps (cx X.K X.mg pb pg) G ((zs.map k).map encP) zs := by
        intro zs
        induction zs with
        | nil => intro _; exact .nil
        | cons z zs ih =>
          intro hz
          obtain ⟨t, rfl, ht⟩ := h2 z (hz z (by simp))
          refine .cons ⟨t, _, rfl, ht, .cons rfl (.one rfl)⟩ (ih fun y hy => hz y (by simp [hy]))
      have rfin := rys ys fun z hz => hst.perm.mem_iff.mp hz
      rw [hys] at rfin
      exact pF_new w rfin hl q
  · cases e

/-! ### ranges as values -/
def rgD (a b : Int) : List D := (List.range (b - a).toNat).map fun i => .int (a + (i : Nat))
theorem rg_rep {c : MC} {G : Hp} (a b : Int) : Reps c G (rgD a b) (rgV a b) := by
  unfold rgD rgV
  induction List.range (b - a).toNat with
  | nil => exact .nil
  | cons n ns ih => exact .cons rfl ih
def mRgL (m : ME) : ME := fun env b => (m env b).bind fun d b => match d with
  | .int n => if -1000000 ≤ n ∧ n ≤ 1000000 then .ok (.lst (rgD 0 n)) b else .stuck
  | _ => .stuck
def mRgT (m : ME) : ME := fun env b => (m env b).bind fun d b => match d with
  | .int n => if -1000000 ≤ n ∧ n ≤ 1000000 then .ok (.tup (rgD 0 n)) b else .stuck
  | _ => .stuck
def mRgL2 (m1 m2 : ME) : ME := fun env b => (m1 env b).bind fun d b => (m2 env b).bind fun e b => match d, e with
  | .int l, .int n => if -1000000 ≤ l ∧ l ≤ 1000000 ∧ -1000000 ≤ n ∧ n ≤ 1000000 then .ok (.lst (rgD l n)) b else .stuck
  | _, _ => .stuck
theorem RgOk_of {l n : Int} (h : -1000000 ≤ l ∧ l ≤ 1000000 ∧ -1000000 ≤ n ∧ n ≤ 1000000) : RgOk l n := ⟨by omega, by omega, by omega, by omega, by omega⟩

theorem df_rgL {p p2 : Pos} {pos2 : Pos} (hc : X.calm = true) (hg : Gl X "list") (hm : X.mg "list" = none) (hg2 : Gl X "range") (hm2 : X.mg "range" = none) (h : DE X E e ma) (n1 : starEach [e] X.env = (false, eval e X.env) :: starEach [] X.env := by rfl)
    (n2 : starEach [.Call (.Name "range" p2) [e] [] pos2] X.env = (false, eval (.Call (.Name "range" p2) [e] [] pos2) X.env) :: starEach [] X.env := by rfl) : DF X E (.Call (.Name "list" p) [.Call (.Name "range" p2) [e] [] pos2] [] pos) (mRgL ma) :=
  PE.imp (pe_listRg hc hg hm (prg_1 hg2 hm2 h n1) n2) fun σ H Q ⟨pb, pg, H0, env, b, G, w, ev, q⟩ => ⟨pb, pg, H0, env, b, G, w, ev, PstG.bind q fun a1 b1 v1 G1 H1 s1 w1 p1 q1 => by
    cases a1 <;> first | exact q1.elim | skip
    rename_i n
    dsimp only at q1
    split at q1
    · rename_i hz
      cases (show v1 = .int n from p1)
      refine ⟨n, rfl, RgOk_of ⟨by omega, by omega, hz.1, hz.2⟩, fun p hp => ?_⟩
      exact pF_new w1 (rg_rep 0 n) hp fun v G' H' s' w' f' => q1 v G' H' s' w' (pF.weak s1.dm f')
    · exact q1.elim⟩
theorem de_rgT {p p2 : Pos} {pos2 : Pos} (hc : X.calm = true) (hg : Gl X "tuple") (hm : X.mg "tuple" = none) (hg2 : Gl X "range") (hm2 : X.mg "range" = none) (h : DE X E e ma) (n1 : starEach [e] X.env = (false, eval e X.env) :: starEach [] X.env := by rfl)
    (n2 : starEach [.Call (.Name "range" p2) [e] [] pos2] X.env = (false, eval (.Call (.Name "range" p2) [e] [] pos2) X.env) :: starEach [] X.env := by rfl) : DE X E (.Call (.Name "tuple" p) [.Call (.Name "range" p2) [e] [] pos2] [] pos) (mRgT ma) :=
  PE.imp (pe_tupRg hc hg hm (prg_1 hg2 hm2 h n1) n2) fun σ H Q ⟨pb, pg, H0, env, b, G, w, ev, q⟩ => ⟨pb, pg, H0, env, b, G, w, ev, PstG.bind q fun a1 b1 v1 G1 H1 s1 w1 p1 q1 => by
    cases a1 <;> first | exact q1.elim | skip
    rename_i n
    dsimp only at q1
    split at q1
    · rename_i hz
      cases (show v1 = .int n from p1)
      refine ⟨n, rfl, RgOk_of ⟨by omega, by omega, hz.1, hz.2⟩, fun p hp => ?_⟩
      obtain ⟨s2, w2⟩ := Stp.new (o := .tup (rgV 0 n)) w1 hp
      exact q1 _ _ _ s2 w2 ⟨p, _, rfl, upd_same, (rg_rep 0 n).mono s2.g⟩
    · exact q1.elim⟩
/-- {k: v}, one pair -/
def mDict1 (mk mv : ME) : ME := fun env b => (mk env b).bind fun k b => (mv env b).bind fun v b => R.opt ((keyD k).map fun k => .dK [k] [v]) b
theorem df_dict1 (hk : DE X E a mb) (hv : DE X E c mc) : DF X E (.Dict [some a] [c] pos) (mDict1 mb mc) :=
  PE.imp (pe_disp (pps_cons hk hv pps_nil) rfl rfl (fun z => nomatch z) (Nat.le_of_ble_eq_true rfl)) fun σ H Q ⟨pb, pg, H0, env, b, G, w, ev, q⟩ p hp => by
    obtain ⟨s0, w0, g0⟩ := Stp.newO (o := .dK []) w hp
    have nb : p ≠ pb := fun z => by rw [z] at hp; exact w.hbne hp
    have ng : p ≠ pg := fun z => by rw [z] at hp; exact w.hgne hp
    refine ⟨pb, pg, H0, env, b, G, w0, ev.step s0, ?_⟩
    unfold mDict1 at q
    cases hm : mb env b with
    | stuck => rw [hm] at q; exact q
    | exc e b1 => rw [hm] at q; exact PstX.of s0 q
    | ok k b1 =>
      rw [hm] at q
      simp only [R.bind_ok] at q
      intro v1 G1 H1 s1 w1 p1
      refine ⟨pb, pg, H0, env, b1, G1, w1, (ev.step s0).step s1, ?_⟩
      cases hm2 : mc env b1 with
      | stuck => rw [hm2] at q; exact q
      | exc e b2 => rw [hm2] at q; exact PstX.of (s0.trans s1) q
      | ok d b2 =>
        rw [hm2] at q
        simp only [R.bind_ok] at q
        intro v2 G2 H2 s2 w2 p2
        have hp2 : H2 p = some (.dK []) := s2.h _ _ nb ng (s1.h _ _ nb ng upd_same)
        have gp2 : G2 p = none := (s1.trans s2).fr p (by rw [upd_same]; exact fun z => nomatch z) g0
        cases hkk : keyD k with
        | none => rw [hkk] at q; exact q.elim
        | some kk =>
          rw [hkk] at q
          have e1 := rep_key p1 hkk
          subst e1
          exact ⟨hp2, [(kk, v2)], rfl, Nat.le_of_ble_eq_true rfl, q _ G2 _ ((s0.trans (s1.trans s2)).put hp) (w2.put gp2 nb ng) ⟨p, [v2], rfl, upd_same, rfl, gp2, hp, .one p2⟩⟩

/-! ### dict comprehensions -/
def dcL (g : MG) (t : MT) (kl el : ME) (env : Ev) : List D → List Key → List D → Bag → R (List Key × List D)
  | [], ks, vs, b => .ok (ks, vs) b
  | d :: ds, ks, vs, b => match g d env with
    | none => .stuck
    | some env1 => (t env1 b).sq fun k b => if k = true then (kl env1 b).sq fun y b => (el env1 b).sq fun z b => match keyD y with
      | some k => dcL g t kl el env ds (putKs ks k) (putDs ks vs k z) b
      | none => .stuck
      else dcL g t kl el env ds ks vs b
def mDc (mi : MI) (g : MG) (t : MT) (kl el : ME) (vs : List Nat) : ME := fun env b => (mi env b).bind fun ds b => if ds.length ≤ 100000 then (dcL g t kl el (wipeE env vs) ds [] [] b).bind fun r b => .ok (.dK r.1 r.2) b else .stuck
theorem putKs_len (ks : List Key) (k : Key) : (putKs ks k).length ≤ ks.length + 1 := by
  unfold putKs
  split
  · omega
  · rw [List.length_append]; simp
theorem readDc {K : PySem.W.Frag} {mg : Str → Option Value} {σ : L2.St} {H : Hp} {Q : VK} {vs : List Nat} (h : tF K mg E (mDc mi g mt mk me vs) σ H Q) :
    tDc (tIC K mg E mi) (tGc K mg vs g) (tT K mg E0 mt) (tM K mg E0 mk) (tM K mg E0 me) vs σ H Q := by
  obtain ⟨pb, pg, H0, env, b, G, w, ev, q⟩ := h
  refine ⟨pb, pg, H0, env, b, G, w, ev, ?_⟩
  unfold mDc at q
  cases hm : mi env b with
  | stuck => rw [hm] at q; exact q.elim
  | exc e b1 => rw [hm] at q; exact q
  | ok ds b1 =>
    rw [hm] at q
    simp only [R.bind_ok] at q
    intro J G1 H1 s1 w1 wk Dl hD
    split at q
    · rename_i hz
      have nb : Dl ≠ pb := fun z => by rw [z] at hD; exact w1.hbne hD
      have ng : Dl ≠ pg := fun z => by rw [z] at hD; exact w1.hgne hD
      refine ⟨fun i m H2 => ∃ b2 G2 ks acc vs2, Stp (cx K mg pb pg) G1 H1 G2 H2 ∧ Wd (cx K mg pb pg) b2 G2 H2 ∧ H2 Dl = some (.dK (ks.zip vs2)) ∧ ks.length = vs2.length ∧ G2 Dl = none ∧ Reps (cx K mg pb pg) G2 acc vs2 ∧ ks.length ≤ i ∧ m = ds.length - i ∧ i ≤ ds.length ∧
        dcL g mt mk me (wipeE env vs) ds [] [] b1 = dcL g mt mk me (wipeE env vs) (ds.drop i) ks acc b2, ⟨ds.length, b1, G1, [], [], [], ?_⟩, ?_⟩
      · obtain ⟨sD, wD, gD⟩ := Stp.newO (o := .dK []) w1 hD
        exact ⟨sD, wD, upd_same, rfl, gD, .nil, Nat.zero_le _, rfl, Nat.zero_le _, rfl⟩
      · rintro i m H2 ⟨b2, G2, ks, acc, vs2, s2, w2, hD2, hl2, gD2, r2, hacc, rfl, hi, heq⟩
        obtain ⟨wg, ws⟩ := wk i b2 G2 H2 s2 w2
        by_cases hlt : i < ds.length
        · right
          obtain ⟨go, yl⟩ := wg ds[i] (List.getElem?_eq_getElem hlt)
          rw [List.drop_eq_getElem_cons hlt, dcL] at heq
          refine ⟨go, fun H4 => ∃ b4 G4 ks4 acc4 vs4, Stp (cx K mg pb pg) G1 H1 G4 H4 ∧ Wd (cx K mg pb pg) b4 G4 H4 ∧ H4 Dl = some (.dK (ks4.zip vs4)) ∧ ks4.length = vs4.length ∧ G4 Dl = none ∧ Reps (cx K mg pb pg) G4 acc4 vs4 ∧ ks4.length ≤ i + 1 ∧
            dcL g mt mk me (wipeE env vs) ds [] [] b1 = dcL g mt mk me (wipeE env vs) (ds.drop (i + 1)) ks4 acc4 b4,
            fun H4 ⟨b4, G4, ks4, acc4, vs4, s4, w4, h4, hl4, g4, r4, l4, e4⟩ => ⟨ds.length - (i + 1), by omega, b4, G4, ks4, acc4, vs4, s4, w4, h4, hl4, g4, r4, l4, rfl, hlt, e4⟩, fun x H3 hy => ?_⟩
          obtain ⟨G3, s3, w3, r3⟩ := yl x H3 hy
          have evw : EvOk (cx K mg pb pg) H0 G3 H3 (wipeE env vs) (L2.wipe σ vs) := (((ev.step s1).step s2).step s3).wipe vs
          have qn : (R.stuck : R (List Key × List D)) = dcL g mt mk me (wipeE env vs) ds [] [] b1 → False := fun z => by
            rw [← z] at q; exact q
          cases hg : g ds[i] (wipeE env vs) with
          | none => rw [hg] at heq; exact (qn heq.symm).elim
          | some env3 =>
            rw [hg] at heq
            dsimp only at heq
            refine ⟨pb, pg, H0, _, b2, G3, ds[i], env3, w3, evw, r3, hg, fun σ4 e4 hw4 => ⟨hw4.trans (wipe_idem σ vs), pb, pg, H0, env3, b2, G3, w3, e4, ?_⟩⟩
            cases ht : mt env3 b2 with
            | stuck => rw [ht] at heq; exact (qn heq.symm).elim
            | exc e b5 => rw [ht] at heq; exact (qn heq.symm).elim
            | ok k b5 =>
              rw [ht] at heq
              simp only [R.sq_ok] at heq
              intro v5 G5 H5 s5 w5 p5
              cases (show v5 = k from p5)
              have hD5 : H5 Dl = some (.dK (ks.zip vs2)) := s5.h _ _ nb ng (s3.h _ _ nb ng hD2)
              have gD5 : G5 Dl = none := (s3.trans s5).fr Dl (by rw [hD2]; exact fun z => nomatch z) gD2
              have st5 := s2.trans (s3.trans s5)
              cases k with
              | false =>
                rw [if_neg Bool.false_ne_true] at heq ⊢
                exact ⟨b5, G5, ks, acc, vs2, st5, w5, hD5, hl2, gD5, r2.mono (s3.trans s5).g, by omega, heq⟩
              | true =>
                rw [if_pos rfl] at heq ⊢
                refine ⟨pb, pg, H0, env3, b5, G5, w5, e4.step s5, ?_⟩
                cases hel : mk env3 b5 with
                | stuck => rw [hel] at heq; exact (qn heq.symm).elim
                | exc e b6 => rw [hel] at heq; exact (qn heq.symm).elim
                | ok y b6 =>
                  rw [hel] at heq
                  simp only [R.sq_ok] at heq
                  intro v6 G6 H6 s6 w6 p6
                  refine ⟨pb, pg, H0, env3, b6, G6, w6, (e4.step s5).step s6, ?_⟩
                  cases hel2 : me env3 b6 with
                  | stuck => rw [hel2] at heq; exact (qn heq.symm).elim
                  | exc e b7 => rw [hel2] at heq; exact (qn heq.symm).elim
                  | ok z b7 =>
                    rw [hel2] at heq
                    simp only [R.sq_ok] at heq
                    intro v7 G7 H7 s7 w7 p7
                    cases hky : keyD y with
                    | none => rw [hky] at heq; exact (qn heq.symm).elim
                    | some ky =>
                      rw [hky] at heq
                      dsimp only at heq
                      have hD7 := s7.h _ _ nb ng (s6.h _ _ nb ng hD5)
                      have gD7 : G7 Dl = none := (s6.trans s7).fr Dl (by rw [hD5]; exact fun z => nomatch z) gD5
                      have r7 := ((r2.mono (s3.trans s5).g).mono s6.g).mono s7.g
                      have ek := rep_key p6 hky
                      subst ek
                      obtain ⟨ws7, e71, e72, e73⟩ := zip_put (k := ky) r7 hl2 p7
                      refine ⟨ks.zip vs2, ky, rfl, hD7, ?_, ?_⟩
                      · rw [zip_len hl2]
                        have : sizeLine = 16777216 := sizeLine_eq
                        omega
                      · rw [e71]
                        exact ⟨b7, G7, putKs ks ky, putDs ks acc ky z, ws7, ((st5.trans s6).trans s7).put hD, w7.put gD7 nb ng, upd_same, e72, gD7, e73, by have := putKs_len ks ky; omega, heq⟩
        · left
          have hi2 : i = ds.length := by omega
          subst hi2
          rw [List.drop_length] at heq
          refine ⟨ws rfl, ?_⟩
          rw [heq] at q
          simp only [dcL, R.bind_ok] at q
          have hDn : H Dl = none := Classical.byContradiction fun z => s1.dm Dl z hD
          exact q (.ref Dl) G2 H2 (s1.trans s2) w2 ⟨Dl, vs2, rfl, hD2, hl2, gD2, hDn, r2⟩
    · exact q.elim
theorem df_dc {ifs : List Expr} {scope : Scope} {own : List (Str × Nat)} (hc : X.calm = true) (hN : X.N.Nodup) (hi : DIc X E tg it mi) (ok : BlkOk X.N X.env.scope scope own)
    (hg : ∀ (s : Shared) (H : Hp) (C : Addr) (cl : List (Str × Addr)) (fp : List Addr), DGc (X.blk s H scope (compEnvC scope cl C X.env) fp) (own.map (·.2)) tg g) (ht : ∀ (s : Shared) (H : Hp) (C : Addr) (cl : List (Str × Addr)) (fp : List Addr), DTs (X.blk s H scope (compEnvC scope cl C X.env) fp) E0 ifs mt)
    (hk : ∀ (s : Shared) (H : Hp) (C : Addr) (cl : List (Str × Addr)) (fp : List Addr), DE (X.blk s H scope (compEnvC scope cl C X.env) fp) E0 kx mk)
    (he : ∀ (s : Shared) (H : Hp) (C : Addr) (cl : List (Str × Addr)) (fp : List Addr), DE (X.blk s H scope (compEnvC scope cl C X.env) fp) E0 vx me) (hs : ∀ x, foldedSetIterable it X.env x = pure x := by intro _; rfl) :
    DF X E (.DictComp kx vx [⟨tg, it, ifs, 0⟩] scope pos) (mDc mi g mt mk me (own.map (·.2))) :=
  PE.imp (pe_dc hc hN hi ok hg ht hk he hs) fun σ H Q h => readDc h
end
end Mr

set_option Elab.async false
set_option linter.all false
set_option maxRecDepth 100000
namespace Mr
open PySem PySem.Spec L2
section
variable {X : Cx} {E : XK} {e a b c kx vx tg it elt : Expr} {es : List Expr} {ma mb mc mk me : ME} {mi : MI} {g : MG} {mr : MA} {mt mu : MT} {pos : Pos}
/-! ### isinstance with two classes -/
def isi2G (T1 T2 : String) (d : D) : Option D := match tyD d with
  | some t => match kitB t T1, kitB t T2 with
    | some k1, some k2 => some (.bl (k1 || k2))
    | _, _ => none
  | none => none
theorem kitAny2 {K : PySem.W.Frag} {t c1 c2 : Value} {k1 k2 : Bool} (h1 : PySem.W.kitOne K t c1 = some k1) (h2 : PySem.W.kitOne K t c2 = some k2) : PySem.W.kitAny K t [c1, c2] = some (k1 || k2) := by
  unfold PySem.W.kitAny
  rw [h1]
  cases k1 with
  | true => rfl
  | false =>
    show PySem.W.kitAny K t [c2] = some k2
    unfold PySem.W.kitAny
    rw [h2]
    cases k2 <;> rfl
theorem de_isi2 {T1 T2 : String} {x1 x2 : Str} {p p2 p3 : Pos} {k : Nat} {tpos : Pos} (hg : Gl X "isinstance") (hm : X.mg "isinstance" = none) (hg1 : Gl X x1) (hm1 : X.mg x1 = none) (hb1 : bootBuiltins x1 = some (.type T1)) (hg2 : Gl X x2) (hm2 : X.mg x2 = none) (hb2 : bootBuiltins x2 = some (.type T2)) (ha : DV X E a ma)
    (hn1 : x1 ≠ "__name__" := by decide) (hd1 : (x1 == ("__debug__" : Str)) = false := by decide) (hn2 : x2 ≠ "__name__" := by decide) (hd2 : (x2 == ("__debug__" : Str)) = false := by decide)
    (s1 : starEach [a, .Tuple [.Name x1 p2, .Name x2 p3] k tpos] X.env = (false, eval a X.env) :: starEach [.Tuple [.Name x1 p2, .Name x2 p3] k tpos] X.env := by rfl) (hpl : (backTo pos (starEach [.Tuple [.Name x1 p2, .Name x2 p3] k tpos] X.env)).any (·.1) = false := by rfl)
    (s2 : starEach [.Tuple [.Name x1 p2, .Name x2 p3] k tpos] X.env = (false, eval (.Tuple [.Name x1 p2, .Name x2 p3] k tpos) X.env) :: starEach [] X.env := by rfl)
    (s3 : starEach [.Name x1 p2, .Name x2 p3] X.env = (false, eval (.Name x1 p2) X.env) :: starEach [.Name x2 p3] X.env := by rfl) (s4 : starEach [.Name x2 p3] X.env = (false, eval (.Name x2 p3) X.env) :: starEach [] X.env := by rfl) :
    DE X E (.Call (.Name "isinstance" p) [a, .Tuple [.Name x1 p2, .Name x2 p3] k tpos] [] pos) (m1 (isi2G T1 T2) ma) :=
  PE.imp (pe_callB call_isiT hg hm (by decide +kernel) (pa_cons ha (pa_cons (pe_tup (pa_cons (pe_bltn (v := .ty T1) hg1 hm1 hb1 rfl hn1 hd1) (pa_cons (pe_bltn (v := .ty T2) hg2 hm2 hb2 rfl hn2 hd2) pa_nil s4) s3)) pa_nil s2) s1) (by decide) (by decide) s1 hpl) fun σ H Q ⟨pb, pg, H0, env, b, G, w, ev, q⟩ => ⟨pb, pg, H0, env, b, G, w, ev, PstG.bind q fun a1 b1 v1 G1 H1 st1 w1 p1 q1 => by
      cases hi : isi2G T1 T2 a1 with
      | none => rw [hi] at q1; exact q1.elim
      | some d =>
        rw [hi] at q1
        unfold isi2G at hi
        split at hi
        · rename_i t ht
          split at hi
          · rename_i k1 k2 e1 e2
            cases hi
            refine ⟨by show 2 ≤ sizeLine; decide, fun p hp => ?_⟩
            obtain ⟨st2, w2⟩ := Stp.new (o := .tup [.ty T1, .ty T2]) w1 hp
            exact ⟨v1, p, [.ty T1, .ty T2], .type t, [.type T1, .type T2], _, rfl, upd_same, .cons (.ty T1) (.cons (.ty T2) .nil), vw_ty w2 (p1.mono st2) ht, kitAny2 (kit_ty e1) (kit_ty e2), q1 _ _ _ st2 w2 rfl⟩
          · cases hi
        · cases hi⟩

/-! ### a comprehension stored at once -/
theorem readAsgF {K : PySem.W.Frag} {mg : Str → Option Value} {Dn : Ends} {σ : L2.St} {H : Hp} {i : Nat} (h : tS K mg E (sAsg (gNm i) ma) Dn σ H) : tAsg (tF K mg E ma) (gName i) Dn σ H := by
  obtain ⟨pb, pg, G0, H0, env, b, G, st, w, ev, q⟩ := h
  refine ⟨pb, pg, H0, env, b, G, w, ev, PstS.bind st q fun a1 b1 v1 G1 H1 s1 w1 p1 q1 => ?_⟩
  cases a1 <;> first | exact p1.elim | skip
  · obtain ⟨p, vs, rfl, hp, gp, hn, r⟩ := p1
    obtain ⟨s2, w2⟩ := s1.freeze w1 hp hn gp (fun z => by rw [z] at hn; exact w.hbne hn) (fun z => by rw [z] at hn; exact w.hgne hn)
    exact q1 _ _ _ (st.trans s2) w2 ((ev.step s2).set_va (d := .lst _) ⟨p, vs, rfl, upd_same, r.mono (Le.new gp)⟩ i)
  · obtain ⟨p, vs, rfl, hp, hl, gp, hn, r⟩ := p1
    obtain ⟨s2, w2⟩ := s1.freeze w1 hp hn gp (fun z => by rw [z] at hn; exact w.hbne hn) (fun z => by rw [z] at hn; exact w.hgne hn)
    exact q1 _ _ _ (st.trans s2) w2 ((ev.step s2).set_va (d := .dK _ _) ⟨p, vs, rfl, upd_same, hl, r.mono (Le.new gp)⟩ i)
  · obtain ⟨p, vs, rfl, hp, hl, gp, hn, r⟩ := p1
    obtain ⟨s2, w2⟩ := s1.freeze w1 hp hn gp (fun z => by rw [z] at hn; exact w.hbne hn) (fun z => by rw [z] at hn; exact w.hgne hn)
    exact q1 _ _ _ (st.trans s2) w2 ((ev.step s2).set_va (d := .dT _ _) ⟨p, vs, rfl, upd_same, hl, r.mono (Le.new gp)⟩ i)
theorem ds_lcM (i : Nat) {y : Str} {py spos : Pos} {ifs : List Expr} {scope : Scope} {own : List (Str × Nat)} (hc : X.calm = true) (hN : X.N.Nodup) (hi : DIc X E tg it mi) (ok : BlkOk X.N X.env.scope scope own)
    (hg : ∀ (s : Shared) (H : Hp) (C : Addr) (cl : List (Str × Addr)) (fp : List Addr), DGc (X.blk s H scope (compEnvC scope cl C X.env) fp) (own.map (·.2)) tg g) (ht : ∀ (s : Shared) (H : Hp) (C : Addr) (cl : List (Str × Addr)) (fp : List Addr), DTs (X.blk s H scope (compEnvC scope cl C X.env) fp) E0 ifs mt)
    (he : ∀ (s : Shared) (H : Hp) (C : Addr) (cl : List (Str × Addr)) (fp : List Addr), DE (X.blk s H scope (compEnvC scope cl C X.env) fp) E0 elt me) (hy : X.N[i]? = some y := by rfl) (hyl : X.env.scope.names.lookup y = some .local := by rfl)
    (hsw : swapsWith (.ListComp elt [⟨tg, it, ifs, 0⟩] scope pos) (some (.Name y py)) spos.line X.env = pure true := by exact sw_true rfl rfl rfl (by decide +kernel)) (hs : ∀ x, foldedSetIterable it X.env x = pure x := by intro _; rfl) :
    DS X E (.Assign [.Name y py] (.ListComp elt [⟨tg, it, ifs, 0⟩] scope pos) spos) (sAsg (gNm i) (mLc mi g mt me (own.map (·.2)))) :=
  PS.imp (ps_setLc hc hN hy hyl hsw hi ok hg ht he hs) fun Dn σ H h => readLc (readAsgF h)
theorem ds_lcO (i : Nat) {y : Str} {py spos : Pos} {ifs : List Expr} {scope : Scope} {own : List (Str × Nat)} (hc : X.calm = true) (hN : X.N.Nodup) (hi : DIc X E tg it mi) (ok : BlkOk X.N X.env.scope scope own)
    (hg : ∀ (s : Shared) (H : Hp) (C : Addr) (cl : List (Str × Addr)) (fp : List Addr), DGc (X.blk s H scope (compEnvC scope cl C X.env) fp) (own.map (·.2)) tg g) (ht : ∀ (s : Shared) (H : Hp) (C : Addr) (cl : List (Str × Addr)) (fp : List Addr), DTs (X.blk s H scope (compEnvC scope cl C X.env) fp) E0 ifs mt)
    (he : ∀ (s : Shared) (H : Hp) (C : Addr) (cl : List (Str × Addr)) (fp : List Addr), DE (X.blk s H scope (compEnvC scope cl C X.env) fp) E0 elt me) (hy : X.N[i]? = some y := by rfl) (hyl : X.env.scope.names.lookup y = some .local := by rfl)
    (hsw : swapsWith (.ListComp elt [⟨tg, it, ifs, 0⟩] scope pos) (some (.Name y py)) spos.line X.env = pure true := by exact sw_true rfl rfl rfl (by decide +kernel)) (hs : ∀ x, foldedSetIterable it X.env x = pure x := by intro _; rfl) :
    DS X E (.Assign [.Name y py] (.ListComp elt [⟨tg, it, ifs, 0⟩] scope pos) spos) (sOwn i (mLc mi g mt me (own.map (·.2)))) :=
  PS.imp (ps_setLc hc hN hy hyl hsw hi ok hg ht he hs) fun Dn σ H h => readLc (readOwn h)
theorem de_gintE {x : Str} {i : Int} (hg : Gl X x) (hm : ∃ t, X.mg x = some (.int i t)) (hd : (x == ("__debug__" : Str)) = false := by decide) : DE X E (.Name x pos) (mC (.int i)) :=
  let ⟨_, h⟩ := hm; de_gint hg h hd
theorem de_gstrE {x z : Str} (hg : Gl X x) (hm : ∃ t, X.mg x = some (.str z t)) (hd : (x == ("__debug__" : Str)) = false := by decide) : DE X E (.Name x pos) (mC (.str z)) :=
  let ⟨_, h⟩ := hm; de_gstr hg h hd
end
theorem hu_of65 {A : Around} {k : Nat} (hr : Room k A) : A.units + 65 < cLine := by have := hr.un; omega
theorem hu_of64 {A : Around} {k : Nat} (hr : Room k A) : A.units + 64 < cLine := hr.units
/-- a def as it stands behind the top -/
def DefAt (K : PySem.W.Frag) (mg : Str → Option Value) (x : Str) (st : Stmt) (ps : List Str) : Prop := ∃ (f : Addr) (fd : FuncData), Fun K x x st f fd ∧ mg x = some (.ref f) ∧ Binds K fd ps []

/-! ### the bag -/
/-- what a draw gives, and the bag behind it -/
def pickF (b : Bag) (n : Int) : Int × Bag :=
  if b.len = 0 then (0, b) else match b.great with
  | g :: gs => (g % n, { b with great := if g < n then gs else (g / n) :: gs })
  | [] =>
    let cnt := b.cnt + 1
    let x1 := ((b.seed + 7919 * cnt) * 48271 + 11) % 2147483647
    let x2 := (x1 * (x1 / 1009 + 69621) + cnt) % 2147483399
    (x2 / 16 % n, { b with seed := (b.seed + x2) % 2147483629, cnt := cnt })
theorem pickF_nn {b : Bag} {n : Int} (h : 0 < n) : 0 ≤ (pickF b n).1 ∧ (pickF b n).1 < n := by
  unfold pickF
  split
  · exact ⟨Int.le_refl 0, h⟩
  · split
    · exact ⟨Int.emod_nonneg _ (by omega), Int.emod_lt_of_pos _ h⟩
    · exact ⟨Int.emod_nonneg _ (by omega), Int.emod_lt_of_pos _ h⟩
def fm_pick : MF := fun ds b => match ds with
  | [.bag, .int n] => if 0 < n ∧ n < 1073741824 then .ok (.int (pickF b n).1) (pickF b n).2 else .stuck
  | _ => .stuck
end Mr

set_option Elab.async false
set_option linter.all false
set_option maxRecDepth 100000
namespace Mr
open PySem PySem.Spec L2

theorem Wd.bag1 {c : MC} {b : Bag} {G H : Hp} (w : Wd c b G H) (seed cnt : Int) : Stp c G H G (upd H c.pb (.lst [.ref c.pg, .int seed, .int b.len, .int cnt])) ∧ Wd c { b with seed := seed, cnt := cnt } G (upd H c.pb (.lst [.ref c.pg, .int seed, .int b.len, .int cnt])) := by
  refine ⟨⟨Le.refl _, fun a u n m e => by rw [upd_ne n]; exact e, fun a h e => e, fun a h => ?_⟩, ⟨fun a u e => ?_, w.nz, w.gb, w.gg, w.ne, by rw [upd_same], by rw [upd_ne (Ne.symm w.ne)]; exact w.hg, w.bz⟩⟩
  · by_cases z : a = c.pb
    · rw [z, upd_same]; exact fun z => nomatch z
    · rw [upd_ne z]; exact h
  · have ne : a ≠ c.pb := (w.notb e).1
    rw [upd_ne ne]
    exact w.sub a u e
theorem Wd.bagG {c : MC} {b : Bag} {G H : Hp} (w : Wd c b G H) (gr : List Int) (hz : gr.length ≤ 63) : Stp c G H G (upd H c.pg (.lst (gr.map V.int))) ∧ Wd c { b with great := gr } G (upd H c.pg (.lst (gr.map V.int))) := by
  refine ⟨⟨Le.refl _, fun a u n m e => by rw [upd_ne m]; exact e, fun a h e => e, fun a h => ?_⟩, ⟨fun a u e => ?_, w.nz, w.gb, w.gg, w.ne, by rw [upd_ne w.ne]; exact w.hb, by rw [upd_same], hz⟩⟩
  · by_cases z : a = c.pg
    · rw [z, upd_same]; exact fun z => nomatch z
    · rw [upd_ne z]; exact h
  · have ne : a ≠ c.pg := (w.notb e).2
    rw [upd_ne ne]
    exact w.sub a u e
theorem Wd.lb {c : MC} {b : Bag} {G H : Hp} (w : Wd c b G H) : SqL c.K H c.pb [.ref c.pg, .int b.seed, .int b.len, .int b.cnt] := .inl (.inl w.hb)
theorem Wd.lg {c : MC} {b : Bag} {G H : Hp} (w : Wd c b G H) : SqL c.K H c.pg (b.great.map V.int) := .inl (.inl w.hg)
end Mr

set_option Elab.async false
set_option linter.all false
set_option maxRecDepth 100000
namespace Mr
open PySem PySem.Spec L2

/-! ### what a law draws of -/
def spBag (K : PySem.W.Frag) : Sp := fun vs H Q _ => ∃ (a : Addr) (ns : List Int), vs = [.ref a] ∧ SqL K H a (ns.map V.int) ∧ ns.length ≤ 63 ∧ ∀ (H' : Hp) (pb pg : Addr) (gr : List Int) (sd ln : Int), H pb = none → H pg = none → pb ≠ pg → H' pb = some (.lst [.ref pg, .int sd, .int ln, .int 0]) → H' pg = some (.lst (gr.map V.int)) → gr.length ≤ 63 → Q (.ref pb) H'
theorem lit_le {gr : List Int} (h : gr.length ≤ 63) : (gr.map V.int).length < sizeLine := by
  rw [List.length_map]
  have : sizeLine = 16777216 := sizeLine_eq
  omega
theorem cut63 {ns : List Int} (h : ns.length ≤ 63) : cutV (ns.map V.int) none (some 63) = ns.map V.int := by
  unfold cutV
  rw [HT.sIx_none, show HT.sIx (ns.map V.int).length (ns.map V.int).length (some 63) = min 63 (ns.map V.int).length from HT.sIx_nat _ _ 63]
  rw [List.drop_zero, List.take_of_length_le]
  rw [List.length_map]
  omega
theorem wd0 {K : PySem.W.Frag} {mg : Str → Option Value} {pb pg : Addr} {H : Hp} {gr : List Int} {sd ln : Int} (ne : pb ≠ pg) (hb : H pb = some (.lst [.ref pg, .int sd, .int ln, .int 0])) (hg : H pg = some (.lst (gr.map V.int))) (hz : gr.length ≤ 63) :
    Wd (cx K mg pb pg) ⟨gr, sd, ln, 0⟩ (fun _ => none) H :=
  ⟨(fun a u e => nomatch e), (fun a u e => nomatch e), rfl, rfl, ne, hb, hg, hz⟩
theorem ev0 {K : PySem.W.Frag} {mg : Str → Option Value} {pb pg : Addr} {H : Hp} {b : Bag} {v0 : Option V} {n : Nat} {r : List (Option V)} (w : Wd (cx K mg pb pg) b (fun _ => none) H) (hr : r.length = n) :
    EvOk (cx K mg pb pg) H (fun _ => none) H (.un :: .va .bag :: List.replicate n .un) (v0 :: some (.ref pb) :: r) := by
  refine ⟨by simp [hr], fun i s e => ?_, fun i j si sj p ne e1 e2 o1 o2 => ?_, w.hbne, w.hgne⟩
  · match i with
    | 0 => cases e; exact ⟨v0, rfl, trivial⟩
    | 1 =>
      cases e
      refine ⟨_, rfl, _, rfl, ?_⟩
      show Rep _ _ .bag _
      unfold Rep
      rfl
    | i + 2 =>
      have e : (List.replicate n Sl.un)[i]? = some s := e
      rw [List.getElem?_replicate] at e
      split at e
      · rename_i h
        cases e
        obtain ⟨x, hx⟩ : ∃ x, r[i]? = some x := ⟨r[i], List.getElem?_eq_getElem (by omega)⟩
        exact ⟨x, hx, trivial⟩
      · cases e
  · exfalso
    match i with
    | 0 => cases e1; cases o1
    | 1 => cases e1; cases o1
    | i + 2 =>
      have e : (List.replicate n Sl.un)[i]? = some si := e1
      rw [List.getElem?_replicate] at e
      split at e
      · cases e; cases o1
      · cases e
/-- the law's own promise -/
def spLaw (K : PySem.W.Frag) : Sp := fun vs H Q _ => ∃ (a : Addr) (ns : List Int), vs = [.ref a] ∧ SqL K H a (ns.map V.int) ∧ ns.length ≤ 63 ∧ ∀ H', Q (.bl true) H'
/-- its mirror says True of every bag -/
def Says (n : Nat) (ms : MS) : Prop := ∀ b : Bag, b.great.length ≤ 63 → ∃ b', ms (.un :: .va .bag :: List.replicate n .un) b = .rt (.bl true) b'
theorem law_tail {K : PySem.W.Frag} {mg : Str → Option Value} {n : Nat} {ms : MS} (hs : Says n ms) {Q : VK} (hq : ∀ H, Q (.bl true) H) {D : Ends} (hD : D.rt = Q) {pb pg : Addr} {H : Hp} {gr : List Int} {sd ln : Int} (ne : pb ≠ pg) (hb : H pb = some (.lst [.ref pg, .int sd, .int ln, .int 0])) (hg : H pg = some (.lst (gr.map V.int))) (hz : gr.length ≤ 63) {v0 : Option V} {r : List (Option V)} (hr : r.length = n) {E : XK} :
    tS K mg E ms D (v0 :: some (.ref pb) :: r) H := by
  have w : Wd (cx K mg pb pg) ⟨gr, sd, ln, 0⟩ (fun _ => none) H := wd0 ne hb hg hz
  refine ⟨pb, pg, _, H, _, _, _, Stp.refl _ _ _, w, ev0 w hr, ?_⟩
  obtain ⟨b', e⟩ := hs ⟨gr, sd, ln, 0⟩ hz
  rw [e]
  intro v G' H' _ _ p
  cases (show v = .bl true from p)
  rw [hD]
  exact hq H'
theorem cInt_mk {K : PySem.W.Frag} {mg : Str → Option Value} {h : Heap} (X : K.In h) (G : h.Ns mainGlobals mg) {x : Str} {i : Int} {t : Tok} (a : PySem.W.nsIn K mainGlobals x = some (some (.int i t))) : ∃ t, mg x = some (.int i t) := ⟨t, PySem.W.mg_of X G a⟩
theorem cStr_mk {K : PySem.W.Frag} {mg : Str → Option Value} {h : Heap} (X : K.In h) (G : h.Ns mainGlobals mg) {x : Str} {i : Str} {t : Tok} (a : PySem.W.nsIn K mainGlobals x = some (some (.str i t))) : ∃ t, mg x = some (.str i t) := ⟨t, PySem.W.mg_of X G a⟩
theorem defAt_mk {K : PySem.W.Frag} {mg : Str → Option Value} {h : Heap} (X : K.In h) (G : h.Ns mainGlobals mg) {x : Str} {st : Stmt} {ps : List Str} {f : Addr} {oc : Value} {od an : Option Addr} {osl : Array (Option Value)} {kV doc pm cdv ct : Value}
    (a : PySem.W.nsIn K mainGlobals x = some (some (.ref f))) (l : K.lookup f = some ⟨oc, od, .func (PySem.W.fnOf x x (defArgs st) (defBody st) (defScope st) .none kV doc pm an cdv ct), osl⟩) (c : PySem.W.codeIn K cdv x = true) (k : PySem.W.keepIn K (.ref f) = true)
    (hb : ∀ (kV doc pm : Value) (an : Option Addr) (cdv ct : Value) (us : List Value), us.length = ps.length → bindArgs (PySem.W.fnOf x x (defArgs st) (defBody st) (defScope st) .none kV doc pm an cdv ct) ⟨us, []⟩ = pure (ps.zip us)) : DefAt K mg x st ps :=
  ⟨f, _, fun_mk l c k, PySem.W.mg_of X G a, (fun_mk l c k).binds hb⟩
end Mr

set_option Elab.async false
set_option linter.all false
set_option maxRecDepth 100000
namespace Mr
open PySem PySem.Spec L2
def absI (i : Int) : Int := if i < 0 then -i else i
/-! ### the mirrors as rewrite rules -/
section
variable {env : Ev} {b : Bag} {d x y : D} {ds es : List D} {ma mb mc me : ME} {mt mu : MT} {mr : MA} {ms mv mw : MS} {g : MG} {gs : MGs} {mi : MI} {i : Nat} {n : Nat} {α β : Type}
@[simp] theorem e_mC : mC d env b = .ok d b := rfl
@[simp] theorem e_mVar0 : mVar 0 (.va d :: env) b = .ok d b := rfl
@[simp] theorem e_mVarS {s : Sl} : mVar (i + 1) (s :: env) b = mVar i env b := rfl
@[simp] theorem e_mOwn0 : mOwn 0 (.ol ds :: env) b = .ok (.lst ds) b := rfl
@[simp] theorem e_mOwn1 : mOwn 0 (.va d :: env) b = .ok d b := rfl
@[simp] theorem e_mOwn2 {ks : List Key} : mOwn 0 (.oK ks ds :: env) b = .ok (.dK ks ds) b := rfl
@[simp] theorem e_mOwn3 {ks : List (List Key)} : mOwn 0 (.oT ks ds :: env) b = .ok (.dT ks ds) b := rfl
@[simp] theorem e_mOwnS {s : Sl} : mOwn (i + 1) (s :: env) b = mOwn i env b := rfl
@[simp] theorem e_m1 {f : D → Option D} : m1 f ma env b = (ma env b).bind fun x b => R.opt (f x) b := rfl
@[simp] theorem e_m2 {f : D → D → Option D} : m2 f ma mb env b = (ma env b).bind fun x b => (mb env b).bind fun y b => R.opt (f x y) b := rfl
@[simp] theorem e_mNil : mNil env b = .ok [] b := rfl
@[simp] theorem e_mCons : mCons ma mr env b = (ma env b).bind fun x b => (mr env b).bind fun xs b => .ok (x :: xs) b := rfl
@[simp] theorem e_mB {f : List D → Option D} : mB f mr env b = (mr env b).bind fun xs b => R.opt (f xs) b := rfl
@[simp] theorem e_mT : mT ma env b = (ma env b).bind fun x b => R.opt (asB x) b := rfl
@[simp] theorem e_mAndT : mAndT mt mu env b = (mt env b).bind fun x b => if x = true then mu env b else .ok false b := rfl
@[simp] theorem e_mOrT : mOrT mt mu env b = (mt env b).bind fun x b => if x = true then .ok true b else mu env b := rfl
@[simp] theorem e_mNotT : mNotT mt env b = (mt env b).bind fun x b => .ok (!x) b := rfl
def andK (c : ME) (env : Ev) (x : D) (b : Bag) : R D := match x with
  | .bl true => c env b
  | .bl false => .ok (.bl false) b
  | _ => .stuck
def orK (c : ME) (env : Ev) (x : D) (b : Bag) : R D := match x with
  | .bl true => .ok (.bl true) b
  | .bl false => c env b
  | _ => .stuck
@[simp] theorem e_mAnd : mAnd ma mb env b = (ma env b).bind fun x b => andK mb env x b := rfl
@[simp] theorem e_mOr : mOr ma mb env b = (ma env b).bind fun x b => orK mb env x b := rfl
@[simp] theorem e_andK {k : Bool} : andK ma env (.bl k) b = if k = true then ma env b else .ok (.bl false) b := by cases k <;> rfl
@[simp] theorem e_orK {k : Bool} : orK ma env (.bl k) b = if k = true then .ok (.bl true) b else ma env b := by cases k <;> rfl
def notK (x : D) (b : Bag) : R D := match x with
  | .bl k => .ok (.bl (!k)) b
  | _ => .stuck
@[simp] theorem e_mNot : mNot ma env b = (ma env b).bind notK := rfl
@[simp] theorem e_notK {k : Bool} : notK (.bl k) b = .ok (.bl (!k)) b := rfl
@[simp] theorem e_mIf : mIf mt ma mb env b = (mt env b).bind fun x b => if x = true then ma env b else mb env b := rfl
def chK (g' : D → D → Option D) (mc : ME) (env : Ev) (y : D) (b : Bag) (o : Option D) : R D := match o with
  | some (.bl true) => (mc env b).bind fun z b => R.opt (g' y z) b
  | some (.bl false) => .ok (.bl false) b
  | _ => .stuck
@[simp] theorem e_mCh {f f' : D → D → Option D} : mCh f f' ma mb mc env b = (ma env b).bind fun x b => (mb env b).bind fun y b => chK f' mc env y b (f x y) := rfl
@[simp] theorem e_chK {f' : D → D → Option D} {k : Bool} : chK f' mc env y b (some (.bl k)) = if k = true then (mc env b).bind fun z b => R.opt (f' y z) b else .ok (.bl false) b := by cases k <;> rfl
@[simp] theorem bind_ite {c : Prop} [Decidable c] {x y : R α} {f : α → Bag → R β} : (if c then x else y).bind f = if c then x.bind f else y.bind f := by split <;> rfl
@[simp] theorem so_ite {c : Prop} [Decidable c] {x y : R α} {f : α → Bag → SO} : (if c then x else y).so f = if c then x.so f else y.so f := by split <;> rfl
@[simp] theorem sq_ite {c : Prop} [Decidable c] {x y : R α} {f : α → Bag → R β} : (if c then x else y).sq f = if c then x.sq f else y.sq f := by split <;> rfl
@[simp] theorem bind_so {x : R α} {f : α → Bag → R β} {k : β → Bag → SO} : (x.bind f).so k = x.so fun a b => (f a b).so k := by cases x <;> rfl
@[simp] theorem bind_bind {γ : Type} {x : R α} {f : α → Bag → R β} {k : β → Bag → R γ} : (x.bind f).bind k = x.bind fun a b => (f a b).bind k := by cases x <;> rfl
@[simp] theorem opt_bl {k : Bool} : R.opt (asB (.bl k)) b = .ok k b := rfl
/-- defs -/
def finK : SO → R D
  | .nx _ b => .ok .non b
  | .rt d b => .ok d b
  | .exc e b => .exc e b
  | _ => .stuck
theorem e_fnM : fnM n ms ds b = finK (ms (ds.map Sl.va ++ List.replicate (n - ds.length) .un) b) := by
  unfold fnM finK
  rfl
@[simp] theorem fin_nx : finK (.nx env b) = .ok .non b := rfl
@[simp] theorem fin_rt : finK (.rt d b) = .ok d b := rfl
@[simp] theorem fin_exc {e : Exn} : finK (.exc e b) = .exc e b := rfl
@[simp] theorem fin_ite {c : Prop} [Decidable c] {x y : SO} : finK (if c then x else y) = if c then finK x else finK y := by split <;> rfl
@[simp] theorem e_mCall {fm : MF} : mCall fm mr env b = (mr env b).bind fun ds b => fm ds b := rfl
@[simp] theorem e_mCall0 {fm : MF} : mCall0 fm mr env b = (mr env b).bind fun ds b => (fm ds b).nox := rfl
@[simp] theorem nox_ite {c : Prop} [Decidable c] {x y : R α} : (if c then x else y).nox = if c then x.nox else y.nox := by split <;> rfl
/-- statements: one, then what follows -/
def seqK (m : MS) : SO → SO
  | .nx env b => m env b
  | o => o
@[simp] theorem e_seq : sSeq ms mv env b = seqK mv (ms env b) := by
  unfold sSeq seqK
  rfl
@[simp] theorem seq_nx : seqK ms (.nx env b) = ms env b := rfl
@[simp] theorem seq_rt : seqK ms (.rt d b) = .rt d b := rfl
@[simp] theorem seq_exc {e : Exn} : seqK ms (.exc e b) = .exc e b := rfl
@[simp] theorem seq_bk : seqK ms (.bk env b) = .bk env b := rfl
@[simp] theorem seq_ct : seqK ms (.ct env b) = .ct env b := rfl
@[simp] theorem seq_ite {c : Prop} [Decidable c] {x y : SO} : seqK ms (if c then x else y) = if c then seqK ms x else seqK ms y := by split <;> rfl
@[simp] theorem e_skip : sSkip env b = .nx env b := rfl
@[simp] theorem e_bk : sBk env b = .bk env b := rfl
@[simp] theorem e_ct : sCt env b = .ct env b := rfl
@[simp] theorem e_drop : sDrop ma env b = (ma env b).so fun _ b => .nx env b := rfl
@[simp] theorem e_ret : sRet ma env b = (ma env b).so fun d b => .rt d b := rfl
@[simp] theorem e_retN : sRetN env b = .rt .non b := rfl
@[simp] theorem e_if : sIf mt ms mv env b = (mt env b).so fun k b => if k = true then ms env b else mv env b := rfl
def asgK (b : Bag) : Option Ev → SO
  | some env => .nx env b
  | none => .stuck
@[simp] theorem e_asg : sAsg g ma env b = (ma env b).so fun d b => asgK b (g d env) := rfl
@[simp] theorem e_asgK : asgK b (some env) = .nx env b := rfl
@[simp] theorem e_gNm : gNm i d env = some (env.set i (.va d)) := rfl
@[simp] theorem e_gNl : gNl [] env = some env := rfl
@[simp] theorem e_gCn : gCn g gs (d :: ds) env = (g d env).bind fun env => gs ds env := rfl
@[simp] theorem e_gTp : gTp gs (.tup ds) env = gs ds env := rfl
def ownK (env : Ev) (i : Nat) (b : Bag) : Option Sl → SO
  | some s => .nx (env.set i s) b
  | none => .stuck
@[simp] theorem e_own : sOwn i ma env b = (ma env b).so fun d b => ownK env i b (ownS d) := rfl
@[simp] theorem e_ownK {s : Sl} : ownK env i b (some s) = .nx (env.set i s) b := rfl
@[simp] theorem e_ownL : ownS (.lst ds) = some (.ol ds) := rfl
@[simp] theorem e_ownD {ks : List Key} : ownS (.dK ks ds) = some (.oK ks ds) := rfl
@[simp] theorem e_frz : sFrz i ms env b = ms (frz env i) b := rfl
@[simp] theorem e_frz0 : frz (.ol ds :: env) 0 = .va (.lst ds) :: env := rfl
@[simp] theorem e_frz1 : frz (.va d :: env) 0 = .va d :: env := rfl
@[simp] theorem e_frz2 {ks : List Key} : frz (.oK ks ds :: env) 0 = .va (.dK ks ds) :: env := rfl
@[simp] theorem e_frz3 {ks : List (List Key)} : frz (.oT ks ds :: env) 0 = .va (.dT ks ds) :: env := rfl
@[simp] theorem e_frz4 : frz (.un :: env) 0 = .un :: env := rfl
@[simp] theorem e_frzS {s : Sl} : frz (s :: env) (i + 1) = s :: frz env i := by
  unfold frz
  rw [List.getElem?_cons_succ]
  cases env[i]? <;> rfl
def methK (env : Ev) (i : Nat) (b : Bag) : Option (List D) → SO
  | some ds' => .nx (env.set i (.ol ds')) b
  | none => .stuck
@[simp] theorem e_methK : methK env i b (some ds) = .nx (env.set i (.ol ds)) b := rfl
@[simp] theorem e_for : sFor mi g ms env b = (mi env b).so fun ds b => forL g ms ds env b := rfl
@[simp] theorem e_while {t : MT} : sWhile n t ms env b = whl t ms n env b := rfl
@[simp] theorem e_lc {vs : List Nat} : mLc mi g mt me vs env b = (mi env b).bind fun ds b => if ds.length ≤ 100000 then (lcL g mt me (wipeE env vs) ds b).bind fun r b => .ok (.lst r) b else .stuck := rfl
@[simp] theorem e_yes : mYes env b = .ok true b := rfl
@[simp] theorem e_mSeq : mSeq ma env b = (ma env b).bind fun d b => R.opt (seqD d) b := rfl
@[simp] theorem e_seqT : seqD (.tup ds) = some ds := rfl
@[simp] theorem e_seqL : seqD (.lst ds) = some ds := rfl
def rgK (d : D) (b : Bag) : R (List D) := match d with
  | .int n => if -1000000 ≤ n ∧ n ≤ 1000000 then .ok ((List.range n.toNat).map fun i => .int (i : Nat)) b else .stuck
  | _ => .stuck
@[simp] theorem e_rg1 : mRg1 ma env b = (ma env b).bind rgK := rfl
@[simp] theorem e_rgK {n : Int} : rgK (.int n) b = if -1000000 ≤ n ∧ n ≤ 1000000 then .ok ((List.range n.toNat).map fun i => .int (i : Nat)) b else .stuck := rfl
def rg2K (d e : D) (b : Bag) : R (List D) := match d, e with
  | .int l, .int n => if -1000000 ≤ l ∧ l ≤ 1000000 ∧ -1000000 ≤ n ∧ n ≤ 1000000 then .ok ((List.range (n - l).toNat).map fun i => .int (l + (i : Nat))) b else .stuck
  | _, _ => .stuck
@[simp] theorem e_rg2 : mRg2 ma mb env b = (ma env b).bind fun d b => (mb env b).bind fun e b => rg2K d e b := rfl
@[simp] theorem e_rg2K {l n : Int} : rg2K (.int l) (.int n) b = if -1000000 ≤ l ∧ l ≤ 1000000 ∧ -1000000 ≤ n ∧ n ≤ 1000000 then .ok ((List.range (n - l).toNat).map fun i => .int (l + (i : Nat))) b else .stuck := rfl
def enK (d : D) (b : Bag) : R (List D) := match d with
  | .lst ds => .ok (enumD 0 ds) b
  | _ => .stuck
@[simp] theorem e_en : mEnumL ma env b = (ma env b).bind enK := rfl
@[simp] theorem e_enK : enK (.lst ds) b = .ok (enumD 0 ds) b := rfl
@[simp] theorem e_mTup : mTup mr env b = (mr env b).bind fun xs b => if xs.length ≤ 100000 then .ok (.tup xs) b else .stuck := rfl
@[simp] theorem e_mLst : mLst mr env b = (mr env b).bind fun xs b => if xs.length ≤ 100000 then .ok (.lst xs) b else .stuck := rfl
@[simp] theorem e_for0 : forL g ms [] env b = .nx env b := rfl
@[simp] theorem e_lc0 : lcL g mt me env [] b = .ok [] b := rfl
@[simp] theorem e_wipe0 : wipeE env [] = env := rfl
@[simp] theorem e_wipeS {v : Nat} {vs : List Nat} : wipeE env (v :: vs) = (wipeE env vs).set v .un := rfl
/-- operations -/
@[simp] theorem o_add {p q : Int} : addG (.int p) (.int q) = some (.int (p + q)) := rfl
@[simp] theorem o_addL {p q : List D} : addG (.lst p) (.lst q) = if p.length + q.length ≤ 100000 then some (.lst (p ++ q)) else none := rfl
@[simp] theorem o_addT {p q : List D} : addG (.tup p) (.tup q) = if p.length + q.length ≤ 100000 then some (.tup (p ++ q)) else none := rfl
@[simp] theorem o_sub {p q : Int} : subG (.int p) (.int q) = some (.int (p - q)) := rfl
@[simp] theorem o_mul {p q : Int} : mulG (.int p) (.int q) = if smallI p = true ∨ smallI q = true then some (.int (p * q)) else none := rfl
@[simp] theorem o_div {p q : Int} : divG (.int p) (.int q) = if 0 < q ∧ q < 1073741824 then some (.int (p / q)) else none := rfl
@[simp] theorem o_mod {p q : Int} : modG (.int p) (.int q) = if 0 < q then some (.int (p % q)) else none := rfl
@[simp] theorem o_lt {p q : Int} : ltG (.int p) (.int q) = some (.bl (decide (p < q))) := rfl
@[simp] theorem o_le {p q : Int} : leG (.int p) (.int q) = some (.bl (decide (p ≤ q))) := rfl
@[simp] theorem o_gt {p q : Int} : gtG (.int p) (.int q) = some (.bl (decide (q < p))) := rfl
@[simp] theorem o_ge {p q : Int} : geG (.int p) (.int q) = some (.bl (decide (q ≤ p))) := rfl
@[simp] theorem o_neg {p : Int} : negG (.int p) = some (.int (-p)) := rfl
@[simp] theorem o_is : isG d .non = some (.bl (isNonD d)) := rfl
@[simp] theorem o_isn : isnG d .non = some (.bl (!isNonD d)) := rfl
@[simp] theorem o_non : isNonD .non = true := rfl
@[simp] theorem o_nonI {p : Int} : isNonD (.int p) = false := rfl
@[simp] theorem o_lenT : lenG [.tup ds] = some (.int ds.length) := rfl
@[simp] theorem o_lenL : lenG [.lst ds] = some (.int ds.length) := rfl
@[simp] theorem o_abs {p : Int} : absG [.int p] = some (.int (absI p)) := rfl
@[simp] theorem o_min {p q : Int} : min2G [.int p, .int q] = some (.int (if q < p then q else p)) := rfl
@[simp] theorem o_max {p q : Int} : max2G [.int p, .int q] = some (.int (if q > p then q else p)) := rfl
@[simp] theorem o_ixT {p : Int} : ixG (.tup ds) (.int p) = atI ds p := rfl
@[simp] theorem o_ixL {p : Int} : ixG (.lst ds) (.int p) = atI ds p := rfl
@[simp] theorem o_tupL : tupleG [.lst ds] = some (.tup ds) := rfl
@[simp] theorem o_tupT : tupleG [.tup ds] = some (.tup ds) := rfl
@[simp] theorem o_lstL : listG [.lst ds] = some (.lst ds) := rfl
@[simp] theorem o_lstT : listG [.tup ds] = some (.lst ds) := rfl
@[simp] theorem o_revL : revG (.lst ds) = some (.lst ds.reverse) := rfl
@[simp] theorem o_revT : revG (.tup ds) = some (.tup ds.reverse) := rfl
@[simp] theorem o_boolI {p : Int} : boolG [.int p] = some (.bl (p != 0)) := rfl
@[simp] theorem o_boolB {k : Bool} : boolG [.bl k] = some (.bl k) := rfl
@[simp] theorem o_all {bs : List Bool} : allG [.lst (bs.map D.bl)] = some (.bl (bs.all id)) := by
  show (blsD _).map _ = _
  rw [blsD_map]
  rfl
@[simp] theorem o_any {bs : List Bool} : anyG [.lst (bs.map D.bl)] = some (.bl (bs.any id)) := by
  show (blsD _).map _ = _
  rw [blsD_map]
  rfl
theorem ok_int {p : Int} : okD (.int p) = true := by
  show SeqAt.shaped (.int p) = true
  rfl
theorem ok_bl {p : Bool} : okD (.bl p) = true := rfl
@[simp] theorem o_eqI {p q : Int} : eqG (.int p) (.int q) = some (.bl (decide (p = q))) := by
  unfold eqG
  rw [if_pos ⟨ok_int, ok_int⟩]
  show some (D.bl (PyData.eqv (.int p) (.int q))) = _
  rw [show PyData.eqv (.int p) (.int q) = (p == q) from rfl]
  congr 2
end
end Mr

set_option Elab.async false
set_option linter.all false
set_option maxRecDepth 100000
namespace Mr
open PySem PySem.Spec L2
section
variable {env : Ev} {b : Bag} {d x y : D} {ds es : List D} {ma mb mc me : ME} {mt mu : MT} {mr : MA} {ms mv mw : MS} {g : MG} {gs : MGs} {mi : MI} {i : Nat} {n : Nat} {α β ι : Type}
@[simp] theorem e_slNil : slNil env b = .ok [] b := rfl
@[simp] theorem e_slM {r : MSl} : slM ma r env b = (ma env b).bind fun d b => (r env b).bind fun ss b => .ok (.va d :: ss) b := rfl
def slK (r : MSl) (env : Ev) (b : Bag) : Option Sl → R (List Sl)
  | some s => (r env b).bind fun ss b => .ok (s :: ss) b
  | none => .stuck
@[simp] theorem e_slF {r : MSl} : slF ma r env b = (ma env b).bind fun d b => slK r env b (ownS d) := rfl
@[simp] theorem e_slK {r : MSl} {s : Sl} : slK r env b (some s) = (r env b).bind fun ss b => .ok (s :: ss) b := rfl
@[simp] theorem e_par {is : List Nat} {r : MSl} : sPar is r env b = (r env b).so fun ss b => asgK b (setAll env is ss) := rfl
@[simp] theorem e_setAll0 : setAll env [] [] = some env := rfl
@[simp] theorem e_setAll1 {is : List Nat} {s : Sl} {ss : List Sl} : setAll env (i :: is) (s :: ss) = setAll (env.set i s) is ss := rfl
def olK (f : List D → List D → Option (List D)) (mr : MA) (env : Ev) (i : Nat) (b : Bag) : Option Sl → SO
  | some (.ol ds) => (mr env b).so fun as b => methK env i b (f ds as)
  | _ => .stuck
@[simp] theorem e_methO {f : List D → List D → Option (List D)} : sMeth i mr f env b = olK f mr env i b env[i]? := by
  unfold sMeth olK methK
  cases env[i]? with
  | none => rfl
  | some s => cases s <;> rfl
@[simp] theorem e_olK {f : List D → List D → Option (List D)} : olK f mr env i b (some (.ol ds)) = (mr env b).so fun as b => methK env i b (f ds as) := rfl
@[simp] theorem o_app : appG ds [d] = if ds.length < 100000 then some (ds ++ [d]) else none := rfl
@[simp] theorem o_ins {k : Int} : insG ds [.int k, d] = if ds.length < 100000 ∧ 0 ≤ k ∧ k < 1000000 then some (ds.take k.toNat ++ [d] ++ ds.drop k.toNat) else none := rfl
@[simp] theorem at0 : atI (d :: ds) 0 = some d := atI_nat (j := 0) rfl
@[simp] theorem at1 : atI (d :: x :: ds) 1 = some x := atI_nat (j := 1) rfl
theorem at_nat (k : Nat) : atI ds (k : Int) = ds[k]? := by
  cases h : ds[k]? with
  | none =>
    unfold atI ixN
    have : ds.length ≤ k := by simpa using h
    split <;> simp_all <;> omega
  | some d => exact atI_nat h
/-- a comprehension whose parts change nothing -/
theorem lc_pure (l : List ι) (enc : ι → D) (p : ι → Bool) (f : ι → D) (h : ∀ x ∈ l, ∃ env1, g (enc x) env = some env1 ∧ mt env1 b = .ok (p x) b ∧ (p x = true → me env1 b = .ok (f x) b)) : lcL g mt me env (l.map enc) b = .ok ((l.filter p).map f) b := by
  induction l with
  | nil => rfl
  | cons x l ih =>
    obtain ⟨env1, h1, h2, h3⟩ := h x (List.mem_cons_self)
    have ih := ih fun y hy => h y (List.mem_cons_of_mem _ hy)
    rw [List.map_cons]
    unfold lcL
    rw [h1]
    dsimp only
    rw [h2]
    by_cases hp : p x = true
    · simp [h3 hp, ih, hp]
    · simp [ih, hp]
theorem lc_all (l : List ι) (enc : ι → D) (f : ι → D) (h : ∀ x ∈ l, ∃ env1, g (enc x) env = some env1 ∧ me env1 b = .ok (f x) b) : lcL g mYes me env (l.map enc) b = .ok (l.map f) b := by
  rw [lc_pure l enc (fun _ => true) f fun x hx => by obtain ⟨e, h1, h2⟩ := h x hx; exact ⟨e, h1, rfl, fun _ => h2⟩]
  rw [List.filter_eq_self.mpr (fun _ _ => rfl)]
/-- the same on the data themselves -/
theorem lc_all' (f : D → D) (h : ∀ x ∈ ds, ∃ env1, g x env = some env1 ∧ me env1 b = .ok (f x) b) : lcL g mYes me env ds b = .ok (ds.map f) b := by
  have := lc_all (g := g) (me := me) (env := env) (b := b) ds id f h
  rwa [List.map_id] at this
/-- a comprehension that draws: what all it makes are -/
theorem lc_draw {I : Bag → Prop} {Q : D → Prop} (h : ∀ x ∈ ds, ∀ b, I b → ∃ env1, g x env = some env1 ∧ ∃ k b1, mt env1 b = .ok k b1 ∧ I b1 ∧ (k = true → ∃ y b2, me env1 b1 = .ok y b2 ∧ I b2 ∧ Q y)) :
    ∀ b, I b → ∃ r b', lcL g mt me env ds b = .ok r b' ∧ I b' ∧ (∀ y ∈ r, Q y) ∧ r.length ≤ ds.length := by
  induction ds with
  | nil => exact fun b hb => ⟨[], b, rfl, hb, fun y hy => by simp at hy, by simp⟩
  | cons x l ih =>
    intro b hb
    obtain ⟨env1, h1, k, b1, h2, hb1, h3⟩ := h x List.mem_cons_self b hb
    have ih := ih fun y hy => h y (List.mem_cons_of_mem _ hy)
    unfold lcL
    rw [h1]
    dsimp only
    rw [h2]
    cases k with
    | false =>
      obtain ⟨r, b', e, i, q, l⟩ := ih b1 hb1
      exact ⟨r, b', by simpa using e, i, q, by simp; omega⟩
    | true =>
      obtain ⟨y, b2, e2, hb2, q2⟩ := h3 rfl
      obtain ⟨r, b', e, i, q, l⟩ := ih b2 hb2
      refine ⟨y :: r, b', by simp [e2, e], i, fun z hz => ?_, by simp; omega⟩
      rcases List.mem_cons.mp hz with rfl | hz
      · exact q2
      · exact q z hz
/-- a loop that keeps I: it ends, or hands back something that T allows -/
theorem for_inv {I : List D → Ev → Bag → Prop} {T : SO → Prop} (h : ∀ x l env b, I (x :: l) env b → ∃ env1, g x env = some env1 ∧ ((∃ env2 b2, (ms env1 b = .nx env2 b2 ∨ ms env1 b = .ct env2 b2) ∧ I l env2 b2) ∨ (T (ms env1 b) ∧ ((∃ d b2, ms env1 b = .rt d b2) ∨ ∃ e b2, ms env1 b = .exc e b2)))) :
    ∀ ds env b, I ds env b → (∃ env' b', forL g ms ds env b = .nx env' b' ∧ I [] env' b') ∨ T (forL g ms ds env b) := by
  intro ds
  induction ds with
  | nil => exact fun env b hb => .inl ⟨env, b, rfl, hb⟩
  | cons x l ih =>
    intro env b hb
    obtain ⟨env1, h1, h2⟩ := h x l env b hb
    unfold forL
    rw [h1]
    dsimp only
    rcases h2 with ⟨env2, b2, e | e, i⟩ | ⟨t, ⟨d, b2, e⟩ | ⟨e', b2, e⟩⟩
    · rw [e]; exact ih env2 b2 i
    · rw [e]; exact ih env2 b2 i
    · rw [e] at t ⊢; exact .inr t
    · rw [e] at t ⊢; exact .inr t
/-- a loop that always goes on -/
theorem for_go {I : List D → Ev → Bag → Prop} (h : ∀ x l env b, I (x :: l) env b → ∃ env1, g x env = some env1 ∧ ∃ env2 b2, (ms env1 b = .nx env2 b2 ∨ ms env1 b = .ct env2 b2) ∧ I l env2 b2) :
    ∀ ds env b, I ds env b → ∃ env' b', forL g ms ds env b = .nx env' b' ∧ I [] env' b' := by
  intro ds env b hb
  rcases for_inv (T := fun _ => False) (fun x l env b hb => by
    obtain ⟨env1, h1, h2⟩ := h x l env b hb
    exact ⟨env1, h1, .inl h2⟩) ds env b hb with h | h
  · exact h
  · exact h.elim
end
/-! ### kinds of data -/
inductive Pl : D → Prop
  | non : Pl .non
  | bl (k : Bool) : Pl (.bl k)
  | int (k : Int) : Pl (.int k)
  | str (k : Str) : Pl (.str k)
  | tup {ds : List D} (h : ∀ d ∈ ds, Pl d) : Pl (.tup ds)
  | lst {ds : List D} (h : ∀ d ∈ ds, Pl d) : Pl (.lst ds)
  | dK (ks : List Key) (ds : List D) : Pl (.dK ks ds)
def isTup : D → Bool
  | .tup _ => true
  | _ => false
def isLst : D → Bool
  | .lst _ => true
  | _ => false
def isBl : D → Bool
  | .bl _ => true
  | _ => false
def isStr : D → Bool
  | .str _ => true
  | _ => false
def isInB : D → Bool
  | .int _ => true
  | .bl _ => true
  | _ => false
/-- an int that is no flag -/
def intB : D → Bool
  | .int _ => true
  | _ => false
section
variable {d : D}
theorem isi_int (h : Pl d) : isiG "int" d = some (.bl (isInB d)) := by cases h <;> rfl
theorem isi_bool (h : Pl d) : isiG "bool" d = some (.bl (isBl d)) := by cases h <;> rfl
theorem isi_tuple (h : Pl d) : isiG "tuple" d = some (.bl (isTup d)) := by cases h <;> rfl
theorem isi_list (h : Pl d) : isiG "list" d = some (.bl (isLst d)) := by cases h <;> rfl
theorem isi_str (h : Pl d) : isiG "str" d = some (.bl (isStr d)) := by cases h <;> rfl
theorem isi_lt (h : Pl d) : isi2G "list" "tuple" d = some (.bl (isLst d || isTup d)) := by cases h <;> rfl
theorem isi_tl (h : Pl d) : isi2G "tuple" "list" d = some (.bl (isTup d || isLst d)) := by cases h <;> rfl
theorem of_tup (h : Pl d) (t : isTup d = true) : ∃ ds, d = .tup ds ∧ ∀ x ∈ ds, Pl x := by
  cases h <;> first | (cases t; done) | skip
  exact ⟨_, rfl, by assumption⟩
theorem of_int (t : intB d = true) : ∃ i, d = .int i := by
  cases d <;> first | (cases t; done) | skip
  exact ⟨_, rfl⟩
end
@[simp] theorem o_allM {ι : Type} {l : List ι} {f : ι → Bool} : allG [.lst (l.map fun x => .bl (f x))] = some (.bl (l.all f)) := by
  rw [show (l.map fun x => D.bl (f x)) = (l.map f).map D.bl by simp [Function.comp_def], o_all, List.all_map]
  rfl
@[simp] theorem o_anyM {ι : Type} {l : List ι} {f : ι → Bool} : anyG [.lst (l.map fun x => .bl (f x))] = some (.bl (l.any f)) := by
  rw [show (l.map fun x => D.bl (f x)) = (l.map f).map D.bl by simp [Function.comp_def], o_any, List.any_map]
  rfl
theorem eqv_int (p q : Int) : eqv (.int p) (.int q) = decide (p = q) := by
  rw [show eqv (.int p) (.int q) = (p == q) from rfl, Bool.eq_iff_iff]
  simp
@[simp] theorem o_neI {p q : Int} : neG (.int p) (.int q) = some (.bl (!decide (p = q))) := by
  unfold neG
  rw [if_pos ⟨ok_int, ok_int⟩, eqv_int]
@[simp] theorem o_neB {p q : Bool} : neG (.bl p) (.bl q) = some (.bl (p != q)) := by
  cases p <;> cases q <;> rfl
@[simp] theorem o_eqB {p q : Bool} : eqG (.bl p) (.bl q) = some (.bl (p == q)) := by
  cases p <;> cases q <;> rfl
theorem flat_ints (ns : List Int) : (ns.map D.int).all flatD = true := by
  induction ns with
  | nil => rfl
  | cons n ns ih => rw [List.map_cons, List.all_cons, ih]; rfl
theorem any_ints (ns : List Int) (p : Int) : ((ns.map D.int).any fun z => eqv z (.int p)) = ns.contains p := by
  induction ns with
  | nil => rfl
  | cons n ns ih =>
    rw [List.map_cons, List.any_cons, ih, eqv_int, List.contains_cons]
    congr 1
    rw [Bool.eq_iff_iff, decide_eq_true_iff, beq_iff_eq]
    exact ⟨Eq.symm, Eq.symm⟩
@[simp] theorem o_inL {neg : Bool} {p : Int} {ns : List Int} : inG neg (.int p) (.lst (ns.map D.int)) = some (.bl (neg ^^ ns.contains p)) := by
  show (if _ then _ else _) = _
  rw [if_pos ⟨rfl, flat_ints ns⟩, any_ints]
@[simp] theorem o_inT {neg : Bool} {p : Int} {ns : List Int} : inG neg (.int p) (.tup (ns.map D.int)) = some (.bl (neg ^^ ns.contains p)) := by
  show (if _ then _ else _) = _
  rw [if_pos ⟨rfl, flat_ints ns⟩, any_ints]
@[simp] theorem t_tt {ds : List D} : isiG "tuple" (.tup ds) = some (.bl true) := rfl
@[simp] theorem t_tl {ds : List D} : isiG "tuple" (.lst ds) = some (.bl false) := rfl
@[simp] theorem t_ti {i : Int} : isiG "tuple" (.int i) = some (.bl false) := rfl
@[simp] theorem t_tb {i : Bool} : isiG "tuple" (.bl i) = some (.bl false) := rfl
@[simp] theorem t_tn : isiG "tuple" .non = some (.bl false) := rfl
@[simp] theorem t_ts {i : Str} : isiG "tuple" (.str i) = some (.bl false) := rfl
@[simp] theorem t_ii {i : Int} : isiG "int" (.int i) = some (.bl true) := rfl
@[simp] theorem t_ib {i : Bool} : isiG "int" (.bl i) = some (.bl true) := rfl
@[simp] theorem t_in : isiG "int" .non = some (.bl false) := rfl
@[simp] theorem t_it {ds : List D} : isiG "int" (.tup ds) = some (.bl false) := rfl
@[simp] theorem t_il {ds : List D} : isiG "int" (.lst ds) = some (.bl false) := rfl
@[simp] theorem t_is {i : Str} : isiG "int" (.str i) = some (.bl false) := rfl
@[simp] theorem t_bi {i : Int} : isiG "bool" (.int i) = some (.bl false) := rfl
@[simp] theorem t_bb {i : Bool} : isiG "bool" (.bl i) = some (.bl true) := rfl
@[simp] theorem t_ltl {ds : List D} : isi2G "list" "tuple" (.lst ds) = some (.bl true) := rfl
@[simp] theorem t_ltt {ds : List D} : isi2G "list" "tuple" (.tup ds) = some (.bl true) := rfl
@[simp] theorem b_int {i : Int} : intB (.int i) = true := rfl
@[simp] theorem b_tup {ds : List D} : isTup (.tup ds) = true := rfl
@[simp] theorem b_lst {ds : List D} : isLst (.lst ds) = true := rfl
end Mr

namespace Mr
open PySem PySem.Spec L2
def topS (i : Nat) : Stmt := PySem.Challenge.pw_mapwebs_k46_whole_pairings_and_bans_judg.main.body.getD i (.Pass ⟨0, 0, 0, 0⟩)
abbrev s__law_bag : Stmt := topS 23
abbrev s__law_pick : Stmt := topS 24
abbrev s__law_some : Stmt := topS 25
abbrev s__law_bar : Stmt := topS 32
abbrev s__law_moved : Stmt := topS 33
abbrev s__law_lists : Stmt := topS 34
abbrev s__law_deep : Stmt := topS 38
abbrev s__law_fits : Stmt := topS 26
abbrev s__law_drawn : Stmt := topS 39
abbrev s__law_is_flag : Stmt := topS 41
abbrev s__law_bent : Stmt := topS 40
abbrev s_is_integer : Stmt := topS 5
abbrev s_is_within : Stmt := topS 6
abbrev s_is_bar : Stmt := topS 14
abbrev s_check_bars : Stmt := topS 15
abbrev s_check_within : Stmt := topS 8
abbrev s_check_asked : Stmt := topS 18
abbrev s_is_long : Stmt := topS 17
abbrev s_is_number : Stmt := topS 7
abbrev s_is_number_pair : Stmt := topS 19
abbrev s_do_fit : Stmt := topS 16
abbrev s_is_pairing : Stmt := topS 20
abbrev s__law_is_long : Stmt := topS 27
abbrev s__law_is_number : Stmt := topS 35
abbrev s__law_is_pairing : Stmt := topS 36
abbrev s_is_lot : Stmt := topS 9
abbrev s_is_ban : Stmt := topS 21
abbrev s__law_is_ban : Stmt := topS 37
abbrev s__law_lots : Stmt := topS 42
abbrev s_law : Stmt := topS 43
def fm__law_pick : MF := fm_pick
def ms__law_some : MS := (sRet (m2 ixG (mVar 1) (mCall0 fm__law_pick (mCons (mVar 0) (mCons (mB lenG (mCons (mVar 1) mNil)) mNil)))))
def fm__law_some : MF := fnM 2 ms__law_some
def ms__law_bar : MS := (sSeq (sAsg (gNm 2) (m2 subG (mCall0 fm__law_pick (mCons (mVar 0) (mCons (m2 addG (m2 mulG (mC (.int 2)) (mVar 1)) (mC (.int 1))) mNil))) (mVar 1))) (sSeq (sIf (mOrT (mT (m2 eqG (mCall0 fm__law_pick (mCons (mVar 0) (mCons (mC (.int 4)) mNil))) (mC (.int 0)))) (mT (m2 eqG (mVar 2) (mVar 1)))) (sRet (mTup (mCons (mB min2G (mCons (mVar 2) (mCons (mC (.int 999)) mNil))) (mCons (mC .non) mNil)))) sSkip) (sRet (mTup (mCons (mVar 2) (mCons (m2 addG (m2 addG (mVar 2) (mC (.int 1))) (mCall0 fm__law_pick (mCons (mVar 0) (mCons (mB min2G (mCons (m2 subG (mVar 1) (mVar 2)) (mCons (m2 addG (mC (.int 1)) (mCall0 fm__law_some (mCons (mVar 0) (mCons (mLst (mCons (mC (.int 2)) (mCons (mC (.int 6)) (mCons (m2 mulG (mC (.int 2)) (mVar 1)) mNil)))) mNil)))) mNil))) mNil)))) mNil))))))
def fm__law_bar : MF := fnM 3 ms__law_bar
def ms__law_moved : MS := (sSeq (sAsg (gNm 3) (mB max2G (mCons (m1 negG (mVar 2)) (mCons (mB min2G (mCons (m2 subG (mVar 2) (mC (.int 1))) (mCons (m2 subG (m2 addG (m2 ixG (mVar 1) (mC (.int 0))) (mCall0 fm__law_pick (mCons (mVar 0) (mCons (mC (.int 5)) mNil)))) (mC (.int 2))) mNil))) mNil)))) (sSeq (sIf (mT (m2 isG (m2 ixG (mVar 1) (mC (.int 1))) (mC .non))) (sRet (mTup (mCons (mVar 3) (mCons (mC .non) mNil)))) sSkip) (sRet (mTup (mCons (mVar 3) (mCons (mB max2G (mCons (m2 addG (mVar 3) (mC (.int 1))) (mCons (mB min2G (mCons (mVar 2) (mCons (m2 subG (m2 addG (m2 ixG (mVar 1) (mC (.int 1))) (mCall0 fm__law_pick (mCons (mVar 0) (mCons (mC (.int 5)) mNil)))) (mC (.int 2))) mNil))) mNil))) mNil))))))
def fm__law_moved : MF := fnM 4 ms__law_moved
def ms__law_lists : MS := (sSeq (sAsg (gNm 3) (mLc (mRg1 (mCall0 fm__law_pick (mCons (mVar 0) (mCons (m2 addG (mVar 2) (mC (.int 1))) mNil)))) (gNm 6) mYes (mCall0 fm__law_bar (mCons (mVar 0) (mCons (mVar 1) mNil))) [6])) (sSeq (sOwn 4 (mLst mNil)) (sSeq (sFor (mSeq (mVar 3)) (gNm 5) (sIf (mT (m2 gtG (mCall0 fm__law_pick (mCons (mVar 0) (mCons (mC (.int 6)) mNil))) (mC (.int 0)))) (sMeth 4 (mCons (mCall0 fm__law_pick (mCons (mVar 0) (mCons (m2 addG (mB lenG (mCons (mOwn 4) mNil)) (mC (.int 1))) mNil))) (mCons (mCall0 fm__law_moved (mCons (mVar 0) (mCons (mVar 5) (mCons (mVar 1) mNil)))) mNil)) insG) sSkip)) (sSeq (sWhile 50 (mAndT (mT (m2 ltG (mB lenG (mCons (mOwn 4) mNil)) (mVar 2))) (mT (m2 eqG (mCall0 fm__law_pick (mCons (mVar 0) (mCons (mC (.int 3)) mNil))) (mC (.int 0))))) (sMeth 4 (mCons (mCall0 fm__law_bar (mCons (mVar 0) (mCons (mVar 1) mNil))) mNil) appG)) (sFrz 4 (sRet (mTup (mCons (mVar 3) (mCons (mVar 4) mNil)))))))))
def fm__law_lists : MF := fnM 7 ms__law_lists
def ms__law_deep : MS := (sSeq (sAsg (gNm 1) (mCall0 fm__law_some (mCons (mVar 0) (mCons (mLst (mCons (mC (.int 0)) (mCons (mC (.str "x")) (mCons (mC .non) mNil)))) mNil)))) (sSeq (sFor (mRg1 (m2 addG (mC (.int 1)) (mCall0 fm__law_pick (mCons (mVar 0) (mCons (mC (.int 38)) mNil))))) (gNm 2) (sAsg (gNm 1) (mIf (mT (m2 eqG (mCall0 fm__law_pick (mCons (mVar 0) (mCons (mC (.int 2)) mNil))) (mC (.int 0)))) (mLst (mCons (mVar 1) mNil)) (mTup (mCons (mVar 1) mNil))))) (sRet (mVar 1))))
def fm__law_deep : MF := fnM 3 ms__law_deep
def ms__law_fits : MS := (sSeq (sIf (mT (m2 gtG (mB absG (mCons (m2 subG (m2 ixG (mVar 0) (mC (.int 0))) (m2 ixG (mVar 1) (mC (.int 0)))) mNil)) (mVar 2))) (sRet (mC (.bl false))) sSkip) (sSeq (sIf (mOrT (mT (m2 isG (m2 ixG (mVar 0) (mC (.int 1))) (mC .non))) (mT (m2 isG (m2 ixG (mVar 1) (mC (.int 1))) (mC .non)))) (sRet (mAnd (m2 isG (m2 ixG (mVar 0) (mC (.int 1))) (mC .non)) (m2 isG (m2 ixG (mVar 1) (mC (.int 1))) (mC .non)))) sSkip) (sRet (m2 leG (mB absG (mCons (m2 subG (m2 ixG (mVar 0) (mC (.int 1))) (m2 ixG (mVar 1) (mC (.int 1)))) mNil)) (mVar 2)))))
def fm__law_fits : MF := fnM 3 ms__law_fits
def ms__law_drawn : MS := (sSeq (sPar [4, 5] (slF (mLst mNil) (slF (mLst mNil) slNil))) (sSeq (sFor (mEnumL (mVar 1)) (gTp (gCn (gNm 6) (gCn (gNm 7) gNl))) (sSeq (sAsg (gNm 8) (mLc (mEnumL (mVar 2)) (gTp (gCn (gNm 9) (gCn (gNm 10) gNl))) (mAndT (mT (m2 (inG true) (mVar 9) (mOwn 5))) (mT (mCall0 fm__law_fits (mCons (mVar 7) (mCons (mVar 10) (mCons (mVar 3) mNil)))))) (mVar 9) [9, 10])) (sIf (mAndT (mT (m2 gtG (mB lenG (mCons (mVar 8) mNil)) (mC (.int 0)))) (mT (m2 gtG (mCall0 fm__law_pick (mCons (mVar 0) (mCons (mC (.int 6)) mNil))) (mC (.int 0))))) (sSeq (sMeth 5 (mCons (mCall0 fm__law_some (mCons (mVar 0) (mCons (mVar 8) mNil))) mNil) appG) (sMeth 4 (mCons (mTup (mCons (mVar 6) (mCons (m2 ixG (mOwn 5) (m1 negG (mC (.int 1)))) mNil))) mNil) appG)) sSkip))) (sFrz 4 (sRet (mVar 4)))))
def fm__law_drawn : MF := fnM 11 ms__law_drawn
def ms__law_is_flag : MS := (sRet (mAnd (m1 (isiG "bool") (mVar 0)) (m2 eqG (mVar 0) (mVar 1))))
def fm__law_is_flag : MF := fnM 2 ms__law_is_flag
def ms__law_bent : MS := (sSeq (sAsg (gNm 4) (mCall0 fm__law_pick (mCons (mVar 0) (mCons (m2 addG (mB lenG (mCons (mVar 1) mNil)) (mC (.int 1))) mNil)))) (sSeq (sAsg (gNm 5) (mTup (mCons (m2 subG (mCall0 fm__law_pick (mCons (mVar 0) (mCons (m2 addG (mVar 2) (mC (.int 2))) mNil))) (mC (.int 1))) (mCons (m2 subG (mCall0 fm__law_pick (mCons (mVar 0) (mCons (m2 addG (mVar 3) (mC (.int 2))) mNil))) (mC (.int 1))) mNil)))) (sSeq (sAsg (gNm 6) (mCall0 fm__law_pick (mCons (mVar 0) (mCons (mC (.int 9)) mNil)))) (sSeq (sIf (mOrT (mT (m2 eqG (mVar 6) (mC (.int 0)))) (mT (m2 eqG (mB lenG (mCons (mVar 1) mNil)) (mC (.int 0))))) (sRet (mB tupleG (mCons (mB sortedPG (mCons (m2 addG (mVar 1) (mLst (mCons (mVar 5) mNil))) mNil)) mNil))) sSkip) (sSeq (sAsg (gNm 7) (m2 ixG (mVar 1) (mB min2G (mCons (mVar 4) (mCons (m2 subG (mB lenG (mCons (mVar 1) mNil)) (mC (.int 1))) mNil))))) (sSeq (sAsg (gNm 8) (mLc (mSeq (mVar 1)) (gNm 9) (mT (m2 neG (mVar 9) (mVar 7))) (mVar 9) [9])) (sSeq (sIf (mT (m2 eqG (mVar 6) (mC (.int 1)))) (sRet (mB tupleG (mCons (mVar 8) mNil))) sSkip) (sSeq (sIf (mT (m2 eqG (mVar 6) (mC (.int 2)))) (sRet (mB tupleG (mCons (mB sortedPG (mCons (m2 addG (mVar 8) (mLst (mCons (mVar 5) mNil))) mNil)) mNil))) sSkip) (sSeq (sIf (mT (m2 eqG (mVar 6) (mC (.int 3)))) (sRet (mB tupleG (mCons (m1 revG (mVar 1)) mNil))) sSkip) (sSeq (sIf (mT (m2 eqG (mVar 6) (mC (.int 4)))) (sRet (mB tupleG (mCons (mB sortedPG (mCons (m2 addG (mVar 1) (mLst (mCons (mVar 7) mNil))) mNil)) mNil))) sSkip) (sSeq (sIf (mT (m2 eqG (mVar 6) (mC (.int 5)))) (sRet (mB listG (mCons (mVar 1) mNil))) sSkip) (sSeq (sIf (mT (m2 eqG (mVar 6) (mC (.int 6)))) (sRet (mB tupleG (mCons (m2 addG (mVar 8) (mLst (mCons (mCall0 fm__law_some (mCons (mVar 0) (mCons (mLst (mCons (mB listG (mCons (mVar 7) mNil)) (mCons (m2 addG (mVar 7) (mTup (mCons (mC (.int 0)) mNil))) (mCons (mSl (mVar 7) oNo (oSo (mC (.int 1)))) (mCons (mC .non) (mCons (mTup (mCons (m2 ixG (mVar 7) (mC (.int 0))) (mCons (mC .non) mNil))) (mCons (mTup (mCons (mVar 7) mNil)) mNil))))))) mNil))) mNil))) mNil))) sSkip) (sSeq (sIf (mT (m2 eqG (mVar 6) (mC (.int 7)))) (sRet (mB tupleG (mCons (m2 addG (mLst (mCons (m1 revG (mVar 7)) mNil)) (mVar 8)) mNil))) sSkip) (sRet (mB tupleG (mCons (mLc (mSeq (mVar 1)) (gNm 9) mYes (mIf (mT (m2 ltG (m2 ixG (mVar 9) (mC (.int 0))) (mC (.int 2)))) (mTup (mCons (mB boolG (mCons (m2 ixG (mVar 9) (mC (.int 0))) mNil)) (mCons (m2 ixG (mVar 9) (mC (.int 1))) mNil))) (mVar 9)) [9]) mNil))))))))))))))))
def fm__law_bent : MF := fnM 10 ms__law_bent
def ms_is_integer : MS := (sRet (mAnd (m1 (isiG "int") (mVar 0)) (mNot (m1 (isiG "bool") (mVar 0)))))
def fm_is_integer : MF := fnM 1 ms_is_integer
def ms_is_within : MS := (sRet (mAnd (mCall0 fm_is_integer (mCons (mVar 0) mNil)) (mCh leG leG (mVar 1) (mVar 0) (mVar 2))))
def fm_is_within : MF := fnM 3 ms_is_within
def ms_is_bar : MS := (sSeq (sIf (mOrT (mNotT (mT (m1 (isiG "tuple") (mVar 0)))) (mOrT (mT (m2 neG (mB lenG (mCons (mVar 0) mNil)) (mC (.int 2)))) (mNotT (mT (mCall0 fm_is_within (mCons (m2 ixG (mVar 0) (mC (.int 0))) (mCons (m1 negG (mC (.int 1000))) (mCons (mC (.int 1000)) mNil)))))))) (sRet (mC (.bl false))) sSkip) (sRet (mOr (m2 isG (m2 ixG (mVar 0) (mC (.int 1))) (mC .non)) (mCall0 fm_is_within (mCons (m2 ixG (mVar 0) (mC (.int 1))) (mCons (m2 addG (m2 ixG (mVar 0) (mC (.int 0))) (mC (.int 1))) (mCons (mC (.int 1000)) mNil)))))))
def fm_is_bar : MF := fnM 1 ms_is_bar
def ms_check_bars : MS := (sIf (mOrT (mNotT (mT (m1 (isi2G "list" "tuple") (mVar 0)))) (mOrT (mT (m2 gtG (mB lenG (mCons (mVar 0) mNil)) (mC (.int 20)))) (mNotT (mT (mB allG (mCons (mLc (mSeq (mVar 0)) (gNm 1) mYes (mCall0 fm_is_bar (mCons (mVar 1) mNil)) [1]) mNil)))))) sStuck sSkip)
def fm_check_bars : MF := fnM 2 ms_check_bars
def ms_check_within : MS := (sIf (mNotT (mT (mCall0 fm_is_within (mCons (mVar 0) (mCons (mVar 1) (mCons (mVar 2) mNil)))))) sStuck sSkip)
def fm_check_within : MF := fnM 3 ms_check_within
def ms_check_asked : MS := (sSeq (sDrop (mCall0 fm_check_bars (mCons (mVar 0) mNil))) (sSeq (sDrop (mCall0 fm_check_bars (mCons (mVar 1) mNil))) (sDrop (mCall0 fm_check_within (mCons (mVar 2) (mCons (mC (.int 0)) (mCons (mC (.int 2000)) mNil)))))))
def fm_check_asked : MF := fnM 3 ms_check_asked
def ms_is_long : MS := (sRet (mOr (m2 isG (m2 ixG (mVar 0) (mC (.int 1))) (mC .non)) (m2 gtG (m2 subG (m2 ixG (mVar 0) (mC (.int 1))) (m2 ixG (mVar 0) (mC (.int 0)))) (m2 mulG (mC (.int 2)) (mVar 1)))))
def fm_is_long : MF := fnM 2 ms_is_long
def ms_is_number : MS := (sRet (mCall0 fm_is_within (mCons (mVar 0) (mCons (mC (.int 0)) (mCons (mVar 1) mNil)))))
def fm_is_number : MF := fnM 2 ms_is_number
def ms_is_number_pair : MS := (sSeq (sIf (mOrT (mNotT (mT (m1 (isiG "tuple") (mVar 0)))) (mT (m2 neG (mB lenG (mCons (mVar 0) mNil)) (mC (.int 2))))) (sRet (mC (.bl false))) sSkip) (sRet (mAnd (mCall0 fm_is_number (mCons (m2 ixG (mVar 0) (mC (.int 0))) (mCons (m2 subG (mVar 1) (mC (.int 1))) mNil))) (mCall0 fm_is_number (mCons (m2 ixG (mVar 0) (mC (.int 1))) (mCons (m2 subG (mVar 2) (mC (.int 1))) mNil))))))
def fm_is_number_pair : MF := fnM 3 ms_is_number_pair
def ms_do_fit : MS := (sSeq (sIf (mOrT (mT (m2 gtG (mB absG (mCons (m2 subG (m2 ixG (mVar 0) (mC (.int 0))) (m2 ixG (mVar 1) (mC (.int 0)))) mNil)) (mVar 2))) (mT (m2 neG (m2 isG (m2 ixG (mVar 0) (mC (.int 1))) (mC .non)) (m2 isG (m2 ixG (mVar 1) (mC (.int 1))) (mC .non))))) (sRet (mC (.bl false))) sSkip) (sRet (mOr (m2 isG (m2 ixG (mVar 0) (mC (.int 1))) (mC .non)) (m2 leG (mB absG (mCons (m2 subG (m2 ixG (mVar 0) (mC (.int 1))) (m2 ixG (mVar 1) (mC (.int 1)))) mNil)) (mVar 2)))))
def fm_do_fit : MF := fnM 3 ms_do_fit
def ms_is_pairing : MS := (sSeq (sDrop (mCall0 fm_check_asked (mCons (mVar 0) (mCons (mVar 1) (mCons (mVar 2) mNil))))) (sSeq (sIf (mOrT (mNotT (mT (m1 (isiG "tuple") (mVar 3)))) (mNotT (mT (mB allG (mCons (mLc (mSeq (mVar 3)) (gNm 6) mYes (mCall0 fm_is_number_pair (mCons (mVar 6) (mCons (mB lenG (mCons (mVar 0) mNil)) (mCons (mB lenG (mCons (mVar 1) mNil)) mNil)))) [6]) mNil))))) (sRet (mC (.bl false))) sSkip) (sSeq (sIf (mNotT (mT (mB allG (mCons (mLc (mRg2 (mC (.int 1)) (mB lenG (mCons (mVar 3) mNil))) (gNm 7) mYes (m2 ltG (m2 ixG (m2 ixG (mVar 3) (m2 subG (mVar 7) (mC (.int 1)))) (mC (.int 0))) (m2 ixG (m2 ixG (mVar 3) (mVar 7)) (mC (.int 0)))) [7]) mNil)))) (sRet (mC (.bl false))) sSkip) (sSeq (sAsg (gNm 4) (mDc (mSeq (mVar 3)) (gTp (gCn (gNm 8) (gCn (gNm 9) gNl))) mYes (mVar 9) (mVar 8) [8, 9])) (sSeq (sIf (mOrT (mT (m2 ltG (mB lenG (mCons (mVar 4) mNil)) (mB lenG (mCons (mVar 3) mNil)))) (mNotT (mT (mB allG (mCons (mLc (mSeq (mVar 3)) (gTp (gCn (gNm 8) (gCn (gNm 9) gNl))) mYes (mCall0 fm_do_fit (mCons (m2 ixG (mVar 0) (mVar 8)) (mCons (m2 ixG (mVar 1) (mVar 9)) (mCons (mVar 2) mNil)))) [8, 9]) mNil))))) (sRet (mC (.bl false))) sSkip) (sSeq (sAsg (gNm 5) (mLc (mSeq (mVar 3)) (gTp (gCn (gNm 8) (gCn (gNm 9) gNl))) mYes (mVar 8) [8, 9])) (sSeq (sIf (mT (mB anyG (mCons (mLc (mEnumL (mVar 0)) (gTp (gCn (gNm 8) (gCn (gNm 10) gNl))) mYes (mAnd (mCall0 fm_is_long (mCons (mVar 10) (mCons (mVar 2) mNil))) (m2 (inG true) (mVar 8) (mVar 5))) [8, 10]) mNil))) (sRet (mC (.bl false))) sSkip) (sRet (mNot (mB anyG (mCons (mLc (mEnumL (mVar 1)) (gTp (gCn (gNm 9) (gCn (gNm 10) gNl))) mYes (mAnd (mCall0 fm_is_long (mCons (mVar 10) (mCons (mVar 2) mNil))) (m2 (inG true) (mVar 9) (mVar 4))) [9, 10]) mNil)))))))))))
def fm_is_pairing : MF := fnM 11 ms_is_pairing
def ms__law_is_long : MS := (sRet (mOr (m2 isG (m2 ixG (mVar 0) (mC (.int 1))) (mC .non)) (m2 gtG (m2 subG (m2 ixG (mVar 0) (mC (.int 1))) (m2 ixG (mVar 0) (mC (.int 0)))) (m2 mulG (mC (.int 2)) (mVar 1)))))
def fm__law_is_long : MF := fnM 2 ms__law_is_long
def ms__law_is_number : MS := (sRet (mAnd (m1 (isiG "int") (mVar 0)) (mAnd (mNot (m1 (isiG "bool") (mVar 0))) (mCh leG ltG (mC (.int 0)) (mVar 0) (mVar 1)))))
def fm__law_is_number : MF := fnM 2 ms__law_is_number
def ms__law_is_pairing : MS := (sSeq (sIf (mNotT (mT (m1 (isiG "tuple") (mVar 3)))) (sRet (mC (.bl false))) sSkip) (sSeq (sPar [4, 5] (slM (m1 negG (mC (.int 1))) (slF (mLst mNil) slNil))) (sSeq (sFor (mSeq (mVar 3)) (gNm 6) (sSeq (sIf (mOrT (mNotT (mT (m1 (isiG "tuple") (mVar 6)))) (mOrT (mT (m2 neG (mB lenG (mCons (mVar 6) mNil)) (mC (.int 2)))) (mNotT (mT (mCall0 fm__law_is_number (mCons (m2 ixG (mVar 6) (mC (.int 0))) (mCons (mB lenG (mCons (mVar 0) mNil)) mNil))))))) (sRet (mC (.bl false))) sSkip) (sSeq (sIf (mOrT (mNotT (mT (mCall0 fm__law_is_number (mCons (m2 ixG (mVar 6) (mC (.int 1))) (mCons (mB lenG (mCons (mVar 1) mNil)) mNil))))) (mOrT (mT (m2 leG (m2 ixG (mVar 6) (mC (.int 0))) (mVar 4))) (mT (m2 (inG false) (m2 ixG (mVar 6) (mC (.int 1))) (mOwn 5))))) (sRet (mC (.bl false))) sSkip) (sSeq (sIf (mNotT (mT (mCall0 fm__law_fits (mCons (m2 ixG (mVar 0) (m2 ixG (mVar 6) (mC (.int 0)))) (mCons (m2 ixG (mVar 1) (m2 ixG (mVar 6) (mC (.int 1)))) (mCons (mVar 2) mNil)))))) (sRet (mC (.bl false))) sSkip) (sSeq (sAsg (gNm 4) (m2 ixG (mVar 6) (mC (.int 0)))) (sMeth 5 (mCons (m2 ixG (mVar 6) (mC (.int 1))) mNil) appG)))))) (sSeq (sAsg (gNm 7) (mLc (mSeq (mVar 3)) (gNm 6) mYes (m2 ixG (mVar 6) (mC (.int 0))) [6])) (sSeq (sIf (mT (mB anyG (mCons (mLc (mEnumL (mVar 0)) (gTp (gCn (gNm 8) (gCn (gNm 9) gNl))) (mT (m2 (inG true) (mVar 8) (mVar 7))) (mCall0 fm__law_is_long (mCons (mVar 9) (mCons (mVar 2) mNil))) [8, 9]) mNil))) (sRet (mC (.bl false))) sSkip) (sRet (mNot (mB anyG (mCons (mLc (mEnumL (mVar 1)) (gTp (gCn (gNm 8) (gCn (gNm 9) gNl))) (mT (m2 (inG true) (mVar 8) (mOwn 5))) (mCall0 fm__law_is_long (mCons (mVar 9) (mCons (mVar 2) mNil))) [8, 9]) mNil)))))))))
def fm__law_is_pairing : MF := fnM 10 ms__law_is_pairing
def ms_is_lot : MS := (sSeq (sIf (mOrT (mNotT (mT (m1 (isiG "tuple") (mVar 0)))) (mNotT (mT (mB allG (mCons (mLc (mSeq (mVar 0)) (gNm 2) mYes (mCall0 fm_is_number (mCons (mVar 2) (mCons (m2 subG (mVar 1) (mC (.int 1))) mNil))) [2]) mNil))))) (sRet (mC (.bl false))) sSkip) (sRet (mB allG (mCons (mLc (mRg2 (mC (.int 1)) (mB lenG (mCons (mVar 0) mNil))) (gNm 3) mYes (m2 ltG (m2 ixG (mVar 0) (m2 subG (mVar 3) (mC (.int 1)))) (m2 ixG (mVar 0) (mVar 3))) [3]) mNil))))
def fm_is_lot : MF := fnM 4 ms_is_lot
def ms_is_ban : MS := (sSeq (sDrop (mCall0 fm_check_asked (mCons (mVar 0) (mCons (mVar 1) (mCons (mVar 2) mNil))))) (sSeq (sIf (mOrT (mNotT (mT (m1 (isiG "tuple") (mVar 3)))) (mOrT (mT (m2 neG (mB lenG (mCons (mVar 3) mNil)) (mC (.int 2)))) (mOrT (mNotT (mT (mCall0 fm_is_integer (mCons (m2 ixG (mVar 3) (mC (.int 0))) mNil)))) (mT (m2 (inG true) (m2 ixG (mVar 3) (mC (.int 0))) (mTup (mCons (mC (.int 0)) (mCons (mC (.int 1)) mNil)))))))) (sRet (mC (.bl false))) sSkip) (sSeq (sAsg (gTp (gCn (gNm 4) (gCn (gNm 5) gNl))) (mIf (mT (m2 eqG (m2 ixG (mVar 3) (mC (.int 0))) (mC (.int 0)))) (mTup (mCons (mVar 0) (mCons (mVar 1) mNil))) (mTup (mCons (mVar 1) (mCons (mVar 0) mNil))))) (sSeq (sIf (mOrT (mNotT (mT (mCall0 fm_is_lot (mCons (m2 ixG (mVar 3) (mC (.int 1))) (mCons (mB lenG (mCons (mVar 4) mNil)) mNil))))) (mNotT (mT (mB allG (mCons (mLc (mSeq (m2 ixG (mVar 3) (mC (.int 1)))) (gNm 6) mYes (mCall0 fm_is_long (mCons (m2 ixG (mVar 4) (mVar 6)) (mCons (mVar 2) mNil))) [6]) mNil))))) (sRet (mC (.bl false))) sSkip) (sRet (m2 ltG (mB lenG (mCons (mLc (mSeq (mVar 5)) (gNm 7) (mT (mB anyG (mCons (mLc (mSeq (m2 ixG (mVar 3) (mC (.int 1)))) (gNm 6) mYes (mCall0 fm_do_fit (mCons (m2 ixG (mVar 4) (mVar 6)) (mCons (mVar 7) (mCons (mVar 2) mNil)))) [6]) mNil))) (mVar 7) [7]) mNil)) (mB lenG (mCons (m2 ixG (mVar 3) (mC (.int 1))) mNil))))))))
def fm_is_ban : MF := fnM 8 ms_is_ban
def ms__law_is_ban : MS := (sSeq (sIf (mOrT (mNotT (mT (m1 (isiG "tuple") (mVar 3)))) (mOrT (mT (m2 neG (mB lenG (mCons (mVar 3) mNil)) (mC (.int 2)))) (mOrT (mNotT (mT (mCall0 fm__law_is_number (mCons (m2 ixG (mVar 3) (mC (.int 0))) (mCons (mC (.int 2)) mNil))))) (mNotT (mT (m1 (isiG "tuple") (m2 ixG (mVar 3) (mC (.int 1))))))))) (sRet (mC (.bl false))) sSkip) (sSeq (sAsg (gTp (gCn (gNm 4) (gCn (gNm 5) gNl))) (mIf (mT (m2 eqG (m2 ixG (mVar 3) (mC (.int 0))) (mC (.int 0)))) (mTup (mCons (mVar 0) (mCons (mVar 1) mNil))) (mTup (mCons (mVar 1) (mCons (mVar 0) mNil))))) (sSeq (sPar [6, 7] (slM (m1 negG (mC (.int 1))) (slF (mLst mNil) slNil))) (sSeq (sFor (mSeq (m2 ixG (mVar 3) (mC (.int 1)))) (gNm 8) (sSeq (sIf (mOrT (mNotT (mT (mCall0 fm__law_is_number (mCons (mVar 8) (mCons (mB lenG (mCons (mVar 4) mNil)) mNil))))) (mOrT (mT (m2 leG (mVar 8) (mVar 6))) (mNotT (mT (mCall0 fm__law_is_long (mCons (m2 ixG (mVar 4) (mVar 8)) (mCons (mVar 2) mNil))))))) (sRet (mC (.bl false))) sSkip) (sSeq (sAsg (gNm 6) (mVar 8)) (sMeth 7 (mCons (m2 ixG (mVar 4) (mVar 8)) mNil) appG)))) (sSeq (sAsg (gNm 9) (mLc (mSeq (mVar 5)) (gNm 10) (mT (mB anyG (mCons (mLc (mSeq (mOwn 7)) (gNm 11) mYes (mCall0 fm__law_fits (mCons (mVar 11) (mCons (mVar 10) (mCons (mVar 2) mNil)))) [11]) mNil))) (mVar 10) [10])) (sRet (m2 ltG (mB lenG (mCons (mVar 9) mNil)) (mB lenG (mCons (m2 ixG (mVar 3) (mC (.int 1))) mNil)))))))))
def fm__law_is_ban : MF := fnM 12 ms__law_is_ban
def ms__law_lots : MS := (sSeq (sAsg (gNm 1) (mLst (mCons (mTup mNil) mNil))) (sSeq (sFor (mRg1 (mVar 0)) (gNm 2) (sAsg (gNm 1) (m2 addG (mVar 1) (mLc (mSeq (mVar 1)) (gNm 3) (mT (m2 ltG (mB lenG (mCons (mVar 3) mNil)) (mC (.int 4)))) (m2 addG (mVar 3) (mTup (mCons (mVar 2) mNil))) [3])))) (sRet (mVar 1))))
def fm__law_lots : MF := fnM 4 ms__law_lots
def ms_law : MS := (sSeq (sAsg (gTp (gCn (gNm 2) (gCn (gNm 3) gNl))) (mCall0 fm__law_lists (mCons (mVar 1) (mCons (mCall0 fm__law_some (mCons (mVar 1) (mCons (mLst (mCons (mC (.int 4)) (mCons (mC (.int 8)) mNil))) mNil))) (mCons (mIf (mT (m2 eqG (mCall0 fm__law_pick (mCons (mVar 1) (mCons (mC (.int 6)) mNil))) (mC (.int 3)))) (mC (.int 10)) (mC (.int 4))) mNil))))) (sSeq (sAsg (gNm 4) (mCall0 fm__law_pick (mCons (mVar 1) (mCons (mC (.int 5)) mNil)))) (sSeq (sAsg (gNm 5) (mLst (mCons (mTup mNil) (mCons (mC .non) (mCons (mC (.int 0)) (mCons (mC (.str "")) (mCons (mLst mNil) (mCons (mC (.dK [] [])) (mCons (mDict1 (mC (.int 0)) (mC (.int 1))) (mCons (mTup (mCons (mC .non) mNil)) (mCons (mTup (mCons (mTup mNil) mNil)) (mCons (mTup (mCons (mTup (mCons (mC (.int 0)) mNil)) mNil)) (mCons (mTup (mCons (mC (.int 0)) (mCons (mC (.int 0)) mNil))) (mCons (mTup (mCons (mTup (mCons (mC (.int 0)) (mCons (mC (.int 0)) mNil))) mNil)) (mCons (mTup (mCons (mTup (mCons (mC (.bl true)) (mCons (mC (.bl false)) mNil))) mNil)) (mCons (mTup (mCons (mTup (mCons (mC (.int 0)) (mCons (mC (.int 0)) mNil))) (mCons (mTup (mCons (mC (.int 0)) (mCons (mC (.int 0)) mNil))) mNil))) (mCons (mCall0 fm__law_deep (mCons (mVar 1) mNil)) mNil))))))))))))))))) (sSeq (sFor (mRg1 (mC (.int 6))) (gNm 6) (sSeq (sAsg (gNm 7) (mCall0 fm__law_drawn (mCons (mVar 1) (mCons (mVar 2) (mCons (mVar 3) (mCons (mVar 4) mNil)))))) (sAsg (gNm 5) (m2 addG (mVar 5) (mLst (mCons (mB tupleG (mCons (mVar 7) mNil)) (mCons (mCall0 fm__law_bent (mCons (mVar 1) (mCons (mVar 7) (mCons (mB lenG (mCons (mVar 2) mNil)) (mCons (mB lenG (mCons (mVar 3) mNil)) mNil))))) mNil))))))) (sSeq (sFor (mSeq (mTup (mCons (mC (.int 0)) (mCons (mC (.int 1)) mNil)))) (gNm 8) (sSeq (sAsg (gNm 9) (mIf (mT (m2 eqG (mVar 8) (mC (.int 0)))) (mVar 2) (mVar 3))) (sSeq (sAsg (gNm 5) (m2 addG (mVar 5) (mLc (mSeq (mCall0 fm__law_lots (mCons (mB lenG (mCons (mVar 9) mNil)) mNil))) (gNm 10) mYes (mTup (mCons (mVar 8) (mCons (mVar 10) mNil))) [10]))) (sSeq (sAsg (gNm 10) (mRgT (mB lenG (mCons (mVar 9) mNil)))) (sSeq (sAsg (gNm 11) (mLst (mCons (mB listG (mCons (mVar 10) mNil)) (mCons (m1 revG (mVar 10)) (mCons (m2 addG (mVar 10) (mTup (mCons (mB lenG (mCons (mVar 9) mNil)) mNil))) (mCons (m2 addG (mVar 10) (mSl (mVar 10) (oSo (m1 negG (mC (.int 1)))) oNo)) (mCons (mC .non) (mCons (mTup (mCons (m1 negG (mC (.int 1))) mNil)) (mCons (mTup (mCons (mC (.bl true)) mNil)) (mCons (mTup (mCons (mC .non) mNil)) (mCons (mTup (mCons (mTup (mCons (mC (.int 0)) mNil)) mNil)) mNil))))))))))) (sAsg (gNm 5) (m2 addG (mVar 5) (mLc (mSeq (mVar 11)) (gNm 12) mYes (mTup (mCons (mVar 8) (mCons (mVar 12) mNil))) [12])))))))) (sSeq (sAsg (gNm 5) (m2 addG (mVar 5) (mLst (mCons (mTup (mCons (mC (.bl true)) (mCons (mTup (mCons (mC (.int 0)) mNil)) mNil))) (mCons (mTup (mCons (mC (.int 2)) (mCons (mTup (mCons (mC (.int 0)) mNil)) mNil))) (mCons (mTup (mCons (m1 negG (mC (.int 1))) (mCons (mTup (mCons (mC (.int 0)) mNil)) mNil))) (mCons (mTup (mCons (mC .non) (mCons (mTup (mCons (mC (.int 0)) mNil)) mNil))) (mCons (mLst (mCons (mC (.int 0)) (mCons (mTup (mCons (mC (.int 0)) mNil)) mNil))) (mCons (mTup (mCons (mC (.int 0)) (mCons (mTup (mCons (mC (.int 0)) mNil)) (mCons (mTup mNil) mNil)))) (mCons (mTup (mCons (mC (.int 0)) mNil)) (mCons (mTup (mCons (mC (.str "0")) (mCons (mTup (mCons (mC (.int 0)) mNil)) mNil))) (mCons (mTup (mCons (mC (.bl false)) (mCons (mTup (mCons (mC (.int 0)) (mCons (mC (.int 1)) mNil))) mNil))) mNil)))))))))))) (sSeq (sFor (mSeq (mVar 5)) (gNm 12) (sSeq (sIf (mNotT (mT (mCall0 fm__law_is_flag (mCons (mCall0 fm_is_pairing (mCons (mVar 2) (mCons (mVar 3) (mCons (mVar 4) (mCons (mVar 12) mNil))))) (mCons (mCall0 fm__law_is_pairing (mCons (mVar 2) (mCons (mVar 3) (mCons (mVar 4) (mCons (mVar 12) mNil))))) mNil))))) (sRet (mC (.bl false))) sSkip) (sIf (mNotT (mT (mCall0 fm__law_is_flag (mCons (mCall0 fm_is_ban (mCons (mVar 2) (mCons (mVar 3) (mCons (mVar 4) (mCons (mVar 12) mNil))))) (mCons (mCall0 fm__law_is_ban (mCons (mVar 2) (mCons (mVar 3) (mCons (mVar 4) (mCons (mVar 12) mNil))))) mNil))))) (sRet (mC (.bl false))) sSkip))) (sRet (mC (.bl true))))))))))
structure Tp (P : Program) (w : World) (K : PySem.W.Frag) (mg : Str → Option Value) (base : Heap) : Prop where
  m_abs : mg "abs" = none
  m_all : mg "all" = none
  m_any : mg "any" = none
  m_bool : mg "bool" = none
  m_enumerate : mg "enumerate" = none
  m_int : mg "int" = none
  m_isinstance : mg "isinstance" = none
  m_len : mg "len" = none
  m_list : mg "list" = none
  m_max : mg "max" = none
  m_min : mg "min" = none
  m_range : mg "range" = none
  m_sorted : mg "sorted" = none
  m_tuple : mg "tuple" = none
  c_FARTHEST : ∃ t, mg "FARTHEST" = some (.int 1000 t)
  c_MOST_BARS : ∃ t, mg "MOST_BARS" = some (.int 20 t)
  c_MOST_DISTANCE : ∃ t, mg "MOST_DISTANCE" = some (.int 2000 t)
section
variable {P : Program} {w : World} {K : PySem.W.Frag} {mg : Str → Option Value} {base : Heap}
theorem sc__law_bag : FnScope ["_law_script", "_law_great", "_law_seed", "_law_cell"] ["_law_script"] (defScope s__law_bag) := ⟨rfl, rfl, rfl, by decide +kernel, rfl, by decide +kernel, by decide +kernel⟩
theorem sc__law_pick : FnScope ["_law_bag_here", "_law_many", "_law_number"] ["_law_bag_here", "_law_many"] (defScope s__law_pick) := ⟨rfl, rfl, rfl, by decide +kernel, rfl, by decide +kernel, by decide +kernel⟩
set_option maxHeartbeats 4000000 in
theorem ok__law_pick (tp : Tp P w K mg base) (dd : DefAt K mg "_law_pick" s__law_pick ["_law_bag_here", "_law_many"]) : F0 P w K mg base "_law_pick" 1 2 fm__law_pick := by
  obtain ⟨f, fd, F, hm, hb⟩ := dd
  have nd := sc__law_pick.nd
  refine ⟨f, fd, _, hm, F.kp, hb, F.ok sc__law_pick (fun vs H Q E h => ?_) fun cdv A outer s H vs Q E hr h => ?_⟩
  · obtain ⟨pb, pg, G, b, ds, w, r, hl, q⟩ := h
    rw [← r.len, hl]
    rfl
  obtain ⟨pb, pg, G, b, ds, w, r, hl, q⟩ := h
  obtain ⟨n, rfl, hn⟩ : ∃ n, ds = [.bag, .int n] ∧ 0 < n ∧ n < 1073741824 := by
    show ∃ n, _
    unfold fm__law_pick fm_pick at q
    split at q
    · rename_i n
      split at q
      · exact ⟨n, rfl, by assumption⟩
      · exact q.elim
    · exact q.elim
  have q : PstG (cx K mg pb pg) E0 G H (pM (cx K mg pb pg)) Q (.ok (.int (pickF b n).1) (pickF b n).2) := by
    unfold fm__law_pick fm_pick at q
    dsimp only at q
    rw [if_pos hn] at q
    exact q
  obtain ⟨v1, w1, rfl, r1, v2, w2, rfl, r2, rn⟩ := r
  cases (show w2 = [] from rn)
  cases (show v1 = .ref pb from r1)
  cases (show v2 = .int n from r2)
  have B : ∀ {X : Cx} {p1 p2 p3 : Pos} {i : Int} {j : Nat} (hN : X.N[0]? = some ("_law_bag_here" : Str)) (hv : Vis X.env.scope "_law_bag_here"), PE X (.Subscript (.Name "_law_bag_here" p1) (.Constant (.int i) j p2) p3) (tOp (rIxL X.K) (tVar 0) (tC (.int i))) := fun hN hv => pe_ix ix_list (pe_var hN hv) pe_int (fun _ _ => rfl)
  refine ⟨_, pss_cons (ps_if (pt_cmpR op_eq (B rfl (.inl rfl)) pe_int (nomark _)) (pss_one (ps_ret pe_int)) pss_nil)
    (pss_cons (ps_if (pt_cmpR op_gt (pe_callB call_len_seq (by rfl) tp.m_len PySem.boot_len (pa_cons (B rfl (.inl rfl)) pa_nil)) pe_int (nomark _))
      (pss_cons (ps_set (i := 2) nd rfl (.inl rfl) (pe_ix ix_list (B rfl (.inl rfl)) pe_int (fun _ _ => rfl)))
        (pss_cons (ps_asg (pe_op op_fdiv (pv 2) (pv 1)) (pg_sub (B rfl (.inl rfl)) pe_int set_list))
        (pss_cons (ps_if (pt_cmpR op_lt (pv 2) (pv 1) (nomark _)) (pss_one (ps_expr (pe_bm PySem.F.plainAttrs_list PySem.F.slot_list_pop PySem.F.type_list_pop mt_popAt (B rfl (.inl rfl)) (pa_cons pe_int pa_nil)))) pss_nil)
        (pss_one (ps_ret (pe_op op_mod (pe_callTy call_int1 (by rfl) tp.m_int (by decide +kernel) (pa_cons (pv 2) pa_nil)) (pv 1))))))) pss_nil)
    (pss_cons (ps_asg (pe_op op_add (B rfl (.inl rfl)) pe_int) (pg_sub (pv 0) pe_int set_list))
    (pss_cons (ps_set (i := 2) nd rfl (.inl rfl) (pe_op op_mod (pe_callTy call_int1 (by rfl) tp.m_int (by decide +kernel) (pa_cons (pe_op op_add (pe_op op_mul (pe_op op_add (B rfl (.inl rfl)) (pe_op op_mul pe_int (B rfl (.inl rfl)))) pe_int) pe_int) pa_nil)) pe_int))
    (pss_cons (ps_set (i := 2) nd rfl (.inl rfl) (pe_op op_mod (pe_callTy call_int1 (by rfl) tp.m_int (by decide +kernel) (pa_cons (pe_op op_add (pe_op op_mul (pv 2) (pe_op op_add (pe_op op_fdiv (pv 2) pe_int) pe_int)) (B rfl (.inl rfl))) pa_nil)) pe_int))
    (pss_cons (ps_asg (pe_op op_mod (pe_callTy call_int1 (by rfl) tp.m_int (by decide +kernel) (pa_cons (pe_op op_add (B rfl (.inl rfl)) (pv 2)) pa_nil)) pe_int) (pg_sub (pv 0) pe_int set_list))
    (pss_one (ps_ret (pe_op op_mod (pe_callTy call_int1 (by rfl) tp.m_int (by decide +kernel) (pa_cons (pe_op op_fdiv (pv 2) pe_int) pa_nil)) (pv 1))))))))), ?_⟩
  have hne : pb ≠ pg := w.ne
  have u1 : upd H pb (.lst [.ref pg, .int b.seed, .int b.len, .int b.cnt]) = H := by
    funext a
    by_cases e : a = pb
    · rw [e, upd_same]; exact w.hb.symm
    · rw [upd_ne e]
  -- bag[2] == 0
  refine ⟨.ref pb, rfl, pb, _, 2, .int b.len, rfl, rfl, w.lb, atI_nat (j := 2) rfl, rfl, _, rfl, ite2 (fun e => ?_) (fun e => ?_)⟩
  · have e : V.int b.len = V.int 0 := of_decide_eq_true e
    have e : b.len = 0 := V.int.inj e
    have hp : pickF b n = (0, b) := by unfold pickF; rw [if_pos e]
    rw [hp] at q
    exact q (.int 0) G H (Stp.refl _ _ _) w rfl
  have hlen : b.len ≠ 0 := fun z => e (by rw [z]; exact decide_eq_true rfl)
  -- len(bag[0]) > 0
  refine ⟨.ref pb, rfl, pb, _, 0, .ref pg, rfl, rfl, w.lb, atI_nat (j := 0) rfl, pg, b.great.map V.int, rfl, .inl w.lg, _, 0, rfl, rfl, _, rfl, ite2 (fun e => ?_) (fun e => ?_)⟩
  · have e := of_decide_eq_true e
    obtain ⟨g, gs, hgs⟩ : ∃ g gs, b.great = g :: gs := by
      cases hb : b.great with
      | nil => rw [hb] at e; simp at e
      | cons g gs => exact ⟨g, gs, rfl⟩
    have hp : pickF b n = (g % n, { b with great := if g < n then gs else (g / n) :: gs }) := by
      unfold pickF
      rw [if_neg hlen, hgs]
    rw [hp] at q
    have hg0 : (b.great.map V.int)[0]? = some (.int g) := by rw [hgs]; rfl
    refine ⟨.ref pb, rfl, pb, _, 0, .ref pg, rfl, rfl, w.lb, atI_nat (j := 0) rfl, pg, _, 0, .int g, rfl, rfl, w.lg, atI_nat (j := 0) hg0, ?_⟩
    refine ⟨.int g, rfl, .int n, rfl, g, n, rfl, rfl, hn, .ref pb, rfl, pb, _, 0, .ref pg, rfl, rfl, w.lb, atI_nat (j := 0) rfl, ?_⟩
    refine ⟨pg, b.great.map V.int, 0, 0, rfl, rfl, w.hg, ?_, ?_⟩
    · rw [hgs]; simp [ixN]
    have hset : (b.great.map V.int).set 0 (.int (g / n)) = ((g / n) :: gs).map V.int := by rw [hgs]; rfl
    rw [hset]
    have hz : ((g / n) :: gs).length ≤ 63 := by have := w.bz; rw [hgs] at this; simpa using this
    obtain ⟨s2, w2⟩ := w.bagG ((g / n) :: gs) hz
    refine ⟨.int g, rfl, .int n, rfl, g, n, rfl, rfl, _, rfl, ite2 (fun e2 => ?_) (fun e2 => ?_)⟩
    · have e2 := of_decide_eq_true e2
      rw [if_pos e2] at q
      have hz3 : gs.length ≤ 63 := by simp at hz; omega
      refine ⟨.ref pb, rfl, pb, _, 0, .ref pg, rfl, rfl, w2.lb, atI_nat (j := 0) rfl, .inl ⟨rfl, _, w2.lg⟩, pg, ((g / n) :: gs).map V.int, 0, 0, .int (g / n), rfl, rfl, w2.hg, by decide, by decide, ?_, rfl, ?_⟩
      · simp [seqIndex?]
      obtain ⟨s3, w3⟩ := w2.bagG gs hz3
      have he : (((g / n) :: gs).map V.int).eraseIdx 0 = gs.map V.int := rfl
      rw [he]
      exact ⟨.int g, rfl, .inl ⟨g, rfl, .int n, rfl, g, n, rfl, rfl, hn.1, q _ G _ (s2.trans s3) w3 rfl⟩⟩
    · have e2 : ¬ g < n := fun z => e2 (decide_eq_true z)
      rw [if_neg e2] at q
      exact ⟨.int g, rfl, .inl ⟨g, rfl, .int n, rfl, g, n, rfl, rfl, hn.1, q _ G _ s2 w2 rfl⟩⟩
  · have hgs : b.great = [] := by
      cases hb : b.great with
      | nil => rfl
      | cons g gs => exact absurd (decide_eq_true (by rw [hb]; simp)) e
    have hp : pickF b n = ((((((b.seed + 7919 * (b.cnt + 1)) * 48271 + 11) % 2147483647) * ((((b.seed + 7919 * (b.cnt + 1)) * 48271 + 11) % 2147483647) / 1009 + 69621) + (b.cnt + 1)) % 2147483399) / 16 % n,
        { b with seed := (b.seed + ((((b.seed + 7919 * (b.cnt + 1)) * 48271 + 11) % 2147483647) * ((((b.seed + 7919 * (b.cnt + 1)) * 48271 + 11) % 2147483647) / 1009 + 69621) + (b.cnt + 1)) % 2147483399) % 2147483629, cnt := b.cnt + 1 }) := by
      unfold pickF
      rw [if_neg hlen, hgs]
    rw [hp] at q
    obtain ⟨s2, w2⟩ := w.bag1 b.seed (b.cnt + 1)
    refine ⟨.ref pb, rfl, pb, _, 3, .int b.cnt, rfl, rfl, w.lb, atI_nat (j := 3) rfl, _, 1, rfl, rfl, .ref pb, rfl, pb, _, 3, 3, rfl, rfl, w.hb, rfl, ?_⟩
    -- number
    refine ⟨.ref pb, rfl, pb, _, 1, .int b.seed, rfl, rfl, w2.lb, atI_nat (j := 1) rfl, .ref pb, rfl, pb, _, 3, .int (b.cnt + 1), rfl, rfl, w2.lb, atI_nat (j := 3) rfl, 7919, _, rfl, rfl, .inl ⟨by decide, by decide⟩, _, _, rfl, rfl, _, 48271, rfl, rfl, .inr ⟨by decide, by decide⟩, _, 11, rfl, rfl, .inl ⟨_, rfl, _, 2147483647, rfl, rfl, (show (0:Int) < 2147483647 by decide), ?_⟩⟩
    dsimp only
    generalize hx1 : ((b.seed + 7919 * (b.cnt + 1)) * 48271 + 11) % 2147483647 = x1 at q ⊢
    have hx1b : 0 ≤ x1 ∧ x1 < 2147483647 := by rw [← hx1]; exact ⟨Int.emod_nonneg _ (by decide), Int.emod_lt_of_pos _ (by decide)⟩
    refine ⟨.int x1, rfl, .int x1, rfl, x1, 1009, rfl, rfl, ⟨by decide, by decide⟩, _, 69621, rfl, rfl, x1, _, rfl, rfl, .inl ⟨by omega, by omega⟩, .ref pb, rfl, pb, _, 3, .int (b.cnt + 1), rfl, rfl, w2.lb, atI_nat (j := 3) rfl, _, _, rfl, rfl, .inl ⟨_, rfl, _, 2147483399, rfl, rfl, (show (0:Int) < 2147483399 by decide), ?_⟩⟩
    dsimp only
    generalize hx2 : (x1 * (x1 / 1009 + 69621) + (b.cnt + 1)) % 2147483399 = x2 at q ⊢
    refine ⟨.ref pb, rfl, pb, _, 1, .int b.seed, rfl, rfl, w2.lb, atI_nat (j := 1) rfl, .int x2, rfl, _, x2, rfl, rfl, .inl ⟨_, rfl, _, 2147483629, rfl, rfl, (show (0:Int) < 2147483629 by decide), .ref pb, rfl, pb, _, 1, 1, rfl, rfl, w2.hb, rfl, ?_⟩⟩
    obtain ⟨s3, w3⟩ := w2.bag1 ((b.seed + x2) % 2147483629) (b.cnt + 1)
    exact ⟨.int x2, rfl, x2, 16, rfl, rfl, ⟨by decide, by decide⟩, .inl ⟨_, rfl, .int n, rfl, _, n, rfl, rfl, hn.1, q _ G _ (s2.trans s3) w3 rfl⟩⟩
set_option maxHeartbeats 4000000 in
theorem ok__law_bag {f : Addr} {fd : FuncData} {k : Nat} (tp : Tp P w K mg base) (ma : mg "abs" = none) (F : Fun K "_law_bag" "_law_bag" s__law_bag f fd) : FnOk P w K mg base CX0 (k + 1) f fd ["_law_script"] (spBag K) := by
  have nd := sc__law_bag.nd
  refine F.ok sc__law_bag (fun vs H Q E h => ?_) (fun cdv A outer s H vs Q E hr h => ?_)
  · obtain ⟨a, ns, rfl, _⟩ := h
    rfl
  · obtain ⟨a, ns, rfl, hS, hlen, q⟩ := h
    refine ⟨_, pss_cons (ps_setLc (i := 1) rfl nd rfl rfl (by rfl) (pi_list (pe_slice sl_list (pv 0) po_none (po_some pe_int))) (blkOk_by (own := [("_law_cell", 3)]) (by kernel_rfl)) (fun _ _ _ _ _ => pg_name (i := 3) nd rfl (by first | exact .inl rfl | exact .inr rfl))
          (fun _ _ _ _ _ => pts_one (pt_cmpR op_ge (pe_callB call_abs (by rfl) ma (by decide +kernel) (pa_cons (pe_callTy call_int1 (by rfl) tp.m_int (by decide +kernel) (pa_cons (pv 3) pa_nil)) pa_nil)) (pe_op op_pow pe_int pe_int) (nomark _)))
          (fun _ _ _ _ _ => pe_callB call_abs (by rfl) ma (by decide +kernel) (pa_cons (pe_callTy call_int1 (by rfl) tp.m_int (by decide +kernel) (pa_cons (pv 3) pa_nil)) pa_nil)))
      (pss_cons (ps_set (i := 2) nd rfl (.inl rfl) pe_int)
      (pss_cons (ps_for PassesOwn.never rfl (pi_list (pe_slice sl_list (pv 0) po_none (po_some pe_int))) (pg_name (i := 3) nd rfl (.inl rfl))
        (pss_one (ps_set (i := 2) nd rfl (.inl rfl) (pe_op op_mod (pe_callTy call_int1 (by rfl) tp.m_int (by decide +kernel) (pa_cons (pe_op op_add (pe_op op_add (pe_op op_add (pe_op op_mul (pv 2) pe_int) (pe_op op_mul (pe_callB call_abs (by rfl) ma (by decide +kernel) (pa_cons (pe_callTy call_int1 (by rfl) tp.m_int (by decide +kernel) (pa_cons (pv 3) pa_nil)) pa_nil)) pe_int)) (pe_callTy call_int1 (by rfl) tp.m_int (by decide +kernel) (pa_cons (pe_cmpR op_lt (pe_callTy call_int1 (by rfl) tp.m_int (by decide +kernel) (pa_cons (pv 3) pa_nil)) pe_int (nomark _)) pa_nil))) pe_int) pa_nil)) pe_int))))
      (pss_one (ps_ret (pe_lst (pa_cons (pv 1) (pa_cons (pv 2) (pa_cons (pe_callB call_len_seq (by rfl) tp.m_len (by decide +kernel) (pa_cons (pv 0) pa_nil)) (pa_cons pe_int pa_nil))))))))), ?_⟩
    refine ⟨.ref a, rfl, 63, rfl, a, ns.map V.int, rfl, hS, fun p np => ?_⟩
    rw [cut63 hlen]
    have hS1 : SqL K (upd H p (.lst (ns.map V.int))) a (ns.map V.int) := Same.seq (fun b x e => by rw [upd_ne (ne_of_none e np)]; exact e) hS
    have hp1 : (upd H p (.lst (ns.map V.int))) p = some (.lst (ns.map V.int)) := upd_same
    have sm0 : Same H (upd H p (.lst (ns.map V.int))) := fun b x e => by rw [upd_ne (ne_of_none e np)]; exact e
    have hN : ∀ b : Addr, (upd H p (.lst (ns.map V.int))) b = none → H b = none := fun b e => Classical.byContradiction fun z => by
      by_cases h : b = p
      · rw [h, upd_same] at e; cases e
      · rw [upd_ne h] at e; exact z e
    generalize (upd H p (.lst (ns.map V.int))) = H1 at hS1 hp1 sm0 hN ⊢
    refine ⟨p, rfl, ⟨_, .inl (.inl hp1)⟩, fun D nD => ?_⟩
    have nDp : p ≠ D := fun e => by rw [← e, hp1] at nD; cases nD
    refine ⟨fun i m H3 => i + m = ns.length ∧ (∃ gr : List Int, H3 D = some (.lst (gr.map V.int)) ∧ gr.length ≤ i) ∧ ∀ b x, b ≠ D → H1 b = some x → H3 b = some x, ⟨ns.length, by omega, ⟨[], by rw [upd_same]; rfl, by simp⟩, fun b x nb e => by rw [upd_ne nb]; exact e⟩, fun i m H3 hW => ?_⟩
    obtain ⟨em, ⟨gr, hgr, hgl⟩, sm⟩ := hW
    have hP : SqL K H3 p (ns.map V.int) := .inl (.inl (sm _ _ nDp hp1))
    by_cases hi : i < ns.length
    · have g1 : (ns.map V.int)[i]? = some (.int ns[i]) := by
        rw [List.getElem?_map, List.getElem?_eq_getElem hi]
        rfl
      refine .inr ⟨⟨_, _, hP, g1⟩, fun H' => (∃ gr : List Int, H' D = some (.lst (gr.map V.int)) ∧ gr.length ≤ i + 1) ∧ ∀ b x, b ≠ D → H1 b = some x → H' b = some x, fun H' hN => ⟨m - 1, by omega, by omega, hN.1, hN.2⟩, fun x H' hy => ?_⟩
      obtain ⟨rfl, fx⟩ := hy
      cases (fx _ hP).symm.trans g1
      refine ⟨rfl, _, rfl, .inl ⟨_, rfl, _, rfl, 10, 18, rfl, rfl, ⟨by decide, by decide, by decide⟩, _, _, rfl, rfl, _, rfl, ?_⟩⟩
      refine ite2 (fun e => ?_) (fun e => ?_)
      · refine ⟨_, rfl, .inl ⟨_, rfl, _, rfl, gr.map V.int, hgr, lit_le (by omega), ?_⟩⟩
        exact ⟨⟨gr ++ [if ns[i] < 0 then -ns[i] else ns[i]], by rw [upd_same, List.map_append]; rfl, by rw [List.length_append]; simp; omega⟩, fun b x nb e => by rw [upd_ne nb]; exact sm b x nb e⟩
      · exact ⟨⟨gr, hgr, by omega⟩, sm⟩
    · refine .inl ⟨⟨_, hP, by rw [List.length_map]; omega⟩, ?_⟩
      have hgz : gr.length ≤ 63 := by omega
      have sm3 : Same H H3 := fun b x e => sm b x (fun z => by rw [z, hN D nD] at e; cases e) (sm0 b x e)
      have hS3 : SqL K H3 a (ns.map V.int) := sm3.seq hS
      have hDn : H D = none := hN D nD
      refine ⟨.ref a, rfl, 63, rfl, a, ns.map V.int, rfl, hS3, fun p2 np2 => ?_⟩
      rw [cut63 hlen]
      have sm4 : Same H3 (upd H3 p2 (.lst (ns.map V.int))) := fun b x e => by rw [upd_ne (ne_of_none e np2)]; exact e
      have hp2 : (upd H3 p2 (.lst (ns.map V.int))) p2 = some (.lst (ns.map V.int)) := upd_same
      generalize (upd H3 p2 (.lst (ns.map V.int))) = H4 at sm4 hp2 ⊢
      have hP4 : SqL K H4 p2 (ns.map V.int) := .inl (.inl hp2)
      refine ⟨p2, rfl, ⟨_, hP4⟩, fun i m σ H5 => ∃ sd y3, σ = [some (.ref a), some (.ref D), some (.int sd), y3] ∧ i + m = ns.length ∧ H5 = H4, ⟨ns.length, _, none, rfl, by omega, rfl⟩, fun i m σ H5 hW => ?_⟩
      obtain ⟨sd, y3, rfl, em5, rfl⟩ := hW
      by_cases hi5 : i < ns.length
      · have g1 : (ns.map V.int)[i]? = some (.int ns[i]) := by
          rw [List.getElem?_map, List.getElem?_eq_getElem hi5]
          rfl
        refine .inr ⟨⟨_, _, hP4, g1⟩, fun σ' H' => ∃ sd y3, σ' = [some (.ref a), some (.ref D), some (.int sd), y3] ∧ H' = H5, fun σ' H' ⟨sd, y3, e1, e2⟩ => ⟨m - 1, by omega, sd, y3, e1, by omega, e2⟩, fun x H' hy => ?_⟩
        obtain ⟨rfl, fx⟩ := hy
        cases (fx _ hP4).symm.trans g1
        refine ⟨_, rfl, _, _, rfl, rfl, .inr ⟨by decide, by decide⟩, _, rfl, .inl ⟨_, rfl, _, rfl, _, _, rfl, rfl, .inr ⟨by decide, by decide⟩, _, _, rfl, rfl, _, rfl, .inl ⟨_, rfl, _, _, rfl, rfl, .inr ⟨_, rfl, _, _, rfl, rfl, _, _, rfl, rfl, .inl ⟨_, rfl, _, _, rfl, rfl, (show (0 : Int) < 2147483629 by decide), ?_⟩⟩⟩⟩⟩
        exact ⟨_, _, rfl, rfl⟩
      · refine .inl ⟨⟨_, hP4, by rw [List.length_map]; omega⟩, ?_⟩
        have hS5 : SqL K H5 a (ns.map V.int) := sm4.seq hS3
        refine ⟨.ref D, rfl, _, rfl, .ref a, rfl, a, _, rfl, .inl hS5, ?_⟩
        refine ⟨(show 4 ≤ sizeLine by rw [sizeLine_eq]; decide), fun pb npb => ?_⟩
        have e5 : H5 D = some (.lst (gr.map V.int)) := sm4 D _ hgr
        have nb : D ≠ pb := ne_of_none e5 npb
        have hb0 : H pb = none := Classical.byContradiction fun z => by
          cases hx : H pb with
          | none => exact z hx
          | some x => rw [sm4 _ _ (sm3 _ _ hx)] at npb; cases npb
        exact q _ pb D gr sd _ hb0 hDn (fun z => nb z.symm) upd_same (by rw [upd_ne nb]; exact e5) hgz
theorem sc__law_some : FnScope ["_law_bag_here", "_law_things"] ["_law_bag_here", "_law_things"] (defScope s__law_some) := ⟨rfl, rfl, rfl, by decide +kernel, rfl, by decide +kernel, by decide +kernel⟩
set_option maxHeartbeats 4000000 in
theorem ok__law_some (tp : Tp P w K mg base) (dd : DefAt K mg "_law_some" s__law_some ["_law_bag_here", "_law_things"]) (F__law_pick : F0 P w K mg base "_law_pick" 1 2 fm__law_pick) : F0 P w K mg base "_law_some" 2 2 fm__law_some := by
  obtain ⟨f, fd, F, hm, hb⟩ := dd
  refine fn_ok0 F sc__law_some hm hb fun cdv A outer s H E hr => ?_
  have nd := sc__law_some.nd
  have hu := hu_of65 hr
  have hu64 := hu_of64 hr
  exact (ds_one (ds_ret (de_ix ((de_var 1)).v ((de_call0 F__law_pick hr (by rfl) (da_cons (de_var 0) (da_cons (de_callB call_lenG (by rfl) tp.m_len (by decide +kernel) (dw_cons ((de_var 1)).v dw_nil)) da_nil)) (cntA_cons (cntA_cons cntA_nil)))).v)))
theorem sc__law_bar : FnScope ["_law_bag_here", "_law_wide", "_law_born"] ["_law_bag_here", "_law_wide"] (defScope s__law_bar) := ⟨rfl, rfl, rfl, by decide +kernel, rfl, by decide +kernel, by decide +kernel⟩
set_option maxHeartbeats 4000000 in
theorem ok__law_bar (tp : Tp P w K mg base) (dd : DefAt K mg "_law_bar" s__law_bar ["_law_bag_here", "_law_wide"]) (F__law_pick : F0 P w K mg base "_law_pick" 1 2 fm__law_pick) (F__law_some : F0 P w K mg base "_law_some" 2 2 fm__law_some) : F0 P w K mg base "_law_bar" 3 2 fm__law_bar := by
  obtain ⟨f, fd, F, hm, hb⟩ := dd
  refine fn_ok0 F sc__law_bar hm hb fun cdv A outer s H E hr => ?_
  have nd := sc__law_bar.nd
  have hu := hu_of65 hr
  have hu64 := hu_of64 hr
  exact (ds_cons (ds_set 2 (de_op op_subG ((de_call0 F__law_pick hr (by rfl) (da_cons (de_var 0) (da_cons (de_op op_addG ((de_op op_mulG (de_int).v ((de_var 1)).v)).v (de_int).v) da_nil)) (cntA_cons (cntA_cons cntA_nil)))).v ((de_var 1)).v) nd) (ds_cons (ds_if (dw_t (dw_or (dt_cmp (op_eqG hu64) ((de_call0 F__law_pick hr (by rfl) (da_cons (de_var 0) (da_cons de_int da_nil)) (cntA_cons (cntA_cons cntA_nil)))).v (de_int).v) (dw_or1 (dt_cmp (op_eqG hu64) ((de_var 2)).v ((de_var 1)).v)))) (ds_one (ds_ret (de_tup (da_cons (de_callB (call_min2G rfl) (by rfl) tp.m_min (by decide +kernel) (dw_cons ((de_var 2)).v (dw_cons (de_int).v dw_nil))) (da_cons de_non da_nil))))) ds_nil) (ds_one (ds_ret (de_tup (da_cons (de_var 2) (da_cons (de_op op_addG ((de_op op_addG ((de_var 2)).v (de_int).v)).v ((de_call0 F__law_pick hr (by rfl) (da_cons (de_var 0) (da_cons (de_callB (call_min2G rfl) (by rfl) tp.m_min (by decide +kernel) (dw_cons ((de_op op_subG ((de_var 1)).v ((de_var 2)).v)).v (dw_cons ((de_op op_addG (de_int).v ((de_call0 F__law_some hr (by rfl) (da_cons (de_var 0) (da_cons ((df_lst (da_cons de_int (da_cons de_int (da_cons (de_op op_mulG (de_int).v ((de_var 1)).v) da_nil))))).d da_nil)) (cntA_cons (cntA_cons cntA_nil)))).v)).v dw_nil))) da_nil)) (cntA_cons (cntA_cons cntA_nil)))).v) da_nil)))))))
theorem sc__law_moved : FnScope ["_law_bag_here", "_law_bar_here", "_law_wide", "_law_born"] ["_law_bag_here", "_law_bar_here", "_law_wide"] (defScope s__law_moved) := ⟨rfl, rfl, rfl, by decide +kernel, rfl, by decide +kernel, by decide +kernel⟩
set_option maxHeartbeats 4000000 in
theorem ok__law_moved (tp : Tp P w K mg base) (dd : DefAt K mg "_law_moved" s__law_moved ["_law_bag_here", "_law_bar_here", "_law_wide"]) (F__law_pick : F0 P w K mg base "_law_pick" 1 2 fm__law_pick) : F0 P w K mg base "_law_moved" 2 3 fm__law_moved := by
  obtain ⟨f, fd, F, hm, hb⟩ := dd
  refine fn_ok0 F sc__law_moved hm hb fun cdv A outer s H E hr => ?_
  have nd := sc__law_moved.nd
  have hu := hu_of65 hr
  have hu64 := hu_of64 hr
  exact (ds_cons (ds_set 3 (de_callB (call_max2G rfl) (by rfl) tp.m_max (by decide +kernel) (dw_cons ((de_un un_negG ((de_var 2)).v)).v (dw_cons ((de_callB (call_min2G rfl) (by rfl) tp.m_min (by decide +kernel) (dw_cons ((de_op op_subG ((de_var 2)).v (de_int).v)).v (dw_cons ((de_op op_subG ((de_op op_addG ((de_ix ((de_var 1)).v (de_int).v)).v ((de_call0 F__law_pick hr (by rfl) (da_cons (de_var 0) (da_cons de_int da_nil)) (cntA_cons (cntA_cons cntA_nil)))).v)).v (de_int).v)).v dw_nil)))).v dw_nil))) nd) (ds_cons (ds_if (dt_cmp op_isG ((de_ix ((de_var 1)).v (de_int).v)).v (de_non).v) (ds_one (ds_ret (de_tup (da_cons (de_var 3) (da_cons de_non da_nil))))) ds_nil) (ds_one (ds_ret (de_tup (da_cons (de_var 3) (da_cons (de_callB (call_max2G rfl) (by rfl) tp.m_max (by decide +kernel) (dw_cons ((de_op op_addG ((de_var 3)).v (de_int).v)).v (dw_cons ((de_callB (call_min2G rfl) (by rfl) tp.m_min (by decide +kernel) (dw_cons ((de_var 2)).v (dw_cons ((de_op op_subG ((de_op op_addG ((de_ix ((de_var 1)).v (de_int).v)).v ((de_call0 F__law_pick hr (by rfl) (da_cons (de_var 0) (da_cons de_int da_nil)) (cntA_cons (cntA_cons cntA_nil)))).v)).v (de_int).v)).v dw_nil)))).v dw_nil))) da_nil)))))))
theorem sc__law_lists : FnScope ["_law_bag_here", "_law_wide", "_law_most", "_law_one", "_law_other", "_law_bar_here", "_law_turn"] ["_law_bag_here", "_law_wide", "_law_most"] (defScope s__law_lists) := ⟨rfl, rfl, rfl, by decide +kernel, rfl, by decide +kernel, by decide +kernel⟩
set_option maxHeartbeats 4000000 in
theorem ok__law_lists (tp : Tp P w K mg base) (dd : DefAt K mg "_law_lists" s__law_lists ["_law_bag_here", "_law_wide", "_law_most"]) (F__law_bar : F0 P w K mg base "_law_bar" 3 2 fm__law_bar) (F__law_pick : F0 P w K mg base "_law_pick" 1 2 fm__law_pick) (F__law_moved : F0 P w K mg base "_law_moved" 2 3 fm__law_moved) : F0 P w K mg base "_law_lists" 4 3 fm__law_lists := by
  obtain ⟨f, fd, F, hm, hb⟩ := dd
  refine fn_ok0 F sc__law_lists hm hb fun cdv A outer s H E hr => ?_
  have nd := sc__law_lists.nd
  have hu := hu_of65 hr
  have hu64 := hu_of64 hr
  exact (ds_cons (by first | exact (ds_lcM 3 rfl nd (di_rg1 (by rfl) tp.m_range (de_call0 F__law_pick hr (by rfl) (da_cons (de_var 0) (da_cons (de_op op_addG ((de_var 2)).v (de_int).v) da_nil)) (cntA_cons (cntA_cons cntA_nil)))).c (blkOk_by (own := [("_law_turn", 6)]) (by kernel_rfl)) (fun _ _ _ _ _ => (dgc_name 6 (by decide) nd)) (fun _ _ _ _ _ => dts_nil) (fun _ _ _ _ _ => (de_call0 F__law_bar hr (by rfl) (da_cons (de_var 0) (da_cons (de_var 1) da_nil)) (cntA_cons (cntA_cons cntA_nil))))) | exact (ds_set 3 ((df_lc rfl nd (di_rg1 (by rfl) tp.m_range (de_call0 F__law_pick hr (by rfl) (da_cons (de_var 0) (da_cons (de_op op_addG ((de_var 2)).v (de_int).v) da_nil)) (cntA_cons (cntA_cons cntA_nil)))).c (blkOk_by (own := [("_law_turn", 6)]) (by kernel_rfl)) (fun _ _ _ _ _ => (dgc_name 6 (by decide) nd)) (fun _ _ _ _ _ => dts_nil) (fun _ _ _ _ _ => (de_call0 F__law_bar hr (by rfl) (da_cons (de_var 0) (da_cons (de_var 1) da_nil)) (cntA_cons (cntA_cons cntA_nil)))))).d nd)) (ds_cons (ds_own 4 (df_lst da_nil) nd) (ds_cons (ds_for PassesOwn.never rfl (di_seq (de_var 3)) (dg_name 5 nd) (ds_one (ds_if (dt_cmp op_gtG ((de_call0 F__law_pick hr (by rfl) (da_cons (de_var 0) (da_cons de_int da_nil)) (cntA_cons (cntA_cons cntA_nil)))).v (de_int).v) (ds_one (ds_ins 4 (da_cons (de_call0 F__law_pick hr (by rfl) (da_cons (de_var 0) (da_cons (de_op op_addG ((de_callB call_lenG (by rfl) tp.m_len (by decide +kernel) (dw_cons (dv_own 4) dw_nil))).v (de_int).v) da_nil)) (cntA_cons (cntA_cons cntA_nil))) (da_cons (de_call0 F__law_moved hr (by rfl) (da_cons (de_var 0) (da_cons (de_var 5) (da_cons (de_var 1) da_nil))) (cntA_cons (cntA_cons (cntA_cons cntA_nil)))) da_nil)))) ds_nil))) (ds_cons (ds_while 50 PassesOwn.never (dw_t (dw_and (dt_cmp op_ltG ((de_callB call_lenG (by rfl) tp.m_len (by decide +kernel) (dw_cons (dv_own 4) dw_nil))).v ((de_var 2)).v) (dw_and1 (dt_cmp (op_eqG hu64) ((de_call0 F__law_pick hr (by rfl) (da_cons (de_var 0) (da_cons de_int da_nil)) (cntA_cons (cntA_cons cntA_nil)))).v (de_int).v)))) (ds_one (ds_app 4 (da_cons (de_call0 F__law_bar hr (by rfl) (da_cons (de_var 0) (da_cons (de_var 1) da_nil)) (cntA_cons (cntA_cons cntA_nil))) da_nil)))) (ds_one (ds_frz 4 (ds_ret (de_tup (da_cons (de_var 3) (da_cons (de_var 4) da_nil))))))))))
theorem sc__law_deep : FnScope ["_law_bag_here", "_law_found", "_law_turn"] ["_law_bag_here"] (defScope s__law_deep) := ⟨rfl, rfl, rfl, by decide +kernel, rfl, by decide +kernel, by decide +kernel⟩
set_option maxHeartbeats 4000000 in
theorem ok__law_deep (tp : Tp P w K mg base) (dd : DefAt K mg "_law_deep" s__law_deep ["_law_bag_here"]) (F__law_some : F0 P w K mg base "_law_some" 2 2 fm__law_some) (F__law_pick : F0 P w K mg base "_law_pick" 1 2 fm__law_pick) : F0 P w K mg base "_law_deep" 3 1 fm__law_deep := by
  obtain ⟨f, fd, F, hm, hb⟩ := dd
  refine fn_ok0 F sc__law_deep hm hb fun cdv A outer s H E hr => ?_
  have nd := sc__law_deep.nd
  have hu := hu_of65 hr
  have hu64 := hu_of64 hr
  exact (ds_cons (ds_set 1 (de_call0 F__law_some hr (by rfl) (da_cons (de_var 0) (da_cons ((df_lst (da_cons de_int (da_cons de_str (da_cons de_non da_nil))))).d da_nil)) (cntA_cons (cntA_cons cntA_nil))) nd) (ds_cons (ds_for PassesOwn.never rfl (di_rg1 (by rfl) tp.m_range (de_op op_addG (de_int).v ((de_call0 F__law_pick hr (by rfl) (da_cons (de_var 0) (da_cons de_int da_nil)) (cntA_cons (cntA_cons cntA_nil)))).v)) (dg_name 2 nd) (ds_one (ds_set 1 (de_if (dt_cmp (op_eqG hu64) ((de_call0 F__law_pick hr (by rfl) (da_cons (de_var 0) (da_cons de_int da_nil)) (cntA_cons (cntA_cons cntA_nil)))).v (de_int).v) ((df_lst (da_cons (de_var 1) da_nil))).d (de_tup (da_cons (de_var 1) da_nil))) nd))) (ds_one (ds_ret (de_var 1)))))
theorem sc__law_fits : FnScope ["_law_bar", "_law_other", "_law_e"] ["_law_bar", "_law_other", "_law_e"] (defScope s__law_fits) := ⟨rfl, rfl, rfl, by decide +kernel, rfl, by decide +kernel, by decide +kernel⟩
set_option maxHeartbeats 4000000 in
theorem ok__law_fits (tp : Tp P w K mg base) (dd : DefAt K mg "_law_fits" s__law_fits ["_law_bar", "_law_other", "_law_e"]) (F__law_bar : F0 P w K mg base "_law_bar" 3 2 fm__law_bar) : F0 P w K mg base "_law_fits" 4 3 fm__law_fits := by
  obtain ⟨f, fd, F, hm, hb⟩ := dd
  refine fn_ok0 F sc__law_fits hm hb fun cdv A outer s H E hr => ?_
  have nd := sc__law_fits.nd
  have hu := hu_of65 hr
  have hu64 := hu_of64 hr
  exact (ds_cons (ds_if (dt_cmp op_gtG ((de_callB call_absG (by rfl) tp.m_abs (by decide +kernel) (dw_cons ((de_op op_subG ((de_ix ((de_var 0)).v (de_int).v)).v ((de_ix ((de_var 1)).v (de_int).v)).v)).v dw_nil))).v ((de_var 2)).v) (ds_one (ds_ret de_bl)) ds_nil) (ds_cons (ds_if (dw_t (dw_or (dt_cmp op_isG ((de_ix ((de_var 0)).v (de_int).v)).v (de_non).v) (dw_or1 (dt_cmp op_isG ((de_ix ((de_var 1)).v (de_int).v)).v (de_non).v)))) (ds_one (ds_ret (de_and (de_cmp op_isG ((de_ix ((de_var 0)).v (de_int).v)).v (de_non).v) (de_one (de_cmp op_isG ((de_ix ((de_var 1)).v (de_int).v)).v (de_non).v))))) ds_nil) (ds_one (ds_ret (de_cmp op_leG ((de_callB call_absG (by rfl) tp.m_abs (by decide +kernel) (dw_cons ((de_op op_subG ((de_ix ((de_var 0)).v (de_int).v)).v ((de_ix ((de_var 1)).v (de_int).v)).v)).v dw_nil))).v ((de_var 2)).v)))))
theorem sc__law_drawn : FnScope ["_law_bag_here", "_law_one", "_law_other", "_law_e", "_law_found", "_law_used", "_law_at", "_law_bar_here", "_law_free", "_law_to", "_law_there"] ["_law_bag_here", "_law_one", "_law_other", "_law_e"] (defScope s__law_drawn) := ⟨rfl, rfl, rfl, by decide +kernel, rfl, by decide +kernel, by decide +kernel⟩
set_option maxHeartbeats 4000000 in
theorem ok__law_drawn (tp : Tp P w K mg base) (dd : DefAt K mg "_law_drawn" s__law_drawn ["_law_bag_here", "_law_one", "_law_other", "_law_e"]) (F__law_pick : F0 P w K mg base "_law_pick" 1 2 fm__law_pick) (F__law_some : F0 P w K mg base "_law_some" 2 2 fm__law_some) (F__law_fits : F0 P w K mg base "_law_fits" 4 3 fm__law_fits) : F0 P w K mg base "_law_drawn" 5 4 fm__law_drawn := by
  obtain ⟨f, fd, F, hm, hb⟩ := dd
  refine fn_ok0 F sc__law_drawn hm hb fun cdv A outer s H E hr => ?_
  have nd := sc__law_drawn.nd
  have hu := hu_of65 hr
  have hu64 := hu_of64 hr
  exact (ds_cons (by first | exact (ds_par2 rfl nd (dsl_f (df_lst da_nil) (dsl_f (df_lst da_nil) dsl_nil))) | exact (ds_parT [4, 5] (dsl_f (df_lst da_nil) (dsl_f (df_lst da_nil) dsl_nil)) rfl (pgs_cons (pg_name (i := 4) nd rfl (by first | exact .inl rfl | exact .inr rfl)) (pgs_cons (pg_name (i := 5) nd rfl (by first | exact .inl rfl | exact .inr rfl)) pgs_nil)))) (ds_cons (ds_for PassesOwn.never rfl (di_enumL (by rfl) tp.m_enumerate (de_var 1)) (dg_tup rfl (dg_cons (dg_name 6 nd) (dg_cons (dg_name 7 nd) dg_nil)) (cnt_cons (cnt_cons cnt_nil))) (ds_cons (by first | exact (ds_lcM 8 rfl nd (dic_enumL (by rfl) tp.m_enumerate ((de_var 2)).v) (blkOk_by (own := [("_law_to", 9), ("_law_there", 10)]) (by kernel_rfl)) (fun _ _ _ _ _ => (dgc_tup rfl (dgc_cons (dgc_name 9 (by decide) nd) (dgc_cons (dgc_name 10 (by decide) nd) dgc_nil)) (cnt_cons (cnt_cons cnt_nil)))) (fun _ _ _ _ _ => (dts_one (dw_t (dw_and (dt_cmp (op_ninG hu) ((de_var 9)).v (dv_own 5)) (dw_and1 (dt_val (de_call0 F__law_fits hr (by rfl) (da_cons (de_var 7) (da_cons (de_var 10) (da_cons (de_var 3) da_nil))) (cntA_cons (cntA_cons (cntA_cons cntA_nil)))))))))) (fun _ _ _ _ _ => (de_var 9))) | exact (ds_set 8 ((df_lc rfl nd (dic_enumL (by rfl) tp.m_enumerate ((de_var 2)).v) (blkOk_by (own := [("_law_to", 9), ("_law_there", 10)]) (by kernel_rfl)) (fun _ _ _ _ _ => (dgc_tup rfl (dgc_cons (dgc_name 9 (by decide) nd) (dgc_cons (dgc_name 10 (by decide) nd) dgc_nil)) (cnt_cons (cnt_cons cnt_nil)))) (fun _ _ _ _ _ => (dts_one (dw_t (dw_and (dt_cmp (op_ninG hu) ((de_var 9)).v (dv_own 5)) (dw_and1 (dt_val (de_call0 F__law_fits hr (by rfl) (da_cons (de_var 7) (da_cons (de_var 10) (da_cons (de_var 3) da_nil))) (cntA_cons (cntA_cons (cntA_cons cntA_nil)))))))))) (fun _ _ _ _ _ => (de_var 9)))).d nd)) (ds_one (ds_if (dw_t (dw_and (dt_cmp op_gtG ((de_callB call_lenG (by rfl) tp.m_len (by decide +kernel) (dw_cons ((de_var 8)).v dw_nil))).v (de_int).v) (dw_and1 (dt_cmp op_gtG ((de_call0 F__law_pick hr (by rfl) (da_cons (de_var 0) (da_cons de_int da_nil)) (cntA_cons (cntA_cons cntA_nil)))).v (de_int).v)))) (ds_cons (ds_app 5 (da_cons (de_call0 F__law_some hr (by rfl) (da_cons (de_var 0) (da_cons (de_var 8) da_nil)) (cntA_cons (cntA_cons cntA_nil))) da_nil)) (ds_one (ds_app 4 (da_cons (de_tup (da_cons (de_var 6) (da_cons (de_ix (dv_own 5) ((de_un un_negG (de_int).v)).v) da_nil))) da_nil)))) ds_nil)))) (ds_one (ds_frz 4 (ds_ret (de_var 4))))))
theorem sc__law_is_flag : FnScope ["_law_told", "_law_due"] ["_law_told", "_law_due"] (defScope s__law_is_flag) := ⟨rfl, rfl, rfl, by decide +kernel, rfl, by decide +kernel, by decide +kernel⟩
set_option maxHeartbeats 4000000 in
theorem ok__law_is_flag (tp : Tp P w K mg base) (dd : DefAt K mg "_law_is_flag" s__law_is_flag ["_law_told", "_law_due"])  : F0 P w K mg base "_law_is_flag" 1 2 fm__law_is_flag := by
  obtain ⟨f, fd, F, hm, hb⟩ := dd
  refine fn_ok0 F sc__law_is_flag hm hb fun cdv A outer s H E hr => ?_
  have nd := sc__law_is_flag.nd
  have hu := hu_of65 hr
  have hu64 := hu_of64 hr
  exact (ds_one (ds_ret (de_and (de_isi (by rfl) tp.m_isinstance (by rfl) tp.m_bool (by decide +kernel) ((de_var 0)).v) (de_one (de_cmp (op_eqG hu64) ((de_var 0)).v ((de_var 1)).v)))))
theorem sc__law_bent : FnScope ["_law_bag_here", "_law_pairs", "_law_many", "_law_more", "_law_at", "_law_new", "_law_way", "_law_pair", "_law_left", "_law_other"] ["_law_bag_here", "_law_pairs", "_law_many", "_law_more"] (defScope s__law_bent) := ⟨rfl, rfl, rfl, by decide +kernel, rfl, by decide +kernel, by decide +kernel⟩
set_option maxHeartbeats 4000000 in
theorem ok__law_bent (tp : Tp P w K mg base) (dd : DefAt K mg "_law_bent" s__law_bent ["_law_bag_here", "_law_pairs", "_law_many", "_law_more"]) (F__law_pick : F0 P w K mg base "_law_pick" 1 2 fm__law_pick) (F__law_some : F0 P w K mg base "_law_some" 2 2 fm__law_some) : F0 P w K mg base "_law_bent" 3 4 fm__law_bent := by
  obtain ⟨f, fd, F, hm, hb⟩ := dd
  refine fn_ok0 F sc__law_bent hm hb fun cdv A outer s H E hr => ?_
  have nd := sc__law_bent.nd
  have hu := hu_of65 hr
  have hu64 := hu_of64 hr
  exact (ds_cons (ds_set 4 (de_call0 F__law_pick hr (by rfl) (da_cons (de_var 0) (da_cons (de_op op_addG ((de_callB call_lenG (by rfl) tp.m_len (by decide +kernel) (dw_cons ((de_var 1)).v dw_nil))).v (de_int).v) da_nil)) (cntA_cons (cntA_cons cntA_nil))) nd) (ds_cons (ds_set 5 (de_tup (da_cons (de_op op_subG ((de_call0 F__law_pick hr (by rfl) (da_cons (de_var 0) (da_cons (de_op op_addG ((de_var 2)).v (de_int).v) da_nil)) (cntA_cons (cntA_cons cntA_nil)))).v (de_int).v) (da_cons (de_op op_subG ((de_call0 F__law_pick hr (by rfl) (da_cons (de_var 0) (da_cons (de_op op_addG ((de_var 3)).v (de_int).v) da_nil)) (cntA_cons (cntA_cons cntA_nil)))).v (de_int).v) da_nil))) nd) (ds_cons (ds_set 6 (de_call0 F__law_pick hr (by rfl) (da_cons (de_var 0) (da_cons de_int da_nil)) (cntA_cons (cntA_cons cntA_nil))) nd) (ds_cons (ds_if (dw_t (dw_or (dt_cmp (op_eqG hu64) ((de_var 6)).v (de_int).v) (dw_or1 (dt_cmp (op_eqG hu64) ((de_callB call_lenG (by rfl) tp.m_len (by decide +kernel) (dw_cons ((de_var 1)).v dw_nil))).v (de_int).v)))) (ds_one (ds_ret (de_callTy call_tupleG (by rfl) tp.m_tuple (by decide +kernel) (dw_cons ((df_callB call_sortedPG (by rfl) tp.m_sorted (by decide +kernel) (dw_cons ((de_op op_addG ((de_var 1)).v ((df_lst (da_cons (de_var 5) da_nil))).v)).v dw_nil))).v dw_nil)))) ds_nil) (ds_cons (ds_set 7 (de_ix ((de_var 1)).v ((de_callB (call_min2G rfl) (by rfl) tp.m_min (by decide +kernel) (dw_cons ((de_var 4)).v (dw_cons ((de_op op_subG ((de_callB call_lenG (by rfl) tp.m_len (by decide +kernel) (dw_cons ((de_var 1)).v dw_nil))).v (de_int).v)).v dw_nil)))).v) nd) (ds_cons (by first | exact (ds_lcM 8 rfl nd (dic_seq ((de_var 1)).v) (blkOk_by (own := [("_law_other", 9)]) (by kernel_rfl)) (fun _ _ _ _ _ => (dgc_name 9 (by decide) nd)) (fun _ _ _ _ _ => (dts_one (dt_cmp (op_neG hu64) ((de_var 9)).v ((de_var 7)).v))) (fun _ _ _ _ _ => (de_var 9))) | exact (ds_set 8 ((df_lc rfl nd (dic_seq ((de_var 1)).v) (blkOk_by (own := [("_law_other", 9)]) (by kernel_rfl)) (fun _ _ _ _ _ => (dgc_name 9 (by decide) nd)) (fun _ _ _ _ _ => (dts_one (dt_cmp (op_neG hu64) ((de_var 9)).v ((de_var 7)).v))) (fun _ _ _ _ _ => (de_var 9)))).d nd)) (ds_cons (ds_if (dt_cmp (op_eqG hu64) ((de_var 6)).v (de_int).v) (ds_one (ds_ret (de_callTy call_tupleG (by rfl) tp.m_tuple (by decide +kernel) (dw_cons ((de_var 8)).v dw_nil)))) ds_nil) (ds_cons (ds_if (dt_cmp (op_eqG hu64) ((de_var 6)).v (de_int).v) (ds_one (ds_ret (de_callTy call_tupleG (by rfl) tp.m_tuple (by decide +kernel) (dw_cons ((df_callB call_sortedPG (by rfl) tp.m_sorted (by decide +kernel) (dw_cons ((de_op op_addG ((de_var 8)).v ((df_lst (da_cons (de_var 5) da_nil))).v)).v dw_nil))).v dw_nil)))) ds_nil) (ds_cons (ds_if (dt_cmp (op_eqG hu64) ((de_var 6)).v (de_int).v) (ds_one (ds_ret (de_callTy call_tupleG (by rfl) tp.m_tuple (by decide +kernel) (dw_cons ((de_rev ((de_var 1)).v)).v dw_nil)))) ds_nil) (ds_cons (ds_if (dt_cmp (op_eqG hu64) ((de_var 6)).v (de_int).v) (ds_one (ds_ret (de_callTy call_tupleG (by rfl) tp.m_tuple (by decide +kernel) (dw_cons ((df_callB call_sortedPG (by rfl) tp.m_sorted (by decide +kernel) (dw_cons ((de_op op_addG ((de_var 1)).v ((df_lst (da_cons (de_var 7) da_nil))).v)).v dw_nil))).v dw_nil)))) ds_nil) (ds_cons (ds_if (dt_cmp (op_eqG hu64) ((de_var 6)).v (de_int).v) (ds_one (ds_ret ((df_callTy call_listG (by rfl) tp.m_list (by decide +kernel) (dw_cons ((de_var 1)).v dw_nil))).d)) ds_nil) (ds_cons (ds_if (dt_cmp (op_eqG hu64) ((de_var 6)).v (de_int).v) (ds_one (ds_ret (de_callTy call_tupleG (by rfl) tp.m_tuple (by decide +kernel) (dw_cons ((de_op op_addG ((de_var 8)).v ((df_lst (da_cons (de_call0 F__law_some hr (by rfl) (da_cons (de_var 0) (da_cons ((df_lst (da_cons ((df_callTy call_listG (by rfl) tp.m_list (by decide +kernel) (dw_cons ((de_var 7)).v dw_nil))).d (da_cons (de_op op_addG ((de_var 7)).v ((de_tup (da_cons de_int da_nil))).v) (da_cons (de_sl ((de_var 7)).v do_no (do_so de_int)) (da_cons de_non (da_cons (de_tup (da_cons (de_ix ((de_var 7)).v (de_int).v) (da_cons de_non da_nil))) (da_cons (de_tup (da_cons (de_var 7) da_nil)) da_nil)))))))).d da_nil)) (cntA_cons (cntA_cons cntA_nil))) da_nil))).v)).v dw_nil)))) ds_nil) (ds_cons (ds_if (dt_cmp (op_eqG hu64) ((de_var 6)).v (de_int).v) (ds_one (ds_ret (de_callTy call_tupleG (by rfl) tp.m_tuple (by decide +kernel) (dw_cons ((de_op op_addG ((df_lst (da_cons (de_rev ((de_var 7)).v) da_nil))).v ((de_var 8)).v)).v dw_nil)))) ds_nil) (ds_one (ds_ret (de_callTy call_tupleG (by rfl) tp.m_tuple (by decide +kernel) (dw_cons ((df_lc rfl nd (dic_seq ((de_var 1)).v) (blkOk_by (own := [("_law_other", 9)]) (by kernel_rfl)) (fun _ _ _ _ _ => (dgc_name 9 (by decide) nd)) (fun _ _ _ _ _ => dts_nil) (fun _ _ _ _ _ => (de_if (dt_cmp op_ltG ((de_ix ((de_var 9)).v (de_int).v)).v (de_int).v) (de_tup (da_cons (de_callTy call_boolG (by rfl) tp.m_bool (by decide +kernel) (dw_cons ((de_ix ((de_var 9)).v (de_int).v)).v dw_nil)) (da_cons (de_ix ((de_var 9)).v (de_int).v) da_nil))) (de_var 9))))).v dw_nil)))))))))))))))))
theorem sc_is_integer : FnScope ["thing"] ["thing"] (defScope s_is_integer) := ⟨rfl, rfl, rfl, by decide +kernel, rfl, by decide +kernel, by decide +kernel⟩
set_option maxHeartbeats 4000000 in
theorem ok_is_integer (tp : Tp P w K mg base) (dd : DefAt K mg "is_integer" s_is_integer ["thing"])  : F0 P w K mg base "is_integer" 1 1 fm_is_integer := by
  obtain ⟨f, fd, F, hm, hb⟩ := dd
  refine fn_ok0 F sc_is_integer hm hb fun cdv A outer s H E hr => ?_
  have nd := sc_is_integer.nd
  have hu := hu_of65 hr
  have hu64 := hu_of64 hr
  exact (ds_one (ds_ret (de_and (de_isi (by rfl) tp.m_isinstance (by rfl) tp.m_int (by decide +kernel) ((de_var 0)).v) (de_one (de_not (de_isi (by rfl) tp.m_isinstance (by rfl) tp.m_bool (by decide +kernel) ((de_var 0)).v))))))
theorem sc_is_within : FnScope ["thing", "least", "most"] ["thing", "least", "most"] (defScope s_is_within) := ⟨rfl, rfl, rfl, by decide +kernel, rfl, by decide +kernel, by decide +kernel⟩
set_option maxHeartbeats 4000000 in
theorem ok_is_within (tp : Tp P w K mg base) (dd : DefAt K mg "is_within" s_is_within ["thing", "least", "most"]) (F_is_integer : F0 P w K mg base "is_integer" 1 1 fm_is_integer) : F0 P w K mg base "is_within" 2 3 fm_is_within := by
  obtain ⟨f, fd, F, hm, hb⟩ := dd
  refine fn_ok0 F sc_is_within hm hb fun cdv A outer s H E hr => ?_
  have nd := sc_is_within.nd
  have hu := hu_of65 hr
  have hu64 := hu_of64 hr
  exact (ds_one (ds_ret (de_and (de_call0 F_is_integer hr (by rfl) (da_cons (de_var 0) da_nil) (cntA_cons cntA_nil)) (de_one (de_chain op_leG op_leG ((de_var 1)).v ((de_var 0)).v ((de_var 2)).v)))))
theorem sc_is_bar : FnScope ["thing"] ["thing"] (defScope s_is_bar) := ⟨rfl, rfl, rfl, by decide +kernel, rfl, by decide +kernel, by decide +kernel⟩
set_option maxHeartbeats 4000000 in
theorem ok_is_bar (tp : Tp P w K mg base) (dd : DefAt K mg "is_bar" s_is_bar ["thing"]) (F_is_within : F0 P w K mg base "is_within" 2 3 fm_is_within) : F0 P w K mg base "is_bar" 3 1 fm_is_bar := by
  obtain ⟨f, fd, F, hm, hb⟩ := dd
  refine fn_ok0 F sc_is_bar hm hb fun cdv A outer s H E hr => ?_
  have nd := sc_is_bar.nd
  have hu := hu_of65 hr
  have hu64 := hu_of64 hr
  exact (ds_cons (ds_if (dw_t (dw_or (dt_not (dt_val (de_isi (by rfl) tp.m_isinstance (by rfl) tp.m_tuple (by decide +kernel) ((de_var 0)).v))) (dw_or (dt_cmp (op_neG hu64) ((de_callB call_lenG (by rfl) tp.m_len (by decide +kernel) (dw_cons ((de_var 0)).v dw_nil))).v (de_int).v) (dw_or1 (dt_not (dt_val (de_call0 F_is_within hr (by rfl) (da_cons (de_ix ((de_var 0)).v (de_int).v) (da_cons (de_un un_negG ((de_gintE (by rfl) tp.c_FARTHEST)).v) (da_cons (de_gintE (by rfl) tp.c_FARTHEST) da_nil))) (cntA_cons (cntA_cons (cntA_cons cntA_nil)))))))))) (ds_one (ds_ret de_bl)) ds_nil) (ds_one (ds_ret (de_or (de_cmp op_isG ((de_ix ((de_var 0)).v (de_int).v)).v (de_non).v) (de_one (de_call0 F_is_within hr (by rfl) (da_cons (de_ix ((de_var 0)).v (de_int).v) (da_cons (de_op op_addG ((de_ix ((de_var 0)).v (de_int).v)).v (de_int).v) (da_cons (de_gintE (by rfl) tp.c_FARTHEST) da_nil))) (cntA_cons (cntA_cons (cntA_cons cntA_nil)))))))))
theorem sc_check_bars : FnScope ["thing", "bar"] ["thing"] (defScope s_check_bars) := ⟨rfl, rfl, rfl, by decide +kernel, rfl, by decide +kernel, by decide +kernel⟩
set_option maxHeartbeats 4000000 in
theorem ok_check_bars (tp : Tp P w K mg base) (dd : DefAt K mg "check_bars" s_check_bars ["thing"]) (F_is_bar : F0 P w K mg base "is_bar" 3 1 fm_is_bar) : F0 P w K mg base "check_bars" 4 1 fm_check_bars := by
  obtain ⟨f, fd, F, hm, hb⟩ := dd
  refine fn_ok0 F sc_check_bars hm hb fun cdv A outer s H E hr => ?_
  have nd := sc_check_bars.nd
  have hu := hu_of65 hr
  have hu64 := hu_of64 hr
  exact (ds_one (ds_if (dw_t (dw_or (dt_not (dt_val (de_isi2 (by rfl) tp.m_isinstance (by rfl) tp.m_list (by decide +kernel) (by rfl) tp.m_tuple (by decide +kernel) ((de_var 0)).v))) (dw_or (dt_cmp op_gtG ((de_callB call_lenG (by rfl) tp.m_len (by decide +kernel) (dw_cons ((de_var 0)).v dw_nil))).v ((de_gintE (by rfl) tp.c_MOST_BARS)).v) (dw_or1 (dt_not (dt_val (de_callB (call_allG rfl) (by rfl) tp.m_all (by decide +kernel) (dw_cons ((df_lc rfl nd (dic_seq ((de_var 0)).v) (blkOk_by (own := [("bar", 1)]) (by kernel_rfl)) (fun _ _ _ _ _ => (dgc_name 1 (by decide) nd)) (fun _ _ _ _ _ => dts_nil) (fun _ _ _ _ _ => (de_call0 F_is_bar hr (by rfl) (da_cons (de_var 1) da_nil) (cntA_cons cntA_nil))))).v dw_nil)))))))) (ds_one ds_never) ds_nil))
theorem sc_check_within : FnScope ["thing", "least", "most"] ["thing", "least", "most"] (defScope s_check_within) := ⟨rfl, rfl, rfl, by decide +kernel, rfl, by decide +kernel, by decide +kernel⟩
set_option maxHeartbeats 4000000 in
theorem ok_check_within (tp : Tp P w K mg base) (dd : DefAt K mg "check_within" s_check_within ["thing", "least", "most"]) (F_is_within : F0 P w K mg base "is_within" 2 3 fm_is_within) : F0 P w K mg base "check_within" 3 3 fm_check_within := by
  obtain ⟨f, fd, F, hm, hb⟩ := dd
  refine fn_ok0 F sc_check_within hm hb fun cdv A outer s H E hr => ?_
  have nd := sc_check_within.nd
  have hu := hu_of65 hr
  have hu64 := hu_of64 hr
  exact (ds_one (ds_if (dt_not (dt_val (de_call0 F_is_within hr (by rfl) (da_cons (de_var 0) (da_cons (de_var 1) (da_cons (de_var 2) da_nil))) (cntA_cons (cntA_cons (cntA_cons cntA_nil)))))) (ds_one ds_never) ds_nil))
theorem sc_check_asked : FnScope ["one", "other", "e"] ["one", "other", "e"] (defScope s_check_asked) := ⟨rfl, rfl, rfl, by decide +kernel, rfl, by decide +kernel, by decide +kernel⟩
set_option maxHeartbeats 4000000 in
theorem ok_check_asked (tp : Tp P w K mg base) (dd : DefAt K mg "check_asked" s_check_asked ["one", "other", "e"]) (F_check_bars : F0 P w K mg base "check_bars" 4 1 fm_check_bars) (F_check_within : F0 P w K mg base "check_within" 3 3 fm_check_within) : F0 P w K mg base "check_asked" 5 3 fm_check_asked := by
  obtain ⟨f, fd, F, hm, hb⟩ := dd
  refine fn_ok0 F sc_check_asked hm hb fun cdv A outer s H E hr => ?_
  have nd := sc_check_asked.nd
  have hu := hu_of65 hr
  have hu64 := hu_of64 hr
  exact (ds_cons (ds_drop (de_call0 F_check_bars hr (by rfl) (da_cons (de_var 0) da_nil) (cntA_cons cntA_nil))) (ds_cons (ds_drop (de_call0 F_check_bars hr (by rfl) (da_cons (de_var 1) da_nil) (cntA_cons cntA_nil))) (ds_one (ds_drop (de_call0 F_check_within hr (by rfl) (da_cons (de_var 2) (da_cons de_int (da_cons (de_gintE (by rfl) tp.c_MOST_DISTANCE) da_nil))) (cntA_cons (cntA_cons (cntA_cons cntA_nil))))))))
theorem sc_is_long : FnScope ["bar", "e"] ["bar", "e"] (defScope s_is_long) := ⟨rfl, rfl, rfl, by decide +kernel, rfl, by decide +kernel, by decide +kernel⟩
set_option maxHeartbeats 4000000 in
theorem ok_is_long (tp : Tp P w K mg base) (dd : DefAt K mg "is_long" s_is_long ["bar", "e"])  : F0 P w K mg base "is_long" 1 2 fm_is_long := by
  obtain ⟨f, fd, F, hm, hb⟩ := dd
  refine fn_ok0 F sc_is_long hm hb fun cdv A outer s H E hr => ?_
  have nd := sc_is_long.nd
  have hu := hu_of65 hr
  have hu64 := hu_of64 hr
  exact (ds_one (ds_ret (de_or (de_cmp op_isG ((de_ix ((de_var 0)).v (de_int).v)).v (de_non).v) (de_one (de_cmp op_gtG ((de_op op_subG ((de_ix ((de_var 0)).v (de_int).v)).v ((de_ix ((de_var 0)).v (de_int).v)).v)).v ((de_op op_mulG (de_int).v ((de_var 1)).v)).v)))))
theorem sc_is_number : FnScope ["thing", "most"] ["thing", "most"] (defScope s_is_number) := ⟨rfl, rfl, rfl, by decide +kernel, rfl, by decide +kernel, by decide +kernel⟩
set_option maxHeartbeats 4000000 in
theorem ok_is_number (tp : Tp P w K mg base) (dd : DefAt K mg "is_number" s_is_number ["thing", "most"]) (F_is_within : F0 P w K mg base "is_within" 2 3 fm_is_within) : F0 P w K mg base "is_number" 3 2 fm_is_number := by
  obtain ⟨f, fd, F, hm, hb⟩ := dd
  refine fn_ok0 F sc_is_number hm hb fun cdv A outer s H E hr => ?_
  have nd := sc_is_number.nd
  have hu := hu_of65 hr
  have hu64 := hu_of64 hr
  exact (ds_one (ds_ret (de_call0 F_is_within hr (by rfl) (da_cons (de_var 0) (da_cons de_int (da_cons (de_var 1) da_nil))) (cntA_cons (cntA_cons (cntA_cons cntA_nil))))))
theorem sc_is_number_pair : FnScope ["thing", "many", "more"] ["thing", "many", "more"] (defScope s_is_number_pair) := ⟨rfl, rfl, rfl, by decide +kernel, rfl, by decide +kernel, by decide +kernel⟩
set_option maxHeartbeats 4000000 in
theorem ok_is_number_pair (tp : Tp P w K mg base) (dd : DefAt K mg "is_number_pair" s_is_number_pair ["thing", "many", "more"]) (F_is_number : F0 P w K mg base "is_number" 3 2 fm_is_number) : F0 P w K mg base "is_number_pair" 4 3 fm_is_number_pair := by
  obtain ⟨f, fd, F, hm, hb⟩ := dd
  refine fn_ok0 F sc_is_number_pair hm hb fun cdv A outer s H E hr => ?_
  have nd := sc_is_number_pair.nd
  have hu := hu_of65 hr
  have hu64 := hu_of64 hr
  exact (ds_cons (ds_if (dw_t (dw_or (dt_not (dt_val (de_isi (by rfl) tp.m_isinstance (by rfl) tp.m_tuple (by decide +kernel) ((de_var 0)).v))) (dw_or1 (dt_cmp (op_neG hu64) ((de_callB call_lenG (by rfl) tp.m_len (by decide +kernel) (dw_cons ((de_var 0)).v dw_nil))).v (de_int).v)))) (ds_one (ds_ret de_bl)) ds_nil) (ds_one (ds_ret (de_and (de_call0 F_is_number hr (by rfl) (da_cons (de_ix ((de_var 0)).v (de_int).v) (da_cons (de_op op_subG ((de_var 1)).v (de_int).v) da_nil)) (cntA_cons (cntA_cons cntA_nil))) (de_one (de_call0 F_is_number hr (by rfl) (da_cons (de_ix ((de_var 0)).v (de_int).v) (da_cons (de_op op_subG ((de_var 2)).v (de_int).v) da_nil)) (cntA_cons (cntA_cons cntA_nil))))))))
theorem sc_do_fit : FnScope ["bar", "other", "e"] ["bar", "other", "e"] (defScope s_do_fit) := ⟨rfl, rfl, rfl, by decide +kernel, rfl, by decide +kernel, by decide +kernel⟩
set_option maxHeartbeats 4000000 in
theorem ok_do_fit (tp : Tp P w K mg base) (dd : DefAt K mg "do_fit" s_do_fit ["bar", "other", "e"])  : F0 P w K mg base "do_fit" 1 3 fm_do_fit := by
  obtain ⟨f, fd, F, hm, hb⟩ := dd
  refine fn_ok0 F sc_do_fit hm hb fun cdv A outer s H E hr => ?_
  have nd := sc_do_fit.nd
  have hu := hu_of65 hr
  have hu64 := hu_of64 hr
  exact (ds_cons (ds_if (dw_t (dw_or (dt_cmp op_gtG ((de_callB call_absG (by rfl) tp.m_abs (by decide +kernel) (dw_cons ((de_op op_subG ((de_ix ((de_var 0)).v (de_int).v)).v ((de_ix ((de_var 1)).v (de_int).v)).v)).v dw_nil))).v ((de_var 2)).v) (dw_or1 (dt_cmp (op_neG hu64) ((de_cmp op_isG ((de_ix ((de_var 0)).v (de_int).v)).v (de_non).v)).v ((de_cmp op_isG ((de_ix ((de_var 1)).v (de_int).v)).v (de_non).v)).v)))) (ds_one (ds_ret de_bl)) ds_nil) (ds_one (ds_ret (de_or (de_cmp op_isG ((de_ix ((de_var 0)).v (de_int).v)).v (de_non).v) (de_one (de_cmp op_leG ((de_callB call_absG (by rfl) tp.m_abs (by decide +kernel) (dw_cons ((de_op op_subG ((de_ix ((de_var 0)).v (de_int).v)).v ((de_ix ((de_var 1)).v (de_int).v)).v)).v dw_nil))).v ((de_var 2)).v))))))
theorem sc_is_pairing : FnScope ["one", "other", "e", "thing", "used", "mine", "pair", "at", "here", "there", "bar"] ["one", "other", "e", "thing"] (defScope s_is_pairing) := ⟨rfl, rfl, rfl, by decide +kernel, rfl, by decide +kernel, by decide +kernel⟩
set_option maxHeartbeats 4000000 in
theorem ok_is_pairing (tp : Tp P w K mg base) (dd : DefAt K mg "is_pairing" s_is_pairing ["one", "other", "e", "thing"]) (F_check_asked : F0 P w K mg base "check_asked" 5 3 fm_check_asked) (F_is_long : F0 P w K mg base "is_long" 1 2 fm_is_long) (F_is_number_pair : F0 P w K mg base "is_number_pair" 4 3 fm_is_number_pair) (F_do_fit : F0 P w K mg base "do_fit" 1 3 fm_do_fit) : F0 P w K mg base "is_pairing" 6 4 fm_is_pairing := by
  obtain ⟨f, fd, F, hm, hb⟩ := dd
  refine fn_ok0 F sc_is_pairing hm hb fun cdv A outer s H E hr => ?_
  have nd := sc_is_pairing.nd
  have hu := hu_of65 hr
  have hu64 := hu_of64 hr
  exact (ds_cons (ds_drop (de_call0 F_check_asked hr (by rfl) (da_cons (de_var 0) (da_cons (de_var 1) (da_cons (de_var 2) da_nil))) (cntA_cons (cntA_cons (cntA_cons cntA_nil))))) (ds_cons (ds_if (dw_t (dw_or (dt_not (dt_val (de_isi (by rfl) tp.m_isinstance (by rfl) tp.m_tuple (by decide +kernel) ((de_var 3)).v))) (dw_or1 (dt_not (dt_val (de_callB (call_allG rfl) (by rfl) tp.m_all (by decide +kernel) (dw_cons ((df_lc rfl nd (dic_seq ((de_var 3)).v) (blkOk_by (own := [("pair", 6)]) (by kernel_rfl)) (fun _ _ _ _ _ => (dgc_name 6 (by decide) nd)) (fun _ _ _ _ _ => dts_nil) (fun _ _ _ _ _ => (de_call0 F_is_number_pair hr (by rfl) (da_cons (de_var 6) (da_cons (de_callB call_lenG (by rfl) tp.m_len (by decide +kernel) (dw_cons ((de_var 0)).v dw_nil)) (da_cons (de_callB call_lenG (by rfl) tp.m_len (by decide +kernel) (dw_cons ((de_var 1)).v dw_nil)) da_nil))) (cntA_cons (cntA_cons (cntA_cons cntA_nil))))))).v dw_nil))))))) (ds_one (ds_ret de_bl)) ds_nil) (ds_cons (ds_if (dt_not (dt_val (de_callB (call_allG rfl) (by rfl) tp.m_all (by decide +kernel) (dw_cons ((df_lc rfl nd (di_rg2 (by rfl) tp.m_range de_int (de_callB call_lenG (by rfl) tp.m_len (by decide +kernel) (dw_cons ((de_var 3)).v dw_nil))).c (blkOk_by (own := [("at", 7)]) (by kernel_rfl)) (fun _ _ _ _ _ => (dgc_name 7 (by decide) nd)) (fun _ _ _ _ _ => dts_nil) (fun _ _ _ _ _ => (de_cmp op_ltG ((de_ix ((de_ix ((de_var 3)).v ((de_op op_subG ((de_var 7)).v (de_int).v)).v)).v (de_int).v)).v ((de_ix ((de_ix ((de_var 3)).v ((de_var 7)).v)).v (de_int).v)).v)))).v dw_nil)))) (ds_one (ds_ret de_bl)) ds_nil) (ds_cons (ds_set 4 ((df_dc rfl nd (dic_seq ((de_var 3)).v) (blkOk_by (own := [("here", 8), ("there", 9)]) (by kernel_rfl)) (fun _ _ _ _ _ => (dgc_tup rfl (dgc_cons (dgc_name 8 (by decide) nd) (dgc_cons (dgc_name 9 (by decide) nd) dgc_nil)) (cnt_cons (cnt_cons cnt_nil)))) (fun _ _ _ _ _ => dts_nil) (fun _ _ _ _ _ => (de_var 9)) (fun _ _ _ _ _ => (de_var 8)))).d nd) (ds_cons (ds_if (dw_t (dw_or (dt_cmp op_ltG ((de_callB call_lenG (by rfl) tp.m_len (by decide +kernel) (dw_cons ((de_var 4)).v dw_nil))).v ((de_callB call_lenG (by rfl) tp.m_len (by decide +kernel) (dw_cons ((de_var 3)).v dw_nil))).v) (dw_or1 (dt_not (dt_val (de_callB (call_allG rfl) (by rfl) tp.m_all (by decide +kernel) (dw_cons ((df_lc rfl nd (dic_seq ((de_var 3)).v) (blkOk_by (own := [("here", 8), ("there", 9)]) (by kernel_rfl)) (fun _ _ _ _ _ => (dgc_tup rfl (dgc_cons (dgc_name 8 (by decide) nd) (dgc_cons (dgc_name 9 (by decide) nd) dgc_nil)) (cnt_cons (cnt_cons cnt_nil)))) (fun _ _ _ _ _ => dts_nil) (fun _ _ _ _ _ => (de_call0 F_do_fit hr (by rfl) (da_cons (de_ix ((de_var 0)).v ((de_var 8)).v) (da_cons (de_ix ((de_var 1)).v ((de_var 9)).v) (da_cons (de_var 2) da_nil))) (cntA_cons (cntA_cons (cntA_cons cntA_nil))))))).v dw_nil))))))) (ds_one (ds_ret de_bl)) ds_nil) (ds_cons (by first | exact (ds_lcM 5 rfl nd (dic_seq ((de_var 3)).v) (blkOk_by (own := [("here", 8), ("there", 9)]) (by kernel_rfl)) (fun _ _ _ _ _ => (dgc_tup rfl (dgc_cons (dgc_name 8 (by decide) nd) (dgc_cons (dgc_name 9 (by decide) nd) dgc_nil)) (cnt_cons (cnt_cons cnt_nil)))) (fun _ _ _ _ _ => dts_nil) (fun _ _ _ _ _ => (de_var 8))) | exact (ds_set 5 ((df_lc rfl nd (dic_seq ((de_var 3)).v) (blkOk_by (own := [("here", 8), ("there", 9)]) (by kernel_rfl)) (fun _ _ _ _ _ => (dgc_tup rfl (dgc_cons (dgc_name 8 (by decide) nd) (dgc_cons (dgc_name 9 (by decide) nd) dgc_nil)) (cnt_cons (cnt_cons cnt_nil)))) (fun _ _ _ _ _ => dts_nil) (fun _ _ _ _ _ => (de_var 8)))).d nd)) (ds_cons (ds_if (dt_val (de_callB (call_anyG rfl) (by rfl) tp.m_any (by decide +kernel) (dw_cons ((df_lc rfl nd (dic_enumL (by rfl) tp.m_enumerate ((de_var 0)).v) (blkOk_by (own := [("here", 8), ("bar", 10)]) (by kernel_rfl)) (fun _ _ _ _ _ => (dgc_tup rfl (dgc_cons (dgc_name 8 (by decide) nd) (dgc_cons (dgc_name 10 (by decide) nd) dgc_nil)) (cnt_cons (cnt_cons cnt_nil)))) (fun _ _ _ _ _ => dts_nil) (fun _ _ _ _ _ => (de_and (de_call0 F_is_long hr (by rfl) (da_cons (de_var 10) (da_cons (de_var 2) da_nil)) (cntA_cons (cntA_cons cntA_nil))) (de_one (de_cmp (op_ninG hu) ((de_var 8)).v ((de_var 5)).v)))))).v dw_nil))) (ds_one (ds_ret de_bl)) ds_nil) (ds_one (ds_ret (de_not (de_callB (call_anyG rfl) (by rfl) tp.m_any (by decide +kernel) (dw_cons ((df_lc rfl nd (dic_enumL (by rfl) tp.m_enumerate ((de_var 1)).v) (blkOk_by (own := [("there", 9), ("bar", 10)]) (by kernel_rfl)) (fun _ _ _ _ _ => (dgc_tup rfl (dgc_cons (dgc_name 9 (by decide) nd) (dgc_cons (dgc_name 10 (by decide) nd) dgc_nil)) (cnt_cons (cnt_cons cnt_nil)))) (fun _ _ _ _ _ => dts_nil) (fun _ _ _ _ _ => (de_and (de_call0 F_is_long hr (by rfl) (da_cons (de_var 10) (da_cons (de_var 2) da_nil)) (cntA_cons (cntA_cons cntA_nil))) (de_one (de_cmp (op_ninG hu) ((de_var 9)).v ((de_var 4)).v)))))).v dw_nil))))))))))))
theorem sc__law_is_long : FnScope ["_law_bar", "_law_e"] ["_law_bar", "_law_e"] (defScope s__law_is_long) := ⟨rfl, rfl, rfl, by decide +kernel, rfl, by decide +kernel, by decide +kernel⟩
set_option maxHeartbeats 4000000 in
theorem ok__law_is_long (tp : Tp P w K mg base) (dd : DefAt K mg "_law_is_long" s__law_is_long ["_law_bar", "_law_e"]) (F__law_bar : F0 P w K mg base "_law_bar" 3 2 fm__law_bar) : F0 P w K mg base "_law_is_long" 4 2 fm__law_is_long := by
  obtain ⟨f, fd, F, hm, hb⟩ := dd
  refine fn_ok0 F sc__law_is_long hm hb fun cdv A outer s H E hr => ?_
  have nd := sc__law_is_long.nd
  have hu := hu_of65 hr
  have hu64 := hu_of64 hr
  exact (ds_one (ds_ret (de_or (de_cmp op_isG ((de_ix ((de_var 0)).v (de_int).v)).v (de_non).v) (de_one (de_cmp op_gtG ((de_op op_subG ((de_ix ((de_var 0)).v (de_int).v)).v ((de_ix ((de_var 0)).v (de_int).v)).v)).v ((de_op op_mulG (de_int).v ((de_var 1)).v)).v)))))
theorem sc__law_is_number : FnScope ["_law_thing", "_law_below"] ["_law_thing", "_law_below"] (defScope s__law_is_number) := ⟨rfl, rfl, rfl, by decide +kernel, rfl, by decide +kernel, by decide +kernel⟩
set_option maxHeartbeats 4000000 in
theorem ok__law_is_number (tp : Tp P w K mg base) (dd : DefAt K mg "_law_is_number" s__law_is_number ["_law_thing", "_law_below"])  : F0 P w K mg base "_law_is_number" 1 2 fm__law_is_number := by
  obtain ⟨f, fd, F, hm, hb⟩ := dd
  refine fn_ok0 F sc__law_is_number hm hb fun cdv A outer s H E hr => ?_
  have nd := sc__law_is_number.nd
  have hu := hu_of65 hr
  have hu64 := hu_of64 hr
  exact (ds_one (ds_ret (de_and (de_isi (by rfl) tp.m_isinstance (by rfl) tp.m_int (by decide +kernel) ((de_var 0)).v) (de_and (de_not (de_isi (by rfl) tp.m_isinstance (by rfl) tp.m_bool (by decide +kernel) ((de_var 0)).v)) (de_one (de_chain op_leG op_ltG (de_int).v ((de_var 0)).v ((de_var 1)).v))))))
theorem sc__law_is_pairing : FnScope ["_law_one", "_law_other", "_law_e", "_law_thing", "_law_last", "_law_used", "_law_pair", "_law_firsts", "_law_at", "_law_bar_here"] ["_law_one", "_law_other", "_law_e", "_law_thing"] (defScope s__law_is_pairing) := ⟨rfl, rfl, rfl, by decide +kernel, rfl, by decide +kernel, by decide +kernel⟩
set_option maxHeartbeats 4000000 in
theorem ok__law_is_pairing (tp : Tp P w K mg base) (dd : DefAt K mg "_law_is_pairing" s__law_is_pairing ["_law_one", "_law_other", "_law_e", "_law_thing"]) (F__law_fits : F0 P w K mg base "_law_fits" 4 3 fm__law_fits) (F__law_is_long : F0 P w K mg base "_law_is_long" 4 2 fm__law_is_long) (F__law_is_number : F0 P w K mg base "_law_is_number" 1 2 fm__law_is_number) : F0 P w K mg base "_law_is_pairing" 5 4 fm__law_is_pairing := by
  obtain ⟨f, fd, F, hm, hb⟩ := dd
  refine fn_ok0 F sc__law_is_pairing hm hb fun cdv A outer s H E hr => ?_
  have nd := sc__law_is_pairing.nd
  have hu := hu_of65 hr
  have hu64 := hu_of64 hr
  exact (ds_cons (ds_if (dt_not (dt_val (de_isi (by rfl) tp.m_isinstance (by rfl) tp.m_tuple (by decide +kernel) ((de_var 3)).v))) (ds_one (ds_ret de_bl)) ds_nil) (ds_cons (by first | exact (ds_par2 rfl nd (dsl_m (de_un un_negG (de_int).v) (dsl_f (df_lst da_nil) dsl_nil))) | exact (ds_parT [4, 5] (dsl_m (de_un un_negG (de_int).v) (dsl_f (df_lst da_nil) dsl_nil)) rfl (pgs_cons (pg_name (i := 4) nd rfl (by first | exact .inl rfl | exact .inr rfl)) (pgs_cons (pg_name (i := 5) nd rfl (by first | exact .inl rfl | exact .inr rfl)) pgs_nil)))) (ds_cons (ds_for PassesOwn.never rfl (di_seq (de_var 3)) (dg_name 6 nd) (ds_cons (ds_if (dw_t (dw_or (dt_not (dt_val (de_isi (by rfl) tp.m_isinstance (by rfl) tp.m_tuple (by decide +kernel) ((de_var 6)).v))) (dw_or (dt_cmp (op_neG hu64) ((de_callB call_lenG (by rfl) tp.m_len (by decide +kernel) (dw_cons ((de_var 6)).v dw_nil))).v (de_int).v) (dw_or1 (dt_not (dt_val (de_call0 F__law_is_number hr (by rfl) (da_cons (de_ix ((de_var 6)).v (de_int).v) (da_cons (de_callB call_lenG (by rfl) tp.m_len (by decide +kernel) (dw_cons ((de_var 0)).v dw_nil)) da_nil)) (cntA_cons (cntA_cons cntA_nil))))))))) (ds_one (ds_ret de_bl)) ds_nil) (ds_cons (ds_if (dw_t (dw_or (dt_not (dt_val (de_call0 F__law_is_number hr (by rfl) (da_cons (de_ix ((de_var 6)).v (de_int).v) (da_cons (de_callB call_lenG (by rfl) tp.m_len (by decide +kernel) (dw_cons ((de_var 1)).v dw_nil)) da_nil)) (cntA_cons (cntA_cons cntA_nil))))) (dw_or (dt_cmp op_leG ((de_ix ((de_var 6)).v (de_int).v)).v ((de_var 4)).v) (dw_or1 (dt_cmp (op_inG hu) ((de_ix ((de_var 6)).v (de_int).v)).v (dv_own 5)))))) (ds_one (ds_ret de_bl)) ds_nil) (ds_cons (ds_if (dt_not (dt_val (de_call0 F__law_fits hr (by rfl) (da_cons (de_ix ((de_var 0)).v ((de_ix ((de_var 6)).v (de_int).v)).v) (da_cons (de_ix ((de_var 1)).v ((de_ix ((de_var 6)).v (de_int).v)).v) (da_cons (de_var 2) da_nil))) (cntA_cons (cntA_cons (cntA_cons cntA_nil)))))) (ds_one (ds_ret de_bl)) ds_nil) (ds_cons (ds_set 4 (de_ix ((de_var 6)).v (de_int).v) nd) (ds_one (ds_app 5 (da_cons (de_ix ((de_var 6)).v (de_int).v) da_nil)))))))) (ds_cons (by first | exact (ds_lcM 7 rfl nd (dic_seq ((de_var 3)).v) (blkOk_by (own := [("_law_pair", 6)]) (by kernel_rfl)) (fun _ _ _ _ _ => (dgc_name 6 (by decide) nd)) (fun _ _ _ _ _ => dts_nil) (fun _ _ _ _ _ => (de_ix ((de_var 6)).v (de_int).v))) | exact (ds_set 7 ((df_lc rfl nd (dic_seq ((de_var 3)).v) (blkOk_by (own := [("_law_pair", 6)]) (by kernel_rfl)) (fun _ _ _ _ _ => (dgc_name 6 (by decide) nd)) (fun _ _ _ _ _ => dts_nil) (fun _ _ _ _ _ => (de_ix ((de_var 6)).v (de_int).v)))).d nd)) (ds_cons (ds_if (dt_val (de_callB (call_anyG rfl) (by rfl) tp.m_any (by decide +kernel) (dw_cons ((df_lc rfl nd (dic_enumL (by rfl) tp.m_enumerate ((de_var 0)).v) (blkOk_by (own := [("_law_at", 8), ("_law_bar_here", 9)]) (by kernel_rfl)) (fun _ _ _ _ _ => (dgc_tup rfl (dgc_cons (dgc_name 8 (by decide) nd) (dgc_cons (dgc_name 9 (by decide) nd) dgc_nil)) (cnt_cons (cnt_cons cnt_nil)))) (fun _ _ _ _ _ => (dts_one (dt_cmp (op_ninG hu) ((de_var 8)).v ((de_var 7)).v))) (fun _ _ _ _ _ => (de_call0 F__law_is_long hr (by rfl) (da_cons (de_var 9) (da_cons (de_var 2) da_nil)) (cntA_cons (cntA_cons cntA_nil)))))).v dw_nil))) (ds_one (ds_ret de_bl)) ds_nil) (ds_one (ds_ret (de_not (de_callB (call_anyG rfl) (by rfl) tp.m_any (by decide +kernel) (dw_cons ((df_lc rfl nd (dic_enumL (by rfl) tp.m_enumerate ((de_var 1)).v) (blkOk_by (own := [("_law_at", 8), ("_law_bar_here", 9)]) (by kernel_rfl)) (fun _ _ _ _ _ => (dgc_tup rfl (dgc_cons (dgc_name 8 (by decide) nd) (dgc_cons (dgc_name 9 (by decide) nd) dgc_nil)) (cnt_cons (cnt_cons cnt_nil)))) (fun _ _ _ _ _ => (dts_one (dt_cmp (op_ninG hu) ((de_var 8)).v (dv_own 5)))) (fun _ _ _ _ _ => (de_call0 F__law_is_long hr (by rfl) (da_cons (de_var 9) (da_cons (de_var 2) da_nil)) (cntA_cons (cntA_cons cntA_nil)))))).v dw_nil))))))))))
theorem sc_is_lot : FnScope ["thing", "many", "one", "at"] ["thing", "many"] (defScope s_is_lot) := ⟨rfl, rfl, rfl, by decide +kernel, rfl, by decide +kernel, by decide +kernel⟩
set_option maxHeartbeats 4000000 in
theorem ok_is_lot (tp : Tp P w K mg base) (dd : DefAt K mg "is_lot" s_is_lot ["thing", "many"]) (F_is_number : F0 P w K mg base "is_number" 3 2 fm_is_number) : F0 P w K mg base "is_lot" 4 2 fm_is_lot := by
  obtain ⟨f, fd, F, hm, hb⟩ := dd
  refine fn_ok0 F sc_is_lot hm hb fun cdv A outer s H E hr => ?_
  have nd := sc_is_lot.nd
  have hu := hu_of65 hr
  have hu64 := hu_of64 hr
  exact (ds_cons (ds_if (dw_t (dw_or (dt_not (dt_val (de_isi (by rfl) tp.m_isinstance (by rfl) tp.m_tuple (by decide +kernel) ((de_var 0)).v))) (dw_or1 (dt_not (dt_val (de_callB (call_allG rfl) (by rfl) tp.m_all (by decide +kernel) (dw_cons ((df_lc rfl nd (dic_seq ((de_var 0)).v) (blkOk_by (own := [("one", 2)]) (by kernel_rfl)) (fun _ _ _ _ _ => (dgc_name 2 (by decide) nd)) (fun _ _ _ _ _ => dts_nil) (fun _ _ _ _ _ => (de_call0 F_is_number hr (by rfl) (da_cons (de_var 2) (da_cons (de_op op_subG ((de_var 1)).v (de_int).v) da_nil)) (cntA_cons (cntA_cons cntA_nil)))))).v dw_nil))))))) (ds_one (ds_ret de_bl)) ds_nil) (ds_one (ds_ret (de_callB (call_allG rfl) (by rfl) tp.m_all (by decide +kernel) (dw_cons ((df_lc rfl nd (di_rg2 (by rfl) tp.m_range de_int (de_callB call_lenG (by rfl) tp.m_len (by decide +kernel) (dw_cons ((de_var 0)).v dw_nil))).c (blkOk_by (own := [("at", 3)]) (by kernel_rfl)) (fun _ _ _ _ _ => (dgc_name 3 (by decide) nd)) (fun _ _ _ _ _ => dts_nil) (fun _ _ _ _ _ => (de_cmp op_ltG ((de_ix ((de_var 0)).v ((de_op op_subG ((de_var 3)).v (de_int).v)).v)).v ((de_ix ((de_var 0)).v ((de_var 3)).v)).v)))).v dw_nil)))))
theorem sc_is_ban : FnScope ["one", "other", "e", "thing", "mine", "others", "at", "bar"] ["one", "other", "e", "thing"] (defScope s_is_ban) := ⟨rfl, rfl, rfl, by decide +kernel, rfl, by decide +kernel, by decide +kernel⟩
set_option maxHeartbeats 4000000 in
theorem ok_is_ban (tp : Tp P w K mg base) (dd : DefAt K mg "is_ban" s_is_ban ["one", "other", "e", "thing"]) (F_check_asked : F0 P w K mg base "check_asked" 5 3 fm_check_asked) (F_is_integer : F0 P w K mg base "is_integer" 1 1 fm_is_integer) (F_is_lot : F0 P w K mg base "is_lot" 4 2 fm_is_lot) (F_is_long : F0 P w K mg base "is_long" 1 2 fm_is_long) (F_do_fit : F0 P w K mg base "do_fit" 1 3 fm_do_fit) : F0 P w K mg base "is_ban" 6 4 fm_is_ban := by
  obtain ⟨f, fd, F, hm, hb⟩ := dd
  refine fn_ok0 F sc_is_ban hm hb fun cdv A outer s H E hr => ?_
  have nd := sc_is_ban.nd
  have hu := hu_of65 hr
  have hu64 := hu_of64 hr
  exact (ds_cons (ds_drop (de_call0 F_check_asked hr (by rfl) (da_cons (de_var 0) (da_cons (de_var 1) (da_cons (de_var 2) da_nil))) (cntA_cons (cntA_cons (cntA_cons cntA_nil))))) (ds_cons (ds_if (dw_t (dw_or (dt_not (dt_val (de_isi (by rfl) tp.m_isinstance (by rfl) tp.m_tuple (by decide +kernel) ((de_var 3)).v))) (dw_or (dt_cmp (op_neG hu64) ((de_callB call_lenG (by rfl) tp.m_len (by decide +kernel) (dw_cons ((de_var 3)).v dw_nil))).v (de_int).v) (dw_or (dt_not (dt_val (de_call0 F_is_integer hr (by rfl) (da_cons (de_ix ((de_var 3)).v (de_int).v) da_nil) (cntA_cons cntA_nil)))) (dw_or1 (dt_cmp (op_ninG hu) ((de_ix ((de_var 3)).v (de_int).v)).v ((de_tup (da_cons de_int (da_cons de_int da_nil)))).v)))))) (ds_one (ds_ret de_bl)) ds_nil) (ds_cons (ds_asg (de_if (dt_cmp (op_eqG hu64) ((de_ix ((de_var 3)).v (de_int).v)).v (de_int).v) (de_tup (da_cons (de_var 0) (da_cons (de_var 1) da_nil))) (de_tup (da_cons (de_var 1) (da_cons (de_var 0) da_nil)))) (dg_tup rfl (dg_cons (dg_name 4 nd) (dg_cons (dg_name 5 nd) dg_nil)) (cnt_cons (cnt_cons cnt_nil)))) (ds_cons (ds_if (dw_t (dw_or (dt_not (dt_val (de_call0 F_is_lot hr (by rfl) (da_cons (de_ix ((de_var 3)).v (de_int).v) (da_cons (de_callB call_lenG (by rfl) tp.m_len (by decide +kernel) (dw_cons ((de_var 4)).v dw_nil)) da_nil)) (cntA_cons (cntA_cons cntA_nil))))) (dw_or1 (dt_not (dt_val (de_callB (call_allG rfl) (by rfl) tp.m_all (by decide +kernel) (dw_cons ((df_lc rfl nd (dic_seq ((de_ix ((de_var 3)).v (de_int).v)).v) (blkOk_by (own := [("at", 6)]) (by kernel_rfl)) (fun _ _ _ _ _ => (dgc_name 6 (by decide) nd)) (fun _ _ _ _ _ => dts_nil) (fun _ _ _ _ _ => (de_call0 F_is_long hr (by rfl) (da_cons (de_ix ((de_var 4)).v ((de_var 6)).v) (da_cons (de_var 2) da_nil)) (cntA_cons (cntA_cons cntA_nil)))))).v dw_nil))))))) (ds_one (ds_ret de_bl)) ds_nil) (ds_one (ds_ret (de_cmp op_ltG ((de_callB call_lenG (by rfl) tp.m_len (by decide +kernel) (dw_cons ((df_lc rfl nd (dic_seq ((de_var 5)).v) (blkOk_by (own := [("bar", 7)]) (by kernel_rfl)) (fun _ _ _ _ _ => (dgc_name 7 (by decide) nd)) (fun _ _ _ _ _ => (dts_one (dt_val (de_callB (call_anyG rfl) (by rfl) tp.m_any (by decide +kernel) (dw_cons ((df_lc rfl nd (dic_seq ((de_ix ((de_var 3)).v (de_int).v)).v) (blkOk_by (own := [("at", 6)]) (by kernel_rfl)) (fun _ _ _ _ _ => (dgc_name 6 (by decide) nd)) (fun _ _ _ _ _ => dts_nil) (fun _ _ _ _ _ => (de_call0 F_do_fit hr (by rfl) (da_cons (de_ix ((de_var 4)).v ((de_var 6)).v) (da_cons (de_var 7) (da_cons (de_var 2) da_nil))) (cntA_cons (cntA_cons (cntA_cons cntA_nil))))))).v dw_nil))))) (fun _ _ _ _ _ => (de_var 7)))).v dw_nil))).v ((de_callB call_lenG (by rfl) tp.m_len (by decide +kernel) (dw_cons ((de_ix ((de_var 3)).v (de_int).v)).v dw_nil))).v)))))))
theorem sc__law_is_ban : FnScope ["_law_one", "_law_other", "_law_e", "_law_thing", "_law_here", "_law_there", "_law_last", "_law_met", "_law_at", "_law_fitting", "_law_bar_here", "_law_lone"] ["_law_one", "_law_other", "_law_e", "_law_thing"] (defScope s__law_is_ban) := ⟨rfl, rfl, rfl, by decide +kernel, rfl, by decide +kernel, by decide +kernel⟩
set_option maxHeartbeats 4000000 in
theorem ok__law_is_ban (tp : Tp P w K mg base) (dd : DefAt K mg "_law_is_ban" s__law_is_ban ["_law_one", "_law_other", "_law_e", "_law_thing"]) (F__law_is_number : F0 P w K mg base "_law_is_number" 1 2 fm__law_is_number) (F__law_is_long : F0 P w K mg base "_law_is_long" 4 2 fm__law_is_long) (F__law_fits : F0 P w K mg base "_law_fits" 4 3 fm__law_fits) : F0 P w K mg base "_law_is_ban" 5 4 fm__law_is_ban := by
  obtain ⟨f, fd, F, hm, hb⟩ := dd
  refine fn_ok0 F sc__law_is_ban hm hb fun cdv A outer s H E hr => ?_
  have nd := sc__law_is_ban.nd
  have hu := hu_of65 hr
  have hu64 := hu_of64 hr
  exact (ds_cons (ds_if (dw_t (dw_or (dt_not (dt_val (de_isi (by rfl) tp.m_isinstance (by rfl) tp.m_tuple (by decide +kernel) ((de_var 3)).v))) (dw_or (dt_cmp (op_neG hu64) ((de_callB call_lenG (by rfl) tp.m_len (by decide +kernel) (dw_cons ((de_var 3)).v dw_nil))).v (de_int).v) (dw_or (dt_not (dt_val (de_call0 F__law_is_number hr (by rfl) (da_cons (de_ix ((de_var 3)).v (de_int).v) (da_cons de_int da_nil)) (cntA_cons (cntA_cons cntA_nil))))) (dw_or1 (dt_not (dt_val (de_isi (by rfl) tp.m_isinstance (by rfl) tp.m_tuple (by decide +kernel) ((de_ix ((de_var 3)).v (de_int).v)).v)))))))) (ds_one (ds_ret de_bl)) ds_nil) (ds_cons (ds_asg (de_if (dt_cmp (op_eqG hu64) ((de_ix ((de_var 3)).v (de_int).v)).v (de_int).v) (de_tup (da_cons (de_var 0) (da_cons (de_var 1) da_nil))) (de_tup (da_cons (de_var 1) (da_cons (de_var 0) da_nil)))) (dg_tup rfl (dg_cons (dg_name 4 nd) (dg_cons (dg_name 5 nd) dg_nil)) (cnt_cons (cnt_cons cnt_nil)))) (ds_cons (by first | exact (ds_par2 rfl nd (dsl_m (de_un un_negG (de_int).v) (dsl_f (df_lst da_nil) dsl_nil))) | exact (ds_parT [6, 7] (dsl_m (de_un un_negG (de_int).v) (dsl_f (df_lst da_nil) dsl_nil)) rfl (pgs_cons (pg_name (i := 6) nd rfl (by first | exact .inl rfl | exact .inr rfl)) (pgs_cons (pg_name (i := 7) nd rfl (by first | exact .inl rfl | exact .inr rfl)) pgs_nil)))) (ds_cons (ds_for PassesOwn.never rfl (di_seq (de_ix ((de_var 3)).v (de_int).v)) (dg_name 8 nd) (ds_cons (ds_if (dw_t (dw_or (dt_not (dt_val (de_call0 F__law_is_number hr (by rfl) (da_cons (de_var 8) (da_cons (de_callB call_lenG (by rfl) tp.m_len (by decide +kernel) (dw_cons ((de_var 4)).v dw_nil)) da_nil)) (cntA_cons (cntA_cons cntA_nil))))) (dw_or (dt_cmp op_leG ((de_var 8)).v ((de_var 6)).v) (dw_or1 (dt_not (dt_val (de_call0 F__law_is_long hr (by rfl) (da_cons (de_ix ((de_var 4)).v ((de_var 8)).v) (da_cons (de_var 2) da_nil)) (cntA_cons (cntA_cons cntA_nil))))))))) (ds_one (ds_ret de_bl)) ds_nil) (ds_cons (ds_set 6 (de_var 8) nd) (ds_one (ds_app 7 (da_cons (de_ix ((de_var 4)).v ((de_var 8)).v) da_nil)))))) (ds_cons (by first | exact (ds_lcM 9 rfl nd (dic_seq ((de_var 5)).v) (blkOk_by (own := [("_law_bar_here", 10)]) (by kernel_rfl)) (fun _ _ _ _ _ => (dgc_name 10 (by decide) nd)) (fun _ _ _ _ _ => (dts_one (dt_val (de_callB (call_anyG rfl) (by rfl) tp.m_any (by decide +kernel) (dw_cons ((df_lc rfl nd (dic_seq (dv_own 7)) (blkOk_by (own := [("_law_lone", 11)]) (by kernel_rfl)) (fun _ _ _ _ _ => (dgc_name 11 (by decide) nd)) (fun _ _ _ _ _ => dts_nil) (fun _ _ _ _ _ => (de_call0 F__law_fits hr (by rfl) (da_cons (de_var 11) (da_cons (de_var 10) (da_cons (de_var 2) da_nil))) (cntA_cons (cntA_cons (cntA_cons cntA_nil))))))).v dw_nil))))) (fun _ _ _ _ _ => (de_var 10))) | exact (ds_set 9 ((df_lc rfl nd (dic_seq ((de_var 5)).v) (blkOk_by (own := [("_law_bar_here", 10)]) (by kernel_rfl)) (fun _ _ _ _ _ => (dgc_name 10 (by decide) nd)) (fun _ _ _ _ _ => (dts_one (dt_val (de_callB (call_anyG rfl) (by rfl) tp.m_any (by decide +kernel) (dw_cons ((df_lc rfl nd (dic_seq (dv_own 7)) (blkOk_by (own := [("_law_lone", 11)]) (by kernel_rfl)) (fun _ _ _ _ _ => (dgc_name 11 (by decide) nd)) (fun _ _ _ _ _ => dts_nil) (fun _ _ _ _ _ => (de_call0 F__law_fits hr (by rfl) (da_cons (de_var 11) (da_cons (de_var 10) (da_cons (de_var 2) da_nil))) (cntA_cons (cntA_cons (cntA_cons cntA_nil))))))).v dw_nil))))) (fun _ _ _ _ _ => (de_var 10)))).d nd)) (ds_one (ds_ret (de_cmp op_ltG ((de_callB call_lenG (by rfl) tp.m_len (by decide +kernel) (dw_cons ((de_var 9)).v dw_nil))).v ((de_callB call_lenG (by rfl) tp.m_len (by decide +kernel) (dw_cons ((de_ix ((de_var 3)).v (de_int).v)).v dw_nil))).v))))))))
theorem sc__law_lots : FnScope ["_law_many", "_law_found", "_law_number", "_law_lot"] ["_law_many"] (defScope s__law_lots) := ⟨rfl, rfl, rfl, by decide +kernel, rfl, by decide +kernel, by decide +kernel⟩
set_option maxHeartbeats 4000000 in
theorem ok__law_lots (tp : Tp P w K mg base) (dd : DefAt K mg "_law_lots" s__law_lots ["_law_many"])  : F0 P w K mg base "_law_lots" 1 1 fm__law_lots := by
  obtain ⟨f, fd, F, hm, hb⟩ := dd
  refine fn_ok0 F sc__law_lots hm hb fun cdv A outer s H E hr => ?_
  have nd := sc__law_lots.nd
  have hu := hu_of65 hr
  have hu64 := hu_of64 hr
  exact (ds_cons (ds_set 1 ((df_lst (da_cons (de_tup da_nil) da_nil))).d nd) (ds_cons (ds_for PassesOwn.never rfl (di_rg1 (by rfl) tp.m_range (de_var 0)) (dg_name 2 nd) (ds_one (ds_set 1 (de_op op_addG ((de_var 1)).v ((df_lc rfl nd (dic_seq ((de_var 1)).v) (blkOk_by (own := [("_law_lot", 3)]) (by kernel_rfl)) (fun _ _ _ _ _ => (dgc_name 3 (by decide) nd)) (fun _ _ _ _ _ => (dts_one (dt_cmp op_ltG ((de_callB call_lenG (by rfl) tp.m_len (by decide +kernel) (dw_cons ((de_var 3)).v dw_nil))).v (de_int).v))) (fun _ _ _ _ _ => (de_op op_addG ((de_var 3)).v ((de_tup (da_cons (de_var 2) da_nil))).v)))).v) nd))) (ds_one (ds_ret (de_var 1)))))
theorem sc_law : FnScope ["_law_script", "_law_bag_here", "_law_one", "_law_other", "_law_e", "_law_things", "_law_turn", "_law_pairs", "_law_side", "_law_here", "_law_lot", "_law_odd", "_law_thing"] ["_law_script"] (defScope s_law) := ⟨rfl, rfl, rfl, by decide +kernel, rfl, by decide +kernel, by decide +kernel⟩
set_option maxHeartbeats 4000000 in
theorem ok_law {f fB : Addr} {fd fdB : FuncData} (tp : Tp P w K mg base) (F : Fun K "law" "law" s_law f fd) (FB : FnOk P w K mg base CX0 1 fB fdB ["_law_script"] (spBag K)) (hmB : mg "_law_bag" = some (.ref fB)) (kpB : PySem.W.keepIn K (.ref fB) = true) (bB : Binds K fdB ["_law_script"] []) (F__law_lists : F0 P w K mg base "_law_lists" 4 3 fm__law_lists) (F__law_pick : F0 P w K mg base "_law_pick" 1 2 fm__law_pick) (F__law_some : F0 P w K mg base "_law_some" 2 2 fm__law_some) (F__law_deep : F0 P w K mg base "_law_deep" 3 1 fm__law_deep) (F__law_drawn : F0 P w K mg base "_law_drawn" 5 4 fm__law_drawn) (F__law_is_flag : F0 P w K mg base "_law_is_flag" 1 2 fm__law_is_flag) (F__law_bent : F0 P w K mg base "_law_bent" 3 4 fm__law_bent) (F_is_pairing : F0 P w K mg base "is_pairing" 6 4 fm_is_pairing) (F__law_is_pairing : F0 P w K mg base "_law_is_pairing" 5 4 fm__law_is_pairing) (F_is_ban : F0 P w K mg base "is_ban" 6 4 fm_is_ban) (F__law_is_ban : F0 P w K mg base "_law_is_ban" 5 4 fm__law_is_ban) (F__law_lots : F0 P w K mg base "_law_lots" 1 1 fm__law_lots) (hs : Says 11 ms_law) : FnOk P w K mg base CX0 7 f fd ["_law_script"] (spLaw K) := by
  have nd := sc_law.nd
  refine F.ok sc_law (fun vs H Q E h => ?_) (fun cdv A outer s H vs Q E hr h => ?_)
  · obtain ⟨a, ns, rfl, _⟩ := h
    rfl
  · obtain ⟨a, ns, rfl, hS, hlen, q⟩ := h
    have hu := hu_of65 hr
    have hu64 := hu_of64 hr
    refine ⟨_, pss_cons (ps_set (i := 1) nd rfl (.inl rfl) (pe_call FB (hr.mono (by decide)) (by rfl) hmB kpB bB .nil pass0 (pa_cons (pv 0) pa_nil))) (show DSs _ E0 _ ms_law from (ds_cons (ds_asg (de_call0 F__law_lists hr (by rfl) (da_cons (de_var 1) (da_cons (de_call0 F__law_some hr (by rfl) (da_cons (de_var 1) (da_cons ((df_lst (da_cons de_int (da_cons de_int da_nil)))).d da_nil)) (cntA_cons (cntA_cons cntA_nil))) (da_cons (de_if (dt_cmp (op_eqG hu64) ((de_call0 F__law_pick hr (by rfl) (da_cons (de_var 1) (da_cons de_int da_nil)) (cntA_cons (cntA_cons cntA_nil)))).v (de_int).v) de_int de_int) da_nil))) (cntA_cons (cntA_cons (cntA_cons cntA_nil)))) (dg_tup rfl (dg_cons (dg_name 2 nd) (dg_cons (dg_name 3 nd) dg_nil)) (cnt_cons (cnt_cons cnt_nil)))) (ds_cons (ds_set 4 (de_call0 F__law_pick hr (by rfl) (da_cons (de_var 1) (da_cons de_int da_nil)) (cntA_cons (cntA_cons cntA_nil))) nd) (ds_cons (ds_set 5 ((df_lst (da_cons (de_tup da_nil) (da_cons de_non (da_cons de_int (da_cons de_str (da_cons ((df_lst da_nil)).d (da_cons (df_dK).d (da_cons ((df_dict1 de_int de_int)).d (da_cons (de_tup (da_cons de_non da_nil)) (da_cons (de_tup (da_cons (de_tup da_nil) da_nil)) (da_cons (de_tup (da_cons (de_tup (da_cons de_int da_nil)) da_nil)) (da_cons (de_tup (da_cons de_int (da_cons de_int da_nil))) (da_cons (de_tup (da_cons (de_tup (da_cons de_int (da_cons de_int da_nil))) da_nil)) (da_cons (de_tup (da_cons (de_tup (da_cons de_bl (da_cons de_bl da_nil))) da_nil)) (da_cons (de_tup (da_cons (de_tup (da_cons de_int (da_cons de_int da_nil))) (da_cons (de_tup (da_cons de_int (da_cons de_int da_nil))) da_nil))) (da_cons (de_call0 F__law_deep hr (by rfl) (da_cons (de_var 1) da_nil) (cntA_cons cntA_nil)) da_nil))))))))))))))))).d nd) (ds_cons (ds_for PassesOwn.never rfl (di_rg1 (by rfl) tp.m_range de_int) (dg_name 6 nd) (ds_cons (ds_set 7 (de_call0 F__law_drawn hr (by rfl) (da_cons (de_var 1) (da_cons (de_var 2) (da_cons (de_var 3) (da_cons (de_var 4) da_nil)))) (cntA_cons (cntA_cons (cntA_cons (cntA_cons cntA_nil))))) nd) (ds_one (ds_set 5 (de_op op_addG ((de_var 5)).v ((df_lst (da_cons (de_callTy call_tupleG (by rfl) tp.m_tuple (by decide +kernel) (dw_cons ((de_var 7)).v dw_nil)) (da_cons (de_call0 F__law_bent hr (by rfl) (da_cons (de_var 1) (da_cons (de_var 7) (da_cons (de_callB call_lenG (by rfl) tp.m_len (by decide +kernel) (dw_cons ((de_var 2)).v dw_nil)) (da_cons (de_callB call_lenG (by rfl) tp.m_len (by decide +kernel) (dw_cons ((de_var 3)).v dw_nil)) da_nil)))) (cntA_cons (cntA_cons (cntA_cons (cntA_cons cntA_nil))))) da_nil)))).v) nd)))) (ds_cons (ds_for PassesOwn.never rfl (di_seq (de_tup (da_cons de_int (da_cons de_int da_nil)))) (dg_name 8 nd) (ds_cons (ds_set 9 (de_if (dt_cmp (op_eqG hu64) ((de_var 8)).v (de_int).v) (de_var 2) (de_var 3)) nd) (ds_cons (ds_set 5 (de_op op_addG ((de_var 5)).v ((df_lc rfl nd (dic_seq ((de_call0 F__law_lots hr (by rfl) (da_cons (de_callB call_lenG (by rfl) tp.m_len (by decide +kernel) (dw_cons ((de_var 9)).v dw_nil)) da_nil) (cntA_cons cntA_nil))).v) (blkOk_by (own := [("_law_lot", 10)]) (by kernel_rfl)) (fun _ _ _ _ _ => (dgc_name 10 (by decide) nd)) (fun _ _ _ _ _ => dts_nil) (fun _ _ _ _ _ => (de_tup (da_cons (de_var 8) (da_cons (de_var 10) da_nil)))))).v) nd) (ds_cons (ds_set 10 (de_rgT rfl (by rfl) tp.m_tuple (by rfl) tp.m_range (de_callB call_lenG (by rfl) tp.m_len (by decide +kernel) (dw_cons ((de_var 9)).v dw_nil))) nd) (ds_cons (ds_set 11 ((df_lst (da_cons ((df_callTy call_listG (by rfl) tp.m_list (by decide +kernel) (dw_cons ((de_var 10)).v dw_nil))).d (da_cons (de_rev ((de_var 10)).v) (da_cons (de_op op_addG ((de_var 10)).v ((de_tup (da_cons (de_callB call_lenG (by rfl) tp.m_len (by decide +kernel) (dw_cons ((de_var 9)).v dw_nil)) da_nil))).v) (da_cons (de_op op_addG ((de_var 10)).v ((de_sl ((de_var 10)).v (do_so (de_un un_negG (de_int).v)) do_no)).v) (da_cons de_non (da_cons (de_tup (da_cons (de_un un_negG (de_int).v) da_nil)) (da_cons (de_tup (da_cons de_bl da_nil)) (da_cons (de_tup (da_cons de_non da_nil)) (da_cons (de_tup (da_cons (de_tup (da_cons de_int da_nil)) da_nil)) da_nil))))))))))).d nd) (ds_one (ds_set 5 (de_op op_addG ((de_var 5)).v ((df_lc rfl nd (dic_seq ((de_var 11)).v) (blkOk_by (own := [("_law_thing", 12)]) (by kernel_rfl)) (fun _ _ _ _ _ => (dgc_name 12 (by decide) nd)) (fun _ _ _ _ _ => dts_nil) (fun _ _ _ _ _ => (de_tup (da_cons (de_var 8) (da_cons (de_var 12) da_nil)))))).v) nd))))))) (ds_cons (ds_set 5 (de_op op_addG ((de_var 5)).v ((df_lst (da_cons (de_tup (da_cons de_bl (da_cons (de_tup (da_cons de_int da_nil)) da_nil))) (da_cons (de_tup (da_cons de_int (da_cons (de_tup (da_cons de_int da_nil)) da_nil))) (da_cons (de_tup (da_cons (de_un un_negG (de_int).v) (da_cons (de_tup (da_cons de_int da_nil)) da_nil))) (da_cons (de_tup (da_cons de_non (da_cons (de_tup (da_cons de_int da_nil)) da_nil))) (da_cons ((df_lst (da_cons de_int (da_cons (de_tup (da_cons de_int da_nil)) da_nil)))).d (da_cons (de_tup (da_cons de_int (da_cons (de_tup (da_cons de_int da_nil)) (da_cons (de_tup da_nil) da_nil)))) (da_cons (de_tup (da_cons de_int da_nil)) (da_cons (de_tup (da_cons de_str (da_cons (de_tup (da_cons de_int da_nil)) da_nil))) (da_cons (de_tup (da_cons de_bl (da_cons (de_tup (da_cons de_int (da_cons de_int da_nil))) da_nil))) da_nil))))))))))).v) nd) (ds_cons (ds_for PassesOwn.never rfl (di_seq (de_var 5)) (dg_name 12 nd) (ds_cons (ds_if (dt_not (dt_val (de_call0 F__law_is_flag hr (by rfl) (da_cons (de_call0 F_is_pairing hr (by rfl) (da_cons (de_var 2) (da_cons (de_var 3) (da_cons (de_var 4) (da_cons (de_var 12) da_nil)))) (cntA_cons (cntA_cons (cntA_cons (cntA_cons cntA_nil))))) (da_cons (de_call0 F__law_is_pairing hr (by rfl) (da_cons (de_var 2) (da_cons (de_var 3) (da_cons (de_var 4) (da_cons (de_var 12) da_nil)))) (cntA_cons (cntA_cons (cntA_cons (cntA_cons cntA_nil))))) da_nil)) (cntA_cons (cntA_cons cntA_nil))))) (ds_one (ds_ret de_bl)) ds_nil) (ds_one (ds_if (dt_not (dt_val (de_call0 F__law_is_flag hr (by rfl) (da_cons (de_call0 F_is_ban hr (by rfl) (da_cons (de_var 2) (da_cons (de_var 3) (da_cons (de_var 4) (da_cons (de_var 12) da_nil)))) (cntA_cons (cntA_cons (cntA_cons (cntA_cons cntA_nil))))) (da_cons (de_call0 F__law_is_ban hr (by rfl) (da_cons (de_var 2) (da_cons (de_var 3) (da_cons (de_var 4) (da_cons (de_var 12) da_nil)))) (cntA_cons (cntA_cons (cntA_cons (cntA_cons cntA_nil))))) da_nil)) (cntA_cons (cntA_cons cntA_nil))))) (ds_one (ds_ret de_bl)) ds_nil)))) (ds_one (ds_ret de_bl)))))))))), ?_⟩
    exact ⟨.ref a, rfl, a, ns, rfl, hS, hlen, fun H' pb pg gr sd ln _ _ ne hb hg hz => law_tail hs q rfl ne hb hg hz rfl⟩
theorem all_ok {h : Heap} {fa : Addr} (X : K.In h) (G : h.Ns mainGlobals mg) (hfa : mg "law" = some (.ref fa)) {fl : Addr} {oc : Value} {od an : Option Addr} {osl : Array (Option Value)} {kV doc pm cdv ct : Value}
    (aL : PySem.W.nsIn K mainGlobals "law" = some (some (.ref fl))) (lL : K.lookup fl = some ⟨oc, od, .func (PySem.W.fnOf "law" "law" (defArgs s_law) (defBody s_law) (defScope s_law) .none kV doc pm an cdv ct), osl⟩) (cL : PySem.W.codeIn K cdv "law" = true) (kL : PySem.W.keepIn K (.ref fl) = true)
    (d__law_bag : DefAt K mg "_law_bag" s__law_bag ["_law_script"]) (d__law_pick : DefAt K mg "_law_pick" s__law_pick ["_law_bag_here", "_law_many"]) (d__law_some : DefAt K mg "_law_some" s__law_some ["_law_bag_here", "_law_things"]) (d__law_bar : DefAt K mg "_law_bar" s__law_bar ["_law_bag_here", "_law_wide"]) (d__law_moved : DefAt K mg "_law_moved" s__law_moved ["_law_bag_here", "_law_bar_here", "_law_wide"]) (d__law_lists : DefAt K mg "_law_lists" s__law_lists ["_law_bag_here", "_law_wide", "_law_most"]) (d__law_deep : DefAt K mg "_law_deep" s__law_deep ["_law_bag_here"]) (d__law_fits : DefAt K mg "_law_fits" s__law_fits ["_law_bar", "_law_other", "_law_e"]) (d__law_drawn : DefAt K mg "_law_drawn" s__law_drawn ["_law_bag_here", "_law_one", "_law_other", "_law_e"]) (d__law_is_flag : DefAt K mg "_law_is_flag" s__law_is_flag ["_law_told", "_law_due"]) (d__law_bent : DefAt K mg "_law_bent" s__law_bent ["_law_bag_here", "_law_pairs", "_law_many", "_law_more"]) (d_is_integer : DefAt K mg "is_integer" s_is_integer ["thing"]) (d_is_within : DefAt K mg "is_within" s_is_within ["thing", "least", "most"]) (d_is_bar : DefAt K mg "is_bar" s_is_bar ["thing"]) (d_check_bars : DefAt K mg "check_bars" s_check_bars ["thing"]) (d_check_within : DefAt K mg "check_within" s_check_within ["thing", "least", "most"]) (d_check_asked : DefAt K mg "check_asked" s_check_asked ["one", "other", "e"]) (d_is_long : DefAt K mg "is_long" s_is_long ["bar", "e"]) (d_is_number : DefAt K mg "is_number" s_is_number ["thing", "most"]) (d_is_number_pair : DefAt K mg "is_number_pair" s_is_number_pair ["thing", "many", "more"]) (d_do_fit : DefAt K mg "do_fit" s_do_fit ["bar", "other", "e"]) (d_is_pairing : DefAt K mg "is_pairing" s_is_pairing ["one", "other", "e", "thing"]) (d__law_is_long : DefAt K mg "_law_is_long" s__law_is_long ["_law_bar", "_law_e"]) (d__law_is_number : DefAt K mg "_law_is_number" s__law_is_number ["_law_thing", "_law_below"]) (d__law_is_pairing : DefAt K mg "_law_is_pairing" s__law_is_pairing ["_law_one", "_law_other", "_law_e", "_law_thing"]) (d_is_lot : DefAt K mg "is_lot" s_is_lot ["thing", "many"]) (d_is_ban : DefAt K mg "is_ban" s_is_ban ["one", "other", "e", "thing"]) (d__law_is_ban : DefAt K mg "_law_is_ban" s__law_is_ban ["_law_one", "_law_other", "_law_e", "_law_thing"]) (d__law_lots : DefAt K mg "_law_lots" s__law_lots ["_law_many"]) (tp0 : Tp P w K mg h) (hs : Says 11 ms_law) :
    ∃ fd : FuncData, (∀ (s : Shared) (v : Value), BindsTo s fd ⟨[v], []⟩ [("_law_script", v)]) ∧ ∀ base : Heap, K.In base → base.Ns mainGlobals mg → FnOk P w K mg base CX0 7 fa fd ["_law_script"] (spLaw K) := by
  have e := hfa.symm.trans (PySem.W.mg_of X G aL)
  cases e
  have FL := fun_mk (st := s_law) lL cL kL
  refine ⟨PySem.W.fnOf "law" "law" (defArgs s_law) (defBody s_law) (defScope s_law) .none kV doc pm an cdv ct, fun s v => .of_eq rfl, fun base _ _ => ?_⟩
  have tp : Tp P w K mg base := by cases tp0; constructor <;> assumption
  obtain ⟨fB, fdB, FB, mB, bB⟩ := d__law_bag
  have F__law_pick : F0 P w K mg base "_law_pick" 1 2 fm__law_pick := ok__law_pick tp d__law_pick 
  have F__law_some : F0 P w K mg base "_law_some" 2 2 fm__law_some := ok__law_some tp d__law_some F__law_pick
  have F__law_bar : F0 P w K mg base "_law_bar" 3 2 fm__law_bar := ok__law_bar tp d__law_bar F__law_pick F__law_some
  have F__law_moved : F0 P w K mg base "_law_moved" 2 3 fm__law_moved := ok__law_moved tp d__law_moved F__law_pick
  have F__law_lists : F0 P w K mg base "_law_lists" 4 3 fm__law_lists := ok__law_lists tp d__law_lists F__law_bar F__law_pick F__law_moved
  have F__law_deep : F0 P w K mg base "_law_deep" 3 1 fm__law_deep := ok__law_deep tp d__law_deep F__law_some F__law_pick
  have F__law_fits : F0 P w K mg base "_law_fits" 4 3 fm__law_fits := ok__law_fits tp d__law_fits F__law_bar
  have F__law_drawn : F0 P w K mg base "_law_drawn" 5 4 fm__law_drawn := ok__law_drawn tp d__law_drawn F__law_pick F__law_some F__law_fits
  have F__law_is_flag : F0 P w K mg base "_law_is_flag" 1 2 fm__law_is_flag := ok__law_is_flag tp d__law_is_flag 
  have F__law_bent : F0 P w K mg base "_law_bent" 3 4 fm__law_bent := ok__law_bent tp d__law_bent F__law_pick F__law_some
  have F_is_integer : F0 P w K mg base "is_integer" 1 1 fm_is_integer := ok_is_integer tp d_is_integer 
  have F_is_within : F0 P w K mg base "is_within" 2 3 fm_is_within := ok_is_within tp d_is_within F_is_integer
  have F_is_bar : F0 P w K mg base "is_bar" 3 1 fm_is_bar := ok_is_bar tp d_is_bar F_is_within
  have F_check_bars : F0 P w K mg base "check_bars" 4 1 fm_check_bars := ok_check_bars tp d_check_bars F_is_bar
  have F_check_within : F0 P w K mg base "check_within" 3 3 fm_check_within := ok_check_within tp d_check_within F_is_within
  have F_check_asked : F0 P w K mg base "check_asked" 5 3 fm_check_asked := ok_check_asked tp d_check_asked F_check_bars F_check_within
  have F_is_long : F0 P w K mg base "is_long" 1 2 fm_is_long := ok_is_long tp d_is_long 
  have F_is_number : F0 P w K mg base "is_number" 3 2 fm_is_number := ok_is_number tp d_is_number F_is_within
  have F_is_number_pair : F0 P w K mg base "is_number_pair" 4 3 fm_is_number_pair := ok_is_number_pair tp d_is_number_pair F_is_number
  have F_do_fit : F0 P w K mg base "do_fit" 1 3 fm_do_fit := ok_do_fit tp d_do_fit 
  have F_is_pairing : F0 P w K mg base "is_pairing" 6 4 fm_is_pairing := ok_is_pairing tp d_is_pairing F_check_asked F_is_long F_is_number_pair F_do_fit
  have F__law_is_long : F0 P w K mg base "_law_is_long" 4 2 fm__law_is_long := ok__law_is_long tp d__law_is_long F__law_bar
  have F__law_is_number : F0 P w K mg base "_law_is_number" 1 2 fm__law_is_number := ok__law_is_number tp d__law_is_number 
  have F__law_is_pairing : F0 P w K mg base "_law_is_pairing" 5 4 fm__law_is_pairing := ok__law_is_pairing tp d__law_is_pairing F__law_fits F__law_is_long F__law_is_number
  have F_is_lot : F0 P w K mg base "is_lot" 4 2 fm_is_lot := ok_is_lot tp d_is_lot F_is_number
  have F_is_ban : F0 P w K mg base "is_ban" 6 4 fm_is_ban := ok_is_ban tp d_is_ban F_check_asked F_is_integer F_is_lot F_is_long F_do_fit
  have F__law_is_ban : F0 P w K mg base "_law_is_ban" 5 4 fm__law_is_ban := ok__law_is_ban tp d__law_is_ban F__law_is_number F__law_is_long F__law_fits
  have F__law_lots : F0 P w K mg base "_law_lots" 1 1 fm__law_lots := ok__law_lots tp d__law_lots 
  exact ok_law tp FL (ok__law_bag tp tp.m_abs FB) mB FB.kp bB F__law_lists F__law_pick F__law_some F__law_deep F__law_drawn F__law_is_flag F__law_bent F_is_pairing F__law_is_pairing F_is_ban F__law_is_ban F__law_lots hs
end
/-! ### bars -/
abbrev Br := Int × Option Int
def encG : Option Int → D
  | none => .non
  | some g => .int g
def encB (x : Br) : D := .tup [.int x.1, encG x.2]
def encL (l : List Br) : D := .lst (l.map encB)
theorem pl_encG (g : Option Int) : Pl (encG g) := by cases g <;> constructor
theorem pl_encB (x : Br) : Pl (encB x) := .tup (by
  intro d hd
  simp only [List.mem_cons, List.mem_nil_iff, or_false] at hd
  rcases hd with rfl | rfl
  · exact .int _
  · exact pl_encG _)
def okB (x : Br) : Bool := decide (-1000 ≤ x.1 ∧ x.1 ≤ 1000) && match x.2 with
  | none => true
  | some g => decide (x.1 + 1 ≤ g ∧ g ≤ 1000)
def withB (d : D) (l m : Int) : Bool := match d with
  | .int i => decide (l ≤ i) && decide (i ≤ m)
  | _ => false
theorem v_is_integer {d : D} {b : Bag} (h : Pl d) : fm_is_integer [d] b = .ok (.bl (intB d)) b := by
  simp [fm_is_integer, e_fnM, ms_is_integer, isi_int h, isi_bool h]
  cases h <;> rfl
theorem v_is_within {d : D} {l m : Int} {b : Bag} (h : Pl d) : fm_is_within [d, .int l, .int m] b = .ok (.bl (withB d l m)) b := by
  simp [fm_is_within, e_fnM, ms_is_within, v_is_integer h]
  cases h <;> simp [intB, withB]
  split <;> simp [*]
theorem v_is_bar {x : Br} {b : Bag} (h : okB x = true) : fm_is_bar [encB x] b = .ok (.bl true) b := by
  obtain ⟨p, g⟩ := x
  unfold encB
  cases g with
  | none =>
    simp [okB] at h
    simp [fm_is_bar, e_fnM, ms_is_bar, encG, v_is_within (.int p), withB, h]
  | some q =>
    simp [okB] at h
    simp [fm_is_bar, e_fnM, ms_is_bar, encG, v_is_within (.int p), v_is_within (.int q), withB, h]
theorem v_check_bars {l : List Br} {b : Bag} (h : l.all okB = true) (hl : l.length ≤ 20) : fm_check_bars [encL l] b = .ok .non b := by
  have hl2 : ¬ 20 < l.length := by omega
  have hl3 : l.length ≤ 100000 := by omega
  have hc := lc_all (g := gNm 1) (me := mCall0 fm_is_bar (mCons (mVar 1) mNil)) (env := [.va (encL l), .un]) (b := b) l encB (fun _ => .bl true) fun x hx => ⟨_, rfl, by simp [v_is_bar (List.all_eq_true.mp h x hx)]⟩
  unfold encL at hc ⊢
  simp [fm_check_bars, e_fnM, ms_check_bars, hl2, hl3, hc]
  simp [Int.not_lt.mpr (show (l.length : Int) ≤ 20 by omega)]
theorem v_check_within {i l m : Int} {b : Bag} (h : l ≤ i ∧ i ≤ m) : fm_check_within [.int i, .int l, .int m] b = .ok .non b := by
  simp [fm_check_within, e_fnM, ms_check_within, v_is_within (.int i), withB, h]
theorem v_check_asked {l m : List Br} {e : Int} {b : Bag} (h : l.all okB = true) (hl : l.length ≤ 20) (h2 : m.all okB = true) (hm : m.length ≤ 20) (he : 0 ≤ e ∧ e ≤ 2000) : fm_check_asked [encL l, encL m, .int e] b = .ok .non b := by
  simp [fm_check_asked, e_fnM, ms_check_asked, v_check_bars h hl, v_check_bars h2 hm, v_check_within he]
def longB (e : Int) (x : Br) : Bool := match x.2 with
  | none => true
  | some g => decide (2 * e < g - x.1)
def fitB (e : Int) (x y : Br) : Bool := decide (absI (x.1 - y.1) ≤ e) && match x.2, y.2 with
  | none, none => true
  | some g, some h => decide (absI (g - h) ≤ e)
  | _, _ => false
theorem small2 : smallI 2 = true := by decide
theorem v_is_long {x : Br} {e : Int} {b : Bag} : fm_is_long [encB x, .int e] b = .ok (.bl (longB e x)) b := by
  obtain ⟨p, g⟩ := x
  cases g <;> simp [fm_is_long, e_fnM, ms_is_long, encB, encG, longB, small2]
theorem v_law_is_long {x : Br} {e : Int} {b : Bag} : fm__law_is_long [encB x, .int e] b = .ok (.bl (longB e x)) b := by
  obtain ⟨p, g⟩ := x
  cases g <;> simp [fm__law_is_long, e_fnM, ms__law_is_long, encB, encG, longB, small2]
theorem v_do_fit {x y : Br} {e : Int} {b : Bag} : fm_do_fit [encB x, encB y, .int e] b = .ok (.bl (fitB e x y)) b := by
  obtain ⟨p, g⟩ := x
  obtain ⟨q, k⟩ := y
  cases g <;> cases k <;> simp [fm_do_fit, e_fnM, ms_do_fit, encB, encG, fitB] <;> split <;> simp_all <;> omega
theorem v_law_fits {x y : Br} {e : Int} {b : Bag} : fm__law_fits [encB x, encB y, .int e] b = .ok (.bl (fitB e x y)) b := by
  obtain ⟨p, g⟩ := x
  obtain ⟨q, k⟩ := y
  cases g <;> cases k <;> simp [fm__law_fits, e_fnM, ms__law_fits, encB, encG, fitB] <;> split <;> simp_all <;> omega
theorem v_is_number {d : D} {m : Int} {b : Bag} (h : Pl d) : fm_is_number [d, .int m] b = .ok (.bl (withB d 0 m)) b := by
  simp [fm_is_number, e_fnM, ms_is_number, v_is_within h]
theorem v_law_is_number {d : D} {m : Int} {b : Bag} (h : Pl d) : fm__law_is_number [d, .int m] b = .ok (.bl (withB d 0 (m - 1))) b := by
  simp [fm__law_is_number, e_fnM, ms__law_is_number, isi_int h, isi_bool h]
  cases h <;> simp [isInB, isBl, withB]
  split <;> simp [*] <;> omega

/-! ### pairings -/
def pairB (n m : Int) (d : D) : Bool := match d with
  | .tup [x, y] => withB x 0 (n - 1) && withB y 0 (m - 1)
  | _ => false
theorem v_is_number_pair {d : D} {n m : Int} {b : Bag} (h : Pl d) : fm_is_number_pair [d, .int n, .int m] b = .ok (.bl (pairB n m d)) b := by
  cases h with
  | tup h =>
    rename_i ds
    match ds, h with
    | [], h => simp [fm_is_number_pair, e_fnM, ms_is_number_pair, pairB]
    | [x], h => simp [fm_is_number_pair, e_fnM, ms_is_number_pair, pairB]
    | [x, y], h =>
      have hx := h x (by simp)
      have hy := h y (by simp)
      simp [fm_is_number_pair, e_fnM, ms_is_number_pair, pairB, v_is_number hx, v_is_number hy]
      cases withB x 0 (n - 1) <;> simp
    | x :: y :: z :: r, h =>
      have : ¬ ((r.length : Int) + 1 + 1 + 1 = 2) := by omega
      simp [fm_is_number_pair, e_fnM, ms_is_number_pair, pairB, this]
  | _ => simp [fm_is_number_pair, e_fnM, ms_is_number_pair, pairB, isi_tuple (.dK _ _), isTup]
def encN (p : Nat × Nat) : D := .tup [.int p.1, .int p.2]
theorem pair_of {n m : Nat} {d : D} (h : pairB n m d = true) : ∃ p : Nat × Nat, d = encN p ∧ p.1 < n ∧ p.2 < m := by
  match d, h with
  | .tup [x, y], h =>
    unfold pairB at h
    rw [Bool.and_eq_true] at h
    match x, y, h with
    | .int i, .int j, h =>
      simp [withB] at h
      refine ⟨(i.toNat, j.toNat), ?_, by show i.toNat < n; omega, by show j.toNat < m; omega⟩
      show _ = D.tup [.int (i.toNat : Nat), .int (j.toNat : Nat)]
      rw [Int.toNat_of_nonneg (by omega), Int.toNat_of_nonneg (by omega)]
theorem pairs_of {n m : Nat} {ds : List D} (h : ds.all (pairB n m) = true) : ∃ ps : List (Nat × Nat), ds = ps.map encN ∧ ∀ p ∈ ps, p.1 < n ∧ p.2 < m := by
  induction ds with
  | nil => exact ⟨[], rfl, by simp⟩
  | cons d ds ih =>
    rw [List.all_cons, Bool.and_eq_true] at h
    obtain ⟨p, rfl, hp⟩ := pair_of h.1
    obtain ⟨ps, rfl, hps⟩ := ih h.2
    refine ⟨p :: ps, rfl, fun q hq => ?_⟩
    rcases List.mem_cons.mp hq with rfl | hq
    · exact hp
    · exact hps q hq
theorem pl_encN (p : Nat × Nat) : Pl (encN p) := .tup (by intro d hd; simp at hd; rcases hd with rfl | rfl <;> constructor)
theorem pair_encN {n m : Nat} {p : Nat × Nat} (h : p.1 < n ∧ p.2 < m) : pairB n m (encN p) = true := by
  unfold encN pairB withB
  simp
  omega
/-! dict comprehensions -/
theorem dc_go {ι : Type} {g : MG} {kl el : ME} {env : Ev} {b : Bag} (l : List ι) (enc : ι → D) (k : ι → Key) (v : ι → D) (h : ∀ x ∈ l, ∃ env1 y, g (enc x) env = some env1 ∧ kl env1 b = .ok y b ∧ keyD y = some (k x) ∧ el env1 b = .ok (v x) b) :
    ∀ (ks : List Key) (vs : List D), ks.length = vs.length → ∃ vs', dcL g mYes kl el env (l.map enc) ks vs b = .ok ((l.map k).foldl putKs ks, vs') b ∧ ((l.map k).foldl putKs ks).length = vs'.length := by
  induction l with
  | nil => exact fun ks vs e => ⟨vs, rfl, e⟩
  | cons x l ih =>
    intro ks vs e
    obtain ⟨env1, y, h1, h2, h3, h4⟩ := h x List.mem_cons_self
    have e2 : (putKs ks (k x)).length = (putDs ks vs (k x) (v x)).length := by
      unfold putKs putDs
      split
      · rw [List.length_zipWith]; omega
      · rw [List.length_append, List.length_append, e]; rfl
    obtain ⟨vs', e3, e4⟩ := ih (fun z hz => h z (List.mem_cons_of_mem _ hz)) (putKs ks (k x)) (putDs ks vs (k x) (v x)) e2
    refine ⟨vs', ?_, e4⟩
    rw [List.map_cons]
    unfold dcL
    rw [h1]
    dsimp only
    simp [h2, h4, h3]
    exact e3
instance decKey (k : Key) (ks : List Key) : Decidable (k ∈ ks) := @List.instDecidableMemOfLawfulBEq Key instBEqOfDecidableEq inferInstance k ks
theorem getK_mem : ∀ {ks : List Key} {vs : List D} {k : Key}, ks.length = vs.length → (getK ks vs k).isSome = decide (k ∈ ks)
  | [], vs, k, _ => by simp [getK]
  | k' :: ks, [], k, e => by simp at e
  | k' :: ks, v :: vs, k, e => by
    unfold getK
    split
    · rename_i h; simp [h]
    · rename_i h
      rw [getK_mem (by simpa using e)]
      simp [Ne.symm h]
theorem put_mem {ss ks : List Key} {k : Key} : k ∈ ss.foldl putKs ks ↔ k ∈ ks ∨ k ∈ ss := by
  induction ss generalizing ks with
  | nil => simp
  | cons s ss ih =>
    rw [List.foldl_cons, ih]
    by_cases h : s ∈ ks
    · rw [show putKs ks s = ks from if_pos h]
      constructor
      · rintro (h1 | h1)
        · exact .inl h1
        · exact .inr (List.mem_cons_of_mem _ h1)
      · rintro (h1 | h1)
        · exact .inl h1
        · rcases List.mem_cons.mp h1 with rfl | h1
          · exact .inl h
          · exact .inr h1
    · rw [show putKs ks s = ks ++ [s] from if_neg h]
      simp [or_assoc]
theorem put_len {ss ks : List Key} (hk : ks.Nodup) : (ss.foldl putKs ks).length ≤ ks.length + ss.length ∧ ((ss.foldl putKs ks).length = ks.length + ss.length ↔ (ks ++ ss).Nodup) := by
  induction ss generalizing ks with
  | nil => simp [hk]
  | cons s ss ih =>
    rw [List.foldl_cons]
    by_cases h : s ∈ ks
    · rw [show putKs ks s = ks from if_pos h]
      have ih := (ih hk).1
      refine ⟨by simp; omega, ⟨fun e => by simp at e; omega, fun n => ?_⟩⟩
      rw [List.nodup_append] at n
      exact absurd rfl (n.2.2 s h s List.mem_cons_self)
    · rw [show putKs ks s = ks ++ [s] from if_neg h]
      have ih := ih (ks := ks ++ [s]) (by
        rw [List.nodup_append]
        refine ⟨hk, by simp, fun a ha c hc => ?_⟩
        simp at hc
        rintro rfl
        exact h (hc ▸ ha))
      simp only [List.length_append, List.length_cons, List.length_nil, List.append_assoc, List.cons_append, List.nil_append] at ih ⊢
      exact ⟨by omega, by rw [← ih.2]; omega⟩
def kOf (i : Nat) : Key := .inl (i : Int)
theorem kOf_inj {i j : Nat} (h : kOf i = kOf j) : i = j := by
  have := Sum.inl.inj h
  omega
theorem put_lt {ss : List Nat} : decide (((ss.map kOf).foldl putKs []).length < ss.length) = !decide ss.Nodup := by
  have h := put_len (ss := ss.map kOf) (ks := []) (by simp)
  simp only [List.length_nil, List.nil_append, List.length_map, Nat.zero_add] at h
  have hn : (ss.map kOf).Nodup ↔ ss.Nodup := by
    constructor
    · intro h
      exact (List.pairwise_map.mp h).imp fun ne e => ne (congrArg kOf e)
    · intro h
      exact List.pairwise_map.mpr (h.imp fun ne e => ne (kOf_inj e))
  rw [hn] at h
  by_cases hd : ss.Nodup
  · rw [h.2.mpr hd]; simp [hd]
  · simp [hd]
    have : ((ss.map kOf).foldl putKs []).length ≠ ss.length := fun e => hd (h.2.mp e)
    omega
theorem put_in {ss : List Nat} {i : Nat} : decide (kOf i ∈ (ss.map kOf).foldl putKs []) = ss.contains i := by
  rw [Bool.eq_iff_iff, decide_eq_true_iff, put_mem]
  simp only [List.not_mem_nil, false_or, List.mem_map, List.contains_iff_mem]
  constructor
  · rintro ⟨j, h, e⟩
    rw [← kOf_inj e]
    exact h
  · exact fun h => ⟨i, h, rfl⟩
/-! rising -/
def ascB (ns : List Nat) : Bool := (List.range (ns.length - 1)).all fun i => decide (ns.getD i 0 < ns.getD (i + 1) 0)
theorem asc_cons {a c : Nat} {ns : List Nat} : ascB (a :: c :: ns) = (decide (a < c) && ascB (c :: ns)) := by
  unfold ascB
  simp only [List.length_cons, Nat.add_sub_cancel]
  rw [List.range_succ_eq_map, List.all_cons, List.all_map]
  rfl

@[simp] theorem e_dc {mi : MI} {g : MG} {t : MT} {kl el : ME} {vs : List Nat} {env : Ev} {b : Bag} : mDc mi g t kl el vs env b = (mi env b).bind fun ds b => if ds.length ≤ 100000 then (dcL g t kl el (wipeE env vs) ds [] [] b).bind fun r b => .ok (.dK r.1 r.2) b else .stuck := rfl
@[simp] theorem o_lenD {ks : List Key} {ds : List D} : lenG [.dK ks ds] = some (.int ks.length) := rfl
theorem o_inD {neg : Bool} {i : Nat} {ks : List Key} {ds : List D} (h : ks.length = ds.length) : inG neg (.int i) (.dK ks ds) = some (.bl (neg ^^ decide (kOf i ∈ ks))) := by
  show ((keyD (.int i)).map fun k => D.bl (neg ^^ (getK ks ds k).isSome)) = _
  show some (D.bl (neg ^^ (getK ks ds (kOf i)).isSome)) = _
  rw [getK_mem h]
theorem at_map {ι : Type} {l : List ι} {enc : ι → D} {k : Nat} (h : k < l.length) : atI (l.map enc) (k : Int) = some (enc l[k]) := by
  rw [at_nat, List.getElem?_map, List.getElem?_eq_getElem h]
  rfl
theorem enum_map {ι : Type} (enc : ι → D) : ∀ (l : List ι) (k : Nat), enumD k (l.map enc) = (l.zipIdx k).map fun x => .tup [.int x.2, enc x.1]
  | [], k => rfl
  | x :: l, k => by rw [List.map_cons, enumD, enum_map enc l (k + 1)]; rfl
/-- a bar at a place -/
def atB (l : List Br) (k : Nat) : Br := l.getD k (0, none)
theorem atB_get {l : List Br} {k : Nat} (h : k < l.length) : atI (l.map encB) (k : Int) = some (encB (atB l k)) := by
  rw [at_map h]
  unfold atB
  rw [List.getD_eq_getElem?_getD, List.getElem?_eq_getElem h]
  rfl
def leftB (e : Int) (l : List Br) (is : List Nat) : Bool := l.zipIdx.any fun x => longB e x.1 && !is.contains x.2
def goodP (l m : List Br) (e : Int) (ps : List (Nat × Nat)) : Bool :=
  ascB (ps.map (·.1)) && decide (ps.map (·.2)).Nodup && ps.all (fun p => fitB e (atB l p.1) (atB m p.2)) && !leftB e l (ps.map (·.1)) && !leftB e m (ps.map (·.2))
structure Asked (l m : List Br) (e : Int) : Prop where
  l1 : l.all okB = true
  l2 : l.length ≤ 20
  m1 : m.all okB = true
  m2 : m.length ≤ 20
  e0 : 0 ≤ e
  e1 : e ≤ 2000
theorem map_ints (f : Nat × Nat → Nat) (ps : List (Nat × Nat)) : (ps.map fun p => D.int (f p : Nat)) = ((ps.map f).map fun i : Nat => (i : Int)).map D.int := by simp [Function.comp_def]
theorem con_ints (is : List Nat) (i : Nat) : (is.map fun i : Nat => (i : Int)).contains (i : Int) = is.contains i := by
  rw [Bool.eq_iff_iff, List.contains_iff_mem, List.contains_iff_mem, List.mem_map]
  constructor
  · rintro ⟨j, h, e⟩
    rw [← show j = i by omega]
    exact h
  · exact fun h => ⟨i, h, rfl⟩
theorem o_inN {ι : Type} {neg : Bool} {i : Nat} {l : List ι} {f : ι → Nat} : inG neg (.int (i : Nat)) (.lst (l.map fun x => .int (f x : Nat))) = some (.bl (neg ^^ (l.map f).contains i)) := by
  rw [show (l.map fun x => D.int (f x : Nat)) = ((l.map f).map fun i : Nat => (i : Int)).map D.int by simp [Function.comp_def], o_inL, con_ints]
theorem asc_def (ns : List Nat) : (List.range (ns.length - 1)).all (fun i => decide (((ns.getD i 0 : Nat) : Int) < ((ns.getD (i + 1) 0 : Nat) : Int))) = ascB ns := by
  unfold ascB
  congr 1
  funext i
  rw [Bool.eq_iff_iff]
  simp
theorem leftB_eq {e : Int} {l : List Br} {is : List Nat} : (l.zipIdx.any fun x => longB e x.1 && !is.contains x.2) = leftB e l is := rfl
set_option maxHeartbeats 4000000 in
theorem v_is_pairing {l m : List Br} {e : Int} {ps : List (Nat × Nat)} {b : Bag} (h : Asked l m e) (hp : ∀ p ∈ ps, p.1 < l.length ∧ p.2 < m.length) (hl : ps.length ≤ 1000) : fm_is_pairing [encL l, encL m, .int e, .tup (ps.map encN)] b = .ok (.bl (goodP l m e ps)) b := by
  have hl2 := h.l2
  have hm2 := h.m2
  have c0 : fm_check_asked [encL l, encL m, .int e] b = .ok .non b := v_check_asked h.l1 h.l2 h.m1 h.m2 ⟨h.e0, h.e1⟩
  have z1 : ps.length ≤ 100000 := by omega
  have z2 : (ps.length : Int) ≤ 1000000 := by omega
  have z3 : ps.length ≤ 100001 := by omega
  have z4 : l.length ≤ 100000 := by omega
  have z5 : m.length ≤ 100000 := by omega
  have z6 : l.length ≤ 100001 := by omega
  have z7 : m.length ≤ 100001 := by omega
  simp [fm_is_pairing, e_fnM, ms_is_pairing, c0, z1]
  rw [lc_all ps encN (fun _ => .bl true)]
  rotate_left
  · exact fun p hq => ⟨_, rfl, by simp [encL, v_is_number_pair (pl_encN p), pair_encN (hp p hq)]⟩
  simp [z1, z2, z3]
  rw [lc_all (List.range (ps.length - 1)) (fun i => D.int (1 + (i : Nat))) (fun i => .bl (decide ((((ps.map (·.1)).getD i 0 : Nat) : Int) < (((ps.map (·.1)).getD (i + 1) 0 : Nat) : Int))))]
  rotate_left
  · intro i hi
    have hi := List.mem_range.mp hi
    have h1 : i < ps.length := by omega
    have h2 : i + 1 < ps.length := by omega
    refine ⟨_, rfl, ?_⟩
    have e1 : (1 + (i : Int) - 1) = ((i : Nat) : Int) := by omega
    have e2 : (1 + (i : Int)) = ((i + 1 : Nat) : Int) := by omega
    simp only [e_m2, e_mVar0, e_mVarS, List.set_cons_succ, List.set_cons_zero, R.bind_ok, e_mC, o_sub, R.opt_some, o_ixT, e1]
    rw [e2]
    rw [at_map h1, at_map h2]
    simp [encN, h1, h2]
  simp only [R.so_ok, o_allM, R.opt_some, opt_bl]
  rw [show (ps.length - 1) = ((ps.map (·.1)).length - 1) by simp, asc_def]
  unfold goodP
  cases ha : ascB (ps.map (·.1)) with
  | false => simp
  | true =>
    obtain ⟨vs', d1, d2⟩ := dc_go (g := gTp (gCn (gNm 8) (gCn (gNm 9) gNl))) (kl := mVar 9) (el := mVar 8) (env := [Sl.va (encL l), Sl.va (encL m), Sl.va (D.int e), Sl.va (D.tup (List.map encN ps)), Sl.un, Sl.un, Sl.un, Sl.un, Sl.un, Sl.un, Sl.un]) (b := b) ps encN (fun p => kOf p.2) (fun p => .int p.1) (fun p _ => ⟨_, .int p.2, rfl, rfl, rfl, rfl⟩) [] [] rfl
    have d3 : decide (((ps.map fun p => kOf p.2).foldl putKs []).length < ps.length) = !decide (ps.map (·.2)).Nodup := by
      have := put_lt (ss := ps.map (·.2))
      rwa [List.map_map, List.length_map] at this
    have d4 : ∀ i, decide (kOf i ∈ (ps.map fun p => kOf p.2).foldl putKs []) = (ps.map (·.2)).contains i := by
      intro i
      have := put_in (ss := ps.map (·.2)) (i := i)
      rwa [List.map_map] at this
    generalize (ps.map fun p => kOf p.2).foldl putKs [] = ks at d1 d2 d3 d4
    cases hn : decide (ps.map (·.2)).Nodup with
    | false =>
      rw [hn] at d3
      have d3 : ks.length < ps.length := by simpa using d3
      simp [z1, d1, d3]
    | true =>
      rw [hn] at d3
      have d3 : ¬ ks.length < ps.length := by simpa using d3
      simp [z1, d1, d3]
      rw [lc_all ps encN (fun p => .bl (fitB e (atB l p.1) (atB m p.2)))]
      rotate_left
      · exact fun p hq => ⟨_, rfl, by simp [encL, atB_get (hp p hq).1, atB_get (hp p hq).2, v_do_fit]⟩
      simp only [R.so_ok, o_allM, R.opt_some, opt_bl]
      cases hf : (ps.all fun p => fitB e (atB l p.1) (atB m p.2)) with
      | false => simp
      | true =>
        simp [z1]
        rw [lc_all ps encN (fun p => .int p.1)]
        rotate_left
        · exact fun p hq => ⟨_, rfl, rfl⟩
        simp [encL, enum_map, z4, z6]
        rw [lc_all l.zipIdx (fun x => D.tup [.int x.2, encB x.1]) (fun x => .bl (longB e x.1 && !(ps.map (·.1)).contains x.2))]
        rotate_left
        · refine fun x hx => ⟨_, rfl, ?_⟩
          simp only [e_mAnd, e_mCall0, e_mCons, e_mNil, e_mVar0, e_mVarS, R.bind_ok, List.set_cons_succ, List.set_cons_zero, v_is_long, R.nox_ok, e_andK, e_m2, R.opt_some, o_inN, Bool.true_bne, Bool.true_xor]
          cases longB e x.1 <;> simp
        simp only [R.so_ok, o_anyM, R.opt_some, opt_bl, leftB_eq]
        cases hg : leftB e l (ps.map (·.1)) with
        | true => simp
        | false =>
          simp [enum_map, z5, z7]
          rw [lc_all m.zipIdx (fun x => D.tup [.int x.2, encB x.1]) (fun x => .bl (longB e x.1 && !(ps.map (·.2)).contains x.2))]
          rotate_left
          · refine fun x hx => ⟨_, rfl, ?_⟩
            simp only [e_mAnd, e_mCall0, e_mCons, e_mNil, e_mVar0, e_mVarS, R.bind_ok, List.set_cons_succ, List.set_cons_zero, v_is_long, R.nox_ok, e_andK, e_m2, R.opt_some, o_inD d2, d4, Bool.true_bne, Bool.true_xor]
            cases longB e x.1 <;> simp
          simp only [R.so_ok, R.bind_ok, o_anyM, R.opt_some, opt_bl, leftB_eq, e_notK, fin_rt]

theorem v_is_pairing_no {l m : List Br} {e : Int} {d : D} {b : Bag} (h : Asked l m e) (hd : Pl d) (ht : isTup d = false) : fm_is_pairing [encL l, encL m, .int e, d] b = .ok (.bl false) b := by
  have c0 : fm_check_asked [encL l, encL m, .int e] b = .ok .non b := v_check_asked h.l1 h.l2 h.m1 h.m2 ⟨h.e0, h.e1⟩
  simp [fm_is_pairing, e_fnM, ms_is_pairing, c0, isi_tuple hd, ht]
theorem v_is_pairing_bad {l m : List Br} {e : Int} {ds : List D} {b : Bag} (h : Asked l m e) (hd : ∀ d ∈ ds, Pl d) (hl : ds.length ≤ 1000) (ha : ds.all (pairB l.length m.length) = false) : fm_is_pairing [encL l, encL m, .int e, .tup ds] b = .ok (.bl false) b := by
  have c0 : fm_check_asked [encL l, encL m, .int e] b = .ok .non b := v_check_asked h.l1 h.l2 h.m1 h.m2 ⟨h.e0, h.e1⟩
  have z1 : ds.length ≤ 100000 := by omega
  simp [fm_is_pairing, e_fnM, ms_is_pairing, c0, z1]
  rw [lc_all' (fun d => .bl (pairB l.length m.length d))]
  rotate_left
  · exact fun d hq => ⟨_, rfl, by simp [encL, v_is_number_pair (hd d hq)]⟩
  simp only [R.so_ok, o_allM, R.opt_some, opt_bl, ha]
  simp
/-- the law's own walk over pairs -/
def chkP (l m : List Br) (e : Int) : Int → List Nat → List (Nat × Nat) → Bool
  | _, _, [] => true
  | a, us, p :: ps => decide (a < (p.1 : Int)) && !us.contains p.2 && fitB e (atB l p.1) (atB m p.2) && chkP l m e p.1 (us ++ [p.2]) ps
def goodL (l m : List Br) (e : Int) (ps : List (Nat × Nat)) : Bool :=
  chkP l m e (-1) [] ps && !leftB e l (ps.map (·.1)) && !leftB e m (ps.map (·.2))
def stepP : MS := (sSeq (sIf (mOrT (mNotT (mT (m1 (isiG "tuple") (mVar 6)))) (mOrT (mT (m2 neG (mB lenG (mCons (mVar 6) mNil)) (mC (.int 2)))) (mNotT (mT (mCall0 fm__law_is_number (mCons (m2 ixG (mVar 6) (mC (.int 0))) (mCons (mB lenG (mCons (mVar 0) mNil)) mNil))))))) (sRet (mC (.bl false))) sSkip) (sSeq (sIf (mOrT (mNotT (mT (mCall0 fm__law_is_number (mCons (m2 ixG (mVar 6) (mC (.int 1))) (mCons (mB lenG (mCons (mVar 1) mNil)) mNil))))) (mOrT (mT (m2 leG (m2 ixG (mVar 6) (mC (.int 0))) (mVar 4))) (mT (m2 (inG false) (m2 ixG (mVar 6) (mC (.int 1))) (mOwn 5))))) (sRet (mC (.bl false))) sSkip) (sSeq (sIf (mNotT (mT (mCall0 fm__law_fits (mCons (m2 ixG (mVar 0) (m2 ixG (mVar 6) (mC (.int 0)))) (mCons (m2 ixG (mVar 1) (m2 ixG (mVar 6) (mC (.int 1)))) (mCons (mVar 2) mNil)))))) (sRet (mC (.bl false))) sSkip) (sSeq (sAsg (gNm 4) (m2 ixG (mVar 6) (mC (.int 0)))) (sMeth 5 (mCons (m2 ixG (mVar 6) (mC (.int 1))) mNil) appG)))))
theorem o_neLen {n : Nat} : neG (.int (n : Nat)) (.int 2) = some (.bl (!decide ((n : Int) = 2))) := o_neI
theorem step_bad {l m : List Br} {e a : Int} {us : List Nat} {d x : D} {env : Ev} {b : Bag} (hd : Pl d) (h : pairB l.length m.length d = false) :
    stepP (.va (encL l) :: .va (encL m) :: .va (.int e) :: .va x :: .va (.int a) :: .ol (us.map fun i : Nat => .int i) :: .va d :: env) b = .rt (.bl false) b := by
  cases hd with
  | tup hds =>
    rename_i ds
    match ds, hds with
    | [], _ => simp [stepP]
    | [x], _ => simp [stepP]
    | [x, y], h2 =>
      have hx := h2 x (by simp)
      have hy := h2 y (by simp)
      have h : (withB x 0 (l.length - 1) && withB y 0 (m.length - 1)) = false := h
      simp [stepP, encL, v_law_is_number hx]
      cases h1 : withB x 0 (l.length - 1) with
      | false => simp
      | true =>
        rw [h1] at h
        have h : withB y 0 (m.length - 1) = false := by simpa using h
        simp [v_law_is_number hy, h]
    | x :: y :: z :: r, _ =>
      have : ¬ ((r.length : Int) + 1 + 1 + 1 = 2) := by omega
      simp [stepP, this]
  | _ => simp [stepP, isi_tuple (.dK _ _), isTup]
theorem step_ok {l m : List Br} {e a : Int} {us : List Nat} {p : Nat × Nat} {x : D} {env : Ev} {b : Bag} (h : p.1 < l.length ∧ p.2 < m.length) (hu : us.length < 100000) :
    stepP (.va (encL l) :: .va (encL m) :: .va (.int e) :: .va x :: .va (.int a) :: .ol (us.map fun i : Nat => .int i) :: .va (encN p) :: env) b =
      if (decide (a < (p.1 : Int)) && !us.contains p.2 && fitB e (atB l p.1) (atB m p.2)) = true then .nx (.va (encL l) :: .va (encL m) :: .va (.int e) :: .va x :: .va (.int p.1) :: .ol ((us ++ [p.2]).map fun i : Nat => .int i) :: .va (encN p) :: env) b else .rt (.bl false) b := by
  have w1 : withB (.int p.1) 0 ((l.length : Int) - 1) = true := by simp [withB]; omega
  have w2 : withB (.int p.2) 0 ((m.length : Int) - 1) = true := by simp [withB]; omega
  have hi : ∀ us : List Nat, inG false (.int (p.2 : Nat)) (.lst (us.map fun i : Nat => .int i)) = some (.bl (us.contains p.2)) := fun us => by
    have := o_inN (neg := false) (i := p.2) (l := us) (f := fun i => i)
    rwa [List.map_id', Bool.false_xor] at this
  simp [stepP, encN, encL, v_law_is_number (.int _), w1, w2, hi, atB_get h.1, atB_get h.2, v_law_fits, hu]
  by_cases h1 : (p.1 : Int) ≤ a
  · have : ¬ a < (p.1 : Int) := by omega
    simp [h1, this]
  · have h2 : a < (p.1 : Int) := by omega
    by_cases h3 : p.2 ∈ us
    · simp [h1, h2, h3]
    · cases h4 : fitB e (atB l p.1) (atB m p.2) <;> simp [h1, h2, h3]

theorem loop_ok {l m : List Br} {e : Int} {x : D} {env : Ev} {b : Bag} : ∀ (ps : List (Nat × Nat)) (a : Int) (us : List Nat) (s : Sl), (∀ p ∈ ps, p.1 < l.length ∧ p.2 < m.length) → us.length + ps.length < 100000 → ∃ a' s',
    forL (gNm 6) stepP (ps.map encN) (.va (encL l) :: .va (encL m) :: .va (.int e) :: .va x :: .va (.int a) :: .ol (us.map fun i : Nat => .int i) :: s :: env) b =
      if chkP l m e a us ps = true then .nx (.va (encL l) :: .va (encL m) :: .va (.int e) :: .va x :: .va (.int a') :: .ol ((us ++ ps.map (·.2)).map fun i : Nat => .int i) :: s' :: env) b else .rt (.bl false) b
  | [], a, us, s, _, _ => ⟨a, s, by simp [chkP]⟩
  | p :: ps, a, us, s, hp, hl => by
    have h0 := hp p List.mem_cons_self
    simp only [List.length_cons] at hl
    obtain ⟨a', s', ih⟩ := loop_ok (b := b) (e := e) (x := x) (env := env) ps p.1 (us ++ [p.2]) (.va (encN p)) (fun q hq => hp q (List.mem_cons_of_mem _ hq)) (by simp; omega)
    refine ⟨a', s', ?_⟩
    rw [List.map_cons]
    unfold forL
    simp only [e_gNm, List.set_cons_succ, List.set_cons_zero]
    rw [step_ok h0 (by omega)]
    unfold chkP
    cases hc : (decide (a < (p.1 : Int)) && !us.contains p.2 && fitB e (atB l p.1) (atB m p.2)) with
    | true =>
      simp only [if_true, Bool.true_and]
      rw [ih]
      simp
    | false => simp
theorem loop_bad {l m : List Br} {e : Int} {x : D} {env : Ev} {b : Bag} : ∀ (ds : List D) (a : Int) (us : List Nat) (s : Sl), (∀ d ∈ ds, Pl d) → ds.all (pairB l.length m.length) = false → us.length + ds.length < 100000 →
    forL (gNm 6) stepP ds (.va (encL l) :: .va (encL m) :: .va (.int e) :: .va x :: .va (.int a) :: .ol (us.map fun i : Nat => .int i) :: s :: env) b = .rt (.bl false) b
  | [], a, us, s, _, h, _ => by simp at h
  | d :: ds, a, us, s, hd, h, hl => by
    simp only [List.length_cons] at hl
    unfold forL
    simp only [e_gNm, List.set_cons_succ, List.set_cons_zero]
    cases hb : pairB l.length m.length d with
    | false => rw [step_bad (hd d List.mem_cons_self) hb]
    | true =>
      obtain ⟨p, rfl, h0⟩ := pair_of hb
      rw [step_ok h0 (by omega)]
      rw [List.all_cons, hb, Bool.true_and] at h
      cases hc : (decide (a < (p.1 : Int)) && !us.contains p.2 && fitB e (atB l p.1) (atB m p.2)) with
      | false => simp
      | true =>
        simp only [if_true]
        exact loop_bad ds p.1 (us ++ [p.2]) _ (fun q hq => hd q (List.mem_cons_of_mem _ hq)) h (by simp; omega)
theorem v_law_is_pairing_no {l m : List Br} {e : Int} {d : D} {b : Bag} (hd : Pl d) (ht : isTup d = false) : fm__law_is_pairing [encL l, encL m, .int e, d] b = .ok (.bl false) b := by
  simp [fm__law_is_pairing, e_fnM, ms__law_is_pairing, isi_tuple hd, ht]
theorem v_law_is_pairing_bad {l m : List Br} {e : Int} {ds : List D} {b : Bag} (hd : ∀ d ∈ ds, Pl d) (hl : ds.length ≤ 1000) (ha : ds.all (pairB l.length m.length) = false) : fm__law_is_pairing [encL l, encL m, .int e, .tup ds] b = .ok (.bl false) b := by
  have := loop_bad (l := l) (m := m) (e := e) (x := .tup ds) (env := [.un, .un, .un]) (b := b) ds (-1) [] .un hd ha (by simp; omega)
  unfold stepP at this
  rw [List.map_nil] at this
  simp [fm__law_is_pairing, e_fnM, ms__law_is_pairing, this]
theorem leftB_fil {e : Int} {l : List Br} {is : List Nat} : (l.zipIdx.filter fun x => !is.contains x.2).any (fun x => longB e x.1) = leftB e l is := by
  rw [List.any_filter]
  unfold leftB
  congr 1
  funext x
  rw [Bool.and_comm]
set_option maxHeartbeats 1000000 in
theorem v_law_is_pairing {l m : List Br} {e : Int} {ps : List (Nat × Nat)} {b : Bag} (h : Asked l m e) (hp : ∀ p ∈ ps, p.1 < l.length ∧ p.2 < m.length) (hl : ps.length ≤ 1000) : fm__law_is_pairing [encL l, encL m, .int e, .tup (ps.map encN)] b = .ok (.bl (goodL l m e ps)) b := by
  have hl2 := h.l2
  have hm2 := h.m2
  have z1 : ps.length ≤ 100000 := by omega
  have z4 : l.length ≤ 100000 := by omega
  have z5 : m.length ≤ 100000 := by omega
  have z6 : l.length ≤ 100001 := by omega
  have z7 : m.length ≤ 100001 := by omega
  obtain ⟨a', s', this⟩ := loop_ok (l := l) (m := m) (e := e) (x := .tup (ps.map encN)) (env := [.un, .un, .un]) (b := b) ps (-1) [] .un hp (by simp; omega)
  unfold stepP at this
  rw [List.map_nil] at this
  simp [fm__law_is_pairing, e_fnM, ms__law_is_pairing, this]
  unfold goodL
  cases hc : chkP l m e (-1) [] ps with
  | false => simp
  | true =>
    simp [z1]
    rw [lc_all ps encN (fun p => .int p.1)]
    rotate_left
    · exact fun p hq => ⟨_, rfl, by simp [encN]⟩
    simp [encL, enum_map, z4, z6]
    rw [lc_pure l.zipIdx (fun x => D.tup [.int x.2, encB x.1]) (fun x => !(ps.map (·.1)).contains x.2) (fun x => .bl (longB e x.1))]
    rotate_left
    · refine fun x hx => ⟨_, rfl, ?_, fun _ => ?_⟩
      · simp only [e_mT, e_m2, e_mVar0, e_mVarS, R.bind_ok, List.set_cons_succ, List.set_cons_zero, R.opt_some, o_inN, opt_bl, Bool.true_xor]
      · simp [v_law_is_long]
    simp only [R.so_ok, o_anyM, R.opt_some, opt_bl, leftB_fil]
    cases hg : leftB e l (ps.map (·.1)) with
    | true => simp
    | false =>
      simp [enum_map, z5, z7]
      rw [lc_pure m.zipIdx (fun x => D.tup [.int x.2, encB x.1]) (fun x => !(ps.map (·.2)).contains x.2) (fun x => .bl (longB e x.1))]
      rotate_left
      · refine fun x hx => ⟨_, rfl, ?_, fun _ => ?_⟩
        · simp only [e_mT, e_m2, e_mVar0, e_mVarS, e_mOwnS, e_mOwn0, Function.comp_def, R.bind_ok, List.set_cons_succ, List.set_cons_zero, R.opt_some, o_inN, opt_bl, Bool.true_xor]
        · simp [v_law_is_long]
      simp only [R.so_ok, R.bind_ok, o_anyM, R.opt_some, opt_bl, leftB_fil, e_notK, fin_rt]
/-! both judge alike -/
theorem chk_eq {l m : List Br} {e : Int} : ∀ (ps : List (Nat × Nat)) (a : Int) (us : List Nat), chkP l m e a us ps =
    (((match ps with | [] => true | p :: _ => decide (a < (p.1 : Int))) && ascB (ps.map (·.1))) && decide ((ps.map (·.2)).Nodup ∧ ∀ p ∈ ps, p.2 ∉ us) && ps.all (fun p => fitB e (atB l p.1) (atB m p.2)))
  | [], a, us => by simp [chkP, ascB]
  | p :: ps, a, us => by
    unfold chkP
    rw [chk_eq ps]
    have hasc : ascB ((p :: ps).map (·.1)) = ((match ps with | [] => true | q :: _ => decide ((p.1 : Int) < (q.1 : Int))) && ascB (ps.map (·.1))) := by
      cases ps with
      | nil => simp [ascB]
      | cons q ps =>
        rw [List.map_cons, List.map_cons, asc_cons]
        congr 1
        rw [Bool.eq_iff_iff]
        simp
    rw [hasc]
    have hcon : (us.contains p.2 = false) ↔ p.2 ∉ us := by rw [← Bool.not_eq_true, List.contains_iff_mem]
    rw [Bool.eq_iff_iff]
    simp only [Bool.and_eq_true, decide_eq_true_iff, Bool.not_eq_true', List.all_cons, List.map_cons, List.nodup_cons, List.mem_map, List.mem_cons, hcon, List.mem_append, List.not_mem_nil, or_false, not_or, forall_eq_or_imp, not_exists, not_and]
    constructor
    · rintro ⟨⟨⟨h1, h2⟩, h3⟩, ⟨⟨h4, h5⟩, h6, h7⟩, h8⟩
      exact ⟨⟨⟨h1, h4, h5⟩, ⟨fun x hx => (h7 x hx).2, h6⟩, h2, fun x hx => (h7 x hx).1⟩, h3, h8⟩
    · rintro ⟨⟨⟨h1, h4, h5⟩, ⟨h7, h6⟩, h2, h9⟩, h3, h8⟩
      exact ⟨⟨⟨h1, h2⟩, h3⟩, ⟨⟨h4, h5⟩, h6, fun x hx => ⟨h9 x hx, h7 x hx⟩⟩, h8⟩
theorem good_eq {l m : List Br} {e : Int} {ps : List (Nat × Nat)} : goodP l m e ps = goodL l m e ps := by
  unfold goodP goodL
  rw [chk_eq]
  congr 2
  have : (match ps with | [] => true | p :: _ => decide ((-1 : Int) < (p.1 : Int))) = true := by
    cases ps with
    | nil => rfl
    | cons p ps => simp; omega
  rw [this]
  simp
/-- both tell the same of any thing -/
theorem pairing_both {l m : List Br} {e : Int} {d : D} (h : Asked l m e) (hd : Pl d) (hl : ∀ ds, d = .tup ds → ds.length ≤ 1000) : ∃ k : Bool, ∀ b, fm_is_pairing [encL l, encL m, .int e, d] b = .ok (.bl k) b ∧ fm__law_is_pairing [encL l, encL m, .int e, d] b = .ok (.bl k) b := by
  cases ht : isTup d with
  | false => exact ⟨false, fun b => ⟨v_is_pairing_no h hd ht, v_law_is_pairing_no hd ht⟩⟩
  | true =>
    obtain ⟨ds, rfl, hds⟩ := of_tup hd ht
    have hl := hl ds rfl
    cases ha : ds.all (pairB l.length m.length) with
    | false => exact ⟨false, fun b => ⟨v_is_pairing_bad h hds hl ha, v_law_is_pairing_bad hds hl ha⟩⟩
    | true =>
      obtain ⟨ps, rfl, hp⟩ := pairs_of ha
      rw [List.length_map] at hl
      exact ⟨goodP l m e ps, fun b => ⟨v_is_pairing h hp hl, by rw [good_eq]; exact v_law_is_pairing h hp hl⟩⟩

/-! ### bans -/
abbrev encI (i : Nat) : D := .int (i : Nat)
def numB (n : Nat) (d : D) : Bool := withB d 0 ((n : Int) - 1)
theorem num_of {n : Nat} {d : D} (h : numB n d = true) : ∃ i : Nat, d = encI i ∧ i < n := by
  unfold numB withB at h
  split at h
  · rename_i i
    simp at h
    exact ⟨i.toNat, by show _ = D.int (i.toNat : Nat); rw [Int.toNat_of_nonneg h.1], by omega⟩
  · cases h
theorem nums_of {n : Nat} {ds : List D} (h : ds.all (numB n) = true) : ∃ ns : List Nat, ds = ns.map encI ∧ ∀ i ∈ ns, i < n := by
  induction ds with
  | nil => exact ⟨[], rfl, by simp⟩
  | cons d ds ih =>
    rw [List.all_cons, Bool.and_eq_true] at h
    obtain ⟨i, rfl, hi⟩ := num_of h.1
    obtain ⟨ns, rfl, hns⟩ := ih h.2
    refine ⟨i :: ns, rfl, fun j hj => ?_⟩
    rcases List.mem_cons.mp hj with rfl | hj
    · exact hi
    · exact hns j hj
theorem num_enc {n i : Nat} (h : i < n) : numB n (encI i) = true := by
  unfold numB withB
  simp
  omega
theorem v_is_lot_no {n : Nat} {d : D} {b : Bag} (hd : Pl d) (ht : isTup d = false) : fm_is_lot [d, .int n] b = .ok (.bl false) b := by
  simp [fm_is_lot, e_fnM, ms_is_lot, isi_tuple hd, ht]
theorem v_is_lot_bad {n : Nat} {ds : List D} {b : Bag} (hd : ∀ d ∈ ds, Pl d) (hl : ds.length ≤ 1000) (ha : ds.all (numB n) = false) : fm_is_lot [.tup ds, .int n] b = .ok (.bl false) b := by
  have z1 : ds.length ≤ 100000 := by omega
  simp [fm_is_lot, e_fnM, ms_is_lot, z1]
  rw [lc_all' (fun d => .bl (numB n d))]
  rotate_left
  · exact fun d hq => ⟨_, rfl, by simp [v_is_number (hd d hq), numB]⟩
  simp only [R.so_ok, o_allM, R.opt_some, opt_bl, ha]
  simp
theorem v_is_lot {n : Nat} {ns : List Nat} {b : Bag} (hp : ∀ i ∈ ns, i < n) (hl : ns.length ≤ 1000) : fm_is_lot [.tup (ns.map encI), .int n] b = .ok (.bl (ascB ns)) b := by
  have z1 : ns.length ≤ 100000 := by omega
  have z2 : (ns.length : Int) ≤ 1000000 := by omega
  have z3 : ns.length ≤ 100001 := by omega
  simp [fm_is_lot, e_fnM, ms_is_lot, z1]
  rw [lc_all ns encI (fun _ => .bl true)]
  rotate_left
  · exact fun i hq => ⟨_, rfl, by
      have := num_enc (hp i hq)
      unfold numB at this
      simp [v_is_number (.int _), this]⟩
  simp [z1, z2, z3]
  rw [lc_all (List.range (ns.length - 1)) (fun i => D.int (1 + (i : Nat))) (fun i => .bl (decide (((ns.getD i 0 : Nat) : Int) < ((ns.getD (i + 1) 0 : Nat) : Int))))]
  rotate_left
  · intro i hi
    have hi := List.mem_range.mp hi
    have h1 : i < ns.length := by omega
    have h2 : i + 1 < ns.length := by omega
    refine ⟨_, rfl, ?_⟩
    have e1 : (1 + (i : Int) - 1) = ((i : Nat) : Int) := by omega
    have e2 : (1 + (i : Int)) = ((i + 1 : Nat) : Int) := by omega
    simp only [e_m2, e_mVar0, e_mVarS, List.set_cons_succ, List.set_cons_zero, R.bind_ok, e_mC, o_sub, R.opt_some, o_ixT, e1]
    rw [e2]
    rw [at_map h1, at_map h2]
    simp [h1, h2]
  simp only [R.bind_ok, bind_so, R.so_ok, o_allM, R.opt_some, opt_bl, asc_def, fin_rt]
def goodB (mine others : List Br) (e : Int) (ns : List Nat) : Bool :=
  ascB ns && ns.all (fun i => longB e (atB mine i)) && decide ((others.filter fun y => ns.any fun i => fitB e (atB mine i) y).length < ns.length)
theorem con01 {i : Int} : inG true (.int i) (.tup [.int 0, .int 1]) = some (.bl (!(decide (i = 0) || decide (i = 1)))) := by
  have := o_inT (neg := true) (p := i) (ns := [0, 1])
  rw [Bool.true_xor] at this
  rw [show [D.int 0, D.int 1] = [0, 1].map D.int from rfl, this]
  simp
def sideB (d : D) : Bool := match d with
  | .int i => decide (i = 0) || decide (i = 1)
  | _ => false
set_option maxHeartbeats 1000000 in
theorem v_is_ban_no {l m : List Br} {e : Int} {d : D} {b : Bag} (h : Asked l m e) (hd : Pl d) (hn : ∀ x y, d = .tup [x, y] → sideB x = false) : fm_is_ban [encL l, encL m, .int e, d] b = .ok (.bl false) b := by
  have c0 : fm_check_asked [encL l, encL m, .int e] b = .ok .non b := v_check_asked h.l1 h.l2 h.m1 h.m2 ⟨h.e0, h.e1⟩
  cases hd with
  | tup hds =>
    rename_i ds
    match ds, hds with
    | [], _ => simp [fm_is_ban, e_fnM, ms_is_ban, c0]
    | [x], _ => simp [fm_is_ban, e_fnM, ms_is_ban, c0]
    | [x, y], h2 =>
      have hx := h2 x (by simp)
      have hs := hn x y rfl
      simp [fm_is_ban, e_fnM, ms_is_ban, c0, v_is_integer hx]
      cases hx <;> simp [intB]
      simp [sideB] at hs
      simp [con01, hs]
    | x :: y :: z :: r, _ =>
      have : ¬ ((r.length : Int) + 1 + 1 + 1 = 2) := by omega
      simp [fm_is_ban, e_fnM, ms_is_ban, c0, this]
  | _ => simp [fm_is_ban, e_fnM, ms_is_ban, c0, isi_tuple (.dK _ _), isTup]
/-- the bars of the side, and the others -/
def sides (l m : List Br) (i : Int) : List Br × List Br := if i = 0 then (l, m) else (m, l)
def tailB : MS := (sSeq (sIf (mOrT (mNotT (mT (mCall0 fm_is_lot (mCons (m2 ixG (mVar 3) (mC (.int 1))) (mCons (mB lenG (mCons (mVar 4) mNil)) mNil))))) (mNotT (mT (mB allG (mCons (mLc (mSeq (m2 ixG (mVar 3) (mC (.int 1)))) (gNm 6) mYes (mCall0 fm_is_long (mCons (m2 ixG (mVar 4) (mVar 6)) (mCons (mVar 2) mNil))) [6]) mNil))))) (sRet (mC (.bl false))) sSkip) (sRet (m2 ltG (mB lenG (mCons (mLc (mSeq (mVar 5)) (gNm 7) (mT (mB anyG (mCons (mLc (mSeq (m2 ixG (mVar 3) (mC (.int 1)))) (gNm 6) mYes (mCall0 fm_do_fit (mCons (m2 ixG (mVar 4) (mVar 6)) (mCons (mVar 7) (mCons (mVar 2) mNil)))) [6]) mNil))) (mVar 7) [7]) mNil)) (mB lenG (mCons (m2 ixG (mVar 3) (mC (.int 1))) mNil)))))
theorem tail_no {e : Int} {l m : List Br} {x y d z : D} {b : Bag} (hd : Pl d) (ht : isTup d = false) :
    tailB [.va x, .va y, .va (.int e), .va (.tup [z, d]), .va (encL l), .va (encL m), .un, .un] b = .rt (.bl false) b := by
  simp [tailB, encL, v_is_lot_no hd ht]
theorem tail_bad {e : Int} {l m : List Br} {x y z : D} {ds : List D} {b : Bag} (hd : ∀ d ∈ ds, Pl d) (hl : ds.length ≤ 1000) (ha : ds.all (numB l.length) = false) :
    tailB [.va x, .va y, .va (.int e), .va (.tup [z, .tup ds]), .va (encL l), .va (encL m), .un, .un] b = .rt (.bl false) b := by
  simp [tailB, encL, v_is_lot_bad hd hl ha]
set_option maxHeartbeats 1000000 in
theorem tail_ok {e : Int} {l m : List Br} {x y z : D} {ns : List Nat} {b : Bag} (hp : ∀ i ∈ ns, i < l.length) (hl : ns.length ≤ 1000) (hm : m.length ≤ 1000) :
    tailB [.va x, .va y, .va (.int e), .va (.tup [z, .tup (ns.map encI)]), .va (encL l), .va (encL m), .un, .un] b = .rt (.bl (goodB l m e ns)) b := by
  have z1 : ns.length ≤ 100000 := by omega
  have z2 : m.length ≤ 100000 := by omega
  unfold goodB
  simp [tailB, encL, v_is_lot hp hl, z1]
  cases ha : ascB ns with
  | false => simp
  | true =>
    simp
    rw [lc_all ns encI (fun i => .bl (longB e (atB l i)))]
    rotate_left
    · exact fun i hq => ⟨_, rfl, by simp [atB_get (hp i hq), v_is_long]⟩
    simp only [R.so_ok, o_allM, R.opt_some, opt_bl]
    cases hf : (ns.all fun i => longB e (atB l i)) with
    | false => simp
    | true =>
      simp [z1, z2]
      rw [lc_pure m encB (fun y => ns.any fun i => fitB e (atB l i) y) encB]
      rotate_left
      · refine fun w hw => ⟨_, rfl, ?_, fun _ => rfl⟩
        simp [z1]
        rw [lc_all ns encI (fun i => .bl (fitB e (atB l i) w))]
        rotate_left
        · exact fun i hq => ⟨_, rfl, by simp [atB_get (hp i hq), v_do_fit]⟩
        simp only [R.bind_ok, o_anyM, R.opt_some, opt_bl]
      simp
theorem v_is_ban_in {l m : List Br} {e i : Int} {d : D} {b : Bag} (h : Asked l m e) (hi : i = 0 ∨ i = 1) :
    fm_is_ban [encL l, encL m, .int e, .tup [.int i, d]] b = finK (tailB [.va (encL l), .va (encL m), .va (.int e), .va (.tup [.int i, d]), .va (encL (if i = 0 then l else m)), .va (encL (if i = 0 then m else l)), .un, .un] b) := by
  have c0 : fm_check_asked [encL l, encL m, .int e] b = .ok .non b := v_check_asked h.l1 h.l2 h.m1 h.m2 ⟨h.e0, h.e1⟩
  rcases hi with rfl | rfl
  · simp [fm_is_ban, e_fnM, ms_is_ban, c0, v_is_integer (.int _), con01, tailB]
  · simp [fm_is_ban, e_fnM, ms_is_ban, c0, v_is_integer (.int _), con01, tailB]
/-! the law's own -/
def chkB (l : List Br) (e : Int) : Int → List Nat → Bool
  | _, [] => true
  | a, i :: ns => decide (a < (i : Int)) && longB e (atB l i) && chkB l e i ns
def stepB : MS := (sSeq (sIf (mOrT (mNotT (mT (mCall0 fm__law_is_number (mCons (mVar 8) (mCons (mB lenG (mCons (mVar 4) mNil)) mNil))))) (mOrT (mT (m2 leG (mVar 8) (mVar 6))) (mNotT (mT (mCall0 fm__law_is_long (mCons (m2 ixG (mVar 4) (mVar 8)) (mCons (mVar 2) mNil))))))) (sRet (mC (.bl false))) sSkip) (sSeq (sAsg (gNm 6) (mVar 8)) (sMeth 7 (mCons (m2 ixG (mVar 4) (mVar 8)) mNil) appG)))
theorem stepB_bad {e a : Int} {l : List Br} {us : List D} {x y z q d : D} {env : Ev} {b : Bag} (hd : Pl d) (h : numB l.length d = false) :
    stepB (.va x :: .va y :: .va (.int e) :: .va z :: .va (encL l) :: .va q :: .va (.int a) :: .ol us :: .va d :: env) b = .rt (.bl false) b := by
  unfold numB at h
  simp [stepB, encL, v_law_is_number hd, h]
theorem stepB_ok {e a : Int} {l : List Br} {us : List Br} {x y z q : D} {i : Nat} {env : Ev} {b : Bag} (h : i < l.length) (hu : us.length < 100000) :
    stepB (.va x :: .va y :: .va (.int e) :: .va z :: .va (encL l) :: .va q :: .va (.int a) :: .ol (us.map encB) :: .va (encI i) :: env) b =
      if (decide (a < (i : Int)) && longB e (atB l i)) = true then .nx (.va x :: .va y :: .va (.int e) :: .va z :: .va (encL l) :: .va q :: .va (.int i) :: .ol ((us ++ [atB l i]).map encB) :: .va (encI i) :: env) b else .rt (.bl false) b := by
  have hn := num_enc h
  unfold numB at hn
  simp [stepB, encL, v_law_is_number (.int _), hn, atB_get h, v_law_is_long, hu]
  by_cases h1 : (i : Int) ≤ a
  · have : ¬ a < (i : Int) := by omega
    simp [h1, this]
  · have h2 : a < (i : Int) := by omega
    cases h4 : longB e (atB l i) <;> simp [h1, h2]
theorem loopB_bad {e : Int} {l : List Br} {x y z q : D} {env : Ev} {b : Bag} : ∀ (ds : List D) (a : Int) (us : List Br) (s : Sl), (∀ d ∈ ds, Pl d) → ds.all (numB l.length) = false → us.length + ds.length < 100000 →
    forL (gNm 8) stepB ds (.va x :: .va y :: .va (.int e) :: .va z :: .va (encL l) :: .va q :: .va (.int a) :: .ol (us.map encB) :: s :: env) b = .rt (.bl false) b
  | [], a, us, s, _, h, _ => by simp at h
  | d :: ds, a, us, s, hd, h, hl => by
    simp only [List.length_cons] at hl
    unfold forL
    simp only [e_gNm, List.set_cons_succ, List.set_cons_zero]
    cases hb : numB l.length d with
    | false => rw [stepB_bad (hd d List.mem_cons_self) hb]
    | true =>
      obtain ⟨i, rfl, h0⟩ := num_of hb
      rw [stepB_ok h0 (by omega)]
      rw [List.all_cons, hb, Bool.true_and] at h
      cases hc : (decide (a < (i : Int)) && longB e (atB l i)) with
      | false => simp
      | true =>
        simp only [if_true]
        exact loopB_bad ds i (us ++ [atB l i]) _ (fun q hq => hd q (List.mem_cons_of_mem _ hq)) h (by simp; omega)
theorem loopB_ok {e : Int} {l : List Br} {x y z q : D} {env : Ev} {b : Bag} : ∀ (ns : List Nat) (a : Int) (us : List Br) (s : Sl), (∀ i ∈ ns, i < l.length) → us.length + ns.length < 100000 → ∃ a' s',
    forL (gNm 8) stepB (ns.map encI) (.va x :: .va y :: .va (.int e) :: .va z :: .va (encL l) :: .va q :: .va (.int a) :: .ol (us.map encB) :: s :: env) b =
      if chkB l e a ns = true then .nx (.va x :: .va y :: .va (.int e) :: .va z :: .va (encL l) :: .va q :: .va (.int a') :: .ol ((us ++ ns.map (atB l)).map encB) :: s' :: env) b else .rt (.bl false) b
  | [], a, us, s, _, _ => ⟨a, s, by simp [chkB]⟩
  | i :: ns, a, us, s, hp, hl => by
    have h0 := hp i List.mem_cons_self
    simp only [List.length_cons] at hl
    obtain ⟨a', s', ih⟩ := loopB_ok (b := b) (e := e) (x := x) (y := y) (z := z) (q := q) (env := env) ns i (us ++ [atB l i]) (.va (encI i)) (fun q hq => hp q (List.mem_cons_of_mem _ hq)) (by simp; omega)
    refine ⟨a', s', ?_⟩
    rw [List.map_cons]
    unfold forL
    simp only [e_gNm, List.set_cons_succ, List.set_cons_zero]
    rw [stepB_ok h0 (by omega)]
    unfold chkB
    cases hc : (decide (a < (i : Int)) && longB e (atB l i)) with
    | true =>
      simp only [if_true, Bool.true_and]
      rw [ih]
      simp
    | false => simp

theorem v_law_is_ban_no {l m : List Br} {e : Int} {d : D} {b : Bag} (hd : Pl d) (hn : ∀ x y, d = .tup [x, y] → sideB x = false ∨ isTup y = false) : fm__law_is_ban [encL l, encL m, .int e, d] b = .ok (.bl false) b := by
  cases hd with
  | tup hds =>
    rename_i ds
    match ds, hds with
    | [], _ => simp [fm__law_is_ban, e_fnM, ms__law_is_ban]
    | [x], _ => simp [fm__law_is_ban, e_fnM, ms__law_is_ban]
    | [x, y], h2 =>
      have hx := h2 x (by simp)
      have hy := h2 y (by simp)
      have hw : withB x 0 (2 - 1) = sideB x := by
        cases x <;> first | rfl | skip
        unfold withB sideB
        rw [Bool.eq_iff_iff]
        simp
        omega
      have hw : withB x 0 1 = sideB x := hw
      have hs := hn x y rfl
      simp [fm__law_is_ban, e_fnM, ms__law_is_ban, v_law_is_number hx, hw]
      cases hb : sideB x with
      | false => simp
      | true =>
        rw [hb] at hs
        have hs : isTup y = false := by simpa using hs
        simp [isi_tuple hy, hs]
    | x :: y :: z :: r, _ =>
      have : ¬ ((r.length : Int) + 1 + 1 + 1 = 2) := by omega
      simp [fm__law_is_ban, e_fnM, ms__law_is_ban, this]
  | _ => simp [fm__law_is_ban, e_fnM, ms__law_is_ban, isi_tuple (.dK _ _), isTup]
def finB : MS := (sSeq (sAsg (gNm 9) (mLc (mSeq (mVar 5)) (gNm 10) (mT (mB anyG (mCons (mLc (mSeq (mOwn 7)) (gNm 11) mYes (mCall0 fm__law_fits (mCons (mVar 11) (mCons (mVar 10) (mCons (mVar 2) mNil)))) [11]) mNil))) (mVar 10) [10])) (sRet (m2 ltG (mB lenG (mCons (mVar 9) mNil)) (mB lenG (mCons (m2 ixG (mVar 3) (mC (.int 1))) mNil)))))
theorem v_law_is_ban_in {l m : List Br} {e i : Int} {ds : List D} {b : Bag} (hi : i = 0 ∨ i = 1) :
    fm__law_is_ban [encL l, encL m, .int e, .tup [.int i, .tup ds]] b = finK (seqK finB (forL (gNm 8) stepB ds (.va (encL l) :: .va (encL m) :: .va (.int e) :: .va (.tup [.int i, .tup ds]) :: .va (encL (if i = 0 then l else m)) :: .va (encL (if i = 0 then m else l)) :: .va (.int (-1)) :: .ol [] :: .un :: [.un, .un, .un]) b)) := by
  rcases hi with rfl | rfl
  · simp [fm__law_is_ban, e_fnM, ms__law_is_ban, v_law_is_number (.int _), withB, stepB, finB]
  · simp [fm__law_is_ban, e_fnM, ms__law_is_ban, v_law_is_number (.int _), withB, stepB, finB]
theorem fin_ok {e a : Int} {l m : List Br} {x y z : D} {s : Sl} {ns : List Nat} {b : Bag} (hl : ns.length ≤ 1000) (hm : m.length ≤ 1000) :
    finB [.va x, .va y, .va (.int e), .va (.tup [z, .tup (ns.map encI)]), .va (encL l), .va (encL m), .va (.int a), .ol ((ns.map (atB l)).map encB), s, .un, .un, .un] b = .rt (.bl (decide ((m.filter fun y => ns.any fun i => fitB e (atB l i) y).length < ns.length))) b := by
  have z1 : ns.length ≤ 100000 := by omega
  have z2 : m.length ≤ 100000 := by omega
  simp only [finB]
  simp [encL, z2]
  rw [lc_pure m encB (fun y => ns.any fun i => fitB e (atB l i) y) encB]
  rotate_left
  · refine fun w hw => ⟨_, rfl, ?_, fun _ => rfl⟩
    simp [z1]
    rw [show (List.map (encB ∘ atB l) ns) = ns.map (fun i => encB (atB l i)) from rfl, lc_all ns (fun i => encB (atB l i)) (fun i => .bl (fitB e (atB l i) w))]
    rotate_left
    · exact fun i hq => ⟨_, rfl, by simp [v_law_fits]⟩
    simp only [R.bind_ok, o_anyM, R.opt_some, opt_bl]
  simp
theorem chkB_eq {l : List Br} {e : Int} : ∀ (ns : List Nat) (a : Int), chkB l e a ns =
    (((match ns with | [] => true | i :: _ => decide (a < (i : Int))) && ascB ns) && ns.all (fun i => longB e (atB l i)))
  | [], a => by simp [chkB, ascB]
  | i :: ns, a => by
    unfold chkB
    rw [chkB_eq ns]
    have hasc : ascB (i :: ns) = ((match ns with | [] => true | j :: _ => decide ((i : Int) < (j : Int))) && ascB ns) := by
      cases ns with
      | nil => simp [ascB]
      | cons q ps =>
        rw [asc_cons]
        congr 1
        rw [Bool.eq_iff_iff]
        simp
    rw [hasc, List.all_cons]
    generalize (match ns with | [] => true | j :: _ => decide ((i : Int) < (j : Int))) = g1
    generalize ascB ns = g2
    generalize longB e (atB l i) = g3
    generalize (ns.all fun i => longB e (atB l i)) = g4
    show (decide (a < (i : Int)) && g3 && (g1 && g2 && g4)) = (decide (a < (i : Int)) && (g1 && g2) && (g3 && g4))
    generalize decide (a < (i : Int)) = g0
    revert g0 g1 g2 g3 g4
    decide
theorem good_chk {l m : List Br} {e : Int} {ns : List Nat} : goodB l m e ns = (chkB l e (-1) ns && decide ((m.filter fun y => ns.any fun j => fitB e (atB l j) y).length < ns.length)) := by
  have hm1 : (match ns with | [] => true | i :: _ => decide ((-1 : Int) < (i : Int))) = true := by
    cases ns with
    | nil => rfl
    | cons p ps => simp; omega
  unfold goodB
  rw [chkB_eq, hm1, Bool.true_and]
/-- both tell the same of any thing -/
theorem ban_both {l m : List Br} {e : Int} {d : D} (h : Asked l m e) (hd : Pl d) (hl : ∀ x ds, d = .tup [x, .tup ds] → ds.length ≤ 1000) : ∃ k : Bool, ∀ b, fm_is_ban [encL l, encL m, .int e, d] b = .ok (.bl k) b ∧ fm__law_is_ban [encL l, encL m, .int e, d] b = .ok (.bl k) b := by
  by_cases hn : ∀ x y, d = .tup [x, y] → sideB x = false
  · exact ⟨false, fun b => ⟨v_is_ban_no h hd hn, v_law_is_ban_no hd fun x y e => .inl (hn x y e)⟩⟩
  obtain ⟨x, y, rfl, hx⟩ : ∃ x y, d = .tup [x, y] ∧ sideB x = true := by
    refine Classical.byContradiction fun z => hn fun x y e => ?_
    cases hs : sideB x with
    | false => rfl
    | true => exact absurd ⟨x, y, e, hs⟩ z
  obtain ⟨i, rfl, hi⟩ : ∃ i, x = .int i ∧ (i = 0 ∨ i = 1) := by
    unfold sideB at hx
    split at hx
    · rename_i i
      exact ⟨i, rfl, by simpa using hx⟩
    · cases hx
  obtain ⟨ds0, e0, hds0⟩ := of_tup hd rfl
  cases e0
  have hy : Pl y := hds0 y (by simp)
  have s1 : ∀ l m : List Br, l.length ≤ 20 → m.length ≤ 20 → (if i = 0 then l else m).length ≤ 20 := fun l m a b => by split <;> assumption
  cases ht : isTup y with
  | false => exact ⟨false, fun b => ⟨by rw [v_is_ban_in h hi, tail_no hy ht]; rfl, v_law_is_ban_no hd fun x y e => by cases e; exact .inr ht⟩⟩
  | true =>
    obtain ⟨ds, rfl, hds⟩ := of_tup hy ht
    have hl := hl _ ds rfl
    cases ha : ds.all (numB (if i = 0 then l else m).length) with
    | false =>
      refine ⟨false, fun b => ⟨by rw [v_is_ban_in h hi, tail_bad hds hl ha]; rfl, ?_⟩⟩
      rw [v_law_is_ban_in hi]
      have := loopB_bad (e := e) (l := if i = 0 then l else m) (x := encL l) (y := encL m) (z := .tup [.int i, .tup ds]) (q := encL (if i = 0 then m else l)) (env := [.un, .un, .un]) (b := b) ds (-1) [] .un hds ha (by simp; omega)
      rw [List.map_nil] at this
      rw [this]
      rfl
    | true =>
      obtain ⟨ns, rfl, hp⟩ := nums_of ha
      rw [List.length_map] at hl
      have hm : (if i = 0 then m else l).length ≤ 1000 := by have := s1 m l h.m2 h.l2; omega
      refine ⟨goodB (if i = 0 then l else m) (if i = 0 then m else l) e ns, fun b => ⟨by rw [v_is_ban_in h hi, tail_ok hp hl hm]; rfl, ?_⟩⟩
      rw [v_law_is_ban_in hi]
      obtain ⟨a', s', this⟩ := loopB_ok (e := e) (l := if i = 0 then l else m) (x := encL l) (y := encL m) (z := .tup [.int i, .tup (ns.map encI)]) (q := encL (if i = 0 then m else l)) (env := [.un, .un, .un]) (b := b) ns (-1) [] .un hp (by simp; omega)
      rw [List.map_nil] at this
      rw [this]
      rw [good_chk]
      cases hc : chkB (if i = 0 then l else m) e (-1) ns with
      | false =>
        rw [if_neg (by decide)]
        rfl
      | true =>
        simp only [if_true, seq_nx, List.nil_append]
        rw [fin_ok hl hm]
        simp

/-! ### plain data, none of it long -/
inductive Sm : D → Prop
  | non : Sm .non
  | bl (k : Bool) : Sm (.bl k)
  | int (k : Int) : Sm (.int k)
  | str (k : Str) : Sm (.str k)
  | tup {ds : List D} (h : ∀ d ∈ ds, Sm d) (l : ds.length ≤ 1000) : Sm (.tup ds)
  | lst {ds : List D} (h : ∀ d ∈ ds, Sm d) (l : ds.length ≤ 1000) : Sm (.lst ds)
  | dK (ks : List Key) (ds : List D) : Sm (.dK ks ds)
theorem Sm.pl {d : D} (h : Sm d) : Pl d := by
  induction h with
  | tup _ _ ih => exact .tup ih
  | lst _ _ ih => exact .lst ih
  | _ => constructor
theorem Sm.t0 : Sm (.tup []) := .tup (by simp) (by simp)
theorem Sm.t1 {a : D} (ha : Sm a) : Sm (.tup [a]) := .tup (by simpa using ha) (by simp)
theorem Sm.t2 {a c : D} (ha : Sm a) (hc : Sm c) : Sm (.tup [a, c]) := .tup (by simpa using ⟨ha, hc⟩) (by simp)
theorem Sm.l0 : Sm (.lst []) := .lst (by simp) (by simp)
theorem Sm.l1 {a : D} (ha : Sm a) : Sm (.lst [a]) := .lst (by simpa using ha) (by simp)
theorem Sm.len {ds : List D} (h : Sm (.tup ds)) : ds.length ≤ 1000 := by cases h; assumption
theorem Sm.mem {ds : List D} (h : Sm (.tup ds)) : ∀ d ∈ ds, Sm d := by cases h; assumption
/-! ### draws -/
theorem pick (b : Bag) (n : Int) (h : 0 < n ∧ n < 1073741824) : ∃ k b', fm__law_pick [.bag, .int n] b = .ok (.int k) b' ∧ 0 ≤ k ∧ k < n :=
  ⟨(pickF b n).1, (pickF b n).2, if_pos h, (pickF_nn h.1).1, (pickF_nn h.1).2⟩
theorem pickN (b : Bag) (n : Int) (h : 0 < n ∧ n < 1073741824) : ∃ (k : Nat) (b' : Bag), fm__law_pick [.bag, .int n] b = .ok (.int (k : Nat)) b' ∧ (k : Int) < n := by
  obtain ⟨k, b', e, h0, h1⟩ := pick b n h
  exact ⟨k.toNat, b', by rw [e, Int.toNat_of_nonneg h0], by omega⟩
theorem sp_some (b : Bag) (ds : List D) (h : ds ≠ []) (hl : ds.length ≤ 100000) : ∃ x ∈ ds, ∃ b', fm__law_some [.bag, .lst ds] b = .ok x b' := by
  have hp : 0 < ds.length := List.length_pos_iff.mpr h
  obtain ⟨k, b', e, hk⟩ := pickN b ds.length ⟨by omega, by omega⟩
  have hk : k < ds.length := by omega
  refine ⟨ds[k], List.getElem_mem hk, b', ?_⟩
  simp [fm__law_some, e_fnM, ms__law_some, e, at_nat, List.getElem?_eq_getElem hk]
def widB (w : Int) (x : Br) : Prop := -w ≤ x.1 ∧ x.1 ≤ w ∧ ∀ g, x.2 = some g → x.1 + 1 ≤ g ∧ g ≤ w
theorem wid_ok {w : Int} {x : Br} (h : widB w x) (hw : w ≤ 1000) : okB x = true := by
  obtain ⟨p, g⟩ := x
  obtain ⟨h1, h2, h3⟩ := h
  cases g with
  | none => simp [okB]; exact ⟨by simp at h1; omega, by simp at h2; omega⟩
  | some g =>
    have h3 := h3 g rfl
    simp only at h1 h2 h3
    simp [okB]
    omega
theorem small_of {i : Int} (h : -1000 ≤ i) (h2 : i ≤ 1000) : smallI i = true := by
  unfold smallI
  rw [Bool.and_eq_true, decide_eq_true_iff, decide_eq_true_iff]
  omega
set_option maxHeartbeats 1000000 in
theorem sp_bar (b : Bag) (w : Int) (hw : 1 ≤ w ∧ w ≤ 900) : ∃ x b', fm__law_bar [.bag, .int w] b = .ok (encB x) b' ∧ widB w x := by
  obtain ⟨k1, b1, e1, l1, u1⟩ := pick b (2 * w + 1) (by omega)
  obtain ⟨k2, b2, e2, l2, u2⟩ := pick b1 4 (by omega)
  by_cases hc : k2 = 0 ∨ k1 - w = w
  · refine ⟨(k1 - w, none), b2, ?_, by show -w ≤ k1 - w; omega, by show k1 - w ≤ w; omega, fun g h => by cases h⟩
    have h9 : ¬ 999 < k1 - w := by omega
    rcases hc with rfl | hc
    · simp [fm__law_bar, e_fnM, ms__law_bar, e1, e2, small2, encB, encG, h9]
    · have h9' : ¬ 999 < w := by omega
      simp [fm__law_bar, e_fnM, ms__law_bar, e1, e2, small2, encB, encG, hc, h9']
  · obtain ⟨x, hx, b3, e3⟩ := sp_some b2 [.int 2, .int 6, .int (2 * w)] (by simp) (by simp)
    obtain ⟨j, rfl, hj⟩ : ∃ j, x = .int j ∧ 1 ≤ j := by
      simp at hx
      rcases hx with rfl | rfl | rfl
      · exact ⟨_, rfl, by omega⟩
      · exact ⟨_, rfl, by omega⟩
      · exact ⟨_, rfl, by omega⟩
    have h2 : ¬ k2 = 0 := fun z => hc (.inl z)
    have h3 : ¬ k1 - w = w := fun z => hc (.inr z)
    by_cases hm : 1 + j < w - (k1 - w)
    · obtain ⟨k4, b4, e4, l4, u4⟩ := pick b3 (1 + j) (by omega)
      refine ⟨(k1 - w, some (k1 - w + 1 + k4)), b4, ?_, by show -w ≤ k1 - w; omega, by show k1 - w ≤ w; omega, fun g h => ?_⟩
      · simp [fm__law_bar, e_fnM, ms__law_bar, e1, e2, small2, encB, encG, h2, h3, e3, hm, e4]
      · cases h
        show k1 - w + 1 ≤ k1 - w + 1 + k4 ∧ k1 - w + 1 + k4 ≤ w
        omega
    · obtain ⟨k4, b4, e4, l4, u4⟩ := pick b3 (w - (k1 - w)) (by omega)
      refine ⟨(k1 - w, some (k1 - w + 1 + k4)), b4, ?_, by show -w ≤ k1 - w; omega, by show k1 - w ≤ w; omega, fun g h => ?_⟩
      · simp [fm__law_bar, e_fnM, ms__law_bar, e1, e2, small2, encB, encG, h2, h3, e3, hm, e4]
      · cases h
        show k1 - w + 1 ≤ k1 - w + 1 + k4 ∧ k1 - w + 1 + k4 ≤ w
        omega
theorem sp_moved (b : Bag) (w : Int) (x : Br) (hw : 1 ≤ w ∧ w ≤ 900) (hx : widB w x) : ∃ y b', fm__law_moved [.bag, encB x, .int w] b = .ok (encB y) b' ∧ widB w y := by
  obtain ⟨p, g⟩ := x
  obtain ⟨k1, b1, e1, l1, u1⟩ := pick b 5 (by omega)
  generalize hq : (if (if p + k1 - 2 < w - 1 then p + k1 - 2 else w - 1) > -w then (if p + k1 - 2 < w - 1 then p + k1 - 2 else w - 1) else -w) = q
  have hq1 : -w ≤ q ∧ q ≤ w - 1 := by rw [← hq]; split <;> split at * <;> omega
  cases g with
  | none =>
    refine ⟨(q, none), b1, ?_, hq1.1, by show q ≤ w; omega, fun g h => by cases h⟩
    simp [fm__law_moved, e_fnM, ms__law_moved, e1, encB, encG]
    rw [← hq]
  | some g =>
    obtain ⟨k2, b2, e2, l2, u2⟩ := pick b1 5 (by omega)
    generalize hz : (if (if g + k2 - 2 < w then g + k2 - 2 else w) > q + 1 then (if g + k2 - 2 < w then g + k2 - 2 else w) else q + 1) = z
    have hz1 : q + 1 ≤ z ∧ z ≤ w := by rw [← hz]; split <;> split at * <;> omega
    refine ⟨(q, some z), b2, ?_, hq1.1, by show q ≤ w; omega, fun g h => by cases h; exact hz1⟩
    simp [fm__law_moved, e_fnM, ms__law_moved, e1, encB, encG, e2]
    simp only [gt_iff_lt] at hq hz
    rw [hq, hz]
    exact ⟨rfl, rfl⟩

theorem of_map {ι : Type} {enc : ι → D} {P : ι → Prop} {ds : List D} (h : ∀ d ∈ ds, ∃ x, d = enc x ∧ P x) : ∃ l : List ι, ds = l.map enc ∧ (∀ x ∈ l, P x) ∧ l.length = ds.length := by
  induction ds with
  | nil => exact ⟨[], rfl, by simp, rfl⟩
  | cons d ds ih =>
    obtain ⟨x, rfl, hx⟩ := h d List.mem_cons_self
    obtain ⟨l, rfl, hl, _⟩ := ih fun d hd => h d (List.mem_cons_of_mem _ hd)
    refine ⟨x :: l, rfl, fun y hy => ?_, by simp⟩
    rcases List.mem_cons.mp hy with rfl | hy
    · exact hx
    · exact hl y hy
def grow : MS := (sIf (mT (m2 gtG (mCall0 fm__law_pick (mCons (mVar 0) (mCons (mC (.int 6)) mNil))) (mC (.int 0)))) (sMeth 4 (mCons (mCall0 fm__law_pick (mCons (mVar 0) (mCons (m2 addG (mB lenG (mCons (mOwn 4) mNil)) (mC (.int 1))) mNil))) (mCons (mCall0 fm__law_moved (mCons (mVar 0) (mCons (mVar 5) (mCons (mVar 1) mNil)))) mNil)) insG) sSkip)
theorem grow_ok {w n : Int} {x5 x6 x3 : Sl} {x : Br} {m : List Br} (b : Bag) (hw : 1 ≤ w ∧ w ≤ 900) (hx : widB w x) (hm : m.length ≤ 1000) (hmw : ∀ y ∈ m, widB w y) : ∃ (m' : List Br) (b' : Bag), grow [.va .bag, .va (.int w), .va (.int n), x3, .ol (m.map encB), .va (encB x), x6] b = .nx [.va .bag, .va (.int w), .va (.int n), x3, .ol (m'.map encB), .va (encB x), x6] b' ∧ (∀ y ∈ m', widB w y) ∧ m'.length ≤ m.length + 1 := by
  obtain ⟨k1, b1, e1, l1, u1⟩ := pick b 6 (by omega)
  by_cases h0 : 0 < k1
  · obtain ⟨k2, b2, e2, u2⟩ := pickN b1 ((m.length : Int) + 1) (by omega)
    obtain ⟨y, b3, e3, hy⟩ := sp_moved b2 w x hw hx
    refine ⟨m.take k2 ++ [y] ++ m.drop k2, b3, ?_, ?_, ?_⟩
    · have h1 : m.length < 100000 := by omega
      have h2 : (k2 : Int) < 1000000 := by omega
      simp [grow, e1, h0, e2, e3, h1, h2]
    · intro z hz
      simp at hz
      rcases hz with hz | rfl | hz
      · exact hmw z (List.mem_of_mem_take hz)
      · exact hy
      · exact hmw z (List.mem_of_mem_drop hz)
    · simp
      omega
  · exact ⟨m, b1, by simp [grow, e1, h0], hmw, by omega⟩
theorem grow_loop {w n : Int} {x6 x3 : Sl} (hw : 1 ≤ w ∧ w ≤ 900) : ∀ (l m : List Br) (x5 : Sl) (b : Bag), (∀ y ∈ l, widB w y) → (∀ y ∈ m, widB w y) → m.length + l.length ≤ 1000 → ∃ (m' : List Br) (x5' : Sl) (b' : Bag), forL (gNm 5) grow (l.map encB) [.va .bag, .va (.int w), .va (.int n), x3, .ol (m.map encB), x5, x6] b = .nx [.va .bag, .va (.int w), .va (.int n), x3, .ol (m'.map encB), x5', x6] b' ∧ (∀ y ∈ m', widB w y) ∧ m'.length ≤ m.length + l.length
  | [], m, x5, b, hl, hm, hz => ⟨m, x5, b, rfl, hm, by simp⟩
  | x :: l, m, x5, b, hl, hm, hz => by
    simp only [List.length_cons] at hz
    obtain ⟨m1, b1, e1, h1, z1⟩ := grow_ok (n := n) (x5 := x5) (x6 := x6) (x3 := x3) (x := x) (m := m) b hw (hl x List.mem_cons_self) (by omega) hm
    obtain ⟨m2, x5', b2, e2, h2, z2⟩ := grow_loop (n := n) (x6 := x6) (x3 := x3) hw l m1 (.va (encB x)) b1 (fun y hy => hl y (List.mem_cons_of_mem _ hy)) h1 (by omega)
    refine ⟨m2, x5', b2, ?_, h2, by simp; omega⟩
    rw [List.map_cons]
    unfold forL
    simp only [e_gNm, List.set_cons_succ, List.set_cons_zero]
    rw [e1]
    exact e2
def moreT : MT := (mAndT (mT (m2 ltG (mB lenG (mCons (mOwn 4) mNil)) (mVar 2))) (mT (m2 eqG (mCall0 fm__law_pick (mCons (mVar 0) (mCons (mC (.int 3)) mNil))) (mC (.int 0)))))
def moreS : MS := (sMeth 4 (mCons (mCall0 fm__law_bar (mCons (mVar 0) (mCons (mVar 1) mNil))) mNil) appG)
theorem more_loop {w : Int} {n : Nat} {x3 x5 x6 : Sl} (hw : 1 ≤ w ∧ w ≤ 900) (hn : n ≤ 40) : ∀ (f : Nat) (m : List Br) (b : Bag), (∀ y ∈ m, widB w y) → m.length ≤ n → n - m.length < f → ∃ (m' : List Br) (b' : Bag), whl moreT moreS f [.va .bag, .va (.int w), .va (.int n), x3, .ol (m.map encB), x5, x6] b = .nx [.va .bag, .va (.int w), .va (.int n), x3, .ol (m'.map encB), x5, x6] b' ∧ (∀ y ∈ m', widB w y) ∧ m'.length ≤ n
  | 0, m, b, _, _, h => by omega
  | f + 1, m, b, hm, hl, hf => by
    unfold whl
    by_cases h0 : m.length < n
    · obtain ⟨k1, b1, e1, l1, u1⟩ := pick b 3 (by omega)
      have et : moreT [.va .bag, .va (.int w), .va (.int n), x3, .ol (m.map encB), x5, x6] b = .ok (decide (k1 = 0)) b1 := by simp [moreT, h0, e1]
      rw [et]
      by_cases hk : k1 = 0
      · rw [decide_eq_true hk]
        obtain ⟨y, b2, e2, hy⟩ := sp_bar b1 w hw
        have es : moreS [.va .bag, .va (.int w), .va (.int n), x3, .ol (m.map encB), x5, x6] b1 = .nx [.va .bag, .va (.int w), .va (.int n), x3, .ol ((m ++ [y]).map encB), x5, x6] b2 := by
          have : m.length < 100000 := by omega
          simp [moreS, e2, this]
        dsimp only
        rw [es]
        exact more_loop hw hn f (m ++ [y]) b2 (fun z hz => by
          rcases List.mem_append.mp hz with hz | hz
          · exact hm z hz
          · rw [List.mem_singleton.mp hz]; exact hy) (by simp; omega) (by simp; omega)
      · rw [decide_eq_false hk]
        exact ⟨m, b1, rfl, hm, hl⟩
    · have et : moreT [.va .bag, .va (.int w), .va (.int n), x3, .ol (m.map encB), x5, x6] b = .ok false b := by simp [moreT, h0]
      rw [et]
      exact ⟨m, b, rfl, hm, hl⟩
theorem sp_lists (b : Bag) (w : Int) (n : Nat) (hw : 1 ≤ w ∧ w ≤ 900) (hn : n ≤ 40) : ∃ (l m : List Br) (b' : Bag), fm__law_lists [.bag, .int w, .int n] b = .ok (.tup [encL l, encL m]) b' ∧ l.all okB = true ∧ m.all okB = true ∧ l.length ≤ n ∧ m.length ≤ n := by
  obtain ⟨k, b1, e1, hk⟩ := pickN b ((n : Int) + 1) (by omega)
  obtain ⟨ds, b2, e2, -, hds, hl⟩ := lc_draw (I := fun _ => True) (Q := fun d => ∃ x, d = encB x ∧ widB w x) (g := gNm 6) (mt := mYes) (me := mCall0 fm__law_bar (mCons (mVar 0) (mCons (mVar 1) mNil))) (env := [.va .bag, .va (.int w), .va (.int n), .un, .un, .un, .un]) (ds := (List.range k).map fun i => .int (i : Nat)) (fun x hx b _ => by
    obtain ⟨x, b', e, h⟩ := sp_bar b w hw
    exact ⟨_, rfl, true, b, rfl, trivial, fun _ => ⟨encB x, b', by simp [e], trivial, x, rfl, h⟩⟩) b1 trivial
  obtain ⟨l, rfl, hlw, hll⟩ := of_map hds
  simp only [List.length_map, List.length_range] at hl
  obtain ⟨m1, x5, b3, e3, h3, z3⟩ := grow_loop (n := n) (x6 := .un) (x3 := .va (.lst (l.map encB))) hw l [] .un b2 hlw (by simp) (by simp at hl ⊢; omega)
  obtain ⟨m2, b4, e4, h4, z4⟩ := more_loop (n := n) (x3 := .va (.lst (l.map encB))) (x5 := x5) (x6 := .un) hw hn 50 m1 b3 h3 (by simp at z3; omega) (by omega)
  refine ⟨l, m2, b4, ?_, List.all_eq_true.mpr fun x hx => wid_ok (hlw x hx) (by omega), List.all_eq_true.mpr fun x hx => wid_ok (h4 x hx) (by omega), by omega, z4⟩
  unfold grow at e3
  unfold moreT moreS at e4
  rw [List.map_nil] at e3
  have z1 : (k : Int) ≤ 1000000 := by omega
  have z2 : k ≤ 100000 := by omega
  have z3 : l.length ≤ 100000 := by omega
  simp [fm__law_lists, e_fnM, ms__law_lists, e1, z1, z2, e2, e3, e4, encL]

/-! ### deep things -/
def deepS : MS := (sAsg (gNm 1) (mIf (mT (m2 eqG (mCall0 fm__law_pick (mCons (mVar 0) (mCons (mC (.int 2)) mNil))) (mC (.int 0)))) (mLst (mCons (mVar 1) mNil)) (mTup (mCons (mVar 1) mNil))))
theorem deep_loop : ∀ (ds : List D) (x : D) (s : Sl) (b : Bag), Sm x → ∃ (y : D) (s' : Sl) (b' : Bag), forL (gNm 2) deepS ds [.va .bag, .va x, s] b = .nx [.va .bag, .va y, s'] b' ∧ Sm y
  | [], x, s, b, h => ⟨x, s, b, rfl, h⟩
  | d :: ds, x, s, b, h => by
    obtain ⟨k, b1, e1, l1, u1⟩ := pick b 2 (by omega)
    have e2 : ∃ y, deepS [.va .bag, .va x, .va d] b = .nx [.va .bag, .va y, .va d] b1 ∧ Sm y := by
      by_cases h0 : k = 0
      · exact ⟨.lst [x], by simp [deepS, e1, h0], Sm.l1 h⟩
      · exact ⟨.tup [x], by simp [deepS, e1, h0], Sm.t1 h⟩
    obtain ⟨y, e2, hy⟩ := e2
    obtain ⟨z, s', b2, e3, hz⟩ := deep_loop ds y (.va d) b1 hy
    refine ⟨z, s', b2, ?_, hz⟩
    unfold forL
    simp only [e_gNm, List.set_cons_succ, List.set_cons_zero]
    rw [e2]
    exact e3
theorem sp_deep (b : Bag) : ∃ y b', fm__law_deep [.bag] b = .ok y b' ∧ Sm y := by
  obtain ⟨x, hx, b1, e1⟩ := sp_some b [.int 0, .str "x", .non] (by simp) (by simp)
  have hx : Sm x := by
    simp at hx
    rcases hx with rfl | rfl | rfl <;> constructor
  obtain ⟨k, b2, e2, l2, u2⟩ := pick b1 38 (by omega)
  obtain ⟨y, s', b3, e3, hy⟩ := deep_loop ((List.range (1 + k).toNat).map fun i => .int (i : Nat)) x .un b2 hx
  refine ⟨y, b3, ?_, hy⟩
  unfold deepS at e3
  have z1 : -1000000 ≤ 1 + k ∧ 1 + k ≤ 1000000 := by omega
  simp [fm__law_deep, e_fnM, ms__law_deep, e1, e2, z1, e3]
/-! ### lots -/
def lotS : MS := (sAsg (gNm 1) (m2 addG (mVar 1) (mLc (mSeq (mVar 1)) (gNm 3) (mT (m2 ltG (mB lenG (mCons (mVar 3) mNil)) (mC (.int 4)))) (m2 addG (mVar 3) (mTup (mCons (mVar 2) mNil))) [3])))
def encT (l : List Int) : D := .tup (l.map D.int)
theorem lot_loop {n : Int} : ∀ (is : List Nat) (L : List (List Int)) (s : Sl) (b : Bag), (∀ x ∈ L, x.length ≤ 4) → L.length * 2 ^ is.length ≤ 50000 → ∃ (L' : List (List Int)) (s' : Sl), forL (gNm 2) lotS (is.map fun i => .int (i : Nat)) [.va (.int n), .va (.lst (L.map encT)), s, .un] b = .nx [.va (.int n), .va (.lst (L'.map encT)), s', .un] b ∧ (∀ x ∈ L', x.length ≤ 4) ∧ L'.length ≤ L.length * 2 ^ is.length
  | [], L, s, b, h, hz => ⟨L, s, rfl, h, by simp⟩
  | i :: is, L, s, b, h, hz => by
    have hp : 0 < 2 ^ is.length := Nat.two_pow_pos _
    have hz2 : (L.length * 2) * 2 ^ is.length ≤ 50000 := by
      rw [List.length_cons, Nat.pow_succ] at hz
      calc (L.length * 2) * 2 ^ is.length = L.length * (2 ^ is.length * 2) := by rw [Nat.mul_assoc, Nat.mul_comm 2]
        _ ≤ 50000 := hz
    have hl2 : L.length * 2 ≤ 50000 := Nat.le_trans (Nat.le_mul_of_pos_right _ hp) hz2
    let M := (L.filter fun x => decide (x.length < 4)).map fun x => x ++ [(i : Int)]
    have hM : M.length ≤ L.length := by
      show ((L.filter _).map _).length ≤ _
      rw [List.length_map]
      exact List.length_filter_le _ _
    have e1 : lotS [.va (.int n), .va (.lst (L.map encT)), .va (.int (i : Nat)), .un] b = .nx [.va (.int n), .va (.lst ((L ++ M).map encT)), .va (.int (i : Nat)), .un] b := by
      have z1 : L.length ≤ 100000 := by omega
      simp [lotS, z1]
      rw [lc_pure L encT (fun x => decide (x.length < 4)) (fun x => encT (x ++ [(i : Int)]))]
      rotate_left
      · intro x hx
        have := h x hx
        refine ⟨_, rfl, by simp [encT]; omega, fun _ => ?_⟩
        have z2 : x.length + 1 ≤ 100000 := by omega
        simp [encT, z2]
      have z3 : L.length + ((L.filter fun x => decide (x.length < 4))).length ≤ 100000 := by
        have := List.length_filter_le (fun x : List Int => decide (x.length < 4)) L
        omega
      simp [z3, M, Function.comp_def]
    obtain ⟨L', s', e2, h2, z2⟩ := lot_loop (n := n) is (L ++ M) (.va (.int (i : Nat))) b (fun x hx => by
      rcases List.mem_append.mp hx with hx | hx
      · exact h x hx
      · obtain ⟨y, hy, rfl⟩ := List.mem_map.mp hx
        have := of_decide_eq_true (List.mem_filter.mp hy).2
        simp
        omega) (Nat.le_trans (Nat.mul_le_mul_right _ (by rw [List.length_append]; omega)) hz2)
    refine ⟨L', s', ?_, h2, Nat.le_trans z2 ?_⟩
    · rw [List.map_cons]
      unfold forL
      simp only [e_gNm, List.set_cons_succ, List.set_cons_zero]
      rw [e1]
      exact e2
    · rw [List.length_cons, Nat.pow_succ]
      calc (L ++ M).length * 2 ^ is.length ≤ (L.length * 2) * 2 ^ is.length := Nat.mul_le_mul_right _ (by rw [List.length_append]; omega)
        _ = L.length * (2 ^ is.length * 2) := by rw [Nat.mul_assoc, Nat.mul_comm 2]
theorem sp_lots (b : Bag) (n : Nat) (hn : n ≤ 10) : ∃ L : List (List Int), fm__law_lots [.int n] b = .ok (.lst (L.map encT)) b ∧ (∀ x ∈ L, x.length ≤ 4) ∧ L.length ≤ 1024 := by
  have hp : 2 ^ n ≤ 2 ^ 10 := Nat.pow_le_pow_right (by decide) hn
  obtain ⟨L, s', e, h, z⟩ := lot_loop (n := n) (List.range n) [[]] .un b (by simp) (by simp; omega)
  simp at z
  refine ⟨L, ?_, h, by omega⟩
  unfold lotS at e
  have z1 : (n : Int) ≤ 1000000 := by omega
  simp [encT] at e
  simp [fm__law_lots, e_fnM, ms__law_lots, z1, e]

def drawnS : MS := (sSeq (sAsg (gNm 8) (mLc (mEnumL (mVar 2)) (gTp (gCn (gNm 9) (gCn (gNm 10) gNl))) (mAndT (mT (m2 (inG true) (mVar 9) (mOwn 5))) (mT (mCall0 fm__law_fits (mCons (mVar 7) (mCons (mVar 10) (mCons (mVar 3) mNil)))))) (mVar 9) [9, 10])) (sIf (mAndT (mT (m2 gtG (mB lenG (mCons (mVar 8) mNil)) (mC (.int 0)))) (mT (m2 gtG (mCall0 fm__law_pick (mCons (mVar 0) (mCons (mC (.int 6)) mNil))) (mC (.int 0))))) (sSeq (sMeth 5 (mCons (mCall0 fm__law_some (mCons (mVar 0) (mCons (mVar 8) mNil))) mNil) appG) (sMeth 4 (mCons (mTup (mCons (mVar 6) (mCons (m2 ixG (mOwn 5) (m1 negG (mC (.int 1)))) mNil))) mNil) appG)) sSkip))
theorem drawn_ok {e : Int} {x1 s8 : Sl} {m : List Br} {x : Br} {at_ : Nat} (ps : List (Nat × Nat)) (us : List Nat) (b : Bag) (hm : m.length ≤ 1000) (hp : ps.length ≤ 1000) (hu : us.length ≤ 1000) :
    ∃ (ps' : List (Nat × Nat)) (us' : List Nat) (s8' : Sl) (b' : Bag), drawnS [.va .bag, x1, .va (encL m), .va (.int e), .ol (ps.map encN), .ol (us.map encI), .va (.int (at_ : Nat)), .va (encB x), s8, .un, .un] b = .nx [.va .bag, x1, .va (encL m), .va (.int e), .ol (ps'.map encN), .ol (us'.map encI), .va (.int (at_ : Nat)), .va (encB x), s8', .un, .un] b' ∧ ps'.length ≤ ps.length + 1 ∧ us'.length ≤ us.length + 1 := by
  have z1 : m.length ≤ 100000 := by omega
  have z2 : ps.length < 100000 := by omega
  have z3 : us.length < 100000 := by omega
  have hc : ∀ s8 : Sl, lcL (gTp (gCn (gNm 9) (gCn (gNm 10) gNl))) (mAndT (mT (m2 (inG true) (mVar 9) (mOwn 5))) (mT (mCall0 fm__law_fits (mCons (mVar 7) (mCons (mVar 10) (mCons (mVar 3) mNil)))))) (mVar 9) [.va .bag, x1, .va (encL m), .va (.int e), .ol (ps.map encN), .ol (us.map encI), .va (.int (at_ : Nat)), .va (encB x), s8, .un, .un] (m.zipIdx.map fun x => D.tup [.int x.2, encB x.1]) b = .ok ((m.zipIdx.filter fun y => !us.contains y.2 && fitB e x y.1).map fun y => encI y.2) b := fun s8 => by
    rw [lc_pure m.zipIdx (fun x => D.tup [.int x.2, encB x.1]) (fun y => !us.contains y.2 && fitB e x y.1) (fun y => encI y.2)]
    refine fun y hy => ⟨_, rfl, ?_, fun _ => rfl⟩
    simp only [e_mAndT, e_mCall0, e_mCons, e_mNil, e_mT, e_m2, e_mVar0, e_mVarS, e_mOwnS, e_mOwn0, R.bind_ok, List.set_cons_succ, List.set_cons_zero, R.opt_some, encI, o_inN, opt_bl, Bool.true_xor, v_law_fits, R.nox_ok, List.map_id']
    cases us.contains y.2 <;> simp
  generalize hF : (m.zipIdx.filter fun y => !us.contains y.2 && fitB e x y.1) = F at hc
  have hFl : F.length ≤ m.length := by
    rw [← hF]
    refine Nat.le_trans (List.length_filter_le _ _) ?_
    simp
  by_cases h0 : 0 < F.length
  · obtain ⟨k, b1, e1, l1, u1⟩ := pick b 6 (by omega)
    by_cases h1 : 0 < k
    · obtain ⟨y, hy, b2, e2⟩ := sp_some b1 (F.map fun y => encI y.2) (by
        intro z
        rw [List.map_eq_nil_iff] at z
        rw [z] at h0
        simp at h0) (by simp; omega)
      obtain ⟨z, _, rfl⟩ := List.mem_map.mp hy
      refine ⟨ps ++ [(at_, z.2)], us ++ [z.2], .va (.lst (F.map fun y => encI y.2)), b2, ?_, by simp, by simp⟩
      have hat : atI (us.map encI ++ [encI z.2]) (-1) = some (encI z.2) := atI_last _ _
      simp [drawnS, encL, enum_map, z1] at hc ⊢
      rw [hc]
      simp [h0, e1, h1, e2, z2, z3, hat, encN]
    · refine ⟨ps, us, .va (.lst (F.map fun y => encI y.2)), b1, ?_, by omega, by omega⟩
      simp [drawnS, encL, enum_map, z1] at hc ⊢
      rw [hc]
      simp [h0, e1, h1]
  · refine ⟨ps, us, .va (.lst (F.map fun y => encI y.2)), b, ?_, by omega, by omega⟩
    simp [drawnS, encL, enum_map, z1] at hc ⊢
    rw [hc]
    simp [h0]
theorem drawn_loop {e : Int} {x1 : Sl} {m : List Br} (hm : m.length ≤ 1000) : ∀ (l : List (Br × Nat)) (s6 s7 s8 : Sl) (ps : List (Nat × Nat)) (us : List Nat) (b : Bag), ps.length + l.length ≤ 1000 → us.length + l.length ≤ 1000 →
    ∃ (ps' : List (Nat × Nat)) (us' : List Nat) (s6' s7' s8' : Sl) (b' : Bag), forL (gTp (gCn (gNm 6) (gCn (gNm 7) gNl))) drawnS (l.map fun x => D.tup [.int x.2, encB x.1]) [.va .bag, x1, .va (encL m), .va (.int e), .ol (ps.map encN), .ol (us.map encI), s6, s7, s8, .un, .un] b = .nx [.va .bag, x1, .va (encL m), .va (.int e), .ol (ps'.map encN), .ol (us'.map encI), s6', s7', s8', .un, .un] b' ∧ ps'.length ≤ ps.length + l.length
  | [], s6, s7, s8, ps, us, b, hp, hu => ⟨ps, us, s6, s7, s8, b, rfl, by simp⟩
  | x :: l, s6, s7, s8, ps, us, b, hp, hu => by
    simp only [List.length_cons] at hp hu
    obtain ⟨ps1, us1, s8a, b1, e1, z1, z2⟩ := drawn_ok (e := e) (x1 := x1) (s8 := s8) (m := m) (x := x.1) (at_ := x.2) ps us b hm (by omega) (by omega)
    obtain ⟨ps2, us2, s6b, s7b, s8b, b2, e2, z3⟩ := drawn_loop (e := e) (x1 := x1) hm l (.va (.int x.2)) (.va (encB x.1)) s8a ps1 us1 b1 (by omega) (by omega)
    refine ⟨ps2, us2, s6b, s7b, s8b, b2, ?_, by simp; omega⟩
    rw [List.map_cons]
    unfold forL
    simp only [e_gTp, e_gCn, e_gNl, e_gNm, Option.bind_some, List.set_cons_succ, List.set_cons_zero]
    rw [e1]
    exact e2
theorem sp_drawn (b : Bag) (l m : List Br) (e : Int) (hl : l.length ≤ 1000) (hm : m.length ≤ 1000) : ∃ (ps : List (Nat × Nat)) (b' : Bag), fm__law_drawn [.bag, encL l, encL m, .int e] b = .ok (.lst (ps.map encN)) b' ∧ ps.length ≤ l.length := by
  obtain ⟨ps, us, s6, s7, s8, b', h, z⟩ := drawn_loop (e := e) (x1 := .va (encL l)) hm l.zipIdx .un .un .un [] [] b (by simp; omega) (by simp; omega)
  refine ⟨ps, b', ?_, by simpa using z⟩
  unfold drawnS at h
  simp [encL] at h
  simp [fm__law_drawn, e_fnM, ms__law_drawn, encL, enum_map, h]

section
variable {env : Ev} {b : Bag} {ma : ME} {ml mh : MO} {ds : List D}
@[simp] theorem e_oNo : oNo env b = .ok none b := rfl
@[simp] theorem e_oSo : oSo ma env b = (ma env b).bind fun x b => R.opt ((asI x).map some) b := rfl
@[simp] theorem e_asI {i : Int} : asI (.int i) = some i := rfl
@[simp] theorem e_mSl : mSl ma ml mh env b = (ma env b).bind fun x b => (ml env b).bind fun l b => (mh env b).bind fun h b => R.opt (slG x l h) b := rfl
@[simp] theorem o_slT {lo hi : Option Int} : slG (.tup ds) lo hi = some (.tup (cutD ds lo hi)) := rfl
@[simp] theorem o_slL {lo hi : Option Int} : slG (.lst ds) lo hi = some (.lst (cutD ds lo hi)) := rfl
end
theorem cut_mem {ds : List D} {lo hi : Option Int} {d : D} (h : d ∈ cutD ds lo hi) : d ∈ ds := List.mem_of_mem_drop (List.mem_of_mem_take h)
theorem cut_len {ds : List D} {lo hi : Option Int} : (cutD ds lo hi).length ≤ ds.length := by
  unfold cutD
  rw [List.length_take, List.length_drop]
  omega
theorem sm_encP (x : Int × Int) : Sm (encP x) := Sm.t2 (.int _) (.int _)
theorem neP (x y : Int × Int) : neG (encP x) (encP y) = some (.bl (!eqv (encP x) (encP y))) := if_pos ⟨rfl, rfl⟩
theorem pairs_map (qs : List (Int × Int)) : pairsD (qs.map encP) = some qs := by
  induction qs with
  | nil => rfl
  | cons q qs ih =>
    rw [List.map_cons]
    show (pairsD (qs.map encP)).map _ = _
    rw [ih]
    rfl
theorem o_sortP {ds : List D} (qs : List (Int × Int)) (h : ds = qs.map encP) : sortedPG [.lst ds] = some (.lst ((sortP qs).map encP)) := by
  subst h
  show (pairsD _).map _ = _
  rw [pairs_map]
  rfl
theorem sortP_len (qs : List (Int × Int)) : (sortP qs).length = qs.length := (List.mergeSort_perm qs leP).length_eq
theorem sm_P {qs : List (Int × Int)} (h : qs.length ≤ 1000) : Sm (.tup (qs.map encP)) := .tup (fun d hd => by
  obtain ⟨x, _, rfl⟩ := List.mem_map.mp hd
  exact sm_encP x) (by simpa using h)
set_option maxHeartbeats 4000000 in
theorem sp_bent (b : Bag) (qs : List (Int × Int)) (n m : Nat) (hq : qs.length ≤ 900) (hn : n ≤ 1000) (hm : m ≤ 1000) : ∃ y b', fm__law_bent [.bag, .lst (qs.map encP), .int n, .int m] b = .ok y b' ∧ Sm y := by
  obtain ⟨k1, b1, e1, l1, u1⟩ := pick b ((qs.length : Int) + 1) (by omega)
  obtain ⟨k2, b2, e2, l2, u2⟩ := pick b1 ((n : Int) + 2) (by omega)
  obtain ⟨k3, b3, e3, l3, u3⟩ := pick b2 ((m : Int) + 2) (by omega)
  obtain ⟨k4, b4, e4, l4, u4⟩ := pick b3 9 (by omega)
  have z1 : qs.length + 1 ≤ 100000 := by omega
  have s1 : sortedPG [.lst (qs.map encP ++ [.tup [.int (k2 - 1), .int (k3 - 1)]])] = some (.lst ((sortP (qs ++ [(k2 - 1, k3 - 1)])).map encP)) := o_sortP _ (by simp [encP])
  by_cases hc : k4 = 0 ∨ (qs.length : Int) = 0
  · have : ∃ b5, fm__law_bent [.bag, .lst (qs.map encP), .int n, .int m] b = .ok (.tup ((sortP (qs ++ [(k2 - 1, k3 - 1)])).map encP)) b5 := by
      refine ⟨b4, ?_⟩
      rcases hc with rfl | hc
      · simp [fm__law_bent, e_fnM, ms__law_bent, e1, e2, e3, e4, z1, s1]
      · have hq0 : qs = [] := by
          cases qs with
          | nil => rfl
          | cons q qs => simp at hc; omega
        subst hq0
        simp at e1 s1
        simp [fm__law_bent, e_fnM, ms__law_bent, e1, e2, e3, e4, s1]
    obtain ⟨b5, e5⟩ := this
    exact ⟨_, b5, e5, sm_P (by rw [sortP_len]; simp; omega)⟩
  have h4 : ¬ k4 = 0 := fun z => hc (.inl z)
  have h5 : ¬ (qs.length : Int) = 0 := fun z => hc (.inr z)
  have h6 : qs ≠ [] := fun z => h5 (by rw [z]; rfl)
  obtain ⟨q, hq1⟩ : ∃ q, atI (qs.map encP) (if (qs.length : Int) - 1 < k1 then (qs.length : Int) - 1 else k1) = some (encP q) := by
    have hj : ∃ j : Nat, (if (qs.length : Int) - 1 < k1 then (qs.length : Int) - 1 else k1) = (j : Int) ∧ j < qs.length := by
      split
      · exact ⟨qs.length - 1, by omega, by omega⟩
      · exact ⟨k1.toNat, by omega, by omega⟩
    obtain ⟨j, e, hj⟩ := hj
    exact ⟨qs[j], by rw [e, at_map hj]⟩
  have hlf : lcL (gNm 9) (mT (m2 neG (mVar 9) (mVar 7))) (mVar 9) [.va .bag, .va (.lst (qs.map encP)), .va (.int n), .va (.int m), .va (.int k1), .va (.tup [.int (k2 - 1), .int (k3 - 1)]), .va (.int k4), .va (encP q), .un, .un] (qs.map encP) b4 = .ok ((qs.filter fun x => !eqv (encP x) (encP q)).map encP) b4 := by
    rw [lc_pure qs encP (fun x => !eqv (encP x) (encP q)) encP]
    exact fun x hx => ⟨_, rfl, by simp [neP], fun _ => rfl⟩
  have hll : ((qs.filter fun x => !eqv (encP x) (encP q))).length ≤ qs.length := List.length_filter_le _ _
  generalize (qs.filter fun x => !eqv (encP x) (encP q)) = lf at hlf hll
  have z0 : qs.length ≤ 100000 := by omega
  have z2 : lf.length + 1 ≤ 100000 := by omega
  have z3 : 1 + lf.length ≤ 100000 := by omega
  have s2 : sortedPG [.lst (lf.map encP ++ [.tup [.int (k2 - 1), .int (k3 - 1)]])] = some (.lst ((sortP (lf ++ [(k2 - 1, k3 - 1)])).map encP)) := o_sortP _ (by simp [encP])
  have s3 : sortedPG [.lst (qs.map encP ++ [encP q])] = some (.lst ((sortP (qs ++ [q])).map encP)) := o_sortP _ (by simp)
  have cs : k4 = 1 ∨ k4 = 2 ∨ k4 = 3 ∨ k4 = 4 ∨ k4 = 5 ∨ k4 = 6 ∨ k4 = 7 ∨ k4 = 8 := by omega
  have sm_app : ∀ (us : List (Int × Int)) (d : D), us.length ≤ 900 → Sm d → Sm (.tup (us.map encP ++ [d])) := fun us d hu hd => .tup (fun x hx => by
    rcases List.mem_append.mp hx with hx | hx
    · obtain ⟨y, _, rfl⟩ := List.mem_map.mp hx
      exact sm_encP y
    · rw [List.mem_singleton.mp hx]; exact hd) (by simp; omega)
  have sm_con : ∀ (us : List (Int × Int)) (d : D), us.length ≤ 900 → Sm d → Sm (.tup (d :: us.map encP)) := fun us d hu hd => .tup (fun x hx => by
    rcases List.mem_cons.mp hx with rfl | hx
    · exact hd
    · obtain ⟨y, _, rfl⟩ := List.mem_map.mp hx
      exact sm_encP y) (by simp; omega)
  rcases cs with rfl | rfl | rfl | rfl | rfl | rfl | rfl | rfl
  · refine ⟨.tup (lf.map encP), b4, ?_, sm_P (by omega)⟩
    simp [fm__law_bent, e_fnM, ms__law_bent, e1, e2, e3, e4, h6, hq1, z0, hlf]
  · refine ⟨.tup ((sortP (lf ++ [(k2 - 1, k3 - 1)])).map encP), b4, ?_, sm_P (by rw [sortP_len]; simp; omega)⟩
    simp [fm__law_bent, e_fnM, ms__law_bent, e1, e2, e3, e4, h6, hq1, z0, hlf, s2, z2]
  · refine ⟨.tup (qs.map encP).reverse, b4, ?_, ?_⟩
    · simp [fm__law_bent, e_fnM, ms__law_bent, e1, e2, e3, e4, h6, hq1, z0, hlf]
    · rw [← List.map_reverse]
      exact sm_P (by simp; omega)
  · refine ⟨.tup ((sortP (qs ++ [q])).map encP), b4, ?_, sm_P (by rw [sortP_len]; simp; omega)⟩
    simp [fm__law_bent, e_fnM, ms__law_bent, e1, e2, e3, e4, h6, hq1, z0, z1, hlf, s3]
  · refine ⟨.lst (qs.map encP), b4, ?_, .lst (sm_P (by omega)).mem (by simp; omega)⟩
    simp [fm__law_bent, e_fnM, ms__law_bent, e1, e2, e3, e4, h6, hq1, z0, hlf]
  · obtain ⟨x, hx, b5, e5⟩ := sp_some b4 [.lst [.int q.1, .int q.2], .tup [.int q.1, .int q.2, .int 0], .tup (cutD [.int q.1, .int q.2] none (some 1)), .non, .tup [.int q.1, .non], .tup [encP q]] (by simp) (by simp)
    refine ⟨.tup (lf.map encP ++ [x]), b5, ?_, sm_app lf x (by omega) ?_⟩
    · have : encP q = .tup [.int q.1, .int q.2] := rfl
      rw [this] at e5 hlf hq1
      simp [fm__law_bent, e_fnM, ms__law_bent, e1, e2, e3, e4, h6, hq1, z0, hlf, e5, z2]
    · simp only [List.mem_cons, List.not_mem_nil, or_false] at hx
      rcases hx with rfl | rfl | rfl | rfl | rfl | rfl
      · exact .lst (sm_encP q).mem (by simp)
      · exact .tup (by
          intro d hd
          simp at hd
          rcases hd with rfl | rfl | rfl <;> constructor) (by simp)
      · exact .tup (fun d hd => (sm_encP q).mem d (cut_mem hd)) (Nat.le_trans cut_len (by simp))
      · exact .non
      · exact Sm.t2 (.int _) .non
      · exact Sm.t1 (sm_encP q)
  · refine ⟨.tup (.tup [.int q.2, .int q.1] :: lf.map encP), b4, ?_, sm_con lf _ (by omega) (Sm.t2 (.int _) (.int _))⟩
    have : encP q = .tup [.int q.1, .int q.2] := rfl
    rw [this] at hlf hq1
    simp [fm__law_bent, e_fnM, ms__law_bent, e1, e2, e3, e4, h6, hq1, z0, hlf, z3]
  · have hcc : lcL (gNm 9) mYes (mIf (mT (m2 ltG (m2 ixG (mVar 9) (mC (.int 0))) (mC (.int 2)))) (mTup (mCons (mB boolG (mCons (m2 ixG (mVar 9) (mC (.int 0))) mNil)) (mCons (m2 ixG (mVar 9) (mC (.int 1))) mNil))) (mVar 9)) [.va .bag, .va (.lst (qs.map encP)), .va (.int n), .va (.int m), .va (.int k1), .va (.tup [.int (k2 - 1), .int (k3 - 1)]), .va (.int 8), .va (encP q), .va (.lst (lf.map encP)), .un] (qs.map encP) b4 = .ok (qs.map fun x => if x.1 < 2 then D.tup [.bl (x.1 != 0), .int x.2] else encP x) b4 := by
      rw [lc_all qs encP (fun x => if x.1 < 2 then D.tup [.bl (x.1 != 0), .int x.2] else encP x)]
      refine fun x hx => ⟨_, rfl, ?_⟩
      by_cases hx2 : x.1 < 2
      · simp [encP, hx2]
      · simp [encP, hx2]
    refine ⟨.tup (qs.map fun x => if x.1 < 2 then D.tup [.bl (x.1 != 0), .int x.2] else encP x), b4, ?_, .tup (fun d hd => ?_) (by simp; omega)⟩
    · simp [fm__law_bent, e_fnM, ms__law_bent, e1, e2, e3, e4, h6, hq1, z0, hlf, hcc]
    · obtain ⟨x, _, rfl⟩ := List.mem_map.mp hd
      split
      · exact Sm.t2 (.bl _) (.int _)
      · exact sm_encP x

def turnS : MS := (sSeq (sAsg (gNm 7) (mCall0 fm__law_drawn (mCons (mVar 1) (mCons (mVar 2) (mCons (mVar 3) (mCons (mVar 4) mNil)))))) (sAsg (gNm 5) (m2 addG (mVar 5) (mLst (mCons (mB tupleG (mCons (mVar 7) mNil)) (mCons (mCall0 fm__law_bent (mCons (mVar 1) (mCons (mVar 7) (mCons (mB lenG (mCons (mVar 2) mNil)) (mCons (mB lenG (mCons (mVar 3) mNil)) mNil))))) mNil))))))
def sideS : MS := (sSeq (sAsg (gNm 9) (mIf (mT (m2 eqG (mVar 8) (mC (.int 0)))) (mVar 2) (mVar 3))) (sSeq (sAsg (gNm 5) (m2 addG (mVar 5) (mLc (mSeq (mCall0 fm__law_lots (mCons (mB lenG (mCons (mVar 9) mNil)) mNil))) (gNm 10) mYes (mTup (mCons (mVar 8) (mCons (mVar 10) mNil))) [10]))) (sSeq (sAsg (gNm 10) (mRgT (mB lenG (mCons (mVar 9) mNil)))) (sSeq (sAsg (gNm 11) (mLst (mCons (mB listG (mCons (mVar 10) mNil)) (mCons (m1 revG (mVar 10)) (mCons (m2 addG (mVar 10) (mTup (mCons (mB lenG (mCons (mVar 9) mNil)) mNil))) (mCons (m2 addG (mVar 10) (mSl (mVar 10) (oSo (m1 negG (mC (.int 1)))) oNo)) (mCons (mC .non) (mCons (mTup (mCons (m1 negG (mC (.int 1))) mNil)) (mCons (mTup (mCons (mC (.bl true)) mNil)) (mCons (mTup (mCons (mC .non) mNil)) (mCons (mTup (mCons (mTup (mCons (mC (.int 0)) mNil)) mNil)) mNil))))))))))) (sAsg (gNm 5) (m2 addG (mVar 5) (mLc (mSeq (mVar 11)) (gNm 12) mYes (mTup (mCons (mVar 8) (mCons (mVar 12) mNil))) [12])))))))
def askS : MS := (sSeq (sIf (mNotT (mT (mCall0 fm__law_is_flag (mCons (mCall0 fm_is_pairing (mCons (mVar 2) (mCons (mVar 3) (mCons (mVar 4) (mCons (mVar 12) mNil))))) (mCons (mCall0 fm__law_is_pairing (mCons (mVar 2) (mCons (mVar 3) (mCons (mVar 4) (mCons (mVar 12) mNil))))) mNil))))) (sRet (mC (.bl false))) sSkip) (sIf (mNotT (mT (mCall0 fm__law_is_flag (mCons (mCall0 fm_is_ban (mCons (mVar 2) (mCons (mVar 3) (mCons (mVar 4) (mCons (mVar 12) mNil))))) (mCons (mCall0 fm__law_is_ban (mCons (mVar 2) (mCons (mVar 3) (mCons (mVar 4) (mCons (mVar 12) mNil))))) mNil))))) (sRet (mC (.bl false))) sSkip))
def rgTK (d : D) (b : Bag) : R D := match d with
  | .int n => if -1000000 ≤ n ∧ n ≤ 1000000 then .ok (.tup (rgD 0 n)) b else .stuck
  | _ => .stuck
@[simp] theorem e_rgT {ma : ME} {env : Ev} {b : Bag} : mRgT ma env b = (ma env b).bind rgTK := rfl
@[simp] theorem e_rgTK {n : Int} {b : Bag} : rgTK (.int n) b = if -1000000 ≤ n ∧ n ≤ 1000000 then .ok (.tup (rgD 0 n)) b else .stuck := rfl
@[simp] theorem e_dict1 {mk mv : ME} {env : Ev} {b : Bag} : mDict1 mk mv env b = (mk env b).bind fun k b => (mv env b).bind fun v b => R.opt ((keyD k).map fun k => .dK [k] [v]) b := rfl
@[simp] theorem k_int {i : Int} : keyD (.int i) = some (.inl i) := rfl
def AllSm (ds : List D) : Prop := ∀ d ∈ ds, Sm d
theorem AllSm.app {a c : List D} (ha : AllSm a) (hc : AllSm c) : AllSm (a ++ c) := fun d hd => by
  rcases List.mem_append.mp hd with h | h
  · exact ha d h
  · exact hc d h
theorem sm_encN (p : Nat × Nat) : Sm (encN p) := Sm.t2 (.int _) (.int _)
theorem encN_P (ps : List (Nat × Nat)) : ps.map encN = (ps.map fun p => ((p.1 : Int), (p.2 : Int))).map encP := by
  rw [List.map_map]
  rfl
theorem turn_ok {l m : List Br} {e : Int} {x0 s6 s7 s8 s9 s10 s11 s12 : Sl} (hl : l.length ≤ 10) (hm : m.length ≤ 10) (ds : List D) (b : Bag) (hd : AllSm ds) (hz : ds.length ≤ 50000) :
    ∃ (ds' : List D) (s7' : Sl) (b' : Bag), turnS [x0, .va .bag, .va (encL l), .va (encL m), .va (.int e), .va (.lst ds), s6, s7, s8, s9, s10, s11, s12] b = .nx [x0, .va .bag, .va (encL l), .va (encL m), .va (.int e), .va (.lst ds'), s6, s7', s8, s9, s10, s11, s12] b' ∧ AllSm ds' ∧ ds'.length = ds.length + 2 := by
  obtain ⟨ps, b1, e1, z1⟩ := sp_drawn b l m e (by omega) (by omega)
  obtain ⟨y, b2, e2, hy⟩ := sp_bent b1 (ps.map fun p => ((p.1 : Int), (p.2 : Int))) l.length m.length (by simp; omega) (by omega) (by omega)
  rw [← encN_P] at e2
  refine ⟨ds ++ [.tup (ps.map encN), y], .va (.lst (ps.map encN)), b2, ?_, hd.app ?_, by simp⟩
  · have z2 : ds.length + 2 ≤ 100000 := by omega
    simp only [encL] at e1 e2 ⊢
    simp [turnS, e1, e2, z2]
  · intro d h
    simp at h
    rcases h with rfl | rfl
    · rw [encN_P]
      exact sm_P (by simp; omega)
    · exact hy
theorem turn_loop {l m : List Br} {e : Int} {x0 s8 s9 s10 s11 s12 : Sl} (hl : l.length ≤ 10) (hm : m.length ≤ 10) : ∀ (is : List D) (ds : List D) (s6 s7 : Sl) (b : Bag), AllSm ds → ds.length + 2 * is.length ≤ 50000 →
    ∃ (ds' : List D) (s6' s7' : Sl) (b' : Bag), forL (gNm 6) turnS is [x0, .va .bag, .va (encL l), .va (encL m), .va (.int e), .va (.lst ds), s6, s7, s8, s9, s10, s11, s12] b = .nx [x0, .va .bag, .va (encL l), .va (encL m), .va (.int e), .va (.lst ds'), s6', s7', s8, s9, s10, s11, s12] b' ∧ AllSm ds' ∧ ds'.length = ds.length + 2 * is.length
  | [], ds, s6, s7, b, hd, hz => ⟨ds, s6, s7, b, rfl, hd, by simp⟩
  | i :: is, ds, s6, s7, b, hd, hz => by
    simp only [List.length_cons] at hz
    obtain ⟨d1, s7a, b1, e1, h1, z1⟩ := turn_ok (e := e) (x0 := x0) (s6 := .va i) (s7 := s7) (s8 := s8) (s9 := s9) (s10 := s10) (s11 := s11) (s12 := s12) hl hm ds b hd (by omega)
    obtain ⟨d2, s6b, s7b, b2, e2, h2, z2⟩ := turn_loop (e := e) (x0 := x0) (s8 := s8) (s9 := s9) (s10 := s10) (s11 := s11) (s12 := s12) hl hm is d1 (.va i) s7a b1 h1 (by omega)
    refine ⟨d2, s6b, s7b, b2, ?_, h2, by simp; omega⟩
    unfold forL
    simp only [e_gNm, List.set_cons_succ, List.set_cons_zero]
    rw [e1]
    exact e2
theorem rgD_ints (n : Nat) : AllSm (rgD 0 n) ∧ (rgD 0 n).length = n := by
  constructor
  · intro d hd
    obtain ⟨i, _, rfl⟩ := List.mem_map.mp hd
    exact .int _
  · unfold rgD
    simp
theorem side_ok {l m : List Br} {e i : Int} {x0 s6 s7 s9 s10 s11 s12 : Sl} (hl : l.length ≤ 10) (hm : m.length ≤ 10) (ds : List D) (b : Bag) (hd : AllSm ds) (hz : ds.length ≤ 50000) :
    ∃ (ds' : List D) (s9' s10' s11' s12' : Sl), sideS [x0, .va .bag, .va (encL l), .va (encL m), .va (.int e), .va (.lst ds), s6, s7, .va (.int i), s9, s10, s11, s12] b = .nx [x0, .va .bag, .va (encL l), .va (encL m), .va (.int e), .va (.lst ds'), s6, s7, .va (.int i), s9', s10', s11', s12'] b ∧ AllSm ds' ∧ ds'.length ≤ ds.length + 1040 := by
  obtain ⟨n, hn⟩ : ∃ n : List Br, n = if i = 0 then l else m := ⟨_, rfl⟩
  have hnl : n.length ≤ 10 := by rw [hn]; split <;> assumption
  obtain ⟨L, e1, hL, zL⟩ := sp_lots b n.length hnl
  obtain ⟨hr, hrl⟩ := rgD_ints n.length
  generalize hrg : rgD 0 (n.length : Int) = rg at hr hrl
  have smt : ∀ x : List D, AllSm x → x.length ≤ 100 → Sm (.tup x) := fun x h z => .tup h (by omega)
  let odd : List D := [.lst rg, .tup rg.reverse, .tup (rg ++ [.int n.length]), .tup (rg ++ cutD rg (some (-1)) none), .non, .tup [.int (-1)], .tup [.bl true], .tup [.non], .tup [.tup [.int 0]]]
  have hodd : AllSm odd := by
    intro d h
    simp only [odd, List.mem_cons, List.not_mem_nil, or_false] at h
    rcases h with rfl | rfl | rfl | rfl | rfl | rfl | rfl | rfl | rfl
    · exact .lst hr (by omega)
    · exact smt _ (fun d hd => hr d (List.mem_reverse.mp hd)) (by simp; omega)
    · exact smt _ (hr.app (fun d hd => by rw [List.mem_singleton.mp hd]; exact .int _)) (by simp; omega)
    · exact smt _ (hr.app (fun d hd => hr d (cut_mem hd))) (by have := cut_len (ds := rg) (lo := some (-1)) (hi := none); simp; omega)
    · exact .non
    · exact Sm.t1 (.int _)
    · exact Sm.t1 (.bl _)
    · exact Sm.t1 .non
    · exact Sm.t1 (Sm.t1 (.int _))
  refine ⟨ds ++ L.map (fun x => D.tup [.int i, encT x]) ++ odd.map (fun x => D.tup [.int i, x]), .va (encL n), .va (.tup rg), .va (.lst odd), s12, ?_, (hd.app ?_).app ?_, ?_⟩
  · have z1 : L.length ≤ 100000 := by omega
    have z2 : ds.length + L.length ≤ 100000 := by omega
    have z3 : ds.length + L.length ≤ 99991 := by omega
    have z4 : (n.length : Int) ≤ 1000000 := by omega
    have z5 : rg.length + 1 ≤ 100000 := by omega
    have z6 : rg.length + (cutD rg (some (-1)) none).length ≤ 100000 := by have := cut_len (ds := rg) (lo := some (-1)) (hi := none); omega
    by_cases h0 : i = 0
    · rw [if_pos h0] at hn
      subst hn
      simp [sideS, encL, h0, e1, z1]
      rw [lc_all L encT (fun x => D.tup [.int i, encT x])]
      rotate_left
      · exact fun x hx => ⟨_, rfl, by simp [h0]⟩
      simp [z2, z4, hrg, z5, z6]
      rw [lc_all' (fun x => D.tup [.int i, x])]
      rotate_left
      · exact fun x hx => ⟨_, rfl, by simp [h0]⟩
      simp [z3, odd, h0]
    · rw [if_neg h0] at hn
      subst hn
      simp [sideS, encL, h0, e1, z1]
      rw [lc_all L encT (fun x => D.tup [.int i, encT x])]
      rotate_left
      · exact fun x hx => ⟨_, rfl, by simp [h0]⟩
      simp [z2, z4, hrg, z5, z6]
      rw [lc_all' (fun x => D.tup [.int i, x])]
      rotate_left
      · exact fun x hx => ⟨_, rfl, by simp [h0]⟩
      simp [z3, odd, h0]
  · intro d h
    obtain ⟨x, hx, rfl⟩ := List.mem_map.mp h
    refine Sm.t2 (.int _) (.tup (fun d hd => ?_) (by have := hL x hx; simp; omega))
    obtain ⟨y, _, rfl⟩ := List.mem_map.mp hd
    exact .int _
  · intro d h
    obtain ⟨x, hx, rfl⟩ := List.mem_map.mp h
    exact Sm.t2 (.int _) (hodd x hx)
  · simp [odd]
    omega
theorem ask_ok {l m : List Br} {e : Int} {x0 x1 s5 s6 s7 s8 s9 s10 s11 : Sl} (h : Asked l m e) (d : D) (hd : Sm d) (b : Bag) :
    askS [x0, x1, .va (encL l), .va (encL m), .va (.int e), s5, s6, s7, s8, s9, s10, s11, .va d] b = .nx [x0, x1, .va (encL l), .va (encL m), .va (.int e), s5, s6, s7, s8, s9, s10, s11, .va d] b := by
  obtain ⟨k1, h1⟩ := pairing_both h hd.pl fun ds e => by rw [e] at hd; exact hd.len
  obtain ⟨k2, h2⟩ := ban_both h hd.pl fun x ds e => by rw [e] at hd; exact (hd.mem (.tup ds) (by simp)).len
  have hf : ∀ k b, fm__law_is_flag [.bl k, .bl k] b = .ok (.bl true) b := fun k b => by simp [fm__law_is_flag, e_fnM, ms__law_is_flag]
  simp [askS, (h1 b).1, (h1 b).2, (h2 b).1, (h2 b).2, hf]
theorem ask_loop {l m : List Br} {e : Int} {x0 x1 s5 s6 s7 s8 s9 s10 s11 : Sl} (h : Asked l m e) : ∀ (ds : List D) (s12 : Sl) (b : Bag), AllSm ds → ∃ s12', forL (gNm 12) askS ds [x0, x1, .va (encL l), .va (encL m), .va (.int e), s5, s6, s7, s8, s9, s10, s11, s12] b = .nx [x0, x1, .va (encL l), .va (encL m), .va (.int e), s5, s6, s7, s8, s9, s10, s11, s12'] b
  | [], s12, b, _ => ⟨s12, rfl⟩
  | d :: ds, s12, b, hd => by
    obtain ⟨s, e2⟩ := ask_loop (x0 := x0) (x1 := x1) (s5 := s5) (s6 := s6) (s7 := s7) (s8 := s8) (s9 := s9) (s10 := s10) (s11 := s11) h ds (.va d) b fun x hx => hd x (List.mem_cons_of_mem _ hx)
    refine ⟨s, ?_⟩
    unfold forL
    simp only [e_gNm, List.set_cons_succ, List.set_cons_zero]
    rw [ask_ok h d (hd d List.mem_cons_self)]
    exact e2
set_option maxHeartbeats 4000000 in
theorem says_law : Says 11 ms_law := by
  intro b _
  obtain ⟨x, hx, b1, e1⟩ := sp_some b [.int 4, .int 8] (by simp) (by simp)
  obtain ⟨w, rfl, hw⟩ : ∃ w, x = .int w ∧ (1 ≤ w ∧ w ≤ 900) := by
    simp at hx
    rcases hx with rfl | rfl
    · exact ⟨4, rfl, by omega⟩
    · exact ⟨8, rfl, by omega⟩
  obtain ⟨k, b2, e2, l2, u2⟩ := pick b1 6 (by omega)
  obtain ⟨l, m, b3, e3, hl, hm, zl, zm⟩ := sp_lists b2 w (if k = 3 then 10 else 4) hw (by split <;> omega)
  have zl : l.length ≤ 10 := Nat.le_trans zl (by split <;> omega)
  have zm : m.length ≤ 10 := Nat.le_trans zm (by split <;> omega)
  have e3 : fm__law_lists [.bag, .int w, if k = 3 then .int 10 else .int 4] b2 = .ok (.tup [encL l, encL m]) b3 := by
    rw [← e3]
    split <;> rfl
  obtain ⟨e, b4, e4, l4, u4⟩ := pick b3 5 (by omega)
  have hA : Asked l m e := ⟨hl, by omega, hm, by omega, by omega, by omega⟩
  obtain ⟨y, b5, e5, hy⟩ := sp_deep b4
  let T0 : List D := [.tup [], .non, .int 0, .str "", .lst [], .dK [] [], .dK [.inl 0] [.int 1], .tup [.non], .tup [.tup []], .tup [.tup [.int 0]], .tup [.int 0, .int 0], .tup [.tup [.int 0, .int 0]], .tup [.tup [.bl true, .bl false]], .tup [.tup [.int 0, .int 0], .tup [.int 0, .int 0]], y]
  have h0 : AllSm T0 := by
    have i2 : ∀ a c : Int, Sm (.tup [.int a, .int c]) := fun a c => Sm.t2 (.int _) (.int _)
    intro d hd
    simp only [T0, List.mem_cons, List.not_mem_nil, or_false] at hd
    rcases hd with rfl | rfl | rfl | rfl | rfl | rfl | rfl | rfl | rfl | rfl | rfl | rfl | rfl | rfl | rfl
    · exact Sm.t0
    · exact .non
    · exact .int _
    · exact .str _
    · exact Sm.l0
    · exact .dK _ _
    · exact .dK _ _
    · exact Sm.t1 .non
    · exact Sm.t1 Sm.t0
    · exact Sm.t1 (Sm.t1 (.int _))
    · exact i2 _ _
    · exact Sm.t1 (i2 _ _)
    · exact Sm.t1 (Sm.t2 (.bl _) (.bl _))
    · exact Sm.t2 (i2 _ _) (i2 _ _)
    · exact hy
  obtain ⟨T1, s6, s7, b6, e6, h1, z1⟩ := turn_loop (l := l) (m := m) (e := e) (x0 := .un) (s8 := .un) (s9 := .un) (s10 := .un) (s11 := .un) (s12 := .un) zl zm ((List.range 6).map fun i => .int (i : Nat)) T0 .un .un b5 h0 (by simp [T0])
  have z1 : T1.length = 27 := by rw [z1]; simp [T0]
  obtain ⟨T2, s9, s10, s11, s12, e7, h2, z2⟩ := side_ok (l := l) (m := m) (e := e) (i := 0) (x0 := .un) (s6 := s6) (s7 := s7) (s9 := .un) (s10 := .un) (s11 := .un) (s12 := .un) zl zm T1 b6 h1 (by omega)
  obtain ⟨T3, s9', s10', s11', s12', e8, h3, z3⟩ := side_ok (l := l) (m := m) (e := e) (i := 1) (x0 := .un) (s6 := s6) (s7 := s7) (s9 := s9) (s10 := s10) (s11 := s11) (s12 := s12) zl zm T2 b6 h2 (by omega)
  let T4 : List D := T3 ++ [.tup [.bl true, .tup [.int 0]], .tup [.int 2, .tup [.int 0]], .tup [.int (-1), .tup [.int 0]], .tup [.non, .tup [.int 0]], .lst [.int 0, .tup [.int 0]], .tup [.int 0, .tup [.int 0], .tup []], .tup [.int 0], .tup [.str "0", .tup [.int 0]], .tup [.bl false, .tup [.int 0, .int 1]]]
  have h4 : AllSm T4 := by
    have i1 : Sm (.tup [.int 0]) := Sm.t1 (.int _)
    refine h3.app fun d hd => ?_
    simp only [List.mem_cons, List.not_mem_nil, or_false] at hd
    rcases hd with rfl | rfl | rfl | rfl | rfl | rfl | rfl | rfl | rfl
    · exact Sm.t2 (.bl _) i1
    · exact Sm.t2 (.int _) i1
    · exact Sm.t2 (.int _) i1
    · exact Sm.t2 .non i1
    · exact .lst (Sm.t2 (.int 0) i1).mem (by simp)
    · exact .tup (by
        intro d hd
        simp at hd
        rcases hd with rfl | rfl | rfl
        · exact .int _
        · exact i1
        · exact Sm.t0) (by simp)
    · exact i1
    · exact Sm.t2 (.str _) i1
    · exact Sm.t2 (.bl _) (Sm.t2 (.int _) (.int _))
  obtain ⟨s12f, e9⟩ := ask_loop (x0 := .un) (x1 := .va .bag) (s5 := .va (.lst T4)) (s6 := s6) (s7 := s7) (s8 := .va (.int 1)) (s9 := s9') (s10 := s10') (s11 := s11') hA T4 s12' b6 h4
  refine ⟨b6, ?_⟩
  have z4 : T3.length ≤ 99991 := by omega
  unfold turnS at e6
  unfold sideS at e7 e8
  unfold askS at e9
  have e78 : ∀ (g : MG) (body : MS) (env env1 env2 env3 env4 : Ev) (b : Bag) (d1 d2 : D), g d1 env = some env1 → body env1 b = .nx env2 b → g d2 env2 = some env3 → body env3 b = .nx env4 b → forL g body [d1, d2] env b = .nx env4 b := fun g body env env1 env2 env3 env4 b d1 d2 a1 a2 a3 a4 => by
    simp [forL, a1, a2, a3, a4]
  have e78 := e78 (gNm 8) _ [.un, .va .bag, .va (encL l), .va (encL m), .va (.int e), .va (.lst T1), s6, s7, .un, .un, .un, .un, .un] _ _ _ _ b6 (.int 0) (.int 1) rfl e7 rfl e8
  clear e7 e8
  simp only [T4] at e9
  simp only [T0] at e6
  by_cases hk : k = 3
  · rw [if_pos hk] at e3
    simp [ms_law, List.replicate, e1, e2, hk, e3, e4, e5, e6, e78, z4, e9]
  · rw [if_neg hk] at e3
    simp [ms_law, List.replicate, e1, e2, hk, e3, e4, e5, e6, e78, z4, e9]

end Mr
open PySem PySem.W
set_option maxHeartbeats 0 in
theorem PySem.Challenge.cw_mapwebs_k46_whole_pairings_and_bans_judg_holds : PySem.Challenge.rw_mapwebs_k46_whole_pairings_and_bans_judg.Holds := by
  w_on; o_law; k_head; (case hw => w_witness2)
  k_fill
  refine L2.walk_of (l := PySem.Challenge.rw_mapwebs_k46_whole_pairings_and_bans_judg) (n := 63) (k := 7) (x := "_law_script") (CX := fun _ => L2.CX0) (sp := fun w => Mr.spLaw _) rfl (by decide) rfl ⟨rfl, by decide, by decide⟩ (fun w h Y => PySem.W.kIn_of Y) ?F (fun _ _ a ns hl _ hS => ⟨a, ns, rfl, hS, hl, fun _ => rfl⟩) (fun _ _ _ _ _ h => h)
  case F =>
    intro w mg fa h KX G hmg
    refine' Mr.all_ok KX G hmg ?a_law ?l_law ?c_law ?k_law (Mr.defAt_mk KX G (x := "_law_bag") (st := Mr.s__law_bag) (ps := ["_law_script"]) ?a__law_bag ?l__law_bag ?c__law_bag ?k__law_bag (fun _ _ _ _ _ _ us hl => match us, hl with | [_], _ => rfl)) (Mr.defAt_mk KX G (x := "_law_pick") (st := Mr.s__law_pick) (ps := ["_law_bag_here", "_law_many"]) ?a__law_pick ?l__law_pick ?c__law_pick ?k__law_pick (fun _ _ _ _ _ _ us hl => match us, hl with | [_, _], _ => rfl)) (Mr.defAt_mk KX G (x := "_law_some") (st := Mr.s__law_some) (ps := ["_law_bag_here", "_law_things"]) ?a__law_some ?l__law_some ?c__law_some ?k__law_some (fun _ _ _ _ _ _ us hl => match us, hl with | [_, _], _ => rfl)) (Mr.defAt_mk KX G (x := "_law_bar") (st := Mr.s__law_bar) (ps := ["_law_bag_here", "_law_wide"]) ?a__law_bar ?l__law_bar ?c__law_bar ?k__law_bar (fun _ _ _ _ _ _ us hl => match us, hl with | [_, _], _ => rfl)) (Mr.defAt_mk KX G (x := "_law_moved") (st := Mr.s__law_moved) (ps := ["_law_bag_here", "_law_bar_here", "_law_wide"]) ?a__law_moved ?l__law_moved ?c__law_moved ?k__law_moved (fun _ _ _ _ _ _ us hl => match us, hl with | [_, _, _], _ => rfl)) (Mr.defAt_mk KX G (x := "_law_lists") (st := Mr.s__law_lists) (ps := ["_law_bag_here", "_law_wide", "_law_most"]) ?a__law_lists ?l__law_lists ?c__law_lists ?k__law_lists (fun _ _ _ _ _ _ us hl => match us, hl with | [_, _, _], _ => rfl)) (Mr.defAt_mk KX G (x := "_law_deep") (st := Mr.s__law_deep) (ps := ["_law_bag_here"]) ?a__law_deep ?l__law_deep ?c__law_deep ?k__law_deep (fun _ _ _ _ _ _ us hl => match us, hl with | [_], _ => rfl)) (Mr.defAt_mk KX G (x := "_law_fits") (st := Mr.s__law_fits) (ps := ["_law_bar", "_law_other", "_law_e"]) ?a__law_fits ?l__law_fits ?c__law_fits ?k__law_fits (fun _ _ _ _ _ _ us hl => match us, hl with | [_, _, _], _ => rfl)) (Mr.defAt_mk KX G (x := "_law_drawn") (st := Mr.s__law_drawn) (ps := ["_law_bag_here", "_law_one", "_law_other", "_law_e"]) ?a__law_drawn ?l__law_drawn ?c__law_drawn ?k__law_drawn (fun _ _ _ _ _ _ us hl => match us, hl with | [_, _, _, _], _ => rfl)) (Mr.defAt_mk KX G (x := "_law_is_flag") (st := Mr.s__law_is_flag) (ps := ["_law_told", "_law_due"]) ?a__law_is_flag ?l__law_is_flag ?c__law_is_flag ?k__law_is_flag (fun _ _ _ _ _ _ us hl => match us, hl with | [_, _], _ => rfl)) (Mr.defAt_mk KX G (x := "_law_bent") (st := Mr.s__law_bent) (ps := ["_law_bag_here", "_law_pairs", "_law_many", "_law_more"]) ?a__law_bent ?l__law_bent ?c__law_bent ?k__law_bent (fun _ _ _ _ _ _ us hl => match us, hl with | [_, _, _, _], _ => rfl)) (Mr.defAt_mk KX G (x := "is_integer") (st := Mr.s_is_integer) (ps := ["thing"]) ?a_is_integer ?l_is_integer ?c_is_integer ?k_is_integer (fun _ _ _ _ _ _ us hl => match us, hl with | [_], _ => rfl)) (Mr.defAt_mk KX G (x := "is_within") (st := Mr.s_is_within) (ps := ["thing", "least", "most"]) ?a_is_within ?l_is_within ?c_is_within ?k_is_within (fun _ _ _ _ _ _ us hl => match us, hl with | [_, _, _], _ => rfl)) (Mr.defAt_mk KX G (x := "is_bar") (st := Mr.s_is_bar) (ps := ["thing"]) ?a_is_bar ?l_is_bar ?c_is_bar ?k_is_bar (fun _ _ _ _ _ _ us hl => match us, hl with | [_], _ => rfl)) (Mr.defAt_mk KX G (x := "check_bars") (st := Mr.s_check_bars) (ps := ["thing"]) ?a_check_bars ?l_check_bars ?c_check_bars ?k_check_bars (fun _ _ _ _ _ _ us hl => match us, hl with | [_], _ => rfl)) (Mr.defAt_mk KX G (x := "check_within") (st := Mr.s_check_within) (ps := ["thing", "least", "most"]) ?a_check_within ?l_check_within ?c_check_within ?k_check_within (fun _ _ _ _ _ _ us hl => match us, hl with | [_, _, _], _ => rfl)) (Mr.defAt_mk KX G (x := "check_asked") (st := Mr.s_check_asked) (ps := ["one", "other", "e"]) ?a_check_asked ?l_check_asked ?c_check_asked ?k_check_asked (fun _ _ _ _ _ _ us hl => match us, hl with | [_, _, _], _ => rfl)) (Mr.defAt_mk KX G (x := "is_long") (st := Mr.s_is_long) (ps := ["bar", "e"]) ?a_is_long ?l_is_long ?c_is_long ?k_is_long (fun _ _ _ _ _ _ us hl => match us, hl with | [_, _], _ => rfl)) (Mr.defAt_mk KX G (x := "is_number") (st := Mr.s_is_number) (ps := ["thing", "most"]) ?a_is_number ?l_is_number ?c_is_number ?k_is_number (fun _ _ _ _ _ _ us hl => match us, hl with | [_, _], _ => rfl)) (Mr.defAt_mk KX G (x := "is_number_pair") (st := Mr.s_is_number_pair) (ps := ["thing", "many", "more"]) ?a_is_number_pair ?l_is_number_pair ?c_is_number_pair ?k_is_number_pair (fun _ _ _ _ _ _ us hl => match us, hl with | [_, _, _], _ => rfl)) (Mr.defAt_mk KX G (x := "do_fit") (st := Mr.s_do_fit) (ps := ["bar", "other", "e"]) ?a_do_fit ?l_do_fit ?c_do_fit ?k_do_fit (fun _ _ _ _ _ _ us hl => match us, hl with | [_, _, _], _ => rfl)) (Mr.defAt_mk KX G (x := "is_pairing") (st := Mr.s_is_pairing) (ps := ["one", "other", "e", "thing"]) ?a_is_pairing ?l_is_pairing ?c_is_pairing ?k_is_pairing (fun _ _ _ _ _ _ us hl => match us, hl with | [_, _, _, _], _ => rfl)) (Mr.defAt_mk KX G (x := "_law_is_long") (st := Mr.s__law_is_long) (ps := ["_law_bar", "_law_e"]) ?a__law_is_long ?l__law_is_long ?c__law_is_long ?k__law_is_long (fun _ _ _ _ _ _ us hl => match us, hl with | [_, _], _ => rfl)) (Mr.defAt_mk KX G (x := "_law_is_number") (st := Mr.s__law_is_number) (ps := ["_law_thing", "_law_below"]) ?a__law_is_number ?l__law_is_number ?c__law_is_number ?k__law_is_number (fun _ _ _ _ _ _ us hl => match us, hl with | [_, _], _ => rfl)) (Mr.defAt_mk KX G (x := "_law_is_pairing") (st := Mr.s__law_is_pairing) (ps := ["_law_one", "_law_other", "_law_e", "_law_thing"]) ?a__law_is_pairing ?l__law_is_pairing ?c__law_is_pairing ?k__law_is_pairing (fun _ _ _ _ _ _ us hl => match us, hl with | [_, _, _, _], _ => rfl)) (Mr.defAt_mk KX G (x := "is_lot") (st := Mr.s_is_lot) (ps := ["thing", "many"]) ?a_is_lot ?l_is_lot ?c_is_lot ?k_is_lot (fun _ _ _ _ _ _ us hl => match us, hl with | [_, _], _ => rfl)) (Mr.defAt_mk KX G (x := "is_ban") (st := Mr.s_is_ban) (ps := ["one", "other", "e", "thing"]) ?a_is_ban ?l_is_ban ?c_is_ban ?k_is_ban (fun _ _ _ _ _ _ us hl => match us, hl with | [_, _, _, _], _ => rfl)) (Mr.defAt_mk KX G (x := "_law_is_ban") (st := Mr.s__law_is_ban) (ps := ["_law_one", "_law_other", "_law_e", "_law_thing"]) ?a__law_is_ban ?l__law_is_ban ?c__law_is_ban ?k__law_is_ban (fun _ _ _ _ _ _ us hl => match us, hl with | [_, _, _, _], _ => rfl)) (Mr.defAt_mk KX G (x := "_law_lots") (st := Mr.s__law_lots) (ps := ["_law_many"]) ?a__law_lots ?l__law_lots ?c__law_lots ?k__law_lots (fun _ _ _ _ _ _ us hl => match us, hl with | [_], _ => rfl)) ⟨PySem.W.mg_none_of KX G ?z_abs, PySem.W.mg_none_of KX G ?z_all, PySem.W.mg_none_of KX G ?z_any, PySem.W.mg_none_of KX G ?z_bool, PySem.W.mg_none_of KX G ?z_enumerate, PySem.W.mg_none_of KX G ?z_int, PySem.W.mg_none_of KX G ?z_isinstance, PySem.W.mg_none_of KX G ?z_len, PySem.W.mg_none_of KX G ?z_list, PySem.W.mg_none_of KX G ?z_max, PySem.W.mg_none_of KX G ?z_min, PySem.W.mg_none_of KX G ?z_range, PySem.W.mg_none_of KX G ?z_sorted, PySem.W.mg_none_of KX G ?z_tuple, Mr.cInt_mk KX G ?z_FARTHEST, Mr.cInt_mk KX G ?z_MOST_BARS, Mr.cInt_mk KX G ?z_MOST_DISTANCE⟩ Mr.says_law
    (case a_law => k_is); (case l_law => k_is); (case c_law => k_is); (case k_law => k_is)
    (case a__law_bag => k_is); (case l__law_bag => k_is); (case c__law_bag => k_is); (case k__law_bag => k_is)
    (case a__law_pick => k_is); (case l__law_pick => k_is); (case c__law_pick => k_is); (case k__law_pick => k_is)
    (case a__law_some => k_is); (case l__law_some => k_is); (case c__law_some => k_is); (case k__law_some => k_is)
    (case a__law_bar => k_is); (case l__law_bar => k_is); (case c__law_bar => k_is); (case k__law_bar => k_is)
    (case a__law_moved => k_is); (case l__law_moved => k_is); (case c__law_moved => k_is); (case k__law_moved => k_is)
    (case a__law_lists => k_is); (case l__law_lists => k_is); (case c__law_lists => k_is); (case k__law_lists => k_is)
    (case a__law_deep => k_is); (case l__law_deep => k_is); (case c__law_deep => k_is); (case k__law_deep => k_is)
    (case a__law_fits => k_is); (case l__law_fits => k_is); (case c__law_fits => k_is); (case k__law_fits => k_is)
    (case a__law_drawn => k_is); (case l__law_drawn => k_is); (case c__law_drawn => k_is); (case k__law_drawn => k_is)
    (case a__law_is_flag => k_is); (case l__law_is_flag => k_is); (case c__law_is_flag => k_is); (case k__law_is_flag => k_is)
    (case a__law_bent => k_is); (case l__law_bent => k_is); (case c__law_bent => k_is); (case k__law_bent => k_is)
    (case a_is_integer => k_is); (case l_is_integer => k_is); (case c_is_integer => k_is); (case k_is_integer => k_is)
    (case a_is_within => k_is); (case l_is_within => k_is); (case c_is_within => k_is); (case k_is_within => k_is)
    (case a_is_bar => k_is); (case l_is_bar => k_is); (case c_is_bar => k_is); (case k_is_bar => k_is)
    (case a_check_bars => k_is); (case l_check_bars => k_is); (case c_check_bars => k_is); (case k_check_bars => k_is)
    (case a_check_within => k_is); (case l_check_within => k_is); (case c_check_within => k_is); (case k_check_within => k_is)
    (case a_check_asked => k_is); (case l_check_asked => k_is); (case c_check_asked => k_is); (case k_check_asked => k_is)
    (case a_is_long => k_is); (case l_is_long => k_is); (case c_is_long => k_is); (case k_is_long => k_is)
    (case a_is_number => k_is); (case l_is_number => k_is); (case c_is_number => k_is); (case k_is_number => k_is)
    (case a_is_number_pair => k_is); (case l_is_number_pair => k_is); (case c_is_number_pair => k_is); (case k_is_number_pair => k_is)
    (case a_do_fit => k_is); (case l_do_fit => k_is); (case c_do_fit => k_is); (case k_do_fit => k_is)
    (case a_is_pairing => k_is); (case l_is_pairing => k_is); (case c_is_pairing => k_is); (case k_is_pairing => k_is)
    (case a__law_is_long => k_is); (case l__law_is_long => k_is); (case c__law_is_long => k_is); (case k__law_is_long => k_is)
    (case a__law_is_number => k_is); (case l__law_is_number => k_is); (case c__law_is_number => k_is); (case k__law_is_number => k_is)
    (case a__law_is_pairing => k_is); (case l__law_is_pairing => k_is); (case c__law_is_pairing => k_is); (case k__law_is_pairing => k_is)
    (case a_is_lot => k_is); (case l_is_lot => k_is); (case c_is_lot => k_is); (case k_is_lot => k_is)
    (case a_is_ban => k_is); (case l_is_ban => k_is); (case c_is_ban => k_is); (case k_is_ban => k_is)
    (case a__law_is_ban => k_is); (case l__law_is_ban => k_is); (case c__law_is_ban => k_is); (case k__law_is_ban => k_is)
    (case a__law_lots => k_is); (case l__law_lots => k_is); (case c__law_lots => k_is); (case k__law_lots => k_is)
    (case z_abs => k_is)
    (case z_all => k_is)
    (case z_any => k_is)
    (case z_bool => k_is)
    (case z_enumerate => k_is)
    (case z_int => k_is)
    (case z_isinstance => k_is)
    (case z_len => k_is)
    (case z_list => k_is)
    (case z_max => k_is)
    (case z_min => k_is)
    (case z_range => k_is)
    (case z_sorted => k_is)
    (case z_tuple => k_is)
    (case z_FARTHEST => k_is)
    (case z_MOST_BARS => k_is)
    (case z_MOST_DISTANCE => k_is)
